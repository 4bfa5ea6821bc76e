import PyProof.Rows.All
import Wide.All
import OpenK.AllK
import Wide.FinOn
import PySem.Challenge.RW_xm0623_01
set_option Elab.async false
set_option maxRecDepth 100000
set_option maxHeartbeats 8000000
section
open PySem PySem.W PyProof.Rows
namespace Mine
theorem three {L V T G : Prop} (_ : L) (_ : V) (_ : T) (g : G) : G := g
theorem hk : ∃ L V T : Prop, (Unit → L) → (Unit → V) → (Unit → T) → PySem.Challenge.rw_xm0623_01.row.Holds := by
  apply Exists.intro
  apply Exists.intro
  apply Exists.intro
  intro h1 h2 h3
  refine @three (type_of% (h1 ())) (type_of% (h2 ())) (type_of% (h3 ())) _ ?hl ?hw ?hc ?m2
  exact h1 ()
  exact h2 ()
  exact h3 ()
  k_head

end Mine
end
section
open PySem PySem.W PyProof.Rows PySem.Calls
namespace Mine

/-- an object of the walk's own heap, as it is told -/
inductive AObj where
  | inst (C : Addr) (kv : List (Str × Value))
  | list (vs : List Value)
  | dict (es : List DictEntry)
  | cell (v : Option Value)
  | ns (m : Str → Option Value)
  | raw (o : Obj)
  | iter (l : Addr) (i : Nat)

abbrev HM := Addr → Option AObj

def upd (H : HM) (a : Addr) (x : AObj) : HM := fun b => if b = a then some x else H b
theorem upd_self {H : HM} {a : Addr} {x : AObj} : upd H a x a = some x := if_pos rfl
theorem upd_ne {H : HM} {a b : Addr} {x : AObj} (h : b ≠ a) : upd H a x b = H b := if_neg h

inductive KV : List DictEntry → List (Str × Value) → Prop
  | nil : KV [] []
  | cons {hs : Int} {n : Str} {t : Tok} {v : Value} {es : List DictEntry} {kv : List (Str × Value)} : KV es kv → KV (⟨hs, .str n t, v⟩ :: es) ((n, v) :: kv)

def kvGet (n : Str) : List (Str × Value) → Option Value
  | [] => none
  | (k, v) :: r => if k == n then some v else kvGet n r
def kvPut (n : Str) (v : Value) : List (Str × Value) → List (Str × Value)
  | [] => [(n, v)]
  | (k, x) :: r => if k == n then (k, v) :: r else (k, x) :: kvPut n v r

theorem KV.noRef {es : List DictEntry} {kv : List (Str × Value)} (h : KV es kv) : es.any (·.refKey) = false := by
  induction h with
  | nil => rfl
  | cons _ ih => rw [List.any_cons, ih]; rfl
theorem KV.find {es : List DictEntry} {kv : List (Str × Value)} (h : KV es kv) (n : Str) : (es.find? (·.key.isStr n)).map (·.val) = kvGet n kv := by
  induction h with
  | nil => rfl
  | @cons hs k t v es kv _ ih =>
    rw [List.find?_cons]
    show Option.map _ (match (k == n) with | true => _ | false => _) = if k == n then _ else _
    cases k == n with
    | true => rfl
    | false => exact ih
theorem KV.get {es : List DictEntry} {kv : List (Str × Value)} (h : KV es kv) (n : Str) : getL n es = some (kvGet n kv) := by
  have h1 := h.find n
  unfold getL
  cases q : es.find? (·.key.isStr n) with
  | some e => rw [q] at h1; rw [← h1]; rfl
  | none => rw [q] at h1; rw [← h1, h.noRef]; rfl
theorem KV.put {es : List DictEntry} {kv : List (Str × Value)} (h : KV es kv) (n : Str) (hs : Int) (t : Tok) (v : Value) : KV (putL n hs (.str n t) v es) (kvPut n v kv) := by
  induction h with
  | nil => exact .cons .nil
  | @cons hs' k t' v' es kv h' ih =>
    show KV (if k == n then _ else _) (if k == n then _ else _)
    cases k == n with
    | true => exact .cons h'
    | false => exact .cons ih
theorem KV.len {es : List DictEntry} {kv : List (Str × Value)} (h : KV es kv) : es.length = kv.length := by
  induction h with
  | nil => rfl
  | cons _ ih => simp [ih]

def Holds (h₀ h : Heap) (D : Addr → Addr) (a : Addr) : AObj → Prop
  | .inst C kv => h.get? a = some (instObj C (D a)) ∧ (∃ es n, h.get? (D a) = some (dictOf es n) ∧ KV es kv) ∧ h₀.get? (D a) = none
  | .list vs => ∃ n, h.get? a = some { cls := .type "list", data := .seq vs.toArray n }
  | .dict es => ∃ n, h.get? a = some (dictOf es n)
  | .cell v => ∃ o, h.get? a = some o ∧ o.data = .cell v
  | .ns m => h.Ns a m ∧ h₀.objs.size ≤ a
  | .raw o => h.get? a = some o
  | .iter l i => h.IsListIter a l i

structure RepD (h₀ : Heap) (H : HM) (h : Heap) (D : Addr → Addr) : Prop where
  keep : ∀ b o, h₀.get? b = some o → h.get? b = some o
  fresh : ∀ a x, H a = some x → h₀.get? a = none
  at_ : ∀ a x, H a = some x → Holds h₀ h D a x
  off : ∀ a C kv, H a = some (.inst C kv) → H (D a) = none
  inj : ∀ a b C kv C' kv', H a = some (.inst C kv) → H b = some (.inst C' kv') → D a = D b → a = b
  frm : ∃ L m, H L = some (.ns m)

def Rep (h₀ : Heap) (H : HM) (h : Heap) : Prop := ∃ D, RepD h₀ H h D

def isInst : AObj → Bool
  | .inst .. => true
  | _ => false

theorem Holds.present {h₀ h : Heap} {D : Addr → Addr} {a : Addr} {x : AObj} (k : Holds h₀ h D a x) : ∃ o, h.get? a = some o := by
  cases x with
  | inst C kv => exact ⟨_, k.1⟩
  | list vs => exact let ⟨_, e⟩ := k; ⟨_, e⟩
  | dict es => exact let ⟨_, e⟩ := k; ⟨_, e⟩
  | cell v => exact let ⟨_, e, _⟩ := k; ⟨_, e⟩
  | ns m => exact let ⟨⟨_, _, _, e, _⟩, _⟩ := k; ⟨_, e⟩
  | raw o => exact ⟨_, k⟩
  | iter l i => exact let ⟨_, e, _⟩ := k; ⟨_, e⟩

/-- what is told of a stands where the real addresses that it speaks of are kept -/
theorem Holds.move {h₀ h h' : Heap} {D : Addr → Addr} {a : Addr} {x : AObj} (k : Holds h₀ h D a x) (h1 : ∀ o, h.get? a = some o → h'.get? a = some o)
    (h2 : isInst x = true → ∀ o, h.get? (D a) = some o → h'.get? (D a) = some o) : Holds h₀ h' D a x := by
  cases x with
  | inst C kv =>
    obtain ⟨a1, ⟨es, n, a2, a3⟩, a4⟩ := k
    exact ⟨h1 _ a1, ⟨es, n, h2 rfl _ a2, a3⟩, a4⟩
  | list vs => exact let ⟨n, e⟩ := k; ⟨n, h1 _ e⟩
  | dict es => exact let ⟨n, e⟩ := k; ⟨n, h1 _ e⟩
  | cell v => exact let ⟨o, e, d⟩ := k; ⟨o, h1 _ e, d⟩
  | ns m => exact let ⟨⟨o, es, ep, e, r⟩, l⟩ := k; ⟨⟨o, es, ep, h1 _ e, r⟩, l⟩
  | raw o => exact h1 _ k
  | iter l i => exact let ⟨o, e, r⟩ := k; ⟨o, h1 _ e, r⟩

theorem Holds.congrD {h₀ h : Heap} {D D' : Addr → Addr} {a : Addr} {x : AObj} (k : Holds h₀ h D a x) (e : D' a = D a) : Holds h₀ h D' a x := by
  cases x with
  | inst C kv => unfold Holds at *; rw [e]; exact k
  | _ => exact k

section
variable {h₀ h h' : Heap} {H : HM} {D : Addr → Addr} {a q : Addr} {x x' : AObj}

theorem RepD.lt (R : RepD h₀ H h D) (e : H a = some x) : a < h.objs.size := let ⟨_, k⟩ := (R.at_ a x e).present; Heap.lt_size k
theorem RepD.none_of (R : RepD h₀ H h D) (e : h.get? q = none) : H q = none := by
  cases k : H q with
  | none => rfl
  | some x => obtain ⟨o, ho⟩ := (R.at_ q x k).present; rw [e] at ho; cases ho
theorem RepD.Dne (R : RepD h₀ H h D) {C : Addr} {kv : List (Str × Value)} (e : H a = some (.inst C kv)) (e' : H q = some x) : D a ≠ q := fun z => by
  have := R.off a C kv e; rw [z, e'] at this; cases this

def del (H : HM) (a : Addr) : HM := fun b => if b = a then none else H b
theorem del_ne {b : Addr} (h : b ≠ a) : del H a b = H b := if_neg h
theorem del_self : del H a a = none := if_pos rfl
/-- what is told of a is let go -/
theorem RepD.del (R : RepD h₀ H h D) (ha : H a = some x) (hx : isInst x = false) (hns : (∀ m, x ≠ .ns m) ∨ ∃ L m, L ≠ a ∧ H L = some (.ns m)) (k : ∀ b o, b ≠ a → h.get? b = some o → h'.get? b = some o) : RepD h₀ (Mine.del H a) h' D := by
  refine ⟨fun b o e => k b o (fun z => by rw [z, R.fresh a x ha] at e; cases e) (R.keep b o e), fun b y e => ?_, fun b y e => ?_, fun b C kv e => ?_, fun b c C kv C' kv' e e' z => ?_, ?_⟩
  · by_cases hb : b = a
    · subst hb; rw [del_self] at e; cases e
    · rw [del_ne hb] at e; exact R.fresh b y e
  · by_cases hb : b = a
    · subst hb; rw [del_self] at e; cases e
    · rw [del_ne hb] at e
      refine (R.at_ b y e).move (fun o => k _ o hb) (fun hy o => k _ o ?_)
      cases y <;> first | exact R.Dne e ha | cases hy
  · by_cases hb : b = a
    · subst hb; rw [del_self] at e; cases e
    · rw [del_ne hb] at e
      rw [del_ne (R.Dne e ha)]; exact R.off b C kv e
  · by_cases hb : b = a
    · subst hb; rw [del_self] at e; cases e
    · by_cases hc : c = a
      · subst hc; rw [del_self] at e'; cases e'
      · rw [del_ne hb] at e; rw [del_ne hc] at e'; exact R.inj b c C kv C' kv' e e' z
  · rcases hns with hns | ⟨L, m, hL, e⟩
    · obtain ⟨L, m, e⟩ := R.frm
      refine ⟨L, m, ?_⟩
      rw [del_ne]; exact e
      intro z; rw [z, ha] at e; cases e; exact hns m rfl
    · exact ⟨L, m, by rw [del_ne hL]; exact e⟩

/-- nothing that is told of has been turned -/
theorem RepD.same (R : RepD h₀ H h D) (k : ∀ b o, h.get? b = some o → h'.get? b = some o) : RepD h₀ H h' D :=
  ⟨fun b o e => k b o (R.keep b o e), R.fresh, fun b y e => (R.at_ b y e).move (fun o => k _ o) (fun _ o => k _ o), R.off, R.inj, R.frm⟩

/-- one told object that is no object of a class is turned -/
theorem RepD.put (R : RepD h₀ H h D) (ha : H a = some x) (hx : isInst x = false) (hx' : isInst x' = false) (hns : (∃ m, x = .ns m) → ∃ m, x' = .ns m)
    (k : ∀ b o, b ≠ a → h.get? b = some o → h'.get? b = some o) (hh : Holds h₀ h' D a x') : RepD h₀ (upd H a x') h' D where
  keep b o e := k b o (fun z => by rw [z, R.fresh a x ha] at e; cases e) (R.keep b o e)
  fresh b y e := by
    by_cases hb : b = a
    · subst hb; exact R.fresh _ x ha
    · rw [upd_ne hb] at e; exact R.fresh b y e
  at_ b y e := by
    by_cases hb : b = a
    · subst hb; rw [upd_self] at e; cases e; exact hh
    · rw [upd_ne hb] at e
      refine (R.at_ b y e).move (fun o => k _ o hb) (fun hy o => k _ o ?_)
      cases y <;> first | exact R.Dne e ha | cases hy
  off b C kv e := by
    by_cases hb : b = a
    · subst hb; rw [upd_self] at e; cases e; cases hx'
    · rw [upd_ne hb] at e
      rw [upd_ne (R.Dne e ha)]; exact R.off b C kv e
  inj b c C kv C' kv' e e' z := by
    by_cases hb : b = a
    · subst hb; rw [upd_self] at e; cases e; cases hx'
    · by_cases hc : c = a
      · subst hc; rw [upd_self] at e'; cases e'; cases hx'
      · rw [upd_ne hb] at e; rw [upd_ne hc] at e'; exact R.inj b c C kv C' kv' e e' z
  frm := by
    obtain ⟨L, m, e⟩ := R.frm
    by_cases hL : L = a
    · subst hL; rw [ha] at e; cases e
      obtain ⟨m', rfl⟩ := hns ⟨m, rfl⟩
      exact ⟨L, m', upd_self⟩
    · exact ⟨L, m, by rw [upd_ne hL]; exact e⟩

/-- an object of a class's dict is turned -/
theorem RepD.putInst (R : RepD h₀ H h D) {C : Addr} {kv kv' : List (Str × Value)} (ha : H a = some (.inst C kv))
    (k : ∀ b o, b ≠ D a → h.get? b = some o → h'.get? b = some o) (hh : ∃ es n, h'.get? (D a) = some (dictOf es n) ∧ KV es kv') : RepD h₀ (upd H a (.inst C kv')) h' D where
  keep b o e := k b o (fun z => by rw [z, (R.at_ a _ ha).2.2] at e; cases e) (R.keep b o e)
  fresh b y e := by
    by_cases hb : b = a
    · subst hb; exact R.fresh _ _ ha
    · rw [upd_ne hb] at e; exact R.fresh b y e
  at_ b y e := by
    by_cases hb : b = a
    · subst hb; rw [upd_self] at e; cases e
      exact ⟨k _ _ (Ne.symm (R.Dne ha ha)) (R.at_ _ _ ha).1, hh, (R.at_ _ _ ha).2.2⟩
    · rw [upd_ne hb] at e
      refine (R.at_ b y e).move (fun o => k _ o (Ne.symm (R.Dne ha e))) (fun hy o => k _ o ?_)
      cases y <;> first | exact fun z => hb (R.inj _ _ _ _ _ _ e ha z) | cases hy
  off b C' kv'' e := by
    by_cases hb : b = a
    · subst hb; rw [upd_ne (R.Dne ha ha)]; exact R.off _ _ _ ha
    · rw [upd_ne hb] at e
      rw [upd_ne (R.Dne e ha)]; exact R.off b _ _ e
  inj b c C1 kv1 C2 kv2 e e' z := by
    have h1 : ∃ C kv, H b = some (.inst C kv) := by
      by_cases hb : b = a
      · exact ⟨_, _, hb ▸ ha⟩
      · rw [upd_ne hb] at e; exact ⟨_, _, e⟩
    have h2 : ∃ C kv, H c = some (.inst C kv) := by
      by_cases hb : c = a
      · exact ⟨_, _, hb ▸ ha⟩
      · rw [upd_ne hb] at e'; exact ⟨_, _, e'⟩
    obtain ⟨_, _, h1⟩ := h1
    obtain ⟨_, _, h2⟩ := h2
    exact R.inj b c _ _ _ _ h1 h2 z
  frm := by
    obtain ⟨L, m, e⟩ := R.frm
    exact ⟨L, m, by rw [upd_ne (fun z => by rw [z, ha] at e; cases e)]; exact e⟩

/-- a new object that is no object of a class -/
theorem RepD.new (R : RepD h₀ H h D) (hq : h.get? q = none) (hx : isInst x = false) (k : ∀ b o, h.get? b = some o → h'.get? b = some o) (h0 : h₀.get? q = none)
    (hD : ∀ b C kv, H b = some (.inst C kv) → D b ≠ q) (hh : Holds h₀ h' D q x) : RepD h₀ (upd H q x) h' D where
  keep b o e := k b o (R.keep b o e)
  fresh b y e := by
    by_cases hb : b = q
    · rw [hb]; exact h0
    · rw [upd_ne hb] at e; exact R.fresh b y e
  at_ b y e := by
    by_cases hb : b = q
    · subst hb; rw [upd_self] at e; cases e; exact hh
    · rw [upd_ne hb] at e
      exact (R.at_ b y e).move (fun o => k _ o) (fun _ o => k _ o)
  off b C kv e := by
    by_cases hb : b = q
    · subst hb; rw [upd_self] at e; cases e; cases hx
    · rw [upd_ne hb] at e
      rw [upd_ne (hD b C kv e)]; exact R.off b C kv e
  inj b c C kv C' kv' e e' z := by
    by_cases hb : b = q
    · subst hb; rw [upd_self] at e; cases e; cases hx
    · by_cases hc : c = q
      · subst hc; rw [upd_self] at e'; cases e'; cases hx
      · rw [upd_ne hb] at e; rw [upd_ne hc] at e'; exact R.inj b c C kv C' kv' e e' z
  frm := by
    obtain ⟨L, m, e⟩ := R.frm
    exact ⟨L, m, by rw [upd_ne (fun z => by rw [z, R.none_of hq] at e; cases e)]; exact e⟩

theorem RepD.Dpresent (R : RepD h₀ H h D) {b C : Addr} {kv : List (Str × Value)} (e : H b = some (.inst C kv)) : D b < h.objs.size := let ⟨_, _, k, _⟩ := (R.at_ b _ e).2.1; Heap.lt_size k

/-- a new object of a class -/
theorem RepD.newInst (R : RepD h₀ H h D) {y d C : Addr} {kv : List (Str × Value)} (hy : h.objs.size ≤ y) (hd : h.objs.size ≤ d) (hyd : d ≠ y) (k : ∀ b o, h.get? b = some o → h'.get? b = some o) (h0 : h₀.get? y = none) (h1 : h₀.get? d = none)
    (e1 : h'.get? y = some (instObj C d)) (e2 : ∃ es n, h'.get? d = some (dictOf es n) ∧ KV es kv) : RepD h₀ (upd H y (.inst C kv)) h' (fun b => if b = y then d else D b) := by
  have ny : H y = none := R.none_of (Heap.get?_none_of_le hy)
  have nd : H d = none := R.none_of (Heap.get?_none_of_le hd)
  have ne : ∀ b z, H b = some z → b ≠ y := fun b z e q => by rw [q, ny] at e; cases e
  have De : ∀ b, b ≠ y → (if b = y then d else D b) = D b := fun b hb => if_neg hb
  have Dy : (if y = y then d else D y) = d := if_pos rfl
  refine ⟨fun b o e => k b o (R.keep b o e), fun b z e => ?_, fun b z e => ?_, fun b C' kv' e => ?_, fun b c C1 kv1 C2 kv2 e e' z => ?_, ?_⟩
  · by_cases hb : b = y
    · rw [hb]; exact h0
    · rw [upd_ne hb] at e; exact R.fresh b z e
  · by_cases hb : b = y
    · subst hb; rw [upd_self] at e; cases e
      unfold Holds
      dsimp only
      rw [Dy]
      exact ⟨e1, e2, h1⟩
    · rw [upd_ne hb] at e
      exact ((R.at_ b z e).move (fun o => k _ o) (fun _ o => k _ o)).congrD (De b hb)
  · by_cases hb : b = y
    · subst hb; rw [Dy, upd_ne hyd]; exact nd
    · rw [upd_ne hb] at e
      rw [De b hb, upd_ne]
      · exact R.off b _ _ e
      · exact fun q => Nat.lt_irrefl _ (Nat.lt_of_lt_of_le (R.Dpresent e) (q ▸ hy))
  · by_cases hb : b = y
    · by_cases hc : c = y
      · rw [hb, hc]
      · subst hb
        rw [upd_ne hc] at e'
        rw [Dy, De c hc] at z
        exact absurd (R.Dpresent e') (Nat.not_lt.mpr (z ▸ hd))
    · by_cases hc : c = y
      · subst hc
        rw [upd_ne hb] at e
        rw [Dy, De b hb] at z
        exact absurd (R.Dpresent e) (Nat.not_lt.mpr (z.symm ▸ hd))
      · rw [upd_ne hb] at e; rw [upd_ne hc] at e'
        rw [De b hb, De c hc] at z
        exact R.inj b c _ _ _ _ e e' z
  · obtain ⟨L, m, e⟩ := R.frm
    exact ⟨L, m, by rw [upd_ne (ne L _ e)]; exact e⟩
end

/-- the whole ledger: all that stands in h, is not in the base, and is not L -/
def full (h₀ : Heap) (L : Addr) (h : Heap) : List (Addr × Obj) :=
  (List.range h.objs.size).filterMap fun a => if a = L ∨ (h₀.get? a).isSome = true then none else (h.get? a).map fun o => (a, o)
section
variable {h₀ h : Heap} {L : Addr}
theorem mem_full {a : Addr} {o : Obj} : (a, o) ∈ full h₀ L h ↔ h.get? a = some o ∧ a ≠ L ∧ h₀.get? a = none := by
  unfold full
  simp only [List.mem_filterMap, List.mem_range]
  constructor
  · rintro ⟨b, hb, e⟩
    split at e
    · cases e
    · rename_i hc
      cases q : h.get? b with
      | none => rw [q] at e; cases e
      | some o' =>
        rw [q] at e
        cases e
        refine ⟨q, fun z => hc (.inl z), ?_⟩
        cases q2 : h₀.get? a with
        | none => rfl
        | some _ => exact absurd (.inr (by rw [q2]; rfl)) hc
  · rintro ⟨e, hL, h0⟩
    refine ⟨a, Heap.lt_size e, ?_⟩
    rw [if_neg (by rintro (z | z); exact hL z; rw [h0] at z; cases z), e]; rfl
theorem full_news : News h₀ L h (full h₀ L h) := fun p hp => by
  obtain ⟨a, o⟩ := p
  exact mem_full.mp hp
theorem keys_sub {α : Type} {g : Addr → Option (Addr × α)} (hg : ∀ a p, g a = some p → p.1 = a) : ∀ l : List Addr, ((l.filterMap g).map (·.1)).Sublist l
  | [] => .slnil
  | a :: r => by
    rw [List.filterMap_cons]
    cases q : g a with
    | none => exact .cons _ (keys_sub hg r)
    | some p => rw [List.map_cons, hg a p q]; exact .cons_cons _ (keys_sub hg r)
theorem full_nodup : ((full h₀ L h).map (·.1)).Nodup := by
  refine List.Nodup.sublist (keys_sub (fun a p e => ?_) _) List.nodup_range
  split at e
  · cases e
  · cases q : h.get? a with
    | none => rw [q] at e; cases e
    | some o => rw [q] at e; cases e; rfl
def put1 (d : Addr) (o' : Obj) (l : List (Addr × Obj)) : List (Addr × Obj) := l.map fun p => if p.1 = d then (d, o') else p
theorem put1_none {d : Addr} {o' : Obj} : ∀ {l : List (Addr × Obj)}, (∀ p ∈ l, p.1 ≠ d) → put1 d o' l = l
  | [], _ => rfl
  | p :: r, h => by
    unfold put1
    rw [List.map_cons, if_neg (h p (.head _))]
    exact congrArg (p :: ·) (put1_none fun q hq => h q (.tail _ hq))
theorem upd_of_mem {d : Addr} {o o' : Obj} : ∀ {l : List (Addr × Obj)}, (d, o) ∈ l → (l.map (·.1)).Nodup → Upd d o o' l (put1 d o' l)
  | p :: r, hm, hn => by
    rw [List.map_cons, List.nodup_cons] at hn
    rcases List.mem_cons.mp hm with e | hm
    · subst e
      have h1 : ∀ p ∈ r, p.1 ≠ d := fun p hp e => hn.1 (e ▸ List.mem_map.mpr ⟨p, hp, rfl⟩)
      show Upd d o o' ((d, o) :: r) ((if d = d then (d, o') else (d, o)) :: put1 d o' r)
      rw [if_pos rfl, put1_none h1]
      exact .head h1
    · have h1 : p.1 ≠ d := fun e => hn.1 (e ▸ List.mem_map.mpr ⟨(d, o), hm, rfl⟩)
      show Upd d o o' (p :: r) ((if p.1 = d then (d, o') else p) :: put1 d o' r)
      rw [if_neg h1]
      exact .tail h1 (upd_of_mem hm hn.2)
theorem mem_put1_ne {d b : Addr} {o o' : Obj} {l : List (Addr × Obj)} (hm : (b, o) ∈ l) (hb : b ≠ d) : (b, o) ∈ put1 d o' l :=
  List.mem_map.mpr ⟨(b, o), hm, if_neg hb⟩
theorem mem_put1_self {d : Addr} {o o' : Obj} {l : List (Addr × Obj)} (hm : (d, o) ∈ l) : (d, o') ∈ put1 d o' l :=
  List.mem_map.mpr ⟨(d, o), hm, if_pos rfl⟩
end

section
variable {h₀ h h' : Heap} {H : HM} {D : Addr → Addr} {L : Addr} {m : Str → Option Value}
theorem RepD.fr (R : RepD h₀ H h D) (e : H L = some (.ns m)) : Fr h₀ L h m := let k := R.at_ L _ e; ⟨k.1, R.keep, k.2⟩
/-- a rule that keeps the ledger and the frame keeps all that is told -/
theorem RepD.kept (R : RepD h₀ H h D) (e : H L = some (.ns m)) (F : Fr h₀ L h' m) (N : News h₀ L h' (full h₀ L h)) : RepD h₀ H h' D := by
  have k : ∀ b o, b ≠ L → h.get? b = some o → h'.get? b = some o := fun b o hb eb => by
    cases q : h₀.get? b with
    | some o' => rw [R.keep b o' q] at eb; cases eb; exact F.keep b _ q
    | none => exact (N (b, o) (mem_full.mpr ⟨eb, hb, q⟩)).1
  refine ⟨F.keep, R.fresh, fun b y eb => ?_, R.off, R.inj, R.frm⟩
  by_cases hb : b = L
  · subst hb; rw [e] at eb; cases eb; exact ⟨F.ns, F.above⟩
  · refine (R.at_ b y eb).move (fun o => k _ o hb) (fun hy o => k _ o ?_)
    cases y <;> first | exact R.Dne eb e | cases hy
/-- a rule that turns one object of the ledger -/
theorem RepD.kept1 (R : RepD h₀ H h D) (e : H L = some (.ns m)) {d : Addr} {o o' : Obj} (hd : h.get? d = some o) (hd0 : h₀.get? d = none) (hL : d ≠ L) (F : Fr h₀ L h' m) (N : News h₀ L h' (put1 d o' (full h₀ L h))) :
    (∀ b o, b ≠ d → b ≠ L → h.get? b = some o → h'.get? b = some o) ∧ h'.get? d = some o' := by
  refine ⟨fun b x hb hbL eb => ?_, (N (d, o') (mem_put1_self (mem_full.mpr ⟨hd, hL, hd0⟩))).1⟩
  cases q : h₀.get? b with
  | some o' => rw [R.keep b o' q] at eb; cases eb; exact F.keep b _ q
  | none => exact (N (b, x) (mem_put1_ne (mem_full.mpr ⟨eb, hbL, q⟩) hb)).1

/-- all but d and the frame is kept, and the frame says what it said -/
structure Kp (H : HM) (L : Addr) (m : Str → Option Value) (h h' : Heap) (d : Addr) : Prop where
  frame : H L = some (.ns m)
  ns : h'.Ns L m
  rest : ∀ b o, b ≠ d → b ≠ L → h.get? b = some o → h'.get? b = some o

theorem RepD.hop (R : RepD h₀ H h D) (e : H L = some (.ns m)) (hn : h'.Ns L m) (k : ∀ b o, b ≠ L → h.get? b = some o → h'.get? b = some o) : RepD h₀ H h' D := by
  refine ⟨fun b o eb => k b o (fun z => by rw [z, R.fresh L _ e] at eb; cases eb) (R.keep b o eb), R.fresh, fun b y eb => ?_, R.off, R.inj, R.frm⟩
  by_cases hb : b = L
  · subst hb; rw [e] at eb; cases eb; exact ⟨hn, (R.at_ _ _ e).2⟩
  · refine (R.at_ b y eb).move (fun o => k _ o hb) (fun hy o => k _ o ?_)
    cases y <;> first | exact R.Dne eb e | cases hy

theorem RepD.putK {a : Addr} {x x' : AObj} (R : RepD h₀ H h D) (k : Kp H L m h h' a) (ha : H a = some x) (hx : isInst x = false) (hx' : isInst x' = false) (hns : ∀ m, x ≠ .ns m) (hh : Holds h₀ h' D a x') : RepD h₀ (upd H a x') h' D := by
  obtain ⟨kf, kn, kr⟩ := k
  have hLa : L ≠ a := fun z => by rw [z, ha] at kf; cases kf; exact hns m rfl
  refine ⟨fun b o e => kr b o (fun z => ?_) (fun z => ?_) (R.keep b o e), fun b y e => ?_, fun b y e => ?_, fun b C kv e => ?_, fun b c C kv C' kv' e e' z => ?_, ⟨L, m, by rw [upd_ne hLa]; exact kf⟩⟩
  · rw [z, R.fresh a x ha] at e; cases e
  · rw [z, R.fresh L _ kf] at e; cases e
  · by_cases hb : b = a
    · subst hb; exact R.fresh _ x ha
    · rw [upd_ne hb] at e; exact R.fresh b y e
  · by_cases hb : b = a
    · subst hb; rw [upd_self] at e; cases e; exact hh
    · rw [upd_ne hb] at e
      by_cases hl : b = L
      · subst hl; rw [kf] at e; cases e; exact ⟨kn, (R.at_ _ _ kf).2⟩
      · refine (R.at_ b y e).move (fun o => kr _ o hb hl) (fun hy o => kr _ o ?_ ?_)
        · cases y <;> first | exact R.Dne e ha | cases hy
        · cases y <;> first | exact R.Dne e kf | cases hy
  · by_cases hb : b = a
    · subst hb; rw [upd_self] at e; cases e; cases hx'
    · rw [upd_ne hb] at e
      rw [upd_ne (R.Dne e ha)]; exact R.off b C kv e
  · by_cases hb : b = a
    · subst hb; rw [upd_self] at e; cases e; cases hx'
    · by_cases hc : c = a
      · subst hc; rw [upd_self] at e'; cases e'; cases hx'
      · rw [upd_ne hb] at e; rw [upd_ne hc] at e'; exact R.inj b c C kv C' kv' e e' z

theorem RepD.putInstK {a C : Addr} {kv kv' : List (Str × Value)} (R : RepD h₀ H h D) (k : Kp H L m h h' (D a)) (ha : H a = some (.inst C kv)) (hh : ∃ es n, h'.get? (D a) = some (dictOf es n) ∧ KV es kv') : RepD h₀ (upd H a (.inst C kv')) h' D := by
  obtain ⟨kf, kn, kr⟩ := k
  have hLa : L ≠ a := fun z => by rw [z, ha] at kf; cases kf
  refine ⟨fun b o e => kr b o (fun z => ?_) (fun z => ?_) (R.keep b o e), fun b y e => ?_, fun b y e => ?_, fun b C' kv'' e => ?_, fun b c C1 kv1 C2 kv2 e e' z => ?_, ⟨L, m, by rw [upd_ne hLa]; exact kf⟩⟩
  · rw [z, (R.at_ a _ ha).2.2] at e; cases e
  · rw [z, R.fresh L _ kf] at e; cases e
  · by_cases hb : b = a
    · subst hb; exact R.fresh _ _ ha
    · rw [upd_ne hb] at e; exact R.fresh b y e
  · by_cases hb : b = a
    · subst hb; rw [upd_self] at e; cases e
      exact ⟨kr _ _ (Ne.symm (R.Dne ha ha)) (Ne.symm hLa) (R.at_ _ _ ha).1, hh, (R.at_ _ _ ha).2.2⟩
    · rw [upd_ne hb] at e
      by_cases hl : b = L
      · subst hl; rw [kf] at e; cases e; exact ⟨kn, (R.at_ _ _ kf).2⟩
      · refine (R.at_ b y e).move (fun o => kr _ o (Ne.symm (R.Dne ha e)) hl) (fun hy o => kr _ o ?_ ?_)
        · cases y <;> first | exact fun z => hb (R.inj _ _ _ _ _ _ e ha z) | cases hy
        · cases y <;> first | exact R.Dne e kf | cases hy
  · by_cases hb : b = a
    · subst hb; rw [upd_ne (R.Dne ha ha)]; exact R.off _ _ _ ha
    · rw [upd_ne hb] at e
      rw [upd_ne (R.Dne e ha)]; exact R.off b _ _ e
  · have h1 : ∃ C kv, H b = some (.inst C kv) := by
      by_cases hb : b = a
      · exact ⟨_, _, hb ▸ ha⟩
      · rw [upd_ne hb] at e; exact ⟨_, _, e⟩
    have h2 : ∃ C kv, H c = some (.inst C kv) := by
      by_cases hb : c = a
      · exact ⟨_, _, hb ▸ ha⟩
      · rw [upd_ne hb] at e'; exact ⟨_, _, e'⟩
    obtain ⟨_, _, h1⟩ := h1
    obtain ⟨_, _, h2⟩ := h2
    exact R.inj b c _ _ _ _ h1 h2 z

theorem RepD.kp1 (R : RepD h₀ H h D) (e : H L = some (.ns m)) {d : Addr} {o o' : Obj} (hd : h.get? d = some o) (hd0 : h₀.get? d = none) (hL : d ≠ L) (F : Fr h₀ L h' m) (N : News h₀ L h' (put1 d o' (full h₀ L h))) :
    Kp H L m h h' d ∧ h'.get? d = some o' :=
  let ⟨a, b⟩ := R.kept1 e hd hd0 hL F N
  ⟨⟨e, F.ns, a⟩, b⟩
theorem RepD.updFull (R : RepD h₀ H h D) (e : H L = some (.ns m)) {d : Addr} {o : Obj} (o' : Obj) (hd : h.get? d = some o) (hd0 : h₀.get? d = none) (hL : d ≠ L) : Upd d o o' (full h₀ L h) (put1 d o' (full h₀ L h)) :=
  upd_of_mem (mem_full.mpr ⟨hd, hL, hd0⟩) full_nodup
end
end Mine
end
section
open PySem PySem.W PyProof.Rows PySem.Calls
namespace Mine

/-- from a heap that is told as H the tree ends in Φ, without a raise -/
def WP (prog : Program) (w : World) (h₀ : Heap) (A : Around) {α : Type} (t : Sem α) (H : HM) (Φ : α → HM → Prop) : Prop :=
  ∀ (s : Shared) (Q : α → Shared → Prop) (E : Value → Shared → Prop), Rep h₀ H s.heap →
    (∀ a H' h' tk, Rep h₀ H' h' → Φ a H' → Q a { s with heap := h', toks := tk }) → wpAny (model prog w) A t Q E s
def WC (prog : Program) (w : World) (h₀ : Heap) (A : Around) (c : Code) (H : HM) (Φ : Flow → HM → Prop) : Prop :=
  ∀ (s : Shared) (R : Result → Shared → Prop), Rep h₀ H s.heap →
    (∀ f H' h' tk, Rep h₀ H' h' → Φ f H' → R (.ok f) { s with heap := h', toks := tk }) → codeAny (model prog w) A c R s

section
variable {prog : Program} {w : World} {h₀ : Heap} {A : Around} {α β : Type} {H : HM} {env : Env}

theorem WP.pure {a : α} {Φ : α → HM → Prop} (h : Φ a H) : WP prog w h₀ A (Pure.pure a) H Φ := fun s _ _ R k => wpAny_pure (k a H s.heap s.toks R h)
theorem WP.mono {t : Sem α} {Φ Ψ : α → HM → Prop} (h : WP prog w h₀ A t H Φ) (i : ∀ a H', Φ a H' → Ψ a H') : WP prog w h₀ A t H Ψ :=
  fun s Q E R k => h s Q E R fun a H' h' tk R' p => k a H' h' tk R' (i a H' p)
theorem WC.mono {c : Code} {Φ Ψ : Flow → HM → Prop} (h : WC prog w h₀ A c H Φ) (i : ∀ a H', Φ a H' → Ψ a H') : WC prog w h₀ A c H Ψ :=
  fun s Q R k => h s Q R fun a H' h' tk R' p => k a H' h' tk R' (i a H' p)
theorem WP.bind {m : Sem β} {f : β → Sem α} {Φ : α → HM → Prop} (h : WP prog w h₀ A m H fun b H' => WP prog w h₀ A (f b) H' Φ) : WP prog w h₀ A (m >>= f) H Φ :=
  fun s Q E R k => wpAny_bind (h s _ E R fun _ _ _ _ R' w => w _ _ _ R' k)
theorem WP.of_eq {t t' : Sem α} {Φ : α → HM → Prop} (e : t = t') (h : WP prog w h₀ A t' H Φ) : WP prog w h₀ A t H Φ := e ▸ h
theorem WP.holding {vs : List Value} {m : Sem α} {Φ : α → HM → Prop} (h : WP prog w h₀ A m H Φ) : WP prog w h₀ A (PySem.holding vs m) H Φ := fun s Q E R k => wpAny_holding (h s Q E R k)
theorem WP.at {pos : Pos} {Φ : Unit → HM → Prop} (h : Φ () H) : WP prog w h₀ A (standAt pos) H Φ := fun s _ _ R k => wpAny_standAt (k () H s.heap s.toks R h)
theorem WP.point {Φ : Unit → HM → Prop} (h : Φ () H) : WP prog w h₀ A point H Φ := fun s _ _ R k => wpAny_point (k () H s.heap s.toks R h)
theorem WP.operate {vs : List Value} {m : Sem Value} {Φ : Value → HM → Prop} (h : WP prog w h₀ A m H Φ) : WP prog w h₀ A (PySem.operate vs m) H Φ :=
  fun s Q E R k Γ p hΓ => by rw [Sem.wp_operate]; exact h s Q E R k Γ p hΓ
theorem WP.mkInt {i : Int} {Φ : Value → HM → Prop} (h : ∀ tk, Φ (.int i tk) H) : WP prog w h₀ A (PySem.mkInt i) H Φ := fun s _ _ R k => wpAny_mkInt (k _ H s.heap _ R (h _))

/-- what the state before says may be used -/
theorem WP.look {t : Sem α} {Φ : α → HM → Prop} (h : ∀ hp, Rep h₀ H hp → WP prog w h₀ A t H Φ) : WP prog w h₀ A t H Φ := fun s Q E R k => h s.heap R s Q E R k

theorem WP.call {f : Value} {args : List Value} {Φ : Value → HM → Prop} (h : WC prog w h₀ A (.call f ⟨args, []⟩) H fun fl H' => ∃ v, fl = .ret v ∧ Φ v H') : WP prog w h₀ A (PySem.call f args) H Φ :=
  fun s Q E R k => wpAny_call (h s _ R fun fl H' h' tk R' ⟨v, e, p⟩ => by subst e; exact k v H' h' tk R' p)

section -- constants and names
variable {Φ : Value → HM → Prop} {x : Str} {pos : Pos} {k : Nat}
theorem WP.cInt {i : Int} (h : ∀ tk, Φ (.int i tk) H) : WP prog w h₀ A (eval (.Constant (.int i) k pos) env) H Φ := fun s _ _ R kk => wpAny_Constant_int (kk _ H s.heap _ R (h _))
theorem WP.cNone (h : Φ .none H) : WP prog w h₀ A (eval (.Constant .none k pos) env) H Φ := fun s _ _ R kk => wpAny_Constant_none (kk _ H s.heap s.toks R h)
theorem WP.cBool {b : Bool} (h : Φ (.bool b) H) : WP prog w h₀ A (eval (.Constant (.bool b) k pos) env) H Φ := fun s _ _ R kk => wpAny_Constant_bool (kk _ H s.heap s.toks R h)
theorem WP.cStr {y : Str} (h : ∀ tk, Φ (.str y tk) H) : WP prog w h₀ A (eval (.Constant (.str y) k pos) env) H Φ := fun s _ _ R kk => Constant_str (kk _ H s.heap _ R (h _))

theorem Rep.ns {h : Heap} {L : Addr} {m : Str → Option Value} (R : Rep h₀ H h) (e : H L = some (.ns m)) : h.Ns L m := let ⟨_, r⟩ := R; (r.at_ L _ e).1
theorem Rep.cell {h : Heap} {c : Addr} {v : Option Value} (R : Rep h₀ H h) (e : H c = some (.cell v)) : h.IsCell c v := let ⟨_, r⟩ := R; r.at_ c _ e
theorem Rep.keep {h : Heap} (R : Rep h₀ H h) : ∀ b o, h₀.get? b = some o → h.get? b = some o := let ⟨_, r⟩ := R; r.keep

theorem WP.loadL {m : Str → Option Value} {v : Value} (hL : H env.locals = some (.ns m)) (hv : m x = some v) (h : Φ v H) (hk : env.scope.kind = .function := by rfl) (hx : env.kindOf x = some .local := by rfl) :
    WP prog w h₀ A (loadName env x) H Φ := fun s _ _ R kk => wpAny_loadName_local hk hx (R.ns hL) hv (kk v H s.heap s.toks R h)
theorem WP.loadC {c : Addr} {v : Value} (hc : env.cells.lookup x = some c) (hv : H c = some (.cell (some v))) (h : Φ v H) (hk : env.scope.kind = .function := by rfl) (hx : env.kindOf x = some .cell := by rfl) :
    WP prog w h₀ A (loadName env x) H Φ := fun s _ _ R kk => wpAny_loadName_cell hk hx hc (R.cell hv) (kk v H s.heap s.toks R h)
theorem WP.loadF {c : Addr} {v : Value} (hc : env.cells.lookup x = some c) (hv : H c = some (.cell (some v))) (h : Φ v H) (hk : env.scope.kind = .function := by rfl) (hx : env.kindOf x = some .free := by rfl)
    (hn : (x == ("__classdict__" : Str)) = false := by decide) : WP prog w h₀ A (loadName env x) H Φ := fun s _ _ R kk => wpAny_loadName_free hk hx hc (R.cell hv) (kk v H s.heap s.toks R h) hn
theorem WP.name (h : WP prog w h₀ A (loadName env x) H Φ) (hd : (x == ("__debug__" : Str)) = false := by decide) : WP prog w h₀ A (eval (.Name x pos) env) H Φ := fun s Q E R kk => wpAny_Name (h s Q E R kk) hd
theorem WP.loadG {K : Frag} {v : Value} (X : K.In h₀) (T : ∃ mg, h₀.Ns mainGlobals mg) (e : nsIn K mainGlobals x = some (some v)) (h : Φ v H) (hg : env.globals = mainGlobals := by rfl) (hk : env.scope.kind = .function := by rfl)
    (hx : env.kindOf x = some .globalImplicit := by rfl) : WP prog w h₀ A (loadName env x) H Φ := fun s _ _ R kk => by
  obtain ⟨mg, T⟩ := T
  unfold loadName
  simp only [Env.blockKind, hk, hx, ScopeKind.isAnnotationScope, Bool.false_and, Bool.false_eq_true, if_false]
  exact loadGlobal_global (by rw [hg]; exact T.keeps R.keep) (mg_of X T e) (kk v H s.heap s.toks R h)
theorem WP.loadB {K : Frag} {p : Program} {loose : List Str} {v : Value} (X : K.In h₀) (T : ∃ mg mb, TopRead p loose mg mb h₀) (e : nsIn K mainGlobals x = some none) (hv : bootBuiltins x = some v) (hn : x ≠ "__name__") (h : Φ v H)
    (hg : env.globals = mainGlobals := by rfl) (hb : env.builtins = builtinsNs := by rfl) (hk : env.scope.kind = .function := by rfl) (hx : env.kindOf x = some .globalImplicit := by rfl) : WP prog w h₀ A (loadName env x) H Φ := fun s _ _ R kk => by
  obtain ⟨mg, mb, T⟩ := T
  unfold loadName
  simp only [Env.blockKind, hk, hx, ScopeKind.isAnnotationScope, Bool.false_and, Bool.false_eq_true, if_false]
  exact loadGlobal_builtin (by rw [hg]; exact T.g.keeps R.keep) (mg_none_of X T.g e) (by rw [hb]; exact T.b.keeps R.keep) ((T.builtins x hn).trans hv) (kk v H s.heap s.toks R h)
end

section -- the operators
variable {Φ : Value → HM → Prop} {pos : Pos}
theorem WP.attr {e : Expr} {n : Str} (h : WP prog w h₀ A (eval e env) H fun o H' => WP prog w h₀ A (getAttr o n true) H' Φ)
    (he : eval (.Attribute e n pos) env = (do
      let o ← eval e env
      standAt pos.atName
      let r ← PySem.holding [o] (getAttr o n true)
      letTemporaryGo e o r
      Pure.pure r) := by with_unfolding_all rfl) : WP prog w h₀ A (eval (.Attribute e n pos) env) H Φ :=
  fun s Q E R k => Attribute_any_ (h s _ E R fun _ _ _ _ R' w => w _ _ _ R' k) he
theorem WP.binop {l r : Expr} {op : Operator} (h : WP prog w h₀ A (eval l env) H fun a H' => WP prog w h₀ A (eval r env) H' fun b H'' => WP prog w h₀ A (binaryOp op a b) H'' Φ) :
    WP prog w h₀ A (eval (.BinOp l op r pos) env) H Φ := fun s Q E R k => wpAny_BinOp (h s _ E R fun _ _ _ _ R' w => w _ _ _ R' fun _ _ _ _ R'' w' => w' _ _ _ R'' k)
theorem WP.cmp {l r : Expr} {op : CmpOp} (h : WP prog w h₀ A (eval l env) H fun a H' => WP prog w h₀ A (eval r env) H' fun b H'' => WP prog w h₀ A (compareOp op a b) H'' Φ)
    (hm : behindInMarks op r = false := by with_unfolding_all rfl) :
    WP prog w h₀ A (eval (.Compare l [op] [r] pos) env) H Φ := fun s Q E R k => wpAny_Compare1 (h s _ E R fun _ _ _ _ R' w => w _ _ _ R' fun _ _ _ _ R'' w' => w' _ _ _ R'' k) hm
theorem WP.ifExp {t b o : Expr} (h : WP prog w h₀ A (isTrue t env (eval t env)) H fun c H' => if c then WP prog w h₀ A (eval b env) H' Φ else WP prog w h₀ A (eval o env) H' Φ) :
    WP prog w h₀ A (eval (.IfExp t b o pos) env) H Φ := fun s Q E R k => wpAny_IfExp (h s _ E R fun c _ _ _ R' w => by cases c <;> exact w _ _ _ R' k)
theorem WP.sub {e i : Expr} (h : WP prog w h₀ A (eval e env) H fun o H' => WP prog w h₀ A (eval i env) H' fun iv H'' => WP prog w h₀ A (subscriptTail e i o iv) H'' Φ) :
    WP prog w h₀ A (eval (.Subscript e i pos) env) H Φ := fun s Q E R k => Subscript_ (h s _ E R fun _ _ _ _ R' w => w _ _ _ R' fun _ _ _ _ R'' w' => w' _ _ _ R'' k)
theorem WP.callN {f : Expr} {args : List Expr} (h : WP prog w h₀ A (eval f env) H fun fv H' => WP prog w h₀ A (callWith pos fv [] (backTo pos (starEach args env)) []) H' Φ)
    (he : eval (.Call f args [] pos) env = (do callWith pos (← eval f env) [] (backTo pos (starEach args env)) (backToKw pos (keywordEach [] env))) := by rfl) :
    WP prog w h₀ A (eval (.Call f args [] pos) env) H Φ := fun s Q E R k => Call_ (h s _ E R fun _ _ _ _ R' w => w _ _ _ R' k) he
theorem WP.callM {o : Expr} {name : Str} {apos : Pos} {args : List Expr} {pl : Sem Bool}
    (h : WP prog w h₀ A (eval o env) H fun ov H' => WP prog w h₀ A (getMethod ov name pl) H' fun fx H'' => WP prog w h₀ A (callWith pos fx.1 fx.2 (backTo pos (starEach args env)) []) H'' Φ)
    (he : eval (.Call (.Attribute o name apos) args [] pos) env = (do
      let ov ← eval o env
      standAt apos.atName
      let (f, first) ← PySem.holding [ov] (getMethod ov name pl)
      callWith pos f first (backTo pos (starEach args env)) []) := by rfl) :
    WP prog w h₀ A (eval (.Call (.Attribute o name apos) args [] pos) env) H Φ := fun s Q E R k => MethodCall_ (h s _ E R fun _ _ _ _ R' w => w _ _ _ R' fun _ _ _ _ R'' w' => w' _ _ _ R'' k) he
end

section -- arguments
variable {Φ : List Value → HM → Prop} {pos : Pos}
theorem WP.args0 (h : Φ [] H) : WP prog w h₀ A (spliced (backTo pos (starEach [] env))) H Φ := fun s _ _ R k => args_nil (k _ H s.heap s.toks R h)
theorem WP.args {e : Expr} {rest : List Expr} (h : WP prog w h₀ A (eval e env) H fun v H' => WP prog w h₀ A (spliced (backTo pos (starEach rest env))) H' fun vs H'' => Φ (v :: vs) H'')
    (he : starEach (e :: rest) env = (false, eval e env) :: starEach rest env := by rfl) : WP prog w h₀ A (spliced (backTo pos (starEach (e :: rest) env))) H Φ :=
  fun s Q E R k => args_cons (h s _ E R fun _ _ _ _ R' w => w _ _ _ R' fun _ _ _ _ R'' p => k _ _ _ _ R'' p) he
end

section -- statements
variable {Φ : Flow → HM → Prop} {pos : Pos}
theorem WP.nil (h : Φ .next H) : WP prog w h₀ A (execs [] env) H Φ := fun s _ _ R k => wpAny_execs_nil (k _ H s.heap s.toks R h)
theorem WP.cons {st : Stmt} {rest : List Stmt} (h : WP prog w h₀ A (exec st env) H fun f H' => match f with | .next => WP prog w h₀ A (execs rest env) H' Φ | f => Φ f H') :
    WP prog w h₀ A (execs (st :: rest) env) H Φ := fun s Q E R k => wpAny_execs_cons (h s _ E R fun f _ _ _ R' w => by cases f <;> first | exact w _ _ _ R' k | exact k _ _ _ _ R' w)
theorem WP.ret {e : Expr} (h : WP prog w h₀ A (eval e env) H fun v H' => Φ (.ret v) H') : WP prog w h₀ A (exec (.Return (some e) pos) env) H Φ :=
  fun s Q E R k => wpAny_Return_some (h s _ E R fun _ _ _ _ R' p => k _ _ _ _ R' p)
theorem WP.ret0 (h : Φ (.ret .none) H) : WP prog w h₀ A (exec (.Return none pos) env) H Φ := fun s _ _ R k => wpAny_Return_none (k _ H s.heap s.toks R h)
theorem WP.ifS {t : Expr} {b o : List Stmt} (h : WP prog w h₀ A (isTrue t env (eval t env)) H fun c H' => if c then WP prog w h₀ A (execs b env) H' Φ else WP prog w h₀ A (execs o env) H' Φ) :
    WP prog w h₀ A (exec (.If t b o pos) env) H Φ := fun s Q E R k => wpAny_If (h s _ E R fun c _ _ _ R' w => by cases c <;> exact w _ _ _ R' k)
theorem WP.expr {e : Expr} (h : WP prog w h₀ A (eval e env) H fun _ H' => Φ .next H') (hi : interactive env = false := by rfl) (hs : swapsWith e none pos.line env = Pure.pure false := by rfl) :
    WP prog w h₀ A (exec (.Expr e pos) env) H Φ := fun s Q E R k => wpAny_Expr_any (h s _ E R fun _ _ _ _ R' p => k _ _ _ _ R' p) hi hs
theorem WP.asgName {x : Str} {e : Expr} {p' : Pos} (h : WP prog w h₀ A (eval e env) H fun v H' => WP prog w h₀ A (storeName env x v) H' fun _ H'' => Φ .next H'')
    (hs : swapsWith e (some (.Name x p')) pos.line env = Pure.pure false := by rfl) : WP prog w h₀ A (exec (.Assign [.Name x p'] e pos) env) H Φ :=
  fun s Q E R k => wpAny_Assign_Name (h s _ E R fun _ _ _ _ R' w => w _ _ _ R' fun _ _ _ _ R'' p => k _ _ _ _ R'' p) hs
theorem WP.asgAttr {o e : Expr} {n : Str} {p' : Pos} (h : WP prog w h₀ A (eval e env) H fun v H' => WP prog w h₀ A (eval o env) H' fun ov H'' => WP prog w h₀ A (setAttr ov n v) H'' fun _ H3 => Φ .next H3)
    (hs : swapsWith e (some (.Attribute o n p')) pos.line env = Pure.pure false := by rfl) : WP prog w h₀ A (exec (.Assign [.Attribute o n p'] e pos) env) H Φ :=
  fun s Q E R k => plainObj_wpAny_Assign_Attribute (h s _ E R fun _ _ _ _ R' w => w _ _ _ R' fun _ _ _ _ R'' w' => w' _ _ _ R'' fun _ _ _ _ R3 p => k _ _ _ _ R3 p) hs
theorem WP.asgSub {o i e : Expr} {p' : Pos} (h : WP prog w h₀ A (eval e env) H fun v H' => WP prog w h₀ A (eval o env) H' fun ov H'' => WP prog w h₀ A (eval i env) H'' fun iv H3 => WP prog w h₀ A (setItem ov iv v) H3 fun _ H4 => Φ .next H4)
    (hs : swapsWith e (some (.Subscript o i p')) pos.line env = Pure.pure false := by rfl) : WP prog w h₀ A (exec (.Assign [.Subscript o i p'] e pos) env) H Φ :=
  fun s Q E R k => wpAny_Assign_Subscript (h s _ E R fun _ _ _ _ R' w => w _ _ _ R' fun _ _ _ _ R'' w' => w' _ _ _ R'' fun _ _ _ _ R3 w3 => w3 _ _ _ R3 fun _ _ _ _ R4 p => k _ _ _ _ R4 p) hs
theorem WP.asgTup {es : List Expr} {kk : Nat} {tp : Pos} {e : Expr} (h : WP prog w h₀ A (eval e env) H fun v H' => WP prog w h₀ A (assign (.Tuple es kk tp) env v) H' fun _ H'' => Φ .next H'')
    (hs : swapsWithSole [.Tuple es kk tp] e pos.line env = Pure.pure false := by rfl) (hw : swappedStores [.Tuple es kk tp] e env = Pure.pure none := by rfl) : WP prog w h₀ A (exec (.Assign [.Tuple es kk tp] e pos) env) H Φ :=
  fun s Q E R k => Assign_Tuple (h s _ E R fun _ _ _ _ R' w => w _ _ _ R' fun _ _ _ _ R'' p => k _ _ _ _ R'' p) hs hw
theorem WP.augName {x : Str} {p' : Pos} {op : Operator} {e : Expr} (h : WP prog w h₀ A (loadName env x) H fun old H' => WP prog w h₀ A (eval e env) H' fun v H'' => WP prog w h₀ A (inplaceOp op old v) H'' fun r H3 => WP prog w h₀ A (storeName env x r) H3 fun _ H4 => Φ .next H4) :
    WP prog w h₀ A (exec (.AugAssign (.Name x p') op e pos) env) H Φ :=
  fun s Q E R k => wpAny_AugAssign_Name (h s _ E R fun _ _ _ _ R' w => w _ _ _ R' fun _ _ _ _ R'' w' => w' _ _ _ R'' fun _ _ _ _ R3 w3 => w3 _ _ _ R3 fun _ _ _ _ R4 p => k _ _ _ _ R4 p)
theorem WP.augAttr {o e : Expr} {n : Str} {tp : Pos} {op : Operator} (h : WP prog w h₀ A (eval o env) H fun ov H1 => WP prog w h₀ A (getAttr ov n true) H1 fun old H2 => WP prog w h₀ A (eval e env) H2 fun v H3 => WP prog w h₀ A (inplaceOp op old v) H3 fun r H4 => WP prog w h₀ A (setAttr ov n r) H4 fun _ H5 => Φ .next H5) :
    WP prog w h₀ A (exec (.AugAssign (.Attribute o n tp) op e pos) env) H Φ :=
  fun s Q E R k => wpAny_AugAssign_AttributeAny (h s _ E R fun _ _ _ _ R' w => w _ _ _ R' fun _ _ _ _ R'' w' => w' _ _ _ R'' fun _ _ _ _ R3 w3 => w3 _ _ _ R3 fun _ _ _ _ R4 w4 => w4 _ _ _ R4 fun _ _ _ _ R5 p => k _ _ _ _ R5 p)
end

section -- tests
variable {Φ : Bool → HM → Prop} {pos : Pos}
theorem WP.tNot {x : Expr} {whole : Sem Value} (h : WP prog w h₀ A (isTrue x env (eval x env)) H fun c H' => Φ (!c) H') : WP prog w h₀ A (isTrue (.UnaryOp .Not x pos) env whole) H Φ :=
  fun s Q E R k => isTrue_not (h s _ E R fun _ _ _ _ R' p => k _ _ _ _ R' p)
theorem WP.tCmp {l r : Expr} {op : CmpOp} {whole : Sem Value} (h : WP prog w h₀ A (eval l env) H fun a H' => WP prog w h₀ A (eval r env) H' fun b H'' => WP prog w h₀ A (compareOp op a b) H'' fun c H3 => WP prog w h₀ A (truthy c) H3 Φ)
    (hm : behindInMarks op r = false := by with_unfolding_all rfl) : WP prog w h₀ A (isTrue (.Compare l [op] [r] pos) env whole) H Φ :=
  fun s Q E R k => wpAny_isTrue_Compare1 (h s _ E R fun _ _ _ _ R' w => w _ _ _ R' fun _ _ _ _ R'' w' => w' _ _ _ R'' fun _ _ _ _ R3 w3 => w3 _ _ _ R3 k) hm
theorem WP.tVal {e : Expr} {whole : Sem Value} (h : WP prog w h₀ A whole H fun v H' => WP prog w h₀ A (truthy v) H' Φ) (he : isTrue e env whole = (do let v ← whole; standAt e.pos; PySem.holding [v] (truthy v)) := by rfl) :
    WP prog w h₀ A (isTrue e env whole) H Φ := fun s Q E R k => isTrue_plain (h s _ E R fun _ _ _ _ R' w => w _ _ _ R' k) he
theorem WP.tBool {op : BoolOp} {vs : List Expr} {whole : Sem Value} (h : WP prog w h₀ A (allTrue op vs env) H Φ) : WP prog w h₀ A (isTrue (.BoolOp op vs pos) env whole) H Φ := fun s Q E R k => wpAny_isTrue_BoolOp (h s Q E R k)
theorem WP.and0 (h : Φ true H) : WP prog w h₀ A (allTrue .And [] env) H Φ := fun s _ _ R k => wpAny_allTrue_And_nil (k _ H s.heap s.toks R h)
theorem WP.or0 (h : Φ false H) : WP prog w h₀ A (allTrue .Or [] env) H Φ := fun s _ _ R k => wpAny_allTrue_Or_nil (k _ H s.heap s.toks R h)
theorem WP.and1 {x : Expr} {rest : List Expr} (h : WP prog w h₀ A (isTrue x env (eval x env)) H fun b H' => if b then WP prog w h₀ A (allTrue .And rest env) H' Φ else Φ false H') : WP prog w h₀ A (allTrue .And (x :: rest) env) H Φ :=
  fun s Q E R k => wpAny_allTrue_And_cons (h s _ E R fun c _ _ _ R' w => by cases c <;> first | exact w _ _ _ R' k | exact k _ _ _ _ R' w)
theorem WP.or1 {x : Expr} {rest : List Expr} (h : WP prog w h₀ A (isTrue x env (eval x env)) H fun b H' => if b then Φ true H' else WP prog w h₀ A (allTrue .Or rest env) H' Φ) : WP prog w h₀ A (allTrue .Or (x :: rest) env) H Φ :=
  fun s Q E R k => wpAny_allTrue_Or_cons (h s _ E R fun c _ _ _ R' w => by cases c <;> first | exact w _ _ _ R' k | exact k _ _ _ _ R' w)
theorem WP.truthB {b : Bool} (h : Φ b H) : WP prog w h₀ A (truthy (.bool b)) H Φ := fun s _ _ R k => wpAny_truthy_bool (k _ H s.heap s.toks R h)
end
end
end Mine
end
section
open PySem PySem.W PyProof.Rows PySem.Calls
namespace Mine

/-- what is known of the ground -/
structure Bs (K : Frag) (h₀ : Heap) : Prop where
  X : K.In h₀
  T : ∃ p loose mg mb, TopRead p loose mg mb h₀
  lim : h₀.NoLimit

theorem Bs.g {K : Frag} {h₀ : Heap} (B : Bs K h₀) : ∃ mg, h₀.Ns mainGlobals mg := let ⟨_, _, _, _, T⟩ := B.T; ⟨_, T.g⟩

/-- a class's attribute that objects of classes read from their own dict -/
def okGet (K : Frag) (C : Addr) (n : Str) : Bool := plainGet K C n && hasDictIn K C && (match findIn K (.ref C) n with | some attr => noGet K attr | none => false)
def okSet (K : Frag) (C : Addr) (n : Str) : Bool := findIn K (.ref C) "__setattr__" == some (some (.builtin "object.__setattr__")) && plainOver K C && takerIn K C n == some none && hasDictIn K C
def okMeth (K : Frag) (C : Addr) (n : Str) (f : Addr) : Bool := plainGet K C n && findIn K (.ref C) n == some (some (.ref f)) && isFn K (.ref f)
def okOwn (K : Frag) (C : Addr) (n : Str) : Bool := plainGet K C n && findIn K (.ref C) n == some none
def okBound (K : Frag) (C : Addr) (n : Str) (f : Addr) : Bool := okMeth K C n f && hasDictIn K C && specialIn K (.ref f) "__get__" == some (some (.builtin "function.__get__")) && takesIn K (.ref f) == some false && !copiedNames.contains n

section
variable {prog : Program} {w : World} {h₀ : Heap} {A : Around} {H : HM} {env : Env} {K : Frag} {a C : Addr} {kv : List (Str × Value)} {n : Str} {v : Value}

theorem Rep.inst {h : Heap} (R : Rep h₀ H h) (e : H a = some (.inst C kv)) : ∃ dx es k, InstAt h a (instObj C dx) C (some (dictOf es k)) ∧ KV es kv ∧ h₀.get? dx = none ∧ dx ≠ a ∧ h.get? dx = some (dictOf es k) := by
  obtain ⟨D, R⟩ := R
  obtain ⟨e1, ⟨es, k, e2, e3⟩, e4⟩ := R.at_ a _ e
  exact ⟨D a, es, k, ⟨e1, rfl, rfl, e2⟩, e3, e4, R.Dne e e, e2⟩
theorem Rep.list {h : Heap} {vs : List Value} (R : Rep h₀ H h) (e : H a = some (.list vs)) : ∃ n, h.get? a = some (listOf vs.toArray n) := let ⟨_, r⟩ := R; r.at_ a _ e
theorem Rep.isList {h : Heap} {vs : List Value} (R : Rep h₀ H h) (e : H a = some (.list vs)) : h.IsList a vs.toArray := let ⟨n, x⟩ := R.list e; ⟨_, x, rfl, n, rfl⟩
theorem Rep.raw {h : Heap} {o : Obj} (R : Rep h₀ H h) (e : H a = some (.raw o)) : h.get? a = some o := let ⟨_, r⟩ := R; r.at_ a _ e
theorem Rep.dict {h : Heap} {es : List DictEntry} (R : Rep h₀ H h) (e : H a = some (.dict es)) : ∃ n, h.get? a = some (dictOf es n) := let ⟨_, r⟩ := R; r.at_ a _ e

theorem WP.getI {expr : Bool} {Φ : Value → HM → Prop} (B : Bs K h₀) (ha : H a = some (.inst C kv)) (hv : kvGet n kv = some v) (hg : okGet K C n = true) (hd : handedIn v = true) (h : Φ v H) : WP prog w h₀ A (getAttr (.ref a) n expr) H Φ := fun s Q E R k => by
  obtain ⟨dx, es, kk, I, e3, _, _, _⟩ := R.inst ha
  unfold okGet at hg
  simp only [Bool.and_eq_true] at hg
  obtain ⟨⟨g1, g2⟩, g3⟩ := hg
  split at g3
  · rename_i attr hf
    exact get_value (B.X.keeps R.keep) I (plainGet_of g1).1 (findObj_own g2 hf g3 (by rw [lookIn_dict, e3.get, hv])) hd (k v H s.heap _ R h)
  · cases g3

theorem WP.meth {pl : Sem Bool} {f : Addr} {Φ : Value × List Value → HM → Prop} (B : Bs K h₀) (ha : H a = some (.inst C kv)) (hg : okMeth K C n f = true) (hv : kvGet n kv = none) (h : Φ (.ref f, [.ref a]) H) : WP prog w h₀ A (getMethod (.ref a) n pl) H Φ := fun s Q E R k => by
  obtain ⟨dx, es, kk, I, e3, _, _, _⟩ := R.inst ha
  unfold okMeth at hg
  simp only [Bool.and_eq_true, beq_iff_eq] at hg
  obtain ⟨⟨g1, g2⟩, g3⟩ := hg
  exact method_fn (B.X.keeps R.keep) I (plainGet_of g1).1 (plainGet_of g1).2 g2 (beq_iff_eq.mp g3) (by show (lookIn n (dictOf es kk)).map _ = _; rw [lookIn_dict, e3.get, hv]; rfl) (k _ H s.heap s.toks R h)

theorem WP.own {pl : Sem Bool} {Φ : Value × List Value → HM → Prop} (B : Bs K h₀) (ha : H a = some (.inst C kv)) (hv : kvGet n kv = some v) (ho : okOwn K C n = true) (hg : okGet K C n = true) (hd : handedIn v = true) (h : Φ (v, []) H) : WP prog w h₀ A (getMethod (.ref a) n pl) H Φ := fun s Q E R k => by
  obtain ⟨dx, es, kk, I, e3, _, _, _⟩ := R.inst ha
  unfold okOwn at ho
  simp only [Bool.and_eq_true, beq_iff_eq] at ho
  exact method_usual (B.X.keeps R.keep) I (plainGet_of ho.1).1 (plainGet_of ho.1).2 ho.2 rfl (WP.getI (expr := false) B ha hv hg hd (Φ := fun x H' => x = v ∧ H' = H) ⟨rfl, rfl⟩ s _ E R fun x H' h' tk R' ⟨e1, e2⟩ => by subst e1 e2; exact k _ _ _ _ R' h)

theorem WP.setI {Φ : Unit → HM → Prop} (B : Bs K h₀) (ha : H a = some (.inst C kv)) (hg : okSet K C n = true) (hz : kv.length ≤ 900) (h : Φ () (upd H a (.inst C (kvPut n v kv)))) : WP prog w h₀ A (setAttr (.ref a) n v) H Φ := fun s Q E R k => by
  obtain ⟨D, R⟩ := R
  obtain ⟨L, m, eL⟩ := R.frm
  obtain ⟨e1, ⟨es, kk, e2, e3⟩, e4⟩ := R.at_ a _ ha
  unfold okSet at hg
  simp only [Bool.and_eq_true, beq_iff_eq] at hg
  obtain ⟨⟨⟨g1, g2⟩, g3⟩, g4⟩ := hg
  have I : InstAt s.heap a (instObj C (D a)) C (some (dictOf es kk)) := ⟨e1, rfl, rfl, e2⟩
  have hLd : D a ≠ L := R.Dne ha eL
  have F := R.fr eL
  have e3' := e3.put n (PyData.keyHash w.params n) (s.toks + 1) v
  refine set_dict F B.X full_news I rfl g1 g2 g3 g4 (by rw [e3.get]; rfl) rfl (R.updFull eL _ e2 e4 hLd) ?_ fun h' F' N' => ?_
  · have l1 : ∀ (l : List (Str × Value)), (kvPut n v l).length ≤ l.length + 1 := by
      intro l
      induction l with
      | nil => exact Nat.le_refl _
      | cons p r ih =>
        obtain ⟨x, y⟩ := p
        unfold kvPut
        split <;> simp only [List.length_cons] <;> omega
    have := l1 kv
    rw [e3'.len]; omega
  · obtain ⟨kp, e5⟩ := R.kp1 eL e2 e4 hLd F' N'
    exact k () _ h' _ ⟨D, R.putInstK kp ha ⟨_, _, e5, e3'⟩⟩ h

theorem WP.bound {expr : Bool} {f : Addr} {Φ : Value → HM → Prop} (B : Bs K h₀) (ha : H a = some (.inst C kv)) (hg : okBound K C n f = true) (hv : kvGet n kv = none) (h : ∀ q, H q = none → Φ (.ref q) (upd H q (.raw (methodObj (.ref f) (.ref a))))) :
    WP prog w h₀ A (getAttr (.ref a) n expr) H Φ := fun s Q E R k => by
  obtain ⟨dx, es, kk, I, e3, _, _, _⟩ := R.inst ha
  obtain ⟨D, R⟩ := R
  unfold okBound okMeth at hg
  simp only [Bool.and_eq_true, beq_iff_eq, Bool.not_eq_true'] at hg
  obtain ⟨⟨⟨⟨⟨⟨g1, g2⟩, g3⟩, g4⟩, g5⟩, g6⟩, g7⟩ := hg
  have hq : s.heap.get? s.heap.objs.size = none := Heap.get?_none_of_le (Nat.le_refl _)
  refine get_bind (B.X.keeps R.keep) I (plainGet_of g1).1 (findObj_fn g4 g2 g5 g6 g7 (by show lookIn n (dictOf es kk) = _; rw [lookIn_dict, e3.get, hv])) (plainGet_of g1).2
    (wpAny_call (fn_get (s := { s with toks := s.toks + 1 }) (B.X.keeps R.keep) (beq_iff_eq.mp g3) (handed_on rfl ?_)))
  refine k _ _ _ _ ⟨D, R.new (x := .raw (methodObj (.ref f) (.ref a))) hq rfl (fun b o e => Heap.get?_push_of_some _ e) ?_ ?_ (Heap.get?_push_size _ rfl)⟩ (h _ (R.none_of hq))
  · cases q : h₀.get? s.heap.objs.size with
    | none => rfl
    | some o => rw [R.keep _ _ q] at hq; cases hq
  · exact fun b C' kv' e z => absurd (R.Dpresent e) (by rw [z]; exact Nat.lt_irrefl _)

theorem RepD.fresh0 {h : Heap} {D : Addr → Addr} (R : RepD h₀ H h D) {q : Addr} (hq : h.objs.size ≤ q) : h₀.get? q = none := by
  cases e : h₀.get? q with
  | none => rfl
  | some o => exact absurd (Heap.lt_size (R.keep _ _ e)) (Nat.not_lt.mpr hq)
/-- a new object stands at the heap's end -/
theorem RepD.push {h : Heap} {D : Addr → Addr} (R : RepD h₀ H h D) {o : Obj} {x : AObj} (hx : isInst x = false) (hh : Holds h₀ (h.push o) D h.objs.size x) : RepD h₀ (upd H h.objs.size x) (h.push o) D :=
  R.new (Heap.get?_none_of_le (Nat.le_refl _)) hx (fun b o e => Heap.get?_push_of_some _ e) (R.fresh0 (Nat.le_refl _)) (fun b C kv e z => absurd (R.Dpresent e) (by rw [z]; exact Nat.lt_irrefl _)) hh

theorem WP.newList {vs : List Value} {Φ : Value → HM → Prop} (h : ∀ q, H q = none → Φ (.ref q) (upd H q (.list vs))) (hz : vs.length ≤ 100000 := by simp) : WP prog w h₀ A (PySem.newList vs) H Φ := fun s Q E R k => by
  obtain ⟨D, R⟩ := R
  refine wpAny_newList ?_ (by rw [sizeLine_eq]; omega)
  exact k _ _ _ _ ⟨D, R.push (x := .list vs) rfl ⟨0, Heap.get?_push_size _ rfl⟩⟩ (h _ (R.none_of (Heap.get?_none_of_le (Nat.le_refl _))))
abbrev tupO (vs : List Value) : Obj := { cls := .type "tuple", data := .seq vs.toArray }
theorem WP.newTuple {vs : List Value} {Φ : Value → HM → Prop} (h : ∀ q, H q = none → Φ (.ref q) (upd H q (.raw (tupO vs)))) (hz : vs.length ≤ 100000 := by simp) : WP prog w h₀ A (PySem.newTuple vs) H Φ := fun s Q E R k => by
  obtain ⟨D, R⟩ := R
  refine wpAny_newTuple ?_ (by rw [sizeLine_eq]; omega)
  exact k _ _ _ _ ⟨D, R.push (x := .raw (tupO vs)) rfl (Heap.get?_push_size _ rfl)⟩ (h _ (R.none_of (Heap.get?_none_of_le (Nat.le_refl _))))
theorem WP.eList {es : List Expr} {pos : Pos} {Φ : Value → HM → Prop} (h : WP prog w h₀ A (spliced (backTo pos (starEach es env))) H fun vs H' => WP prog w h₀ A (PySem.newList vs) H' Φ) : WP prog w h₀ A (eval (.List es pos) env) H Φ :=
  fun s Q E R k => List_ (h s _ E R fun _ _ _ _ R' w => w _ _ _ R' k)
theorem WP.eTuple {es : List Expr} {kk : Nat} {pos : Pos} {Φ : Value → HM → Prop} (h : WP prog w h₀ A (spliced (backTo pos (starEach es env))) H fun vs H' => WP prog w h₀ A (PySem.newTuple vs) H' Φ) : WP prog w h₀ A (eval (.Tuple es kk pos) env) H Φ :=
  fun s Q E R k => Tuple_ (h s _ E R fun _ _ _ _ R' w => w _ _ _ R' k)

-- stores into names
theorem WP.stL {x : Str} {m : Str → Option Value} {Φ : Unit → HM → Prop} (hL : H env.locals = some (.ns m)) (h : Φ () (upd H env.locals (.ns fun y => if y = x then some v else m y))) (hx : env.kindOf x = some .local := by rfl)
    (hp : (env.scope.kind == .class || (env.scope.kind == .module && env.locals != env.globals)) = false := by rfl) : WP prog w h₀ A (storeName env x v) H Φ := fun s Q E R k => by
  obtain ⟨D, R⟩ := R
  have e := R.at_ _ _ hL
  exact wpAny_storeName_local hx e.1 (fun h' hn hs => k () _ h' _ ⟨D, R.put hL rfl rfl (fun _ => ⟨_, rfl⟩) (fun b o hb eb => (hs.2 b hb).trans eb) ⟨hn, e.2⟩⟩ h) hp
theorem WP.stC {x : Str} {c : Addr} {v₀ : Option Value} {Φ : Unit → HM → Prop} (hc : env.cells.lookup x = some c) (hv : H c = some (.cell v₀)) (h : Φ () (upd H c (.cell (some v)))) (hk : env.scope.kind = .function := by rfl) (hx : env.kindOf x = some .cell := by rfl) :
    WP prog w h₀ A (storeName env x v) H Φ := fun s Q E R k => by
  obtain ⟨D, R⟩ := R
  refine wpAny_storeName_cell hk hx hc (R.at_ _ _ hv) fun h' hn hs => ?_
  exact k () _ h' s.toks ⟨D, R.put (x' := .cell (some v)) hv rfl rfl (fun ⟨_, e⟩ => by cases e) (fun b o hb eb => (hs.2 b hb).trans eb) hn⟩ h
theorem WP.aName {x : Str} {pos : Pos} {Φ : Unit → HM → Prop} (h : WP prog w h₀ A (storeName env x v) H Φ) : WP prog w h₀ A (assign (.Name x pos) env v) H Φ := fun s Q E R k => wpAny_assign_Name (h s Q E R k)
end
end Mine
end
section
open PySem PySem.W PyProof.Rows PySem.Calls
namespace Mine

/-- room: n frames deep at most, no exception in hand -/
structure Ok (A : Around) (n : Nat) : Prop where
  hh : A.handled = none
  dep : A.depth ≤ n
  un : A.units ≤ 4 * n + 4

theorem Ok.mono {A : Around} {n k : Nat} (o : Ok A n) (h : n ≤ k) : Ok A k := ⟨o.hh, Nat.le_trans o.dep h, by have := o.un; omega⟩
theorem Ok.deeper {A : Around} {n : Nat} (o : Ok A n) (env : Env) : Ok (A.deeper env) (n + 1) := ⟨o.hh, Nat.succ_le_succ o.dep, by have := o.un; show A.units + 3 ≤ _; omega⟩
theorem Ok.in1 {A : Around} {n : Nat} (o : Ok A n) : Ok A.in1 (n + 1) := ⟨o.hh, Nat.le_succ_of_le o.dep, by have := o.un; show A.units + 1 ≤ _; omega⟩
theorem Ok.make {A : Around} {n : Nat} (o : Ok A n) (C : Addr) (pos : List Value) (kw : List (Str × Value)) : Ok (A.under (.builtin "type.__call__" ⟨.ref C :: pos, kw⟩)) (n + 1) := by
  have h1 := o.dep
  have h2 := o.un
  refine ⟨o.hh, ?_, ?_⟩
  · show A.depth + Code.weight _ ≤ n + 1
    have : Code.weight (.builtin "type.__call__" ⟨.ref C :: pos, kw⟩) = 1 := by rfl
    omega
  · show A.units + Code.cUnits _ ≤ _
    have : Code.cUnits (.builtin "type.__call__" ⟨.ref C :: pos, kw⟩) = 1 := by rfl
    omega
theorem Ok.room {A : Around} {n : Nat} (o : Ok A n) (h : n < 1000) : A.depth < recursionLimit := Nat.lt_of_le_of_lt o.dep h
theorem Ok.units {A : Around} {n : Nat} (o : Ok A n) (h : n < 1000) : A.units < cLine := by have := o.un; unfold cLine; omega

section
variable {prog : Program} {w : World} {h₀ : Heap} {A : Around} {H : HM} {env : Env} {K : Frag} {v : Value} {n : Nat}

theorem RepD.above {h : Heap} {D : Addr → Addr} (R : RepD h₀ H h D) : h₀.objs.size ≤ h.objs.size := by
  obtain ⟨L, m, e⟩ := R.frm
  obtain ⟨k, l⟩ := R.at_ L _ e
  exact Nat.le_of_lt (Nat.lt_of_le_of_lt l k.lt)

def retOf : Flow → Value
  | .ret v => v
  | _ => .none

/-- a function object, in the ground or told -/
theorem WC.fn {f : Addr} {oc ct dV kV doc pm cdv : Value} {od an : Option Addr} {osl : Array (Option Value)} {name qual : Str} {params : Arguments} {body : List Stmt} {scope : Scope} {cl : List (Str × Addr)} {args : List Value} {binds : List (Str × Value)}
    {Φ : Flow → HM → Prop} (B : Bs K h₀) (o : Ok A n) (hn : n < 900) (ho : ∀ h, Rep h₀ H h → h.get? f = some ⟨oc, od, .func (fnX name qual params body scope cl dV kV doc pm an cdv ct), osl⟩) (hcd : ∀ h, Rep h₀ H h → h.CodeRec cdv qual)
    (hbind : ∀ s, BindsTo s (fnX name qual params body scope cl dV kV doc pm an cdv ct) ⟨args, []⟩ binds) (hloc : ∀ y ∈ binds, scope.names.lookup y.1 = some .local)
    (h : ∀ L A', H L = none → Ok A' (n + 1) → WP prog w h₀ A' (execs body (envX qual scope L f cdv cl)) (upd H L (.ns fun y => binds.reverse.lookup y)) fun fl H' => Φ (.ret (retOf fl)) H')
    (hcell : ∀ x ∈ scope.names, x.2 ≠ .cell := by decide) (hco : scope.isCoroutine = false := by rfl) (hgen : scope.isGenerator = false := by rfl) (hk : scope.kind = .function := by rfl) : WC prog w h₀ A (.call (.ref f) ⟨args, []⟩) H Φ := fun s R Rp k => by
  refine codeAny_call_def (fd := fnX name qual params body scope cl dV kV doc pm an cdv ct) (body := body) (binds := binds) (o.room (by omega)) (ho _ Rp) rfl (B.lim.keeps Rp.keep) (hcd _ Rp) rfl (hbind s) hcell hloc (fun h₁ hns hk₁ => ?_) hco hgen hk
  obtain ⟨D, Rd⟩ := Rp
  have hq : s.heap.get? s.heap.objs.size = none := Heap.get?_none_of_le (Nat.le_refl _)
  have R1 : RepD h₀ (upd H s.heap.objs.size (.ns fun y => binds.reverse.lookup y)) h₁ D :=
    Rd.new hq rfl hk₁ (Rd.fresh0 (Nat.le_refl _)) (fun b C kv e z => absurd (Rd.Dpresent e) (by rw [z]; exact Nat.lt_irrefl _)) ⟨hns, Rd.above⟩
  refine h s.heap.objs.size _ (Rd.none_of hq) (o.deeper _) _ _ _ ⟨D, R1⟩ fun fl H' h' tk R' p => ?_
  have := k _ H' h' tk R' p
  cases fl <;> exact this

theorem WP.def_ {f : Addr} {oc ct dV kV doc pm cdv : Value} {od an : Option Addr} {osl : Array (Option Value)} {name qual : Str} {params : Arguments} {body : List Stmt} {scope : Scope} {args : List Value} {binds : List (Str × Value)}
    {Φ : Value → HM → Prop} (B : Bs K h₀) (o : Ok A n) (hn : n < 900) (ho : K.lookup f = some ⟨oc, od, .func (fnX name qual params body scope [] dV kV doc pm an cdv ct), osl⟩) (hcd : codeIn K cdv qual = true)
    (hbind : ∀ s, BindsTo s (fnX name qual params body scope [] dV kV doc pm an cdv ct) ⟨args, []⟩ binds) (hloc : ∀ y ∈ binds, scope.names.lookup y.1 = some .local)
    (h : ∀ L A', H L = none → Ok A' (n + 1) → WP prog w h₀ A' (execs body (envX qual scope L f cdv [])) (upd H L (.ns fun y => binds.reverse.lookup y)) fun fl H' => Φ (retOf fl) H')
    (hcell : ∀ x ∈ scope.names, x.2 ≠ .cell := by decide) (hco : scope.isCoroutine = false := by rfl) (hgen : scope.isGenerator = false := by rfl) (hk : scope.kind = .function := by rfl) : WP prog w h₀ A (PySem.call (.ref f) args) H Φ :=
  WP.call (WC.fn B o hn (fun h R => R.keep _ _ (B.X _ _ ho)) (fun h R => codeRec_of (B.X.keeps R.keep) hcd) hbind hloc (fun L A' hL o' => (h L A' hL o').mono fun fl H' p => ⟨_, rfl, p⟩) hcell hco hgen hk)

/-- a bound method object -/
theorem WP.methObj {q : Addr} {f self : Value} {args : List Value} {Φ : Value → HM → Prop} (hq : H q = some (.raw (methodObj f self))) (h : WC prog w h₀ A (.call f ⟨self :: args, []⟩) H fun fl H' => ∃ v, fl = .ret v ∧ Φ v H') : WP prog w h₀ A (PySem.call (.ref q) args) H Φ :=
  WP.call fun s R Rp k => method_call (Rp.raw hq) (h s R Rp k)
/-- an object of a class made -/
theorem WP.cls {C fI : Addr} {args : List Value} {Φ : Value → HM → Prop} (B : Bs K h₀) (hm : makesIn K C = true) (hi : findIn K (.ref C) "__init__" = some (some (.ref fI))) (hf : isFn K (.ref fI) = true)
    (h : ∀ x A', H x = none → (∀ n, Ok A n → Ok A' (n + 1)) → WC prog w h₀ A' (.call (.ref fI) ⟨.ref x :: args, []⟩) (upd H x (.inst C [])) fun fl H' => fl = .ret .none ∧ Φ (.ref x) H') :
    WP prog w h₀ A (PySem.call (.ref C) args) H Φ := fun s Q E Rp k => by
  have X := B.X.keeps Rp.keep
  obtain ⟨D, Rd⟩ := Rp
  obtain ⟨hh, g, d, t, os⟩ := s
  refine wpAny_call (make_core (makes_of X hm) (looks_findIn X hi) (fun self => bind_fn X self (beq_iff_eq.mp hf)) (.inl rfl) ?_)
  have hq : hh.get? (hh.objs.size + 1) = none := Heap.get?_none_of_le (Nat.le_succ _)
  have e1 : ((hh.push emptyDict).push (instObj C hh.objs.size)).get? (hh.objs.size + 1) = some (instObj C hh.objs.size) := by heap_get
  have e2 : ((hh.push emptyDict).push (instObj C hh.objs.size)).get? hh.objs.size = some emptyDict := Heap.get?_push_of_some _ (Heap.get?_push_size _ rfl)
  have R1 := Rd.newInst (y := hh.objs.size + 1) (d := hh.objs.size) (C := C) (kv := []) (h' := (hh.push emptyDict).push (instObj C hh.objs.size)) (Nat.le_succ _) (Nat.le_refl _) (Nat.ne_of_lt (Nat.lt_succ_self _)) (fun b o e => Heap.get?_push_of_some _ (Heap.get?_push_of_some _ e))
    (Rd.fresh0 (Nat.le_succ _)) (Rd.fresh0 (Nat.le_refl _)) e1 ⟨[], 0, e2, .nil⟩
  refine h (hh.objs.size + 1) _ (Rd.none_of hq) (fun n o => o.make C args []) ⟨_, g, d, t, os⟩ _ ⟨_, R1⟩ fun fl H' h' tk R' p => ?_
  obtain ⟨rfl, p⟩ := p
  exact ⟨rfl, k _ _ h' tk R' p⟩
end
end Mine
end
section
open PySem PySem.W PyProof.Rows PySem.Calls
namespace Mine
section
variable {prog : Program} {w : World} {h₀ : Heap} {A : Around} {H : HM} {env : Env} {K : Frag} {v : Value} {pos : Pos} {first : List Value} {Φ : Value → HM → Prop}

-- calls written out
theorem WP.cwK {f : Value} {e : Expr} {rest : List Expr} (B : Bs K h₀) (hk : keepIn K f = true) (h : WP prog w h₀ A (spliced (backTo pos (starEach (e :: rest) env))) H fun vs H' => WP prog w h₀ A (PySem.call f (first ++ vs)) H' Φ)
    (he : starEach (e :: rest) env = (false, eval e env) :: starEach rest env := by rfl) (hplain : (backTo pos (starEach rest env)).any (·.1) = false := by rfl) : WP prog w h₀ A (callWith pos f first (backTo pos (starEach (e :: rest) env)) []) H Φ :=
  fun s Q E R k => callWith_K B.X hk (h s _ E R fun _ _ _ _ R' w => ⟨B.X.keeps R'.keep, w _ _ _ R' k⟩) he hplain
theorem WP.cwK0 {f : Value} (B : Bs K h₀) (hk : keepIn K f = true) (h : WP prog w h₀ A (PySem.call f (first ++ [])) H Φ) : WP prog w h₀ A (callWith pos f first (backTo pos (starEach [] env)) []) H Φ :=
  fun s Q E R k => callWith_K0 (B.X.keeps R.keep) hk (h s _ E R k)
theorem WP.cwF {q : Addr} {oc : Value} {od : Option Addr} {fd : FuncData} {sl : Array (Option Value)} {e : Expr} {rest : List Expr} (hq : H q = some (.raw ⟨oc, od, .func fd, sl⟩))
    (h : WP prog w h₀ A (spliced (backTo pos (starEach (e :: rest) env))) H fun vs H' => H' q = some (.raw ⟨oc, od, .func fd, sl⟩) ∧ WP prog w h₀ A (PySem.call (.ref q) (first ++ vs)) H' Φ)
    (he : starEach (e :: rest) env = (false, eval e env) :: starEach rest env := by rfl) (hplain : (backTo pos (starEach rest env)).any (·.1) = false := by rfl) : WP prog w h₀ A (callWith pos (.ref q) first (backTo pos (starEach (e :: rest) env)) []) H Φ :=
  fun s Q E R k => callWith_F ⟨_, _, _, _, R.raw hq⟩ (h s _ E R fun _ _ _ _ R' w => ⟨⟨_, _, _, _, R'.raw w.1⟩, w.2 _ _ _ R' k⟩) he hplain
theorem WP.cwM {q g : Addr} {self : Value} {e : Expr} {rest : List Expr} (B : Bs K h₀) (hg : fnIn K g = true)
    (h : WP prog w h₀ A (spliced (backTo pos (starEach (e :: rest) env))) H fun vs H' => H' q = some (.raw (methodObj (.ref g) self)) ∧ WP prog w h₀ A (PySem.call (.ref q) (first ++ vs)) H' Φ)
    (he : starEach (e :: rest) env = (false, eval e env) :: starEach rest env := by rfl) (hplain : (backTo pos (starEach rest env)).any (·.1) = false := by rfl) : WP prog w h₀ A (callWith pos (.ref q) first (backTo pos (starEach (e :: rest) env)) []) H Φ :=
  fun s Q E R k => by
    rw [he] at h ⊢
    exact callWith_of (P := MethP K q g self) (by show ((false || (backTo pos (starEach rest env)).any (·.1)) || false) = false; rw [hplain]; rfl) (keeps_M hg) (evalArgs_plain (h s _ E R fun _ _ _ _ R' w => ⟨⟨R'.raw w.1, B.X.keeps R'.keep⟩, w.2 _ _ _ R' k⟩))
theorem WP.cwB {id : String} {e : Expr} {rest : List Expr} (h : WP prog w h₀ A (spliced (backTo pos (starEach (e :: rest) env))) H fun vs H' => WP prog w h₀ A (PySem.call (.builtin id) (first ++ vs)) H' Φ)
    (he : starEach (e :: rest) env = (false, eval e env) :: starEach rest env := by rfl) (hplain : (backTo pos (starEach rest env)).any (·.1) = false := by rfl) : WP prog w h₀ A (callWith pos (.builtin id) first (backTo pos (starEach (e :: rest) env)) []) H Φ :=
  fun s Q E R k => by
    rw [he] at h ⊢
    exact Calls.callWith_builtin (by show (false || (backTo pos (starEach rest env)).any (·.1)) = false; rw [hplain]; rfl) (evalArgs_plain (h s _ E R fun _ _ _ _ R' w => w _ _ _ R' k))
theorem WP.cwB0 {id : String} (h : WP prog w h₀ A (PySem.call (.builtin id) (first ++ [])) H Φ) : WP prog w h₀ A (callWith pos (.builtin id) first (backTo pos (starEach [] env)) []) H Φ :=
  fun s Q E R k => Calls.callWith_builtin rfl (evalArgs_nil3 (h s _ E R k))
theorem WP.cwT {T : String} {e : Expr} {rest : List Expr} (h : WP prog w h₀ A (spliced (backTo pos (starEach (e :: rest) env))) H fun vs H' => WP prog w h₀ A (PySem.call (.type T) vs) H' Φ)
    (he : starEach (e :: rest) env = (false, eval e env) :: starEach rest env := by rfl) (hplain : (backTo pos (starEach rest env)).any (·.1) = false := by rfl) : WP prog w h₀ A (callWith pos (.type T) [] (backTo pos (starEach (e :: rest) env)) []) H Φ :=
  fun s Q E R k => PyProof.Rows.callWith_type1 (h s _ E R fun _ _ _ _ R' w => w _ _ _ R' k) he hplain

-- ints
section
variable {a b : Int} {t u : Tok}
theorem WP.add (h : ∀ tk, Φ (.int (a + b) tk) H) : WP prog w h₀ A (binaryOp .Add (.int a t) (.int b u)) H Φ := fun s Q E R k => add_int (k _ H s.heap _ R (h _))
theorem WP.subI (h : ∀ tk, Φ (.int (a - b) tk) H) : WP prog w h₀ A (binaryOp .Sub (.int a t) (.int b u)) H Φ := fun s Q E R k => sub_int (k _ H s.heap _ R (h _))
theorem WP.iadd (h : ∀ tk, Φ (.int (a + b) tk) H) : WP prog w h₀ A (inplaceOp .Add (.int a t) (.int b u)) H Φ := fun s Q E R k => iadd_int (k _ H s.heap _ R (h _))
theorem WP.isub (h : ∀ tk, Φ (.int (a - b) tk) H) : WP prog w h₀ A (inplaceOp .Sub (.int a t) (.int b u)) H Φ := fun s Q E R k => isub_int (k _ H s.heap _ R (h _))
theorem WP.lt (h : Φ (.bool (decide (a < b))) H) : WP prog w h₀ A (compareOp .Lt (.int a t) (.int b u)) H Φ := fun s Q E R k => lt_int (k _ H s.heap s.toks R h)
theorem WP.gt (h : Φ (.bool (decide (b < a))) H) : WP prog w h₀ A (compareOp .Gt (.int a t) (.int b u)) H Φ := fun s Q E R k => gt_int (k _ H s.heap s.toks R h)
theorem WP.le (h : Φ (.bool (decide (a ≤ b))) H) : WP prog w h₀ A (compareOp .LtE (.int a t) (.int b u)) H Φ := fun s Q E R k => le_int (k _ H s.heap s.toks R h)
theorem WP.eq (h : Φ (.bool (a == b)) H) : WP prog w h₀ A (compareOp .Eq (.int a t) (.int b u)) H Φ := fun s Q E R k => eq_int (k _ H s.heap s.toks R h)
theorem WP.ne (h : Φ (.bool (a != b)) H) : WP prog w h₀ A (compareOp .NotEq (.int a t) (.int b u)) H Φ := fun s Q E R k => ne_int (k _ H s.heap s.toks R h)
end
theorem WP.isNone {x : Value} (h : Φ (.bool (x == .none)) H) : WP prog w h₀ A (compareOp .Is x .none) H Φ := fun s Q E R k => is_none (k _ H s.heap s.toks R h)
theorem WP.isNotNone {x : Value} (h : Φ (.bool (!(x == .none))) H) : WP prog w h₀ A (compareOp .IsNot x .none) H Φ := fun s Q E R k => isNot_none (k _ H s.heap s.toks R h)

-- lists
section
variable {l : Addr} {vs : List Value} {name : Str} {id : String}
theorem WP.lMeth {pl : Sem Bool} {Ψ : Value × List Value → HM → Prop} (hl : H l = some (.list vs)) (slot : Slot "list" name id) (hty : typeOf (.builtin id) = Pure.pure (.type "method_descriptor")) (h : Ψ (.builtin id, [.ref l]) H) :
    WP prog w h₀ A (getMethod (.ref l) name pl) H Ψ := fun s Q E R k => by
  obtain ⟨n, e⟩ := R.list hl
  exact getMethod_builtin ⟨_, e, rfl⟩ PySem.F.plainAttrs_list slot hty (fun a q => by cases q; exact ⟨_, e, rfl⟩) (k _ H s.heap s.toks R h)
theorem Rep.setList {hp h' : Heap} {vs' : List Value} (R : Rep h₀ H hp) (hl : H l = some (.list vs)) (hs : Heap.SameBut l hp h') (n : Nat) (e : h'.get? l = some (listOf vs'.toArray n)) : Rep h₀ (upd H l (.list vs')) h' := by
  obtain ⟨D, R⟩ := R
  exact ⟨D, R.put (x' := .list vs') hl rfl rfl (fun ⟨_, q⟩ => by cases q) (fun b o hb eb => (hs.2 b hb).trans eb) ⟨n, e⟩⟩
theorem WP.append (hl : H l = some (.list vs)) (h : Φ .none (upd H l (.list (vs ++ [v])))) (hz : vs.length ≤ 100000 := by simp) : WP prog w h₀ A (PySem.call (.builtin "list.append") [.ref l, v]) H Φ := fun s Q E R k => by
  obtain ⟨n, e⟩ := R.list hl
  refine append_at e (fun h' hs e' => k _ _ h' s.toks (R.setList hl hs (n + 1) ?_) h) (by rw [List.size_toArray, sizeLine_eq]; omega)
  rw [e']; simp
theorem last_of {vs p : List Value} {y : Value} (e : vs = p ++ [y]) : vs.toArray[vs.toArray.size - 1]? = some y := by subst e; simp
theorem WP.pop {p : List Value} {y : Value} (hl : H l = some (.list vs)) (e : vs = p ++ [y]) (h : Φ y (upd H l (.list p))) (hz : vs.length ≤ 100000) : WP prog w h₀ A (PySem.call (.builtin "list.pop") [.ref l]) H Φ := fun s Q E R k => by
  obtain ⟨n, e1⟩ := R.list hl
  have hsz : vs.toArray.size ≤ sizeLine := by rw [List.size_toArray, sizeLine_eq]; omega
  refine call_meets PySem.F.slot_list_pop ⟨_, e1, rfl⟩ PySem.F.entry_list_pop (PySem.F.args_list_pop_1 _) (PySem.MeetsSeq.list_pop_last l _ n y (last_of e) hsz) ⟨e1, ?_⟩
  have q := PySem.IsL.update e1 fun xs => xs.eraseIdxIfInBounds (vs.toArray.size - 1)
  have q2 : vs.toArray.eraseIdxIfInBounds (vs.toArray.size - 1) = p.toArray := by
    subst e
    have : (p ++ [y]).toArray.size - 1 = p.length := by simp
    rw [this, kl_erase, List.append_nil]
  rw [q2] at q
  exact k _ _ _ s.toks (R.setList hl (Heap.SameBut.update ..) _ q) h
theorem WP.len (hl : H l = some (.list vs)) (h : ∀ tk, Φ (.int vs.length tk) H) (hz : vs.length ≤ 100000 := by simp) : WP prog w h₀ A (PySem.call (.builtin "len") [.ref l]) H Φ := fun s Q E R k => by
  refine len_list (R.isList hl) (by rw [List.size_toArray]; omega) ?_
  rw [List.size_toArray]
  exact k _ H s.heap _ R (h _)
theorem WP.item {value slice : Expr} {i : Int} {u : Tok} {x : Value} (hl : H l = some (.list vs)) (h0 : 0 ≤ i) (hx : vs[i.toNat]? = some x) (h : Φ x H) (hz : i < 2 ^ 63 := by omega)
    (hs : subscripted slice false (.ref l) (.int i u) = PySem.operate [.ref l, .int i u] (getItem (.ref l) (.int i u)) := by with_unfolding_all rfl) :
    WP prog w h₀ A (subscriptTail value slice (.ref l) (.int i u)) H Φ := fun s Q E R k =>
  tail_any (R.isList hl).typeIs slot_list_getitem.lookup (wpAny_getItem_list (R.isList hl) h0 hz (by simpa using hx) (k _ H s.heap s.toks R h)) hs
theorem WP.itemNeg {value slice : Expr} {i : Int} {u : Tok} {x : Value} (hl : H l = some (.list vs)) (h0 : i < 0) (h1 : -(vs.length : Int) ≤ i) (hx : vs[(i + vs.length).toNat]? = some x) (h : Φ x H) (hz : -(2 ^ 63) ≤ i := by omega)
    (hs : subscripted slice false (.ref l) (.int i u) = PySem.operate [.ref l, .int i u] (getItem (.ref l) (.int i u)) := by with_unfolding_all rfl) :
    WP prog w h₀ A (subscriptTail value slice (.ref l) (.int i u)) H Φ := fun s Q E R k =>
  tail_any (R.isList hl).typeIs slot_list_getitem.lookup (wpAny_getItem_list_neg (R.isList hl) h0 (by simpa using h1) hz (by simpa using hx) (k _ H s.heap s.toks R h)) hs
end
end
end Mine
end
section
open PySem PySem.W PyProof.Rows PySem.Calls
namespace Mine
section
variable {prog : Program} {w : World} {h₀ : Heap} {A : Around} {H : HM} {env : Env} {pos : Pos} {Φ : Flow → HM → Prop}

/-- a while by what holds ahead of each turn, and a number that falls -/
theorem WP.whileG {test : Expr} {body orelse : List Stmt} (I : Nat → HM → Prop) (n : Nat) (hI : I n H)
    (turn : ∀ n H, I n H → WP prog w h₀ A (isTrue test env (eval test env)) H fun b H' =>
      if b then WP prog w h₀ A (execs body env) H' fun f H'' => match f with
        | .next | .cont => ∃ m, m < n ∧ I m H''
        | .brk => Φ .next H''
        | .ret v => Φ (.ret v) H''
      else WP prog w h₀ A (execs orelse env) H' Φ) : WP prog w h₀ A (exec (.While test body orelse pos) env) H Φ := fun s Q E R k => by
  refine wpAny_While (codeAny_whileLoop (fun n s' => ∃ H h' tk, s' = { s with heap := h', toks := tk } ∧ Rep h₀ H h' ∧ I n H) ?_ n ⟨H, s.heap, s.toks, rfl, R, hI⟩)
  rintro n _ ⟨H, h', tk, rfl, R, hI⟩
  refine turn n H hI _ _ _ R fun b H' h'' tk' R' hb => ?_
  cases b with
  | false => exact hb _ _ _ R' k
  | true =>
    refine hb _ _ _ R' fun f H3 h3 tk3 R3 hf => ?_
    cases f with
    | next => obtain ⟨m, l, i⟩ := hf; exact ⟨m, l, H3, h3, tk3, rfl, R3, i⟩
    | cont => obtain ⟨m, l, i⟩ := hf; exact ⟨m, l, H3, h3, tk3, rfl, R3, i⟩
    | brk => exact k _ _ _ _ R3 hf
    | ret v => exact k _ _ _ _ R3 hf

/-- a for by what holds ahead of each draw, and a number that falls -/
theorem WP.forG {target iter : Expr} {body orelse : List Stmt} (I : Value → Nat → HM → Prop)
    (hi : WP prog w h₀ A (eval iter env) H fun x H1 => WP prog w h₀ A (pyIter x) H1 fun it H2 => ∃ n, I it n H2)
    (turn : ∀ it n H, I it n H → WP prog w h₀ A (pyNext it) H fun r H1 => match r with
      | none => WP prog w h₀ A (execs orelse env) H1 Φ
      | some v => WP prog w h₀ A (letOwnedTupleGo target it v) H1 fun _ H2 => WP prog w h₀ A (assign target env v) H2 fun _ H3 => WP prog w h₀ A (execs body env) H3 fun f H4 => match f with
        | .next | .cont => ∃ m, m < n ∧ I it m H4
        | .brk => Φ .next H4
        | .ret v => Φ (.ret v) H4)
    (hs : ∀ x, foldedSetIterable iter env x = Pure.pure x := by intro _; rfl) : WP prog w h₀ A (exec (.For target iter body orelse pos) env) H Φ := fun s Q E R k => by
  refine wpAny_For (hi s _ _ R fun x H1 h1 t1 R1 hx => hx _ _ _ R1 fun it H2 h2 t2 R2 ⟨n, hI⟩ => ?_) hs
  refine codeAny_forLoop_any (fun n s' => ∃ H h' tk, s' = { s with heap := h', toks := tk } ∧ Rep h₀ H h' ∧ I it n H) ?_ n ⟨H2, h2, t2, rfl, R2, hI⟩
  rintro n _ ⟨H, h', tk, rfl, R, hI⟩
  refine turn it n H hI _ _ _ R fun r H' h'' tk' R' hb => ?_
  cases r with
  | none => exact hb _ _ _ R' k
  | some v =>
    refine hb _ _ _ R' fun _ H3 h3 tk3 R3 hb3 => hb3 _ _ _ R3 fun _ H4 h4 tk4 R4 hb4 => hb4 _ _ _ R4 fun f H5 h5 tk5 R5 hf => ?_
    cases f with
    | next => obtain ⟨m, l, i⟩ := hf; exact ⟨m, l, H5, h5, tk5, rfl, R5, i⟩
    | cont => obtain ⟨m, l, i⟩ := hf; exact ⟨m, l, H5, h5, tk5, rfl, R5, i⟩
    | brk => exact k _ _ _ _ R5 hf
    | ret v => exact k _ _ _ _ R5 hf
end

section -- iterators
variable {prog : Program} {w : World} {h₀ : Heap} {A : Around} {H : HM} {env : Env} {l q : Addr} {vs : List Value}
theorem WP.iterL {Φ : Value → HM → Prop} (hl : H l = some (.list vs)) (h : ∀ q, H q = none → Φ (.ref q) (upd H q (.iter l 0))) : WP prog w h₀ A (pyIter (.ref l)) H Φ := fun s Q E R k => by
  refine wpAny_pyIter_list (R.isList hl) ?_
  obtain ⟨D, R⟩ := R
  exact k _ _ _ s.toks ⟨D, R.push (x := .iter l 0) rfl ⟨_, Heap.get?_push_size _ rfl, rfl, rfl⟩⟩ (h _ (R.none_of (Heap.get?_none_of_le (Nat.le_refl _))))
theorem WP.nextL {Φ : Option Value → HM → Prop} {i : Nat} {v : Value} (hq : H q = some (.iter l i)) (hl : H l = some (.list vs)) (hv : vs[i]? = some v) (h : Φ (some v) (upd H q (.iter l (i + 1)))) : WP prog w h₀ A (pyNext (.ref q)) H Φ := fun s Q E R k => by
  have Rl := R.isList hl
  obtain ⟨D, R⟩ := R
  refine wpAny_pyNext_list_item (R.at_ _ _ hq) Rl (by simpa using hv) fun h' hi hs => ?_
  exact k _ _ h' s.toks ⟨D, R.put (x' := .iter l (i + 1)) hq rfl rfl (fun ⟨_, e⟩ => by cases e) (fun b o hb eb => (hs.2 b hb).trans eb) hi⟩ h
theorem WP.endL {Φ : Option Value → HM → Prop} {i : Nat} (hh : A.handled = none) (hq : H q = some (.iter l i)) (hl : H l = some (.list vs)) (hv : vs[i]? = none) (h : Φ none (del H q)) : WP prog w h₀ A (pyNext (.ref q)) H Φ := fun s Q E R k => by
  have Rl := R.isList hl
  obtain ⟨D, R⟩ := R
  refine wpAny_pyNext_list_end hh (R.at_ _ _ hq) Rl (by simpa using hv) fun h' hs => ?_
  exact k _ _ h' s.toks ⟨D, R.del hq rfl (.inl fun _ => nofun) (fun b o hb eb => hs b o hb eb)⟩ h
theorem WP.noTup {target : Expr} {it v : Value} {Φ : Unit → HM → Prop} (h : Φ () H) (ht : letOwnedTupleGo target it v = Pure.pure () := by rfl) : WP prog w h₀ A (letOwnedTupleGo target it v) H Φ := .of_eq ht (.pure h)
end

section -- comprehensions
variable {prog : Program} {w : World} {h₀ : Heap} {A : Around} {H : HM} {env : Env} {pos : Pos}


abbrev tests (ifs : List Expr) (env : Env) : Sem Bool := forIn ifs true fun c r => if r = true then do let ok ← PySem.isTrue c env (eval c env); pure (ForInStep.yield ok) else pure (ForInStep.yield r)
theorem WP.tests0 {Φ : Bool → HM → Prop} (h : Φ true H) : WP prog w h₀ A (tests [] env) H Φ := fun s Q E R k => wpAny_tests_nil (k _ H s.heap s.toks R h)
theorem WP.tests1 {c : Expr} {Φ : Bool → HM → Prop} (h : WP prog w h₀ A (PySem.isTrue c env (eval c env)) H Φ) : WP prog w h₀ A (tests [c] env) H Φ := fun s Q E R k => wpAny_tests_one (h s _ E R k)

theorem comp_loop {elt target iter : Expr} {ifs : List Expr} {scope : Scope} {it acc : Value} {R : Result → Shared → Prop} {s : Shared} (I : Nat → HM → Prop) (Fin : HM → Prop)
    (turn : ∀ n H, I n H → WP prog w h₀ A (pyNext it) H fun r H1 => match r with
      | none => Fin H1
      | some v => WP prog w h₀ A (letOwnedTupleGo target it v) H1 fun _ H2 => WP prog w h₀ A (assign target env v) H2 fun _ H3 => WP prog w h₀ A (tests ifs env) H3 fun ok H4 =>
          if ok then WP prog w h₀ A (eval elt env) H4 fun y H5 => WP prog w h₀ A (PySem.call (.builtin "list.append") [acc, y]) H5 fun _ H6 => ∃ m, m < n ∧ I m H6
          else ∃ m, m < n ∧ I m H4)
    (n : Nat) (hI : I n H) (Rp : Rep h₀ H s.heap) (k : ∀ H' h' tk, Rep h₀ H' h' → Fin H' → R (.ok .next) { s with heap := h', toks := tk }) :
    codeAny (model prog w) A (.compLoop (.ListComp elt [⟨target, iter, ifs, 0⟩] scope pos) 0 it acc env) R s := by
  refine codeAny_loop rfl (fun n s' => ∃ H h' tk, s' = { s with heap := h', toks := tk } ∧ Rep h₀ H h' ∧ I n H) (fun n s' hI => ?_) n ⟨H, s.heap, s.toks, rfl, Rp, hI⟩
  obtain ⟨H, h', tk, rfl, R', hI⟩ := hI
  show wpAny _ A ((compTurn (.ListComp elt [⟨target, iter, ifs, 0⟩] scope pos) 0 it acc env).onRaise (fun x => do noteFrame x env; theTreesLotGoes x)) _ _ _
  refine wpAny_noted ?_
  rw [compTurn_list]
  refine wpAny_bind (wpAny_standAt (wpAny_bind (turn n H hI _ _ _ R' fun r H1 h1 t1 R1 hr => ?_)))
  cases r with
  | none => exact wpAny_pure (k _ _ _ R1 hr)
  | some v =>
    refine wpAny_bind (hr _ _ _ R1 fun _ H2 h2 t2 R2 hr2 => ?_)
    refine wpAny_bind (hr2 _ _ _ R2 fun _ H3 h3 t3 R3 hr3 => ?_)
    refine wpAny_bind (hr3 _ _ _ R3 fun ok H4 h4 t4 R4 hr4 => ?_)
    cases ok with
    | false =>
      obtain ⟨m, l, i⟩ := hr4
      exact wpAny_pure ⟨rfl, m, l, H4, h4, t4, rfl, R4, i⟩
    | true =>
      refine wpAny_bind (wpAny_bind (hr4 _ _ _ R4 fun y H5 h5 t5 R5 hr5 => wpAny_bind (hr5 _ _ _ R5 fun _ H6 h6 t6 R6 hr6 => ?_)))
      obtain ⟨m, l, i⟩ := hr6
      exact wpAny_pure (wpAny_pure ⟨rfl, m, l, H6, h6, t6, rfl, R6, i⟩)

/-- a list comprehension of one for; use: where the list goes -/
theorem comp_any {elt target iter : Expr} {ifs : List Expr} {scope : Scope} {cl : List (Str × Addr)} {use : Option (Value → Sem Unit)} {Φ : Value → HM → Prop} (I : Value → Addr → Addr → Nat → HM → Prop) (Fin : Addr → Addr → HM → Prop)
    (hclos : closureFor scope env = pure cl) (hcell : ∀ y ∈ scope.names, y.2 ≠ .cell) (hkind : scope.kind = .function) (hnames : ∀ x ∈ scope.names, x.2 = .local → scope.names.lookup x.1 = some .local)
    (hi : WP prog w h₀ A (eval iter env) H fun x H1 => WP prog w h₀ A (pyIter x) H1 fun it H2 => ∀ acc C, H2 acc = none → H2 C = none → acc ≠ C →
      WP prog w h₀ A (pyIter it) (upd (upd H2 acc (.list [])) C (.ns fun _ => none)) (fun it' H4 => it' = it ∧ ∃ n, I it acc C n H4) ∧ ∃ n, I it acc C n (upd (upd H2 acc (.list [])) C (.ns fun _ => none)))
    (turn : ∀ it acc C n H, I it acc C n H → WP prog w h₀ A (pyNext it) H fun r H1 => match r with
      | none => Fin acc C H1
      | some v => WP prog w h₀ A (letOwnedTupleGo target it v) H1 fun _ H2 => WP prog w h₀ A (assign target (compEnvC scope cl C env) v) H2 fun _ H3 => WP prog w h₀ A (tests ifs (compEnvC scope cl C env)) H3 fun ok H4 =>
          if ok then WP prog w h₀ A (eval elt (compEnvC scope cl C env)) H4 fun y H5 => WP prog w h₀ A (PySem.call (.builtin "list.append") [.ref acc, y]) H5 fun _ H6 => ∃ m, m < n ∧ I it acc C m H6
          else ∃ m, m < n ∧ I it acc C m H4)
    (fin : ∀ acc C H1, Fin acc C H1 → match use with
      | none => (∃ m, H1 C = some (.ns m)) ∧ (∃ L m, L ≠ C ∧ H1 L = some (.ns m)) ∧ Φ (.ref acc) (del H1 C)
      | some u => WP prog w h₀ A (u (.ref acc)) H1 fun _ H2 => (∃ m, H2 C = some (.ns m)) ∧ (∃ L m, L ≠ C ∧ H2 L = some (.ns m)) ∧ Φ .none (del H2 C))
    (hs : ∀ x, foldedSetIterable iter env x = pure x) :
    WP prog w h₀ A (comprehension (.ListComp elt [⟨target, iter, ifs, 0⟩] scope pos) scope env (firstIterPos [⟨target, iter, ifs, 0⟩] pos) (newList []) false (eval iter env) use) H Φ := fun s Q E R k => by
  refine wpAny_comprehension_free rfl hs hclos hkind hnames (hi s _ _ R fun x H1 h1 t1 R1 hx => hx _ _ _ R1 fun it H2 h2 t2 R2 hI => ?_)
  dsimp only
  refine wpAny_newObj_type (wpAny_newFunctionEnv hcell (by intro y hy; simp at hy) (fun h₁ hns₁ hsb₁ => ?_) hkind)
  dsimp only at hns₁ hsb₁ ⊢
  obtain ⟨D, R2⟩ := R2
  have hq : h2.get? h2.objs.size = none := Heap.get?_none_of_le (Nat.le_refl _)
  have R3 : RepD h₀ (upd H2 h2.objs.size (.list [])) (h2.push { cls := .type "list", dict := none, data := .seq ([] : List Value).toArray }) D := R2.push (x := .list []) rfl ⟨0, Heap.get?_push_size _ rfl⟩
  generalize hH3 : h2.push { cls := .type "list", dict := none, data := .seq ([] : List Value).toArray } = H3 at hns₁ hsb₁ R3 ⊢
  have hC : H3.objs.size = h2.objs.size + 1 := by rw [← hH3, Heap.size_push]
  have hk : ∀ b o, H3.get? b = some o → h₁.get? b = some o := fun b o e => hsb₁.extBut b o (Nat.ne_of_lt (Heap.lt_size e)) (Heap.get?_push_of_some _ e)
  have R4 : RepD h₀ (upd (upd H2 h2.objs.size (.list [])) H3.objs.size (.ns fun _ => none)) h₁ D :=
    R3.new (Heap.get?_none_of_le (Nat.le_refl _)) rfl hk (R3.fresh0 (Nat.le_refl _)) (fun b C kv e z => absurd (R3.Dpresent e) (by rw [z]; exact Nat.lt_irrefl _)) ⟨hns₁, R3.above⟩
  obtain ⟨hI1, hI2⟩ := hI h2.objs.size H3.objs.size (R2.none_of hq) (R2.none_of (Heap.get?_none_of_le (by rw [hC]; exact Nat.le_succ _))) (by rw [hC]; exact Nat.ne_of_lt (Nat.lt_succ_self _))
  have go : ∀ (n : Nat) (H' : HM) (h' : Heap) (tk : Nat), Rep h₀ H' h' → I it h2.objs.size H3.objs.size n H' →
      codeAny (model prog w) A (.compLoop (.ListComp elt [⟨target, iter, ifs, 0⟩] scope pos) 0 it (.ref h2.objs.size) (compEnvC scope cl H3.objs.size env)) (compPost (model prog w) A E use Q (.ref h2.objs.size) H3.objs.size) { s with heap := h', toks := tk } := by
    intro n H' h' tk R' hI'
    refine comp_loop (I it h2.objs.size H3.objs.size) (Fin h2.objs.size H3.objs.size) (fun n H i => turn it _ _ n H i) n hI' R' fun H5 h5 t5 R5 hf => ?_
    have hf := fin _ _ _ hf
    cases use with
    | none =>
      obtain ⟨⟨m, hm⟩, hl, hf⟩ := hf
      obtain ⟨D5, R5⟩ := R5
      have hns := R5.at_ _ _ hm
      exact ⟨m, hns.1, fun h6 hs6 => k _ _ h6 _ ⟨D5, R5.del hm rfl (.inr hl) (fun b o hb eb => (hs6.2 b hb).trans eb)⟩ hf⟩
    | some u =>
      refine hf _ _ _ R5 fun _ H6 h6 t6 R6 hf6 => ?_
      obtain ⟨⟨m, hm⟩, hl, hf6⟩ := hf6
      obtain ⟨D6, R6⟩ := R6
      have hns := R6.at_ _ _ hm
      exact ⟨m, hns.1, fun h7 hs7 => k _ _ h7 _ ⟨D6, R6.del hm rfl (.inr hl) (fun b o hb eb => (hs7.2 b hb).trans eb)⟩ hf6⟩
  obtain ⟨n, hI2⟩ := hI2
  refine codeAny_compStart_list (go n _ _ _ ⟨D, R4⟩ hI2) (hI1 { s with heap := h₁, toks := t2 } _ _ ⟨D, R4⟩ fun it' H4 h4 t4 R' hI' => ?_)
  obtain ⟨rfl, n', hI'⟩ := hI'
  exact go n' _ _ _ R' hI'

/-- a list comprehension's value -/
theorem WP.comp {elt target iter : Expr} {ifs : List Expr} {scope : Scope} {cl : List (Str × Addr)} {Φ : Value → HM → Prop} (I : Value → Addr → Addr → Nat → HM → Prop)
    (hclos : closureFor scope env = Pure.pure cl) (hcell : ∀ y ∈ scope.names, y.2 ≠ .cell) (hkind : scope.kind = .function) (hnames : ∀ x ∈ scope.names, x.2 = .local → scope.names.lookup x.1 = some .local)
    (hi : WP prog w h₀ A (eval iter env) H fun x H1 => WP prog w h₀ A (pyIter x) H1 fun it H2 => ∀ acc C, H2 acc = none → H2 C = none → acc ≠ C →
      WP prog w h₀ A (pyIter it) (upd (upd H2 acc (.list [])) C (.ns fun _ => none)) (fun it' H4 => it' = it ∧ ∃ n, I it acc C n H4) ∧ ∃ n, I it acc C n (upd (upd H2 acc (.list [])) C (.ns fun _ => none)))
    (turn : ∀ it acc C n H, I it acc C n H → WP prog w h₀ A (pyNext it) H fun r H1 => match r with
      | none => (∃ m, H1 C = some (.ns m)) ∧ (∃ L m, L ≠ C ∧ H1 L = some (.ns m)) ∧ Φ (.ref acc) (del H1 C)
      | some v => WP prog w h₀ A (letOwnedTupleGo target it v) H1 fun _ H2 => WP prog w h₀ A (assign target (compEnvC scope cl C env) v) H2 fun _ H3 => WP prog w h₀ A (tests ifs (compEnvC scope cl C env)) H3 fun ok H4 =>
          if ok then WP prog w h₀ A (eval elt (compEnvC scope cl C env)) H4 fun y H5 => WP prog w h₀ A (PySem.call (.builtin "list.append") [.ref acc, y]) H5 fun _ H6 => ∃ m, m < n ∧ I it acc C m H6
          else ∃ m, m < n ∧ I it acc C m H4)
    (hs : ∀ x, foldedSetIterable iter env x = Pure.pure x := by intro _; rfl) : WP prog w h₀ A (eval (.ListComp elt [⟨target, iter, ifs, 0⟩] scope pos) env) H Φ :=
  comp_any (use := none) I (fun acc C H1 => (∃ m, H1 C = some (.ns m)) ∧ (∃ L m, L ≠ C ∧ H1 L = some (.ns m)) ∧ Φ (.ref acc) (del H1 C)) hclos hcell hkind hnames hi turn (fun _ _ _ h => h) hs

/-- y = [..], the stores exchanged -/
theorem WP.asgComp {elt target iter : Expr} {ifs : List Expr} {scope : Scope} {cl : List (Str × Addr)} {y : Str} {py spos : Pos} {Φ : Flow → HM → Prop} (I : Value → Addr → Addr → Nat → HM → Prop)
    (hsw : swapsWith (.ListComp elt [⟨target, iter, ifs, 0⟩] scope pos) (some (.Name y py)) spos.line env = Pure.pure true)
    (hclos : closureFor scope env = Pure.pure cl) (hcell : ∀ y ∈ scope.names, y.2 ≠ .cell) (hkind : scope.kind = .function) (hnames : ∀ x ∈ scope.names, x.2 = .local → scope.names.lookup x.1 = some .local)
    (hi : WP prog w h₀ A (eval iter env) H fun x H1 => WP prog w h₀ A (pyIter x) H1 fun it H2 => ∀ acc C, H2 acc = none → H2 C = none → acc ≠ C →
      WP prog w h₀ A (pyIter it) (upd (upd H2 acc (.list [])) C (.ns fun _ => none)) (fun it' H4 => it' = it ∧ ∃ n, I it acc C n H4) ∧ ∃ n, I it acc C n (upd (upd H2 acc (.list [])) C (.ns fun _ => none)))
    (turn : ∀ it acc C n H, I it acc C n H → WP prog w h₀ A (pyNext it) H fun r H1 => match r with
      | none => WP prog w h₀ A (assign (.Name y py) env (.ref acc)) H1 fun _ H2 => (∃ m, H2 C = some (.ns m)) ∧ (∃ L m, L ≠ C ∧ H2 L = some (.ns m)) ∧ Φ .next (del H2 C)
      | some v => WP prog w h₀ A (letOwnedTupleGo target it v) H1 fun _ H2 => WP prog w h₀ A (assign target (compEnvC scope cl C env) v) H2 fun _ H3 => WP prog w h₀ A (tests ifs (compEnvC scope cl C env)) H3 fun ok H4 =>
          if ok then WP prog w h₀ A (eval elt (compEnvC scope cl C env)) H4 fun y H5 => WP prog w h₀ A (PySem.call (.builtin "list.append") [.ref acc, y]) H5 fun _ H6 => ∃ m, m < n ∧ I it acc C m H6
          else ∃ m, m < n ∧ I it acc C m H4)
    (hs : ∀ x, foldedSetIterable iter env x = Pure.pure x := by intro _; rfl) : WP prog w h₀ A (exec (.Assign [.Name y py] (.ListComp elt [⟨target, iter, ifs, 0⟩] scope pos) spos) env) H Φ := fun s Q E R k => by
  rw [exec_Assign_Name_used _ _ _ _ hsw]
  refine wpAny_bind (wpAny_standAt (wpAny_bind ?_))
  show wpAny _ A (do let _ ← comprehension (.ListComp elt [⟨target, iter, ifs, 0⟩] scope pos) scope env _ (PySem.newList []) false (eval iter env) (some (assign (.Name y py) env))) _ _ s
  refine wpAny_bind (comp_any (use := some (assign (.Name y py) env)) (Φ := fun _ => Φ .next) I (fun acc C H1 => WP prog w h₀ A (assign (.Name y py) env (.ref acc)) H1 fun _ H2 => (∃ m, H2 C = some (.ns m)) ∧ (∃ L m, L ≠ C ∧ H2 L = some (.ns m)) ∧ Φ .next (del H2 C)) hclos hcell hkind hnames hi turn (fun _ _ _ h => h) hs s _ _ R fun v H' h' tk R' p => ?_)
  exact wpAny_pure (wpAny_pure (k _ _ _ _ R' p))
end
end Mine
end
section
open PySem PySem.W PyProof.Rows PySem.Calls
namespace Mine


theorem fill_frag : (PySem.Challenge.rw_xm0623_01, Mine.hk.heap_1) = (PySem.Challenge.rw_xm0623_01, Mine.hk.heap_1) := by
  k_fill
  rfl

def Ext (H H' : HM) : Prop := ∀ a x, H a = some x → H' a = some x
theorem Ext.refl {H : HM} : Ext H H := fun _ _ h => h
theorem Ext.trans {H H' H'' : HM} (x : Ext H H') (y : Ext H' H'') : Ext H H'' := fun a z h => y a z (x a z h)
theorem Ext.new {H H' : HM} {q : Addr} {x : AObj} (e : Ext H H') (h : H q = none) : Ext H (upd H' q x) := fun a y ha => by
  rw [upd_ne (fun z => by rw [z, h] at ha; cases ha)]; exact e a y ha
theorem upd_old {H : HM} {a b : Addr} {x y : AObj} (h : H a = some x) (hb : H b = none) : upd H b y a = some x := by
  rw [upd_ne (fun z => by rw [z, hb] at h; cases h)]; exact h
theorem upd_upd {H : HM} {b : Addr} {y z : AObj} : upd (upd H b y) b z = upd H b z := by
  funext a; unfold upd; split <;> rfl

section
variable {prog : Program} {w : World} {h₀ : Heap} {A : Around} {H : HM} {n : Nat} {Φ : Value → HM → Prop}

theorem WP.fn {K : Frag} {f : Addr} {oc ct dV kV doc pm cdv : Value} {od an : Option Addr} {osl : Array (Option Value)} {name qual : Str} {params : Arguments} {body : List Stmt} {scope : Scope} {args : List Value} {binds : List (Str × Value)}
    (B : Bs K h₀) (o : Ok A n) (hn : n < 900) (ho : K.lookup f = some ⟨oc, od, .func (fnX name qual params body scope [] dV kV doc pm an cdv ct), osl⟩) (hcd : codeIn K cdv qual = true)
    (hbind : ∀ s, BindsTo s (fnX name qual params body scope [] dV kV doc pm an cdv ct) ⟨args, []⟩ binds) (hloc : ∀ y ∈ binds, scope.names.lookup y.1 = some .local)
    (h : ∀ L A' H1, H L = none → Ok A' (n + 1) → Ext H H1 → H1 L = some (.ns fun y => binds.reverse.lookup y) → WP prog w h₀ A' (execs body (envX qual scope L f cdv [])) H1 fun fl H' => Φ (retOf fl) H')
    (hcell : ∀ x ∈ scope.names, x.2 ≠ .cell := by decide) (hco : scope.isCoroutine = false := by rfl) (hgen : scope.isGenerator = false := by rfl) (hk : scope.kind = .function := by rfl) : WP prog w h₀ A (PySem.call (.ref f) args) H Φ :=
  WP.def_ B o hn ho hcd hbind hloc (fun L A' hL o' => h L A' _ hL o' (Ext.refl.new hL) upd_self) hcell hco hgen hk

theorem WP.seq {env : Env} {st : Stmt} {rest : List Stmt} {Φ : Flow → HM → Prop} (Ψ : HM → Prop) (h1 : WP prog w h₀ A (exec st env) H fun f H' => f = .next ∧ Ψ H') (h2 : ∀ H', Ψ H' → WP prog w h₀ A (execs rest env) H' Φ) : WP prog w h₀ A (execs (st :: rest) env) H Φ :=
  WP.cons (h1.mono fun f H' ⟨e, p⟩ => by subst e; exact h2 H' p)

/-- a for over a list, its target a name -/
theorem WP.forL {env : Env} {x : Str} {px pos : Pos} {iter : Expr} {body orelse : List Stmt} {Φ : Flow → HM → Prop} {vs : List Value} (J : Addr → Addr → (Str → Option Value) → Nat → HM → Prop) (hh : A.handled = none)
    (hi : WP prog w h₀ A (eval iter env) H fun xv H1 => ∃ l, xv = .ref l ∧ H1 l = some (.list vs) ∧ ∀ q, H1 q = none → ∃ m, J l q m 0 (upd H1 q (.iter l 0)))
    (hJ : ∀ l q m k H, J l q m k H → H l = some (.list vs) ∧ H q = some (.iter l k) ∧ H env.locals = some (.ns m))
    (turn : ∀ l q m k v H, J l q m k H → vs[k]? = some v → ∀ H', H' = upd (upd H q (.iter l (k + 1))) env.locals (.ns fun y => if y = x then some v else m y) →
      H' l = some (.list vs) → H' q = some (.iter l (k + 1)) → H' env.locals = some (.ns fun y => if y = x then some v else m y) → WP prog w h₀ A (execs body env) H' fun f H'' => match f with
        | .next | .cont => ∃ m', J l q m' (k + 1) H''
        | .brk => Φ .next H''
        | .ret v => Φ (.ret v) H'')
    (fin : ∀ l q m H, J l q m vs.length H → WP prog w h₀ A (execs orelse env) (del H q) Φ)
    (hs : ∀ x, foldedSetIterable iter env x = Pure.pure x := by intro _; rfl) (hx : env.kindOf x = some .local := by rfl) (hp : (env.scope.kind == .class || (env.scope.kind == .module && env.locals != env.globals)) = false := by rfl) :
    WP prog w h₀ A (exec (.For (.Name x px) iter body orelse pos) env) H Φ := by
  refine WP.forG (fun it n H => ∃ l q m k, it = .ref q ∧ k ≤ vs.length ∧ n = vs.length - k ∧ J l q m k H) (hi.mono fun xv H1 h => ?_) ?_ hs
  · obtain ⟨l, rfl, hl, h⟩ := h
    refine WP.iterL hl fun q hq => ?_
    obtain ⟨m, h⟩ := h q hq
    exact ⟨_, l, q, m, 0, rfl, Nat.zero_le _, rfl, h⟩
  · rintro it n H ⟨l, q, m, k, rfl, hk, rfl, h⟩
    obtain ⟨hl, hq, hL⟩ := hJ _ _ _ _ _ h
    cases hv : vs[k]? with
    | none =>
      have : k = vs.length := Nat.le_antisymm hk (by simpa using hv)
      subst this
      exact WP.endL hh hq hl hv (fin _ _ _ _ h)
    | some v =>
      have hlt : k < vs.length := (List.getElem?_eq_some_iff.mp hv).1
      refine WP.nextL hq hl hv ?_
      refine WP.noTup ?_
      have hLq : env.locals ≠ q := fun z => by rw [z, hq] at hL; cases hL
      have hlq : l ≠ q := fun z => by rw [z, hq] at hl; cases hl
      have hlL : l ≠ env.locals := fun z => by rw [z, hL] at hl; cases hl
      refine WP.aName (WP.stL (by rw [upd_ne hLq]; exact hL) ?_ hx hp)
      refine (turn l q m k v H h hv _ rfl (by rw [upd_ne hlL, upd_ne hlq]; exact hl) (by rw [upd_ne (Ne.symm hLq), upd_self]) upd_self).mono fun f H'' hf => ?_
      cases f with
      | next => obtain ⟨m', hf⟩ := hf; exact ⟨_, by omega, l, q, m', k + 1, rfl, hlt, rfl, hf⟩
      | cont => obtain ⟨m', hf⟩ := hf; exact ⟨_, by omega, l, q, m', k + 1, rfl, hlt, rfl, hf⟩
      | brk => exact hf
      | ret v => exact hf

theorem s_is_white {x : Addr} {kv : List (Str × Value)} {mk : Int} {t : Tok} (B : Bs (Mine.hk.heap_1 w.params) h₀) (o : Ok A n) (hn : n < 800) (hx : H x = some (.inst 367 kv)) (hm : kvGet "mark" kv = some (.int mk t))
    (h : ∀ H', Ext H H' → Φ (.bool (decide (mk < 2))) H') : WP prog w h₀ A (call (.ref 28) [.ref x]) H Φ := by
  refine WP.def_ B o (by omega) (by k_is) (by k_is) (fun _ => .of_eq rfl) (locs rfl) (fun L A' hL o' => ?_)
  refine WP.cons (WP.ret (WP.cmp (WP.attr (WP.name (WP.loadL upd_self rfl ?_))) ))
  refine WP.getI B (upd_old hx hL) hm (by kernel_rfl) rfl ?_
  refine WP.name (WP.loadG B.X B.g (by k_is) ?_)
  exact WP.lt (h _ (Ext.refl.new hL))
end
end Mine
end
section
open PySem PySem.W PyProof.Rows PySem.Calls
namespace Mine
section
variable {prog : Program} {w : World} {h₀ : Heap} {A : Around} {H : HM} {env : Env} {pos : Pos} {Φ : Value → HM → Prop}

theorem Rep.same {h h' : Heap} (R : Rep h₀ H h) (k : ∀ b o, h.get? b = some o → h'.get? b = some o) : Rep h₀ H h' := let ⟨D, R⟩ := R; ⟨D, R.same k⟩
theorem Rep.isTup {h : Heap} {t : Addr} {vs : List Value} (R : Rep h₀ H h) (e : H t = some (.raw (tupO vs))) : h.IsTuple t vs.toArray := ⟨_, R.raw e, rfl, 0, rfl⟩

-- a tuple unpacked
theorem WP.aTup {es : List Expr} {kk : Nat} {t : Addr} {vs : List Value} {Φ : Unit → HM → Prop} (hh : A.handled = none) (ht : H t = some (.raw (tupO vs)))
    (h : WP prog w h₀ A (assignInOrder ((assignEach es env).map (·.2)) vs) H Φ) (hn : (assignEach es env).length = vs.length := by rfl) (hstar : (assignEach es env).findIdx? (·.1) = none := by rfl) : WP prog w h₀ A (assign (.Tuple es kk pos) env (.ref t)) H Φ := fun s Q E R k => by
  refine wpAny_assign_Tuple hh (R.isTup ht) (by rw [hn]; simp) hstar fun h' hx => ?_
  exact h _ _ _ (R.same fun b o e => hx b o (Nat.ne_of_lt (Heap.lt_size e)) e) k
theorem WP.ao0 {Φ : Unit → HM → Prop} {vs : List Value} (h : Φ () H) : WP prog w h₀ A (assignInOrder ((assignEach [] env).map (·.2)) vs) H Φ := fun s Q E R k => assignInOrder_nil (k _ H s.heap s.toks R h)
theorem WP.ao1 {e : Expr} {rest : List Expr} {x : Value} {xs : List Value} {Φ : Unit → HM → Prop} (h : WP prog w h₀ A (assign e env x) H fun _ H' => WP prog w h₀ A (assignInOrder ((assignEach rest env).map (·.2)) xs) H' Φ)
    (he : assignEach (e :: rest) env = (false, assign e env) :: assignEach rest env := by rfl) : WP prog w h₀ A (assignInOrder ((assignEach (e :: rest) env).map (·.2)) (x :: xs)) H Φ := fun s Q E R k => by
  rw [he]
  exact assignInOrder_cons (h s _ E R fun _ _ _ _ R' w => w _ _ _ R' k)
theorem WP.aAttr {o : Expr} {n : Str} {v : Value} {Φ : Unit → HM → Prop} (h : WP prog w h₀ A (eval o env) H fun ov H' => WP prog w h₀ A (setAttr ov n v) H' Φ) : WP prog w h₀ A (assign (.Attribute o n pos) env v) H Φ := fun s Q E R k => by
  rw [assign_Attribute]
  refine wpAny_bind (wpAny_holding (h s _ E R fun ov H' h' tk R' w => ?_))
  refine wpAny_bind (wpAny_standAt (wpAny_bind (wpAny_holding (w _ _ _ R' fun u H2 h2 tk2 R2 p => ?_))))
  exact wpAny_release (k _ _ _ _ R2 p)

theorem WP.max2 {a b : Int} {t u : Tok} (hh : A.handled = none) (h : ∀ tk, Φ (.int (if b > a then b else a) tk) H) : WP prog w h₀ A (PySem.call (.builtin "max") [.int a t, .int b u]) H Φ := fun s Q E R k => by
  obtain ⟨D, R⟩ := R
  obtain ⟨L, m, e⟩ := R.frm
  exact max_two_N hh (R.fr e) full_news fun h' tk F' N' => k _ _ h' tk ⟨D, R.kept e F' N'⟩ (h _)
theorem WP.mul {a b : Int} {t u : Tok} (hm : IntMulOk a b) (h : ∀ tk, Φ (.int (a * b) tk) H) : WP prog w h₀ A (binaryOp .Mult (.int a t) (.int b u)) H Φ := fun s Q E R k => mul_int (k _ H s.heap _ R (h _)) hm
theorem WP.fdiv {a b : Int} {t u : Tok} (hb : b ≠ 0) (hp : Builtin.divisionGoesByPylong a b = false) (h : ∀ tk, Φ (.int (a.fdiv b) tk) H) : WP prog w h₀ A (binaryOp .FloorDiv (.int a t) (.int b u)) H Φ := fun s Q E R k => floordiv_int hb (k _ H s.heap _ R (h _)) (.inl hp)
theorem WP.mod {a b : Int} {t u : Tok} (hb : b ≠ 0) (h : ∀ tk, Φ (.int (a.fmod b) tk) H) : WP prog w h₀ A (binaryOp .Mod (.int a t) (.int b u)) H Φ := fun s Q E R k => PyProof.Rows.mod_int hb (k _ H s.heap _ R (h _))
end


/-- many objects turned or new at once, none an object of a class or a frame -/
theorem RepD.multi {h₀ h h' : Heap} {H H' : HM} {D : Addr → Addr} (R : RepD h₀ H h D) (S : Addr → Prop) (hS : ∀ b, S b → (∃ x, H b = some x ∧ isInst x = false ∧ ∀ m, x ≠ .ns m) ∨ h.objs.size ≤ b)
    (k : ∀ b o, ¬S b → h.get? b = some o → h'.get? b = some o) (out : ∀ b, ¬S b → H' b = H b) (inn : ∀ b, S b → ∃ x, H' b = some x ∧ isInst x = false ∧ Holds h₀ h' D b x) : RepD h₀ H' h' D := by
  have hD : ∀ b C kv, H b = some (.inst C kv) → ¬S (D b) := fun b C kv e hs => by
    rcases hS _ hs with ⟨x, hx, _⟩ | hx
    · exact R.Dne e hx rfl
    · exact absurd (R.Dpresent e) (Nat.not_lt.mpr hx)
  have hI : ∀ b C kv, H' b = some (.inst C kv) → ¬S b := fun b C kv e hs => by
    obtain ⟨x, hx, hi, _⟩ := inn b hs
    rw [e] at hx; cases hx; cases hi
  refine ⟨fun b o e => k b o (fun hs => ?_) (R.keep b o e), fun b x e => ?_, fun b x e => ?_, fun b C kv e => ?_, fun b c C kv C' kv' e e' z => ?_, ?_⟩
  · rcases hS b hs with ⟨x, hx, _⟩ | hx
    · rw [R.fresh b x hx] at e; cases e
    · rw [R.fresh0 hx] at e; cases e
  · by_cases hs : S b
    · rcases hS b hs with ⟨x, hx, _⟩ | hx
      · exact R.fresh b x hx
      · exact R.fresh0 hx
    · rw [out b hs] at e; exact R.fresh b x e
  · by_cases hs : S b
    · obtain ⟨y, hy, _, hh⟩ := inn b hs
      rw [e] at hy; cases hy; exact hh
    · rw [out b hs] at e
      refine (R.at_ b x e).move (fun o => k _ o hs) (fun hx o => k _ o ?_)
      cases x <;> first | exact hD _ _ _ e | cases hx
  · have hs := hI b C kv e
    rw [out b hs] at e
    rw [out _ (hD b C kv e)]; exact R.off b C kv e
  · have h1 := hI _ _ _ e
    have h2 := hI _ _ _ e'
    rw [out b h1] at e; rw [out c h2] at e'; exact R.inj _ _ _ _ _ _ e e' z
  · obtain ⟨L, m, e⟩ := R.frm
    refine ⟨L, m, (out L fun hs => ?_).trans e⟩
    rcases hS L hs with ⟨x, hx, _, hm⟩ | hx
    · rw [e] at hx; cases hx; exact hm m rfl
    · exact absurd (R.lt e) (Nat.not_lt.mpr hx)

-- enumerate
abbrev enumO (it : Addr) (i : Int) (old : Value) : Obj := { cls := .type "enumerate", dict := none, data := .fields #[.none, .bool false, .ref it, rawInt i, .none, old], slots := #[] }
abbrev enumT (it : Addr) (i : Int) (item : Value) (t : Addr) : Obj := { cls := .type "enumerate", dict := none, data := .fields #[rawInt t, .bool false, .ref it, rawInt i, .none, item], slots := #[] }
section
variable {prog : Program} {w : World} {h₀ : Heap} {A : Around} {H : HM} {env : Env} {pos : Pos} {l it e : Addr} {vs : List Value}
theorem WP.enum {Φ : Value → HM → Prop} (hl : H l = some (.list vs)) (h : ∀ it e, H it = none → H e = none → it ≠ e → Φ (.ref e) (upd (upd H it (.iter l 0)) e (.raw (enumO it 0 .none)))) : WP prog w h₀ A (PySem.call (.type "enumerate") [.ref l]) H Φ := fun s Q E R k => by
  have Rl := R.isList hl
  obtain ⟨D, R⟩ := R
  refine call_enumerate_list Rl fun h' he hi _ hk => ?_
  have h1 : s.heap.get? s.heap.objs.size = none := Heap.get?_none_of_le (Nat.le_refl _)
  have h2 : s.heap.get? (s.heap.objs.size + 1) = none := Heap.get?_none_of_le (Nat.le_succ _)
  have hne : s.heap.objs.size + 1 ≠ s.heap.objs.size := Nat.succ_ne_self _
  refine k _ _ h' s.toks ⟨D, R.multi (fun b => b = s.heap.objs.size ∨ b = s.heap.objs.size + 1) ?_ (fun b o _ e => hk b o e) ?_ ?_⟩ (h s.heap.objs.size (s.heap.objs.size + 1) (R.none_of h1) (R.none_of h2) (Ne.symm hne))
  · rintro b (rfl | rfl)
    · exact .inr (Nat.le_refl _)
    · exact .inr (Nat.le_succ _)
  · intro b hb
    rw [upd_ne (fun z => hb (.inr z)), upd_ne (fun z => hb (.inl z))]
  · rintro b (rfl | rfl)
    · exact ⟨.iter l 0, by rw [upd_ne (Ne.symm hne), upd_self], rfl, hi⟩
    · exact ⟨_, upd_self, rfl, he⟩

theorem WP.nextE {Φ : Option Value → HM → Prop} {i : Nat} {v old : Value} (he : H e = some (.raw (enumO it i old))) (hi : H it = some (.iter l i)) (hl : H l = some (.list vs)) (hv : vs[i]? = some v)
    (h : ∀ t tk, H t = none → Φ (some (.ref t)) (upd (upd (upd H it (.iter l (i + 1))) e (.raw (enumT it ((i : Int) + 1) v t))) t (.raw (tupO [.int i tk, v])))) : WP prog w h₀ A (pyNext (.ref e)) H Φ := fun s Q E R k => by
  have Rl := R.isList hl
  have Re := R.raw he
  obtain ⟨D, R⟩ := R
  have hne : e ≠ it := fun z => by rw [z, hi] at he; cases he
  refine wpAny_pyNext_enum_item Re (R.at_ _ _ hi) Rl (by simpa using hv) hne fun h' a b c d kk => ?_
  have h1 : s.heap.get? s.heap.objs.size = none := Heap.get?_none_of_le (Nat.le_refl _)
  have n1 := R.none_of h1
  have hte : s.heap.objs.size ≠ e := fun z => by rw [z, he] at n1; cases n1
  have hti : s.heap.objs.size ≠ it := fun z => by rw [z, hi] at n1; cases n1
  refine k _ _ h' _ ⟨D, R.multi (fun b => b = s.heap.objs.size ∨ b = e ∨ b = it) ?_ ?_ ?_ ?_⟩ (h s.heap.objs.size s.toks n1)
  · rintro b (rfl | rfl | rfl)
    · exact .inr (Nat.le_refl _)
    · exact .inl ⟨_, he, rfl, nofun⟩
    · exact .inl ⟨_, hi, rfl, nofun⟩
  · exact fun b o hb => kk b o (fun z => hb (.inr (.inl z))) (fun z => hb (.inr (.inr z)))
  · intro b hb
    rw [upd_ne (fun z => hb (.inl z)), upd_ne (fun z => hb (.inr (.inl z))), upd_ne (fun z => hb (.inr (.inr z)))]
  · rintro b (rfl | rfl | rfl)
    · exact ⟨_, upd_self, rfl, c⟩
    · exact ⟨.raw _, by rw [upd_ne (Ne.symm hte), upd_self], rfl, a⟩
    · exact ⟨.iter l (i + 1), by rw [upd_ne (Ne.symm hti), upd_ne (Ne.symm hne), upd_self], rfl, b⟩
theorem WP.ownE {es : List Expr} {kk : Nat} {i : Int} {v : Value} {t : Addr} {Φ : Unit → HM → Prop} (he : H e = some (.raw (enumT it i v t))) (h : Φ () (upd H e (.raw (enumO it i v)))) : WP prog w h₀ A (letOwnedTupleGo (.Tuple es kk pos) (.ref e) (.ref t)) H Φ := fun s Q E R k => by
  have Re := R.raw he
  obtain ⟨D, R⟩ := R
  refine wpAny_letOwnedTupleGo_enum Re fun h' a hs => ?_
  exact k _ _ h' s.toks ⟨D, R.put (x' := .raw (enumO it i v)) he rfl rfl (fun ⟨_, q⟩ => by cases q) (fun b o hb eb => (hs.2 b hb).trans eb) a⟩ h
theorem WP.endE {Φ : Option Value → HM → Prop} {i : Nat} {old : Value} (hh : A.handled = none) (he : H e = some (.raw (enumO it i old))) (hi : H it = some (.iter l i)) (hl : H l = some (.list vs)) (hv : vs[i]? = none) (h : Φ none (Mine.del H it)) : WP prog w h₀ A (pyNext (.ref e)) H Φ := fun s Q E R k => by
  have Rl := R.isList hl
  have Re := R.raw he
  obtain ⟨D, R⟩ := R
  refine wpAny_pyNext_enum_end hh Re (R.at_ _ _ hi) Rl (by simpa using hv) fun h' hs => ?_
  exact k _ _ h' s.toks ⟨D, R.del hi rfl (.inl fun _ => nofun) (fun b o hb eb => hs b o hb eb)⟩ h
theorem WP.iterE {i : Int} {old : Value} {Φ : Value → HM → Prop} (he : H e = some (.raw (enumO it i old))) (h : Φ (.ref e) H) : WP prog w h₀ A (pyIter (.ref e)) H Φ := fun s Q E R k =>
  wpAny_pyIter_enum (R.raw he) (k _ _ _ s.toks R h)
end

-- dicts
section
variable {prog : Program} {w : World} {h₀ : Heap} {A : Around} {H : HM} {env : Env} {pos : Pos} {K : Type} [DecidableEq K] {knd : KeyKind prog w K} {d : Addr} {kvs : List (K × Value)} {k : K} {key v : Value}

/-- d is told as a dict of the keys kvs -/
def DictAt (knd : KeyKind prog w K) (H : HM) (d : Addr) (kvs : List (K × Value)) : Prop := (d == sysModules) = false ∧ ∃ es, H d = some (.dict es) ∧ KeysOf knd es.toArray ∧ Pairs knd es kvs ∧ (kvs.map (·.1)).Nodup
theorem DictAt.of {h : Heap} (x : DictAt knd H d kvs) (R : Rep h₀ H h) : h.DictOf knd d kvs := by
  obtain ⟨_, es, e, a, b, c⟩ := x
  obtain ⟨n, e⟩ := R.dict e
  exact ⟨_, es.toArray, n, e, ⟨rfl, rfl, rfl⟩, rfl, a, b, c⟩
theorem DictAt.ext {H' : HM} (x : DictAt knd H d kvs) (e : ∀ y, H d = some y → H' d = some y) : DictAt knd H' d kvs := let ⟨a, es, b, c⟩ := x; ⟨a, es, e _ b, c⟩
theorem DictAt.turn {h h' : Heap} {kvs' : List (K × Value)} (x : DictAt knd H d kvs) (R : Rep h₀ H h) (hs : Heap.SameBut d h h') (hd : h'.DictOf knd d kvs') : ∃ es, DictAt knd (upd H d (.dict es)) d kvs' ∧ Rep h₀ (upd H d (.dict es)) h' := by
  obtain ⟨lo, es, e, _⟩ := x
  obtain ⟨o, es', ep, ho, ⟨c1, c2, c3⟩, dt, a, b, c⟩ := hd
  obtain ⟨D, R⟩ := R
  have : o = dictOf es'.toList ep := by
    obtain ⟨cls, dict, data, slots⟩ := o
    subst c1 c2 c3 dt
    simp [dictOf]
  subst this
  exact ⟨es'.toList, ⟨lo, _, upd_self, by simpa using a, b, c⟩, D, R.put (x' := .dict es'.toList) e rfl rfl (fun ⟨_, q⟩ => by cases q) (fun b o hb eb => (hs.2 b hb).trans eb) ⟨_, ho⟩⟩

theorem WP.newDict {Φ : Value → HM → Prop} (hb : h₀.NoLimit) (h : ∀ d, H d = none → (∀ {K : Type} [DecidableEq K] (knd : KeyKind prog w K), DictAt knd (upd H d (.dict [])) d []) → Φ (.ref d) (upd H d (.dict []))) : WP prog w h₀ A (eval (.Dict [] [] pos) env) H Φ := fun s Q E R k => by
  obtain ⟨D, R⟩ := R
  refine wpAny_Dict_empty ?_
  refine k _ _ _ _ ⟨D, R.push (x := .dict []) rfl ⟨0, Heap.get?_push_size _ rfl⟩⟩ (h _ (R.none_of (Heap.get?_none_of_le (Nat.le_refl _))) fun knd => ⟨?_, [], upd_self, fun e he => by simp at he, .nil, List.nodup_nil⟩)
  exact beq_eq_false_iff_ne.mpr (Nat.ne_of_gt (Nat.lt_of_lt_of_le (modules_low hb) R.above))
theorem WP.dMeth {name : Str} {id : String} {pl : Sem Bool} {Ψ : Value × List Value → HM → Prop} (hl : DictAt knd H d kvs) (slot : Slot "dict" name id) (hty : typeOf (.builtin id) = Pure.pure (.type "method_descriptor")) (h : Ψ (.builtin id, [.ref d]) H) :
    WP prog w h₀ A (getMethod (.ref d) name pl) H Ψ := fun s Q E R k =>
  have hD := hl.of R
  getMethod_builtin hD.typeIs PySem.F.plainAttrs_dict slot hty hD.mapOf.noDict (k _ H s.heap s.toks R h)
theorem WP.dSet {Φ : Unit → HM → Prop} (x : DictAt knd H d kvs) (hkey : knd.is k key = true) (hz : kvs.length ≤ 1000) (h : ∀ es, DictAt knd (upd H d (.dict es)) d (stored kvs k v) → Φ () (upd H d (.dict es))) : WP prog w h₀ A (setItem (.ref d) key v) H Φ := fun s Q E R kk => by
  refine wpAny_setItem_pairs (knd := knd) (hsz := by rw [sizeLine_eq]; omega) hkey (x.of R) fun h' hd hs => ?_
  obtain ⟨es, x', R'⟩ := x.turn R hs hd
  exact kk _ _ _ _ R' (h es x')
theorem WP.dGet {Φ : Value → HM → Prop} (x : DictAt knd H d kvs) (hkey : knd.is k key = true) (h : Φ ((valueAt kvs k).getD .none) H) : WP prog w h₀ A (PySem.call (.builtin "dict.get") [.ref d, key]) H Φ := fun s Q E R kk =>
  have hD := x.of R
  call_meetsIn PySem.F.slot_dict_get hD.typeIs PySem.F.entry_dict_get (PySem.F.args_dict_get_2 _ _) (meets_dict_get knd d hkey x.1) ⟨_, hD.mapOf, kk _ H s.heap _ R h⟩
theorem WP.dPop {dflt : Value} {Φ : Value → HM → Prop} (x : DictAt knd H d kvs) (hkey : knd.is k key = true) (hpart : (keyPart key).isSome = true) (hv : valueAt kvs k = some v) (hz : kvs.length ≤ 1000) (h : ∀ es, DictAt knd (upd H d (.dict es)) d (without kvs k) → Φ v (upd H d (.dict es))) :
    WP prog w h₀ A (PySem.call (.builtin "dict.pop") [.ref d, key, dflt]) H Φ := fun s Q E R kk => by
  have hD := x.of R
  refine call_meetsIn PySem.F.slot_dict_pop hD.typeIs PySem.F.entry_dict_pop (PySem.F.args_dict_pop_3 _ _ _) (meets_dict_pop_there knd d hkey [dflt] (.inr ⟨_, rfl⟩) hpart) ⟨kvs, v, hD, by rw [sizeLine_eq]; omega, hv, fun h' hd hs => ?_⟩
  obtain ⟨es, x', R'⟩ := x.turn R hs hd
  exact kk _ _ _ _ R' (h es x')
theorem WP.dIn {Φ : Value → HM → Prop} (x : DictAt knd H d kvs) (hkey : knd.is k key = true) (h : Φ (.bool (valueAt kvs k).isSome) H) : WP prog w h₀ A (compareOp .In key (.ref d)) H Φ := fun s Q E R kk =>
  wpAny_in_of (knd := knd) hkey x.1 (x.of R).mapOf (kk _ H s.heap _ R h)
theorem WP.dItem {value slice : Expr} {Φ : Value → HM → Prop} (x : DictAt knd H d kvs) (hkey : knd.is k key = true) (hv : valueAt kvs k = some v) (h : Φ v H)
    (hs : subscripted slice false (.ref d) key = PySem.operate [.ref d, key] (getItem (.ref d) key) := by with_unfolding_all rfl) : WP prog w h₀ A (subscriptTail value slice (.ref d) key) H Φ := fun s Q E R kk => by
  have hD := x.of R
  exact tail_any hD.typeIs PySem.F.slot_dict_getitem.lookup (wpAny_getItem_of (knd := knd) hkey hD.mapOf hv (kk _ H s.heap _ R h)) hs
/-- list(d) -/
theorem WP.dList {Φ : Value → HM → Prop} (hh : A.handled = none) (x : DictAt knd H d kvs) (hz : kvs.length ≤ 1000)
    (h : ∀ q vs, H q = none → vs.length = kvs.length → (∀ (j : Nat) v, vs[j]? = some v → ∃ k y, kvs[j]? = some (k, y) ∧ knd.is k v = true) → Φ (.ref q) (upd H q (.list vs))) : WP prog w h₀ A (PySem.call (.type "list") [.ref d]) H Φ := fun s Q E R kk => by
  obtain ⟨ep, hat⟩ := (x.of R).dictAt
  obtain ⟨D, R⟩ := R
  refine kdl_call (kdl_dict (knd := knd) (kvs := kvs) (ep := ep) x.1) hh hat (by rw [sizeLine_eq]; omega) fun h' tk acc' c' hk hS hi => ?_
  have hq : s.heap.get? s.heap.objs.size = none := Heap.get?_none_of_le (Nat.le_refl _)
  refine kk _ _ h' tk ⟨D, R.new (x := .list acc'.toList) hq rfl hk (R.fresh0 (Nat.le_refl _)) (fun b C kv e z => absurd (R.Dpresent e) (by rw [z]; exact Nat.lt_irrefl _)) ⟨c', by simpa using hS⟩⟩ (h _ _ (R.none_of hq) ?_ fun j v hv => ?_)
  · rw [Array.length_toList]; exact hi.1
  · exact hi.2 j v (by rw [← Array.getElem?_toList]; exact hv)
end
end Mine
end
section
open PySem PySem.W PyProof.Rows PySem.Calls
namespace Mine

/-- all is kept but at ds -/
def But (ds : List Addr) (H H' : HM) : Prop := ∀ a y, H a = some y → a ∉ ds → H' a = some y
section
variable {ds : List Addr} {H H' H'' : HM} {a q : Addr} {x y : AObj}
theorem But.refl : But ds H H := fun _ _ h _ => h
theorem But.trans (u : But ds H H') (v : But ds H' H'') : But ds H H'' := fun a y h n => v a y (u a y h n) n
theorem Ext.but (e : Ext H H') : But ds H H' := fun a y h _ => e a y h
theorem But.ext (u : But [] H H') : Ext H H' := fun a y h => u a y h (by simp)
theorem But.new (u : But ds H H') (h : H q = none) : But ds H (upd H' q x) := fun a y ha n => by
  rw [upd_ne (fun z => by rw [z, h] at ha; cases ha)]; exact u a y ha n
theorem But.gone (u : But ds H H') (h : H q = none) : But ds H (del H' q) := fun a y ha n => by
  rw [del_ne (fun z => by rw [z, h] at ha; cases ha)]; exact u a y ha n
theorem But.loc {L : Addr} (u : But ds H H') (h : H L = none) (e : ∀ b, b ≠ L → H'' b = H' b) : But ds H H'' := fun a y ha n => by
  rw [e a (fun z => by rw [z, h] at ha; cases ha)]; exact u a y ha n
end

/-- the frame's own names: locals and cells -/
def Own (env : Env) (a : Addr) : Prop := a = env.locals ∨ ∃ n, env.cells.lookup n = some a
structure FrC (H : HM) (env : Env) (f cm : Str → Option Value) : Prop where
  loc : H env.locals = some (.ns f)
  cell : ∀ n c, env.cells.lookup n = some c → H c = some (.cell (cm n))
  apart : ∀ n n' c, env.cells.lookup n = some c → env.cells.lookup n' = some c → n = n'
def Upd1 (env : Env) (H H' : HM) : Prop := ∀ b, ¬Own env b → H' b = H b
def notOwn : AObj → Bool
  | .ns _ => false
  | .cell _ => false
  | _ => true
section
variable {H H' H0 : HM} {env : Env} {f cm : Str → Option Value} {ds : List Addr}
theorem FrC.but (F : FrC H env f cm) (h : But ds H H') (hd : ∀ d ∈ ds, ¬Own env d) : FrC H' env f cm :=
  ⟨h _ _ F.loc fun z => hd _ z (.inl rfl), fun n c hc => h _ _ (F.cell n c hc) fun z => hd _ z (.inr ⟨n, hc⟩), F.apart⟩
theorem FrC.ext (F : FrC H env f cm) (h : Ext H H') : FrC H' env f cm := F.but (ds := []) h.but (by simp)
theorem FrC.ne (F : FrC H env f cm) {a : Addr} {y : AObj} (h : H a = some y) (hy : notOwn y = true) : ¬Own env a := by
  rintro (rfl | ⟨n, hc⟩)
  · rw [F.loc] at h; cases h; cases hy
  · rw [F.cell n a hc] at h; cases h; cases hy
theorem Upd1.keep (u : Upd1 env H H') (F : FrC H env f cm) {a : Addr} {y : AObj} (h : H a = some y) (hy : notOwn y = true) : H' a = some y := (u a (F.ne h hy)).trans h
theorem Upd1.but (u : Upd1 env H H') (b : But ds H0 H) (h0 : ∀ a, Own env a → H0 a = none) : But ds H0 H' := fun a y ha n => by
  rw [u a (fun z => by rw [h0 a z] at ha; cases ha)]; exact b a y ha n
theorem Upd1.trans {H'' : HM} (u : Upd1 env H H') (v : Upd1 env H' H'') : Upd1 env H H'' := fun b hb => (v b hb).trans (u b hb)
end

section
variable {prog : Program} {w : World} {h₀ : Heap} {A : Around} {H : HM} {env : Env} {f cm : Str → Option Value} {x : Str} {v : Value}

theorem WP.fcL {Φ : Value → HM → Prop} (F : FrC H env f cm) (hv : f x = some v) (h : Φ v H) (hk : env.scope.kind = .function := by rfl) (hx : env.kindOf x = some .local := by rfl) : WP prog w h₀ A (loadName env x) H Φ := WP.loadL F.loc hv h hk hx
theorem WP.fcC {Φ : Value → HM → Prop} (F : FrC H env f cm) (hv : cm x = some v) (h : Φ v H) (hc : (env.cells.lookup x).isSome = true := by rfl) (hk : env.scope.kind = .function := by rfl) (hx : env.kindOf x = some .cell := by rfl) : WP prog w h₀ A (loadName env x) H Φ := by
  obtain ⟨c, hc⟩ := Option.isSome_iff_exists.mp hc
  exact WP.loadC hc (by rw [F.cell x c hc, hv]) h hk hx
theorem WP.fsL {Φ : Unit → HM → Prop} (F : FrC H env f cm) (h : ∀ H', FrC H' env (fun y => if y = x then some v else f y) cm → Upd1 env H H' → Φ () H') (hx : env.kindOf x = some .local := by rfl)
    (hp : (env.scope.kind == .class || (env.scope.kind == .module && env.locals != env.globals)) = false := by rfl) : WP prog w h₀ A (storeName env x v) H Φ := by
  refine WP.stL F.loc (h _ ⟨upd_self, fun n c hc => ?_, F.apart⟩ fun b hb => upd_ne fun z => hb (.inl z)) hx hp
  rw [upd_ne (ne_of' (F.cell n c hc) F.loc (by simp))]; exact F.cell n c hc
where
  ne_of' {H : HM} {a b : Addr} {x y : AObj} (h : H a = some x) (h' : H b = some y) (hn : x ≠ y) : a ≠ b := fun z => by subst z; rw [h] at h'; exact hn (Option.some.inj h')
theorem WP.fsC {Φ : Unit → HM → Prop} (F : FrC H env f cm) (h : ∀ H', FrC H' env f (fun y => if y = x then some v else cm y) → Upd1 env H H' → Φ () H') (hc : (env.cells.lookup x).isSome = true := by rfl) (hk : env.scope.kind = .function := by rfl)
    (hx : env.kindOf x = some .cell := by rfl) : WP prog w h₀ A (storeName env x v) H Φ := by
  obtain ⟨c, hc⟩ := Option.isSome_iff_exists.mp hc
  refine WP.stC hc (F.cell x c hc) (h _ ⟨?_, fun n c' hc' => ?_, F.apart⟩ fun b hb => upd_ne fun z => hb (.inr ⟨x, z ▸ hc⟩)) hk hx
  · rw [upd_ne (WP.fsL.ne_of' F.loc (F.cell x c hc) (by simp))]; exact F.loc
  · by_cases e : n = x
    · subst e
      rw [hc] at hc'; cases hc'
      rw [upd_self, if_pos rfl]
    · rw [if_neg e, upd_ne (fun z => e (F.apart n x c' hc' (by rw [z]; exact hc)))]; exact F.cell n c' hc'

/-- the frame of a function with cells of its own -/
abbrev envC (qual : Str) (scope : Scope) (L fa : Addr) (cdv : Value) : Env := newEnv scope L mainGlobals (cellsFrom (L + 1) scope.names []) (qual ++ ".<locals>.") (some fa) cdv none builtinsNs
/-- a function of K with cells of its own -/
theorem WC.fnC {K : Frag} {fa : Addr} {oc ct dV kV doc pm cdv : Value} {od an : Option Addr} {osl : Array (Option Value)} {name qual : Str} {params : Arguments} {body : List Stmt} {scope : Scope} {args : List Value} {binds : List (Str × Value)} {n : Nat} {Φ : Value → HM → Prop}
    (B : Bs K h₀) (o : Ok A n) (hn : n < 900) (ho : K.lookup fa = some ⟨oc, od, .func (fnX name qual params body scope [] dV kV doc pm an cdv ct), osl⟩) (hcd : codeIn K cdv qual = true)
    (hbind : bindArgs (fnX name qual params body scope [] dV kV doc pm an cdv ct) ⟨args, []⟩ = Pure.pure binds)
    (hkind : ∀ L, ∀ x ∈ binds, scope.names.lookup x.1 = some .local ∨ (scope.names.lookup x.1 = some .cell ∧ ((cellsFrom (L + 1) scope.names []).lookup x.1).isSome = true))
    (h : ∀ L A' H1, Ok A' (n + 1) → Ext H H1 → (∀ a, Own (envC qual scope L fa cdv) a → H a = none) →
      FrC H1 (envC qual scope L fa cdv) (bindL (envC qual scope L fa cdv).kindOf binds fun _ => none) (bindC (envC qual scope L fa cdv).kindOf binds fun _ => none) →
      WP prog w h₀ A' (execs body (envC qual scope L fa cdv)) H1 fun fl H' => Φ (retOf fl) H')
    (hco : scope.isCoroutine = false := by rfl) (hgen : scope.isGenerator = false := by rfl) (hk : scope.kind = .function := by rfl) : WC prog w h₀ A (.call (.ref fa) ⟨args, []⟩) H fun fl H' => ∃ v, fl = .ret v ∧ Φ v H' := fun s R Rp k => by
  refine codeAny_call_cells (fd := fnX name qual params body scope [] dV kV doc pm an cdv ct) (body := body) (binds := binds) (o.room (by omega)) (Rp.keep _ _ (B.X _ _ ho)) rfl (B.lim.keeps Rp.keep) (codeRec_of (B.X.keeps Rp.keep) hcd) rfl hbind rfl (hkind _) (fun s₁ X => ?_) hco hgen hk
  obtain ⟨h', tk, rfl, hk'⟩ := X.done
  change InCallC s (envC qual scope s.heap.objs.size fa cdv).locals (bindL (envC qual scope s.heap.objs.size fa cdv).kindOf binds fun _ => none) (envC qual scope s.heap.objs.size fa cdv).cells (bindC (envC qual scope s.heap.objs.size fa cdv).kindOf binds fun _ => none) _ at X
  have hb := h s.heap.objs.size (A.deeper (callEnvC (fnX name qual params body scope [] dV kV doc pm an cdv ct) s.heap.objs.size fa))
  change wpAny _ _ (execs body (envC qual scope s.heap.objs.size fa cdv)) _ _ _
  generalize hE : envC qual scope s.heap.objs.size fa cdv = E at X hb ⊢
  have hLoc : E.locals = s.heap.objs.size := by rw [← hE]; rfl
  obtain ⟨D, R⟩ := Rp
  have inj : ∀ n n' c, E.cells.lookup n = some c → E.cells.lookup n' = some c → n = n' := fun n n' c h1 h2 => name_of_addr X.apart (mem_of_lookup h1) (mem_of_lookup h2)
  have above : ∀ n c, E.cells.lookup n = some c → s.heap.objs.size < c := fun n c hc => hLoc ▸ X.above n c (mem_of_lookup hc)
  classical
  let H1 : HM := fun b => if b = E.locals then some (.ns (bindL E.kindOf binds fun _ => none)) else if hc : ∃ n, E.cells.lookup n = some b then some (.cell (bindC E.kindOf binds (fun _ => none) hc.choose)) else H b
  have hfr : ∀ a, Own E a → s.heap.objs.size ≤ a := by
    rintro a (rfl | ⟨n, hc⟩)
    · rw [hLoc]; exact Nat.le_refl _
    · exact Nat.le_of_lt (above n a hc)
  have hno : ∀ a, Own E a → H a = none := fun a ha => R.none_of (Heap.get?_none_of_le (hfr a ha))
  have out : ∀ b, ¬Own E b → H1 b = H b := fun b hb => by
    show (if _ then _ else _) = _
    rw [if_neg (fun z => hb (.inl z)), dif_neg (fun z => hb (.inr z))]
  have e1 : H1 E.locals = some (.ns (bindL E.kindOf binds fun _ => none)) := if_pos rfl
  have e2 : ∀ n c, E.cells.lookup n = some c → H1 c = some (.cell (bindC E.kindOf binds (fun _ => none) n)) := fun n c hc => by
    show (if _ then _ else _) = _
    have hx : ∃ n, E.cells.lookup n = some c := ⟨n, hc⟩
    rw [if_neg (by rw [hLoc]; exact Nat.ne_of_gt (above n c hc)), dif_pos hx, inj _ _ c hx.choose_spec hc]
  have R1 : RepD h₀ H1 h' D := R.multi (Own E) (fun b hb => .inr (hfr b hb)) (fun b o _ eb => hk' b o eb) out fun b hb => by
    rcases hb with rfl | ⟨n, hc⟩
    · exact ⟨_, e1, rfl, X.toInCall.ns, by rw [hLoc]; exact R.above⟩
    · exact ⟨_, e2 n b hc, rfl, X.cell n b hc⟩
  have ext1 : Ext H H1 := fun a y ha => by rw [out a (fun z => by rw [hno a z] at ha; cases ha)]; exact ha
  have F1 : FrC H1 E (bindL E.kindOf binds fun _ => none) (bindC E.kindOf binds fun _ => none) := ⟨e1, e2, inj⟩
  refine hb H1 (o.deeper _) ext1 hno F1 _ _ _ ⟨D, R1⟩ fun fl H' h'' tk' R' p => ?_
  have := k (.ret (retOf fl)) H' h'' tk' R' ⟨_, rfl, p⟩
  cases fl <;> exact this
end
end Mine
end
section
open PySem PySem.W PyProof.Rows PySem.Calls
namespace Mine
section
variable {prog : Program} {w : World} {h₀ : Heap} {A : Around} {H : HM} {env : Env} {pos : Pos}

/-- what an iterator gives: n draws, the k-th of them by P -/
structure Draw (prog : Program) (w : World) (h₀ : Heap) (A : Around) (own : Addr) (n : Nat) (itO : Nat → AObj) (Src : HM → Prop) (P : Nat → Value → Prop) : Prop where
  calm0 : ∀ k, isInst (itO k) = false ∧ (∀ m, itO k ≠ .ns m) ∧ ∀ vs, itO k ≠ .list vs
  self : ∀ k H, H own = some (itO k) → WP prog w h₀ A (pyIter (.ref own)) H fun x H' => x = .ref own ∧ H' = H
  next : ∀ k H, k < n → H own = some (itO k) → Src H → WP prog w h₀ A (pyNext (.ref own)) H fun r H' => ∃ v, r = some v ∧ P k v ∧ H' = upd H own (itO (k + 1))
  done : ∀ H, H own = some (itO n) → Src H → WP prog w h₀ A (pyNext (.ref own)) H fun r H' => r = none ∧ H' = del H own

theorem WP.iterIter {Φ : Value → HM → Prop} {q l : Addr} {i : Nat} (hq : H q = some (.iter l i)) (h : Φ (.ref q) H) : WP prog w h₀ A (pyIter (.ref q)) H Φ := fun s Q E R k => by
  obtain ⟨D, R'⟩ := R
  exact wpAny_pyIter_listiter (R'.at_ _ _ hq) (k _ H s.heap s.toks ⟨D, R'⟩ h)

theorem But.upd {ds : List Addr} {H : HM} {a : Addr} {x : AObj} (h : a ∈ ds) : But ds H (upd H a x) := fun b y hb n => by
  rw [upd_ne (fun z => n (by rw [z]; exact h))]; exact hb
theorem But.del {ds : List Addr} {H : HM} {a : Addr} (h : a ∈ ds) : But ds H (del H a) := fun b y hb n => by
  rw [del_ne (fun z => n (by rw [z]; exact h))]; exact hb

theorem Draw.list {q l : Addr} {vs : List Value} (hh : A.handled = none) : Draw prog w h₀ A q vs.length (fun k => .iter l k) (fun H => H l = some (.list vs)) (fun k v => vs[k]? = some v) where
  calm0 _ := ⟨rfl, fun _ => nofun, fun _ => nofun⟩
  self _ _ h := WP.iterIter h ⟨rfl, rfl⟩
  next k H hk h hs := WP.nextL (v := vs[k]) h hs (List.getElem?_eq_getElem hk) ⟨_, rfl, List.getElem?_eq_getElem hk, rfl⟩
  done H h hs := WP.endL hh h hs (by simp) ⟨rfl, rfl⟩

abbrev rangeO (n : Int) (t u v : Tok) : Obj := { cls := .type "range", dict := none, data := .fields #[.int 0 t, .int n u, .int 1 v], slots := #[] }
abbrev rangeI (x left : Int) : Obj := { cls := .type "range_iterator", dict := none, data := .fields #[rawInt x, rawInt left, rawInt 1], slots := #[] }
theorem WP.range {Φ : Value → HM → Prop} {n : Int} {t : Tok} (h : ∀ q a b, H q = none → Φ (.ref q) (upd H q (.raw (rangeO n a t b)))) : WP prog w h₀ A (PySem.call (.type "range") [.int n t]) H Φ := fun s Q E R k => by
  obtain ⟨D, R⟩ := R
  refine PySem.call_range_1 ?_
  exact k _ _ _ _ ⟨D, R.push (x := .raw (rangeO n s.toks t (s.toks + 1))) rfl (Heap.get?_push_size _ rfl)⟩ (h _ _ _ (R.none_of (Heap.get?_none_of_le (Nat.le_refl _))))
theorem WP.rangeIt {Φ : Value → HM → Prop} {q : Addr} {n : Nat} {t u v : Tok} (hq : H q = some (.raw (rangeO n t u v))) (hn : n ≤ 1000) (h : ∀ i, H i = none → Φ (.ref i) (upd H i (.raw (rangeI 0 n)))) : WP prog w h₀ A (pyIter (.ref q)) H Φ := fun s Q E R k => by
  have hr := R.raw hq
  obtain ⟨D, R⟩ := R
  have hsz : Builtin.Range.rangeSize 0 (n : Int) 1 = n := by rw [PySem.rangeSize_one]; split <;> omega
  refine PySem.wpAny_pyIter_range hr ?_ ?_
  · unfold Builtin.Range.small
    rw [hsz]
    unfold Builtin.Range.rangeFitsLong
    simp
    omega
  · rw [hsz]
    exact k _ _ _ s.toks ⟨D, R.push (x := .raw (rangeI 0 n)) rfl (Heap.get?_push_size _ rfl)⟩ (h _ (R.none_of (Heap.get?_none_of_le (Nat.le_refl _))))
theorem Draw.range {q : Addr} {n : Nat} (hh : A.handled = none) : Draw prog w h₀ A q n (fun k => .raw (rangeI k ((n : Int) - k))) (fun _ => True) (fun k v => ∃ t, v = .int k t) where
  calm0 _ := ⟨rfl, fun _ => nofun, fun _ => nofun⟩
  self _ _ h := fun s Q E R k => PySem.wpAny_pyIter_rangeiter (R.raw h) (k _ _ _ s.toks R ⟨rfl, rfl⟩)
  next k H hk h _ := fun s Q E R kk => by
    have hr := R.raw h
    obtain ⟨D, R⟩ := R
    refine PySem.wpAny_pyNext_range_item hr (by omega) fun h' hi hs => ?_
    refine kk _ (upd H q (.raw (rangeI ((k : Int) + 1) ((n : Int) - k - 1)))) h' _ ⟨D, R.put (x' := .raw (rangeI ((k : Int) + 1) ((n : Int) - k - 1))) h rfl rfl (fun ⟨_, e⟩ => by cases e) (fun b o hb eb => (hs.2 b hb).trans eb) hi⟩ ⟨_, rfl, ⟨_, rfl⟩, ?_⟩
    have e : ((n : Int) - k - 1) = (n : Int) - ((k + 1 : Nat) : Int) := by omega
    rw [e]; rfl
  done H h _ := fun s Q E R kk => by
    have hr := R.raw h
    obtain ⟨D, R⟩ := R
    refine PySem.wpAny_pyNext_range_end hh hr (by omega) fun h' hs => ?_
    exact kk _ _ h' s.toks ⟨D, R.del h rfl (.inl fun _ => nofun) (fun b o hb eb => hs b o hb eb)⟩ ⟨rfl, rfl⟩

/-- a comprehension's own state -/
def CompI (prog : Program) (w : World) (h₀ : Heap) (A : Around) (H : HM) (env : Env) (N : Nat) (itO : Nat → AObj) (Src : HM → Prop) (P : Nat → Value → Prop) (J : (Addr → Prop) → Nat → List Value → HM → Prop) (it : Value) (acc C : Addr) (n : Nat) (H' : HM) : Prop :=
  ∃ own k ws m, it = .ref own ∧ Draw prog w h₀ A own N itO Src P ∧ k ≤ N ∧ n = N - k ∧ ws.length ≤ k ∧ H' own = some (itO k) ∧ H' acc = some (.list ws) ∧ H' C = some (.ns m) ∧ H acc = none ∧ H C = none ∧ H own = none ∧ acc ≠ C ∧ J (fun a => a = acc ∨ a = C ∨ a = own) k ws H'

theorem compJ {elt iter : Expr} {ifs : List Expr} {scope : Scope} {cl : List (Str × Addr)} {x : Str} {px : Pos} {use : Option (Value → Sem Unit)} {Φ : Value → HM → Prop} {N : Nat} {itO : Nat → AObj} {Src : HM → Prop} {P : Nat → Value → Prop} (J : (Addr → Prop) → Nat → List Value → HM → Prop)
    (hN : N ≤ 1000)
    (hJ : ∀ fb k ws H1, J fb k ws H1 → Src H1 ∧ ∃ m, H1 env.locals = some (.ns m)) (hL0 : H env.locals ≠ none)
    (stab : ∀ fb k ws H1 H2, J fb k ws H1 → (∀ a y, ¬fb a → H1 a = some y → H2 a = some y) → J fb k ws H2)
    (hclos : closureFor scope env = pure cl) (hcell : ∀ y ∈ scope.names, y.2 ≠ .cell) (hkind : scope.kind = .function) (hnames : ∀ x ∈ scope.names, x.2 = .local → scope.names.lookup x.1 = some .local)
    (hlt : ∀ it v, letOwnedTupleGo (.Name x px) it v = pure ()) (hx : ∀ C, (compEnvC scope cl C env).kindOf x = some .local) (hp : ∀ C, ((compEnvC scope cl C env).scope.kind == .class || ((compEnvC scope cl C env).scope.kind == .module && (compEnvC scope cl C env).locals != (compEnvC scope cl C env).globals)) = false) (hloc : ∀ C, (compEnvC scope cl C env).locals = C)
    (hi : WP prog w h₀ A (eval iter env) H fun xv H1 => WP prog w h₀ A (pyIter xv) H1 fun it H2 => (∀ a y, H a = some y → ∃ z, H2 a = some z) ∧ ∃ own, it = .ref own ∧ Draw prog w h₀ A own N itO Src P ∧ H own = none ∧ H2 own = some (itO 0) ∧ ∀ fb H3, (∀ a, fb a → H a = none) → (∀ a y, ¬fb a → H2 a = some y → H3 a = some y) → J fb 0 [] H3)
    (turn : ∀ fb C k v ws H1 f, k < N → P k v → J fb k ws H1 → (∀ a, fb a → H a = none) → (∀ a, fb a → H1 a ≠ none) → fb C → H1 C = some (.ns f) → f x = some v →
      WP prog w h₀ A (tests ifs (compEnvC scope cl C env)) H1 fun ok H2 => (∀ a y, fb a → H1 a = some y → H2 a = some y) ∧
        if ok then WP prog w h₀ A (eval elt (compEnvC scope cl C env)) H2 fun y H3 => (∀ a z, fb a → H2 a = some z → H3 a = some z) ∧ J fb (k + 1) (ws ++ [y]) H3 else J fb (k + 1) ws H2)
    (fin : ∀ acc C fb ws H1, J fb N ws H1 → (∀ a, fb a → H a = none) → fb acc → fb C → acc ≠ C → ws.length ≤ N → H1 acc = some (.list ws) → (∃ m, H1 C = some (.ns m)) → (∃ L m, L ≠ C ∧ H1 L = some (.ns m)) → match use with
      | none => Φ (.ref acc) (del H1 C)
      | some u => WP prog w h₀ A (u (.ref acc)) H1 fun _ H2 => (∃ m, H2 C = some (.ns m)) ∧ (∃ L m, L ≠ C ∧ H2 L = some (.ns m)) ∧ Φ .none (del H2 C))
    (hs : ∀ x, foldedSetIterable iter env x = pure x) :
    WP prog w h₀ A (comprehension (.ListComp elt [⟨.Name x px, iter, ifs, 0⟩] scope pos) scope env (firstIterPos [⟨.Name x px, iter, ifs, 0⟩] pos) (newList []) false (eval iter env) use) H Φ := by
  refine comp_any (CompI prog w h₀ A H env N itO Src P J) (fun acc C H1 => ∃ ws fb, J fb N ws H1 ∧ (∀ a, fb a → H a = none) ∧ fb acc ∧ fb C ∧ acc ≠ C ∧ ws.length ≤ N ∧ H1 acc = some (.list ws) ∧ ∃ m, H1 C = some (.ns m)) hclos hcell hkind hnames ?_ ?_ ?_ hs
  · refine hi.mono fun xv H1 h => h.mono fun it H2 ⟨dom, own, e, D, ho0, ho, hJ0⟩ acc C ha hC hne => ?_
    subst e
    have ha0 : H acc = none := by
      cases q : H acc with
      | none => rfl
      | some y => obtain ⟨z, hz⟩ := dom acc y q; rw [ha] at hz; cases hz
    have hC0 : H C = none := by
      cases q : H C with
      | none => rfl
      | some y => obtain ⟨z, hz⟩ := dom C y q; rw [hC] at hz; cases hz
    have noa : own ≠ acc := fun z => by rw [z, ha] at ho; cases ho
    have noC : own ≠ C := fun z => by rw [z, hC] at ho; cases ho
    have ho' : upd (upd H2 acc (.list [])) C (.ns fun _ => none) own = some (itO 0) := by rw [upd_ne noC, upd_ne noa]; exact ho
    have I0 : CompI prog w h₀ A H env N itO Src P J (.ref own) acc C N (upd (upd H2 acc (.list [])) C (.ns fun _ => none)) :=
      ⟨own, 0, [], _, rfl, D, Nat.zero_le _, rfl, Nat.le_refl _, ho', by rw [upd_ne hne, upd_self], upd_self, ha0, hC0, ho0, hne, hJ0 _ _ (by rintro a (rfl | rfl | rfl); exact ha0; exact hC0; exact ho0) fun a y hfa hy => by
        rw [upd_ne (fun z => hfa (.inr (.inl z))), upd_ne (fun z => hfa (.inl z))]; exact hy⟩
    exact ⟨(D.self _ _ ho').mono fun x H' ⟨e1, e2⟩ => by subst e1 e2; exact ⟨rfl, N, I0⟩, N, I0⟩
  · rintro it acc C n H1 ⟨own, k, ws, m, rfl, D, hk, rfl, hw, ho, hacc, hC, ha0, hC0, ho0, hne, hj⟩
    have noa : acc ≠ own := fun z => by rw [z, ho] at hacc; exact (D.calm0 k).2.2 _ (Option.some.inj hacc)
    have noC : C ≠ own := fun z => by rw [z, ho] at hC; exact (D.calm0 k).2.1 _ (Option.some.inj hC)
    have hfb : ∀ a, (a = acc ∨ a = C ∨ a = own) → H a = none := by rintro a (rfl | rfl | rfl); exact ha0; exact hC0; exact ho0
    by_cases hkN : k < N
    · refine (D.next k H1 hkN ho (hJ _ _ _ _ hj).1).mono fun r H2 ⟨v, e, hv, e2⟩ => ?_
      subst e e2
      refine WP.of_eq (hlt _ _) (WP.pure ?_)
      have hC2 : upd H1 own (itO (k + 1)) (compEnvC scope cl C env).locals = some (.ns m) := by rw [hloc, upd_ne noC]; exact hC
      refine WP.aName (WP.stL hC2 ?_ (hx C) (hp C))
      rw [hloc]
      have hj3 : J (fun a => a = acc ∨ a = C ∨ a = own) k ws (upd (upd H1 own (itO (k + 1))) C (.ns fun y => if y = x then some v else m y)) := stab _ _ _ _ _ hj fun a y hfa hy => by
        rw [upd_ne (fun z => hfa (.inr (.inl z))), upd_ne (fun z => hfa (.inr (.inr z)))]; exact hy
      have ho3 : upd (upd H1 own (itO (k + 1))) C (.ns fun y => if y = x then some v else m y) own = some (itO (k + 1)) := by rw [upd_ne (Ne.symm noC), upd_self]
      have hacc3 : upd (upd H1 own (itO (k + 1))) C (.ns fun y => if y = x then some v else m y) acc = some (.list ws) := by rw [upd_ne hne, upd_ne noa]; exact hacc
      refine (turn _ C k v ws _ _ hkN hv hj3 hfb (by rintro a (rfl | rfl | rfl) z; rw [hacc3] at z; cases z; rw [upd_self] at z; cases z; rw [ho3] at z; cases z) (.inr (.inl rfl)) upd_self (if_pos rfl)).mono fun ok H4 ⟨k4, h4⟩ => ?_
      cases ok with
      | false =>
        refine ⟨N - (k + 1), by omega, own, k + 1, ws, _, rfl, D, hkN, rfl, by omega, k4 _ _ (.inr (.inr rfl)) ho3, k4 _ _ (.inl rfl) hacc3, k4 _ _ (.inr (.inl rfl)) upd_self, ha0, hC0, ho0, hne, h4⟩
      | true =>
        refine WP.mono h4 fun y H5 ⟨k5, h5⟩ => ?_
        have kk : ∀ a y, (a = acc ∨ a = C ∨ a = own) → upd (upd H1 own (itO (k + 1))) C (.ns fun y => if y = x then some v else m y) a = some y → H5 a = some y := fun a y ha hy => k5 _ _ ha (k4 _ _ ha hy)
        refine WP.append (kk _ _ (.inl rfl) hacc3) ?_ (by omega)
        refine ⟨N - (k + 1), by omega, own, k + 1, ws ++ [y], (fun y' => if y' = x then some v else m y'), rfl, D, hkN, rfl, by rw [List.length_append, List.length_singleton]; omega, ?_, upd_self, ?_, ha0, hC0, ho0, hne, stab _ _ _ _ _ h5 fun a z hfa hz => ?_⟩
        · rw [upd_ne (Ne.symm noa)]; exact kk _ _ (.inr (.inr rfl)) ho3
        · rw [upd_ne (Ne.symm hne)]; exact kk _ _ (.inr (.inl rfl)) upd_self
        · rw [upd_ne (fun z => hfa (.inl z))]; exact hz
    · have hkk : k = N := by omega
      subst hkk
      refine (D.done H1 ho (hJ _ _ _ _ hj).1).mono fun r H2 ⟨e, e2⟩ => ?_
      subst e e2
      refine ⟨ws, _, stab _ _ _ _ _ hj fun a y hfa hy => ?_, hfb, .inl rfl, .inr (.inl rfl), hne, hw, ?_, m, ?_⟩
      · rw [del_ne (fun z => hfa (.inr (.inr z)))]; exact hy
      · rw [del_ne noa]; exact hacc
      · rw [del_ne noC]; exact hC
  · rintro acc C H1 ⟨ws, fb, hj, hfb, h1, h2, hne, hw, hacc, hC⟩
    obtain ⟨m, hL⟩ := (hJ _ _ _ _ hj).2
    have hLC : env.locals ≠ C := fun z => hL0 (by rw [z]; exact hfb C h2)
    have hl : ∃ L m, L ≠ C ∧ H1 L = some (.ns m) := ⟨_, m, hLC, hL⟩
    have := fin acc C fb ws H1 hj hfb h1 h2 hne hw hacc hC hl
    cases use with
    | none => exact ⟨hC, hl, this⟩
    | some u => exact this

section
variable {elt iter : Expr} {ifs : List Expr} {scope : Scope} {cl : List (Str × Addr)} {x : Str} {px : Pos} {N : Nat} {itO : Nat → AObj} {Src : HM → Prop} {P : Nat → Value → Prop}
/-- a comprehension's value, its list new -/
theorem WP.compV {Φ : Value → HM → Prop} (J : (Addr → Prop) → Nat → List Value → HM → Prop)
    (hN : N ≤ 1000) (hclos : closureFor scope env = Pure.pure cl)
    (hJ : ∀ fb k ws H1, J fb k ws H1 → Src H1 ∧ ∃ m, H1 env.locals = some (.ns m)) (hL0 : H env.locals ≠ none)
    (stab : ∀ fb k ws H1 H2, J fb k ws H1 → (∀ a y, ¬fb a → H1 a = some y → H2 a = some y) → J fb k ws H2)
    (hi : WP prog w h₀ A (eval iter env) H fun xv H1 => WP prog w h₀ A (pyIter xv) H1 fun it H2 => (∀ a y, H a = some y → ∃ z, H2 a = some z) ∧ ∃ own, it = .ref own ∧ Draw prog w h₀ A own N itO Src P ∧ H own = none ∧ H2 own = some (itO 0) ∧ ∀ fb H3, (∀ a, fb a → H a = none) → (∀ a y, ¬fb a → H2 a = some y → H3 a = some y) → J fb 0 [] H3)
    (turn : ∀ fb C k v ws H1 f, k < N → P k v → J fb k ws H1 → (∀ a, fb a → H a = none) → (∀ a, fb a → H1 a ≠ none) → fb C → H1 C = some (.ns f) → f x = some v →
      WP prog w h₀ A (tests ifs (compEnvC scope cl C env)) H1 fun ok H2 => (∀ a y, fb a → H1 a = some y → H2 a = some y) ∧
        if ok then WP prog w h₀ A (eval elt (compEnvC scope cl C env)) H2 fun y H3 => (∀ a z, fb a → H2 a = some z → H3 a = some z) ∧ J fb (k + 1) (ws ++ [y]) H3 else J fb (k + 1) ws H2)
    (fin : ∀ acc fb ws H1, J fb N ws H1 → (∀ a, fb a → H a = none) → fb acc → ws.length ≤ N → H1 acc = some (.list ws) → Φ (.ref acc) H1)
    (hcell : ∀ y ∈ scope.names, y.2 ≠ .cell := by decide) (hkind : scope.kind = .function := by rfl) (hnames : ∀ x ∈ scope.names, x.2 = .local → scope.names.lookup x.1 = some .local := by decide)
    (hlt : ∀ it v, letOwnedTupleGo (.Name x px) it v = Pure.pure () := by intro _ _; rfl) (hx : ∀ C, (compEnvC scope cl C env).kindOf x = some .local := by intro _; rfl)
    (hp : ∀ C, ((compEnvC scope cl C env).scope.kind == .class || ((compEnvC scope cl C env).scope.kind == .module && (compEnvC scope cl C env).locals != (compEnvC scope cl C env).globals)) = false := by intro _; rfl) (hloc : ∀ C, (compEnvC scope cl C env).locals = C := by intro _; rfl)
    (hs : ∀ x, foldedSetIterable iter env x = Pure.pure x := by intro _; rfl) : WP prog w h₀ A (eval (.ListComp elt [⟨.Name x px, iter, ifs, 0⟩] scope pos) env) H Φ :=
  compJ (use := none) J hN hJ hL0 stab hclos hcell hkind hnames hlt hx hp hloc hi turn (fun acc C fb ws H1 hj hfb ha hC hne hw hacc _ _ =>
    fin acc fb ws (del H1 C) (stab _ _ _ _ _ hj fun a y hfa hy => by rw [del_ne (fun z => hfa (by rw [z]; exact hC))]; exact hy) hfb ha hw (by rw [del_ne hne]; exact hacc)) hs

/-- y = [..] -/
theorem WP.asgV {y : Str} {py spos : Pos} {Φ : Flow → HM → Prop} (J : (Addr → Prop) → Nat → List Value → HM → Prop)
    (hN : N ≤ 1000) (hclos : closureFor scope env = Pure.pure cl)
    (hJ : ∀ fb k ws H1, J fb k ws H1 → Src H1 ∧ ∃ m, H1 env.locals = some (.ns m)) (hL0 : H env.locals ≠ none)
    (stab : ∀ fb k ws H1 H2, J fb k ws H1 → (∀ a y, ¬fb a → H1 a = some y → H2 a = some y) → J fb k ws H2)
    (hi : WP prog w h₀ A (eval iter env) H fun xv H1 => WP prog w h₀ A (pyIter xv) H1 fun it H2 => (∀ a y, H a = some y → ∃ z, H2 a = some z) ∧ ∃ own, it = .ref own ∧ Draw prog w h₀ A own N itO Src P ∧ H own = none ∧ H2 own = some (itO 0) ∧ ∀ fb H3, (∀ a, fb a → H a = none) → (∀ a y, ¬fb a → H2 a = some y → H3 a = some y) → J fb 0 [] H3)
    (turn : ∀ fb C k v ws H1 f, k < N → P k v → J fb k ws H1 → (∀ a, fb a → H a = none) → (∀ a, fb a → H1 a ≠ none) → fb C → H1 C = some (.ns f) → f x = some v →
      WP prog w h₀ A (tests ifs (compEnvC scope cl C env)) H1 fun ok H2 => (∀ a y, fb a → H1 a = some y → H2 a = some y) ∧
        if ok then WP prog w h₀ A (eval elt (compEnvC scope cl C env)) H2 fun y H3 => (∀ a z, fb a → H2 a = some z → H3 a = some z) ∧ J fb (k + 1) (ws ++ [y]) H3 else J fb (k + 1) ws H2)
    (fin : ∀ acc fb ws H1, J fb N ws H1 → (∀ a, fb a → H a = none) → fb acc → ws.length ≤ N → H1 acc = some (.list ws) →
      WP prog w h₀ A (assign (.Name y py) env (.ref acc)) H1 fun _ H2 => (∀ a z, fb a → H1 a = some z → H2 a = some z) ∧ (∃ m, H2 env.locals = some (.ns m)) ∧ ∀ H3, (∀ a z, ¬(fb a ∧ a ≠ acc) → H2 a = some z → H3 a = some z) → Φ .next H3)
    (hsw : swapsWith (.ListComp elt [⟨.Name x px, iter, ifs, 0⟩] scope pos) (some (.Name y py)) spos.line env = Pure.pure true := by rfl)
    (hcell : ∀ y ∈ scope.names, y.2 ≠ .cell := by decide) (hkind : scope.kind = .function := by rfl) (hnames : ∀ x ∈ scope.names, x.2 = .local → scope.names.lookup x.1 = some .local := by decide)
    (hlt : ∀ it v, letOwnedTupleGo (.Name x px) it v = Pure.pure () := by intro _ _; rfl) (hx : ∀ C, (compEnvC scope cl C env).kindOf x = some .local := by intro _; rfl)
    (hp : ∀ C, ((compEnvC scope cl C env).scope.kind == .class || ((compEnvC scope cl C env).scope.kind == .module && (compEnvC scope cl C env).locals != (compEnvC scope cl C env).globals)) = false := by intro _; rfl) (hloc : ∀ C, (compEnvC scope cl C env).locals = C := by intro _; rfl)
    (hs : ∀ x, foldedSetIterable iter env x = Pure.pure x := by intro _; rfl) : WP prog w h₀ A (exec (.Assign [.Name y py] (.ListComp elt [⟨.Name x px, iter, ifs, 0⟩] scope pos) spos) env) H Φ := fun s Q E R k => by
  rw [exec_Assign_Name_used _ _ _ _ hsw]
  refine wpAny_bind (wpAny_standAt (wpAny_bind ?_))
  show wpAny _ A (do let _ ← comprehension (.ListComp elt [⟨.Name x px, iter, ifs, 0⟩] scope pos) scope env _ (PySem.newList []) false (eval iter env) (some (assign (.Name y py) env))) _ _ s
  refine wpAny_bind (compJ (use := some (assign (.Name y py) env)) (Φ := fun _ => Φ .next) J hN hJ hL0 stab hclos hcell hkind hnames hlt hx hp hloc hi turn (fun acc C fb ws H1 hj hfb ha hC hne hw hacc hCm hl => ?_) hs s _ _ R fun v H' h' tk R' p => ?_)
  · refine (fin acc fb ws H1 hj hfb ha hw hacc).mono fun _ H2 ⟨k2, hL2, h3⟩ => ?_
    obtain ⟨m, hCm⟩ := hCm
    obtain ⟨mL, hL2⟩ := hL2
    have hLC : env.locals ≠ C := fun z => hL0 (by rw [z]; exact hfb C hC)
    exact ⟨⟨m, k2 _ _ hC hCm⟩, ⟨_, mL, hLC, hL2⟩, h3 _ fun a z hn hz => by rw [del_ne (fun e => hn ⟨by rw [e]; exact hC, by rw [e]; exact Ne.symm hne⟩)]; exact hz⟩
  · exact wpAny_pure (wpAny_pure (k _ _ _ _ R' p))
end
end
end Mine
end
section
open PySem PySem.W PyProof.Rows PySem.Calls
namespace Mine

theorem codeAmong_app {pos : Pos} {v : Value} {r : List Value} (l : List Value) (h : TriplesOk l) (hs : codeAmong pos l = some v) : codeAmong pos (l ++ r) = some v := by
  fun_induction TriplesOk l with
  | case1 => simp [codeAmong] at hs
  | case2 a t b u x rest ih =>
    simp only [List.cons_append, codeAmong] at hs ⊢
    split at hs
    · rename_i hc; rw [if_pos hc]; exact hs
    · rename_i hc; rw [if_neg hc]; exact ih h hs
  | case3 l h1 h2 => exact h.elim
theorem codeAmong_other {pos : Pos} {a b : Int} {c : Value} (hne : ¬((a == pos.line && b == pos.col) = true)) (l : List Value) (h : TriplesOk l) (hn : codeAmong pos l = none) : codeAmong pos (l ++ [rawInt a, rawInt b, c]) = none := by
  fun_induction TriplesOk l with
  | case1 => 
    show (if (a == pos.line && b == pos.col) = true then some c else codeAmong pos []) = none
    rw [if_neg hne]; rfl
  | case2 a' t b' u x rest ih =>
    simp only [List.cons_append, codeAmong] at hn ⊢
    split at hn
    · cases hn
    · rename_i hc; rw [if_neg hc]; exact ih h hn
  | case3 l h1 h2 => exact h.elim

/-- the codes made inside the text's function, as they are kept -/
def Tab (qs : List (Pos × Str)) (H : HM) : Prop := ∃ ps, H 380 = some (.raw (tabObj ps)) ∧ TriplesOk ps.toList ∧ ∀ p ∈ qs, codeAmong p.1 ps.toList = none ∨ ∃ c' oc vs t, codeAmong p.1 ps.toList = some (.ref c') ∧ H c' = some (.raw oc) ∧ oc.data = .fields vs ∧ vs[1]? = some (.str p.2 t) ∧ c' ≠ 380
structure Mk (h₀ : Heap) : Prop where
  T : ∃ p loose mean mg mb, Top p loose mean mg mb h₀
  C : CodeHd h₀ 382 380
def distinct (qs : List (Pos × Str)) : Prop := ∀ p ∈ qs, ∀ q ∈ qs, (p.1.line == q.1.line && p.1.col == q.1.col) = true → p = q

theorem Tab.ext {qs : List (Pos × Str)} {H H' : HM} (T : Tab qs H) (e : ∀ a o, H a = some (.raw o) → H' a = some (.raw o)) : Tab qs H' := by
  obtain ⟨ps, h1, h2, h3⟩ := T
  refine ⟨ps, e _ _ h1, h2, fun p hp => ?_⟩
  rcases h3 p hp with h | ⟨c', oc, vs, t, a, b, c⟩
  · exact .inl h
  · exact .inr ⟨c', oc, vs, t, a, e _ _ b, c⟩

section
variable {prog : Program} {w : World} {h₀ : Heap} {A : Around} {H : HM} {env : Env} {pos : Pos}

theorem Mk.bi {h : Heap} {o : Obj} (M : Mk h₀) (k : ∀ b o, h₀.get? b = some o → h.get? b = some o) (h0 : h₀.get? 380 = none) : ∃ mg, h.Ns mainGlobals mg ∧ h.BuiltinsAt mg 380 ∧ mainGlobals ≠ 380 := by
  obtain ⟨p, loose, mean, mg, mb, T⟩ := M.T
  obtain ⟨bm, ob, b1, b2, b3, b4, b5, b6⟩ := T.bmain
  have hgP : mainGlobals ≠ 380 := fun q => by
    obtain ⟨o, es, ep, e, hd, _⟩ := T.g
    rw [q, h0] at e; cases e
  have hbP : bm ≠ 380 := fun q => by rw [q, h0] at b3; cases b3
  have hbG : bm ≠ mainGlobals := fun q => by
    obtain ⟨o, es, ep, e, hd, _⟩ := T.g
    rw [q, e] at b3; cases b3; rw [hd] at b6; cases b6
  exact ⟨mg, T.g.keeps k, ⟨bm, ob, b1, b2, hbG, hbP, k _ _ b3, b4, b5, b6⟩, hgP⟩

/-- a table with one entry more, its code and its function new -/
theorem Tab.grow {qs : List (Pos × Str)} {h h' : Heap} {D : Addr → Addr} {c' : Addr} {qual : Str} {fo : Obj} {ps : Array Value} (R : RepD h₀ H h D) (h1 : H 380 = some (.raw (tabObj ps))) (h2 : TriplesOk ps.toList)
    (h3 : ∀ p ∈ qs, codeAmong p.1 ps.toList = none ∨ ∃ c' oc vs t, codeAmong p.1 ps.toList = some (.ref c') ∧ H c' = some (.raw oc) ∧ oc.data = .fields vs ∧ vs[1]? = some (.str p.2 t) ∧ c' ≠ 380)
    (hp : (pos, qual) ∈ qs) (hd : distinct qs) (hnf : codeAmong pos ps.toList = none)
    (hx : Heap.ExtBut 380 h h') (hge : h.objs.size ≤ c') (hlt : c' < h'.objs.size) (hrec : h'.CodeRec (.ref c') qual) (htb : h'.get? 380 = some (tabObj (ps ++ #[rawInt pos.line, rawInt pos.col, .ref c']))) (hfo : fo.isFreed = false) :
    ∃ H', RepD h₀ H' (h'.push fo) D ∧ But [380] H H' ∧ H h'.objs.size = none ∧ H' h'.objs.size = some (.raw fo) ∧ (∃ oc vs t, H' c' = some (.raw oc) ∧ oc.data = .fields vs ∧ vs[1]? = some (.str qual t)) ∧ c' ≠ 380 ∧ Tab qs H' := by
  obtain ⟨c₂, oc, vs, t, e2, hoc, hdd, hv⟩ := hrec
  cases e2
  have hP0 : 380 < h.objs.size := R.lt h1
  have ncP : c' ≠ 380 := Nat.ne_of_gt (Nat.lt_of_lt_of_le hP0 hge)
  have nfP : h'.objs.size ≠ 380 := Nat.ne_of_gt (Nat.lt_of_le_of_lt (Nat.le_of_lt (Nat.lt_of_lt_of_le hP0 hge)) hlt)
  have nfc : h'.objs.size ≠ c' := Nat.ne_of_gt hlt
  have hf : h.objs.size ≤ h'.objs.size := Nat.le_of_lt (Nat.lt_of_le_of_lt hge hlt)
  have n1 : H c' = none := R.none_of (Heap.get?_none_of_le hge)
  have n2 : H h'.objs.size = none := R.none_of (Heap.get?_none_of_le hf)
  have e1 : upd (upd (upd H 380 (.raw (tabObj (ps ++ #[rawInt pos.line, rawInt pos.col, .ref c'])))) c' (.raw oc)) h'.objs.size (.raw fo) 380 = some (.raw (tabObj (ps ++ #[rawInt pos.line, rawInt pos.col, .ref c']))) := by
    rw [upd_ne (Ne.symm nfP), upd_ne (Ne.symm ncP), upd_self]
  have e2 : upd (upd (upd H 380 (.raw (tabObj (ps ++ #[rawInt pos.line, rawInt pos.col, .ref c'])))) c' (.raw oc)) h'.objs.size (.raw fo) c' = some (.raw oc) := by rw [upd_ne (Ne.symm nfc), upd_self]
  have eo : ∀ b, b ≠ 380 → b ≠ c' → b ≠ h'.objs.size → upd (upd (upd H 380 (.raw (tabObj (ps ++ #[rawInt pos.line, rawInt pos.col, .ref c'])))) c' (.raw oc)) h'.objs.size (.raw fo) b = H b := fun b h1 h2 h3 => by rw [upd_ne h3, upd_ne h2, upd_ne h1]
  refine ⟨upd (upd (upd H 380 (.raw (tabObj (ps ++ #[rawInt pos.line, rawInt pos.col, .ref c'])))) c' (.raw oc)) h'.objs.size (.raw fo), R.multi (fun b => b = 380 ∨ b = c' ∨ b = h'.objs.size) ?_ ?_ ?_ ?_, fun a y ha hn => ?_, n2, upd_self, ⟨oc, vs, t, e2, hdd, hv⟩, ncP, _, e1, ?_, fun p hpq => ?_⟩
  · rintro b (rfl | rfl | rfl)
    · exact .inl ⟨_, h1, rfl, nofun⟩
    · exact .inr hge
    · exact .inr hf
  · exact fun b o hb e => Heap.get?_push_of_some _ (hx b o (fun z => hb (.inl z)) e)
  · exact fun b hb => eo b (fun z => hb (.inl z)) (fun z => hb (.inr (.inl z))) (fun z => hb (.inr (.inr z)))
  · rintro b (rfl | rfl | rfl)
    · exact ⟨.raw _, e1, rfl, Heap.get?_push_of_some _ htb⟩
    · exact ⟨.raw oc, e2, rfl, Heap.get?_push_of_some _ hoc⟩
    · exact ⟨.raw fo, upd_self, rfl, Heap.get?_push_size _ hfo⟩
  · rw [eo a (by simpa using hn) (fun z => by rw [z, n1] at ha; cases ha) (fun z => by rw [z, n2] at ha; cases ha)]; exact ha
  · simpa using TriplesOk_snoc pos.line pos.col (.ref c') ps.toList h2
  · rw [show (ps ++ #[rawInt pos.line, rawInt pos.col, .ref c']).toList = ps.toList ++ [rawInt pos.line, rawInt pos.col, .ref c'] by simp]
    rcases h3 p hpq with hn | ⟨c₃, oc₃, vs₃, t₃, a, b, c, d, e⟩
    · by_cases q : (pos.line == p.1.line && pos.col == p.1.col) = true
      · have := hd (pos, qual) hp p hpq q
        subst this
        exact .inr ⟨c', oc, vs, t, codeAmong_snoc _ h2 hn, e2, hdd, hv, ncP⟩
      · exact .inl (codeAmong_other (fun z => q (by simp only [Bool.and_eq_true, beq_iff_eq] at z ⊢; exact ⟨Int.ofNat.inj z.1, Int.ofNat.inj z.2⟩)) _ h2 hn)
    · refine .inr ⟨c₃, oc₃, vs₃, t₃, codeAmong_app _ h2 a, ?_, c, d, e⟩
      rw [eo c₃ e (fun z => by rw [z, n1] at b; cases b) (fun z => by rw [z, n2] at b; cases b)]; exact b

theorem WP.mkFn {qs : List (Pos × Str)} {name qual : Str} {params : Arguments} {body : List Stmt} {scope : Scope} {fl : Nat} {clos : List (Str × Addr)} {Φ : Value → HM → Prop} (M : Mk h₀) (hT : Tab qs H) (hp : (pos, qual) ∈ qs) (hd : distinct qs)
    (hcl : closureFor scope env = Pure.pure clos) (hge : env.globals = mainGlobals) (hcode : env.code = .ref 382)
    (h : ∀ q c' ctv doc pm H', But [380] H H' → H q = none → H' q = some (.raw (fnMade name qual params body scope clos doc pm c' ctv)) → (∃ oc vs t, H' c' = some (.raw oc) ∧ oc.data = .fields vs ∧ vs[1]? = some (.str qual t)) → c' ≠ 380 → Tab qs H' → Φ (.ref q) H') :
    WP prog w h₀ A (makeFunction name qual params (.stmts body) scope env [] [] [] pos fl) H Φ := fun s Q E R k => by
  obtain ⟨ps, h1, h2, h3⟩ := hT
  have hP := R.raw h1
  obtain ⟨D, R⟩ := R
  obtain ⟨mg, hg, hb, hgP⟩ := M.bi (o := default) R.keep (R.fresh _ _ h1)
  rcases h3 _ hp with hn | ⟨c', oc, vs, t, a, b, c, d, e⟩
  · refine makeFunction_K hcl hge hg hcode (M.C.keeps R.keep) hP h2 hn hgP hb fun c' ctv doc h' tk hx hge hlt hrec htb => ?_
    obtain ⟨H', R', B', n', f', cr, nc, T'⟩ := Tab.grow (fo := fnMade name qual params body scope clos doc ((mg "__name__").getD .none) c' ctv) R h1 h2 h3 hp hd hn hx hge hlt hrec htb rfl
    exact k _ _ _ _ ⟨D, R'⟩ (h _ _ _ _ _ _ B' n' f' cr nc T')
  · refine makeFunction_hit hcl hge hg hcode (M.C.keeps R.keep) hP h2 a hb fun ctv doc h' tk hk hsz => ?_
    have R1 := R.same hk
    have n' : H h'.objs.size = none := R.none_of (Heap.get?_none_of_le hsz)
    refine k _ _ _ _ ⟨D, R1.push (x := .raw (fnMade name qual params body scope clos doc ((mg "__name__").getD .none) c' ctv)) rfl (Heap.get?_push_size _ rfl)⟩ (h _ c' ctv doc _ _ (But.refl.new n') n' upd_self ⟨oc, vs, t, upd_old b n', c, d⟩ e ?_)
    exact Tab.ext ⟨ps, h1, h2, h3⟩ fun a o ha => upd_old ha n'
theorem WP.mkLam {qs : List (Pos × Str)} {params : Arguments} {body : Expr} {scope : Scope} {clos : List (Str × Addr)} {Φ : Value → HM → Prop} (M : Mk h₀) (hT : Tab qs H) (hp : (pos, env.qual ++ "<lambda>") ∈ qs) (hd : distinct qs)
    (hcl : closureFor scope env = Pure.pure clos) (hge : env.globals = mainGlobals) (hcode : env.code = .ref 382) (hdef : defaultsOf params env = ([], []))
    (h : ∀ q c' ctv pm H', But [380] H H' → H q = none → H' q = some (.raw (kla_obj "<lambda>" (env.qual ++ "<lambda>") params body scope clos pm c' ctv)) → (∃ oc vs t, H' c' = some (.raw oc) ∧ oc.data = .fields vs ∧ vs[1]? = some (.str (env.qual ++ "<lambda>") t)) → c' ≠ 380 → Tab qs H' → Φ (.ref q) H') :
    WP prog w h₀ A (eval (.Lambda params body scope pos) env) H Φ := fun s Q E R k => by
  refine kla_eval hdef ?_
  obtain ⟨ps, h1, h2, h3⟩ := hT
  have hP := R.raw h1
  obtain ⟨D, R⟩ := R
  obtain ⟨mg, hg, hb, hgP⟩ := M.bi (o := default) R.keep (R.fresh _ _ h1)
  rcases h3 _ hp with hn | ⟨c', oc, vs, t, a, b, c, d, e⟩
  · refine kla_makeFunction hcl hge hg hcode (M.C.keeps R.keep) hP h2 hn hgP hb fun c' ctv h' tk hx hge hlt hrec htb => ?_
    obtain ⟨H', R', B', n', f', cr, nc, T'⟩ := Tab.grow (fo := kla_obj "<lambda>" (env.qual ++ "<lambda>") params body scope clos ((mg "__name__").getD .none) c' ctv) R h1 h2 h3 hp hd hn hx hge hlt hrec htb rfl
    exact k _ _ _ _ ⟨D, R'⟩ (h _ _ _ _ _ B' n' f' cr nc T')
  · refine kla_makeFunctionHit hcl hge hg hcode (M.C.keeps R.keep) hP h2 a hb fun ctv h' tk hk hsz => ?_
    have R1 := R.same hk
    have n' : H h'.objs.size = none := R.none_of (Heap.get?_none_of_le hsz)
    refine k _ _ _ _ ⟨D, R1.push (x := .raw (kla_obj "<lambda>" (env.qual ++ "<lambda>") params body scope clos ((mg "__name__").getD .none) c' ctv)) rfl (Heap.get?_push_size _ rfl)⟩ (h _ c' ctv _ _ (But.refl.new n') n' upd_self ⟨oc, vs, t, upd_old b n', c, d⟩ e ?_)
    exact Tab.ext ⟨ps, h1, h2, h3⟩ fun a o ha => upd_old ha n'
theorem WP.defS {name : Str} {params : Arguments} {body : List Stmt} {scope : Scope} {Φ : Flow → HM → Prop} (h : WP prog w h₀ A (makeFunction name (qualnameIn env name name) params (.stmts body) scope env [] [] [] pos pos.line) H fun v H' => WP prog w h₀ A (storeName env name v) H' fun _ H'' => Φ .next H'')
    (hd0 : params.defaults = [] := by rfl) (hk0 : params.kw_defaults = [] := by rfl) (ha : annTrees params none env = [] := by rfl) : WP prog w h₀ A (exec (.FunctionDef name params body [] none [] scope none name pos) env) H Φ := fun s Q E R k =>
  nestDef_K hd0 hk0 ha (h s _ _ R fun v H' h' tk R' p => p _ _ _ R' fun _ H2 h2 t2 R2 p2 => k _ _ _ _ R2 p2)

/-- a lambda called -/
theorem WC.fnE {B0 : Frag} {fa : Addr} {name qual : Str} {params : Arguments} {body : Expr} {scope : Scope} {cl : List (Str × Addr)} {pm ctv : Value} {c' : Addr} {args : List Value} {binds : List (Str × Value)} {n : Nat} {Φ : Value → HM → Prop} (B : Bs B0 h₀) (o : Ok A n) (hn : n < 900)
    (ho : H fa = some (.raw (kla_obj name qual params body scope cl pm c' ctv))) (hcd : ∃ oc vs t, H c' = some (.raw oc) ∧ oc.data = .fields vs ∧ vs[1]? = some (.str qual t))
    (hbind : bindArgs (kla_fn name qual params body scope cl pm (.ref c') ctv) ⟨args, []⟩ = Pure.pure binds) (hloc : ∀ y ∈ binds, scope.names.lookup y.1 = some .local)
    (h : ∀ L A' H1, H L = none → Ok A' (n + 1) → Ext H H1 → H1 L = some (.ns fun y => binds.reverse.lookup y) → WP prog w h₀ A' (eval body (envX qual scope L fa (.ref c') cl)) H1 Φ)
    (hcell : ∀ x ∈ scope.names, x.2 ≠ .cell := by decide) (hco : scope.isCoroutine = false := by rfl) (hgen : scope.isGenerator = false := by rfl) (hk : scope.kind = .function := by rfl) : WC prog w h₀ A (.call (.ref fa) ⟨args, []⟩) H fun fl H' => ∃ v, fl = .ret v ∧ Φ v H' := fun s R Rp k => by
  have hof := Rp.raw ho
  obtain ⟨oc, vs, t, hoc, hdd, hv⟩ := hcd
  have hrec : s.heap.CodeRec (.ref c') qual := ⟨c', oc, vs, t, rfl, Rp.raw hoc, hdd, hv⟩
  refine kla_callFunE (o.room (by omega)) hof rfl hco hgen rfl hrec ?_
  rw [hbind]
  refine wpAny_pure (wpAny_newFunctionEnv hcell hloc (fun h₁ hns hsb => ⟨(B.lim.keeps Rp.keep).fresh _ hsb, ?_⟩) hk)
  show codeAny _ _ (.expr body (envX qual scope s.heap.objs.size fa (.ref c') cl)) _ _
  have hk₁ : ∀ b o, s.heap.get? b = some o → h₁.get? b = some o := fun b o e => hsb.extBut b o (Nat.ne_of_lt (Heap.lt_size e)) (Heap.get?_push_of_some _ e)
  obtain ⟨D, Rd⟩ := Rp
  have hq : s.heap.get? s.heap.objs.size = none := Heap.get?_none_of_le (Nat.le_refl _)
  have R1 : RepD h₀ (upd H s.heap.objs.size (.ns fun y => binds.reverse.lookup y)) h₁ D :=
    Rd.new hq rfl hk₁ (Rd.fresh0 (Nat.le_refl _)) (fun b C kv e z => absurd (Rd.Dpresent e) (by rw [z]; exact Nat.lt_irrefl _)) ⟨hns, Rd.above⟩
  refine kla_codeExpr (h s.heap.objs.size _ _ (Rd.none_of hq) (o.deeper _) (Ext.refl.new (Rd.none_of hq)) upd_self _ _ _ ⟨D, R1⟩ fun v H' h' tk R' p => ?_)
  exact k (.ret v) H' h' tk R' ⟨v, rfl, p⟩
end
end Mine
end
section
open PySem PySem.W PyProof.Rows PySem.Calls
namespace Mine

def prot (ls cs : List Addr) (a : Addr) : AObj → Bool
  | .inst C _ => !cs.contains C
  | .list _ => !ls.contains a
  | .dict _ => !ls.contains a
  | _ => true

/-- all but the objects of classes of the classes cs, the lists and dicts ls is kept; what is told of stays told of -/
def Mod (ls cs : List Addr) (H H' : HM) : Prop := ∀ a y, H a = some y → (prot ls cs a y = true → H' a = some y) ∧ ∃ z, H' a = some z
section
variable {ls cs : List Addr} {H H' H'' : HM} {a q : Addr} {x y : AObj}
theorem Mod.refl : Mod ls cs H H := fun _ y h => ⟨fun _ => h, y, h⟩
theorem Mod.trans (u : Mod ls cs H H') (v : Mod ls cs H' H'') : Mod ls cs H H'' := fun a y h => ⟨fun p => (v a y ((u a y h).1 p)).1 p, let ⟨z, hz⟩ := (u a y h).2; (v a z hz).2⟩
theorem Ext.mod (e : Ext H H') : Mod ls cs H H' := fun a y h => ⟨fun _ => e a y h, y, e a y h⟩
theorem Mod.new (u : Mod ls cs H H') (h : H q = none) : Mod ls cs H (upd H' q x) := fun a y ha => by
  rw [upd_ne (fun z => by rw [z, h] at ha; cases ha)]; exact u a y ha
theorem Mod.gone (u : Mod ls cs H H') (h : H q = none) : Mod ls cs H (del H' q) := fun a y ha => by
  rw [del_ne (fun z => by rw [z, h] at ha; cases ha)]; exact u a y ha
theorem Mod.put (u : Mod ls cs H H') (h : H a = some y) (hp : prot ls cs a y = false) : Mod ls cs H (upd H' a x) := fun b z hb => by
  by_cases e : b = a
  · subst e; rw [h] at hb; cases hb
    exact ⟨fun p => absurd p (by rw [hp]; exact Bool.false_ne_true), x, upd_self⟩
  · rw [upd_ne e]; exact u b z hb
theorem Mod.at (u : Mod ls cs H H') (h : H a = some y) (hp : prot ls cs a y = true := by rfl) : H' a = some y := (u a y h).1 hp
theorem Mod.ns {L : Addr} {m : Str → Option Value} (u : Mod ls cs H H') (h : H L = some (.ns m)) : H' L = some (.ns m) := u.at h
theorem Mod.fresh (u : Mod ls cs H H') (h : H' q = none) : H q = none := by
  cases e : H q with
  | none => rfl
  | some y => obtain ⟨z, hz⟩ := (u q y e).2; rw [h] at hz; cases hz
theorem Mod.weaken {ls' cs' : List Addr} (u : Mod ls cs H H') (h1 : ∀ a ∈ ls, a ∈ ls') (h2 : ∀ a ∈ cs, a ∈ cs') : Mod ls' cs' H H' := fun a y h => ⟨fun p => (u a y h).1 (by
  cases y <;> simp_all [prot] <;> (intro q; first | exact p (h1 _ q) | exact p (h2 _ q))), (u a y h).2⟩
theorem Ext.fresh (u : Ext H H') (h : H' q = Option.none) : H q = Option.none := (u.mod (ls := []) (cs := [])).fresh h
end

/-- the things of a run -/
structure GC where
  n : Nat
  X : Nat → Addr
  ch : Nat → List Nat
  sort : Nat → Int
  room : Nat → Int
  mo : Addr
  fch : Addr
  fso : Addr
  ro : HM

def calm : AObj → Bool
  | .ns _ => false
  | .iter .. => false
  | _ => true

structure GC.Good (g : GC) : Prop where
  n5 : g.n ≤ 5
  inj : ∀ i j, i < g.n → j < g.n → g.X i = g.X j → i = j
  chn : ∀ i, i < g.n → ∀ c ∈ g.ch i, c < g.n
  ch2 : ∀ i, i < g.n → (g.ch i).length ≤ 2
  roX : ∀ i, i < g.n → g.ro (g.X i) = none
  roM : g.ro g.mo = none
  roN : ∀ a y, g.ro a = some y → calm y = true

abbrev thing (i : Nat) (m r : Int) (t1 t2 t3 : Tok) : AObj := .inst 367 [("number", .int i t1), ("mark", .int m t2), ("size", .int r t3)]
abbrev marksO (g : GC) (wh : Int) (t : Tok) (lg la lw : Addr) : AObj := .inst 136 [("children", .ref g.fch), ("sort_of", .ref g.fso), ("white", .int wh t), ("grey", .ref lg), ("grey_again", .ref la), ("weak", .ref lw)]
abbrev refs (g : GC) (l : List Nat) : AObj := .list (l.map fun j => .ref (g.X j))

/-- the marks' state -/
structure MSt (g : GC) (m : Nat → Int) (gs ga wk : List Nat) (lg la lw : Addr) (wh : Int) (H : HM) : Prop where
  ro : Ext g.ro H
  th : ∀ i, i < g.n → ∃ t1 t2 t3, H (g.X i) = some (thing i (m i) (g.room i) t1 t2 t3)
  mo : ∃ t, H g.mo = some (marksO g wh t lg la lw)
  g1 : H lg = some (refs g gs)
  a1 : H la = some (refs g ga)
  w1 : H lw = some (refs g wk)
  ga_ : lg ≠ la
  gw_ : lg ≠ lw
  aw_ : la ≠ lw
  rog : g.ro lg = none
  roa : g.ro la = none
  row : g.ro lw = none

def setm (m : Nat → Int) (i : Nat) (v : Int) : Nat → Int := fun j => if j = i then v else m j

section
variable {g : GC} {m : Nat → Int} {gs ga wk : List Nat} {lg la lw : Addr} {wh : Int} {H H' : HM}
theorem MSt.ext (S : MSt g m gs ga wk lg la lw wh H) (e : Ext H H') : MSt g m gs ga wk lg la lw wh H' :=
  ⟨S.ro.trans e, fun i hi => let ⟨a, b, c, h⟩ := S.th i hi; ⟨a, b, c, e _ _ h⟩, let ⟨t, h⟩ := S.mo; ⟨t, e _ _ h⟩, e _ _ S.g1, e _ _ S.a1, e _ _ S.w1, S.ga_, S.gw_, S.aw_, S.rog, S.roa, S.row⟩
theorem Ext.put {ro : HM} {a : Addr} {x : AObj} (e : Ext ro H) (h : ro a = none) : Ext ro (upd H a x) := fun b y hb => by
  rw [upd_ne (fun z => by rw [z, h] at hb; cases hb)]; exact e b y hb
theorem upd_of_ne {a b : Addr} {x y : AObj} (h : H a = some x) (hb : a ≠ b) : upd H b y a = some x := by rw [upd_ne hb]; exact h
/-- other objects are at other places -/
theorem ne_of {a b : Addr} {x y : AObj} (h : H a = some x) (h' : H b = some y) (hn : x ≠ y) : a ≠ b := fun z => by subst z; rw [h] at h'; exact hn (Option.some.inj h')

theorem MSt.setMark (G : g.Good) (S : MSt g m gs ga wk lg la lw wh H) {i : Nat} (hi : i < g.n) {v : Int} {t1 t2 t3 : Tok} : MSt g (setm m i v) gs ga wk lg la lw wh (upd H (g.X i) (thing i v (g.room i) t1 t2 t3)) := by
  obtain ⟨a, b, c, hX⟩ := S.th i hi
  obtain ⟨t, hM⟩ := S.mo
  refine ⟨S.ro.put (G.roX i hi), fun j hj => ?_, ⟨t, upd_of_ne hM (ne_of hM hX (by simp))⟩, upd_of_ne S.g1 (ne_of S.g1 hX (by simp)), upd_of_ne S.a1 (ne_of S.a1 hX (by simp)), upd_of_ne S.w1 (ne_of S.w1 hX (by simp)), S.ga_, S.gw_, S.aw_, S.rog, S.roa, S.row⟩
  by_cases h : j = i
  · subst h; exact ⟨t1, t2, t3, by rw [upd_self]; simp [setm]⟩
  · obtain ⟨a', b', c', h'⟩ := S.th j hj
    refine ⟨a', b', c', ?_⟩
    rw [upd_ne (fun z => h (G.inj j i hj hi z)), h']
    simp [setm, h]
theorem MSt.pushG (G : g.Good) (S : MSt g m gs ga wk lg la lw wh H) (gs' : List Nat) : MSt g m gs' ga wk lg la lw wh (upd H lg (refs g gs')) := by
  obtain ⟨t, hM⟩ := S.mo
  refine ⟨S.ro.put S.rog, fun j hj => ?_, ⟨t, upd_of_ne hM (ne_of hM S.g1 (by simp))⟩, upd_self, upd_of_ne S.a1 (Ne.symm S.ga_), upd_of_ne S.w1 (Ne.symm S.gw_), S.ga_, S.gw_, S.aw_, S.rog, S.roa, S.row⟩
  obtain ⟨a', b', c', h'⟩ := S.th j hj
  exact ⟨a', b', c', upd_of_ne h' (ne_of h' S.g1 (by simp))⟩
theorem MSt.pushA (G : g.Good) (S : MSt g m gs ga wk lg la lw wh H) (ga' : List Nat) : MSt g m gs ga' wk lg la lw wh (upd H la (refs g ga')) := by
  obtain ⟨t, hM⟩ := S.mo
  refine ⟨S.ro.put S.roa, fun j hj => ?_, ⟨t, upd_of_ne hM (ne_of hM S.a1 (by simp))⟩, upd_of_ne S.g1 S.ga_, upd_self, upd_of_ne S.w1 (Ne.symm S.aw_), S.ga_, S.gw_, S.aw_, S.rog, S.roa, S.row⟩
  obtain ⟨a', b', c', h'⟩ := S.th j hj
  exact ⟨a', b', c', upd_of_ne h' (ne_of h' S.a1 (by simp))⟩
theorem MSt.pushW (G : g.Good) (S : MSt g m gs ga wk lg la lw wh H) (wk' : List Nat) : MSt g m gs ga wk' lg la lw wh (upd H lw (refs g wk')) := by
  obtain ⟨t, hM⟩ := S.mo
  refine ⟨S.ro.put S.row, fun j hj => ?_, ⟨t, upd_of_ne hM (ne_of hM S.w1 (by simp))⟩, upd_of_ne S.g1 S.gw_, upd_of_ne S.a1 S.aw_, upd_self, S.ga_, S.gw_, S.aw_, S.rog, S.roa, S.row⟩
  obtain ⟨a', b', c', h'⟩ := S.th j hj
  exact ⟨a', b', c', upd_of_ne h' (ne_of h' S.w1 (by simp))⟩
end

theorem ne_calm {a b : Addr} {x y : AObj} {H : HM} (h : H a = some x) (h' : H b = some y) (hn : calm x = true) (hy : calm y = false) : a ≠ b := ne_of h h' (fun e => by rw [e, hy] at hn; cases hn)
theorem MSt.calm {g : GC} {m : Nat → Int} {gs ga wk : List Nat} {lg la lw : Addr} {wh : Int} {H H' : HM} {L : Addr} {z : AObj} (G : g.Good) (S : MSt g m gs ga wk lg la lw wh H) (hL : H L = some z) (hz : Mine.calm z = false) (e : ∀ b, b ≠ L → H' b = H b) : MSt g m gs ga wk lg la lw wh H' := by
  obtain ⟨t, hM⟩ := S.mo
  have k : ∀ a x, H a = some x → Mine.calm x = true → H' a = some x := fun a x ha hx => by rw [e a (ne_calm ha hL hx hz)]; exact ha
  refine ⟨fun a y hy => ?_, fun j hj => ?_, ⟨t, k _ _ hM rfl⟩, k _ _ S.g1 rfl, k _ _ S.a1 rfl, k _ _ S.w1 rfl, S.ga_, S.gw_, S.aw_, S.rog, S.roa, S.row⟩
  · exact k _ _ (S.ro _ _ hy) (G.roN _ _ hy)
  · obtain ⟨a', b', c', h'⟩ := S.th j hj
    exact ⟨a', b', c', k _ _ h' rfl⟩
theorem MSt.loc {g : GC} {m : Nat → Int} {gs ga wk : List Nat} {lg la lw : Addr} {wh : Int} {H : HM} {L : Addr} {z x : AObj} (G : g.Good) (S : MSt g m gs ga wk lg la lw wh H) (hL : H L = some z) (hz : Mine.calm z = false := by rfl) : MSt g m gs ga wk lg la lw wh (upd H L x) :=
  S.calm G hL hz fun _ hb => upd_ne hb
theorem MSt.gone {g : GC} {m : Nat → Int} {gs ga wk : List Nat} {lg la lw : Addr} {wh : Int} {H : HM} {L : Addr} {z : AObj} (G : g.Good) (S : MSt g m gs ga wk lg la lw wh H) (hL : H L = some z) (hz : Mine.calm z = false := by rfl) : MSt g m gs ga wk lg la lw wh (del H L) :=
  S.calm G hL hz fun _ hb => del_ne hb

/-- what may be called of a run: its things' ways and sorts -/
structure Calls (prog : Program) (w : World) (h₀ : Heap) (g : GC) : Prop where
  cho : ∃ oc od fd sl, g.ro g.fch = some (.raw ⟨oc, od, .func fd, sl⟩)
  soo : ∃ oc od fd sl, g.ro g.fso = some (.raw ⟨oc, od, .func fd, sl⟩)
  ch : ∀ {A : Around} {d : Nat} {H : HM} {i : Nat} {mi : Int} {t1 t2 t3 : Tok} {Φ : Value → HM → Prop}, Ok A d → d < 850 → Ext g.ro H → i < g.n → H (g.X i) = some (thing i mi (g.room i) t1 t2 t3) →
    (∀ q H', Ext H H' → H q = none → H' q = some (refs g (g.ch i)) → Φ (.ref q) H') → WP prog w h₀ A (call (.ref g.fch) [.ref (g.X i)]) H Φ
  so : ∀ {A : Around} {d : Nat} {H : HM} {i : Nat} {mi : Int} {t1 t2 t3 : Tok} {Φ : Value → HM → Prop}, Ok A d → d < 850 → Ext g.ro H → i < g.n → H (g.X i) = some (thing i mi (g.room i) t1 t2 t3) →
    (∀ tk H', Ext H H' → Φ (.int (g.sort i) tk) H') → WP prog w h₀ A (call (.ref g.fso) [.ref (g.X i)]) H Φ

theorem setm_setm {m : Nat → Int} {i : Nat} {u v : Int} : setm (setm m i u) i v = setm m i v := by
  funext j; unfold setm; split <;> rfl
section -- rules that hide the heap behind them
variable {prog : Program} {w : World} {h₀ : Heap} {A : Around} {H H0 : HM} {g : GC} {m : Nat → Int} {gs ga wk : List Nat} {lg la lw : Addr} {wh : Int} {Φ : Unit → HM → Prop} {ls cs : List Addr}
theorem Mod.loc {L : Addr} {H' : HM} (u : Mod ls cs H0 H) (h : H0 L = none) (e : ∀ b, b ≠ L → H' b = H b) : Mod ls cs H0 H' := fun a y ha => by
  rw [e a (fun z => by rw [z, h] at ha; cases ha)]; exact u a y ha
theorem WP.stG {env : Env} {x : Str} {v : Value} {f : Str → Option Value} (hL : H env.locals = some (.ns f)) (h : ∀ H', (∀ b, b ≠ env.locals → H' b = H b) → H' env.locals = some (.ns fun y => if y = x then some v else f y) → Φ () H')
    (hx : env.kindOf x = some .local := by rfl) (hp : (env.scope.kind == .class || (env.scope.kind == .module && env.locals != env.globals)) = false := by rfl) : WP prog w h₀ A (storeName env x v) H Φ :=
  WP.stL hL (h _ (fun _ hb => upd_ne hb) upd_self) hx hp
theorem r_mark {i : Nat} {v : Int} {t : Tok} (B : Bs (Mine.hk.heap_1 w.params) h₀) (G : g.Good) (S : MSt g m gs ga wk lg la lw wh H) (hi : i < g.n)
    (h : ∀ H', MSt g (setm m i v) gs ga wk lg la lw wh H' → Mod [] [367] H H' → Φ () H') : WP prog w h₀ A (setAttr (.ref (g.X i)) "mark" (.int v t)) H Φ := by
  obtain ⟨t1, t2, t3, hX⟩ := S.th i hi
  refine WP.setI B hX (by kernel_rfl) (by simp) ?_
  exact h _ (S.setMark G hi) (Mod.refl.put hX rfl)
theorem r_push {i : Nat} {Φ : Value → HM → Prop} (G : g.Good) (S : MSt g m gs ga wk lg la lw wh H) (hz : gs.length ≤ 1000)
    (h : ∀ H', MSt g m (gs ++ [i]) ga wk lg la lw wh H' → Mod [lg] [] H H' → Φ .none H') : WP prog w h₀ A (call (.builtin "list.append") [.ref lg, .ref (g.X i)]) H Φ := by
  refine WP.append S.g1 ?_ (by simp; omega)
  have := S.pushG G (gs ++ [i])
  rw [show refs g (gs ++ [i]) = AObj.list ((gs.map fun j => Value.ref (g.X j)) ++ [Value.ref (g.X i)]) by simp [refs]] at this
  exact h _ this (Mod.refl.put S.g1 (by simp [prot]))
end

-- the plain side of marking
def whites (n : Nat) (m : Nat → Int) : Nat := ((List.range n).filter fun j => m j < 2).length
inductive RT (ch : Nat → List Nat) (src : List Nat) : Nat → Prop
  | src {i} : i ∈ src → RT ch src i
  | step {i j} : RT ch src i → j ∈ ch i → RT ch src j
theorem RT.mono {ch : Nat → List Nat} {s s' : List Nat} {j : Nat} (h : RT ch s j) (k : ∀ i ∈ s, RT ch s' i) : RT ch s' j := by
  induction h with
  | src h => exact k _ h
  | step _ hj ih => exact .step ih hj
theorem whites_set {n : Nat} {m : Nat → Int} {i : Nat} {v : Int} (hi : i < n) (h : m i < 2) (hv : 2 ≤ v) : whites n (setm m i v) + 1 = whites n m := by
  unfold whites
  induction n with
  | zero => omega
  | succ k ih =>
    rw [List.range_succ, List.filter_append, List.filter_append, List.length_append, List.length_append]
    by_cases e : i = k
    · subst e
      have e1 : (List.range i).filter (fun j => decide (setm m i v j < 2)) = (List.range i).filter (fun j => decide (m j < 2)) := by
        apply List.filter_congr
        intro x hx
        have : x ≠ i := by have := List.mem_range.mp hx; omega
        simp [setm, this]
      rw [e1]
      have e2 : ¬ (setm m i v i < 2) := by simp [setm]; omega
      simp [e2, h]
    · have hk : i < k := by omega
      have := ih hk
      have e2 : setm m i v k = m k := by simp [setm, Ne.symm e]
      simp only [List.filter_cons, List.filter_nil, e2]
      split <;> simp <;> omega
theorem whites_same {n : Nat} {m : Nat → Int} {i : Nat} {v : Int} (h : 2 ≤ m i) (hv : 2 ≤ v) : whites n (setm m i v) = whites n m := by
  unfold whites
  congr 1
  apply List.filter_congr
  intro x _
  unfold setm
  by_cases e : x = i
  · subst e; simp; omega
  · simp [e]

structure Grow (n : Nat) (ch : Nat → List Nat) (src : List Nat) (m : Nat → Int) (gs : List Nat) (m' : Nat → Int) (gs' : List Nat) : Prop where
  mono : ∀ j, 2 ≤ m j → m' j = m j
  up : ∀ j, m j < 2 → m' j = m j ∨ m' j = 2 ∨ m' j = 3
  new : ∀ j, j < n → m j < 2 → 2 ≤ m' j → RT ch src j
  pre : ∃ ad, gs' = gs ++ ad
  gl : ∀ j ∈ gs', j ∈ gs ∨ (j < n ∧ 2 ≤ m' j)
  clo : ∀ j, j < n → m j < 2 → 2 ≤ m' j → j ∈ gs' ∨ ∀ c ∈ ch j, 2 ≤ m' c
  mea : whites n m' + gs'.length ≤ whites n m + gs.length

section
variable {n : Nat} {ch : Nat → List Nat} {s s' : List Nat} {m m' m'' : Nat → Int} {gs gs' gs'' : List Nat}
theorem Grow.refl : Grow n ch s m gs m gs := ⟨fun _ _ => rfl, fun _ _ => .inl rfl, fun _ _ h h' => by omega, ⟨[], by simp⟩, fun _ h => .inl h, fun _ _ h h' => by omega, Nat.le_refl _⟩
theorem Grow.marked (a : Grow n ch s m gs m' gs') {j : Nat} (h : 2 ≤ m j) : 2 ≤ m' j := by rw [a.mono j h]; exact h
theorem Grow.trans (a : Grow n ch s m gs m' gs') (b : Grow n ch s' m' gs' m'' gs'') : Grow n ch (s ++ s') m gs m'' gs'' where
  mono j h := by rw [b.mono j (a.marked h), a.mono j h]
  up j h := by
    rcases a.up j h with e | e
    · rcases b.up j (by omega) with e' | e'
      · left; omega
      · right; exact e'
    · right; rw [b.mono j (by omega)]; exact e
  new j hj h h' := by
    by_cases q : 2 ≤ m' j
    · exact (a.new j hj h q).mono fun i hi => .src (List.mem_append_left _ hi)
    · exact (b.new j hj (by omega) h').mono fun i hi => .src (List.mem_append_right _ hi)
  pre := by
    obtain ⟨x, e⟩ := a.pre
    obtain ⟨y, e'⟩ := b.pre
    exact ⟨x ++ y, by rw [e', e, List.append_assoc]⟩
  gl j h := by
    rcases b.gl j h with q | q
    · rcases a.gl j q with q | ⟨q, q'⟩
      · exact .inl q
      · exact .inr ⟨q, b.marked q'⟩
    · exact .inr q
  clo j hj h h' := by
    by_cases q : 2 ≤ m' j
    · rcases a.clo j hj h q with z | z
      · obtain ⟨y, e'⟩ := b.pre
        exact .inl (by rw [e']; exact List.mem_append_left _ z)
      · exact .inr fun c hc => b.marked (z c hc)
    · exact b.clo j hj (by omega) h'
  mea := Nat.le_trans b.mea a.mea
theorem Grow.src (a : Grow n ch s m gs m' gs') (h : ∀ i ∈ s, RT ch s' i) : Grow n ch s' m gs m' gs' := { a with new := fun j hj h1 h2 => (a.new j hj h1 h2).mono h }
/-- one thing marked, its children gone through -/
theorem Grow.leaf {i : Nat} {v : Int} (hi : i < n) (h : m i < 2) (hv : v = 2 ∨ v = 3) (a : Grow n ch (ch i) (setm m i v) gs m' gs') (hc : ∀ c ∈ ch i, 2 ≤ m' c) : Grow n ch [i] m gs m' gs' := by
  have e : ∀ j, j ≠ i → setm m i v j = m j := fun j hj => by simp [setm, hj]
  have ei : setm m i v i = v := by simp [setm]
  have mi : m' i = v := by rw [a.mono i (by rw [ei]; omega), ei]
  refine ⟨fun j hj => ?_, fun j hj => ?_, fun j hj h1 h2 => ?_, a.pre, a.gl, fun j hj h1 h2 => ?_, ?_⟩
  · have : j ≠ i := fun z => by subst z; omega
    rw [a.mono j (by rw [e j this]; exact hj), e j this]
  · by_cases q : j = i
    · subst q; right; omega
    · have := a.up j (by rw [e j q]; exact hj); rw [e j q] at this; exact this
  · by_cases q : j = i
    · subst q; exact .src (by simp)
    · refine (a.new j hj (by rw [e j q]; exact h1) h2).mono fun c hc => .step (.src (by simp)) hc
  · by_cases q : j = i
    · subst q; exact .inr hc
    · exact a.clo j hj (by rw [e j q]; exact h1) h2
  · have := a.mea
    have := whites_set (n := n) hi h (v := v) (by omega)
    omega
/-- one thing marked and laid aside -/
theorem Grow.lay {i : Nat} (hi : i < n) (h : m i < 2) : Grow n ch [i] m gs (setm m i 2) (gs ++ [i]) := by
  have e : ∀ j, j ≠ i → setm m i 2 j = m j := fun j hj => by simp [setm, hj]
  have ei : setm m i 2 i = 2 := by simp [setm]
  refine ⟨fun j hj => e j (fun z => by subst z; omega), fun j hj => ?_, fun j hj h1 h2 => ?_, ⟨[i], rfl⟩, fun j hj => ?_, fun j hj h1 h2 => ?_, ?_⟩
  · by_cases q : j = i
    · subst q; right; left; exact ei
    · left; exact e j q
  · by_cases q : j = i
    · subst q; exact .src (by simp)
    · rw [e j q] at h2; omega
  · rcases List.mem_append.mp hj with q | q
    · exact .inl q
    · rw [List.mem_singleton.mp q]; exact .inr ⟨hi, by rw [ei]; omega⟩
  · by_cases q : j = i
    · subst q; exact .inl (by simp)
    · rw [e j q] at h2; omega
  · have := whites_set (n := n) hi h (v := 2) (by omega)
    simp; omega
end
end Mine
end
section
open PySem PySem.W PyProof.Rows PySem.Calls
namespace Mine
theorem fill2 : (PySem.Challenge.rw_xm0623_01, Mine.hk.heap_1) = (PySem.Challenge.rw_xm0623_01, Mine.hk.heap_1) := by
  k_fill
  rfl
section
variable {prog : Program} {w : World} {h₀ : Heap} {g : GC}


theorem s_mark (B : Bs (Mine.hk.heap_1 w.params) h₀) (G : g.Good) (Cs : Calls prog w h₀ g) : ∀ (k : Nat) {A : Around} {d : Nat} {H : HM} {m : Nat → Int} {gs ga wk : List Nat} {lg la lw : Addr} {wh : Int} {i : Nat} {Φ : Value → HM → Prop},
    whites g.n m ≤ k → Ok A d → d + 10 * k + 20 ≤ 700 → MSt g m gs ga wk lg la lw wh H → i < g.n → gs.length + whites g.n m ≤ 50 →
    (∀ H' m' gs', MSt g m' gs' ga wk lg la lw wh H' → Mod [lg] [367] H H' → Grow g.n g.ch [i] m gs m' gs' → 2 ≤ m' i → Φ .none H') → WP prog w h₀ A (call (.ref 84) [.ref g.mo, .ref (g.X i)]) H Φ := by
  intro k
  induction k using Nat.strongRecOn with
  | ind k ih =>
    intro A d H m gs ga wk lg la lw wh i Φ hk o hd S hi hg h
    obtain ⟨t1, t2, t3, hX⟩ := S.th i hi
    obtain ⟨tm, hM⟩ := S.mo
    refine WP.fn (binds := [("self", .ref g.mo), ("obj", .ref (g.X i))]) B o (by omega) (by k_is) (by k_is) (fun _ => .of_eq rfl) (locs rfl) (fun L A' H1 hL o' e1 hL1 => ?_)
    have S1 := S.ext e1
    refine WP.cons (WP.ifS (WP.tNot (WP.tVal (WP.callN (WP.name (WP.loadG B.X B.g (by k_is) ?_))))))
    refine WP.cwK B (by k_is) (WP.args (WP.name (WP.loadL hL1 rfl ?_)))
    refine WP.args0 ?_
    refine s_is_white B o' (by omega) (e1 _ _ hX) rfl fun H2 e2 => ?_
    have S2 := S1.ext e2
    have hL2 := e2 _ _ hL1
    have e12 := e1.trans e2
    refine WP.truthB ?_
    by_cases hw : m i < 2
    · rw [decide_eq_true hw]
      refine WP.nil ?_
      refine WP.cons (WP.asgAttr (WP.name (WP.loadG B.X B.g (by k_is) (WP.name (WP.loadL hL2 rfl ?_)))))
      refine r_mark B G S2 hi fun H3 S3 m3 => ?_
      have M3 := (e12.mod (ls := [lg]) (cs := [367])).trans (m3.weaken (by simp) (by simp))
      have hL3 := m3.ns hL2
      -- sort = self.sort_of(obj)
      obtain ⟨oc, od, fd, sl, hso⟩ := Cs.soo
      obtain ⟨tm3, hM3⟩ := S3.mo
      obtain ⟨t1, t2, t3, hX3⟩ := S3.th i hi
      refine WP.cons (WP.asgName (WP.callM (WP.name (WP.loadL hL3 rfl ?_))))
      refine WP.own B hM3 rfl (by kernel_rfl) (by kernel_rfl) rfl ?_
      refine WP.cwF (S3.ro _ _ hso) (WP.args (WP.name (WP.loadL hL3 rfl ?_)))
      refine WP.args0 ⟨S3.ro _ _ hso, ?_⟩
      refine Cs.so o' (by omega) S3.ro hi hX3 fun tk H4 e4 => ?_
      refine WP.stG (e4 _ _ hL3) fun H5 q5 hL5 => ?_
      have S5 := (S3.ext e4).calm G (e4 _ _ hL3) rfl q5
      have M5 := (M3.trans e4.mod).loc hL q5
      clear hM3 hX3
      -- if sort == SORT_LEAF: obj.mark = BLACK
      refine WP.seq (fun H6 => ∃ v, (v = 2 ∨ v = 3) ∧ (g.sort i ≠ 1 → v = 2) ∧ MSt g (setm m i v) gs ga wk lg la lw wh H6 ∧ Mod [lg] [367] H H6 ∧ H6 L = some (.ns fun y => if y = ("sort" : Str) then some (.int (g.sort i) tk) else [(("self" : Str), Value.ref g.mo), ("obj", .ref (g.X i))].reverse.lookup y)) ?_ ?_
      · refine WP.ifS (WP.tCmp (WP.name (WP.loadL hL5 rfl (WP.name (WP.loadG B.X B.g (by k_is) (WP.eq (WP.truthB ?_)))))))
        by_cases hs : g.sort i = 1
        · rw [beq_iff_eq.mpr hs]
          refine WP.cons (WP.asgAttr (WP.name (WP.loadG B.X B.g (by k_is) (WP.name (WP.loadL hL5 rfl ?_)))))
          refine r_mark B G S5 hi fun H6 S6 m6 => ?_
          rw [setm_setm] at S6
          exact WP.nil ⟨rfl, 3, .inr rfl, fun z => absurd hs z, S6, M5.trans (m6.weaken (by simp) (by simp)), m6.ns hL5⟩
        · rw [beq_eq_false_iff_ne.mpr hs]
          exact WP.nil ⟨rfl, 2, .inl rfl, fun _ => rfl, S5, M5, hL5⟩
      rintro H6 ⟨v, hv, hv1, S6, M6, hL6⟩
      clear S5 M5 hL5
      refine WP.cons (WP.ifS (WP.tBool ?_))
      refine WP.mono (Φ := fun b H' => H' = H6 ∧ b = (g.sort i == 1 || g.sort i == 2)) ?_ ?_
      · refine WP.or1 (WP.tCmp (WP.name (WP.loadL hL6 rfl (WP.name (WP.loadG B.X B.g (by k_is) (WP.eq (WP.truthB ?_)))))))
        cases g.sort i == 1
        · refine WP.or1 (WP.tCmp (WP.name (WP.loadL hL6 rfl (WP.name (WP.loadG B.X B.g (by k_is) (WP.eq (WP.truthB ?_)))))))
          cases g.sort i == 2
          · exact WP.or0 ⟨rfl, rfl⟩
          · exact ⟨rfl, rfl⟩
        · exact ⟨rfl, rfl⟩
      rintro b _ ⟨rfl, hb⟩
      cases b with
      | true =>
        rw [if_pos rfl]
        have hkp := whites_set hi hw (v := v) (by omega)
        refine WP.cons (WP.forL (vs := (g.ch i).map fun j => .ref (g.X j))
          (fun l q f c Hc => Hc l = some (refs g (g.ch i)) ∧ Hc q = some (.iter l c) ∧ Hc L = some (.ns f) ∧ f "self" = some (.ref g.mo) ∧ H l = none ∧ H q = none ∧
            ∃ m' gs', MSt g m' gs' ga wk lg la lw wh Hc ∧ Mod [lg] [367] H Hc ∧ Grow g.n g.ch ((g.ch i).take c) (setm m i v) gs m' gs' ∧ ∀ j ∈ (g.ch i).take c, 2 ≤ m' j) o'.hh ?_ ?_ ?_ ?_)
        · obtain ⟨tm6, hM6⟩ := S6.mo
          obtain ⟨oc, od, fd, sl, hch⟩ := Cs.cho
          obtain ⟨t1, t2, t3, hX6⟩ := S6.th i hi
          refine WP.callM (WP.name (WP.loadL hL6 rfl ?_))
          refine WP.own B hM6 rfl (by kernel_rfl) (by kernel_rfl) rfl ?_
          refine WP.cwF (S6.ro _ _ hch) (WP.args (WP.name (WP.loadL hL6 rfl ?_)))
          refine WP.args0 ⟨S6.ro _ _ hch, ?_⟩
          refine Cs.ch o' (by omega) S6.ro hi hX6 fun l H7 e7 hl hl7 => ⟨l, rfl, hl7, fun q hq => ?_⟩
          have M7 := M6.trans (e7.mod (ls := [lg]) (cs := [367]))
          have hq0 := M7.fresh hq
          exact ⟨_, upd_old hl7 hq, upd_self, upd_old (e7 _ _ hL6) hq, rfl, M6.fresh hl, hq0, _, _, S6.ext (e7.trans (Ext.refl.new hq)), M7.new hq0, by rw [List.take_zero]; exact Grow.refl, by simp⟩
        · rintro l q f c Hc ⟨h1, h2, h3, _⟩
          exact ⟨h1, h2, h3⟩
        · rintro l q f c x Hc ⟨h1, h2, h3, h4, h5, h6, m', gs', S7, M7, g7, c7⟩ hx Hd rfl hl7 hq7 hL7
          rw [List.getElem?_map] at hx
          obtain ⟨j, hj, rfl⟩ := Option.map_eq_some_iff.mp hx
          have hjm : j ∈ g.ch i := List.mem_of_getElem? hj
          have hjn := G.chn i hi j hjm
          have S8 := (S7.loc (x := .iter l (c + 1)) G h2).loc (x := .ns fun y => if y = ("child" : Str) then some (.ref (g.X j)) else f y) G (upd_of_ne h3 (ne_of h3 h2 (by simp)))
          have M8 := (M7.new (x := .iter l (c + 1)) h6).new (x := .ns fun y => if y = ("child" : Str) then some (.ref (g.X j)) else f y) hL
          change MSt g m' gs' ga wk lg la lw wh (upd (upd Hc q (.iter l (c + 1))) L _) at S8
          have hmea := g7.mea
          have hpl : gs.length ≤ gs'.length := by obtain ⟨ad, e⟩ := g7.pre; rw [e]; simp
          generalize upd (upd Hc q (.iter l (c + 1))) L (.ns fun y => if y = ("child" : Str) then some (.ref (g.X j)) else f y) = H8 at S8 M8 hl7 hq7 hL7 ⊢
          obtain ⟨tm8, hM8⟩ := S8.mo
          refine WP.cons (WP.expr (WP.callM (WP.name (WP.loadL hL7 (if_neg (by decide) |>.trans h4) ?_))))
          refine WP.meth (f := 84) B hM8 (by kernel_rfl) rfl ?_
          refine WP.cwK B (by k_is) (WP.args (WP.name (WP.loadL hL7 (if_pos rfl) ?_)))
          refine WP.args0 ?_
          refine ih (k - 1) (by omega) (show whites g.n m' ≤ k - 1 by omega) o' (by omega) S8 hjn (by omega) fun H9 m9 gs9 S9 M9 g9 c9 => ?_
          refine WP.nil ⟨_, M9.at hl7 ?_, M9.at hq7, M9.ns hL7, (if_neg (by decide)).trans h4, h5, h6, m9, gs9, S9, M8.trans M9, ?_, ?_⟩
          · have : l ≠ lg := fun z => by subst z; have := S.g1; rw [h5] at this; cases this
            simp [prot, this]
          · have e := List.take_add_one (l := g.ch i) (i := c)
            rw [hj] at e
            rw [e]
            exact g7.trans g9
          · intro j' hj'
            rw [List.take_add_one, hj] at hj'
            rcases List.mem_append.mp hj' with z | z
            · exact g9.marked (c7 j' z)
            · rw [List.mem_singleton.mp z]; exact c9
        · rintro l q f Hc ⟨h1, h2, h3, h4, h5, h6, m', gs', S7, M7, g7, c7⟩
          rw [List.length_map, List.take_length] at g7 c7
          have g8 := Grow.leaf hi hw hv g7 c7
          refine WP.nil (WP.nil (WP.nil (h _ m' gs' (S7.gone G h2) (M7.gone h6) g8 ?_)))
          rw [g7.mono i (by simp [setm]; omega)]
          simp [setm]; omega
      | false =>
        rw [if_neg Bool.false_ne_true]
        -- self.grey.append(obj)
        obtain ⟨tm6, hM6⟩ := S6.mo
        refine WP.cons (WP.expr (WP.callM (WP.attr (WP.name (WP.loadL hL6 rfl ?_)))))
        refine WP.getI B hM6 rfl (by kernel_rfl) rfl ?_
        refine WP.lMeth S6.g1 slot_list_append type_list_append ?_
        refine WP.cwB (WP.args (WP.name (WP.loadL hL6 rfl ?_)))
        refine WP.args0 ?_
        refine r_push G S6 (by omega) fun H7 S7 m7 => ?_
        have hs1 : g.sort i ≠ 1 := fun z => by rw [z] at hb; cases hb
        obtain rfl := hv1 hs1
        exact WP.nil (WP.nil (h H7 _ _ S7 (M6.trans (m7.weaken (by simp) (by simp))) (Grow.lay hi hw) (by simp [setm])))
    · rw [decide_eq_false hw]
      refine WP.cons (WP.ret0 ?_)
      exact h H2 m gs S2 e12.mod Grow.refl (by omega)
end
end Mine
end
section
open PySem PySem.W PyProof.Rows PySem.Calls
namespace Mine
theorem fill3 : (PySem.Challenge.rw_xm0623_01, Mine.hk.heap_1) = (PySem.Challenge.rw_xm0623_01, Mine.hk.heap_1) := by
  k_fill
  rfl

/-- frames, iterators are kept, what is told of stays told of -/
def Cal (H H' : HM) : Prop := ∀ a y, H a = some y → (calm y = false → H' a = some y) ∧ ∃ z, H' a = some z
section
variable {H H' H'' : HM} {a q : Addr} {x y : AObj} {ls cs : List Addr}
theorem Cal.refl : Cal H H := fun _ y h => ⟨fun _ => h, y, h⟩
theorem Cal.trans (u : Cal H H') (v : Cal H' H'') : Cal H H'' := fun a y h => ⟨fun p => (v a y ((u a y h).1 p)).1 p, let ⟨z, hz⟩ := (u a y h).2; (v a z hz).2⟩
theorem Mod.cal (u : Mod ls cs H H') : Cal H H' := fun a y h => ⟨fun p => (u a y h).1 (by cases y <;> first | rfl | cases p), (u a y h).2⟩
theorem Ext.cal (e : Ext H H') : Cal H H' := fun a y h => ⟨fun _ => e a y h, y, e a y h⟩
theorem Cal.new (u : Cal H H') (h : H q = none) : Cal H (upd H' q x) := fun a y ha => by
  rw [upd_ne (fun z => by rw [z, h] at ha; cases ha)]; exact u a y ha
theorem Cal.gone (u : Cal H H') (h : H q = none) : Cal H (del H' q) := fun a y ha => by
  rw [del_ne (fun z => by rw [z, h] at ha; cases ha)]; exact u a y ha
theorem Cal.ns {L : Addr} {m : Str → Option Value} (u : Cal H H') (h : H L = some (.ns m)) : H' L = some (.ns m) := (u L _ h).1 rfl
theorem Cal.it {L l : Addr} {i : Nat} (u : Cal H H') (h : H L = some (.iter l i)) : H' L = some (.iter l i) := (u L _ h).1 rfl
theorem Cal.fresh (u : Cal H H') (h : H' q = none) : H q = none := by
  cases e : H q with
  | none => rfl
  | some y => obtain ⟨z, hz⟩ := (u q y e).2; rw [h] at hz; cases hz
theorem Cal.put (u : Cal H H') (h : H' a = some y) (hy : calm y = true) : Cal H (upd H' a x) := fun b z hb => by
  by_cases e : b = a
  · subst e
    refine ⟨fun p => ?_, x, upd_self⟩
    have := (u b z hb).1 p
    rw [h] at this; cases this
    rw [hy] at p; cases p
  · rw [upd_ne e]; exact u b z hb
theorem Cal.loc {L : Addr} (u : Cal H H') (h : H L = none) (e : ∀ b, b ≠ L → H'' b = H' b) : Cal H H'' := fun a y ha => by
  rw [e a (fun z => by rw [z, h] at ha; cases ha)]; exact u a y ha
end

theorem MSt.re {g : GC} {m : Nat → Int} {gs ga wk gs' ga' wk' : List Nat} {lg la lw lg' la' lw' : Addr} {wh wh' : Int} {H H' : HM} (G : g.Good) (S : MSt g m gs ga wk lg la lw wh H) (k : ∀ a y, H a = some y → a ≠ g.mo → H' a = some y)
    (hm : ∃ t, H' g.mo = some (marksO g wh' t lg' la' lw')) (g1 : H' lg' = some (refs g gs')) (a1 : H' la' = some (refs g ga')) (w1 : H' lw' = some (refs g wk')) (e1 : lg' ≠ la') (e2 : lg' ≠ lw') (e3 : la' ≠ lw') (r1 : g.ro lg' = none) (r2 : g.ro la' = none) (r3 : g.ro lw' = none) : MSt g m gs' ga' wk' lg' la' lw' wh' H' := by
  obtain ⟨t, hM⟩ := S.mo
  refine ⟨fun a y hy => k a y (S.ro a y hy) (fun z => by rw [z, G.roM] at hy; cases hy), fun i hi => ?_, hm, g1, a1, w1, e1, e2, e3, r1, r2, r3⟩
  obtain ⟨a, b, c, h⟩ := S.th i hi
  exact ⟨a, b, c, k _ _ h (ne_of h hM (by simp))⟩

/-- all is marked as it should be -/
structure MI (g : GC) (src : List Nat) (w0 : Int) (m : Nat → Int) (gs ga wk : List Nat) : Prop where
  val : ∀ j, j < g.n → m j = w0 ∨ m j = 2 ∨ m j = 3
  rt : ∀ j, j < g.n → 2 ≤ m j → RT g.ch src j
  sr : ∀ i ∈ src, 2 ≤ m i
  ok : ∀ j, j ∈ gs ∨ j ∈ ga ∨ j ∈ wk → j < g.n ∧ 2 ≤ m j
  clo : ∀ j, j < g.n → 2 ≤ m j → j ∈ gs ∨ ∀ c ∈ g.ch j, 2 ≤ m c
  tot : whites g.n m + gs.length + ga.length + wk.length ≤ 50

theorem MI.grow {g : GC} {src s : List Nat} {w0 : Int} {m m' : Nat → Int} {gs gs' ga wk : List Nat} (I : MI g src w0 m gs ga wk) (hw : w0 < 2) (a : Grow g.n g.ch s m gs m' gs') (hs : ∀ i ∈ s, RT g.ch src i) : MI g src w0 m' gs' ga wk where
  val j hj := by
    rcases I.val j hj with e | e | e
    · rcases a.up j (by omega) with h | h | h <;> omega
    · have := a.mono j (by omega); omega
    · have := a.mono j (by omega); omega
  rt j hj h := by
    by_cases q : 2 ≤ m j
    · exact I.rt j hj q
    · exact (a.new j hj (by omega) h).mono hs
  sr i hi := a.marked (I.sr i hi)
  ok j h := by
    rcases h with h | h
    · rcases a.gl j h with q | q
      · have := I.ok j (.inl q); exact ⟨this.1, a.marked this.2⟩
      · exact q
    · have := I.ok j (.inr h); exact ⟨this.1, a.marked this.2⟩
  clo j hj h := by
    by_cases q : 2 ≤ m j
    · rcases I.clo j hj q with z | z
      · obtain ⟨y, e⟩ := a.pre
        exact .inl (by rw [e]; exact List.mem_append_left _ z)
      · exact .inr fun c hc => a.marked (z c hc)
    · exact a.clo j hj (by omega) h
  tot := by have := a.mea; have := I.tot; omega

/-- the last grey one taken, its children gone through -/
theorem MI.step {g : GC} {src : List Nat} {w0 : Int} {m m' : Nat → Int} {gs gs' ga wk ga' wk' : List Nat} {i : Nat} {v : Int} (I : MI g src w0 m (gs ++ [i]) ga wk) (hw : w0 < 2) (hv : v = 2 ∨ v = 3) (a : Grow g.n g.ch (g.ch i) (setm m i v) gs m' gs') (hc : ∀ c ∈ g.ch i, 2 ≤ m' c)
    (hg : ∀ j ∈ ga', j ∈ ga ∨ j = i) (hk : ∀ j ∈ wk', j ∈ wk ∨ j = i) (hl : ga'.length + wk'.length ≤ ga.length + wk.length + 1) : MI g src w0 m' gs' ga' wk' ∧ whites g.n m' + gs'.length < whites g.n m + (gs ++ [i]).length := by
  have hi := I.ok i (.inl (by simp))
  have e : ∀ j, j ≠ i → setm m i v j = m j := fun j hj => by simp [setm, hj]
  have ei : setm m i v i = v := by simp [setm]
  have hwh := whites_same (n := g.n) (m := m) (i := i) (v := v) hi.2 (by omega)
  have up : ∀ j, 2 ≤ m j → 2 ≤ setm m i v j := fun j hj => by
    by_cases q : j = i
    · subst q; rw [ei]; omega
    · rw [e j q]; exact hj
  have hm := a.mea
  have ht := I.tot
  rw [List.length_append, List.length_singleton] at ht ⊢
  refine ⟨⟨fun j hj => ?_, fun j hj h => ?_, fun j hj => a.marked (up j (I.sr j hj)), fun j h => ?_, fun j hj h => ?_, by omega⟩, by omega⟩
  · by_cases q : 2 ≤ setm m i v j
    · rw [a.mono j q]
      by_cases z : j = i
      · subst z; rw [ei]; omega
      · rw [e j z]; exact I.val j hj
    · have z : j ≠ i := fun z => by subst z; rw [ei] at q; omega
      rcases a.up j (by omega) with h | h
      · rw [h, e j z]; exact I.val j hj
      · omega
  · by_cases q : 2 ≤ m j
    · exact I.rt j hj q
    · have z : j ≠ i := fun z => by subst z; omega
      exact (a.new j hj (by rw [e j z]; omega) h).mono fun c hc => .step (I.rt i hi.1 hi.2) hc
  · have fin : ∀ j, j < g.n ∧ 2 ≤ m j → j < g.n ∧ 2 ≤ m' j := fun j h => ⟨h.1, a.marked (up j h.2)⟩
    rcases h with h | h | h
    · rcases a.gl j h with q | q
      · exact fin j (I.ok j (.inl (List.mem_append_left _ q)))
      · exact q
    · rcases hg j h with q | rfl
      · exact fin j (I.ok j (.inr (.inl q)))
      · exact fin _ hi
    · rcases hk j h with q | rfl
      · exact fin j (I.ok j (.inr (.inr q)))
      · exact fin _ hi
  · by_cases q : 2 ≤ m j
    · rcases I.clo j hj q with z | z
      · rcases List.mem_append.mp z with z | z
        · obtain ⟨y, e⟩ := a.pre
          exact .inl (by rw [e]; exact List.mem_append_left _ z)
        · rw [List.mem_singleton.mp z]; exact .inr hc
      · exact .inr fun c h => a.marked (up c (z c h))
    · have z : j ≠ i := fun z => by subst z; omega
      exact a.clo j hj (by rw [e j z]; omega) h
/-- in the end marked is reached -/
theorem MI.done {g : GC} {src : List Nat} {w0 : Int} {m : Nat → Int} {ga wk : List Nat} (G : g.Good) (I : MI g src w0 m [] ga wk) (hs : ∀ i ∈ src, i < g.n) : ∀ j, (j < g.n ∧ 2 ≤ m j) ↔ RT g.ch src j := fun j => by
  refine ⟨fun h => I.rt j h.1 h.2, fun h => ?_⟩
  induction h with
  | src h => exact ⟨hs _ h, I.sr _ h⟩
  | @step i j _ hc ih =>
    refine ⟨G.chn i ih.1 j hc, ?_⟩
    rcases I.clo i ih.1 ih.2 with z | z
    · cases z
    · exact z j hc

section
variable {prog : Program} {w : World} {h₀ : Heap} {g : GC} {A : Around} {d : Nat} {H : HM} {m : Nat → Int} {gs ga wk : List Nat} {lg la lw : Addr} {wh : Int} {Φ : Value → HM → Prop}

theorem WP.blt {K : Frag} {x : Str} {v : Value} {env : Env} (B : Bs K h₀) (e : nsIn K mainGlobals x = some none) (hv : bootBuiltins x = some v) (hn : x ≠ "__name__") (h : Φ v H)
    (hg : env.globals = mainGlobals := by rfl) (hb : env.builtins = builtinsNs := by rfl) (hk : env.scope.kind = .function := by rfl) (hx : env.kindOf x = some .globalImplicit := by rfl) : WP prog w h₀ A (loadName env x) H Φ := by
  obtain ⟨p, loose, T⟩ := B.T
  exact WP.loadB B.X T e hv hn h hg hb hk hx

theorem s_forget (B : Bs (Mine.hk.heap_1 w.params) h₀) (G : g.Good) (o : Ok A d) (hd : d ≤ 800) (S : MSt g m gs ga wk lg la lw wh H)
    (h : ∀ H' lg' la' lw', MSt g m [] [] [] lg' la' lw' wh H' → Cal H H' → Φ .none H') : WP prog w h₀ A (call (.ref 70) [.ref g.mo]) H Φ := by
  refine WP.fn (binds := [("self", .ref g.mo)]) B o (by omega) (by k_is) (by k_is) (fun _ => .of_eq rfl) (locs rfl) (fun L A' H1 hL o' e1 hL1 => ?_)
  have S1 := S.ext e1
  obtain ⟨t, hM1⟩ := S1.mo
  refine WP.cons (WP.asgAttr (WP.eList (WP.args0 (WP.newList fun q1 hq1 => WP.name (WP.loadL (upd_old hL1 hq1) rfl ?_)))))
  refine WP.setI B (upd_old hM1 hq1) (by kernel_rfl) (by simp) ?_
  have ro1 : g.ro q1 = none := S1.ro.fresh hq1
  have nm : g.mo ≠ q1 := fun z => by rw [z, hq1] at hM1; cases hM1
  have S2 : MSt g m [] ga wk q1 la lw wh (upd (upd H1 q1 (.list [])) g.mo (marksO g wh t q1 la lw)) := S1.re G (fun a y ha hm => by rw [upd_ne hm]; exact upd_old ha hq1) ⟨t, upd_self⟩ (by rw [upd_ne (Ne.symm nm), upd_self]; rfl)
    (by rw [upd_ne (ne_of S1.a1 hM1 (by simp))]; exact upd_old S1.a1 hq1) (by rw [upd_ne (ne_of S1.w1 hM1 (by simp))]; exact upd_old S1.w1 hq1)
    (fun z => by have := S1.a1; rw [← z, hq1] at this; cases this) (fun z => by have := S1.w1; rw [← z, hq1] at this; cases this) S1.aw_ ro1 S1.roa S1.row
  have C2 : Cal H1 (upd (upd H1 q1 (.list [])) g.mo (marksO g wh t q1 la lw)) := (Cal.refl.new hq1).put (upd_old hM1 hq1) rfl
  show WP prog w h₀ A' _ (upd (upd H1 q1 (.list [])) g.mo (marksO g wh t q1 la lw)) _
  generalize upd (upd H1 q1 (.list [])) g.mo (marksO g wh t q1 la lw) = H2 at S2 C2 ⊢
  have hL2 := C2.ns hL1
  obtain ⟨t, hM2⟩ := S2.mo
  refine WP.cons (WP.asgAttr (WP.eList (WP.args0 (WP.newList fun q2 hq2 => WP.name (WP.loadL (upd_old hL2 hq2) rfl ?_)))))
  refine WP.setI B (upd_old hM2 hq2) (by kernel_rfl) (by simp) ?_
  have ro2 : g.ro q2 = none := S2.ro.fresh hq2
  have nm2 : g.mo ≠ q2 := fun z => by rw [z, hq2] at hM2; cases hM2
  have S3 : MSt g m [] [] wk q1 q2 lw wh (upd (upd H2 q2 (.list [])) g.mo (marksO g wh t q1 q2 lw)) := S2.re G (fun a y ha hm => by rw [upd_ne hm]; exact upd_old ha hq2) ⟨t, upd_self⟩ 
    (by rw [upd_ne (ne_of S2.g1 hM2 (by simp))]; exact upd_old S2.g1 hq2) (by rw [upd_ne (Ne.symm nm2), upd_self]; rfl) (by rw [upd_ne (ne_of S2.w1 hM2 (by simp))]; exact upd_old S2.w1 hq2)
    (fun z => by have := S2.g1; rw [z, hq2] at this; cases this) S2.gw_ (fun z => by have := S2.w1; rw [← z, hq2] at this; cases this) S2.rog ro2 S2.row
  have C3 : Cal H1 (upd (upd H2 q2 (.list [])) g.mo (marksO g wh t q1 q2 lw)) := C2.trans ((Cal.refl.new hq2).put (upd_old hM2 hq2) rfl)
  show WP prog w h₀ A' _ (upd (upd H2 q2 (.list [])) g.mo (marksO g wh t q1 q2 lw)) _
  generalize upd (upd H2 q2 (.list [])) g.mo (marksO g wh t q1 q2 lw) = H3 at S3 C3 ⊢
  have hL3 := C3.ns hL1
  obtain ⟨t, hM3⟩ := S3.mo
  refine WP.cons (WP.asgAttr (WP.eList (WP.args0 (WP.newList fun q3 hq3 => WP.name (WP.loadL (upd_old hL3 hq3) rfl ?_)))))
  refine WP.setI B (upd_old hM3 hq3) (by kernel_rfl) (by simp) ?_
  have ro3 : g.ro q3 = none := S3.ro.fresh hq3
  have nm3 : g.mo ≠ q3 := fun z => by rw [z, hq3] at hM3; cases hM3
  have S4 : MSt g m [] [] [] q1 q2 q3 wh (upd (upd H3 q3 (.list [])) g.mo (marksO g wh t q1 q2 q3)) := S3.re G (fun a y ha hm => by rw [upd_ne hm]; exact upd_old ha hq3) ⟨t, upd_self⟩ 
    (by rw [upd_ne (ne_of S3.g1 hM3 (by simp))]; exact upd_old S3.g1 hq3) (by rw [upd_ne (ne_of S3.a1 hM3 (by simp))]; exact upd_old S3.a1 hq3) (by rw [upd_ne (Ne.symm nm3), upd_self]; rfl) 
    S3.ga_ (fun z => by have := S3.g1; rw [z, hq3] at this; cases this) (fun z => by have := S3.a1; rw [z, hq3] at this; cases this) S3.rog S3.roa ro3
  have C4 : Cal H1 (upd (upd H3 q3 (.list [])) g.mo (marksO g wh t q1 q2 q3)) := C3.trans ((Cal.refl.new hq3).put (upd_old hM3 hq3) rfl)
  exact WP.nil (h _ q1 q2 q3 S4 (e1.cal.trans C4))
end
end Mine
end
section
open PySem PySem.W PyProof.Rows PySem.Calls
namespace Mine
theorem fill4 : (PySem.Challenge.rw_xm0623_01, Mine.hk.heap_1) = (PySem.Challenge.rw_xm0623_01, Mine.hk.heap_1) := by
  k_fill
  rfl
section
variable {prog : Program} {w : World} {h₀ : Heap} {g : GC} {A : Around} {d : Nat} {H : HM} {m : Nat → Int} {gs ga wk : List Nat} {lg la lw : Addr} {wh : Int}

/-- a for that marks each one -/
theorem s_marks (B : Bs (Mine.hk.heap_1 w.params) h₀) (G : g.Good) (Cs : Calls prog w h₀ g) {H0 : HM} {env : Env} {x : Str} {px pos : Pos} {iter : Expr} {body : List Stmt} {cs : List Nat} {f : Str → Option Value} {Φ : Flow → HM → Prop}
    (o : Ok A d) (hd : d ≤ 600) (hL0 : H0 env.locals = none) (hx : x ≠ "self") (hself : f "self" = some (.ref g.mo)) (hcs : ∀ j ∈ cs, j < g.n) (hg : gs.length + whites g.n m ≤ 50)
    (hi : WP prog w h₀ A (eval iter env) H fun xv H1 => ∃ l, xv = .ref l ∧ H1 l = some (refs g cs) ∧ l ≠ lg ∧ H1 env.locals = some (.ns f) ∧ MSt g m gs ga wk lg la lw wh H1 ∧ Mod [lg] [367] H0 H1)
    (hb : ∀ (Hb : HM) (fb : Str → Option Value) (j : Nat) (Ψ : HM → Prop), Hb env.locals = some (.ns fb) → fb x = some (.ref (g.X j)) → fb "self" = some (.ref g.mo) → (∃ t, Hb g.mo = some (marksO g wh t lg la lw)) →
      WP prog w h₀ A (call (.ref 84) [.ref g.mo, .ref (g.X j)]) Hb (fun _ H' => Ψ H') → WP prog w h₀ A (execs body env) Hb fun fl H' => fl = .next ∧ Ψ H')
    (h : ∀ H' m' gs' f', MSt g m' gs' ga wk lg la lw wh H' → Mod [lg] [367] H0 H' → Grow g.n g.ch cs m gs m' gs' → (∀ j ∈ cs, 2 ≤ m' j) → H' env.locals = some (.ns f') → (∀ y, y ≠ x → f' y = f y) → Φ .next H')
    (hs : ∀ x, foldedSetIterable iter env x = Pure.pure x := by intro _; rfl) (hkx : env.kindOf x = some .local := by rfl) (hp : (env.scope.kind == .class || (env.scope.kind == .module && env.locals != env.globals)) = false := by rfl) :
    WP prog w h₀ A (exec (.For (.Name x px) iter body [] pos) env) H Φ := by
  refine WP.forL (vs := cs.map fun j => .ref (g.X j))
    (fun l q f' c Hc => Hc l = some (refs g cs) ∧ l ≠ lg ∧ Hc q = some (.iter l c) ∧ Hc env.locals = some (.ns f') ∧ (∀ y, y ≠ x → f' y = f y) ∧ H0 q = none ∧
      ∃ m' gs', MSt g m' gs' ga wk lg la lw wh Hc ∧ Mod [lg] [367] H0 Hc ∧ Grow g.n g.ch (cs.take c) m gs m' gs' ∧ ∀ j ∈ cs.take c, 2 ≤ m' j) o.hh ?_ ?_ ?_ ?_ hs hkx hp
  · refine hi.mono fun xv H1 ⟨l, e, hl, hlg, hL, S, M⟩ => ⟨l, e, hl, fun q hq => ?_⟩
    have hq0 := M.fresh hq
    exact ⟨f, upd_old hl hq, hlg, upd_self, upd_old hL hq, fun _ _ => rfl, hq0, _, _, S.ext (Ext.refl.new hq), M.new hq0, by rw [List.take_zero]; exact Grow.refl, by simp⟩
  · rintro l q f' c Hc ⟨h1, _, h2, h3, _⟩
    exact ⟨h1, h2, h3⟩
  · rintro l q f' c xv Hc ⟨h1, h1', h2, h3, h4, h6, m', gs', S7, M7, g7, c7⟩ hxv Hd rfl hl7 hq7 hL7
    rw [List.getElem?_map] at hxv
    obtain ⟨j, hj, rfl⟩ := Option.map_eq_some_iff.mp hxv
    have hjm : j ∈ cs := List.mem_of_getElem? hj
    have hjn := hcs j hjm
    have S8 := (S7.loc (x := .iter l (c + 1)) G h2).loc (x := .ns fun y => if y = x then some (.ref (g.X j)) else f' y) G (upd_of_ne h3 (ne_of h3 h2 (by simp)))
    have M8 := (M7.new (x := .iter l (c + 1)) h6).new (x := .ns fun y => if y = x then some (.ref (g.X j)) else f' y) hL0
    have hmea := g7.mea
    have hpl : gs.length ≤ gs'.length := by obtain ⟨ad, e⟩ := g7.pre; rw [e]; simp
    generalize upd (upd Hc q (.iter l (c + 1))) env.locals (.ns fun y => if y = x then some (.ref (g.X j)) else f' y) = H8 at S8 M8 hl7 hq7 hL7 ⊢
    have hwn : whites g.n m' ≤ g.n := by
      unfold whites
      exact Nat.le_trans (List.length_filter_le _ _) (by simp)
    have hn5 := G.n5
    refine (hb H8 _ j (fun H'' => ∃ m', H'' l = some (refs g cs) ∧ l ≠ lg ∧ H'' q = some (.iter l (c + 1)) ∧ H'' env.locals = some (.ns m') ∧ (∀ y, y ≠ x → m' y = f y) ∧ H0 q = none ∧ ∃ m'' gs'', MSt g m'' gs'' ga wk lg la lw wh H'' ∧ Mod [lg] [367] H0 H'' ∧ Grow g.n g.ch (cs.take (c + 1)) m gs m'' gs'' ∧ ∀ j ∈ cs.take (c + 1), 2 ≤ m'' j) hL7 (if_pos rfl) ((if_neg (Ne.symm hx)).trans ((h4 _ (Ne.symm hx)).trans hself)) S8.mo ?_).mono fun fl H'' ⟨e, p⟩ => by subst e; exact p
    refine s_mark B G Cs (whites g.n m') (Nat.le_refl _) o (by omega) S8 hjn (by omega) fun H9 m9 gs9 S9 M9 g9 c9 => ?_
    refine ⟨_, M9.at hl7 ?_, h1', M9.at hq7, M9.ns hL7, fun y hy => (if_neg hy).trans (h4 y hy), h6, m9, gs9, S9, M8.trans M9, ?_, ?_⟩
    · simp [prot, h1']
    · have e := List.take_add_one (l := cs) (i := c)
      rw [hj] at e
      rw [e]
      exact g7.trans g9
    · intro j' hj'
      rw [List.take_add_one, hj] at hj'
      rcases List.mem_append.mp hj' with z | z
      · exact g9.marked (c7 j' z)
      · rw [List.mem_singleton.mp z]; exact c9
  · rintro l q f' Hc ⟨h1, h1', h2, h3, h4, h6, m', gs', S7, M7, g7, c7⟩
    rw [List.length_map, List.take_length] at g7 c7
    exact WP.nil (h _ m' gs' f' (S7.gone G h2) (M7.gone h6) g7 c7 (by rw [del_ne (ne_of h3 h2 (by simp))]; exact h3) h4)

theorem s_begin (B : Bs (Mine.hk.heap_1 w.params) h₀) (G : g.Good) (Cs : Calls prog w h₀ g) {src : List Nat} {rl : Addr} {Φ : Value → HM → Prop} (o : Ok A d) (hd : d ≤ 550) (S : MSt g m gs ga wk lg la lw wh H) (hr : g.ro rl = some (refs g src)) (hsrc : ∀ i ∈ src, i < g.n)
    (h : ∀ H' m' gs' lg' la' lw', MSt g m' gs' [] [] lg' la' lw' wh H' → Cal H H' → Grow g.n g.ch src m [] m' gs' → (∀ i ∈ src, 2 ≤ m' i) → Φ .none H') : WP prog w h₀ A (call (.ref 77) [.ref g.mo, .ref rl]) H Φ := by
  refine WP.fn (binds := [("self", .ref g.mo), ("roots", .ref rl)]) B o (by omega) (by k_is) (by k_is) (fun _ => .of_eq rfl) (locs rfl) (fun L A' H1 hL o' e1 hL1 => ?_)
  have S1 := S.ext e1
  obtain ⟨t, hM1⟩ := S1.mo
  refine WP.cons (WP.expr (WP.callM (WP.name (WP.loadL hL1 rfl ?_))))
  refine WP.meth (f := 70) B hM1 (by kernel_rfl) rfl ?_
  refine WP.cwK0 B (by k_is) ?_
  refine s_forget B G o' (by omega) S1 fun H2 lg' la' lw' S2 C2 => ?_
  have hL2 := C2.ns hL1
  have hn5 := G.n5
  have hwn : whites g.n m ≤ g.n := by
    unfold whites
    exact Nat.le_trans (List.length_filter_le _ _) (by simp)
  refine WP.cons (s_marks (H0 := del H2 L) (gs := []) (ga := []) (wk := []) (lg := lg') (la := la') (lw := lw') (wh := wh) (f := fun y => [(("self" : Str), Value.ref g.mo), ("roots", .ref rl)].reverse.lookup y) B G Cs o' (by omega) del_self (by decide) rfl hsrc (show 0 + whites g.n m ≤ 50 by omega) ?_ ?_ ?_)
  · refine WP.name (WP.loadL hL2 rfl ?_)
    refine ⟨rl, rfl, S2.ro _ _ hr, fun z => ?_, hL2, S2, fun a y ha => ?_⟩
    · have := S2.rog; rw [← z, hr] at this; cases this
    · have ne : a ≠ L := fun z => by subst z; rw [del_self] at ha; cases ha
      rw [del_ne ne] at ha
      exact ⟨fun _ => ha, _, ha⟩
  · rintro Hb fb j Ψ hLb hx hs ⟨t, hMb⟩ hc
    refine WP.cons (WP.expr (WP.callM (WP.name (WP.loadL hLb hs ?_))))
    refine WP.meth (f := 84) B hMb (by kernel_rfl) rfl ?_
    refine WP.cwK B (by k_is) (WP.args (WP.name (WP.loadL hLb hx ?_)))
    refine WP.args0 (hc.mono fun _ H' p => WP.nil ⟨rfl, p⟩)
  · intro H3 m' gs' f' S3 M3 g3 c3 _ _
    refine WP.nil (h H3 m' gs' lg' la' lw' S3 (((e1.cal.trans C2).gone hL).trans M3.cal) g3 c3)
end
end Mine
end
section
open PySem PySem.W PyProof.Rows PySem.Calls
namespace Mine
theorem fill5 : (PySem.Challenge.rw_xm0623_01, Mine.hk.heap_1) = (PySem.Challenge.rw_xm0623_01, Mine.hk.heap_1) := by
  k_fill
  rfl
section
variable {prog : Program} {w : World} {h₀ : Heap} {g : GC} {A : Around} {d : Nat} {H : HM} {m : Nat → Int} {gs ga wk : List Nat} {lg la lw : Addr} {wh : Int} {Φ : Value → HM → Prop}

theorem r_pushA {i : Nat} {Φ : Value → HM → Prop} (G : g.Good) (S : MSt g m gs ga wk lg la lw wh H) (hz : ga.length ≤ 1000)
    (h : ∀ H', MSt g m gs (ga ++ [i]) wk lg la lw wh H' → Cal H H' → Φ .none H') : WP prog w h₀ A (call (.builtin "list.append") [.ref la, .ref (g.X i)]) H Φ := by
  refine WP.append S.a1 ?_ (by simp; omega)
  have := S.pushA G (ga ++ [i])
  rw [show refs g (ga ++ [i]) = AObj.list ((ga.map fun j => Value.ref (g.X j)) ++ [Value.ref (g.X i)]) by simp [refs]] at this
  exact h _ this (Cal.refl.put S.a1 rfl)
theorem r_pushW {i : Nat} {Φ : Value → HM → Prop} (G : g.Good) (S : MSt g m gs ga wk lg la lw wh H) (hz : wk.length ≤ 1000)
    (h : ∀ H', MSt g m gs ga (wk ++ [i]) lg la lw wh H' → Cal H H' → Φ .none H') : WP prog w h₀ A (call (.builtin "list.append") [.ref lw, .ref (g.X i)]) H Φ := by
  refine WP.append S.w1 ?_ (by simp; omega)
  have := S.pushW G (wk ++ [i])
  rw [show refs g (wk ++ [i]) = AObj.list ((wk.map fun j => Value.ref (g.X j)) ++ [Value.ref (g.X i)]) by simp [refs]] at this
  exact h _ this (Cal.refl.put S.w1 rfl)
theorem Mod.base {ls cs : List Addr} {H : HM} {L : Addr} : Mod ls cs (del H L) H := fun a y ha => by
  have ne : a ≠ L := fun z => by subst z; rw [del_self] at ha; cases ha
  rw [del_ne ne] at ha
  exact ⟨fun _ => ha, _, ha⟩

theorem s_propagate (B : Bs (Mine.hk.heap_1 w.params) h₀) (G : g.Good) (Cs : Calls prog w h₀ g) {src : List Nat} {w0 : Int} (hw : w0 < 2) (o : Ok A d) (hd : d ≤ 550) (S : MSt g m gs ga wk lg la lw wh H) (I : MI g src w0 m gs ga wk) (hne : gs ≠ [])
    (h : ∀ H' m' gs' ga' wk' r tk, MSt g m' gs' ga' wk' lg la lw wh H' → Cal H H' → MI g src w0 m' gs' ga' wk' → whites g.n m' + gs'.length < whites g.n m + gs.length → Φ (.int r tk) H') : WP prog w h₀ A (call (.ref 91) [.ref g.mo]) H Φ := by
  obtain ⟨g0, i, rfl⟩ : ∃ g0 i, gs = g0 ++ [i] := ⟨gs.dropLast, gs.getLast hne, (List.dropLast_concat_getLast hne).symm⟩
  obtain ⟨hi, hmi⟩ := I.ok i (.inl (by simp))
  have ht := I.tot
  rw [List.length_append, List.length_singleton] at ht
  refine WP.fn (binds := [("self", .ref g.mo)]) B o (by omega) (by k_is) (by k_is) (fun _ => .of_eq rfl) (locs rfl) (fun L A' H1 hL o' e1 hL1 => ?_)
  have S1 := S.ext e1
  obtain ⟨t, hM1⟩ := S1.mo
  -- obj = self.grey.pop()
  refine WP.cons (WP.asgName (WP.callM (WP.attr (WP.name (WP.loadL hL1 rfl ?_)))))
  refine WP.getI B hM1 rfl (by kernel_rfl) rfl ?_
  refine WP.lMeth S1.g1 PySem.F.slot_list_pop PySem.F.type_list_pop ?_
  refine WP.cwB0 (WP.pop (p := g0.map fun j => .ref (g.X j)) (y := .ref (g.X i)) S1.g1 (by simp) ?_ (by simp; omega))
  have S2 := S1.pushG G g0
  have C2 : Cal H (upd H1 lg (refs g g0)) := e1.cal.put S1.g1 rfl
  have hL2 := C2.trans (H'' := upd H1 lg (refs g g0)) Cal.refl
  have hLL : upd H1 lg (refs g g0) L = H1 L := upd_ne (ne_of hL1 S1.g1 (by simp))
  change WP prog w h₀ A' _ (upd H1 lg (refs g g0)) _
  rw [← hLL] at hL1
  clear hLL hL2 hM1
  generalize upd H1 lg (refs g g0) = H2 at S2 C2 hL1 ⊢
  refine WP.stG hL1 fun H3 q3 hL3 => ?_
  have S3 := S2.calm G hL1 rfl q3
  have C3 := C2.loc hL q3
  clear S2 C2 hL1 q3
  -- obj.mark = BLACK
  refine WP.cons (WP.asgAttr (WP.name (WP.loadG B.X B.g (by k_is) (WP.name (WP.loadL hL3 rfl ?_)))))
  refine r_mark B G S3 hi fun H4 S4 m4 => ?_
  have C4 := C3.trans m4.cal
  have hL4 := m4.ns hL3
  clear S3 C3 hL3 m4
  -- sort = self.sort_of(obj)
  obtain ⟨oc, od, fd, sl, hso⟩ := Cs.soo
  obtain ⟨tm4, hM4⟩ := S4.mo
  obtain ⟨t1, t2, t3, hX4⟩ := S4.th i hi
  refine WP.cons (WP.asgName (WP.callM (WP.name (WP.loadL hL4 rfl ?_))))
  refine WP.own B hM4 rfl (by kernel_rfl) (by kernel_rfl) rfl ?_
  refine WP.cwF (S4.ro _ _ hso) (WP.args (WP.name (WP.loadL hL4 rfl ?_)))
  refine WP.args0 ⟨S4.ro _ _ hso, ?_⟩
  refine Cs.so o' (by omega) S4.ro hi hX4 fun tk H5 e5 => ?_
  refine WP.stG (e5 _ _ hL4) fun H6 q6 hL6 => ?_
  have S6 := (S4.ext e5).calm G (e5 _ _ hL4) rfl q6
  have C6 := (C4.trans e5.cal).loc hL q6
  clear hM4 hX4 S4 C4 hL4 e5 q6
  refine WP.seq (fun H7 => ∃ v ga' wk' f, (v = 2 ∨ v = 3) ∧ MSt g (setm m i v) g0 ga' wk' lg la lw wh H7 ∧ Cal H H7 ∧ H7 L = some (.ns f) ∧ f "self" = some (.ref g.mo) ∧ f "obj" = some (.ref (g.X i)) ∧ (∀ j ∈ ga', j ∈ ga ∨ j = i) ∧ (∀ j ∈ wk', j ∈ wk ∨ j = i) ∧ ga'.length + wk'.length ≤ ga.length + wk.length + 1) ?_ ?_
  · refine WP.ifS (WP.tCmp (WP.name (WP.loadL hL6 rfl (WP.name (WP.loadG B.X B.g (by k_is) (WP.eq (WP.truthB ?_)))))))
    obtain ⟨tm6, hM6⟩ := S6.mo
    cases g.sort i == 3
    · refine WP.cons (WP.ifS (WP.tCmp (WP.name (WP.loadL hL6 rfl (WP.name (WP.loadG B.X B.g (by k_is) (WP.eq (WP.truthB ?_))))))))
      cases g.sort i == 4
      · exact WP.nil (WP.nil ⟨rfl, 3, ga, wk, _, .inr rfl, S6, C6, hL6, rfl, rfl, fun _ => .inl, fun _ => .inl, by omega⟩)
      · refine WP.cons (WP.expr (WP.callM (WP.attr (WP.name (WP.loadL hL6 rfl ?_)))))
        refine WP.getI B hM6 rfl (by kernel_rfl) rfl ?_
        refine WP.lMeth S6.w1 slot_list_append type_list_append ?_
        refine WP.cwB (WP.args (WP.name (WP.loadL hL6 rfl ?_)))
        refine WP.args0 ?_
        refine r_pushW G S6 (by omega) fun H7 S7 C7 => ?_
        have hL7 := C7.ns hL6
        refine WP.cons (WP.asgAttr (WP.name (WP.loadG B.X B.g (by k_is) (WP.name (WP.loadL hL7 rfl ?_)))))
        refine r_mark B G S7 hi fun H8 S8 m8 => ?_
        rw [setm_setm] at S8
        refine WP.nil (WP.nil ⟨rfl, 2, ga, wk ++ [i], _, .inl rfl, S8, (C6.trans C7).trans m8.cal, m8.ns hL7, rfl, rfl, fun _ => .inl, fun j hj => ?_, by rw [List.length_append, List.length_singleton]; omega⟩)
        rcases List.mem_append.mp hj with z | z
        · exact .inl z
        · exact .inr (List.mem_singleton.mp z)
    · refine WP.cons (WP.expr (WP.callM (WP.attr (WP.name (WP.loadL hL6 rfl ?_)))))
      refine WP.getI B hM6 rfl (by kernel_rfl) rfl ?_
      refine WP.lMeth S6.a1 slot_list_append type_list_append ?_
      refine WP.cwB (WP.args (WP.name (WP.loadL hL6 rfl ?_)))
      refine WP.args0 ?_
      refine r_pushA G S6 (by omega) fun H7 S7 C7 => ?_
      have hL7 := C7.ns hL6
      refine WP.cons (WP.asgAttr (WP.name (WP.loadG B.X B.g (by k_is) (WP.name (WP.loadL hL7 rfl ?_)))))
      refine r_mark B G S7 hi fun H8 S8 m8 => ?_
      rw [setm_setm] at S8
      refine WP.nil ⟨rfl, 2, ga ++ [i], wk, _, .inl rfl, S8, (C6.trans C7).trans m8.cal, m8.ns hL7, rfl, rfl, fun j hj => ?_, fun _ => .inl, by rw [List.length_append, List.length_singleton]; omega⟩
      rcases List.mem_append.mp hj with z | z
      · exact .inl z
      · exact .inr (List.mem_singleton.mp z)
  rintro H7 ⟨v, ga', wk', f, hv, S7, C7, hL7, hf1, hf2, hg', hk', hl'⟩
  clear S6 C6 hL6
  have hwh := whites_same (n := g.n) (m := m) (i := i) (v := v) hmi (by omega)
  refine WP.cons (s_marks (H0 := del H7 L) (gs := g0) (ga := ga') (wk := wk') (lg := lg) (la := la) (lw := lw) (wh := wh) (m := setm m i v) (f := f) (cs := g.ch i) B G Cs o' (by omega) del_self (by decide) hf1 (G.chn i hi) (by omega) ?_ ?_ ?_)
  · obtain ⟨tm7, hM7⟩ := S7.mo
    obtain ⟨oc, od, fd, sl, hch⟩ := Cs.cho
    obtain ⟨t1, t2, t3, hX7⟩ := S7.th i hi
    refine WP.callM (WP.name (WP.loadL hL7 hf1 ?_))
    refine WP.own B hM7 rfl (by kernel_rfl) (by kernel_rfl) rfl ?_
    refine WP.cwF (S7.ro _ _ hch) (WP.args (WP.name (WP.loadL hL7 hf2 ?_)))
    refine WP.args0 ⟨S7.ro _ _ hch, ?_⟩
    refine Cs.ch o' (by omega) S7.ro hi hX7 fun l H8 e8 hl hl8 => ⟨l, rfl, hl8, fun z => ?_, e8 _ _ hL7, S7.ext e8, Mod.base.trans e8.mod⟩
    have := S7.g1; rw [← z, hl] at this; cases this
  · rintro Hb fb j Ψ hLb hx hs ⟨t, hMb⟩ hc
    refine WP.cons (WP.expr (WP.callM (WP.name (WP.loadL hLb hs ?_))))
    refine WP.meth (f := 84) B hMb (by kernel_rfl) rfl ?_
    refine WP.cwK B (by k_is) (WP.args (WP.name (WP.loadL hLb hx ?_)))
    refine WP.args0 (hc.mono fun _ H' p => WP.nil ⟨rfl, p⟩)
  · intro H8 m' gs' f' S8 M8 g8 c8 hL8 hf8
    obtain ⟨I8, hlt⟩ := I.step hw hv g8 c8 hg' hk' hl'
    obtain ⟨t1, t2, t3, hX8⟩ := S8.th i hi
    refine WP.cons (WP.ret (WP.callN (WP.name (WP.blt B (by k_is) rfl (by decide) ?_))))
    refine WP.cwB (WP.args (WP.cInt fun tk1 => WP.args (WP.attr (WP.name (WP.loadL hL8 ((hf8 _ (by decide)).trans hf2) ?_)))))
    refine WP.getI B hX8 rfl (by kernel_rfl) rfl ?_
    refine WP.args0 (WP.max2 o'.hh fun tk2 => ?_)
    exact h H8 m' gs' ga' wk' _ tk2 S8 (((C7.gone hL).trans M8.cal)) I8 hlt
end
end Mine
end
section
open PySem PySem.W PyProof.Rows PySem.Calls
namespace Mine
theorem fill6 : (PySem.Challenge.rw_xm0623_01, Mine.hk.heap_1) = (PySem.Challenge.rw_xm0623_01, Mine.hk.heap_1) := by
  k_fill
  rfl
section
variable {prog : Program} {w : World} {h₀ : Heap} {g : GC} {A : Around} {d : Nat} {H : HM} {m : Nat → Int} {gs ga wk : List Nat} {lg la lw : Addr} {wh : Int} {Φ : Value → HM → Prop}

theorem s_propagate_all (B : Bs (Mine.hk.heap_1 w.params) h₀) (G : g.Good) (Cs : Calls prog w h₀ g) {src : List Nat} {w0 : Int} (hw : w0 < 2) (o : Ok A d) (hd : d ≤ 540) (S : MSt g m gs ga wk lg la lw wh H) (I : MI g src w0 m gs ga wk)
    (h : ∀ H' m' ga' wk' r tk, MSt g m' [] ga' wk' lg la lw wh H' → Cal H H' → MI g src w0 m' [] ga' wk' → Φ (.int r tk) H') : WP prog w h₀ A (call (.ref 98) [.ref g.mo]) H Φ := by
  refine WP.fn (binds := [("self", .ref g.mo)]) B o (by omega) (by k_is) (by k_is) (fun _ => .of_eq rfl) (locs rfl) (fun L A' H1 hL o' e1 hL1 => ?_)
  have S1 := S.ext e1
  refine WP.cons (WP.asgName (WP.cInt fun tk0 => WP.stG hL1 fun H2 q2 hL2 => ?_))
  have S2 := S1.calm G hL1 rfl q2
  have C2 := e1.cal.loc hL q2
  refine WP.cons (WP.whileG (fun n Hc => ∃ m gs ga wk f r tk, MSt g m gs ga wk lg la lw wh Hc ∧ MI g src w0 m gs ga wk ∧ n = whites g.n m + gs.length ∧ Cal H Hc ∧ Hc L = some (.ns f) ∧ f "self" = some (.ref g.mo) ∧ f "work" = some (.int r tk)) _
    ⟨m, gs, ga, wk, _, _, _, S2, I, rfl, C2, hL2, rfl, rfl⟩ ?_)
  rintro n Hc ⟨m, gs, ga, wk, f, r, tk, S3, I3, rfl, C3, hL3, hf1, hf2⟩
  obtain ⟨t3, hM3⟩ := S3.mo
  have ht := I3.tot
  refine WP.tCmp (WP.callN (WP.name (WP.blt B (by k_is) rfl (by decide) ?_)))
  refine WP.cwB (WP.args (WP.attr (WP.name (WP.loadL hL3 hf1 ?_))))
  refine WP.getI B hM3 rfl (by kernel_rfl) rfl ?_
  refine WP.args0 (WP.len S3.g1 (fun tk1 => WP.cInt fun tk2 => WP.gt (WP.truthB ?_)) (by simp; omega))
  rw [List.length_map]
  by_cases hz : gs = []
  · subst hz
    rw [show decide ((0 : Int) < ((([] : List Nat).length : Nat) : Int)) = false from rfl]
    refine WP.nil ?_
    refine WP.cons (WP.ret (WP.name (WP.loadL hL3 hf2 ?_)))
    exact h Hc m ga wk r tk S3 C3 I3
  · have hpos : decide ((0 : Int) < ((gs.length : Nat) : Int)) = true := by
      have : 0 < gs.length := List.length_pos_iff.mpr hz
      exact decide_eq_true (by omega)
    rw [hpos]
    refine WP.cons (WP.augName (WP.loadL hL3 hf2 ?_))
    refine WP.callM (WP.name (WP.loadL hL3 hf1 ?_))
    refine WP.meth (f := 91) B hM3 (by kernel_rfl) rfl ?_
    refine WP.cwK0 B (by k_is) ?_
    refine s_propagate B G Cs hw o' (by omega) S3 I3 hz fun H4 m4 gs4 ga4 wk4 r4 tk4 S4 C4 I4 lt4 => ?_
    refine WP.iadd fun tk5 => ?_
    refine WP.stG (C4.ns hL3) fun H5 q5 hL5 => ?_
    refine WP.nil ⟨_, lt4, m4, gs4, ga4, wk4, _, _, tk5, S4.calm G (C4.ns hL3) rfl q5, I4, rfl, (C3.trans C4).loc hL q5, hL5, (if_neg (by decide)).trans hf1, if_pos rfl⟩

theorem s_finish (B : Bs (Mine.hk.heap_1 w.params) h₀) (G : g.Good) (Cs : Calls prog w h₀ g) {src : List Nat} {w0 : Int} {rl : Addr} (hw : w0 < 2) (o : Ok A d) (hd : d ≤ 530) (S : MSt g m gs ga wk lg la lw wh H) (I : MI g src w0 m gs ga wk)
    (hr : g.ro rl = some (refs g src)) (hsrc : ∀ i ∈ src, i < g.n)
    (h : ∀ H' m' ga' wk' lg' la' lw', MSt g m' [] ga' wk' lg' la' lw' wh H' → Cal H H' → MI g src w0 m' [] ga' wk' → Φ .none H') : WP prog w h₀ A (call (.ref 105) [.ref g.mo, .ref rl]) H Φ := by
  refine WP.fn (binds := [("self", .ref g.mo), ("late", .ref rl)]) B o (by omega) (by k_is) (by k_is) (fun _ => .of_eq rfl) (locs rfl) (fun L A' H1 hL o' e1 hL1 => ?_)
  have S1 := S.ext e1
  obtain ⟨t1, hM1⟩ := S1.mo
  refine WP.cons (WP.expr (WP.callM (WP.name (WP.loadL hL1 rfl ?_))))
  refine WP.meth (f := 98) B hM1 (by kernel_rfl) rfl ?_
  refine WP.cwK0 B (by k_is) ?_
  refine s_propagate_all B G Cs hw o' (by omega) S1 I fun H2 m2 ga2 wk2 r2 tk2 S2 C2 I2 => ?_
  have C2 := e1.cal.trans C2
  have hL2 : H2 L = _ := (Cal.trans Cal.refl ‹Cal H1 H2›).ns hL1
  clear S1 hM1
  -- self.grey, self.weak = self.weak, []
  obtain ⟨t2, hM2⟩ := S2.mo
  refine WP.cons (WP.asgTup (WP.eTuple (WP.args (WP.attr (WP.name (WP.loadL hL2 rfl ?_))))))
  refine WP.getI B hM2 rfl (by kernel_rfl) rfl ?_
  refine WP.args (WP.eList (WP.args0 (WP.newList fun q hq => ?_)))
  refine WP.args0 (WP.newTuple fun tq htq => ?_)
  have hqt : q ≠ tq := fun z => by rw [← z, upd_self] at htq; cases htq
  have htq2 : H2 tq = none := by rw [upd_ne (Ne.symm hqt)] at htq; exact htq
  refine WP.aTup o'.hh upd_self ?_
  have hL3 := upd_old (y := .raw (tupO [.ref lw, .ref q])) (upd_old (y := .list []) hL2 hq) htq
  have hM3 := upd_old (y := .raw (tupO [.ref lw, .ref q])) (upd_old (y := .list []) hM2 hq) htq
  refine WP.ao1 (WP.aAttr (WP.name (WP.loadL hL3 rfl ?_)))
  refine WP.setI B hM3 (by kernel_rfl) (by simp) ?_
  refine WP.ao1 (WP.aAttr (WP.name (WP.loadL (upd_of_ne hL3 (ne_of hL3 hM3 (by simp))) rfl ?_)))
  refine WP.setI B upd_self (by kernel_rfl) (Nat.le_of_ble_eq_true rfl) ?_
  refine WP.ao0 ?_
  rw [upd_upd]
  have ro1 : g.ro q = none := S2.ro.fresh hq
  have nm : g.mo ≠ q := fun z => by rw [z, hq] at hM2; cases hM2
  have kk : ∀ a y, H2 a = some y → a ≠ g.mo → upd (upd (upd H2 q (.list [])) tq (.raw (tupO [.ref lw, .ref q]))) g.mo (marksO g wh t2 lw la q) a = some y := fun a y ha hm => by
    rw [upd_ne hm]; exact upd_old (upd_old ha hq) htq
  have S3 : MSt g m2 wk2 ga2 [] lw la q wh (upd (upd (upd H2 q (.list [])) tq (.raw (tupO [.ref lw, .ref q]))) g.mo (marksO g wh t2 lw la q)) := S2.re G kk ⟨t2, upd_self⟩ (kk _ _ S2.w1 (ne_of S2.w1 hM2 (by simp))) (kk _ _ S2.a1 (ne_of S2.a1 hM2 (by simp)))
    (by rw [upd_ne (Ne.symm nm), upd_ne hqt, upd_self]; rfl) (Ne.symm S2.aw_) (fun z => by have := S2.w1; rw [z, hq] at this; cases this) (fun z => by have := S2.a1; rw [z, hq] at this; cases this) S2.row S2.roa ro1
  have C3 : Cal H2 (upd (upd (upd H2 q (.list [])) tq (.raw (tupO [.ref lw, .ref q]))) g.mo (marksO g wh t2 lw la q)) := ((Cal.refl.new hq).new htq2).put hM3 rfl
  have I3 : MI g src w0 m2 wk2 ga2 [] := ⟨I2.val, I2.rt, I2.sr, fun j hj => I2.ok j (by rcases hj with z | z | z; exact .inr (.inr z); exact .inr (.inl z); cases z), fun j hj hm => by
    rcases I2.clo j hj hm with z | z
    · cases z
    · exact .inr z, by have := I2.tot; simp at this ⊢; omega⟩
  change WP prog w h₀ A' _ (upd (upd (upd H2 q (.list [])) tq (.raw (tupO [.ref lw, .ref q]))) g.mo (marksO g wh t2 lw la q)) _
  clear kk
  generalize upd (upd (upd H2 q (.list [])) tq (.raw (tupO [.ref lw, .ref q]))) g.mo (marksO g wh t2 lw la q) = H3 at S3 C3 ⊢
  have C3' := C2.trans C3
  have hL3 := C3.ns hL2
  clear hM3 hM2 hq htq htq2 hqt ro1 nm S2 C2 C3 I2 hL2
  -- for obj in late
  have ht3 := I3.tot
  refine WP.cons (s_marks (H0 := del H3 L) (gs := wk2) (ga := ga2) (wk := []) (lg := lw) (la := la) (lw := q) (wh := wh) (m := m2) (f := fun y => [(("self" : Str), Value.ref g.mo), ("late", .ref rl)].reverse.lookup y) (cs := src) B G Cs o' (by omega) del_self (by decide) rfl hsrc (by omega) ?_ ?_ ?_)
  · refine WP.name (WP.loadL hL3 rfl ?_)
    refine ⟨rl, rfl, S3.ro _ _ hr, fun z => ?_, hL3, S3, Mod.base⟩
    have := S3.rog; rw [← z, hr] at this; cases this
  · rintro Hb fb j Ψ hLb hx hs ⟨t, hMb⟩ hc
    refine WP.cons (WP.expr (WP.callM (WP.name (WP.loadL hLb hs ?_))))
    refine WP.meth (f := 84) B hMb (by kernel_rfl) rfl ?_
    refine WP.cwK B (by k_is) (WP.args (WP.name (WP.loadL hLb hx ?_)))
    refine WP.args0 (hc.mono fun _ H' p => WP.nil ⟨rfl, p⟩)
  intro H4 m4 gs4 f4 S4 M4 g4 c4 hL4 hf4
  have hs4 : f4 "self" = some (.ref g.mo) := (hf4 _ (by decide)).trans rfl
  have I4 := I3.grow hw g4 fun i hi => .src hi
  have C4 := (C3'.gone hL).trans M4.cal
  clear S3 C3' hL3 I3 M4
  obtain ⟨t4, hM4⟩ := S4.mo
  refine WP.cons (WP.expr (WP.callM (WP.name (WP.loadL hL4 hs4 ?_))))
  refine WP.meth (f := 98) B hM4 (by kernel_rfl) rfl ?_
  refine WP.cwK0 B (by k_is) ?_
  refine s_propagate_all B G Cs hw o' (by omega) S4 I4 fun H5 m5 ga5 wk5 r5 tk5 S5 C5 I5 => ?_
  have hL5 := C5.ns hL4
  have C5 := C4.trans C5
  clear S4 hM4 C4 hL4
  -- self.grey, self.grey_again = self.grey_again, []
  obtain ⟨t5, hM5⟩ := S5.mo
  refine WP.cons (WP.asgTup (WP.eTuple (WP.args (WP.attr (WP.name (WP.loadL hL5 hs4 ?_))))))
  refine WP.getI B hM5 rfl (by kernel_rfl) rfl ?_
  refine WP.args (WP.eList (WP.args0 (WP.newList fun p hp => ?_)))
  refine WP.args0 (WP.newTuple fun tp htp => ?_)
  have hpt : p ≠ tp := fun z => by rw [← z, upd_self] at htp; cases htp
  have htp2 : H5 tp = none := by rw [upd_ne (Ne.symm hpt)] at htp; exact htp
  refine WP.aTup o'.hh upd_self ?_
  have hL6 := upd_old (y := .raw (tupO [.ref la, .ref p])) (upd_old (y := .list []) hL5 hp) htp
  have hM6 := upd_old (y := .raw (tupO [.ref la, .ref p])) (upd_old (y := .list []) hM5 hp) htp
  refine WP.ao1 (WP.aAttr (WP.name (WP.loadL hL6 hs4 ?_)))
  refine WP.setI B hM6 (by kernel_rfl) (by simp) ?_
  refine WP.ao1 (WP.aAttr (WP.name (WP.loadL (upd_of_ne hL6 (ne_of hL6 hM6 (by simp))) hs4 ?_)))
  refine WP.setI B upd_self (by kernel_rfl) (Nat.le_of_ble_eq_true rfl) ?_
  refine WP.ao0 ?_
  rw [upd_upd]
  have ro1 : g.ro p = none := S5.ro.fresh hp
  have nm : g.mo ≠ p := fun z => by rw [z, hp] at hM5; cases hM5
  have kk : ∀ a y, H5 a = some y → a ≠ g.mo → upd (upd (upd H5 p (.list [])) tp (.raw (tupO [.ref la, .ref p]))) g.mo (marksO g wh t5 la p q) a = some y := fun a y ha hm => by
    rw [upd_ne hm]; exact upd_old (upd_old ha hp) htp
  have S6 : MSt g m5 ga5 [] wk5 la p q wh (upd (upd (upd H5 p (.list [])) tp (.raw (tupO [.ref la, .ref p]))) g.mo (marksO g wh t5 la p q)) := S5.re G kk ⟨t5, upd_self⟩ (kk _ _ S5.a1 (ne_of S5.a1 hM5 (by simp))) 
    (by rw [upd_ne (Ne.symm nm), upd_ne hpt, upd_self]; rfl) (kk _ _ S5.w1 (ne_of S5.w1 hM5 (by simp))) (fun z => by have := S5.a1; rw [z, hp] at this; cases this) S5.aw_ (fun z => by have := S5.w1; rw [← z, hp] at this; cases this) S5.roa ro1 S5.row
  have C6 : Cal H5 (upd (upd (upd H5 p (.list [])) tp (.raw (tupO [.ref la, .ref p]))) g.mo (marksO g wh t5 la p q)) := ((Cal.refl.new hp).new htp2).put hM6 rfl
  have I6 : MI g src w0 m5 ga5 [] wk5 := ⟨I5.val, I5.rt, I5.sr, fun j hj => I5.ok j (by rcases hj with z | z | z; exact .inr (.inl z); cases z; exact .inr (.inr z)), fun j hj hm => by
    rcases I5.clo j hj hm with z | z
    · cases z
    · exact .inr z, by have := I5.tot; simp at this ⊢; omega⟩
  change WP prog w h₀ A' _ (upd (upd (upd H5 p (.list [])) tp (.raw (tupO [.ref la, .ref p]))) g.mo (marksO g wh t5 la p q)) _
  clear kk
  generalize upd (upd (upd H5 p (.list [])) tp (.raw (tupO [.ref la, .ref p]))) g.mo (marksO g wh t5 la p q) = H6 at S6 C6 ⊢
  have C6' := C5.trans C6
  have hL6 := C6.ns hL5
  obtain ⟨t6, hM6⟩ := S6.mo
  refine WP.cons (WP.expr (WP.callM (WP.name (WP.loadL hL6 hs4 ?_))))
  refine WP.meth (f := 98) B hM6 (by kernel_rfl) rfl ?_
  refine WP.cwK0 B (by k_is) ?_
  refine s_propagate_all B G Cs hw o' (by omega) S6 I6 fun H7 m7 ga7 wk7 r7 tk7 S7 C7 I7 => ?_
  exact WP.nil (h H7 m7 ga7 wk7 _ _ _ S7 (C6'.trans C7) I7)

theorem s_flip (B : Bs (Mine.hk.heap_1 w.params) h₀) (G : g.Good) (o : Ok A d) (hd : d ≤ 800) (S : MSt g m gs ga wk lg la lw wh H)
    (h : ∀ H', MSt g m gs ga wk lg la lw (1 - wh) H' → Cal H H' → Φ .none H') : WP prog w h₀ A (call (.ref 112) [.ref g.mo]) H Φ := by
  refine WP.fn (binds := [("self", .ref g.mo)]) B o (by omega) (by k_is) (by k_is) (fun _ => .of_eq rfl) (locs rfl) (fun L A' H1 hL o' e1 hL1 => ?_)
  have S1 := S.ext e1
  obtain ⟨t, hM1⟩ := S1.mo
  refine WP.cons (WP.asgAttr (WP.binop (WP.name (WP.loadG B.X B.g (by k_is) (WP.attr (WP.name (WP.loadL hL1 rfl ?_)))))))
  refine WP.getI B hM1 rfl (by kernel_rfl) rfl ?_
  refine WP.subI fun tk => WP.name (WP.loadL hL1 rfl ?_)
  refine WP.setI B hM1 (by kernel_rfl) (by simp) ?_
  have kk : ∀ a y, H1 a = some y → a ≠ g.mo → upd H1 g.mo (marksO g (1 - wh) tk lg la lw) a = some y := fun a y ha hm => by rw [upd_ne hm]; exact ha
  exact WP.nil (h _ (S1.re G kk ⟨tk, upd_self⟩ (kk _ _ S1.g1 (ne_of S1.g1 hM1 (by simp))) (kk _ _ S1.a1 (ne_of S1.a1 hM1 (by simp))) (kk _ _ S1.w1 (ne_of S1.w1 hM1 (by simp))) S1.ga_ S1.gw_ S1.aw_ S1.rog S1.roa S1.row) (e1.cal.trans (Cal.refl.put hM1 rfl)))


theorem WP.vOr {e₁ e₂ : Expr} {rest : List Expr} {pos : Pos} {env : Env} (h : WP prog w h₀ A (eval e₁ env) H fun v H' => WP prog w h₀ A (truthy v) H' fun b H'' => if b then Φ v H'' else WP prog w h₀ A (eval (.BoolOp .Or (e₂ :: rest) pos) env) H'' Φ) : WP prog w h₀ A (eval (.BoolOp .Or (e₁ :: e₂ :: rest) pos) env) H Φ :=
  fun s Q E R k => BoolOp_or (h s _ E R fun v H' h' tk R' p => p _ _ _ R' fun b H'' h'' tk' R'' p' => by
    cases b with
    | true => exact k _ _ _ _ R'' p'
    | false => exact p' _ _ _ R'' k)
theorem WP.vAnd {e₁ e₂ : Expr} {rest : List Expr} {pos : Pos} {env : Env} (h : WP prog w h₀ A (eval e₁ env) H fun v H' => WP prog w h₀ A (truthy v) H' fun b H'' => if b then WP prog w h₀ A (eval (.BoolOp .And (e₂ :: rest) pos) env) H'' Φ else Φ v H'') : WP prog w h₀ A (eval (.BoolOp .And (e₁ :: e₂ :: rest) pos) env) H Φ :=
  fun s Q E R k => BoolOp_and (h s _ E R fun v H' h' tk R' p => p _ _ _ R' fun b H'' h'' tk' R'' p' => by
    cases b with
    | true => exact p' _ _ _ R'' k
    | false => exact k _ _ _ _ R'' p')
theorem WP.bOne {e₁ : Expr} {op : BoolOp} {pos : Pos} {env : Env} (h : WP prog w h₀ A (eval e₁ env) H Φ) : WP prog w h₀ A (eval (.BoolOp op [e₁] pos) env) H Φ := fun s Q E R k => BoolOp_one (h s Q E R k)

theorem WC.fnK {K : Frag} {f : Addr} {oc ct dV kV doc pm cdv : Value} {od an : Option Addr} {osl : Array (Option Value)} {name qual : Str} {params : Arguments} {body : List Stmt} {scope : Scope} {args : List Value} {binds : List (Str × Value)} {n : Nat}
    (B : Bs K h₀) (o : Ok A n) (hn : n < 900) (ho : K.lookup f = some ⟨oc, od, .func (fnX name qual params body scope [] dV kV doc pm an cdv ct), osl⟩) (hcd : codeIn K cdv qual = true)
    (hbind : ∀ s, BindsTo s (fnX name qual params body scope [] dV kV doc pm an cdv ct) ⟨args, []⟩ binds) (hloc : ∀ y ∈ binds, scope.names.lookup y.1 = some .local)
    (h : ∀ L A' H1, H L = none → Ok A' (n + 1) → Ext H H1 → H1 L = some (.ns fun y => binds.reverse.lookup y) → WP prog w h₀ A' (execs body (envX qual scope L f cdv [])) H1 fun fl H' => Φ (retOf fl) H')
    (hcell : ∀ x ∈ scope.names, x.2 ≠ .cell := by decide) (hco : scope.isCoroutine = false := by rfl) (hgen : scope.isGenerator = false := by rfl) (hk : scope.kind = .function := by rfl) : WC prog w h₀ A (.call (.ref f) ⟨args, []⟩) H fun fl H' => ∃ v, fl = .ret v ∧ Φ v H' :=
  WC.fn B o hn (fun h R => R.keep _ _ (B.X _ _ ho)) (fun h R => codeRec_of (B.X.keeps R.keep) hcd) hbind hloc (fun L A' hL o' => (h L A' _ hL o' (Ext.refl.new hL) upd_self).mono fun fl H' p => ⟨_, rfl, p⟩) hcell hco hgen hk

theorem c_mdead (B : Bs (Mine.hk.heap_1 w.params) h₀) (o : Ok A d) (hd : d ≤ 700) (S : MSt g m gs ga wk lg la lw wh H) {i : Nat} (hi : i < g.n)
    (h : ∀ H', Ext H H' → Φ (.bool (m i == 4 || (decide (m i < 2) && m i != wh))) H') : WC prog w h₀ A (.call (.ref 49) ⟨[.ref g.mo, .ref (g.X i)], []⟩) H fun fl H' => ∃ v, fl = .ret v ∧ Φ v H' := by
  refine WC.fnK (binds := [("self", .ref g.mo), ("obj", .ref (g.X i))]) B o (by omega) (by k_is) (by k_is) (fun _ => .of_eq rfl) (locs rfl) (fun L A' H1 hL o' e1 hL1 => ?_)
  have S1 := S.ext e1
  obtain ⟨t, hM1⟩ := S1.mo
  obtain ⟨t1, t2, t3, hX1⟩ := S1.th i hi
  refine WP.cons (WP.ret (WP.vOr (WP.cmp (WP.attr (WP.name (WP.loadL hL1 rfl ?_))))))
  refine WP.getI B hX1 rfl (by kernel_rfl) rfl ?_
  refine WP.name (WP.loadG B.X B.g (by k_is) (WP.eq (WP.truthB ?_)))
  cases h4 : (m i == 4) with
  | true => rw [h4] at h; exact h H1 e1
  | false =>
    rw [h4] at h
    refine WP.bOne (WP.vAnd (WP.callN (WP.name (WP.loadG B.X B.g (by k_is) ?_))))
    refine WP.cwK B (by k_is) (WP.args (WP.name (WP.loadL hL1 rfl ?_)))
    refine WP.args0 ?_
    refine s_is_white B o' (by omega) hX1 rfl fun H2 e2 => WP.truthB ?_
    cases hw : decide (m i < 2) with
    | false => rw [hw] at h; exact h H2 (e1.trans e2)
    | true =>
      rw [hw] at h
      refine WP.bOne (WP.cmp (WP.attr (WP.name (WP.loadL (e2 _ _ hL1) rfl ?_))))
      refine WP.getI B (e2 _ _ hX1) rfl (by kernel_rfl) rfl ?_
      refine WP.attr (WP.name (WP.loadL (e2 _ _ hL1) rfl ?_))
      refine WP.getI B (e2 _ _ hM1) rfl (by kernel_rfl) rfl ?_
      exact WP.ne (h H2 (e1.trans e2))

theorem c_mwhite (B : Bs (Mine.hk.heap_1 w.params) h₀) (G : g.Good) (o : Ok A d) (hd : d ≤ 700) (S : MSt g m gs ga wk lg la lw wh H) {i : Nat} (hi : i < g.n)
    (h : ∀ H', MSt g (setm m i wh) gs ga wk lg la lw wh H' → Cal H H' → Φ .none H') : WC prog w h₀ A (.call (.ref 56) ⟨[.ref g.mo, .ref (g.X i)], []⟩) H fun fl H' => ∃ v, fl = .ret v ∧ Φ v H' := by
  refine WC.fnK (binds := [("self", .ref g.mo), ("obj", .ref (g.X i))]) B o (by omega) (by k_is) (by k_is) (fun _ => .of_eq rfl) (locs rfl) (fun L A' H1 hL o' e1 hL1 => ?_)
  have S1 := S.ext e1
  obtain ⟨t, hM1⟩ := S1.mo
  refine WP.cons (WP.asgAttr (WP.attr (WP.name (WP.loadL hL1 rfl ?_))))
  refine WP.getI B hM1 rfl (by kernel_rfl) rfl ?_
  refine WP.name (WP.loadL hL1 rfl ?_)
  exact r_mark B G S1 hi fun H2 S2 m2 => WP.nil (h H2 S2 (e1.cal.trans m2.cal))
end
end Mine
end
section
open PySem PySem.W PyProof.Rows PySem.Calls
namespace Mine
theorem fill7 : (PySem.Challenge.rw_xm0623_01, Mine.hk.heap_1) = (PySem.Challenge.rw_xm0623_01, Mine.hk.heap_1) := by
  k_fill
  rfl

/-- a cycle's fields -/
structure CF where
  ob : Addr
  rl : Addr
  ts : Addr
  ph : Int
  tot : Int
  est : Int
  deb : Int
  thr : Int
  cyl : Int
  q : Nat → Bool
  sw : List Nat
abbrev cycO (g : GC) (c : CF) (t : Nat → Tok) : AObj := .inst 346 [("objects", .ref c.ob), ("marks", .ref g.mo), ("root_list", .ref c.rl), ("phase", .int c.ph (t 0)), ("to_sweep", .ref c.ts), ("total", .int c.tot (t 1)), ("estimate", .int c.est (t 2)), ("debt", .int c.deb (t 3)), ("step_size", .int 64 (t 4)),
  ("sweep_max", .int 16 (t 5)), ("threshold", .int c.thr (t 6)), ("pause", .int 200 (t 7)), ("step_mul", .int 200 (t 8)), ("cycles", .int c.cyl (t 9))]
abbrev live (g : GC) (q : Nat → Bool) : List Nat := (List.range g.n).filter q
abbrev kvsO (g : GC) (l : List Nat) : List (Int × Value) := l.map fun (i : Nat) => ((i : Int), .ref (g.X i))

structure CSt (prog : Program) (w : World) (g : GC) (cy : Addr) (c : CF) (m : Nat → Int) (gs ga wk : List Nat) (lg la lw : Addr) (wh : Int) (H : HM) : Prop where
  ms : MSt g m gs ga wk lg la lw wh H
  cy_ : ∃ t, H cy = some (cycO g c t)
  ob_ : DictAt (intKind prog w) H c.ob (kvsO g (live g c.q))
  ts_ : ∃ vs, H c.ts = some (.list vs) ∧ IntsAre vs (c.sw.map fun (i : Nat) => (i : Int))
  roc : g.ro cy = none
  roo : g.ro c.ob = none
  rot : g.ro c.ts = none
  n1 : c.ts ≠ lg
  n2 : c.ts ≠ la
  n3 : c.ts ≠ lw

/-- the cycle's own objects as things to be kept -/
def gx (g : GC) (H : HM) (cy ob ts : Addr) : GC := { g with ro := fun a => if a = cy ∨ a = ob ∨ a = ts then H a else g.ro a }

section
variable {prog : Program} {w : World} {h₀ : Heap} {g : GC} {A : Around} {d : Nat} {H H' : HM} {cy : Addr} {c : CF} {m m' : Nat → Int} {gs ga wk gs' ga' wk' : List Nat} {lg la lw lg' la' lw' : Addr} {wh wh' : Int} {Φ : Value → HM → Prop}

theorem CSt.gro (S : CSt prog w g cy c m gs ga wk lg la lw wh H) : Ext g.ro (gx g H cy c.ob c.ts).ro := fun a y h => by
  have h1 : a ≠ cy := fun z => by rw [z, S.roc] at h; cases h
  have h2 : a ≠ c.ob := fun z => by rw [z, S.roo] at h; cases h
  have h3 : a ≠ c.ts := fun z => by rw [z, S.rot] at h; cases h
  show (if _ then _ else _) = _
  rw [if_neg (by rintro (z | z | z); exact h1 z; exact h2 z; exact h3 z)]; exact h
theorem CSt.good (G : g.Good) (S : CSt prog w g cy c m gs ga wk lg la lw wh H) : (gx g H cy c.ob c.ts).Good := by
  obtain ⟨t, hC⟩ := S.cy_
  obtain ⟨_, es, hO, _⟩ := S.ob_
  obtain ⟨vs, hT, _⟩ := S.ts_
  obtain ⟨tm, hM⟩ := S.ms.mo
  refine ⟨G.n5, G.inj, G.chn, G.ch2, fun i hi => ?_, ?_, fun a y h => ?_⟩
  · obtain ⟨t1, t2, t3, hX⟩ := S.ms.th i hi
    show (if _ then _ else _) = _
    rw [if_neg (by rintro (z | z | z); exact ne_of hX hC (by simp) z; exact ne_of hX hO (by simp) z; exact ne_of hX hT (by simp) z)]; exact G.roX i hi
  · show (if _ then _ else _) = _
    rw [if_neg (by rintro (z | z | z); exact ne_of hM hC (by simp) z; exact ne_of hM hO (by simp) z; exact ne_of hM hT (by simp) z)]; exact G.roM
  · change (if _ then _ else _) = _ at h
    split at h
    · rename_i hz
      rcases hz with rfl | rfl | rfl
      · rw [hC] at h; cases h; rfl
      · rw [hO] at h; cases h; rfl
      · rw [hT] at h; cases h; rfl
    · exact G.roN a y h
theorem CSt.calls (Cs : Calls prog w h₀ g) (S : CSt prog w g cy c m gs ga wk lg la lw wh H) : Calls prog w h₀ (gx g H cy c.ob c.ts) := by
  have e := S.gro
  obtain ⟨a, b, c', d, h1⟩ := Cs.cho
  obtain ⟨a2, b2, c2, d2, h2⟩ := Cs.soo
  exact ⟨⟨a, b, c', d, e _ _ h1⟩, ⟨a2, b2, c2, d2, e _ _ h2⟩, fun o hd r hi hX k => Cs.ch o hd (e.trans r) hi hX k, fun o hd r hi hX k => Cs.so o hd (e.trans r) hi hX k⟩
theorem CSt.mst (S : CSt prog w g cy c m gs ga wk lg la lw wh H) : MSt (gx g H cy c.ob c.ts) m gs ga wk lg la lw wh H := by
  obtain ⟨t, hC⟩ := S.cy_
  obtain ⟨_, es, hO, _⟩ := S.ob_
  have T := S.ms
  have no : ∀ l vs, H l = some (.list vs) → c.ts ≠ l → g.ro l = none → (gx g H cy c.ob c.ts).ro l = none := fun l vs hl ht hr => by
    show (if _ then _ else _) = _
    rw [if_neg (by rintro (z | z | z); exact ne_of hl hC (by simp) z; exact ne_of hl hO (by simp) z; exact ht z.symm)]; exact hr
  refine ⟨fun a y h => ?_, T.th, T.mo, T.g1, T.a1, T.w1, T.ga_, T.gw_, T.aw_, no _ _ T.g1 S.n1 T.rog, no _ _ T.a1 S.n2 T.roa, no _ _ T.w1 S.n3 T.row⟩
  change (if _ then _ else _) = _ at h
  split at h
  · exact h
  · exact T.ro a y h
/-- what the marks have done leaves the cycle as it was -/
theorem CSt.back (S : CSt prog w g cy c m gs ga wk lg la lw wh H) (T : MSt (gx g H cy c.ob c.ts) m' gs' ga' wk' lg' la' lw' wh' H') : CSt prog w g cy c m' gs' ga' wk' lg' la' lw' wh' H' := by
  have e := S.gro
  obtain ⟨t, hC⟩ := S.cy_
  obtain ⟨lo, es, hO, r⟩ := S.ob_
  obtain ⟨vs, hT, hi⟩ := S.ts_
  have g1 : (gx g H cy c.ob c.ts).ro cy = H cy := if_pos (.inl rfl)
  have g2 : (gx g H cy c.ob c.ts).ro c.ob = H c.ob := if_pos (.inr (.inl rfl))
  have g3 : (gx g H cy c.ob c.ts).ro c.ts = H c.ts := if_pos (.inr (.inr rfl))
  have nn : ∀ l, (gx g H cy c.ob c.ts).ro l = none → g.ro l = none ∧ c.ts ≠ l := fun l hl => ⟨e.fresh hl, fun z => by rw [← z, g3, hT] at hl; cases hl⟩
  exact ⟨⟨e.trans T.ro, T.th, T.mo, T.g1, T.a1, T.w1, T.ga_, T.gw_, T.aw_, (nn _ T.rog).1, (nn _ T.roa).1, (nn _ T.row).1⟩, ⟨t, T.ro _ _ (g1.trans hC)⟩, ⟨lo, es, T.ro _ _ (g2.trans hO), r⟩, ⟨vs, T.ro _ _ (g3.trans hT), hi⟩, S.roc, S.roo, S.rot, (nn _ T.rog).2, (nn _ T.roa).2, (nn _ T.row).2⟩
theorem CSt.ext (S : CSt prog w g cy c m gs ga wk lg la lw wh H) (e : Ext H H') : CSt prog w g cy c m gs ga wk lg la lw wh H' :=
  ⟨S.ms.ext e, let ⟨t, h⟩ := S.cy_; ⟨t, e _ _ h⟩, S.ob_.ext fun y => e _ y, let ⟨vs, h, i⟩ := S.ts_; ⟨vs, e _ _ h, i⟩, S.roc, S.roo, S.rot, S.n1, S.n2, S.n3⟩
/-- the cycle's plain fields turned -/
theorem CSt.put (G : g.Good) (S : CSt prog w g cy c m gs ga wk lg la lw wh H) (c' : CF) {t' : Nat → Tok} (h1 : c'.ob = c.ob) (h3 : c'.ts = c.ts) (h4 : c'.q = c.q) (h5 : c'.sw = c.sw) : CSt prog w g cy c' m gs ga wk lg la lw wh (upd H cy (cycO g c' t')) := by
  obtain ⟨t, hC⟩ := S.cy_
  obtain ⟨lo, es, hO, r⟩ := S.ob_
  obtain ⟨vs, hT, hi⟩ := S.ts_
  obtain ⟨tm, hM⟩ := S.ms.mo
  have T := S.ms
  have k : ∀ a y, H a = some y → (∀ c t, y ≠ cycO g c t) → upd H cy (cycO g c' t') a = some y := fun a y ha hy => upd_of_ne ha (ne_of ha hC (hy c t))
  refine ⟨⟨T.ro.put S.roc, fun i hi => ?_, ⟨tm, k _ _ hM (by simp)⟩, k _ _ T.g1 (by simp), k _ _ T.a1 (by simp), k _ _ T.w1 (by simp), T.ga_, T.gw_, T.aw_, T.rog, T.roa, T.row⟩, ⟨t', upd_self⟩, ?_, ?_, S.roc, by rw [h1]; exact S.roo, by rw [h3]; exact S.rot, by rw [h3]; exact S.n1, by rw [h3]; exact S.n2, by rw [h3]; exact S.n3⟩
  · obtain ⟨t1, t2, t3, hX⟩ := T.th i hi
    exact ⟨t1, t2, t3, k _ _ hX (by simp)⟩
  · rw [h1, h4]; exact ⟨lo, es, k _ _ hO (by simp), r⟩
  · rw [h3, h5]; exact ⟨vs, k _ _ hT (by simp), hi⟩

def setT (t : Nat → Tok) (k : Nat) (x : Tok) : Nat → Tok := fun j => if j = k then x else t j
section
variable {Φ : Unit → HM → Prop} {v : Int} {tk : Tok}
theorem r_phase (B : Bs (Mine.hk.heap_1 w.params) h₀) (G : g.Good) (S : CSt prog w g cy c m gs ga wk lg la lw wh H) (h : ∀ H', CSt prog w g cy { c with ph := v } m gs ga wk lg la lw wh H' → Cal H H' → Φ () H') : WP prog w h₀ A (setAttr (.ref cy) "phase" (.int v tk)) H Φ := by
  obtain ⟨t, hC⟩ := S.cy_
  refine WP.setI B hC (by kernel_rfl) (Nat.le_of_ble_eq_true rfl) ?_
  exact h _ (S.put G { c with ph := v } (t' := setT t 0 tk) rfl rfl rfl rfl) (Cal.refl.put hC rfl)
theorem r_total (B : Bs (Mine.hk.heap_1 w.params) h₀) (G : g.Good) (S : CSt prog w g cy c m gs ga wk lg la lw wh H) (h : ∀ H', CSt prog w g cy { c with tot := v } m gs ga wk lg la lw wh H' → Cal H H' → Φ () H') : WP prog w h₀ A (setAttr (.ref cy) "total" (.int v tk)) H Φ := by
  obtain ⟨t, hC⟩ := S.cy_
  refine WP.setI B hC (by kernel_rfl) (Nat.le_of_ble_eq_true rfl) ?_
  exact h _ (S.put G { c with tot := v } (t' := setT t 1 tk) rfl rfl rfl rfl) (Cal.refl.put hC rfl)
theorem r_est (B : Bs (Mine.hk.heap_1 w.params) h₀) (G : g.Good) (S : CSt prog w g cy c m gs ga wk lg la lw wh H) (h : ∀ H', CSt prog w g cy { c with est := v } m gs ga wk lg la lw wh H' → Cal H H' → Φ () H') : WP prog w h₀ A (setAttr (.ref cy) "estimate" (.int v tk)) H Φ := by
  obtain ⟨t, hC⟩ := S.cy_
  refine WP.setI B hC (by kernel_rfl) (Nat.le_of_ble_eq_true rfl) ?_
  exact h _ (S.put G { c with est := v } (t' := setT t 2 tk) rfl rfl rfl rfl) (Cal.refl.put hC rfl)
theorem r_debt (B : Bs (Mine.hk.heap_1 w.params) h₀) (G : g.Good) (S : CSt prog w g cy c m gs ga wk lg la lw wh H) (h : ∀ H', CSt prog w g cy { c with deb := v } m gs ga wk lg la lw wh H' → Cal H H' → Φ () H') : WP prog w h₀ A (setAttr (.ref cy) "debt" (.int v tk)) H Φ := by
  obtain ⟨t, hC⟩ := S.cy_
  refine WP.setI B hC (by kernel_rfl) (Nat.le_of_ble_eq_true rfl) ?_
  exact h _ (S.put G { c with deb := v } (t' := setT t 3 tk) rfl rfl rfl rfl) (Cal.refl.put hC rfl)
theorem r_thr (B : Bs (Mine.hk.heap_1 w.params) h₀) (G : g.Good) (S : CSt prog w g cy c m gs ga wk lg la lw wh H) (h : ∀ H', CSt prog w g cy { c with thr := v } m gs ga wk lg la lw wh H' → Cal H H' → Φ () H') : WP prog w h₀ A (setAttr (.ref cy) "threshold" (.int v tk)) H Φ := by
  obtain ⟨t, hC⟩ := S.cy_
  refine WP.setI B hC (by kernel_rfl) (Nat.le_of_ble_eq_true rfl) ?_
  exact h _ (S.put G { c with thr := v } (t' := setT t 6 tk) rfl rfl rfl rfl) (Cal.refl.put hC rfl)
theorem r_cyl (B : Bs (Mine.hk.heap_1 w.params) h₀) (G : g.Good) (S : CSt prog w g cy c m gs ga wk lg la lw wh H) (h : ∀ H', CSt prog w g cy { c with cyl := v } m gs ga wk lg la lw wh H' → Cal H H' → Φ () H') : WP prog w h₀ A (setAttr (.ref cy) "cycles" (.int v tk)) H Φ := by
  obtain ⟨t, hC⟩ := S.cy_
  refine WP.setI B hC (by kernel_rfl) (Nat.le_of_ble_eq_true rfl) ?_
  exact h _ (S.put G { c with cyl := v } (t' := setT t 9 tk) rfl rfl rfl rfl) (Cal.refl.put hC rfl)
end
end
end Mine
end
section
open PySem PySem.W PyProof.Rows PySem.Calls
namespace Mine
theorem fill8 : (PySem.Challenge.rw_xm0623_01, Mine.hk.heap_1) = (PySem.Challenge.rw_xm0623_01, Mine.hk.heap_1) := by
  k_fill
  rfl
section
variable {prog : Program} {w : World} {h₀ : Heap} {g : GC} {A : Around} {d : Nat} {H H' : HM} {cy : Addr} {c : CF} {m m' : Nat → Int} {gs ga wk gs' ga' wk' : List Nat} {lg la lw lg' la' lw' : Addr} {wh wh' : Int} {Φ : Value → HM → Prop}

theorem CSt.sweepNew (S : CSt prog w g cy c m gs ga wk lg la lw wh H) {q : Addr} {vs : List Value} {l : List Nat} {t : Nat → Tok} (hq : H q = none) (hi : IntsAre vs (l.map fun (i : Nat) => (i : Int))) :
    CSt prog w g cy { c with ts := q, sw := l } m gs ga wk lg la lw wh (upd (upd H q (.list vs)) cy (cycO g { c with ts := q, sw := l } t)) := by
  have S1 := S.ext (Ext.refl.new (x := .list vs) hq)
  obtain ⟨t1, hC⟩ := S1.cy_
  obtain ⟨lo, es, hO, r⟩ := S1.ob_
  obtain ⟨tm, hM⟩ := S1.ms.mo
  have T := S1.ms
  have nq : ∀ l y, H l = some y → q ≠ l := fun l y hl z => by rw [← z, hq] at hl; cases hl
  have k : ∀ a y, upd H q (.list vs) a = some y → (∀ c t, y ≠ cycO g c t) → upd (upd H q (.list vs)) cy (cycO g { c with ts := q, sw := l } t) a = some y := fun a y ha hy => upd_of_ne ha (ne_of ha hC (hy c t1))
  refine ⟨⟨T.ro.put S.roc, fun i hi => ?_, ⟨tm, k _ _ hM (by simp)⟩, k _ _ T.g1 (by simp), k _ _ T.a1 (by simp), k _ _ T.w1 (by simp), T.ga_, T.gw_, T.aw_, T.rog, T.roa, T.row⟩, ⟨t, upd_self⟩, ⟨lo, es, k _ _ hO (by simp), r⟩, ⟨vs, k _ _ upd_self (by simp), hi⟩, S.roc, S.roo, S.ms.ro.fresh hq, nq _ _ S.ms.g1, nq _ _ S.ms.a1, nq _ _ S.ms.w1⟩
  obtain ⟨t1, t2, t3, hX⟩ := T.th i hi
  exact ⟨t1, t2, t3, k _ _ hX (by simp)⟩

/-- self.to_sweep = list(self.objects) -/
theorem r_sweep {env : Env} {x : Str} {p1 p2 p3 p4 p5 p6 p7 : Pos} {Φ : Flow → HM → Prop} {f : Str → Option Value} (B : Bs (Mine.hk.heap_1 w.params) h₀) (G : g.Good) (hh : A.handled = none) (S : CSt prog w g cy c m gs ga wk lg la lw wh H) (hL : H env.locals = some (.ns f)) (hf : f x = some (.ref cy))
    (h : ∀ H' q, CSt prog w g cy { c with ts := q, sw := live g c.q } m gs ga wk lg la lw wh H' → Cal H H' → Φ .next H')
    (hg : env.globals = mainGlobals) (hb : env.builtins = builtinsNs) (hk : env.scope.kind = .function) (hx : env.kindOf "list" = some .globalImplicit) (hx2 : env.kindOf x = some .local) (hd : (x == ("__debug__" : Str)) = false)
    (hs : swapsWith (.Call (.Name "list" p1) [.Attribute (.Name x p2) "objects" p3] [] p4) (some (.Attribute (.Name x p5) "to_sweep" p6)) p7.line env = Pure.pure false)
    (hc : eval (.Call (.Name "list" p1) [.Attribute (.Name x p2) "objects" p3] [] p4) env = (do callWith p4 (← eval (.Name "list" p1) env) [] (backTo p4 (starEach [.Attribute (.Name x p2) "objects" p3] env)) (backToKw p4 (keywordEach [] env)))) :
    WP prog w h₀ A (exec (.Assign [.Attribute (.Name x p5) "to_sweep" p6] (.Call (.Name "list" p1) [.Attribute (.Name x p2) "objects" p3] [] p4) p7) env) H Φ := by
  obtain ⟨t, hC⟩ := S.cy_
  refine WP.asgAttr (hs := hs) (WP.callN (he := hc) (WP.name (WP.blt B (by k_is) rfl (by decide) ?_ hg hb hk hx)))
  refine WP.cwT (WP.args (WP.attr (WP.name (hd := hd) (WP.loadL hL hf ?_ hk hx2))))
  refine WP.getI B hC rfl (by kernel_rfl) rfl ?_
  have hz : (kvsO g (live g c.q)).length ≤ 1000 := by
    rw [List.length_map]
    have := List.length_filter_le c.q (List.range g.n)
    rw [List.length_range] at this
    have := G.n5
    show (List.filter c.q (List.range g.n)).length ≤ 1000
    omega
  refine WP.args0 (WP.dList hh S.ob_ hz fun q vs hq hlen hvs => ?_)
  refine WP.name (hd := hd) (WP.loadL (upd_old hL hq) hf ?_ hk hx2)
  refine WP.setI B (upd_old hC hq) (by kernel_rfl) (Nat.le_of_ble_eq_true rfl) ?_
  refine h _ q (S.sweepNew (t := t) hq (kdy_ints (by rw [hlen, List.length_map, List.length_map]) fun j v hj => ?_)) ((Cal.refl.new hq).put (upd_old hC hq) rfl)
  obtain ⟨k, y, hk1, hk2⟩ := hvs j v hj
  obtain ⟨tk, rfl⟩ := Value.isInt_shape hk2
  rw [List.getElem?_map] at hk1
  obtain ⟨i, hi, he⟩ := Option.map_eq_some_iff.mp hk1
  refine ⟨k, ?_, tk, rfl⟩
  rw [List.getElem?_map, hi]
  cases he; rfl

theorem s_roots (B : Bs (Mine.hk.heap_1 w.params) h₀) (o : Ok A d) (hd : d ≤ 800) (S : CSt prog w g cy c m gs ga wk lg la lw wh H)
    (h : ∀ H', Ext H H' → Φ (.ref c.rl) H') : WP prog w h₀ A (call (.ref 217) [.ref cy]) H Φ := by
  refine WP.fn (binds := [("self", .ref cy)]) B o (by omega) (by k_is) (by k_is) (fun _ => .of_eq rfl) (locs rfl) (fun L A' H1 hL o' e1 hL1 => ?_)
  obtain ⟨t, hC⟩ := S.cy_
  refine WP.cons (WP.ret (WP.attr (WP.name (WP.loadL hL1 rfl ?_))))
  refine WP.getI B (e1 _ _ hC) rfl (by kernel_rfl) rfl ?_
  exact h _ e1
theorem s_late (B : Bs (Mine.hk.heap_1 w.params) h₀) (o : Ok A d) (hd : d ≤ 790) (S : CSt prog w g cy c m gs ga wk lg la lw wh H) {th : Value}
    (h : ∀ H', Ext H H' → Φ (.ref c.rl) H') : WP prog w h₀ A (call (.ref 224) [.ref cy, th]) H Φ := by
  refine WP.fn (binds := [("self", .ref cy), ("thread", th)]) B o (by omega) (by k_is) (by k_is) (fun _ => .of_eq rfl) (locs rfl) (fun L A' H1 hL o' e1 hL1 => ?_)
  have S1 := S.ext e1
  obtain ⟨t, hC⟩ := S1.cy_
  refine WP.cons (WP.ret (WP.callM (WP.name (WP.loadL hL1 rfl ?_))))
  refine WP.meth (f := 217) B hC (by kernel_rfl) rfl ?_
  refine WP.cwK0 B (by k_is) ?_
  exact s_roots B o' (by omega) S1 fun H2 e2 => h _ (e1.trans e2)
theorem s_at_end (B : Bs (Mine.hk.heap_1 w.params) h₀) (o : Ok A d) (hd : d ≤ 790) 
    (h : ∀ H' tk, Ext H H' → Φ (.int 0 tk) H') : WP prog w h₀ A (call (.ref 238) [.ref cy]) H Φ := by
  refine WP.fn (binds := [("self", .ref cy)]) B o (by omega) (by k_is) (by k_is) (fun _ => .of_eq rfl) (locs rfl) (fun L A' H1 hL o' e1 hL1 => ?_)
  exact WP.cons (WP.ret (WP.cInt fun tk => h _ tk e1))

theorem MI.start {g : GC} {src : List Nat} {w0 : Int} {m m' : Nat → Int} {gs' : List Nat} (G : g.Good) (hw : w0 < 2) (hm : ∀ j, j < g.n → m j = w0) (a : Grow g.n g.ch src m [] m' gs') (c : ∀ i ∈ src, 2 ≤ m' i) : MI g src w0 m' gs' [] [] where
  val j hj := by
    rcases a.up j (by rw [hm j hj]; exact hw) with e | e | e
    · exact .inl (e.trans (hm j hj))
    · exact .inr (.inl e)
    · exact .inr (.inr e)
  rt j hj h := a.new j hj (by rw [hm j hj]; exact hw) h
  sr := c
  ok j h := by
    rcases h with h | h | h
    · rcases a.gl j h with z | z
      · cases z
      · exact z
    · cases h
    · cases h
  clo j hj h := a.clo j hj (by rw [hm j hj]; exact hw) h
  tot := by
    have h1 := a.mea
    have hwn : whites g.n m ≤ g.n := by
      unfold whites
      exact Nat.le_trans (List.length_filter_le _ _) (by simp)
    have := G.n5
    change _ ≤ whites g.n m + 0 at h1
    show whites g.n m' + gs'.length + 0 + 0 ≤ 50
    omega

theorem s_mark_roots (B : Bs (Mine.hk.heap_1 w.params) h₀) (G : g.Good) (Cs : Calls prog w h₀ g) {src : List Nat} {w0 : Int} (hw : w0 < 2) (o : Ok A d) (hd : d ≤ 500) (S : CSt prog w g cy c m gs ga wk lg la lw wh H) (hr : g.ro c.rl = some (refs g src)) (hsrc : ∀ i ∈ src, i < g.n) (hm : ∀ j, j < g.n → m j = w0)
    (h : ∀ H' m' gs' lg' la' lw', CSt prog w g cy { c with ph := 1 } m' gs' [] [] lg' la' lw' wh H' → Cal H H' → MI g src w0 m' gs' [] [] → Φ .none H') : WP prog w h₀ A (call (.ref 231) [.ref cy]) H Φ := by
  refine WP.fn (binds := [("self", .ref cy)]) B o (by omega) (by k_is) (by k_is) (fun _ => .of_eq rfl) (locs rfl) (fun L A' H1 hL o' e1 hL1 => ?_)
  have S1 := S.ext e1
  obtain ⟨t, hC⟩ := S1.cy_
  refine WP.cons (WP.expr (WP.callM (WP.attr (WP.name (WP.loadL hL1 rfl ?_)))))
  refine WP.getI B hC rfl (by kernel_rfl) rfl ?_
  obtain ⟨tm, hM⟩ := S1.ms.mo
  refine WP.meth (f := 77) B hM (by kernel_rfl) rfl ?_
  refine WP.cwK B (by k_is) (WP.args (WP.callM (WP.name (WP.loadL hL1 rfl ?_))))
  refine WP.meth (f := 217) B hC (by kernel_rfl) rfl ?_
  refine WP.cwK0 B (by k_is) ?_
  refine s_roots B o' (by omega) S1 fun H2 e2 => WP.args0 ?_
  have S2 := S1.ext e2
  refine s_begin (g := gx g H2 cy c.ob c.ts) B (S2.good G) (S2.calls Cs) o' (by omega) S2.mst (src := src) (S2.gro _ _ hr) hsrc fun H3 m3 gs3 lg3 la3 lw3 T3 C3 a3 c3 => ?_
  have S3 := S2.back T3
  have hL3 := C3.ns (e2 _ _ hL1)
  refine WP.cons (WP.asgAttr (WP.name (WP.loadG B.X B.g (by k_is) (WP.name (WP.loadL hL3 rfl ?_)))))
  refine r_phase B G S3 fun H4 S4 C4 => WP.nil ?_
  exact h H4 m3 gs3 lg3 la3 lw3 S4 (((e1.trans e2).cal.trans C3).trans C4) (MI.start G hw hm a3 c3)

theorem s_atomic (B : Bs (Mine.hk.heap_1 w.params) h₀) (G : g.Good) (Cs : Calls prog w h₀ g) {src : List Nat} {w0 : Int} {th : Value} (hw : w0 < 2) (o : Ok A d) (hd : d ≤ 490) (S : CSt prog w g cy c m gs ga wk lg la lw wh H) (I : MI g src w0 m gs ga wk) (hr : g.ro c.rl = some (refs g src)) (hsrc : ∀ i ∈ src, i < g.n)
    (h : ∀ H' m' ga' wk' lg' la' lw' q e, CSt prog w g cy { c with ph := 2, ts := q, sw := live g c.q, est := e } m' [] ga' wk' lg' la' lw' (1 - wh) H' → Cal H H' → MI g src w0 m' [] ga' wk' → Φ .none H') : WP prog w h₀ A (call (.ref 245) [.ref cy, th]) H Φ := by
  refine WP.fn (binds := [("self", .ref cy), ("thread", th)]) B o (by omega) (by k_is) (by k_is) (fun _ => .of_eq rfl) (locs rfl) (fun L A' H1 hL o' e1 hL1 => ?_)
  have S1 := S.ext e1
  obtain ⟨t, hC⟩ := S1.cy_
  refine WP.cons (WP.expr (WP.callM (WP.attr (WP.name (WP.loadL hL1 rfl ?_)))))
  refine WP.getI B hC rfl (by kernel_rfl) rfl ?_
  obtain ⟨tm, hM⟩ := S1.ms.mo
  refine WP.meth (f := 105) B hM (by kernel_rfl) rfl ?_
  refine WP.cwK B (by k_is) (WP.args (WP.callM (WP.name (WP.loadL hL1 rfl ?_))))
  refine WP.meth (f := 224) B hC (by kernel_rfl) rfl ?_
  refine WP.cwK B (by k_is) (WP.args (WP.name (WP.loadL hL1 rfl ?_)))
  refine WP.args0 ?_
  refine s_late B o' (by omega) S1 fun H2 e2 => WP.args0 ?_
  have S2 := S1.ext e2
  refine s_finish (g := gx g H2 cy c.ob c.ts) (src := src) (w0 := w0) B (S2.good G) (S2.calls Cs) hw o' (by omega) S2.mst ⟨I.val, I.rt, I.sr, I.ok, I.clo, I.tot⟩ (S2.gro _ _ hr) hsrc fun H3 m3 ga3 wk3 lg3 la3 lw3 T3 C3 I3 => ?_
  have S3 := S2.back T3
  have hL3 := C3.ns (e2 _ _ hL1)
  have C3 := (e1.trans e2).cal.trans C3
  have I3' : MI g src w0 m3 [] ga3 wk3 := ⟨I3.val, I3.rt, I3.sr, I3.ok, I3.clo, I3.tot⟩
  clear S2 S1 hC hM T3
  -- room = self.at_end()
  obtain ⟨t3, hC3⟩ := S3.cy_
  refine WP.cons (WP.asgName (WP.callM (WP.name (WP.loadL hL3 rfl ?_))))
  refine WP.meth (f := 238) B hC3 (by kernel_rfl) rfl ?_
  refine WP.cwK0 B (by k_is) ?_
  refine s_at_end B o' (by omega) fun H4 tk4 e4 => ?_
  refine WP.stG (e4 _ _ hL3) fun H5 q5 hL5 => ?_
  have n4 : ∀ a y, H4 a = some y → calm y = true → a ≠ L := fun a y ha hy => ne_calm ha (e4 _ _ hL3) hy rfl
  have S5 : CSt prog w g cy c m3 [] ga3 wk3 lg3 la3 lw3 wh H5 := by
    have S4 := S3.ext e4
    obtain ⟨t4, hC4⟩ := S4.cy_
    obtain ⟨vs, hT4, hi4⟩ := S4.ts_
    have k : ∀ a y, H4 a = some y → calm y = true → H5 a = some y := fun a y ha hy => (q5 a (n4 a y ha hy)).trans ha
    obtain ⟨lo, es, hO, r⟩ := S4.ob_
    exact ⟨S4.ms.calm G (e4 _ _ hL3) rfl q5, ⟨t4, k _ _ hC4 rfl⟩, ⟨lo, es, k _ _ hO rfl, r⟩, ⟨vs, k _ _ hT4 rfl, hi4⟩, S4.roc, S4.roo, S4.rot, S4.n1, S4.n2, S4.n3⟩
  have C5 := (C3.trans e4.cal).loc hL q5
  clear S3 hC3 n4
  -- self.marks.flip()
  obtain ⟨t5, hC5⟩ := S5.cy_
  refine WP.cons (WP.expr (WP.callM (WP.attr (WP.name (WP.loadL hL5 rfl ?_)))))
  refine WP.getI B hC5 rfl (by kernel_rfl) rfl ?_
  obtain ⟨tm5, hM5⟩ := S5.ms.mo
  refine WP.meth (f := 112) B hM5 (by kernel_rfl) rfl ?_
  refine WP.cwK0 B (by k_is) ?_
  refine s_flip (g := gx g H5 cy c.ob c.ts) B (S5.good G) o' (by omega) S5.mst fun H6 T6 C6 => ?_
  have S6 := S5.back T6
  have hL6 := C6.ns hL5
  have C6 := C5.trans C6
  -- self.to_sweep = list(self.objects)
  refine WP.cons (r_sweep B G o'.hh S6 hL6 rfl (fun H7 q S7 C7 => ?_) rfl rfl rfl rfl rfl rfl rfl rfl)
  have hL7 := C7.ns hL6
  have C7 := C6.trans C7
  refine WP.cons (WP.asgAttr (WP.name (WP.loadG B.X B.g (by k_is) (WP.name (WP.loadL hL7 rfl ?_)))))
  refine r_phase B G S7 fun H8 S8 C8 => ?_
  have hL8 := C8.ns hL7
  have C8 := C7.trans C8
  obtain ⟨t8, hC8⟩ := S8.cy_
  refine WP.cons (WP.asgAttr (WP.callN (WP.name (WP.blt B (by k_is) rfl (by decide) ?_))))
  refine WP.cwB (WP.args (WP.cInt fun tk9 => WP.args (WP.binop (WP.attr (WP.name (WP.loadL hL8 rfl ?_))))))
  refine WP.getI B hC8 rfl (by kernel_rfl) rfl ?_
  refine WP.name (WP.loadL hL8 rfl (WP.subI fun tk10 => WP.args0 (WP.max2 o'.hh fun tk11 => WP.name (WP.loadL hL8 rfl ?_))))
  refine r_est B G S8 fun H9 S9 C9 => WP.nil ?_
  exact h H9 m3 ga3 wk3 lg3 la3 lw3 q _ S9 (C8.trans C9) I3'
end
end Mine
end
section
open PySem PySem.W PyProof.Rows PySem.Calls
namespace Mine
theorem fill9 : (PySem.Challenge.rw_xm0623_01, Mine.hk.heap_1) = (PySem.Challenge.rw_xm0623_01, Mine.hk.heap_1) := by
  k_fill
  rfl

theorem valueAt_in {g : GC} {i : Nat} : ∀ {l : List Nat}, i ∈ l → valueAt (kvsO g l) (i : Int) = some (.ref (g.X i))
  | k :: r, h => by
    unfold valueAt
    rw [show kvsO g (k :: r) = ((k : Int), Value.ref (g.X k)) :: kvsO g r from rfl, List.find?_cons]
    by_cases e : k = i
    · subst e; simp
    · have e' : ¬ ((k : Int) = (i : Int)) := fun z => e (Int.ofNat.inj z)
      simp only [e', decide_false]
      have : i ∈ r := by
        rcases List.mem_cons.mp h with z | z
        · exact absurd z.symm e
        · exact z
      exact valueAt_in this
theorem valueAt_out {g : GC} {i : Nat} : ∀ {l : List Nat}, i ∉ l → valueAt (kvsO g l) (i : Int) = none
  | [], _ => rfl
  | k :: r, h => by
    unfold valueAt
    rw [show kvsO g (k :: r) = ((k : Int), Value.ref (g.X k)) :: kvsO g r from rfl, List.find?_cons]
    have e' : ¬ ((k : Int) = (i : Int)) := fun z => h (by rw [Int.ofNat.inj z]; simp)
    simp only [e', decide_false]
    exact valueAt_out (fun z => h (List.mem_cons_of_mem _ z))
theorem without_live {g : GC} {q : Nat → Bool} {i : Nat} : without (kvsO g (live g q)) (i : Int) = kvsO g (live g fun j => q j && decide (j ≠ i)) := by
  unfold without kvsO live
  rw [List.filter_map]
  congr 1
  rw [List.filter_filter]
  apply List.filter_congr
  intro j _
  simp only [Function.comp, Bool.and_comm]
  congr 1
  by_cases e : j = i
  · subst e; simp
  · have e' : ¬ ((j : Int) = (i : Int)) := fun z => e (Int.ofNat.inj z)
    simp [e, e']
theorem intsAre_snoc : ∀ {ns : List Int} {vs : List Value} {k : Int}, IntsAre vs (ns ++ [k]) → ∃ vp t, vs = vp ++ [.int k t] ∧ IntsAre vp ns
  | [], _, k, .cons _ t .nil => ⟨[], t, rfl, .nil⟩
  | n :: r, _, k, .cons _ t h => by
    obtain ⟨vp, t', e, i⟩ := intsAre_snoc (ns := r) h
    exact ⟨.int n t :: vp, t', by rw [e]; rfl, .cons n t i⟩
theorem intsAre_len : ∀ {ns : List Int} {vs : List Value}, IntsAre vs ns → vs.length = ns.length
  | _, _, .nil => rfl
  | _, _, .cons _ _ h => congrArg (· + 1) (intsAre_len h)
theorem sum_live {n : Nat} {room : Nat → Int} {q : Nat → Bool} {i : Nat} (hi : i < n) (hq : q i = true) : ((((List.range n).filter fun j => q j && decide (j ≠ i)).map room).sum : Int) = (((List.range n).filter q).map room).sum - room i := by
  induction n with
  | zero => omega
  | succ k ih =>
    rw [List.range_succ, List.filter_append, List.filter_append, List.map_append, List.map_append, List.sum_append, List.sum_append]
    by_cases e : i = k
    · subst e
      have e1 : ((List.range i).filter fun j => q j && decide (j ≠ i)) = (List.range i).filter q := by
        apply List.filter_congr
        intro x hx
        have : x ≠ i := by have := List.mem_range.mp hx; omega
        simp [this]
      rw [e1]
      simp [hq]
    · have := ih (by omega)
      rw [this]
      have : (fun j => q j && decide (j ≠ i)) k = q k := by simp [Ne.symm e]
      simp only [List.filter_cons, List.filter_nil, this]
      omega

section
variable {prog : Program} {w : World} {h₀ : Heap} {g : GC} {A : Around} {d : Nat} {H H' : HM} {cy : Addr} {c : CF} {m m' : Nat → Int} {gs ga wk gs' ga' wk' : List Nat} {lg la lw lg' la' lw' : Addr} {wh wh' : Int} {Φ : Value → HM → Prop}

theorem CSt.marked (G : g.Good) (S : CSt prog w g cy c m gs ga wk lg la lw wh H) {i : Nat} (hi : i < g.n) {v : Int} {t1 t2 t3 : Tok} : CSt prog w g cy c (setm m i v) gs ga wk lg la lw wh (upd H (g.X i) (thing i v (g.room i) t1 t2 t3)) := by
  obtain ⟨t4, hC⟩ := S.cy_
  obtain ⟨lo, es, hO, r⟩ := S.ob_
  obtain ⟨vs, hT, hi'⟩ := S.ts_
  obtain ⟨a, b, e, hX⟩ := S.ms.th i hi
  exact ⟨S.ms.setMark G hi, ⟨t4, upd_of_ne hC (ne_of hC hX (by simp))⟩, ⟨lo, es, upd_of_ne hO (ne_of hO hX (by simp)), r⟩, ⟨vs, upd_of_ne hT (ne_of hT hX (by simp)), hi'⟩, S.roc, S.roo, S.rot, S.n1, S.n2, S.n3⟩
theorem r_cmark {Φ : Unit → HM → Prop} {i : Nat} {v : Int} {t : Tok} (B : Bs (Mine.hk.heap_1 w.params) h₀) (G : g.Good) (S : CSt prog w g cy c m gs ga wk lg la lw wh H) (hi : i < g.n)
    (h : ∀ H', CSt prog w g cy c (setm m i v) gs ga wk lg la lw wh H' → Cal H H' → Φ () H') : WP prog w h₀ A (setAttr (.ref (g.X i)) "mark" (.int v t)) H Φ := by
  obtain ⟨t1, t2, t3, hX⟩ := S.ms.th i hi
  refine WP.setI B hX (by kernel_rfl) (Nat.le_of_ble_eq_true rfl) ?_
  exact h _ (S.marked G hi) (Cal.refl.put hX rfl)
theorem CSt.objs (S : CSt prog w g cy c m gs ga wk lg la lw wh H) {es : List DictEntry} {q : Nat → Bool} (hd : DictAt (intKind prog w) (upd H c.ob (.dict es)) c.ob (kvsO g (live g q))) : CSt prog w g cy { c with q := q } m gs ga wk lg la lw wh (upd H c.ob (.dict es)) := by
  obtain ⟨t4, hC⟩ := S.cy_
  obtain ⟨lo, es, hO, r⟩ := S.ob_
  obtain ⟨vs, hT, hi'⟩ := S.ts_
  obtain ⟨tm, hM⟩ := S.ms.mo
  have T := S.ms
  refine ⟨⟨T.ro.put S.roo, fun i hi => ?_, ⟨tm, upd_of_ne hM (ne_of hM hO (by simp))⟩, upd_of_ne T.g1 (ne_of T.g1 hO (by simp)), upd_of_ne T.a1 (ne_of T.a1 hO (by simp)), upd_of_ne T.w1 (ne_of T.w1 hO (by simp)), T.ga_, T.gw_, T.aw_, T.rog, T.roa, T.row⟩, ⟨t4, upd_of_ne hC (ne_of hC hO (by simp))⟩, hd, ⟨vs, upd_of_ne hT (ne_of hT hO (by simp)), hi'⟩, S.roc, S.roo, S.rot, S.n1, S.n2, S.n3⟩
  obtain ⟨t1, t2, t3, hX⟩ := T.th i hi
  exact ⟨t1, t2, t3, upd_of_ne hX (ne_of hX hO (by simp))⟩
theorem CSt.turnTs (S : CSt prog w g cy c m gs ga wk lg la lw wh H) {vs : List Value} {l : List Nat} (hv : IntsAre vs (l.map fun (i : Nat) => (i : Int))) : CSt prog w g cy { c with sw := l } m gs ga wk lg la lw wh (upd H c.ts (.list vs)) := by
  obtain ⟨t4, hC⟩ := S.cy_
  obtain ⟨lo, es, hO, r⟩ := S.ob_
  obtain ⟨vs, hT, hi'⟩ := S.ts_
  obtain ⟨tm, hM⟩ := S.ms.mo
  have T := S.ms
  refine ⟨⟨T.ro.put S.rot, fun i hi => ?_, ⟨tm, upd_of_ne hM (ne_of hM hT (by simp))⟩, upd_of_ne T.g1 (Ne.symm S.n1), upd_of_ne T.a1 (Ne.symm S.n2), upd_of_ne T.w1 (Ne.symm S.n3), T.ga_, T.gw_, T.aw_, T.rog, T.roa, T.row⟩, ⟨t4, upd_of_ne hC (ne_of hC hT (by simp))⟩, ⟨lo, es, upd_of_ne hO (ne_of hO hT (by simp)), r⟩, ⟨_, upd_self, hv⟩, S.roc, S.roo, S.rot, S.n1, S.n2, S.n3⟩
  obtain ⟨t1, t2, t3, hX⟩ := T.th i hi
  exact ⟨t1, t2, t3, upd_of_ne hX (ne_of hX hT (by simp))⟩
theorem CSt.calm {L : Addr} {z : AObj} (G : g.Good) (S : CSt prog w g cy c m gs ga wk lg la lw wh H) (hL : H L = some z) (hz : Mine.calm z = false) (e : ∀ b, b ≠ L → H' b = H b) : CSt prog w g cy c m gs ga wk lg la lw wh H' := by
  obtain ⟨t4, hC4⟩ := S.cy_
  obtain ⟨vs, hT4, hi4⟩ := S.ts_
  have k : ∀ a y, H a = some y → Mine.calm y = true → H' a = some y := fun a y ha hy => (e a (ne_calm ha hL hy hz)).trans ha
  obtain ⟨lo, es, hO, r⟩ := S.ob_
  exact ⟨S.ms.calm G hL hz e, ⟨t4, k _ _ hC4 rfl⟩, ⟨lo, es, k _ _ hO rfl, r⟩, ⟨vs, k _ _ hT4 rfl, hi4⟩, S.roc, S.roo, S.rot, S.n1, S.n2, S.n3⟩
theorem live_len (G : g.Good) (q : Nat → Bool) : (kvsO g (live g q)).length ≤ 1000 := by
  rw [List.length_map]
  have := List.length_filter_le q (List.range g.n)
  rw [List.length_range] at this
  have := G.n5
  show (List.filter q (List.range g.n)).length ≤ 1000
  omega

theorem c_free (B : Bs (Mine.hk.heap_1 w.params) h₀) (G : g.Good) (o : Ok A d) (hd : d ≤ 700) (S : CSt prog w g cy c m gs ga wk lg la lw wh H) {i : Nat} (hi : i < g.n) (hq : c.q i = true)
    (h : ∀ H', CSt prog w g cy { c with q := fun j => c.q j && decide (j ≠ i), tot := c.tot - g.room i } (setm m i 4) gs ga wk lg la lw wh H' → Cal H H' → Φ .none H') : WC prog w h₀ A (.call (.ref 252) ⟨[.ref cy, .ref (g.X i)], []⟩) H fun fl H' => ∃ v, fl = .ret v ∧ Φ v H' := by
  refine WC.fnK (binds := [("self", .ref cy), ("obj", .ref (g.X i))]) B o (by omega) (by k_is) (by k_is) (fun _ => .of_eq rfl) (locs rfl) (fun L A' H1 hL o' e1 hL1 => ?_)
  have S1 := S.ext e1
  obtain ⟨t, hC1⟩ := S1.cy_
  obtain ⟨t1, t2, t3, hX1⟩ := S1.ms.th i hi
  refine WP.cons (WP.expr (WP.callM (WP.attr (WP.name (WP.loadL hL1 rfl ?_)))))
  refine WP.getI B hC1 rfl (by kernel_rfl) rfl ?_
  refine WP.dMeth S1.ob_ PySem.F.slot_dict_pop PySem.F.type_dict_pop ?_
  refine WP.cwB (WP.args (WP.attr (WP.name (WP.loadL hL1 rfl ?_))))
  refine WP.getI B hX1 rfl (by kernel_rfl) rfl ?_
  refine WP.args (WP.cNone (WP.args0 ?_))
  refine WP.dPop (knd := intKind prog w) (k := (i : Int)) (v := .ref (g.X i)) S1.ob_ (intKind_is _ _ _ _) rfl (valueAt_in (List.mem_filter.mpr ⟨List.mem_range.mpr hi, hq⟩)) (live_len G _) fun es hes => ?_
  rw [without_live] at hes
  have S2 := S1.objs hes
  obtain ⟨_, es0, hO1, _⟩ := S1.ob_
  have C2 : Cal H1 (upd H1 c.ob (.dict es)) := Cal.refl.put hO1 rfl
  clear hes hO1 hC1 hX1
  generalize upd H1 c.ob (.dict es) = H2 at S2 C2 ⊢
  have hL2 := C2.ns hL1
  have C2 := e1.cal.trans C2
  obtain ⟨tt, hC2⟩ := S2.cy_
  obtain ⟨t1, t2, t3, hX2⟩ := S2.ms.th i hi
  refine WP.cons (WP.augAttr (WP.name (WP.loadL hL2 rfl ?_)))
  refine WP.getI B hC2 rfl (by kernel_rfl) rfl ?_
  refine WP.attr (WP.name (WP.loadL hL2 rfl ?_))
  refine WP.getI B hX2 rfl (by kernel_rfl) rfl ?_
  refine WP.isub fun tk => ?_
  refine r_total B G S2 fun H3 S3 C3 => ?_
  have hL3 := C3.ns hL2
  refine WP.cons (WP.asgAttr (WP.name (WP.loadG B.X B.g (by k_is) (WP.name (WP.loadL hL3 rfl ?_)))))
  exact r_cmark B G S3 hi fun H4 S4 C4 => WP.nil (h H4 S4 ((C2.trans C3).trans C4))

abbrev deadB (m : Nat → Int) (wh : Int) (i : Nat) : Bool := m i == 4 || (decide (m i < 2) && m i != wh)
end
end Mine
end
section
open PySem PySem.W PyProof.Rows PySem.Calls
namespace Mine
theorem fill10 : (PySem.Challenge.rw_xm0623_01, Mine.hk.heap_1) = (PySem.Challenge.rw_xm0623_01, Mine.hk.heap_1) := by
  k_fill
  rfl
section
variable {prog : Program} {w : World} {h₀ : Heap} {g : GC} {A : Around} {d : Nat} {H H' : HM} {cy : Addr} {c : CF} {m m' : Nat → Int} {gs ga wk gs' ga' wk' : List Nat} {lg la lw lg' la' lw' : Addr} {wh wh' : Int} {Φ : Value → HM → Prop}

abbrev sumR (g : GC) (q : Nat → Bool) : Int := ((live g q).map g.room).sum

theorem s_sweep_some (B : Bs (Mine.hk.heap_1 w.params) h₀) (G : g.Good) (o : Ok A d) (hd : d ≤ 600) (S : CSt prog w g cy c m gs ga wk lg la lw wh H) {q1 q2 q3 : Addr} {tm : Tok} (h1 : g.ro q1 = some (.raw (methodObj (.ref 49) (.ref g.mo)))) (h2 : g.ro q2 = some (.raw (methodObj (.ref 252) (.ref cy)))) (h3 : g.ro q3 = some (.raw (methodObj (.ref 56) (.ref g.mo))))
    (hsw : ∀ i ∈ c.sw, i < g.n ∧ c.q i = true) (hnd : c.sw.Nodup) (hlen : c.sw.length ≤ 10) (htot : c.tot = sumR g c.q)
    (h : ∀ H' m' q' tot' r tk, CSt prog w g cy { c with q := q', tot := tot', sw := [] } m' gs ga wk lg la lw wh H' → Cal H H' → tot' = sumR g q' → (∀ j, j < g.n → q' j = (c.q j && (!decide (j ∈ c.sw) || !deadB m wh j))) → (∀ j ∈ c.sw, m' j = if deadB m wh j then 4 else wh) → (∀ j, j ∉ c.sw → m' j = m j) → Φ (.int r tk) H') :
    WP prog w h₀ A (call (.ref 147) [.ref c.ts, .ref c.ob, .int 16 tm, .ref q1, .ref q2, .ref q3]) H Φ := by
  refine WP.fn (binds := [("waiting", .ref c.ts), ("objects", .ref c.ob), ("most", .int 16 tm), ("is_dead", .ref q1), ("free", .ref q2), ("keep", .ref q3)]) B o (by omega) (by k_is) (by k_is) (fun _ => .of_eq rfl) (locs rfl) (fun L A' H1 hL o' e1 hL1 => ?_)
  have S1 := S.ext e1
  refine WP.cons (WP.asgName (WP.cInt fun tk0 => WP.stG hL1 fun H2 q2' hL2 => ?_))
  have S2 := S1.calm G hL1 rfl q2'
  have C2 := e1.cal.loc hL q2'
  refine WP.cons (WP.whileG (fun n Hc => ∃ m' q' tot' p r f tk, CSt prog w g cy { c with q := q', tot := tot', sw := p } m' gs ga wk lg la lw wh Hc ∧ Cal H Hc ∧ Hc L = some (.ns f) ∧
      f "waiting" = some (.ref c.ts) ∧ f "objects" = some (.ref c.ob) ∧ f "most" = some (.int 16 tm) ∧ f "is_dead" = some (.ref q1) ∧ f "free" = some (.ref q2) ∧ f "keep" = some (.ref q3) ∧ f "many" = some (.int (r : List Nat).length tk) ∧
      n = p.length ∧ p ++ r = c.sw ∧ tot' = sumR g q' ∧ (∀ j, j < g.n → q' j = (c.q j && (!decide (j ∈ r) || !deadB m wh j))) ∧ (∀ j ∈ r, m' j = if deadB m wh j then 4 else wh) ∧ (∀ j, j ∉ r → m' j = m j)) _
    ⟨m, c.q, c.tot, c.sw, [], _, tk0, S2, C2, hL2, rfl, rfl, rfl, rfl, rfl, rfl, rfl, rfl, by simp, htot, fun j _ => by simp, by simp, fun _ _ => rfl⟩ ?_)
  rintro n Hc ⟨m3, q3', tot3, p, r, f, tk, S3, C3, hL3, f1, f2, f3, f4, f5, f6, f7, rfl, hpr, ht3, hq3, hm3, hm3'⟩
  obtain ⟨vs, hT3, hi3⟩ := S3.ts_
  change Hc c.ts = _ at hT3
  change IntsAre vs (p.map fun (i : Nat) => (i : Int)) at hi3
  have hvl := intsAre_len hi3
  rw [List.length_map] at hvl
  have hpl : p.length + r.length = c.sw.length := by rw [← hpr, List.length_append]
  refine WP.tBool (WP.and1 (WP.tCmp (WP.name (WP.loadL hL3 f7 (WP.name (WP.loadL hL3 f3 (WP.lt (WP.truthB ?_))))))))
  have hlt : decide (((r.length : Nat) : Int) < 16) = true := decide_eq_true (by omega)
  rw [hlt]
  refine WP.and1 (WP.tCmp (WP.callN (WP.name (WP.blt B (by k_is) rfl (by decide) ?_))))
  refine WP.cwB (WP.args (WP.name (WP.loadL hL3 f1 ?_)))
  refine WP.args0 (WP.len hT3 (fun tk1 => WP.cInt fun tk2 => WP.gt (WP.truthB ?_)) (by omega))
  rw [hvl]
  by_cases hz : p = []
  · subst hz
    rw [show decide ((0 : Int) < ((([] : List Nat).length : Nat) : Int)) = false from rfl]
    refine WP.nil (WP.cons (WP.ret (WP.name (WP.loadL hL3 f7 ?_))))
    rw [List.nil_append] at hpr
    subst hpr
    exact h Hc m3 q3' tot3 _ tk S3 C3 ht3 hq3 hm3 hm3'
  · have hpos : decide ((0 : Int) < ((p.length : Nat) : Int)) = true := by
      have : 0 < p.length := List.length_pos_iff.mpr hz
      exact decide_eq_true (by omega)
    rw [hpos]
    refine WP.and0 ?_
    obtain ⟨p0, i, rfl⟩ : ∃ p0 i, p = p0 ++ [i] := ⟨p.dropLast, p.getLast hz, (List.dropLast_concat_getLast hz).symm⟩
    have hisw : i ∈ c.sw := by rw [← hpr]; simp
    obtain ⟨hin, hqi⟩ := hsw i hisw
    have hnr : i ∉ r := fun z => by
      rw [← hpr, List.append_assoc, List.nodup_append] at hnd
      exact (List.nodup_cons.mp hnd.2.1).1 z
    have hnp : i ∉ p0 := fun z => by
      rw [← hpr, List.append_assoc, List.nodup_append] at hnd
      exact hnd.2.2 i z i (by simp) rfl
    have hqi3 : q3' i = true := by rw [hq3 i hin, hqi]; simp [hnr]
    have hmi3 : m3 i = m i := hm3' i hnr
    rw [List.map_append] at hi3
    obtain ⟨vp, ti, rfl, hip⟩ := intsAre_snoc hi3
    -- obj = objects.get(waiting.pop())
    refine WP.cons (WP.asgName (WP.callM (WP.name (WP.loadL hL3 f2 ?_))))
    refine WP.dMeth S3.ob_ PySem.F.slot_dict_get PySem.F.type_dict_get ?_
    refine WP.cwB (WP.args (WP.callM (WP.name (WP.loadL hL3 f1 ?_))))
    refine WP.lMeth hT3 PySem.F.slot_list_pop PySem.F.type_list_pop ?_
    refine WP.cwB0 (WP.pop (p := vp) hT3 rfl ?_ (by omega))
    have S4 := S3.turnTs hip
    change CSt prog w g cy { c with q := q3', tot := tot3, sw := p0 } m3 gs ga wk lg la lw wh (upd Hc c.ts (.list vp)) at S4
    have C4 : Cal H (upd Hc c.ts (.list vp)) := C3.put hT3 rfl
    have hL4 : upd Hc c.ts (.list vp) L = some (.ns f) := upd_of_ne hL3 (ne_of hL3 hT3 (by simp))
    generalize upd Hc c.ts (.list vp) = H4 at S4 C4 hL4 ⊢
    refine WP.args0 (WP.dGet (knd := intKind prog w) (k := (i : Int)) S4.ob_ (intKind_is _ _ _ _) ?_)
    rw [valueAt_in (List.mem_filter.mpr ⟨List.mem_range.mpr hin, hqi3⟩)]
    refine WP.stG hL4 fun H5 q5 hL5 => ?_
    have S5 := S4.calm G hL4 rfl q5
    have C5 := C4.loc hL q5
    clear S4 C4 hL4 q5 S3 C3 hL3 hT3
    -- many += 1
    refine WP.cons (WP.augName (WP.loadL hL5 ((if_neg (by decide)).trans f7) (WP.cInt fun tk6 => WP.iadd fun tk7 => ?_)))
    refine WP.stG hL5 fun H6 q6 hL6 => ?_
    have S6 := S5.calm G hL5 rfl q6
    have C6 := C5.loc hL q6
    clear S5 C5 hL5 q6
    -- if obj is not None
    refine WP.cons (WP.ifS (WP.tCmp (WP.name (WP.loadL hL6 rfl (WP.cNone (WP.isNotNone (WP.truthB ?_)))))))
    rw [if_pos (show (!((some (Value.ref (g.X i))).getD Value.none == Value.none)) = true from rfl)]
    refine WP.cons (WP.ifS (WP.tVal (WP.callN (WP.name (WP.loadL hL6 ((if_neg (by decide)).trans ((if_neg (by decide)).trans f4)) ?_)))))
    have r1 := S6.ms.ro _ _ h1
    refine WP.cwM (g := 49) (self := .ref g.mo) B (by k_is) (WP.args (WP.name (WP.loadL hL6 rfl ?_)))
    refine WP.args0 ⟨r1, WP.methObj r1 ?_⟩
    refine c_mdead B o' (by omega) S6.ms hin fun H7 e7 => WP.truthB ?_
    have S7 := S6.ext e7
    have C7 := C6.trans e7.cal
    have hL7 := e7 _ _ hL6
    rw [hmi3]
    cases hdd : deadB m wh i with
    | true =>
      rw [if_pos hdd]
      refine WP.cons (WP.expr (WP.callN (WP.name (WP.loadL hL7 ((if_neg (by decide)).trans ((if_neg (by decide)).trans f5)) ?_))))
      have r2 := S7.ms.ro _ _ h2
      refine WP.cwM (g := 252) (self := .ref cy) B (by k_is) (WP.args (WP.name (WP.loadL hL7 rfl ?_)))
      refine WP.args0 ⟨r2, WP.methObj r2 ?_⟩
      refine c_free B G o' (by omega) S7 hin hqi3 fun H8 S8 C8 => ?_
      refine WP.nil (WP.nil (WP.nil ⟨p0.length, by simp, _, _, _, p0, i :: r, _, tk7, S8, C7.trans C8, C8.ns hL7, (if_neg (by decide)).trans ((if_neg (by decide)).trans f1), (if_neg (by decide)).trans ((if_neg (by decide)).trans f2), (if_neg (by decide)).trans ((if_neg (by decide)).trans f3),
        (if_neg (by decide)).trans ((if_neg (by decide)).trans f4), (if_neg (by decide)).trans ((if_neg (by decide)).trans f5), (if_neg (by decide)).trans ((if_neg (by decide)).trans f6), (if_pos rfl).trans (by simp), rfl, by rw [← hpr]; simp, ?_, fun j hj => ?_, fun j hj => ?_, fun j hj => ?_⟩))
      · show tot3 - g.room i = _
        rw [ht3]; exact (sum_live hin hqi3).symm
      · show (q3' j && decide (j ≠ i)) = _
        rw [hq3 j hj]
        by_cases e : j = i
        · subst e
          have : deadB m wh j = true := hdd
          simp [this]
        · simp [e]
      · by_cases e : j = i
        · rw [e, if_pos hdd]; simp [setm]
        · rcases List.mem_cons.mp hj with z | z
          · exact absurd z e
          · simp only [setm, if_neg e]; exact hm3 j z
      · have e : j ≠ i := fun z => hj (by rw [z]; simp)
        simp only [setm, if_neg e]
        exact hm3' j fun z => hj (List.mem_cons_of_mem _ z)
    | false =>
      rw [if_neg (show ¬ ((m i == 4 || decide (m i < 2) && m i != wh) = true) from fun z => Bool.false_ne_true (hdd.symm.trans z))]
      refine WP.cons (WP.expr (WP.callN (WP.name (WP.loadL hL7 ((if_neg (by decide)).trans ((if_neg (by decide)).trans f6)) ?_))))
      have r3 := S7.ms.ro _ _ h3
      refine WP.cwM (g := 56) (self := .ref g.mo) B (by k_is) (WP.args (WP.name (WP.loadL hL7 rfl ?_)))
      refine WP.args0 ⟨r3, WP.methObj r3 ?_⟩
      have G7 := S7.good G
      have T7 := S7.mst
      refine c_mwhite B G7 o' (by omega) T7 hin fun H8 T8 C8 => ?_
      have S8 := S7.back T8
      refine WP.nil (WP.nil (WP.nil ⟨p0.length, by simp, _, _, _, p0, i :: r, _, tk7, S8, C7.trans C8, C8.ns hL7, (if_neg (by decide)).trans ((if_neg (by decide)).trans f1), (if_neg (by decide)).trans ((if_neg (by decide)).trans f2), (if_neg (by decide)).trans ((if_neg (by decide)).trans f3),
        (if_neg (by decide)).trans ((if_neg (by decide)).trans f4), (if_neg (by decide)).trans ((if_neg (by decide)).trans f5), (if_neg (by decide)).trans ((if_neg (by decide)).trans f6), (if_pos rfl).trans (by simp), rfl, by rw [← hpr]; simp, ht3, fun j hj => ?_, fun j hj => ?_, fun j hj => ?_⟩))
      · show q3' j = _
        rw [hq3 j hj]
        by_cases e : j = i
        · subst e
          have : deadB m wh j = false := hdd
          simp [this]
        · simp [e]
      · by_cases e : j = i
        · rw [e, if_neg (by rw [hdd]; exact Bool.false_ne_true)]; simp [setm]
        · rcases List.mem_cons.mp hj with z | z
          · exact absurd z e
          · simp only [setm, if_neg e]; exact hm3 j z
      · have e : j ≠ i := fun z => hj (by rw [z]; simp)
        simp only [setm, if_neg e]
        exact hm3' j fun z => hj (List.mem_cons_of_mem _ z)
end
end Mine
end
section
open PySem PySem.W PyProof.Rows PySem.Calls
namespace Mine
theorem fill11 : (PySem.Challenge.rw_xm0623_01, Mine.hk.heap_1) = (PySem.Challenge.rw_xm0623_01, Mine.hk.heap_1) := by
  k_fill
  rfl
section
variable {prog : Program} {w : World} {h₀ : Heap} {g : GC} {A : Around} {d : Nat} {H H' : HM} {cy : Addr} {c : CF} {m m' : Nat → Int} {gs ga wk gs' ga' wk' : List Nat} {lg la lw lg' la' lw' : Addr} {wh wh' : Int} {Φ : Value → HM → Prop}

/-- three raw objects kept as well -/
theorem CSt.raws (G : g.Good) (S : CSt prog w g cy c m gs ga wk lg la lw wh H) {q1 q2 q3 : Addr} {o1 o2 o3 : Obj} (h1 : H q1 = some (.raw o1)) (h2 : H q2 = some (.raw o2)) (h3 : H q3 = some (.raw o3)) :
    (gx g H q1 q2 q3).Good ∧ CSt prog w (gx g H q1 q2 q3) cy c m gs ga wk lg la lw wh H := by
  obtain ⟨t4, hC⟩ := S.cy_
  obtain ⟨lo, es, hO, r⟩ := S.ob_
  obtain ⟨vs, hT, hi'⟩ := S.ts_
  obtain ⟨tm, hM⟩ := S.ms.mo
  have T := S.ms
  have no : ∀ a y, H a = some y → (∀ o, y ≠ .raw o) → g.ro a = none → (gx g H q1 q2 q3).ro a = none := fun a y ha hy hr => by
    show (if _ then _ else _) = _
    rw [if_neg (by rintro (z | z | z); exact ne_of ha h1 (hy _) z; exact ne_of ha h2 (hy _) z; exact ne_of ha h3 (hy _) z)]; exact hr
  refine ⟨⟨G.n5, G.inj, G.chn, G.ch2, fun i hi => ?_, no _ _ hM (fun _ => nofun) G.roM, fun a y h => ?_⟩, ⟨⟨fun a y h => ?_, T.th, T.mo, T.g1, T.a1, T.w1, T.ga_, T.gw_, T.aw_, no _ _ T.g1 (fun _ => nofun) T.rog, no _ _ T.a1 (fun _ => nofun) T.roa, no _ _ T.w1 (fun _ => nofun) T.row⟩, ⟨t4, hC⟩, ⟨lo, es, hO, r⟩, ⟨vs, hT, hi'⟩, no _ _ hC (fun _ => nofun) S.roc, no _ _ hO (fun _ => nofun) S.roo, no _ _ hT (fun _ => nofun) S.rot, S.n1, S.n2, S.n3⟩⟩
  · obtain ⟨t1, t2, t3, hX⟩ := T.th i hi
    exact no _ _ hX (fun _ => nofun) (G.roX i hi)
  · change (if _ then _ else _) = _ at h
    split at h
    · rename_i hz
      rcases hz with rfl | rfl | rfl
      · rw [h1] at h; cases h; rfl
      · rw [h2] at h; cases h; rfl
      · rw [h3] at h; cases h; rfl
    · exact G.roN a y h
  · change (if _ then _ else _) = _ at h
    split at h
    · exact h
    · exact T.ro a y h
theorem CSt.less {r' : HM} (e : Ext g.ro r') (S : CSt prog w { g with ro := r' } cy c m gs ga wk lg la lw wh H) : CSt prog w g cy c m gs ga wk lg la lw wh H :=
  have T := S.ms
  ⟨⟨e.trans T.ro, T.th, T.mo, T.g1, T.a1, T.w1, T.ga_, T.gw_, T.aw_, e.fresh T.rog, e.fresh T.roa, e.fresh T.row⟩, S.cy_, S.ob_, S.ts_, e.fresh S.roc, e.fresh S.roo, e.fresh S.rot, S.n1, S.n2, S.n3⟩

theorem s_sweep (B : Bs (Mine.hk.heap_1 w.params) h₀) (G : g.Good) (o : Ok A d) (hd : d ≤ 590) (S : CSt prog w g cy c m gs ga wk lg la lw wh H)
    (hsw : c.sw = live g c.q) (htot : c.tot = sumR g c.q)
    (h : ∀ H' m' q' tot' e' r tk, CSt prog w g cy { c with q := q', tot := tot', sw := [], ph := 3, est := e' } m' gs ga wk lg la lw wh H' → Cal H H' → tot' = sumR g q' → (∀ j, j < g.n → q' j = (c.q j && !deadB m wh j)) → (∀ j, j < g.n → c.q j = true → m' j = if deadB m wh j then 4 else wh) → Φ (.int r tk) H') :
    WP prog w h₀ A (call (.ref 259) [.ref cy]) H Φ := by
  refine WP.fn (binds := [("self", .ref cy)]) B o (by omega) (by k_is) (by k_is) (fun _ => .of_eq rfl) (locs rfl) (fun L A' H1 hL o' e1 hL1 => ?_)
  have S1 := S.ext e1
  obtain ⟨t, hC1⟩ := S1.cy_
  refine WP.cons (WP.asgName (WP.attr (WP.name (WP.loadL hL1 rfl ?_))))
  refine WP.getI B hC1 rfl (by kernel_rfl) rfl ?_
  refine WP.stG hL1 fun H2 q2 hL2 => ?_
  have S2 := S1.calm G hL1 rfl q2
  have C2 := e1.cal.loc hL q2
  clear S1 hC1 hL1 q2
  -- sweep_some(...)
  obtain ⟨t, hC2⟩ := S2.cy_
  obtain ⟨tm, hM2⟩ := S2.ms.mo
  refine WP.cons (WP.expr (WP.callN (WP.name (WP.loadG B.X B.g (by k_is) ?_))))
  refine WP.cwK B (by k_is) (WP.args (WP.attr (WP.name (WP.loadL hL2 rfl ?_))))
  refine WP.getI B hC2 rfl (by kernel_rfl) rfl ?_
  refine WP.args (WP.attr (WP.name (WP.loadL hL2 rfl ?_)))
  refine WP.getI B hC2 rfl (by kernel_rfl) rfl ?_
  refine WP.args (WP.attr (WP.name (WP.loadL hL2 rfl ?_)))
  refine WP.getI B hC2 rfl (by kernel_rfl) rfl ?_
  refine WP.args (WP.attr (WP.attr (WP.name (WP.loadL hL2 rfl ?_))))
  refine WP.getI B hC2 rfl (by kernel_rfl) rfl ?_
  refine WP.bound (f := 49) B hM2 (by kernel_rfl) rfl fun a1 n1 => ?_
  have S3 := S2.ext (Ext.refl.new (x := .raw (methodObj (.ref 49) (.ref g.mo))) n1)
  have C3 := C2.trans (Cal.refl.new (x := .raw (methodObj (.ref 49) (.ref g.mo))) n1)
  have k1 := upd_self (H := H2) (a := a1) (x := .raw (methodObj (.ref 49) (.ref g.mo)))
  have hL3 := upd_old (y := .raw (methodObj (.ref 49) (.ref g.mo))) hL2 n1
  generalize upd H2 a1 (.raw (methodObj (.ref 49) (.ref g.mo))) = H3 at S3 C3 k1 hL3 ⊢
  obtain ⟨t, hC3⟩ := S3.cy_
  refine WP.args (WP.attr (WP.name (WP.loadL hL3 rfl ?_)))
  refine WP.bound (f := 252) B hC3 (by kernel_rfl) rfl fun a2 n2 => ?_
  have S4 := S3.ext (Ext.refl.new (x := .raw (methodObj (.ref 252) (.ref cy))) n2)
  have C4 := C3.trans (Cal.refl.new (x := .raw (methodObj (.ref 252) (.ref cy))) n2)
  have k2 := upd_self (H := H3) (a := a2) (x := .raw (methodObj (.ref 252) (.ref cy)))
  have hL4 := upd_old (y := .raw (methodObj (.ref 252) (.ref cy))) hL3 n2
  have k1 := upd_old (y := .raw (methodObj (.ref 252) (.ref cy))) k1 n2
  have n2' := n2
  generalize upd H3 a2 (.raw (methodObj (.ref 252) (.ref cy))) = H4 at S4 C4 k1 k2 hL4 ⊢
  obtain ⟨t, hC4⟩ := S4.cy_
  obtain ⟨tm, hM4⟩ := S4.ms.mo
  refine WP.args (WP.attr (WP.attr (WP.name (WP.loadL hL4 rfl ?_))))
  refine WP.getI B hC4 rfl (by kernel_rfl) rfl ?_
  refine WP.bound (f := 56) B hM4 (by kernel_rfl) rfl fun a3 n3 => ?_
  have S5 := S4.ext (Ext.refl.new (x := .raw (methodObj (.ref 56) (.ref g.mo))) n3)
  have C5 := C4.trans (Cal.refl.new (x := .raw (methodObj (.ref 56) (.ref g.mo))) n3)
  have k3 := upd_self (H := H4) (a := a3) (x := .raw (methodObj (.ref 56) (.ref g.mo)))
  have hL5 := upd_old (y := .raw (methodObj (.ref 56) (.ref g.mo))) hL4 n3
  have k1 := upd_old (y := .raw (methodObj (.ref 56) (.ref g.mo))) k1 n3
  have k2 := upd_old (y := .raw (methodObj (.ref 56) (.ref g.mo))) k2 n3
  generalize upd H4 a3 (.raw (methodObj (.ref 56) (.ref g.mo))) = H5 at S5 C5 k1 k2 k3 hL5 ⊢
  refine WP.args0 ?_
  have f1 : g.ro a1 = none := S2.ms.ro.fresh n1
  have f2 : g.ro a2 = none := S3.ms.ro.fresh n2'
  have f3 : g.ro a3 = none := S4.ms.ro.fresh n3
  have ee : Ext g.ro (gx g H5 a1 a2 a3).ro := fun a y ha => by
    show (if _ then _ else _) = _
    rw [if_neg (by rintro (z | z | z) <;> subst z; rw [f1] at ha; cases ha; rw [f2] at ha; cases ha; rw [f3] at ha; cases ha)]; exact ha
  obtain ⟨G6, S6⟩ := S5.raws G k1 k2 k3
  have hn : ∀ i ∈ c.sw, i < g.n ∧ c.q i = true := fun i hi => by
    rw [hsw] at hi
    have := List.mem_filter.mp hi
    exact ⟨List.mem_range.mp this.1, this.2⟩
  refine s_sweep_some (g := gx g H5 a1 a2 a3) B G6 o' (by omega) S6 (if_pos (.inl rfl) |>.trans k1) (if_pos (.inr (.inl rfl)) |>.trans k2) (if_pos (.inr (.inr rfl)) |>.trans k3) hn (by rw [hsw]; exact List.Nodup.sublist List.filter_sublist List.nodup_range) ?_ htot fun H7 m7 q7 tot7 r7 tk7 S7 C7 ht7 hq7 hm7 hm7' => ?_
  · rw [hsw]
    have := List.length_filter_le c.q (List.range g.n)
    rw [List.length_range] at this
    have := G.n5
    show (List.filter c.q (List.range g.n)).length ≤ 10
    omega
  have S7 : CSt prog w g cy _ m7 gs ga wk lg la lw wh H7 := CSt.less ee S7
  have hL7 := C7.ns hL5
  have C7 := C5.trans C7
  clear S2 S3 S4 S5 S6 C3 C4 C5 G6 k1 k2 k3 hL3 hL4 hL5
  -- if len(self.to_sweep) == 0
  obtain ⟨t, hC7⟩ := S7.cy_
  obtain ⟨vs, hT7, hi7⟩ := S7.ts_
  have hv0 := intsAre_len hi7
  refine WP.seq (fun H8 => CSt prog w g cy { c with q := q7, tot := tot7, sw := [], ph := 3 } m7 gs ga wk lg la lw wh H8 ∧ Cal H7 H8) ?_ ?_
  · refine WP.ifS (WP.tCmp (WP.callN (WP.name (WP.blt B (by k_is) rfl (by decide) ?_))))
    refine WP.cwB (WP.args (WP.attr (WP.name (WP.loadL hL7 rfl ?_))))
    refine WP.getI B hC7 rfl (by kernel_rfl) rfl ?_
    refine WP.args0 (WP.len hT7 (fun tk1 => WP.cInt fun tk2 => WP.eq (WP.truthB ?_)) (by rw [hv0]; exact Nat.zero_le _))
    rw [hv0]
    show WP prog w h₀ A' _ H7 _
    refine WP.cons (WP.asgAttr (WP.name (WP.loadG B.X B.g (by k_is) (WP.name (WP.loadL hL7 rfl ?_)))))
    exact r_phase B G S7 fun H8 S8 C8 => WP.nil ⟨rfl, S8, C8⟩
  rintro H8 ⟨S8, C8⟩
  have hL8 := C8.ns hL7
  obtain ⟨t, hC8⟩ := S8.cy_
  refine WP.cons (WP.asgAttr (WP.callN (WP.name (WP.blt B (by k_is) rfl (by decide) ?_))))
  refine WP.cwB (WP.args (WP.cInt fun tk9 => WP.args (WP.binop (WP.attr (WP.name (WP.loadL hL8 rfl ?_))))))
  refine WP.getI B hC8 rfl (by kernel_rfl) rfl ?_
  refine WP.binop (WP.name (WP.loadL hL8 rfl (WP.attr (WP.name (WP.loadL hL8 rfl ?_)))))
  refine WP.getI B hC8 rfl (by kernel_rfl) rfl ?_
  refine WP.subI fun tk10 => WP.subI fun tk11 => WP.args0 (WP.max2 o'.hh fun tk12 => WP.name (WP.loadL hL8 rfl ?_))
  refine r_est B G S8 fun H9 S9 C9 => ?_
  have hL9 := C9.ns hL8
  obtain ⟨t, hC9⟩ := S9.cy_
  refine WP.cons (WP.ret (WP.binop (WP.attr (WP.name (WP.loadL hL9 rfl ?_)))))
  refine WP.getI B hC9 rfl (by kernel_rfl) rfl ?_
  refine WP.name (WP.loadG B.X B.g (by k_is) (WP.mul (IntMulOk.of_right (by decide)) fun tk13 => ?_))
  refine h H9 m7 q7 tot7 _ _ tk13 S9 ((C7.trans C8).trans C9) ht7 (fun j hj => ?_) (fun j hj hq => hm7 j ?_)
  · have := hq7 j hj
    rw [this]
    cases hcq : c.q j with
    | false => rfl
    | true =>
      have : j ∈ c.sw := by rw [hsw]; exact List.mem_filter.mpr ⟨List.mem_range.mpr hj, hcq⟩
      simp [this]
  · rw [hsw]; exact List.mem_filter.mpr ⟨List.mem_range.mpr hj, hq⟩

theorem s_finalize (B : Bs (Mine.hk.heap_1 w.params) h₀) (G : g.Good) (o : Ok A d) (hd : d ≤ 700) (S : CSt prog w g cy c m gs ga wk lg la lw wh H) {th : Value}
    (h : ∀ H' b k tk, CSt prog w g cy { c with ph := 0, deb := b, cyl := k } m gs ga wk lg la lw wh H' → Cal H H' → Φ (.int 0 tk) H') : WP prog w h₀ A (call (.ref 266) [.ref cy, th]) H Φ := by
  refine WP.fn (binds := [("self", .ref cy), ("thread", th)]) B o (by omega) (by k_is) (by k_is) (fun _ => .of_eq rfl) (locs rfl) (fun L A' H1 hL o' e1 hL1 => ?_)
  have S1 := S.ext e1
  refine WP.cons (WP.asgAttr (WP.name (WP.loadG B.X B.g (by k_is) (WP.name (WP.loadL hL1 rfl ?_)))))
  refine r_phase B G S1 fun H2 S2 C2 => ?_
  have hL2 := C2.ns hL1
  refine WP.cons (WP.asgAttr (WP.cInt fun tk1 => WP.name (WP.loadL hL2 rfl ?_)))
  refine r_debt B G S2 fun H3 S3 C3 => ?_
  have hL3 := C3.ns hL2
  obtain ⟨t, hC3⟩ := S3.cy_
  refine WP.cons (WP.augAttr (WP.name (WP.loadL hL3 rfl ?_)))
  refine WP.getI B hC3 rfl (by kernel_rfl) rfl ?_
  refine WP.cInt fun tk2 => WP.iadd fun tk3 => ?_
  refine r_cyl B G S3 fun H4 S4 C4 => ?_
  exact WP.cons (WP.ret (WP.cInt fun tk4 => h H4 _ _ tk4 S4 (((e1.cal.trans C2).trans C3).trans C4)))
end
end Mine
end
section
open PySem PySem.W PyProof.Rows PySem.Calls
namespace Mine
theorem fill12 : (PySem.Challenge.rw_xm0623_01, Mine.hk.heap_1) = (PySem.Challenge.rw_xm0623_01, Mine.hk.heap_1) := by
  k_fill
  rfl
section
variable {prog : Program} {w : World} {h₀ : Heap} {g : GC} {A : Around} {d : Nat} {H H' : HM} {cy : Addr} {c : CF} {m m' : Nat → Int} {gs ga wk gs' ga' wk' : List Nat} {lg la lw lg' la' lw' : Addr} {wh wh' : Int} {Φ : Value → HM → Prop} {th : Value}

/-- one step: marking -/
theorem s_step1 (B : Bs (Mine.hk.heap_1 w.params) h₀) (G : g.Good) (Cs : Calls prog w h₀ g) {src : List Nat} {w0 : Int} (hw : w0 < 2) (o : Ok A d) (hd : d ≤ 480) (S : CSt prog w g cy c m gs ga wk lg la lw wh H) (hp : c.ph = 1) (I : MI g src w0 m gs ga wk) (hr : g.ro c.rl = some (refs g src)) (hsrc : ∀ i ∈ src, i < g.n)
    (h1 : ∀ H' m' gs' ga' wk' r tk, CSt prog w g cy c m' gs' ga' wk' lg la lw wh H' → Cal H H' → MI g src w0 m' gs' ga' wk' → whites g.n m' + gs'.length < whites g.n m + gs.length → Φ (.int r tk) H')
    (h2 : ∀ H' m' ga' wk' lg' la' lw' q e tk, CSt prog w g cy { c with ph := 2, ts := q, sw := live g c.q, est := e } m' [] ga' wk' lg' la' lw' (1 - wh) H' → Cal H H' → MI g src w0 m' [] ga' wk' → Φ (.int 0 tk) H') : WP prog w h₀ A (call (.ref 273) [.ref cy, th]) H Φ := by
  refine WP.fn (binds := [("self", .ref cy), ("thread", th)]) B o (by omega) (by k_is) (by k_is) (fun _ => .of_eq rfl) (locs rfl) (fun L A' H1 hL o' e1 hL1 => ?_)
  have S1 := S.ext e1
  obtain ⟨t, hC1⟩ := S1.cy_
  obtain ⟨tm, hM1⟩ := S1.ms.mo
  have ht := I.tot
  refine WP.cons (WP.ifS (WP.tCmp (WP.attr (WP.name (WP.loadL hL1 rfl ?_)))))
  refine WP.getI B hC1 rfl (by kernel_rfl) rfl ?_
  refine WP.name (WP.loadG B.X B.g (by k_is) (WP.eq (WP.truthB ?_)))
  rw [hp]
  refine WP.nil ?_
  refine WP.cons (WP.ifS (WP.tCmp (WP.attr (WP.name (WP.loadL hL1 rfl ?_)))))
  refine WP.getI B hC1 rfl (by kernel_rfl) rfl ?_
  refine WP.name (WP.loadG B.X B.g (by k_is) (WP.eq (WP.truthB ?_)))
  rw [hp]
  refine WP.cons (WP.ifS (WP.tCmp (WP.callN (WP.name (WP.blt B (by k_is) rfl (by decide) ?_)))))
  refine WP.cwB (WP.args (WP.attr (WP.attr (WP.name (WP.loadL hL1 rfl ?_)))))
  refine WP.getI B hC1 rfl (by kernel_rfl) rfl ?_
  refine WP.getI B hM1 rfl (by kernel_rfl) rfl ?_
  refine WP.args0 (WP.len S1.ms.g1 (fun tk1 => WP.cInt fun tk2 => WP.gt (WP.truthB ?_)) (by rw [List.length_map]; omega))
  rw [List.length_map]
  by_cases hz : gs = []
  · subst hz
    rw [show decide ((0 : Int) < ((([] : List Nat).length : Nat) : Int)) = false from rfl]
    refine WP.nil (WP.cons (WP.expr (WP.callM (WP.name (WP.loadL hL1 rfl ?_)))))
    refine WP.meth (f := 245) B hC1 (by kernel_rfl) rfl ?_
    refine WP.cwK B (by k_is) (WP.args (WP.name (WP.loadL hL1 rfl ?_)))
    refine WP.args0 (s_atomic B G Cs hw o' (by omega) S1 I hr hsrc fun H2 m2 ga2 wk2 lg2 la2 lw2 q e S2 C2 I2 => ?_)
    exact WP.cons (WP.ret (WP.cInt fun tk => h2 H2 m2 ga2 wk2 lg2 la2 lw2 q e tk S2 (e1.cal.trans C2) I2))
  · have hpos : decide ((0 : Int) < ((gs.length : Nat) : Int)) = true := by
      have : 0 < gs.length := List.length_pos_iff.mpr hz
      exact decide_eq_true (by omega)
    rw [hpos]
    refine WP.cons (WP.ret (WP.callM (WP.attr (WP.name (WP.loadL hL1 rfl ?_)))))
    refine WP.getI B hC1 rfl (by kernel_rfl) rfl ?_
    refine WP.meth (f := 91) B hM1 (by kernel_rfl) rfl ?_
    refine WP.cwK0 B (by k_is) ?_
    refine s_propagate (g := gx g H1 cy c.ob c.ts) (src := src) (w0 := w0) B (S1.good G) (S1.calls Cs) hw o' (by omega) S1.mst ⟨I.val, I.rt, I.sr, I.ok, I.clo, I.tot⟩ hz fun H2 m2 gs2 ga2 wk2 r2 tk2 T2 C2 I2 lt2 => ?_
    exact h1 H2 m2 gs2 ga2 wk2 r2 tk2 (S1.back T2) (e1.cal.trans C2) ⟨I2.val, I2.rt, I2.sr, I2.ok, I2.clo, I2.tot⟩ lt2

/-- one step: sweeping -/
theorem s_step2 (B : Bs (Mine.hk.heap_1 w.params) h₀) (G : g.Good) (o : Ok A d) (hd : d ≤ 480) (S : CSt prog w g cy c m gs ga wk lg la lw wh H) (hp : c.ph = 2) (hsw : c.sw = live g c.q) (htot : c.tot = sumR g c.q)
    (h : ∀ H' m' q' tot' e' r tk, CSt prog w g cy { c with q := q', tot := tot', sw := [], ph := 3, est := e' } m' gs ga wk lg la lw wh H' → Cal H H' → tot' = sumR g q' → (∀ j, j < g.n → q' j = (c.q j && !deadB m wh j)) → (∀ j, j < g.n → c.q j = true → m' j = if deadB m wh j then 4 else wh) → Φ (.int r tk) H') :
    WP prog w h₀ A (call (.ref 273) [.ref cy, th]) H Φ := by
  refine WP.fn (binds := [("self", .ref cy), ("thread", th)]) B o (by omega) (by k_is) (by k_is) (fun _ => .of_eq rfl) (locs rfl) (fun L A' H1 hL o' e1 hL1 => ?_)
  have S1 := S.ext e1
  obtain ⟨t, hC1⟩ := S1.cy_
  refine WP.cons (WP.ifS (WP.tCmp (WP.attr (WP.name (WP.loadL hL1 rfl ?_)))))
  refine WP.getI B hC1 rfl (by kernel_rfl) rfl ?_
  refine WP.name (WP.loadG B.X B.g (by k_is) (WP.eq (WP.truthB ?_)))
  rw [hp]
  refine WP.nil ?_
  refine WP.cons (WP.ifS (WP.tCmp (WP.attr (WP.name (WP.loadL hL1 rfl ?_)))))
  refine WP.getI B hC1 rfl (by kernel_rfl) rfl ?_
  refine WP.name (WP.loadG B.X B.g (by k_is) (WP.eq (WP.truthB ?_)))
  rw [hp]
  refine WP.nil ?_
  refine WP.cons (WP.ifS (WP.tCmp (WP.attr (WP.name (WP.loadL hL1 rfl ?_)))))
  refine WP.getI B hC1 rfl (by kernel_rfl) rfl ?_
  refine WP.name (WP.loadG B.X B.g (by k_is) (WP.eq (WP.truthB ?_)))
  rw [hp]
  refine WP.cons (WP.ret (WP.callM (WP.name (WP.loadL hL1 rfl ?_))))
  refine WP.meth (f := 259) B hC1 (by kernel_rfl) rfl ?_
  refine WP.cwK0 B (by k_is) ?_
  exact s_sweep B G o' (by omega) S1 hsw htot fun H2 m2 q2 tot2 e2 r2 tk2 S2 C2 a b c => h H2 m2 q2 tot2 e2 r2 tk2 S2 (e1.cal.trans C2) a b c

/-- one step: the end -/
theorem s_step3 (B : Bs (Mine.hk.heap_1 w.params) h₀) (G : g.Good) (o : Ok A d) (hd : d ≤ 480) (S : CSt prog w g cy c m gs ga wk lg la lw wh H) (hp : c.ph = 3)
    (h : ∀ H' b k tk, CSt prog w g cy { c with ph := 0, deb := b, cyl := k } m gs ga wk lg la lw wh H' → Cal H H' → Φ (.int 0 tk) H') :
    WP prog w h₀ A (call (.ref 273) [.ref cy, th]) H Φ := by
  refine WP.fn (binds := [("self", .ref cy), ("thread", th)]) B o (by omega) (by k_is) (by k_is) (fun _ => .of_eq rfl) (locs rfl) (fun L A' H1 hL o' e1 hL1 => ?_)
  have S1 := S.ext e1
  obtain ⟨t, hC1⟩ := S1.cy_
  refine WP.cons (WP.ifS (WP.tCmp (WP.attr (WP.name (WP.loadL hL1 rfl ?_)))))
  refine WP.getI B hC1 rfl (by kernel_rfl) rfl ?_
  refine WP.name (WP.loadG B.X B.g (by k_is) (WP.eq (WP.truthB ?_)))
  rw [hp]
  refine WP.nil ?_
  refine WP.cons (WP.ifS (WP.tCmp (WP.attr (WP.name (WP.loadL hL1 rfl ?_)))))
  refine WP.getI B hC1 rfl (by kernel_rfl) rfl ?_
  refine WP.name (WP.loadG B.X B.g (by k_is) (WP.eq (WP.truthB ?_)))
  rw [hp]
  refine WP.nil ?_
  refine WP.cons (WP.ifS (WP.tCmp (WP.attr (WP.name (WP.loadL hL1 rfl ?_)))))
  refine WP.getI B hC1 rfl (by kernel_rfl) rfl ?_
  refine WP.name (WP.loadG B.X B.g (by k_is) (WP.eq (WP.truthB ?_)))
  rw [hp]
  refine WP.nil ?_
  refine WP.cons (WP.ret (WP.callM (WP.name (WP.loadL hL1 rfl ?_))))
  refine WP.meth (f := 266) B hC1 (by kernel_rfl) rfl ?_
  refine WP.cwK B (by k_is) (WP.args (WP.name (WP.loadL hL1 rfl ?_)))
  exact WP.args0 (s_finalize B G o' (by omega) S1 fun H2 b k tk S2 C2 => h H2 b k tk S2 (e1.cal.trans C2))

theorem s_next_threshold (B : Bs (Mine.hk.heap_1 w.params) h₀) (o : Ok A d) (hd : d ≤ 700) {a : Int} {t1 t2 : Tok} (h : ∀ H' r tk, Ext H H' → Φ (.int r tk) H') : WP prog w h₀ A (call (.ref 168) [.int a t1, .int 200 t2]) H Φ := by
  refine WP.fn (binds := [("estimate", .int a t1), ("pause", .int 200 t2)]) B o (by omega) (by k_is) (by k_is) (fun _ => .of_eq rfl) (locs rfl) (fun L A' H1 hL o' e1 hL1 => ?_)
  refine WP.cons (WP.ret (WP.binop (WP.binop (WP.name (WP.loadL hL1 rfl (WP.name (WP.loadL hL1 rfl (WP.mul (IntMulOk.of_right (by decide)) fun tk => ?_))))))))
  exact WP.cInt fun tk2 => WP.fdiv (by decide) (PyProof.noPylong_small (by decide)) fun tk3 => h H1 _ tk3 e1
theorem s_set_threshold (B : Bs (Mine.hk.heap_1 w.params) h₀) (G : g.Good) (o : Ok A d) (hd : d ≤ 690) (S : CSt prog w g cy c m gs ga wk lg la lw wh H)
    (h : ∀ H' v, CSt prog w g cy { c with thr := v } m gs ga wk lg la lw wh H' → Cal H H' → Φ .none H') : WP prog w h₀ A (call (.ref 280) [.ref cy]) H Φ := by
  refine WP.fn (binds := [("self", .ref cy)]) B o (by omega) (by k_is) (by k_is) (fun _ => .of_eq rfl) (locs rfl) (fun L A' H1 hL o' e1 hL1 => ?_)
  have S1 := S.ext e1
  obtain ⟨t, hC1⟩ := S1.cy_
  refine WP.cons (WP.asgAttr (WP.ifExp (WP.tCmp (WP.attr (WP.name (WP.loadL hL1 rfl ?_))))))
  refine WP.getI B hC1 rfl (by kernel_rfl) rfl ?_
  refine WP.cInt fun tk1 => WP.lt (WP.truthB ?_)
  rw [show decide ((200 : Int) < 0) = false from rfl]
  refine WP.callN (WP.name (WP.loadG B.X B.g (by k_is) ?_))
  refine WP.cwK B (by k_is) (WP.args (WP.attr (WP.name (WP.loadL hL1 rfl ?_))))
  refine WP.getI B hC1 rfl (by kernel_rfl) rfl ?_
  refine WP.args (WP.attr (WP.name (WP.loadL hL1 rfl ?_)))
  refine WP.getI B hC1 rfl (by kernel_rfl) rfl ?_
  refine WP.args0 (s_next_threshold B o' (by omega) fun H2 r tk2 e2 => WP.name (WP.loadL (e2 _ _ hL1) rfl ?_))
  exact r_thr B G (S1.ext e2) fun H3 S3 C3 => WP.nil (h H3 _ S3 ((e1.trans e2).cal.trans C3))

theorem s_is_kept (B : Bs (Mine.hk.heap_1 w.params) h₀) (o : Ok A d) (hd : d ≤ 700) (S : CSt prog w g cy c m gs ga wk lg la lw wh H) {i : Nat} (hi : i < g.n) (h : ∀ H', Ext H H' → Φ (.bool (c.q i)) H') : WP prog w h₀ A (call (.ref 210) [.ref cy, .ref (g.X i)]) H Φ := by
  refine WP.fn (binds := [("self", .ref cy), ("obj", .ref (g.X i))]) B o (by omega) (by k_is) (by k_is) (fun _ => .of_eq rfl) (locs rfl) (fun L A' H1 hL o' e1 hL1 => ?_)
  have S1 := S.ext e1
  obtain ⟨t, hC1⟩ := S1.cy_
  obtain ⟨t1, t2, t3, hX1⟩ := S1.ms.th i hi
  refine WP.cons (WP.ret (WP.cmp (WP.attr (WP.name (WP.loadL hL1 rfl ?_)))))
  refine WP.getI B hX1 rfl (by kernel_rfl) rfl ?_
  refine WP.attr (WP.name (WP.loadL hL1 rfl ?_))
  refine WP.getI B hC1 rfl (by kernel_rfl) rfl ?_
  refine WP.dIn (knd := intKind prog w) (k := (i : Int)) S1.ob_ (intKind_is _ _ _ _) ?_
  have := h H1 e1
  cases hq : c.q i with
  | true => rw [hq] at this; rw [valueAt_in (List.mem_filter.mpr ⟨List.mem_range.mpr hi, hq⟩)]; exact this
  | false =>
    rw [hq] at this
    rw [valueAt_out (fun z => by rw [(List.mem_filter.mp z).2] at hq; cases hq)]; exact this

theorem s_full (B : Bs (Mine.hk.heap_1 w.params) h₀) (G : g.Good) (Cs : Calls prog w h₀ g) {src : List Nat} (o : Ok A d) (hd : d ≤ 470) (S : CSt prog w g cy c m gs ga wk lg la lw 0 H) (hp : c.ph = 0) (hq : ∀ j, j < g.n → c.q j = true) (hm : ∀ j, j < g.n → m j = 0) (htot : c.tot = sumR g c.q) (hr : g.ro c.rl = some (refs g src)) (hsrc : ∀ i ∈ src, i < g.n)
    (h : ∀ H' c' m' gs' ga' wk' lg' la' lw' wh', CSt prog w g cy c' m' gs' ga' wk' lg' la' lw' wh' H' → Cal H H' → (∀ j, j < g.n → (c'.q j = true ↔ RT g.ch src j)) → c'.tot = sumR g c'.q → Φ .none H') : WP prog w h₀ A (call (.ref 308) [.ref cy, th]) H Φ := by
  refine WP.fn (binds := [("self", .ref cy), ("thread", th)]) B o (by omega) (by k_is) (by k_is) (fun _ => .of_eq rfl) (locs rfl) (fun L A' H1 hL o' e1 hL1 => ?_)
  have S1 := S.ext e1
  obtain ⟨t, hC1⟩ := S1.cy_
  obtain ⟨tm, hM1⟩ := S1.ms.mo
  refine WP.seq (fun H' => ∃ q lg' la' lw', CSt prog w g cy { c with ph := 2, ts := q, sw := live g c.q } m [] [] [] lg' la' lw' 0 H' ∧ Cal H H' ∧ H' L = some (.ns fun y => [(("self" : Str), Value.ref cy), ("thread", th)].reverse.lookup y)) ?_ ?_
  · refine WP.ifS (WP.tCmp (WP.attr (WP.name (WP.loadL hL1 rfl ?_))))
    refine WP.getI B hC1 rfl (by kernel_rfl) rfl ?_
    refine WP.name (WP.loadG B.X B.g (by k_is) (WP.le (WP.truthB ?_)))
    rw [hp]
    refine WP.cons (WP.expr (WP.callM (WP.attr (WP.name (WP.loadL hL1 rfl ?_)))))
    refine WP.getI B hC1 rfl (by kernel_rfl) rfl ?_
    refine WP.meth (f := 70) B hM1 (by kernel_rfl) rfl ?_
    refine WP.cwK0 B (by k_is) ?_
    refine s_forget (g := gx g H1 cy c.ob c.ts) B (S1.good G) o' (by omega) S1.mst fun H2 lg' la' lw' T2 C2 => ?_
    have S2 := S1.back T2
    have hL2 := C2.ns hL1
    refine WP.cons (r_sweep B G o'.hh S2 hL2 rfl (fun H3 q S3 C3 => ?_) rfl rfl rfl rfl rfl rfl rfl rfl)
    have hL3 := C3.ns hL2
    refine WP.cons (WP.asgAttr (WP.name (WP.loadG B.X B.g (by k_is) (WP.name (WP.loadL hL3 rfl ?_)))))
    exact r_phase B G S3 fun H4 S4 C4 => WP.nil ⟨rfl, q, lg', la', lw', S4, ((e1.cal.trans C2).trans C3).trans C4, C4.ns hL3⟩
  rintro H2 ⟨q, lg2, la2, lw2, S2, C2, hL2⟩
  clear S1 hC1 hM1
  refine WP.seq (fun H' => ∃ c' m' lg' la' lw', CSt prog w g cy c' m' [] [] [] lg' la' lw' 0 H' ∧ Cal H H' ∧ H' L = some (.ns fun y => [(("self" : Str), Value.ref cy), ("thread", th)].reverse.lookup y) ∧ c'.rl = c.rl ∧ (∀ j, j < g.n → c'.q j = true) ∧ (∀ j, j < g.n → m' j = 0) ∧ c'.tot = sumR g c'.q) ?_ ?_
  · refine WP.whileG (fun n H' => ∃ c' m' lg' la' lw', CSt prog w g cy c' m' [] [] [] lg' la' lw' 0 H' ∧ Cal H H' ∧ H' L = some (.ns fun y => [(("self" : Str), Value.ref cy), ("thread", th)].reverse.lookup y) ∧ c'.rl = c.rl ∧ (∀ j, j < g.n → c'.q j = true) ∧ (∀ j, j < g.n → m' j = 0) ∧ c'.tot = sumR g c'.q ∧ (c'.ph = 2 ∧ n = 1 ∧ c'.sw = live g c'.q ∨ c'.ph = 3 ∧ n = 0)) 1
      ⟨_, m, lg2, la2, lw2, S2, C2, hL2, rfl, hq, hm, htot, .inl ⟨rfl, rfl, rfl⟩⟩ ?_
    rintro n H3 ⟨c3, m3, lg3, la3, lw3, S3, C3, hL3, hrl, hq3, hm3, ht3, hph⟩
    obtain ⟨t3, hC3⟩ := S3.cy_
    refine WP.tCmp (WP.attr (WP.name (WP.loadL hL3 rfl ?_)))
    refine WP.getI B hC3 rfl (by kernel_rfl) rfl ?_
    refine WP.name (WP.loadG B.X B.g (by k_is) (WP.ne (WP.truthB ?_)))
    rcases hph with ⟨hph, rfl, hsw⟩ | ⟨hph, rfl⟩
    · rw [hph]
      refine WP.cons (WP.expr (WP.callM (WP.name (WP.loadL hL3 rfl ?_))))
      refine WP.meth (f := 273) B hC3 (by kernel_rfl) rfl ?_
      refine WP.cwK B (by k_is) (WP.args (WP.name (WP.loadL hL3 rfl ?_)))
      refine WP.args0 (s_step2 B G o' (by omega) S3 hph hsw ht3 fun H4 m4 q4 tot4 e4 r4 tk4 S4 C4 ht4 hq4 hm4 => ?_)
      have hdead : ∀ j, j < g.n → deadB m3 0 j = false := fun j hj => by
        unfold deadB; rw [hm3 j hj]; rfl
      refine WP.nil ⟨0, by omega, _, m4, lg3, la3, lw3, S4, C3.trans C4, C4.ns hL3, hrl, fun j hj => ?_, fun j hj => ?_, ht4, .inr ⟨rfl, rfl⟩⟩
      · show q4 j = true
        rw [hq4 j hj, hq3 j hj, hdead j hj]; rfl
      · rw [hm4 j hj (hq3 j hj), hdead j hj]; rfl
    · rw [hph]
      exact WP.nil ⟨rfl, c3, m3, lg3, la3, lw3, S3, C3, hL3, hrl, hq3, hm3, ht3⟩
  rintro H3 ⟨c3, m3, lg3, la3, lw3, S3, C3, hL3, hrl, hq3, hm3, ht3⟩
  clear S2 C2 hL2
  obtain ⟨t3, hC3⟩ := S3.cy_
  refine WP.cons (WP.expr (WP.callM (WP.name (WP.loadL hL3 rfl ?_))))
  refine WP.meth (f := 231) B hC3 (by kernel_rfl) rfl ?_
  refine WP.cwK0 B (by k_is) ?_
  refine s_mark_roots B G Cs (src := src) (w0 := 0) (by decide) o' (by omega) S3 (by rw [hrl]; exact hr) hsrc hm3 fun H4 m4 gs4 lg4 la4 lw4 S4 C4 I4 => ?_
  have hL4 := C4.ns hL3
  have C4 := C3.trans C4
  clear S3 C3 hL3 hC3
  refine WP.seq (fun H' => ∃ c' m' gs' ga' wk' lg' la' lw' wh', CSt prog w g cy c' m' gs' ga' wk' lg' la' lw' wh' H' ∧ Cal H H' ∧ H' L = some (.ns fun y => [(("self" : Str), Value.ref cy), ("thread", th)].reverse.lookup y) ∧ (∀ j, j < g.n → (c'.q j = true ↔ RT g.ch src j)) ∧ c'.tot = sumR g c'.q) ?_ ?_
  · refine WP.whileG (fun n H' => ∃ c' m' gs' ga' wk' lg' la' lw' wh', CSt prog w g cy c' m' gs' ga' wk' lg' la' lw' wh' H' ∧ Cal H H' ∧ H' L = some (.ns fun y => [(("self" : Str), Value.ref cy), ("thread", th)].reverse.lookup y) ∧ c'.tot = sumR g c'.q ∧
      (c'.ph = 1 ∧ n = 10 + (whites g.n m' + gs'.length) ∧ c'.rl = c.rl ∧ (∀ j, j < g.n → c'.q j = true) ∧ MI g src 0 m' gs' ga' wk' ∧ wh' = 0 ∨
       c'.ph = 2 ∧ n = 2 ∧ (∀ j, j < g.n → c'.q j = true) ∧ MI g src 0 m' [] ga' wk' ∧ wh' = 1 ∧ c'.sw = live g c'.q ∨
       c'.ph = 3 ∧ n = 1 ∧ (∀ j, j < g.n → (c'.q j = true ↔ RT g.ch src j)) ∨
       c'.ph = 0 ∧ n = 0 ∧ (∀ j, j < g.n → (c'.q j = true ↔ RT g.ch src j)))) _
      ⟨_, m4, gs4, [], [], lg4, la4, lw4, 0, S4, C4, hL4, ht3, .inl ⟨rfl, rfl, hrl, hq3, I4, rfl⟩⟩ ?_
    rintro n H5 ⟨c5, m5, gs5, ga5, wk5, lg5, la5, lw5, wh5, S5, C5, hL5, ht5, hph⟩
    obtain ⟨t5, hC5⟩ := S5.cy_
    refine WP.tCmp (WP.attr (WP.name (WP.loadL hL5 rfl ?_)))
    refine WP.getI B hC5 rfl (by kernel_rfl) rfl ?_
    refine WP.name (WP.loadG B.X B.g (by k_is) (WP.ne (WP.truthB ?_)))
    rcases hph with ⟨hph, rfl, hrl5, hq5, I5, rfl⟩ | ⟨hph, rfl, hq5, I5, rfl, hsw5⟩ | ⟨hph, rfl, hq5⟩ | ⟨hph, rfl, hq5⟩
    · rw [hph]
      refine WP.cons (WP.expr (WP.callM (WP.name (WP.loadL hL5 rfl ?_))))
      refine WP.meth (f := 273) B hC5 (by kernel_rfl) rfl ?_
      refine WP.cwK B (by k_is) (WP.args (WP.name (WP.loadL hL5 rfl ?_)))
      refine WP.args0 (s_step1 B G Cs (by decide) o' (by omega) S5 hph I5 (by rw [hrl5]; exact hr) hsrc (fun H6 m6 gs6 ga6 wk6 r6 tk6 S6 C6 I6 lt6 => ?_) (fun H6 m6 ga6 wk6 lg6 la6 lw6 q6 e6 tk6 S6 C6 I6 => ?_))
      · exact WP.nil ⟨10 + (whites g.n m6 + gs6.length), by omega, c5, m6, gs6, ga6, wk6, _, _, _, 0, S6, C5.trans C6, C6.ns hL5, ht5, .inl ⟨hph, rfl, hrl5, hq5, I6, rfl⟩⟩
      · exact WP.nil ⟨2, by omega, _, m6, [], ga6, wk6, _, _, _, _, S6, C5.trans C6, C6.ns hL5, ht5, .inr (.inl ⟨rfl, rfl, hq5, I6, rfl, rfl⟩)⟩
    · rw [hph]
      refine WP.cons (WP.expr (WP.callM (WP.name (WP.loadL hL5 rfl ?_))))
      refine WP.meth (f := 273) B hC5 (by kernel_rfl) rfl ?_
      refine WP.cwK B (by k_is) (WP.args (WP.name (WP.loadL hL5 rfl ?_)))
      refine WP.args0 (s_step2 B G o' (by omega) S5 hph hsw5 ht5 fun H6 m6 q6 tot6 e6 r6 tk6 S6 C6 ht6 hq6 hm6 => ?_)
      refine WP.nil ⟨1, by omega, _, m6, gs5, ga5, wk5, _, _, _, 1, S6, C5.trans C6, C6.ns hL5, ht6, .inr (.inr (.inl ⟨rfl, rfl, fun j hj => ?_⟩))⟩
      show q6 j = true ↔ _
      rw [hq6 j hj, hq5 j hj, ← I5.done G hsrc j]
      rcases I5.val j hj with e | e | e <;> · unfold deadB; rw [e]; simp [hj]
    · rw [hph]
      refine WP.cons (WP.expr (WP.callM (WP.name (WP.loadL hL5 rfl ?_))))
      refine WP.meth (f := 273) B hC5 (by kernel_rfl) rfl ?_
      refine WP.cwK B (by k_is) (WP.args (WP.name (WP.loadL hL5 rfl ?_)))
      refine WP.args0 (s_step3 B G o' (by omega) S5 hph fun H6 b6 k6 tk6 S6 C6 => ?_)
      exact WP.nil ⟨0, by omega, _, m5, gs5, ga5, wk5, _, _, _, wh5, S6, C5.trans C6, C6.ns hL5, ht5, .inr (.inr (.inr ⟨rfl, rfl, hq5⟩))⟩
    · rw [hph]
      exact WP.nil ⟨rfl, c5, m5, gs5, ga5, wk5, _, _, _, wh5, S5, C5, hL5, hq5, ht5⟩
  rintro H5 ⟨c5, m5, gs5, ga5, wk5, lg5, la5, lw5, wh5, S5, C5, hL5, hq5, ht5⟩
  obtain ⟨t5, hC5⟩ := S5.cy_
  refine WP.cons (WP.expr (WP.callM (WP.name (WP.loadL hL5 rfl ?_))))
  refine WP.meth (f := 280) B hC5 (by kernel_rfl) rfl ?_
  refine WP.cwK0 B (by k_is) ?_
  exact s_set_threshold B G o' (by omega) S5 fun H6 v S6 C6 => WP.nil (h H6 _ m5 gs5 ga5 wk5 _ _ _ wh5 S6 (C5.trans C6) hq5 ht5)
end
end Mine
end
section
open PySem PySem.W PyProof.Rows PySem.Calls
namespace Mine
theorem fill13 : (PySem.Challenge.rw_xm0623_01, Mine.hk.heap_1) = (PySem.Challenge.rw_xm0623_01, Mine.hk.heap_1) := by
  k_fill
  rfl
section
variable {prog : Program} {w : World} {h₀ : Heap} {A : Around} {d : Nat} {H H' : HM} {Φ : Value → HM → Prop}

theorem r_set {K : Frag} {C a : Addr} {kv : List (Str × Value)} {n : Str} {v : Value} {Φ : Unit → HM → Prop} (B : Bs K h₀) (ha : H a = some (.inst C kv)) (hg : okSet K C n = true) (hz : kv.length ≤ 900) (h : ∀ H', H' a = some (.inst C (kvPut n v kv)) → But [a] H H' → Φ () H') : WP prog w h₀ A (setAttr (.ref a) n v) H Φ :=
  WP.setI B ha hg hz (h _ upd_self (But.upd (by simp)))

theorem s_hobj (B : Bs (Mine.hk.heap_1 w.params) h₀) (o : Ok A d) (hd : d ≤ 700) {a b : Int} {t u : Tok} (h : ∀ H' x t1 t2 t3, Ext H H' → H x = none → H' x = some (.inst 367 [("number", .int a t1), ("mark", .int 0 t2), ("size", .int b t3)]) → Φ (.ref x) H') : WP prog w h₀ A (call (.ref 367) [.int a t, .int b u]) H Φ := by
  refine WP.cls (fI := 364) B (by kernel_rfl) (by kernel_rfl) (by kernel_rfl) fun x A' hx ho => ?_
  refine WC.mono (WC.fnK (Φ := fun v H' => v = .none ∧ Φ (.ref x) H') (binds := [("self", .ref x), ("number", .int a t), ("size", .int b u)]) B (ho _ o) (by omega) (by k_is) (by k_is) (fun _ => .of_eq rfl) (locs rfl) (fun L A' H1 hL o' e1 hL1 => ?_)) fun fl H' ⟨v, e, e2, p⟩ => ⟨by rw [e, e2], p⟩
  have hx1 := e1 _ _ upd_self
  have hxL : x ≠ L := fun z => by rw [z, upd_self] at hL; cases hL
  have e0 : Ext H H1 := fun a y ha => e1 _ _ (upd_old ha hx)
  refine WP.cons (WP.asgAttr (WP.name (WP.loadL hL1 rfl (WP.name (WP.loadL hL1 rfl ?_)))))
  refine r_set B hx1 (by kernel_rfl) (Nat.le_of_ble_eq_true rfl) fun H2 hx2 b2 => ?_
  have hL2 := b2 _ _ hL1 (by simpa using Ne.symm hxL)
  refine WP.cons (WP.asgAttr (WP.cInt fun tk => WP.name (WP.loadL hL2 rfl ?_)))
  refine r_set B hx2 (by kernel_rfl) (Nat.le_of_ble_eq_true rfl) fun H3 hx3 b3 => ?_
  have hL3 := b3 _ _ hL2 (by simpa using Ne.symm hxL)
  refine WP.cons (WP.asgAttr (WP.name (WP.loadL hL3 rfl (WP.name (WP.loadL hL3 rfl ?_)))))
  refine r_set B hx3 (by kernel_rfl) (Nat.le_of_ble_eq_true rfl) fun H4 hx4 b4 => ?_
  refine WP.nil ⟨rfl, h H4 x t tk u (fun a y ha => ?_) hx hx4⟩
  have na : a ∉ [x] := by simp; exact fun z => by rw [z, hx] at ha; cases ha
  exact b4 _ _ (b3 _ _ (b2 _ _ (e0 _ _ ha) na) na) na

theorem c_minit (B : Bs (Mine.hk.heap_1 w.params) h₀) (o : Ok A d) (hd : d ≤ 700) {mo : Addr} {fc fs : Value} (hm : H mo = some (.inst 136 []))
    (h : ∀ H' t lg la lw, But [mo] H H' → H' mo = some (.inst 136 [("children", fc), ("sort_of", fs), ("white", .int 0 t), ("grey", .ref lg), ("grey_again", .ref la), ("weak", .ref lw)]) → H' lg = some (.list []) → H' la = some (.list []) → H' lw = some (.list []) → H lg = none → H la = none → H lw = none → lg ≠ la → lg ≠ lw → la ≠ lw → Φ .none H') :
    WC prog w h₀ A (.call (.ref 42) ⟨[.ref mo, fc, fs], []⟩) H fun fl H' => ∃ v, fl = .ret v ∧ Φ v H' := by
  refine WC.fnK (binds := [("self", .ref mo), ("children", fc), ("sort_of", fs)]) B o (by omega) (by k_is) (by k_is) (fun _ => .of_eq rfl) (locs rfl) (fun L A' H1 hL o' e1 hL1 => ?_)
  have hm1 := e1 _ _ hm
  have hxL : mo ≠ L := fun z => by rw [z, hL] at hm; cases hm
  have nL : ∀ a y, H a = some y → a ≠ mo → a ∉ [mo] := fun a y _ z => by simpa using z
  refine WP.cons (WP.asgAttr (WP.name (WP.loadL hL1 rfl (WP.name (WP.loadL hL1 rfl ?_)))))
  refine r_set B hm1 (by kernel_rfl) (Nat.le_of_ble_eq_true rfl) fun H2 hm2 b2 => ?_
  have hL2 := b2 _ _ hL1 (by simpa using Ne.symm hxL)
  refine WP.cons (WP.asgAttr (WP.name (WP.loadL hL2 rfl (WP.name (WP.loadL hL2 rfl ?_)))))
  refine r_set B hm2 (by kernel_rfl) (Nat.le_of_ble_eq_true rfl) fun H3 hm3 b3 => ?_
  have hL3 := b3 _ _ hL2 (by simpa using Ne.symm hxL)
  refine WP.cons (WP.asgAttr (WP.name (WP.loadG B.X B.g (by k_is) (WP.name (WP.loadL hL3 rfl ?_)))))
  refine r_set B hm3 (by kernel_rfl) (Nat.le_of_ble_eq_true rfl) fun H4 hm4 b4 => ?_
  have hL4 := b4 _ _ hL3 (by simpa using Ne.symm hxL)
  refine WP.cons (WP.asgAttr (WP.eList (WP.args0 (WP.newList fun q1 n1 => WP.name (WP.loadL (upd_old hL4 n1) rfl ?_)))))
  refine r_set B (upd_old hm4 n1) (by kernel_rfl) (Nat.le_of_ble_eq_true rfl) fun H5 hm5 b5 => ?_
  have m1 : q1 ≠ mo := fun z => by rw [z, hm4] at n1; cases n1
  have hL5 := b5 _ _ (upd_old hL4 n1) (by simpa using Ne.symm hxL)
  have k5 := b5 _ _ upd_self (by simpa using m1)
  refine WP.cons (WP.asgAttr (WP.eList (WP.args0 (WP.newList fun q2 n2 => WP.name (WP.loadL (upd_old hL5 n2) rfl ?_)))))
  refine r_set B (upd_old hm5 n2) (by kernel_rfl) (Nat.le_of_ble_eq_true rfl) fun H6 hm6 b6 => ?_
  have m2 : q2 ≠ mo := fun z => by rw [z, hm5] at n2; cases n2
  have hL6 := b6 _ _ (upd_old hL5 n2) (by simpa using Ne.symm hxL)
  have k6 := b6 _ _ (upd_old k5 n2) (by simpa using m1)
  have k6' := b6 _ _ upd_self (by simpa using m2)
  have d12 : q1 ≠ q2 := fun z => by rw [z, n2] at k5; cases k5
  refine WP.cons (WP.asgAttr (WP.eList (WP.args0 (WP.newList fun q3 n3 => WP.name (WP.loadL (upd_old hL6 n3) rfl ?_)))))
  refine r_set B (upd_old hm6 n3) (by kernel_rfl) (Nat.le_of_ble_eq_true rfl) fun H7 hm7 b7 => ?_
  have m3 : q3 ≠ mo := fun z => by rw [z, hm6] at n3; cases n3
  have d13 : q1 ≠ q3 := fun z => by rw [z, n3] at k6; cases k6
  have d23 : q2 ≠ q3 := fun z => by rw [z, n3] at k6'; cases k6'
  have keep4 : But [mo] H H4 := (((Ext.but e1).trans b2).trans b3).trans b4
  have keep5 : But [mo] H H5 := (keep4.trans (But.refl.new n1)).trans b5
  have keep6 : But [mo] H H6 := (keep5.trans (But.refl.new n2)).trans b6
  have keep7 : But [mo] H H7 := (keep6.trans (But.refl.new n3)).trans b7
  have un : ∀ {Hx : HM} (q : Addr), But [mo] H Hx → Hx q = none → q ≠ mo → H q = none := fun {Hx} q bb hq hqm => by
    cases z : H q with
    | none => rfl
    | some y => have := bb q y z (by simpa using hqm); rw [hq] at this; cases this
  exact WP.nil (h H7 _ q1 q2 q3 keep7 hm7 (b7 _ _ (upd_old k6 n3) (by simpa using m1)) (b7 _ _ (upd_old k6' n3) (by simpa using m2)) (b7 _ _ upd_self (by simpa using m3)) (un q1 keep4 n1 m1) (un q2 keep5 n2 m2) (un q3 keep6 n3 m3) d12 d13 d23)
end
end Mine
end
section
open PySem PySem.W PyProof.Rows PySem.Calls
namespace Mine
theorem fill14 : (PySem.Challenge.rw_xm0623_01, Mine.hk.heap_1) = (PySem.Challenge.rw_xm0623_01, Mine.hk.heap_1) := by
  k_fill
  rfl
abbrev cycV (ob mo rl ts : Addr) (ph tot est deb thr cyl : Int) (t : Nat → Tok) : AObj := .inst 346 [("objects", .ref ob), ("marks", .ref mo), ("root_list", .ref rl), ("phase", .int ph (t 0)), ("to_sweep", .ref ts), ("total", .int tot (t 1)), ("estimate", .int est (t 2)), ("debt", .int deb (t 3)), ("step_size", .int 64 (t 4)),
  ("sweep_max", .int 16 (t 5)), ("threshold", .int thr (t 6)), ("pause", .int 200 (t 7)), ("step_mul", .int 200 (t 8)), ("cycles", .int cyl (t 9))]
def tk10 (a b c d e f g h i j : Tok) : Nat → Tok
  | 0 => a
  | 1 => b
  | 2 => c
  | 3 => d
  | 4 => e
  | 5 => f
  | 6 => g
  | 7 => h
  | 8 => i
  | _ => j
section
variable {prog : Program} {w : World} {h₀ : Heap} {A : Around} {d : Nat} {H H' : HM} {Φ : Value → HM → Prop}

theorem s_cycle (B : Bs (Mine.hk.heap_1 w.params) h₀) (o : Ok A d) (hd : d ≤ 600) {fc fs : Addr}
    (h : ∀ H' cy mo ob rl ts lg la lw t tm, Ext H H' → H' cy = some (cycV ob mo rl ts 0 0 0 0 256 0 t) → H' mo = some (.inst 136 [("children", .ref fc), ("sort_of", .ref fs), ("white", .int 0 tm), ("grey", .ref lg), ("grey_again", .ref la), ("weak", .ref lw)]) →
      DictAt (intKind prog w) H' ob [] → H' rl = some (.list []) → H' ts = some (.list []) → H' lg = some (.list []) → H' la = some (.list []) → H' lw = some (.list []) →
      (∀ a ∈ [cy, mo, ob, rl, ts, lg, la, lw], H a = none) → rl ≠ ts → rl ≠ lg → rl ≠ la → rl ≠ lw → ts ≠ lg → ts ≠ la → ts ≠ lw → lg ≠ la → lg ≠ lw → la ≠ lw → Φ (.ref cy) H') : WP prog w h₀ A (call (.ref 346) [.ref fc, .ref fs]) H Φ := by
  refine WP.cls (fI := 182) B (by kernel_rfl) (by kernel_rfl) (by kernel_rfl) fun x A' hx ho => ?_
  refine WC.mono (WC.fnK (Φ := fun v H' => v = .none ∧ Φ (.ref x) H') (binds := [("self", .ref x), ("children", .ref fc), ("sort_of", .ref fs)]) B (ho _ o) (by omega) (by k_is) (by k_is) (fun _ => .of_eq rfl) (locs rfl) (fun L A' H1 hL o' e1 hL1 => ?_)) fun fl H' ⟨v, e, e2, p⟩ => ⟨by rw [e, e2], p⟩
  have hx1 := e1 _ _ upd_self
  have hxL : x ≠ L := fun z => by rw [z, upd_self] at hL; cases hL
  have e0 : Ext H H1 := fun a y ha => e1 _ _ (upd_old ha hx)
  have b1 : But [x] H H1 := Ext.but e0
  have un : ∀ {Hx : HM} (q : Addr), But [x] H Hx → Hx q = none → q ≠ x → H q = none := fun {Hx} q bb hq hqm => by
    cases z : H q with
    | none => rfl
    | some y => have := bb q y z (by simpa using hqm); rw [hq] at this; cases this
  have hLx : L ∉ [x] := by simpa using Ne.symm hxL
  -- self.objects = {}
  refine WP.cons (WP.asgAttr (WP.newDict B.lim fun ob nob hob => WP.name (WP.loadL (upd_old hL1 nob) rfl ?_)))
  refine r_set B (upd_old hx1 nob) (by kernel_rfl) (Nat.le_of_ble_eq_true rfl) fun H2 hx2 b2 => ?_
  have xob : ob ≠ x := fun z => by rw [z, hx1] at nob; cases nob
  have hL2 := b2 _ _ (upd_old hL1 nob) hLx
  have b2' := (b1.trans (But.refl.new nob)).trans b2
  have fob := un ob b1 nob xob
  have kob : DictAt (intKind prog w) H2 ob [] := (hob _).ext fun y hy => b2 _ _ hy (by simpa using xob)
  -- self.marks = Marks(children, sort_of)
  refine WP.cons (WP.asgAttr (WP.callN (WP.name (WP.loadG B.X B.g (by k_is) ?_))))
  refine WP.cwK B (by k_is) (WP.args (WP.name (WP.loadL hL2 rfl ?_)))
  refine WP.args (WP.name (WP.loadL hL2 rfl (WP.args0 ?_)))
  refine WP.cls (fI := 42) B (by kernel_rfl) (by kernel_rfl) (by kernel_rfl) fun mo A3 hmo ho3 => ?_
  refine WC.mono (c_minit (Φ := fun v H' => v = .none ∧ WP prog w h₀ A' _ H' _) B (ho3 _ o') (by omega) upd_self fun H3 tm lg la lw b3 hmo3 hlg hla hlw flg fla flw d12 d13 d23 => ⟨rfl, ?_⟩) fun fl H' ⟨v, e, e2, p⟩ => ⟨by rw [e, e2], p⟩
  have mx : mo ≠ x := fun z => by rw [z, hx2] at hmo; cases hmo
  have k3 : ∀ a y, H2 a = some y → H3 a = some y := fun a y ha => b3 _ _ (upd_old ha hmo) (by simp; exact fun z => by rw [z, hmo] at ha; cases ha)
  have hL3 := k3 _ _ hL2
  have hx3 := k3 _ _ hx2
  have fr3 : ∀ q, upd H2 mo (.inst 136 []) q = none → H2 q = none := fun q hq => by
    cases z : H2 q with
    | none => rfl
    | some y => rw [upd_old z hmo] at hq; cases hq
  have xg : lg ≠ x := fun z => by have := fr3 _ flg; rw [z, hx2] at this; cases this
  have xa : la ≠ x := fun z => by have := fr3 _ fla; rw [z, hx2] at this; cases this
  have xw : lw ≠ x := fun z => by have := fr3 _ flw; rw [z, hx2] at this; cases this
  have f1 := un lg b2' (fr3 _ flg) xg
  have f2 := un la b2' (fr3 _ fla) xa
  have f3 := un lw b2' (fr3 _ flw) xw
  have f4 := un mo b2' hmo mx
  have b3' : But [x] H H3 := b2'.trans (Ext.but k3)
  have kob3 := kob.ext fun y hy => k3 _ _ hy
  refine WP.name (WP.loadL hL3 rfl ?_)
  refine r_set B hx3 (by kernel_rfl) (Nat.le_of_ble_eq_true rfl) fun H4 hx4 b4 => ?_
  have hL4 := b4 _ _ hL3 hLx
  have b4' := b3'.trans b4
  have kob4 := kob3.ext fun y hy => b4 _ _ hy (by simpa using xob)
  have hmo4 := b4 _ _ hmo3 (by simpa using mx)
  have hlg4 := b4 _ _ hlg (by simpa using xg)
  have hla4 := b4 _ _ hla (by simpa using xa)
  have hlw4 := b4 _ _ hlw (by simpa using xw)
  clear hmo3 hlg hla hlw kob3 kob b3 k3 hx3 hL3 fr3 flg fla flw
  -- self.root_list = []
  refine WP.cons (WP.asgAttr (WP.eList (WP.args0 (WP.newList fun rl nrl => WP.name (WP.loadL (upd_old hL4 nrl) rfl ?_)))))
  refine r_set B (upd_old hx4 nrl) (by kernel_rfl) (Nat.le_of_ble_eq_true rfl) fun H5 hx5 b5 => ?_
  have xr : rl ≠ x := fun z => by rw [z, hx4] at nrl; cases nrl
  have hL5 := b5 _ _ (upd_old hL4 nrl) hLx
  have b5' := (b4'.trans (But.refl.new nrl)).trans b5
  have f5 := un rl b4' nrl xr
  have kob5 := kob4.ext fun y hy => b5 _ _ (upd_old hy nrl) (by simpa using xob)
  have hmo5 := b5 _ _ (upd_old hmo4 nrl) (by simpa using mx)
  have hlg5 := b5 _ _ (upd_old hlg4 nrl) (by simpa using xg)
  have hla5 := b5 _ _ (upd_old hla4 nrl) (by simpa using xa)
  have hlw5 := b5 _ _ (upd_old hlw4 nrl) (by simpa using xw)
  have hrl5 := b5 _ _ upd_self (by simpa using xr)
  have r1 : rl ≠ lg := fun z => by rw [z, hlg4] at nrl; cases nrl
  have r2 : rl ≠ la := fun z => by rw [z, hla4] at nrl; cases nrl
  have r3 : rl ≠ lw := fun z => by rw [z, hlw4] at nrl; cases nrl
  clear hmo4 hlg4 hla4 hlw4 kob4 b4 b5
  -- self.phase = PAUSE
  refine WP.cons (WP.asgAttr (WP.name (WP.loadG B.X B.g (by k_is) (WP.name (WP.loadL hL5 rfl ?_)))))
  refine r_set B hx5 (by kernel_rfl) (Nat.le_of_ble_eq_true rfl) fun H6 hx6 b6 => ?_
  have hL6 := b6 _ _ hL5 hLx
  have b6' := b5'.trans b6
  have kob6 := kob5.ext fun y hy => b6 _ _ hy (by simpa using xob)
  have hmo6 := b6 _ _ hmo5 (by simpa using mx)
  have hlg6 := b6 _ _ hlg5 (by simpa using xg)
  have hla6 := b6 _ _ hla5 (by simpa using xa)
  have hlw6 := b6 _ _ hlw5 (by simpa using xw)
  have hrl6 := b6 _ _ hrl5 (by simpa using xr)
  clear hmo5 hlg5 hla5 hlw5 kob5 hrl5 b6
  -- self.to_sweep = []
  refine WP.cons (WP.asgAttr (WP.eList (WP.args0 (WP.newList fun ts nts => WP.name (WP.loadL (upd_old hL6 nts) rfl ?_)))))
  refine r_set B (upd_old hx6 nts) (by kernel_rfl) (Nat.le_of_ble_eq_true rfl) fun H7 hx7 b7 => ?_
  have xt : ts ≠ x := fun z => by rw [z, hx6] at nts; cases nts
  have hL7 := b7 _ _ (upd_old hL6 nts) hLx
  have b7' := (b6'.trans (But.refl.new nts)).trans b7
  have f6 := un ts b6' nts xt
  have kob7 := kob6.ext fun y hy => b7 _ _ (upd_old hy nts) (by simpa using xob)
  have hmo7 := b7 _ _ (upd_old hmo6 nts) (by simpa using mx)
  have hlg7 := b7 _ _ (upd_old hlg6 nts) (by simpa using xg)
  have hla7 := b7 _ _ (upd_old hla6 nts) (by simpa using xa)
  have hlw7 := b7 _ _ (upd_old hlw6 nts) (by simpa using xw)
  have hrl7 := b7 _ _ (upd_old hrl6 nts) (by simpa using xr)
  have hts7 := b7 _ _ upd_self (by simpa using xt)
  have t1 : ts ≠ lg := fun z => by rw [z, hlg6] at nts; cases nts
  have t2 : ts ≠ la := fun z => by rw [z, hla6] at nts; cases nts
  have t3 : ts ≠ lw := fun z => by rw [z, hlw6] at nts; cases nts
  have t4 : rl ≠ ts := fun z => by rw [← z, hrl6] at nts; cases nts
  clear hmo6 hlg6 hla6 hlw6 kob6 hrl6 b7
  -- the plain fields
  refine WP.cons (WP.asgAttr (WP.cInt fun k1 => WP.name (WP.loadL hL7 rfl ?_)))
  refine r_set B hx7 (by kernel_rfl) (Nat.le_of_ble_eq_true rfl) fun H8 hx8 b8 => ?_
  have hL8 := b8 _ _ hL7 hLx
  refine WP.cons (WP.asgAttr (WP.cInt fun k2 => WP.name (WP.loadL hL8 rfl ?_)))
  refine r_set B hx8 (by kernel_rfl) (Nat.le_of_ble_eq_true rfl) fun H9 hx9 b9 => ?_
  have hL9 := b9 _ _ hL8 hLx
  refine WP.cons (WP.asgAttr (WP.cInt fun k3 => WP.name (WP.loadL hL9 rfl ?_)))
  refine r_set B hx9 (by kernel_rfl) (Nat.le_of_ble_eq_true rfl) fun H10 hx10 b10 => ?_
  have hL10 := b10 _ _ hL9 hLx
  refine WP.cons (WP.asgAttr (WP.name (WP.loadG B.X B.g (by k_is) (WP.name (WP.loadL hL10 rfl ?_)))))
  refine r_set B hx10 (by kernel_rfl) (Nat.le_of_ble_eq_true rfl) fun H11 hx11 b11 => ?_
  have hL11 := b11 _ _ hL10 hLx
  refine WP.cons (WP.asgAttr (WP.name (WP.loadG B.X B.g (by k_is) (WP.name (WP.loadL hL11 rfl ?_)))))
  refine r_set B hx11 (by kernel_rfl) (Nat.le_of_ble_eq_true rfl) fun H12 hx12 b12 => ?_
  have hL12 := b12 _ _ hL11 hLx
  refine WP.cons (WP.asgAttr (WP.binop (WP.cInt fun k4 => WP.name (WP.loadG B.X B.g (by k_is) (WP.mul (IntMulOk.of_right (by decide)) fun k5 => WP.name (WP.loadL hL12 rfl ?_))))))
  refine r_set B hx12 (by kernel_rfl) (Nat.le_of_ble_eq_true rfl) fun H13 hx13 b13 => ?_
  have hL13 := b13 _ _ hL12 hLx
  refine WP.cons (WP.asgAttr (WP.name (WP.loadG B.X B.g (by k_is) (WP.name (WP.loadL hL13 rfl ?_)))))
  refine r_set B hx13 (by kernel_rfl) (Nat.le_of_ble_eq_true rfl) fun H14 hx14 b14 => ?_
  have hL14 := b14 _ _ hL13 hLx
  refine WP.cons (WP.asgAttr (WP.name (WP.loadG B.X B.g (by k_is) (WP.name (WP.loadL hL14 rfl ?_)))))
  refine r_set B hx14 (by kernel_rfl) (Nat.le_of_ble_eq_true rfl) fun H15 hx15 b15 => ?_
  have hL15 := b15 _ _ hL14 hLx
  refine WP.cons (WP.asgAttr (WP.cInt fun k6 => WP.name (WP.loadL hL15 rfl ?_)))
  refine r_set B hx15 (by kernel_rfl) (Nat.le_of_ble_eq_true rfl) fun H16 hx16 b16 => ?_
  have bb : But [x] H7 H16 := ((((((((b8.trans b9).trans b10).trans b11).trans b12).trans b13).trans b14).trans b15).trans b16)
  have nx : ∀ a, a ≠ x → a ∉ [x] := fun a ha => by simpa using ha
  refine WP.nil ⟨rfl, h H16 x mo ob rl ts lg la lw (tk10 _ k1 k2 k3 _ _ k5 _ _ k6) tm (fun a y ha => ?_) hx16 (bb _ _ hmo7 (nx _ mx)) (kob7.ext fun y hy => bb _ _ hy (nx _ xob)) (bb _ _ hrl7 (nx _ xr)) (bb _ _ hts7 (nx _ xt)) (bb _ _ hlg7 (nx _ xg)) (bb _ _ hla7 (nx _ xa)) (bb _ _ hlw7 (nx _ xw)) ?_ t4 r1 r2 r3 t1 t2 t3 d12 d13 d23⟩
  · exact (b7'.trans bb) _ _ ha (nx _ fun z => by rw [z, hx] at ha; cases ha)
  · intro a ha
    simp only [List.mem_cons, List.not_mem_nil, or_false] at ha
    rcases ha with rfl | rfl | rfl | rfl | rfl | rfl | rfl | rfl
    · exact hx
    · exact f4
    · exact fob
    · exact f5
    · exact f6
    · exact f1
    · exact f2
    · exact f3
end
end Mine
end
section
open PySem PySem.W PyProof.Rows PySem.Calls
namespace Mine
theorem fill15 : (PySem.Challenge.rw_xm0623_01, Mine.hk.heap_1) = (PySem.Challenge.rw_xm0623_01, Mine.hk.heap_1) := by
  k_fill
  rfl
section
variable {prog : Program} {w : World} {h₀ : Heap} {A : Around} {d : Nat} {H H' : HM} {Φ : Value → HM → Prop}

theorem s_take_in (B : Bs (Mine.hk.heap_1 w.params) h₀) (o : Ok A d) (hd : d ≤ 600) {cy mo ob rl ts lg la lw x : Addr} {fc fs : Value} {tm : Tok} {ph tot est deb thr cyl : Int} {t : Nat → Tok} {a b r : Int} {mk : Int} {t1 t2 t3 ta tr : Tok} {kvs : List (Int × Value)} {i : Int}
    (hcy : H cy = some (cycV ob mo rl ts ph tot est deb thr cyl t)) (hmo : H mo = some (.inst 136 [("children", fc), ("sort_of", fs), ("white", .int 0 tm), ("grey", .ref lg), ("grey_again", .ref la), ("weak", .ref lw)])) (hob : DictAt (intKind prog w) H ob kvs) (hz : kvs.length ≤ 1000)
    (hx : H x = some (.inst 367 [("number", .int a t1), ("mark", .int mk t2), ("size", .int b t3)]))
    (h : ∀ H' t' t1 t2 t3, But [x, ob, cy] H H' → H' cy = some (cycV ob mo rl ts ph (tot + r) est deb thr cyl t') → DictAt (intKind prog w) H' ob (stored kvs i (.ref x)) → H' x = some (.inst 367 [("number", .int i t1), ("mark", .int 0 t2), ("size", .int r t3)]) → Φ .none H') :
    WP prog w h₀ A (call (.ref 189) [.ref cy, .ref x, .int i ta, .int r tr]) H Φ := by
  refine WP.fn (binds := [("self", .ref cy), ("obj", .ref x), ("number", .int i ta), ("size", .int r tr)]) B o (by omega) (by k_is) (by k_is) (fun _ => .of_eq rfl) (locs rfl) (fun L A' H1 hL o' e1 hL1 => ?_)
  obtain ⟨lo, es, hobd, _⟩ := id hob
  have xcy : x ≠ cy := ne_of hx hcy (by simp)
  have xmo : x ≠ mo := ne_of hx hmo (by simp)
  have xob : x ≠ ob := ne_of hx hobd (by simp)
  have cyob : cy ≠ ob := ne_of hcy hobd (by simp)
  have cymo : cy ≠ mo := ne_of hcy hmo (by simp)
  have xL : x ≠ L := fun z => by rw [z, hL] at hx; cases hx
  have cyL : cy ≠ L := fun z => by rw [z, hL] at hcy; cases hcy
  have obL : ob ≠ L := fun z => by rw [z, hL] at hobd; cases hobd
  have moL : mo ≠ L := fun z => by rw [z, hL] at hmo; cases hmo
  have n1 : ∀ a, a ≠ x → a ∉ [x] := fun a ha => by simpa using ha
  have n2 : ∀ a, a ≠ cy → a ∉ [cy] := fun a ha => by simpa using ha
  refine WP.cons (WP.asgAttr (WP.name (WP.loadL hL1 rfl (WP.name (WP.loadL hL1 rfl ?_)))))
  refine r_set B (e1 _ _ hx) (by kernel_rfl) (Nat.le_of_ble_eq_true rfl) fun H2 hx2 b2 => ?_
  have hL2 := b2 _ _ hL1 (n1 _ (Ne.symm xL))
  have hcy2 := b2 _ _ (e1 _ _ hcy) (n1 _ (Ne.symm xcy))
  have hmo2 := b2 _ _ (e1 _ _ hmo) (n1 _ (Ne.symm xmo))
  refine WP.cons (WP.asgAttr (WP.attr (WP.attr (WP.name (WP.loadL hL2 rfl ?_)))))
  refine WP.getI B hcy2 rfl (by kernel_rfl) rfl ?_
  refine WP.getI B hmo2 rfl (by kernel_rfl) rfl ?_
  refine WP.name (WP.loadL hL2 rfl ?_)
  refine r_set B hx2 (by kernel_rfl) (Nat.le_of_ble_eq_true rfl) fun H3 hx3 b3 => ?_
  have hL3 := b3 _ _ hL2 (n1 _ (Ne.symm xL))
  refine WP.cons (WP.asgAttr (WP.name (WP.loadL hL3 rfl (WP.name (WP.loadL hL3 rfl ?_)))))
  refine r_set B hx3 (by kernel_rfl) (Nat.le_of_ble_eq_true rfl) fun H4 hx4 b4 => ?_
  have bb : But [x] H H4 := (((Ext.but e1).trans b2).trans b3).trans b4
  have hL4 := b4 _ _ hL3 (n1 _ (Ne.symm xL))
  have hcy4 := bb _ _ hcy (n1 _ (Ne.symm xcy))
  have hob4 := hob.ext fun y hy => bb _ _ hy (n1 _ (Ne.symm xob))
  refine WP.cons (WP.asgSub (WP.name (WP.loadL hL4 rfl (WP.attr (WP.name (WP.loadL hL4 rfl ?_))))))
  refine WP.getI B hcy4 rfl (by kernel_rfl) rfl ?_
  refine WP.name (WP.loadL hL4 rfl (WP.dSet (knd := intKind prog w) (k := i) hob4 (intKind_is _ _ _ _) hz fun es5 hob5 => ?_))
  have b5 : But [ob] H4 (upd H4 ob (.dict es5)) := But.upd (by simp)
  generalize upd H4 ob (.dict es5) = H5 at b5 hob5 ⊢
  have hL5 := b5 _ _ hL4 (by simpa using Ne.symm obL)
  have hcy5 := b5 _ _ hcy4 (by simpa using cyob)
  have hx5 := b5 _ _ hx4 (by simpa using xob)
  refine WP.cons (WP.augAttr (WP.name (WP.loadL hL5 rfl ?_)))
  refine WP.getI B hcy5 rfl (by kernel_rfl) rfl ?_
  refine WP.name (WP.loadL hL5 rfl (WP.iadd fun tk => ?_))
  refine r_set B hcy5 (by kernel_rfl) (Nat.le_of_ble_eq_true rfl) fun H6 hcy6 b6 => ?_
  refine WP.nil (h H6 (fun j => if j = 1 then tk else t j) _ _ _ (fun a y ha hn => ?_) hcy6 (hob5.ext fun y hy => b6 _ _ hy (n2 _ (Ne.symm cyob))) (b6 _ _ hx5 (n2 _ xcy)))
  simp only [List.mem_cons, List.not_mem_nil, or_false, not_or] at hn
  exact b6 _ _ (b5 _ _ (bb _ _ ha (n1 _ hn.1)) (by simpa using hn.2.1)) (n2 _ hn.2.2)

-- lists of ints
def LI (H : HM) (a : Addr) (ns : List Int) : Prop := ∃ vs, H a = some (.list vs) ∧ IntsAre vs ns
abbrev toI (l : List Nat) : List Int := l.map fun (i : Nat) => (i : Int)
theorem LI.ext {a : Addr} {ns : List Int} (x : LI H a ns) (e : ∀ y, H a = some y → H' a = some y) : LI H' a ns := let ⟨vs, h, i⟩ := x; ⟨vs, e _ h, i⟩
theorem intsAre_get : ∀ {ns : List Int} {vs : List Value} {i : Nat} {n : Int}, IntsAre vs ns → ns[i]? = some n → ∃ t, vs[i]? = some (.int n t)
  | _, _, 0, _, .cons n t _, h => by cases h; exact ⟨t, rfl⟩
  | _, _, i + 1, n, .cons _ _ h', h => intsAre_get (i := i) h' h
theorem intsAre_get' : ∀ {ns : List Int} {vs : List Value} {i : Nat} {v : Value}, IntsAre vs ns → vs[i]? = some v → ∃ n t, v = .int n t ∧ ns[i]? = some n
  | _, _, 0, _, .cons n t _, h => by cases h; exact ⟨n, t, rfl, rfl⟩
  | _, _, i + 1, v, .cons _ _ h', h => intsAre_get' (i := i) h' h
theorem intsAre_push : ∀ {ns : List Int} {vs : List Value} {n : Int} {t : Tok}, IntsAre vs ns → IntsAre (vs ++ [.int n t]) (ns ++ [n])
  | _, _, n, t, .nil => .cons n t .nil
  | _, _, _, _, .cons n t h => .cons n t (intsAre_push h)
theorem WP.itemI {value slice : Expr} {a : Addr} {ns : List Int} {i : Nat} {u : Tok} {n : Int} {Φ : Value → HM → Prop} (hl : LI H a ns) (hn : ns[i]? = some n) (hz : i < 10000) (h : ∀ tk, Φ (.int n tk) H)
    (hs : subscripted slice false (.ref a) (.int i u) = PySem.operate [.ref a, .int i u] (getItem (.ref a) (.int i u)) := by with_unfolding_all rfl) : WP prog w h₀ A (subscriptTail value slice (.ref a) (.int i u)) H Φ := by
  obtain ⟨vs, hl, hi⟩ := hl
  obtain ⟨t, ht⟩ := intsAre_get hi hn
  exact WP.item hl (by omega) (by simpa using ht) (h t) (by omega) hs
theorem WP.inI {a : Addr} {ns : List Int} {i : Int} {u : Tok} {Φ : Value → HM → Prop} (hl : LI H a ns) (h : Φ (.bool (ns.any (· == i))) H) : WP prog w h₀ A (compareOp .In (.int i u) (.ref a)) H Φ := fun s Q E R k => by
  obtain ⟨vs, hl, hi⟩ := hl
  exact in_list_ints (R.isList hl) hi (k _ H s.heap s.toks R h)
theorem WP.ninI {a : Addr} {ns : List Int} {i : Int} {u : Tok} {Φ : Value → HM → Prop} (hl : LI H a ns) (h : Φ (.bool (!(ns.any (· == i)))) H) : WP prog w h₀ A (compareOp .NotIn (.int i u) (.ref a)) H Φ := fun s Q E R k => by
  obtain ⟨vs, hl, hi⟩ := hl
  exact notin_list_ints (R.isList hl) hi (k _ H s.heap s.toks R h)
theorem any_toI {l : List Nat} {i : Nat} : (toI l).any (· == (i : Int)) = decide (i ∈ l) := by
  induction l with
  | nil => rfl
  | cons k r ih =>
    show (((k : Int) == (i : Int)) || (toI r).any (· == (i : Int))) = _
    rw [ih]
    by_cases e : k = i
    · subst e; simp
    · have e' : ¬ ((k : Int) = (i : Int)) := fun z => e (Int.ofNat.inj z)
      have e2 : ¬ i = k := fun z => e z.symm
      simp [e', e2]
end
end Mine
end
section
open PySem PySem.W PyProof.Rows PySem.Calls
namespace Mine
section
variable {prog : Program} {w : World} {h₀ : Heap} {A : Around} {H : HM} {env : Env} {pos : Pos} {Φ : Value → HM → Prop} {n : Nat}

theorem RepD.tell {h : Heap} {D : Addr → Addr} {q : Addr} {x : AObj} (R : RepD h₀ H h D) (hn : H q = none) (hx : isInst x = false) (h0 : h₀.get? q = none) (hD : ∀ b C kv, H b = some (.inst C kv) → D b ≠ q) (hh : Holds h₀ h D q x) : RepD h₀ (upd H q x) h D where
  keep b o e := R.keep b o e
  fresh b y e := by
    by_cases hb : b = q
    · rw [hb]; exact h0
    · rw [upd_ne hb] at e; exact R.fresh b y e
  at_ b y e := by
    by_cases hb : b = q
    · subst hb; rw [upd_self] at e; cases e; exact hh
    · rw [upd_ne hb] at e; exact R.at_ b y e
  off b C kv e := by
    by_cases hb : b = q
    · subst hb; rw [upd_self] at e; cases e; cases hx
    · rw [upd_ne hb] at e
      rw [upd_ne (hD b C kv e)]; exact R.off b C kv e
  inj b c C kv C' kv' e e' z := by
    by_cases hb : b = q
    · subst hb; rw [upd_self] at e; cases e; cases hx
    · by_cases hc : c = q
      · subst hc; rw [upd_self] at e'; cases e'; cases hx
      · rw [upd_ne hb] at e; rw [upd_ne hc] at e'; exact R.inj b c C kv C' kv' e e' z
  frm := by
    obtain ⟨L, m, e⟩ := R.frm
    exact ⟨L, m, by rw [upd_ne (fun z => by rw [z, hn] at e; cases e)]; exact e⟩
theorem RepD.grown {h h' : Heap} {D : Addr → Addr} {L q : Addr} {m : Str → Option Value} {o : Obj} {x : AObj} (R : RepD h₀ H h D) (eL : H L = some (.ns m)) (hq : h.objs.size ≤ q) (F' : Fr h₀ L h' m) (N' : News h₀ L h' ((q, o) :: full h₀ L h)) (hx : isInst x = false) (hh : h'.get? q = some o → Holds h₀ h' D q x) : H q = none ∧ RepD h₀ (upd H q x) h' D := by
  have hn := R.none_of (Heap.get?_none_of_le hq)
  have e := (N' (q, o) List.mem_cons_self)
  exact ⟨hn, (R.kept eL F' fun p hp => N' p (List.mem_cons_of_mem _ hp)).tell hn hx (R.fresh0 hq) (fun b C kv eb z => absurd (R.Dpresent eb) (by rw [z]; exact Nat.not_lt.mpr hq)) (hh e.1)⟩

theorem WP.mulL {l : Addr} {v : Value} {k : Nat} {u : Tok} (hl : H l = some (.list [v])) (hk : k ≤ 1000) (h : ∀ q, H q = none → Φ (.ref q) (upd H q (.list (List.replicate k v)))) : WP prog w h₀ A (binaryOp .Mult (.ref l) (.int (k : Int) u)) H Φ := fun s Q E R kk => by
  obtain ⟨c, hl⟩ := R.list hl
  obtain ⟨D, R⟩ := R
  obtain ⟨L, m, e⟩ := R.frm
  refine PyProof.Rows.mul_list (R.fr e) full_news hl (by omega) (by omega) (by simp; omega) fun h' F' N' => ?_
  have e1 : List.foldl (fun x1 x2 => x1 ++ x2) #[] (List.replicate (if ([v] : List Value).toArray.isEmpty = true then 0 else (k : Int).toNat) ([v] : List Value).toArray) = (List.replicate k v).toArray := by
    have h1 : (if ([v] : List Value).toArray.isEmpty = true then 0 else (k : Int).toNat) = k := by simp
    rw [h1]
    have h2 : ∀ (j : Nat) (a : Array Value), List.foldl (fun x1 x2 => x1 ++ x2) a (List.replicate j ([v] : List Value).toArray) = a ++ (List.replicate j v).toArray := by
      intro j
      induction j with
      | zero => intro a; simp
      | succ j ih =>
        intro a
        rw [List.replicate_succ, List.foldl_cons, ih, List.replicate_succ]
        apply Array.toList_inj.mp
        simp
    rw [h2]; simp
  rw [e1] at N'
  obtain ⟨hn, R'⟩ := R.grown (x := .list (List.replicate k v)) e (Nat.le_refl _) F' N' rfl (fun eq => ⟨0, eq⟩)
  exact kk _ _ h' s.toks ⟨D, R'⟩ (h _ hn)
theorem WP.addL {l b : Addr} {vs ws : List Value} (hl : H l = some (.list vs)) (hb : H b = some (.list ws)) (hz : vs.length + ws.length ≤ 1000) (h : ∀ q, H q = none → Φ (.ref q) (upd H q (.list (vs ++ ws)))) : WP prog w h₀ A (binaryOp .Add (.ref l) (.ref b)) H Φ := fun s Q E R kk => by
  have h1 := R.isList hl
  have h2 := R.isList hb
  obtain ⟨D, R⟩ := R
  obtain ⟨L, m, e⟩ := R.frm
  refine PyProof.Rows.add_lists (R.fr e) full_news h1 h2 (fun h' F' N' => ?_) (by rw [sizeLine_eq]; omega)
  obtain ⟨hn, R'⟩ := R.grown (x := .list (vs ++ ws)) e (Nat.le_refl _) F' N' rfl (fun eq => ⟨0, eq⟩)
  exact kk _ _ h' s.toks ⟨D, R'⟩ (h _ hn)
theorem WP.neg {a : Int} {t : Tok} (h : ∀ tk, Φ (.int (-a) tk) H) : WP prog w h₀ A (unaryOp .USub (.int a t)) H Φ := fun s Q E R k => PyProof.Rows.neg_int (k _ H s.heap _ R (h _))
theorem WP.unary {op : UnaryOp} {x : Expr} (h : WP prog w h₀ A (eval x env) H fun v H' => WP prog w h₀ A (unaryOp op v) H' Φ) (he : eval (.UnaryOp op x pos) env = (do let v ← eval x env; standAt pos; PySem.holding [v] (unaryOp op v)) := by rfl) : WP prog w h₀ A (eval (.UnaryOp op x pos) env) H Φ := fun s Q E R k => by
  rw [he]
  exact wpAny_bind (h s _ E R fun v H' h' tk R' p => wpAny_bind (wpAny_standAt (wpAny_holding (p _ _ _ R' k))))
theorem WP.setL {Φ : Unit → HM → Prop} {l : Addr} {vs : List Value} {i : Nat} {u : Tok} {v : Value} (hl : H l = some (.list vs)) (hi : i < vs.length) (hz : vs.length ≤ 1000) (h : Φ () (upd H l (.list (vs.set i v)))) : WP prog w h₀ A (setItem (.ref l) (.int (i : Int) u) v) H Φ := fun s Q E R kk => by
  have h1 := R.isList hl
  obtain ⟨D, R⟩ := R
  obtain ⟨c, h2⟩ := R.at_ _ _ hl
  have q := PySem.IsL.update h2 fun xs => xs.setIfInBounds i v
  have e1 : vs.toArray.setIfInBounds i v = (vs.set i v).toArray := by
    apply Array.toList_inj.mp
    simp
  rw [e1] at q
  refine ki_setAt h2 (by omega) (by omega) (by simpa using hi) ?_
  exact kk () _ _ s.toks ⟨D, R.put (x' := .list (vs.set i v)) hl rfl rfl (fun ⟨_, q⟩ => by cases q) (fun b o hb eb => ((Heap.SameBut.update ..).2 b hb).trans eb) ⟨_, q⟩⟩ h
theorem WP.extend {l b : Addr} {vs ws : List Value} (hl : H l = some (.list vs)) (hb : H b = some (.list ws)) (hz : vs.length + ws.length ≤ 1000) (h : Φ .none (upd H l (.list (vs ++ ws)))) : WP prog w h₀ A (PySem.call (.builtin "list.extend") [.ref l, .ref b]) H Φ := fun s Q E R kk => by
  obtain ⟨c, h1⟩ := R.list hl
  obtain ⟨c', h2⟩ := R.list hb
  refine call_meets PySem.F.slot_list_extend ⟨_, h1, rfl⟩ PySem.F.entry_list_extend (PySem.F.args_list_extend_2 _ _) (PySem.AutoSeq1.list_extend_list_list_0 l vs.toArray c b ws.toArray c' ?_ (by rw [sizeLine_eq]; simp; omega) (by rw [sizeLine_eq]; simp; omega)) ⟨h1, h2, ?_⟩
  · intro hq
    simp only [Bool.and_eq_true] at hq
    have h3 := hq.2
    unfold Builtin.List.listTooLong at h3
    rw [sizeLine_eq] at h3
    simp at h3
    omega
  · have q := PySem.IsL.update h1 fun xs => xs ++ ws.toArray
    have e : vs.toArray ++ ws.toArray = (vs ++ ws).toArray := by simp
    rw [e] at q
    exact kk _ _ _ s.toks (R.setList hl (Heap.SameBut.update ..) _ q) h
theorem WP.eqI {a b : Addr} {ns ms : List Int} (o : Ok A n) (hn : n < 900) (ha : LI H a ns) (hb : LI H b ms) (h : Φ (.bool (decide (ns = ms))) H) : WP prog w h₀ A (compareOp .Eq (.ref a) (.ref b)) H Φ := fun s Q E R k => by
  obtain ⟨vs, h1, i1⟩ := ha
  obtain ⟨us, h2, i2⟩ := hb
  exact eq_intsK (R.isList h1) i1 (R.isList h2) i2 (by have := o.un; unfold cLine; omega) (k _ H s.heap s.toks R h)
theorem WP.neI {a b : Addr} {ns ms : List Int} (o : Ok A n) (hn : n < 900) (ha : LI H a ns) (hb : LI H b ms) (h : Φ (.bool (!decide (ns = ms))) H) : WP prog w h₀ A (compareOp .NotEq (.ref a) (.ref b)) H Φ := fun s Q E R k => by
  obtain ⟨vs, h1, i1⟩ := ha
  obtain ⟨us, h2, i2⟩ := hb
  exact ne_intsK (R.isList h1) i1 (R.isList h2) i2 (by have := o.un; unfold cLine; omega) (k _ H s.heap s.toks R h)
end
end Mine
end
section
open PySem PySem.W PyProof.Rows PySem.Calls
namespace Mine
theorem fill16 : (PySem.Challenge.rw_xm0623_01, Mine.hk.heap_1) = (PySem.Challenge.rw_xm0623_01, Mine.hk.heap_1) := by
  k_fill
  rfl
structure Wd where
  n : Nat
  ways : List (List Nat)
  roots : List Nat
  rooms : List Int
  sorts : List Int
structure Wd.Ok (W : Wd) : Prop where
  n5 : W.n ≤ 5
  lw : W.ways.length = W.n
  lm : W.rooms.length = W.n
  ls : W.sorts.length = W.n
  w2 : ∀ r ∈ W.ways, r.length = 2 ∧ ∀ j ∈ r, j < W.n
  rt : ∀ j ∈ W.roots, j < W.n
  rl : W.roots.length ≤ 2
structure WdAt (W : Wd) (wt wa ra ma sa : Addr) (as : List Addr) (H : HM) : Prop where
  t : H wt = some (.raw (tupO [.ref wa, .ref ra, .ref ma, .ref sa]))
  w : H wa = some (.list (as.map .ref))
  l : as.length = W.n
  rows : ∀ (i : Nat) a r, as[i]? = some a → W.ways[i]? = some r → LI H a (toI r)
  r : LI H ra (toI W.roots)
  m : LI H ma W.rooms
  s : LI H sa W.sorts
section
variable {prog : Program} {w : World} {h₀ : Heap} {A : Around} {d : Nat} {H H' : HM} {Φ : Value → HM → Prop}
theorem WdAt.ext {W : Wd} {wt wa ra ma sa : Addr} {as : List Addr} (x : WdAt W wt wa ra ma sa as H) (e : Ext H H') : WdAt W wt wa ra ma sa as H' :=
  ⟨e _ _ x.t, e _ _ x.w, x.l, fun i a r h1 h2 => (x.rows i a r h1 h2).ext fun y => e _ y, x.r.ext fun y => e _ y, x.m.ext fun y => e _ y, x.s.ext fun y => e _ y⟩

abbrev chB (W : Wd) (bar : List Nat) (i : Nat) : List Nat := (W.ways.getD i []).filter fun j => !decide (j ∈ bar)
abbrev srcB (W : Wd) (bar : List Nat) : List Nat := W.roots.filter fun j => !decide (j ∈ bar)
abbrev qsL : List (Pos × Str) := [(⟨287, 4, 288, 74⟩, "_law_lost.<locals>.led_to"), (⟨289, 25, 289, 54⟩, "_law_lost.<locals>.<lambda>")]
theorem qsL_distinct : distinct qsL := by
  intro p hp q hq h
  simp only [qsL, List.mem_cons, List.not_mem_nil, or_false] at hp hq
  rcases hp with rfl | rfl <;> rcases hq with rfl | rfl <;> first | rfl | exact absurd h (by decide)
theorem LI.but {ds : List Addr} {a : Addr} {ns : List Int} (x : LI H a ns) (e : But ds H H') (h : a ∉ ds) : LI H' a ns := x.ext fun y hy => e _ _ hy h
theorem WdAt.but {W : Wd} {wt wa ra ma sa : Addr} {as : List Addr} {ps : Array Value} (x : WdAt W wt wa ra ma sa as H) (hP : H 380 = some (.raw (tabObj ps))) (e : But [380] H H') : WdAt W wt wa ra ma sa as H' := by
  have n : ∀ a vs, H a = some (.list vs) → a ∉ [380] := fun a vs ha => by
    have := ne_of ha hP (by simp)
    simpa using this
  have nl : ∀ a ns, LI H a ns → a ∉ [380] := fun a ns ⟨vs, h, _⟩ => n a vs h
  refine ⟨e _ _ x.t ?_, e _ _ x.w (n _ _ x.w), x.l, fun i a r h1 h2 => (x.rows i a r h1 h2).but e (nl _ _ (x.rows i a r h1 h2)), x.r.but e (nl _ _ x.r), x.m.but e (nl _ _ x.m), x.s.but e (nl _ _ x.s)⟩
  have := ne_of x.t hP (by simp [tupO, tabObj])
  simpa using this

theorem stored_next {X : List Addr} {k : Nat} : stored ((List.range k).map fun (i : Nat) => ((i : Int), Value.ref (X.getD i 0))) (k : Int) (.ref (X.getD k 0)) = (List.range (k + 1)).map fun (i : Nat) => ((i : Int), Value.ref (X.getD i 0)) := by
  unfold stored
  rw [if_neg, List.range_succ, List.map_append]
  · rfl
  · simp only [List.any_map, List.any_eq_true, List.mem_range, Function.comp, decide_eq_true_eq, not_exists, not_and]
    intro i hi e
    have := Int.ofNat.inj e
    omega
theorem FrC.pack {env : Env} {f cm : Str → Option Value} (F : FrC H env f cm) {v1 v2 v3 v4 v5 v6 v7 : Value} (h1 : cm "heap" = some v1) (h2 : cm "things" = some v2) (h3 : cm "ways" = some v3) (h4 : cm "sorts" = some v4) (h5 : cm "barred" = some v5) (h6 : f "rooms" = some v6) (h7 : f "roots" = some v7) :
    ∃ f cm, FrC H env f cm ∧ cm "heap" = some v1 ∧ cm "things" = some v2 ∧ cm "ways" = some v3 ∧ cm "sorts" = some v4 ∧ cm "barred" = some v5 ∧ f "rooms" = some v6 ∧ f "roots" = some v7 := ⟨f, cm, F, h1, h2, h3, h4, h5, h6, h7⟩
theorem FrC.pack2 {env : Env} {f cm : Str → Option Value} (F : FrC H env f cm) : ∃ (FR : HM → (Str → Option Value) → Prop) (OW : Addr → Prop), (∀ Hx fx, FR Hx fx ↔ FrC Hx env fx cm) ∧ (∀ a, OW a ↔ Own env a) := ⟨fun Hx fx => FrC Hx env fx cm, Own env, fun _ _ => Iff.rfl, fun _ => Iff.rfl⟩
abbrev kvsX (X : List Addr) (k : Nat) : List (Int × Value) := (List.range k).map fun (i : Nat) => ((i : Int), Value.ref (X.getD i 0))
abbrev sumX (rooms : List Int) (k : Nat) : Int := ((List.range k).map fun i => rooms.getD i 0).sum
theorem sumX_next {rooms : List Int} {k : Nat} : sumX rooms (k + 1) = sumX rooms k + rooms.getD k 0 := by
  unfold sumX
  rw [List.range_succ, List.map_append, List.sum_append]
  simp
def roOf (H : HM) (ex : List Addr) : HM := fun a => match H a with
  | some y => if calm y = true ∧ a ∉ ex then some y else none
  | none => none
theorem roOf_some {H : HM} {ex : List Addr} {a : Addr} {y : AObj} : roOf H ex a = some y ↔ H a = some y ∧ calm y = true ∧ a ∉ ex := by
  unfold roOf
  cases H a with
  | none => simp
  | some z =>
    simp only [Option.some.injEq]
    constructor
    · intro h
      split at h
      · rename_i hc; cases h; exact ⟨rfl, hc⟩
      · cases h
    · rintro ⟨rfl, hc⟩
      rw [if_pos hc]
theorem roOf_none {H : HM} {ex : List Addr} {a : Addr} (h : a ∈ ex) : roOf H ex a = none := by
  cases e : roOf H ex a with
  | none => rfl
  | some y => exact absurd h (roOf_some.mp e).2.2
abbrev gOf (W : Wd) (bar : List Nat) (X : List Addr) (mo fl lq : Addr) (ro : HM) : GC := ⟨W.n, fun i => X.getD i 0, chB W bar, fun i => W.sorts.getD i 0, fun i => W.rooms.getD i 0, mo, fl, lq, ro⟩
def rc : AObj → Bool
  | .raw _ => true
  | .cell _ => true
  | _ => false
/-- one thing as it is made -/
abbrev raw0 (t1 t2 t3 : Tok) : AObj := .inst 367 [("number", .int 0 t1), ("mark", .int 0 t2), ("size", .int 1 t3)]
theorem s_lost (B : Bs (Mine.hk.heap_1 w.params) h₀) (M : Mk h₀) (o : Ok A d) (hd : d ≤ 400) {W : Wd} (hW : W.Ok) {wt wa ra ma sa ba : Addr} {as : List Addr} {bar : List Nat} (hw : WdAt W wt wa ra ma sa as H) (hb : LI H ba (toI bar)) (hT : Tab qsL H)
    (h : ∀ H' r l tk (q : Nat → Bool), (∀ j, j < W.n → (q j = true ↔ RT (chB W bar) (srcB W bar) j)) → But [380] H H' → Tab qsL H' → H' r = some (.raw (tupO [.ref l, .int (((List.range W.n).filter q).map fun j => W.rooms.getD j 0).sum tk])) → LI H' l (toI ((List.range W.n).filter fun j => !q j)) → H l = none → Φ (.ref r) H') :
    WC prog w h₀ A (.call (.ref 383) ⟨[.ref wt, .ref ba], []⟩) H fun fl H' => ∃ v, fl = .ret v ∧ Φ v H' := by
  refine WC.fnC (binds := [("world", .ref wt), ("barred", .ref ba)]) B o (by omega) (by k_is) (by k_is) rfl (fun L => ?_) (fun L A' H1 o' e1 ho F1 => ?_)
  · intro x hx
    simp only [List.mem_cons, List.not_mem_nil, or_false] at hx
    rcases hx with rfl | rfl
    · exact .inl rfl
    · exact .inr ⟨rfl, rfl⟩
  obtain ⟨ps, hP, _⟩ := id hT
  refine WP.cons (WP.asgTup (WP.name (WP.fcL F1 rfl ?_)))
  refine WP.aTup o'.hh (hw.ext e1).t ?_
  refine WP.ao1 (WP.aName (WP.fsC F1 fun H2 F2 u2 => ?_))
  refine WP.ao1 (WP.aName (WP.fsL F2 fun H3 F3 u3 => ?_))
  refine WP.ao1 (WP.aName (WP.fsL F3 fun H4 F4 u4 => ?_))
  refine WP.ao1 (WP.aName (WP.fsC F4 fun H5 F5 u5 => ?_))
  refine WP.ao0 ?_
  have bH5 : But [380] H H5 := (((u2.trans u3).trans u4).trans u5).but (Ext.but e1) ho
  have T5 : Tab qsL H5 := ((hT.ext fun a o ha => e1 _ _ ha).ext fun a o ha => ((((u2.trans u3).trans u4).trans u5).keep F1 ha rfl))
  clear u2 u3 u4 u5 F2 F3 F4
  -- things
  obtain ⟨vsM, hMl, hMi⟩ := (hw.but hP bH5).m
  have hvl := intsAre_len hMi
  rw [hW.lm] at hvl
  refine WP.cons (WP.asgName (WP.compV (N := vsM.length) (itO := fun k => .iter ma k) (Src := fun H => H ma = some (.list vsM)) (P := fun k v => vsM[k]? = some v)
    (fun fb k ws H' => (∀ a, fb a → H5 a = none) ∧ Ext H5 H' ∧ ∃ X : List Addr, ws = X.map .ref ∧ X.length = k ∧ X.Nodup ∧ ∀ x ∈ X, H5 x = none ∧ ¬fb x ∧ ∃ t1 t2 t3, H' x = some (raw0 t1 t2 t3))
    (by have := hW.n5; omega) rfl ?_ (by rw [F5.loc]; simp) ?_ ?_ ?_ ?_))
  · rintro fb k ws H6 ⟨_, e, _⟩
    exact ⟨e _ _ hMl, _, e _ _ F5.loc⟩
  · rintro fb k ws H6 H7 ⟨f, e, X, a, b, c, dd⟩ hk
    refine ⟨f, fun a y ha => hk _ _ (fun z => by rw [f a z] at ha; cases ha) (e _ _ ha), X, a, b, c, fun x hx => ?_⟩
    obtain ⟨h1, h2, t1, t2, t3, h3⟩ := dd x hx
    exact ⟨h1, h2, t1, t2, t3, hk _ _ h2 h3⟩
  · refine WP.name (WP.fcL F5 rfl ?_)
    refine WP.iterL hMl fun q hq => ⟨fun a y ha => ⟨y, upd_old ha hq⟩, q, rfl, Draw.list o'.hh, hq, upd_self, fun fb H6 hfb hk => ⟨hfb, fun a y ha => hk _ _ (fun z => by rw [hfb a z] at ha; cases ha) (upd_old ha hq), [], rfl, rfl, List.nodup_nil, by simp⟩⟩
  · rintro fb C k v ws H6 f hk hv ⟨hfb, e, X, rfl, hX1, hX2, hX3⟩ _ htold hfC hC hfx
    refine WP.tests0 ⟨fun a y _ hy => hy, ?_⟩
    rw [if_pos rfl]
    refine WP.callN (WP.name (WP.loadG B.X B.g (by k_is) ?_))
    refine WP.cwK B (by k_is) (WP.args (WP.cInt fun tk1 => WP.args (WP.cInt fun tk2 => WP.args0 ?_)))
    refine s_hobj B o' (by omega) fun H7 x t1 t2 t3 e7 hx0 hx7 => ⟨fun a y _ hy => e7 _ _ hy, hfb, e.trans e7, X ++ [x], by simp, by simp [hX1], ?_, fun y hy => ?_⟩
    · rw [List.nodup_append]
      refine ⟨hX2, by simp, fun a ha b hb => ?_⟩
      rw [List.mem_singleton.mp hb]
      rintro rfl
      obtain ⟨_, _, t1, t2, t3, h3⟩ := hX3 _ ha
      rw [hx0] at h3; cases h3
    · rcases List.mem_append.mp hy with hy | hy
      · obtain ⟨h1, h2, t1, t2, t3, h3⟩ := hX3 y hy
        exact ⟨h1, h2, t1, t2, t3, e7 _ _ h3⟩
      · rw [List.mem_singleton.mp hy]
        exact ⟨e.fresh hx0, fun z => htold _ z hx0, t1, t2, t3, hx7⟩
  rintro tl fb ws H6 ⟨hfb, e6, X, rfl, hX1, hX2, hX3⟩ _ hftl _ htl
  have F6 := F5.ext e6
  refine WP.fsC F6 fun H8 F8 u8 => ?_
  have k8 : ∀ a y, H5 a = some y → notOwn y = true → H8 a = some y := fun a y ha hy => u8.keep F6 (e6 _ _ ha) hy
  have bH8 : But [380] H H8 := u8.but (bH5.trans (Ext.but e6)) ho
  have T8 : Tab qsL H8 := T5.ext fun a o ha => k8 _ _ ha rfl
  have h380 : H5 380 ≠ none := by
    obtain ⟨ps, e, _⟩ := T5
    rw [e]; simp
  have un5 : ∀ q, H5 q = none → H q = none := fun q hq => by
    cases z : H q with
    | none => rfl
    | some y =>
      have hne : q ∉ [380] := fun e => h380 (by rw [← List.mem_singleton.mp e]; exact hq)
      have := bH5 _ _ z hne
      rw [hq] at this; cases this
  have hX8 : ∀ x ∈ X, H x = none ∧ ∃ t1 t2 t3, H8 x = some (raw0 t1 t2 t3) := fun x hx => by
    obtain ⟨h1, h2, t1, t2, t3, h3⟩ := hX3 x hx
    exact ⟨un5 _ h1, t1, t2, t3, u8.keep F6 h3 rfl⟩
  have htl8 : H8 tl = some (.list (X.map .ref)) := u8.keep F6 htl rfl
  have htlH : H tl = none := un5 _ (hfb _ hftl)
  clear hX3 htl k8 u8 F6 e6 hftl hfb F5 bH5 T5 hMl un5 h380
  rw [hvl] at hX1
  -- def led_to
  have h380 : ∀ {Hx : HM}, Tab qsL Hx → ∃ ps, Hx 380 = some (.raw (tabObj ps)) := fun T => let ⟨ps, e, _⟩ := T; ⟨ps, e⟩
  refine WP.cons (WP.defS (WP.mkFn M T8 (.head _) qsL_distinct rfl rfl rfl fun fl c1 ct1 doc1 pm1 H9 b9 n9 hf9 hc9 hc1 T9 => ?_))
  have on8 : ∀ d ∈ [380], ¬Own _ d := fun d hd => by
    obtain ⟨ps, e⟩ := h380 T8
    rw [List.mem_singleton.mp hd]; exact F8.ne e rfl
  have F9 := F8.but b9 on8
  refine WP.fsL F9 fun H10 F10 u10 => ?_
  have T10 : Tab qsL H10 := T9.ext fun a o ha => u10.keep F9 ha rfl
  have bH10 : But [380] H H10 := u10.but (bH8.trans b9) ho
  have ne380 : ∀ a y, H8 a = some y → (∀ o, y ≠ .raw o) → a ∉ [380] := fun a y ha hy z => by
    obtain ⟨ps, e⟩ := h380 T8
    rw [List.mem_singleton.mp z, e] at ha; cases ha; exact hy _ rfl
  have hX10 : ∀ x ∈ X, H x = none ∧ ∃ t1 t2 t3, H10 x = some (raw0 t1 t2 t3) := fun x hx => by
    obtain ⟨h1, t1, t2, t3, h3⟩ := hX8 x hx
    exact ⟨h1, t1, t2, t3, u10.keep F9 (b9 _ _ h3 (ne380 _ _ h3 (fun _ => nofun))) rfl⟩
  have htl10 : H10 tl = some (.list (X.map .ref)) := u10.keep F9 (b9 _ _ htl8 (ne380 _ _ htl8 (fun _ => nofun))) rfl
  have hf10 := u10.keep F9 hf9 rfl
  have hc10 : ∃ oc vs t, H10 c1 = some (.raw oc) ∧ oc.data = .fields vs ∧ vs[1]? = some (.str ("_law_lost.<locals>.led_to" : Str) t) := by
    obtain ⟨oc, vs, t, a, b, c⟩ := hc9
    exact ⟨oc, vs, t, u10.keep F9 a rfl, b, c⟩
  clear hf9 hc9 htl8 hX8 u10 F9 T9 bH8 F8
  -- heap = Cycle(led_to, lambda ..)
  refine WP.cons (WP.asgName (WP.callN (WP.name (WP.loadG B.X B.g (by k_is) ?_))))
  refine WP.cwK B (by k_is) (WP.args (WP.name (WP.fcL F10 rfl ?_)))
  refine WP.args (WP.mkLam M T10 (.tail _ (.head _)) qsL_distinct rfl rfl rfl rfl fun lq c2 ct2 pm2 H11 b11 n11 hf11 hc11 hc2 T11 => WP.args0 ?_)
  have on10 : ∀ d ∈ [380], ¬Own _ d := fun d hd => by
    obtain ⟨ps, e⟩ := h380 T10
    rw [List.mem_singleton.mp hd]; exact F10.ne e rfl
  have F11 := F10.but b11 on10
  have ne11 : ∀ a y, H10 a = some y → (∀ ps, y ≠ .raw (tabObj ps)) → H11 a = some y := fun a y ha hy => b11 _ _ ha fun z => by
    obtain ⟨ps, e⟩ := h380 T10
    rw [List.mem_singleton.mp z, e] at ha; cases ha; exact hy _ rfl
  refine s_cycle B o' (by omega) fun H12 cy mo ob rl0 ts lg la lw t12 tm e12 hcy hmo hob hrl hts hlg hla hlw hfr d1 d2 d3 d4 d5 d6 d7 d8 d9 d10 => ?_
  have F12 := F11.ext e12
  refine WP.fsC F12 fun H13 F13 u13 => ?_
  have T13 : Tab qsL H13 := (T11.ext fun a o ha => e12 _ _ ha).ext fun a o ha => u13.keep F12 ha rfl
  have bH13 : But [380] H H13 := u13.but ((bH10.trans b11).trans (Ext.but e12)) ho
  have k13 : ∀ a y, H10 a = some y → (∀ ps, y ≠ .raw (tabObj ps)) → notOwn y = true → H13 a = some y := fun a y ha hy hn => u13.keep F12 (e12 _ _ (ne11 a y ha hy)) hn
  have hX13 : ∀ x ∈ X, H x = none ∧ ∃ t1 t2 t3, H13 x = some (raw0 t1 t2 t3) := fun x hx => by
    obtain ⟨h1, t1, t2, t3, h3⟩ := hX10 x hx
    exact ⟨h1, t1, t2, t3, k13 _ _ h3 (fun _ => nofun) rfl⟩
  have htl13 := k13 _ _ htl10 (fun _ => nofun) rfl
  have hf13 := k13 _ _ hf10 (by simp [fnMade, tabObj]) rfl
  have hc13 : ∃ oc vs t, H13 c1 = some (.raw oc) ∧ oc.data = .fields vs ∧ vs[1]? = some (.str ("_law_lost.<locals>.led_to" : Str) t) := by
    obtain ⟨oc, vs, t, a, b, c⟩ := hc10
    exact ⟨oc, vs, t, u13.keep F12 (e12 _ _ (b11 _ _ a (by simpa using hc1))) rfl, b, c⟩
  have hl13 := u13.keep F12 (e12 _ _ hf11) rfl
  have hd13 : ∃ oc vs t, H13 c2 = some (.raw oc) ∧ oc.data = .fields vs ∧ vs[1]? = some (.str ("_law_lost.<locals>.<lambda>" : Str) t) := by
    obtain ⟨oc, vs, t, a, b, c⟩ := hc11
    exact ⟨oc, vs, t, u13.keep F12 (e12 _ _ a) rfl, b, c⟩
  replace hcy := u13.keep F12 hcy rfl
  replace hmo := u13.keep F12 hmo rfl
  replace hob : DictAt (intKind prog w) H13 ob [] := hob.ext fun y hy => u13.keep F12 hy (by
    obtain ⟨_, es, e, _⟩ := hob
    rw [e] at hy; cases hy; rfl)
  replace hrl := u13.keep F12 hrl rfl
  replace hts := u13.keep F12 hts rfl
  replace hlg := u13.keep F12 hlg rfl
  replace hla := u13.keep F12 hla rfl
  replace hlw := u13.keep F12 hlw rfl
  have un11 : ∀ q, H11 q = none → H q = none ∧ q ∉ X ∧ q ≠ 380 ∧ q ≠ tl := fun q hq => by
    obtain ⟨ps, e⟩ := h380 T11
    have h3 : q ≠ 380 := fun z => by rw [z, e] at hq; cases hq
    refine ⟨?_, fun z => ?_, h3, fun z => by rw [z, ne11 _ _ htl10 (fun _ => nofun)] at hq; cases hq⟩
    · cases z : H q with
      | none => rfl
      | some y =>
        have := (bH10.trans b11) _ _ z (by simpa using h3)
        rw [hq] at this; cases this
    · obtain ⟨_, t1, t2, t3, h4⟩ := hX10 q z
      rw [ne11 _ _ h4 (fun _ => nofun)] at hq; cases hq
  have hfr' : ∀ a ∈ [cy, mo, ob, rl0, ts, lg, la, lw], H a = none ∧ a ∉ X ∧ a ≠ 380 ∧ a ≠ tl := fun a ha => un11 a (hfr a ha)
  clear hf10 hc10 hf11 hc11 hX10 htl10 k13 ne11 F11 F12 on10 u13 e12 b11 T11 T10 F10 bH10 hfr un11 n11 n9 b9 on8 ne380 T8
  obtain ⟨f13, cm, F13, q1, q2, q3, q4, q5, p1, p2⟩ := F13.pack (v1 := .ref cy) (v2 := .ref tl) (v3 := .ref wa) (v4 := .ref sa) (v5 := .ref ba) (v6 := .ref ma) (v7 := .ref ra) rfl rfl rfl rfl rfl rfl rfl
  have hXg : ∀ i, i < W.n → X[i]? = some (X.getD i 0) := fun i hi => by
    rw [List.getD_eq_getElem?_getD, List.getElem?_eq_getElem (by omega)]; rfl
  have hXm : ∀ i, i < W.n → X.getD i 0 ∈ X := fun i hi => List.mem_of_getElem? (hXg i hi)
  have hXi : ∀ i j, i < W.n → j < W.n → X.getD i 0 = X.getD j 0 → i = j := fun i j hi hj e => by
    have h1 := hXg i hi
    have h2 := hXg j hj
    rw [e] at h1
    have := (List.getElem?_inj (l := X) (i := i) (j := j) (by omega) hX2).mp (h1.trans h2.symm)
    exact this
  have hw13 := hw.but hP bH13
  have cyX : cy ∉ X := (hfr' cy (by simp)).2.1
  have obX : ob ∉ X := (hfr' ob (by simp)).2.1
  have moX : mo ∉ X := (hfr' mo (by simp)).2.1
  have tlX : tl ∉ X := fun z => by
    obtain ⟨_, t1, t2, t3, h3⟩ := hX13 tl z
    rw [htl13] at h3; cases h3
  obtain ⟨_, es0, hob0, _⟩ := id hob
  have cyob : cy ≠ ob := ne_of hcy hob0 (by simp)
  have tlcy : tl ≠ cy := ne_of htl13 hcy (by simp)
  have tlob : tl ≠ ob := ne_of htl13 hob0 (by simp)
  have mocy : mo ≠ cy := ne_of hmo hcy (by simp)
  have moob : mo ≠ ob := ne_of hmo hob0 (by simp)
  have hrm := hW.lm
  have hn5 := hW.n5
  obtain ⟨FR, OW, hFR, hOW⟩ := F13.pack2
  have nw : ∀ a y, H13 a = some y → notOwn y = true → ¬OW a := fun a y ha hy z => F13.ne ha hy ((hOW a).mp z)
  refine WP.cons (WP.forG (fun it n Hc => ∃ e itq k old f t, it = .ref e ∧ k ≤ W.n ∧ n = W.n - k ∧ Hc e = some (.raw (enumO itq ((k : Nat) : Int) old)) ∧ Hc itq = some (.iter tl k) ∧ H13 e = none ∧ H13 itq = none ∧ e ≠ itq ∧ FR Hc f ∧ f "rooms" = some (.ref ma) ∧ f "roots" = some (.ref ra) ∧
    (∀ a y, H13 a = some y → ¬OW a → a ≠ cy → a ≠ ob → a ∉ X → Hc a = some y) ∧ Hc cy = some (cycV ob mo rl0 ts 0 (sumX W.rooms k) 0 0 256 0 t) ∧ DictAt (intKind prog w) Hc ob (kvsX X k) ∧
    ∀ i, i < W.n → ∃ t1 t2 t3, Hc (X.getD i 0) = some (if i < k then .inst 367 [("number", .int i t1), ("mark", .int 0 t2), ("size", .int (W.rooms.getD i 0) t3)] else raw0 t1 t2 t3)) ?_ ?_)
  · refine WP.callN (WP.name (WP.blt B (by k_is) rfl (by decide) ?_))
    refine WP.cwT (WP.args (WP.name (WP.fcC F13 q2 ?_)))
    refine WP.args0 (WP.enum htl13 fun itq e n1 n2 ne => WP.iterE upd_self ?_)
    have k0 : ∀ a y, H13 a = some y → upd (upd H13 itq (.iter tl 0)) e (.raw (enumO itq 0 .none)) a = some y := fun a y ha => by
      rw [upd_ne (fun z => by rw [z, n2] at ha; cases ha)]; exact upd_old ha n1
    refine ⟨W.n, e, itq, 0, .none, f13, t12, rfl, Nat.zero_le _, rfl, upd_self, by rw [upd_ne ne, upd_self], n2, n1, Ne.symm ne, (hFR _ _).mpr (F13.ext k0), p1, p2, fun a y ha _ _ _ _ => k0 a y ha, k0 _ _ hcy, hob.ext fun y hy => k0 _ _ hy, fun i hi => ?_⟩
    obtain ⟨_, t1, t2, t3, h3⟩ := hX13 _ (hXm i hi)
    exact ⟨t1, t2, t3, by rw [if_neg (Nat.not_lt_zero _)]; exact k0 _ _ h3⟩
  · rintro it n Hc ⟨e, itq, k, old, f, t, rfl, hk, rfl, he, hit, ne1, ne2, ne3, F, hf1, hf2, kp, hcyk, hobk, hXk⟩
    replace F := (hFR _ _).mp F
    have nwc : ∀ a y, Hc a = some y → notOwn y = true → ¬OW a := fun a y ha hy z => F.ne ha hy ((hOW a).mp z)
    have htlc := kp tl _ htl13 (nw _ _ htl13 rfl) tlcy tlob tlX
    by_cases hkn : k < W.n
    · refine WP.nextE (v := .ref (X.getD k 0)) he hit htlc (by rw [List.getElem?_map, hXg k hkn]; rfl) fun tq tkq ntq => ?_
      have tqe : tq ≠ e := fun z => by rw [z, he] at ntq; cases ntq
      refine WP.ownE (it := itq) (i := (k : Int) + 1) (v := .ref (X.getD k 0)) (by rw [upd_ne (Ne.symm tqe), upd_self]) ?_
      have bb : But [itq, e] Hc (upd (upd (upd (upd Hc itq (.iter tl (k + 1))) e (.raw (enumT itq ((k : Int) + 1) (.ref (X.getD k 0)) tq))) tq (.raw (tupO [.int k tkq, .ref (X.getD k 0)]))) e (.raw (enumO itq ((k : Int) + 1) (.ref (X.getD k 0))))) := fun a y ha hn => by
        simp only [List.mem_cons, List.not_mem_nil, or_false, not_or] at hn
        rw [upd_ne hn.2, upd_ne (fun z => by rw [z, ntq] at ha; cases ha), upd_ne hn.2, upd_ne hn.1]; exact ha
      have htq : (upd (upd (upd (upd Hc itq (.iter tl (k + 1))) e (.raw (enumT itq ((k : Int) + 1) (.ref (X.getD k 0)) tq))) tq (.raw (tupO [.int k tkq, .ref (X.getD k 0)]))) e (.raw (enumO itq ((k : Int) + 1) (.ref (X.getD k 0))))) tq = some (.raw (tupO [.int k tkq, .ref (X.getD k 0)])) := by rw [upd_ne tqe, upd_self]
      have hit2 : (upd (upd (upd (upd Hc itq (.iter tl (k + 1))) e (.raw (enumT itq ((k : Int) + 1) (.ref (X.getD k 0)) tq))) tq (.raw (tupO [.int k tkq, .ref (X.getD k 0)]))) e (.raw (enumO itq ((k : Int) + 1) (.ref (X.getD k 0))))) itq = some (.iter tl (k + 1)) := by
        rw [upd_ne (Ne.symm ne3), upd_ne (fun z => by rw [← z, hit] at ntq; cases ntq), upd_ne (Ne.symm ne3), upd_self]
      have he2 : (upd (upd (upd (upd Hc itq (.iter tl (k + 1))) e (.raw (enumT itq ((k : Int) + 1) (.ref (X.getD k 0)) tq))) tq (.raw (tupO [.int k tkq, .ref (X.getD k 0)]))) e (.raw (enumO itq ((k : Int) + 1) (.ref (X.getD k 0))))) e = some (.raw (enumO itq ((k : Int) + 1) (.ref (X.getD k 0)))) := upd_self
      generalize (upd (upd (upd (upd Hc itq (.iter tl (k + 1))) e (.raw (enumT itq ((k : Int) + 1) (.ref (X.getD k 0)) tq))) tq (.raw (tupO [.int k tkq, .ref (X.getD k 0)]))) e (.raw (enumO itq ((k : Int) + 1) (.ref (X.getD k 0))))) = Hd at bb htq hit2 he2 ⊢
      have Fd := F.but bb (by
        intro a ha
        simp only [List.mem_cons, List.not_mem_nil, or_false] at ha
        rcases ha with rfl | rfl
        · exact F.ne hit rfl
        · exact F.ne he rfl)
      refine WP.aTup o'.hh htq ?_
      refine WP.ao1 (WP.aName (WP.fsL Fd fun He Fe ue => ?_))
      refine WP.ao1 (WP.aName (WP.fsL Fe fun Hf Ff uf => WP.ao0 ?_))
      have kf : ∀ a y, Hc a = some y → ¬OW a → a ≠ itq → a ≠ e → Hf a = some y := fun a y ha hy h1 h2 => ((ue.trans uf) a (fun z => hy ((hOW a).mpr z))).trans (bb _ _ ha (by simp [h1, h2]))
      have hcyf := kf _ _ hcyk (nwc _ _ hcyk rfl) (fun z => by rw [← z, hcy] at ne2; cases ne2) (fun z => by rw [← z, hcy] at ne1; cases ne1)
      have hobf : DictAt (intKind prog w) Hf ob (kvsX X k) := by
        obtain ⟨lo, es, h1, h2⟩ := hobk
        exact ⟨lo, es, kf _ _ h1 (nwc _ _ h1 rfl) (fun z => by rw [← z, hob0] at ne2; cases ne2) (fun z => by rw [← z, hob0] at ne1; cases ne1), h2⟩
      have hmof := kf _ _ (kp mo _ hmo (nw _ _ hmo rfl) mocy moob moX) (nw _ _ hmo rfl) (fun z => by rw [← z, hmo] at ne2; cases ne2) (fun z => by rw [← z, hmo] at ne1; cases ne1)
      have Xit : ∀ i, i < W.n → X.getD i 0 ≠ itq ∧ X.getD i 0 ≠ e := fun i hi => by
        obtain ⟨_, t1, t2, t3, h3⟩ := hX13 _ (hXm i hi)
        exact ⟨fun z => (by rw [z, ne2] at h3; cases h3), fun z => (by rw [z, ne1] at h3; cases h3)⟩
      obtain ⟨t1, t2, t3, hxk⟩ := hXk k hkn
      rw [if_neg (Nat.lt_irrefl _)] at hxk
      have hxf := kf _ _ hxk (nwc _ _ hxk rfl) (Xit k hkn).1 (Xit k hkn).2
      obtain ⟨vsM, hM0, hMi⟩ := hw13.m
      have maok : ma ≠ cy ∧ ma ≠ ob ∧ ma ∉ X := ⟨ne_of hM0 hcy (by simp), ne_of hM0 hob0 (by simp), fun z => by
        obtain ⟨_, t1, t2, t3, h3⟩ := hX13 _ z
        rw [hM0] at h3; cases h3⟩
      have hMf : LI Hf ma W.rooms := ⟨vsM, kf _ _ (kp ma _ hM0 (nw _ _ hM0 rfl) maok.1 maok.2.1 maok.2.2) (nw _ _ hM0 rfl) (fun z => by rw [← z, hM0] at ne2; cases ne2) (fun z => by rw [← z, hM0] at ne1; cases ne1), hMi⟩
      refine WP.cons (WP.expr (WP.callM (WP.name (WP.fcC Ff q1 ?_))))
      refine WP.meth (f := 189) B hcyf (by kernel_rfl) rfl ?_
      refine WP.cwK B (by k_is) (WP.args (WP.name (WP.fcL Ff rfl ?_)))
      refine WP.args (WP.name (WP.fcL Ff rfl ?_))
      refine WP.args (WP.sub (WP.name (WP.fcL Ff ((if_neg (by decide)).trans ((if_neg (by decide)).trans hf1)) (WP.name (WP.fcL Ff rfl ?_)))))
      refine WP.itemI (n := W.rooms.getD k 0) hMf (by rw [List.getD_eq_getElem?_getD, List.getElem?_eq_getElem (by omega)]; rfl) (by omega) fun tk1 => WP.args0 ?_
      refine s_take_in B o' (by omega) hcyf hmof hobf (by simp; omega) hxf fun Hg t' u1 u2 u3 bg hcyg hobg hxg => WP.nil ?_
      have Fg := Ff.but bg (by
        obtain ⟨_, es, h1, _⟩ := hobf
        intro a ha
        simp only [List.mem_cons, List.not_mem_nil, or_false] at ha
        rcases ha with rfl | rfl | rfl
        · exact Ff.ne hxf rfl
        · exact Ff.ne h1 rfl
        · exact Ff.ne hcyf rfl)
      have nb : ∀ a, a ≠ X.getD k 0 → a ≠ ob → a ≠ cy → a ∉ [X.getD k 0, ob, cy] := fun a h1 h2 h3 => by simp only [List.mem_cons, List.not_mem_nil, or_false, not_or]; exact ⟨h1, h2, h3⟩
      rw [stored_next] at hobg
      refine ⟨W.n - (k + 1), by omega, e, itq, k + 1, _, _, t', rfl, hkn, rfl, bg _ _ ((ue.trans uf).keep Fd he2 rfl) (nb _ (Ne.symm (Xit k hkn).2) (fun z => by rw [z, hob0] at ne1; cases ne1) (fun z => by rw [z, hcy] at ne1; cases ne1)),
        bg _ _ ((ue.trans uf).keep Fd hit2 rfl) (nb _ (Ne.symm (Xit k hkn).1) (fun z => by rw [z, hob0] at ne2; cases ne2) (fun z => by rw [z, hcy] at ne2; cases ne2)), ne1, ne2, ne3, (hFR _ _).mpr Fg, (if_neg (by decide)).trans ((if_neg (by decide)).trans hf1), (if_neg (by decide)).trans ((if_neg (by decide)).trans hf2),
        fun a y ha hy h1 h2 h3 => bg _ _ (kf _ _ (kp a y ha hy h1 h2 h3) hy (fun z => by rw [z, ne2] at ha; cases ha) (fun z => by rw [z, ne1] at ha; cases ha)) (nb _ (fun z => h3 (by rw [z]; exact hXm k hkn)) h2 h1), by rw [sumX_next]; exact hcyg, hobg, fun i hi => ?_⟩
      by_cases eik : i = k
      · subst eik
        exact ⟨u1, u2, u3, by rw [if_pos (by omega)]; exact hxg⟩
      · obtain ⟨v1, v2, v3, hv⟩ := hXk i hi
        refine ⟨v1, v2, v3, ?_⟩
        have := bg _ _ (kf _ _ hv (nwc _ _ hv (by split <;> rfl)) (Xit i hi).1 (Xit i hi).2) (nb _ (fun z => eik (hXi i k hi hkn z)) (fun z => obX (by rw [← z]; exact hXm i hi)) (fun z => cyX (by rw [← z]; exact hXm i hi)))
        rw [this]
        by_cases hik : i < k
        · rw [if_pos hik, if_pos (by omega)]
        · rw [if_neg hik, if_neg (by omega)]
    · have hkk : k = W.n := by omega
      subst hkk
      refine WP.endE o'.hh he hit htlc (by rw [List.getElem?_map, List.getElem?_eq_none (by omega)]; rfl) (WP.nil ?_)
      have kz : ∀ a y, H13 a = some y → ¬OW a → a ≠ cy → a ≠ ob → a ∉ X → del Hc itq a = some y := fun a y ha hy h1 h2 h3 => by
        rw [del_ne (fun z => by rw [z, ne2] at ha; cases ha)]; exact kp a y ha hy h1 h2 h3
      have Fz : FrC (del Hc itq) _ f cm := F.but (But.del (ds := [itq]) (by simp)) (by
        intro a ha
        rw [List.mem_singleton.mp ha]
        exact F.ne hit rfl)
      have hcyz : del Hc itq cy = _ := (del_ne (fun z => by rw [← z, hcy] at ne2; cases ne2)).trans hcyk
      have hobz : DictAt (intKind prog w) (del Hc itq) ob (kvsX X W.n) := hobk.ext fun y hy => (del_ne (fun z => by rw [← z, hob0] at ne2; cases ne2)).trans hy
      have hXz : ∀ i, i < W.n → ∃ t1 t2 t3, del Hc itq (X.getD i 0) = some (.inst 367 [("number", .int i t1), ("mark", .int 0 t2), ("size", .int (W.rooms.getD i 0) t3)]) := fun i hi => by
        obtain ⟨t1, t2, t3, h3⟩ := hXk i hi
        rw [if_pos hi] at h3
        refine ⟨t1, t2, t3, (del_ne fun z => ?_).trans h3⟩
        obtain ⟨_, u1, u2, u3, h4⟩ := hX13 _ (hXm i hi)
        rw [z, ne2] at h4; cases h4
      clear hXk hobk hcyk kp F he htlc nwc
      generalize del Hc itq = Hz at kz Fz hcyz hobz hXz ⊢
      clear hit ne1 ne2 ne3
      have htlz := kz tl _ htl13 (nw _ _ htl13 rfl) tlcy tlob tlX
      -- what stood before the call is kept
      have oldH : ∀ a y, H a = some y → a ∉ [380] → ¬OW a ∧ a ≠ cy ∧ a ≠ ob ∧ a ∉ X := fun a y ha hn => ⟨fun z => (by rw [ho a ((hOW a).mp z)] at ha; cases ha), fun z => (by rw [z, (hfr' cy (by simp)).1] at ha; cases ha), fun z => (by rw [z, (hfr' ob (by simp)).1] at ha; cases ha), fun z => (by rw [(hX13 a z).1] at ha; cases ha)⟩
      have bHz : But [380] H Hz := fun a y ha hn => have ⟨h1, h2, h3, h4⟩ := oldH a y ha hn; kz a y (bH13 a y ha hn) h1 h2 h3 h4
      have hwz := hw.but hP bHz
      have hba : ba ∉ [380] := by
        obtain ⟨vs, h1, _⟩ := hb
        have := ne_of h1 hP (by simp)
        simpa using this
      have hbz := hb.but bHz hba
      -- heap.root_list = [..]
      obtain ⟨vsR, hRl, hRi⟩ := id hwz.r
      have hRlen := intsAre_len hRi
      rw [List.length_map] at hRlen
      have hrl2 := hW.rl
      refine WP.cons (WP.asgAttr (WP.compV (N := vsR.length) (itO := fun k => .iter ra k) (Src := fun H => H ra = some (.list vsR)) (P := fun k v => vsR[k]? = some v)
        (fun fb k ws H' => (∀ a, fb a → Hz a = none) ∧ Ext Hz H' ∧ ws = ((W.roots.take k).filter fun j => !decide (j ∈ bar)).map fun j => .ref (X.getD j 0))
        (by omega) rfl ?_ (by rw [Fz.loc]; simp) ?_ ?_ ?_ ?_))
      · rintro fb k ws H6 ⟨_, e, _⟩
        exact ⟨e _ _ hRl, _, e _ _ Fz.loc⟩
      · rintro fb k ws H6 H7 ⟨f, e, hh⟩ hk
        exact ⟨f, fun a y ha => hk _ _ (fun z => by rw [f a z] at ha; cases ha) (e _ _ ha), hh⟩
      · refine WP.name (WP.fcL Fz hf2 ?_)
        refine WP.iterL hRl fun q hq => ⟨fun a y ha => ⟨y, upd_old ha hq⟩, q, rfl, Draw.list o'.hh, hq, upd_self, fun fb H6 hfb hk => ⟨hfb, fun a y ha => hk _ _ (fun z => by rw [hfb a z] at ha; cases ha) (upd_old ha hq), rfl⟩⟩
      · rintro fb C k v ws H6 f6 hk6 hv ⟨hfb, e6, rfl⟩ _ htold hfC hC hfx
        obtain ⟨n, t, rfl, hn⟩ := intsAre_get' hRi hv
        rw [List.getElem?_map] at hn
        obtain ⟨j, hj, rfl⟩ := Option.map_eq_some_iff.mp hn
        have hjn := hW.rt j (List.mem_of_getElem? hj)
        have hcb : Hz (_) = some (.cell (cm "barred")) := Fz.cell "barred" _ rfl
        have hct : Hz (_) = some (.cell (cm "things")) := Fz.cell "things" _ rfl
        rw [q5] at hcb
        rw [q2] at hct
        refine WP.tests1 (WP.tCmp (WP.name (WP.loadL hC hfx (WP.name (WP.loadC rfl (e6 _ _ hcb) (WP.ninI (hbz.ext fun y => e6 _ y) (WP.truthB ⟨fun a y _ hy => hy, ?_⟩)))))))
        rw [any_toI, List.take_add_one, hj, List.filter_append]
        by_cases hjb : j ∈ bar
        · rw [if_neg (by simp [hjb])]
          exact ⟨hfb, e6, by simp [hjb]⟩
        · rw [if_pos (by simp [hjb])]
          refine WP.sub (WP.name (WP.loadC rfl (e6 _ _ hct) (WP.name (WP.loadL hC hfx (WP.item (e6 _ _ htlz) (by omega) (x := .ref (X.getD j 0)) (by simpa using hXg j hjn) ?_ (by omega))))))
          exact ⟨fun a y _ hy => hy, hfb, e6, by simp [hjb]⟩
      rintro rl fb ws H6 ⟨hfb, e6, rfl⟩ _ hfrl _ hrl6
      have F6 := Fz.ext e6
      refine WP.name (WP.fcC F6 q1 ?_)
      refine r_set B (e6 _ _ hcyz) (by kernel_rfl) (Nat.le_of_ble_eq_true rfl) fun Hs hcys bs => ?_
      have xcy : ∀ a y, Hz a = some y → (∀ kv, y ≠ .inst 346 kv) → a ∉ [cy] := fun a y ha hy z => by
        rw [List.mem_singleton.mp z, hcyz] at ha; cases ha; exact hy _ rfl
      have ks : ∀ a y, H13 a = some y → ¬OW a → a ≠ cy → a ≠ ob → a ∉ X → Hs a = some y := fun a y ha h1 h2 h3 h4 => bs _ _ (e6 _ _ (kz a y ha h1 h2 h3 h4)) (by simpa using h2)
      have Fs : FrC Hs _ f cm := F6.but bs (by
        intro a ha
        rw [List.mem_singleton.mp ha]
        exact F6.ne (e6 _ _ hcyz) rfl)
      have kzs : ∀ a y, Hz a = some y → a ≠ cy → Hs a = some y := fun a y ha h1 => bs _ _ (e6 _ _ ha) (by simpa using h1)
      have hobs : DictAt (intKind prog w) Hs ob (kvsX X W.n) := hobz.ext fun y hy => kzs _ _ hy (Ne.symm cyob)
      have hXs : ∀ i, i < W.n → ∃ t1 t2 t3, Hs (X.getD i 0) = some (.inst 367 [("number", .int i t1), ("mark", .int 0 t2), ("size", .int (W.rooms.getD i 0) t3)]) := fun i hi => by
        obtain ⟨t1, t2, t3, h3⟩ := hXz i hi
        exact ⟨t1, t2, t3, kzs _ _ h3 (fun z => cyX (by rw [← z]; exact hXm i hi))⟩
      have rlz : Hz rl = none := hfb _ hfrl
      have rlcy : rl ≠ cy := fun z => by rw [z, hcyz] at rlz; cases rlz
      have hrls := bs _ _ hrl6 (by simpa using rlcy)
      rw [List.take_of_length_le (show W.roots.length ≤ vsR.length by omega)] at hrls
      have tX : ∀ a vs, H13 a = some (.list vs) → a ∉ X := fun a vs ha z => by
        obtain ⟨_, t1, t2, t3, h3⟩ := hX13 a z
        rw [ha] at h3; cases h3
      have lk : ∀ a vs, H13 a = some (.list vs) → Hz a = some (.list vs) ∧ Hs a = some (.list vs) := fun a vs ha => ⟨kz a _ ha (nw _ _ ha rfl) (ne_of ha hcy (by simp)) (ne_of ha hob0 (by simp)) (tX a vs ha), ks a _ ha (nw _ _ ha rfl) (ne_of ha hcy (by simp)) (ne_of ha hob0 (by simp)) (tX a vs ha)⟩
      have hts' := lk _ _ hts
      have hlg' := lk _ _ hlg
      have hla' := lk _ _ hla
      have hlw' := lk _ _ hlw
      have htls := (lk _ _ htl13).2
      have hmos := ks mo _ hmo (nw _ _ hmo rfl) mocy moob moX
      obtain ⟨_, esS, hobS0, _⟩ := id hobs
      have kraw : ∀ a o, H13 a = some (.raw o) → Hs a = some (.raw o) := fun a o ha => ks a _ ha (nw _ _ ha rfl) (ne_of ha hcy (by simp)) (ne_of ha hob0 (by simp)) (fun z => by
        obtain ⟨_, t1, t2, t3, h3⟩ := hX13 a z
        rw [ha] at h3; cases h3)
      obtain ⟨ex, hex⟩ : ∃ ex, ex = cy :: mo :: ob :: ts :: lg :: la :: lw :: X := ⟨_, rfl⟩
      have mex : ∀ a, a ∈ ex ↔ a = cy ∨ a = mo ∨ a = ob ∨ a = ts ∨ a = lg ∨ a = la ∨ a = lw ∨ a ∈ X := fun a => by rw [hex]; simp only [List.mem_cons]
      have nexRC : ∀ a y, Hs a = some y → rc y = true → a ∉ ex := fun a y ha hy z => by
        rcases (mex a).mp z with rfl | rfl | rfl | rfl | rfl | rfl | rfl | z
        · rw [hcys] at ha; cases ha; cases hy
        · rw [hmos] at ha; cases ha; cases hy
        · rw [hobS0] at ha; cases ha; cases hy
        · rw [hts'.2] at ha; cases ha; cases hy
        · rw [hlg'.2] at ha; cases ha; cases hy
        · rw [hla'.2] at ha; cases ha; cases hy
        · rw [hlw'.2] at ha; cases ha; cases hy
        · obtain ⟨_, t1, t2, t3, h3⟩ := hX13 a z
          obtain ⟨i, hi⟩ := List.mem_iff_getElem?.mp z
          have hil : i < X.length := (List.getElem?_eq_some_iff.mp hi).1
          have hg := hXg i (by omega)
          rw [hi] at hg
          obtain ⟨u1, u2, u3, h4⟩ := hXs i (by omega)
          rw [← Option.some.inj hg, ha] at h4
          cases h4; cases hy
      have nexH : ∀ a y, H a = some y → a ∉ [380] → a ∉ ex := fun a y ha hn z => by
        rcases (mex a).mp z with z | z | z | z | z | z | z | z
        · rw [z, (hfr' cy (by simp)).1] at ha; cases ha
        · rw [z, (hfr' mo (by simp)).1] at ha; cases ha
        · rw [z, (hfr' ob (by simp)).1] at ha; cases ha
        · rw [z, (hfr' ts (by simp)).1] at ha; cases ha
        · rw [z, (hfr' lg (by simp)).1] at ha; cases ha
        · rw [z, (hfr' la (by simp)).1] at ha; cases ha
        · rw [z, (hfr' lw (by simp)).1] at ha; cases ha
        · rw [(hX13 a z).1] at ha; cases ha
      have nexT : tl ∉ ex := fun z => by
        rcases (mex tl).mp z with z | z | z | z | z | z | z | z
        · exact (hfr' cy (by simp)).2.2.2 z.symm
        · exact (hfr' mo (by simp)).2.2.2 z.symm
        · exact (hfr' ob (by simp)).2.2.2 z.symm
        · exact (hfr' ts (by simp)).2.2.2 z.symm
        · exact (hfr' lg (by simp)).2.2.2 z.symm
        · exact (hfr' la (by simp)).2.2.2 z.symm
        · exact (hfr' lw (by simp)).2.2.2 z.symm
        · exact tlX z
      have nexR : rl ∉ ex := fun z => by
        rcases (mex rl).mp z with z | z | z | z | z | z | z | z
        · exact rlcy z
        · rw [z, hmos] at hrls; cases hrls
        · rw [z, hobS0] at hrls; cases hrls
        · rw [z, hts'.1] at rlz; cases rlz
        · rw [z, hlg'.1] at rlz; cases rlz
        · rw [z, hla'.1] at rlz; cases rlz
        · rw [z, hlw'.1] at rlz; cases rlz
        · obtain ⟨i, hi⟩ := List.mem_iff_getElem?.mp z
          have hil : i < X.length := (List.getElem?_eq_some_iff.mp hi).1
          have hg := hXg i (by omega)
          rw [hi] at hg
          obtain ⟨u1, u2, u3, h4⟩ := hXs i (by omega)
          rw [← Option.some.inj hg, hrls] at h4; cases h4
      have exin : ∀ a, a = cy ∨ a = mo ∨ a = ob ∨ a = ts ∨ a = lg ∨ a = la ∨ a = lw ∨ a ∈ X → roOf Hs ex a = none := fun a ha => roOf_none ((mex a).mpr ha)
      have bHs : But [380] H Hs := fun a y ha hn => have ⟨h1, h2, h3, h4⟩ := oldH a y ha hn; ks a y (bH13 a y ha hn) h1 h2 h3 h4
      have G : (gOf W bar X mo fl lq (roOf Hs ex)).Good := by
        refine ⟨hn5, hXi, fun i hi c hc => ?_, fun i hi => ?_, fun i hi => exin _ (.inr (.inr (.inr (.inr (.inr (.inr (.inr (hXm i hi)))))))), exin _ (.inr (.inl rfl)), fun a y h => (roOf_some.mp h).2.1⟩
        · have h1 := (List.mem_filter.mp hc).1
          have h2 : W.ways.getD i [] ∈ W.ways := by
            rw [List.getD_eq_getElem?_getD, List.getElem?_eq_getElem (by rw [hW.lw]; exact hi)]; exact List.getElem_mem _
          exact (hW.w2 _ h2).2 c h1
        · have h2 : W.ways.getD i [] ∈ W.ways := by
            rw [List.getD_eq_getElem?_getD, List.getElem?_eq_getElem (by rw [hW.lw]; exact hi)]; exact List.getElem_mem _
          have := List.length_filter_le (fun j => !decide (j ∈ bar)) (W.ways.getD i [])
          have := (hW.w2 _ h2).1
          show (List.filter _ _).length ≤ 2
          omega
      have hfs := kraw _ _ hf13
      have hls := kraw _ _ hl13
      have Cs : Calls prog w h₀ (gOf W bar X mo fl lq (roOf Hs ex)) := by
        refine ⟨⟨_, _, _, _, roOf_some.mpr ⟨hfs, rfl, nexRC _ _ hfs rfl⟩⟩, ⟨_, _, _, _, roOf_some.mpr ⟨hls, rfl, nexRC _ _ hls rfl⟩⟩, ?_, ?_⟩
        · intro A2 d2 Hq i mi t1 t2 t3 Φ2 o2 hd2 er hi hXq kΦ
          change i < W.n at hi
          have kro : ∀ a y, Hs a = some y → calm y = true → a ∉ ex → Hq a = some y := fun a y h1 h2 h3 => er _ _ (roOf_some.mpr ⟨h1, h2, h3⟩)
          have kH : ∀ a vs, H a = some (.list vs) → Hq a = some (.list vs) := fun a vs ha => by
            have hn : a ∉ [380] := by have := ne_of ha hP (by simp); simpa using this
            exact kro _ _ (bHs _ _ ha hn) rfl (nexH _ _ ha hn)
          obtain ⟨oc, vs, tt, hc1', hdd, hvv⟩ := hc13
          have hc1s := kraw _ _ hc1'
          have hc1q := kro _ _ hc1s rfl (nexRC _ _ hc1s rfl)
          have hfq := kro _ _ hfs rfl (nexRC _ _ hfs rfl)
          refine WP.call (WC.mono (WC.fn (Φ := fun fl' H' => ∃ v, fl' = .ret v ∧ Φ2 v H') (binds := [("one", .ref (X.getD i 0))]) B o2 (by omega) (fun h R => R.raw hfq) (fun h R => ⟨c1, oc, vs, tt, rfl, R.raw hc1q, hdd, hvv⟩) (fun _ => .of_eq rfl) (locs rfl) (fun L2 A3 hL2 o3 => ?_)) fun _ _ p => p)
          have up2 : ∀ a y, Hq a = some y → upd Hq L2 (.ns fun y => [(("one" : Str), Value.ref (X.getD i 0))].reverse.lookup y) a = some y := fun a y ha => upd_old ha hL2
          have hLL := upd_self (H := Hq) (a := L2) (x := .ns fun y => [(("one" : Str), Value.ref (X.getD i 0))].reverse.lookup y)
          generalize upd Hq L2 (.ns fun y => [(("one" : Str), Value.ref (X.getD i 0))].reverse.lookup y) = H2q at up2 hLL ⊢
          have hcb : Hs (_) = some (.cell (cm "barred")) := Fs.cell "barred" _ rfl
          have hct : Hs (_) = some (.cell (cm "things")) := Fs.cell "things" _ rfl
          have hcw : Hs (_) = some (.cell (cm "ways")) := Fs.cell "ways" _ rfl
          rw [q5] at hcb
          rw [q2] at hct
          rw [q3] at hcw
          have hcb' := up2 _ _ (kro _ _ hcb rfl (nexRC _ _ hcb rfl))
          have hct' := up2 _ _ (kro _ _ hct rfl (nexRC _ _ hct rfl))
          have hcw' := up2 _ _ (kro _ _ hcw rfl (nexRC _ _ hcw rfl))
          have hasl := hw.l
          obtain ⟨ai, hai⟩ : ∃ ai, as[i]? = some ai := ⟨as[i]'(by rw [hasl]; exact hi), List.getElem?_eq_getElem _⟩
          obtain ⟨row, hrow⟩ : ∃ row, W.ways[i]? = some row := ⟨W.ways[i]'(by rw [hW.lw]; exact hi), List.getElem?_eq_getElem _⟩
          obtain ⟨vsW, hWl, hWi⟩ := hw.rows i ai row hai hrow
          have hlen := intsAre_len hWi
          rw [List.length_map] at hlen
          have hr2 := hW.w2 row (List.mem_of_getElem? hrow)
          have hWq := up2 _ _ (kH _ _ hWl)
          have hwaq := up2 _ _ (kH _ _ hw.w)
          have htlq := up2 _ _ (kro _ _ htls rfl nexT)
          have hbq : LI H2q ba (toI bar) := hb.ext fun y hy => by
            obtain ⟨vsB, hB1, _⟩ := hb
            rw [hB1] at hy; cases hy
            exact up2 _ _ (kH _ _ hB1)
          have hXq2 := up2 _ _ hXq
          refine WP.cons (WP.ret (WP.compV (N := vsW.length) (itO := fun k => .iter ai k) (Src := fun H => H ai = some (.list vsW)) (P := fun k v => vsW[k]? = some v)
            (fun fb k ws H' => (∀ a, fb a → H2q a = none) ∧ Ext H2q H' ∧ ws = ((row.take k).filter fun j => !decide (j ∈ bar)).map fun j => .ref (X.getD j 0))
            (by omega) rfl ?_ (by show H2q L2 ≠ none; rw [hLL]; simp) ?_ ?_ ?_ ?_))
          · rintro fb k ws H6 ⟨_, e, _⟩
            exact ⟨e _ _ hWq, _, e _ _ hLL⟩
          · rintro fb k ws H6 H7 ⟨f, e, hh⟩ hk
            exact ⟨f, fun a y ha => hk _ _ (fun z => by rw [f a z] at ha; cases ha) (e _ _ ha), hh⟩
          · refine WP.sub (WP.name (WP.loadF rfl hcw' (WP.attr (WP.name (WP.loadL hLL rfl ?_)))))
            refine WP.getI B hXq2 rfl (by kernel_rfl) rfl ?_
            refine WP.item hwaq (by omega) (x := .ref ai) (by simpa using hai) ?_ (by omega)
            refine WP.iterL hWq fun q hq => ⟨fun a y ha => ⟨y, upd_old ha hq⟩, q, rfl, Draw.list o3.hh, hq, upd_self, fun fb H6 hfb hk => ⟨hfb, fun a y ha => hk _ _ (fun z => by rw [hfb a z] at ha; cases ha) (upd_old ha hq), rfl⟩⟩
          · rintro fb C k v ws H6 f6 hk6 hv ⟨hfb, e6, rfl⟩ _ htold hfC hC hfx
            obtain ⟨n, t, rfl, hn⟩ := intsAre_get' hWi hv
            rw [List.getElem?_map] at hn
            obtain ⟨j, hj, rfl⟩ := Option.map_eq_some_iff.mp hn
            have hjn := hr2.2 j (List.mem_of_getElem? hj)
            refine WP.tests1 (WP.tCmp (WP.name (WP.loadL hC hfx (WP.name (WP.loadF rfl (e6 _ _ hcb') (WP.ninI (hbq.ext fun y => e6 _ y) (WP.truthB ⟨fun a y _ hy => hy, ?_⟩)))))))
            rw [any_toI, List.take_add_one, hj, List.filter_append]
            by_cases hjb : j ∈ bar
            · rw [if_neg (by simp [hjb])]
              exact ⟨hfb, e6, by simp [hjb]⟩
            · rw [if_pos (by simp [hjb])]
              refine WP.sub (WP.name (WP.loadF rfl (e6 _ _ hct') (WP.name (WP.loadL hC hfx (WP.item (e6 _ _ htlq) (by omega) (x := .ref (X.getD j 0)) (by simpa using hXg j hjn) ?_ (by omega))))))
              exact ⟨fun a y _ hy => hy, hfb, e6, by simp [hjb]⟩
          rintro acc fb ws H6 ⟨hfb, e6, rfl⟩ _ hfa _ hacc
          refine ⟨_, rfl, kΦ acc H6 (fun a y ha => e6 _ _ (up2 _ _ ha)) ?_ ?_⟩
          · cases z : Hq acc with
            | none => rfl
            | some y => have := up2 _ _ z; rw [hfb _ hfa] at this; cases this
          · rw [List.take_of_length_le (show row.length ≤ vsW.length by omega)] at hacc
            rw [hacc]
            show _ = some (AObj.list (((W.ways.getD i []).filter fun j => !decide (j ∈ bar)).map fun j => .ref (X.getD j 0)))
            rw [show W.ways.getD i [] = row by rw [List.getD_eq_getElem?_getD, hrow]; rfl]
        · intro A2 d2 Hq i mi t1 t2 t3 Φ2 o2 hd2 er hi hXq kΦ
          change i < W.n at hi
          have kro : ∀ a y, Hs a = some y → calm y = true → a ∉ ex → Hq a = some y := fun a y h1 h2 h3 => er _ _ (roOf_some.mpr ⟨h1, h2, h3⟩)
          obtain ⟨oc, vs, tt, hc1', hdd, hvv⟩ := hd13
          have hc1s := kraw _ _ hc1'
          have hc1q := kro _ _ hc1s rfl (nexRC _ _ hc1s rfl)
          have hlq' := kro _ _ hls rfl (nexRC _ _ hls rfl)
          have hcs : Hs (_) = some (.cell (cm "sorts")) := Fs.cell "sorts" _ rfl
          rw [q4] at hcs
          have hcs' := kro _ _ hcs rfl (nexRC _ _ hcs rfl)
          have hsq : LI Hq sa W.sorts := by
            obtain ⟨vsB, hB1, hB2⟩ := hw.s
            have hn : sa ∉ [380] := by have := ne_of hB1 hP (by simp); simpa using this
            exact ⟨vsB, kro _ _ (bHs _ _ hB1 hn) rfl (nexH _ _ hB1 hn), hB2⟩
          refine WP.call (WC.fnE (binds := [("one", .ref (X.getD i 0))]) B o2 (by omega) hlq' ⟨oc, vs, tt, hc1q, hdd, hvv⟩ rfl (locs rfl) fun L2 A3 H2q hL2 o3 e2 hLL => ?_)
          refine WP.sub (WP.name (WP.loadF rfl (e2 _ _ hcs') (WP.attr (WP.name (WP.loadL hLL rfl ?_)))))
          refine WP.getI B (e2 _ _ hXq) rfl (by kernel_rfl) rfl ?_
          refine WP.itemI (n := W.sorts.getD i 0) (hsq.ext fun y => e2 _ y) ?_ (by omega) fun tk => kΦ tk H2q e2
          have hi' : i < W.sorts.length := by rw [hW.ls]; exact hi
          rw [List.getD_eq_getElem?_getD, List.getElem?_eq_getElem hi']; rfl
      have hliv : live (gOf W bar X mo fl lq (roOf Hs ex)) (fun _ => true) = List.range W.n := List.filter_eq_self.mpr (by simp)
      have S : CSt prog w (gOf W bar X mo fl lq (roOf Hs ex)) cy ⟨ob, rl, ts, 0, sumX W.rooms W.n, 0, 0, 256, 0, fun _ => true, []⟩ (fun _ => 0) [] [] [] lg la lw 0 Hs := by
        refine ⟨⟨fun a y h => (roOf_some.mp h).1, hXs, ⟨tm, hmos⟩, hlg'.2, hla'.2, hlw'.2, d8, d9, d10, exin _ (by simp), exin _ (by simp), exin _ (by simp)⟩, ⟨_, hcys⟩, ?_, ⟨[], hts'.2, .nil⟩, exin _ (by simp), exin _ (by simp), exin _ (by simp), d5, d6, d7⟩
        rw [hliv]; exact hobs
      refine WP.cons (WP.expr (WP.callM (WP.name (WP.fcC Fs q1 ?_))))
      refine WP.meth (f := 308) B hcys (by kernel_rfl) rfl ?_
      refine WP.cwK B (by k_is) (WP.args (WP.cNone (WP.args0 ?_)))
      refine s_full (src := srcB W bar) B G Cs o' (by omega) S rfl (fun _ _ => rfl) (fun _ _ => rfl) (by show _ = (((live _ _).map _).sum : Int); rw [hliv]) (roOf_some.mpr ⟨hrls, rfl, nexR⟩) (fun i hi => hW.rt i (List.mem_filter.mp hi).1) fun H' c' m' gs' ga' wk' lg' la' lw' wh' S' C' hq' ht' => ?_
      have kr : ∀ a y, Hs a = some y → calm y = true → a ∉ ex → H' a = some y := fun a y h1 h2 h3 => S'.ms.ro _ _ (roOf_some.mpr ⟨h1, h2, h3⟩)
      have F' : FrC H' _ f cm := ⟨C'.ns Fs.loc, fun n c hc => kr _ _ (Fs.cell n c hc) rfl (nexRC _ _ (Fs.cell n c hc) rfl), Fs.apart⟩
      have b' : But [380] H H' := fun a y ha hn => by
        have h1 := bHs _ _ ha hn
        cases hc : calm y with
        | true => exact kr _ _ h1 hc (nexH _ _ ha hn)
        | false => exact (C' _ _ h1).1 hc
      have T' : Tab qsL H' := T13.ext fun a o ha => kr _ _ (kraw _ _ ha) rfl (nexRC _ _ (kraw _ _ ha) rfl)
      have htl' := kr _ _ htls rfl nexT
      clear kr Cs S G nexRC nexH nexT nexR exin bHs kraw lk ks kzs kz T13 hf13 hl13 hc13 hd13 hfs hls
      -- the answer
      refine WP.cons (WP.ret (WP.eTuple (WP.args (WP.mono (Φ := fun v Hx => ∃ l, v = .ref l ∧ H' l = none ∧ Ext H' Hx ∧ LI Hx l (toI ((List.range W.n).filter fun j => !c'.q j))) ?_ ?_))))
      · have hcell' : H' (_) = some (.cell (cm "heap")) := F'.cell "heap" _ rfl
        rw [q1] at hcell'
        refine WP.comp (fun it acc C n Hc => ∃ e itq k old ws mC, it = .ref e ∧ k ≤ W.n ∧ n = W.n - k ∧ Hc e = some (.raw (enumO itq ((k : Nat) : Int) old)) ∧ Hc itq = some (.iter tl k) ∧ Hc acc = some (.list ws) ∧ Hc C = some (.ns mC) ∧ H' acc = none ∧ H' C = none ∧ H' e = none ∧ H' itq = none ∧ Ext H' Hc ∧ ws.length ≤ k ∧ IntsAre ws (toI ((List.range k).filter fun j => !c'.q j)))
          rfl (by decide) rfl (by decide) ?_ ?_
        · refine WP.callN (WP.name (WP.blt B (by k_is) rfl (by decide) ?_))
          refine WP.cwT (WP.args (WP.name (WP.fcC F' q2 ?_)))
          refine WP.args0 (WP.enum htl' fun itq e n1 n2 ne => WP.iterE upd_self fun acc C na nC nac => ?_)
          have fr : ∀ q, upd (upd H' itq (.iter tl 0)) e (.raw (enumO itq 0 .none)) q = none → H' q = none ∧ q ≠ e ∧ q ≠ itq := fun q hq => by
            have h1 : q ≠ e := fun z => by rw [z, upd_self] at hq; cases hq
            rw [upd_ne h1] at hq
            have h2 : q ≠ itq := fun z => by rw [z, upd_self] at hq; cases hq
            rw [upd_ne h2] at hq
            exact ⟨hq, h1, h2⟩
          obtain ⟨a1, a2, a3⟩ := fr acc na
          obtain ⟨c1', c2', c3⟩ := fr C nC
          have hE : (upd (upd (upd (upd H' itq (.iter tl 0)) e (.raw (enumO itq 0 .none))) acc (.list [])) C (.ns fun _ => none)) e = some (.raw (enumO itq 0 .none)) := by rw [upd_ne (Ne.symm c2'), upd_ne (Ne.symm a2), upd_self]
          have I0 : ∃ n, ∃ e' itq' k old ws mC, (Value.ref e) = .ref e' ∧ k ≤ W.n ∧ n = W.n - k ∧ (upd (upd (upd (upd H' itq (.iter tl 0)) e (.raw (enumO itq 0 .none))) acc (.list [])) C (.ns fun _ => none)) e' = some (.raw (enumO itq' ((k : Nat) : Int) old)) ∧ (upd (upd (upd (upd H' itq (.iter tl 0)) e (.raw (enumO itq 0 .none))) acc (.list [])) C (.ns fun _ => none)) itq' = some (.iter tl k) ∧ (upd (upd (upd (upd H' itq (.iter tl 0)) e (.raw (enumO itq 0 .none))) acc (.list [])) C (.ns fun _ => none)) acc = some (.list ws) ∧ (upd (upd (upd (upd H' itq (.iter tl 0)) e (.raw (enumO itq 0 .none))) acc (.list [])) C (.ns fun _ => none)) C = some (.ns mC) ∧ H' acc = none ∧ H' C = none ∧ H' e' = none ∧ H' itq' = none ∧ Ext H' (upd (upd (upd (upd H' itq (.iter tl 0)) e (.raw (enumO itq 0 .none))) acc (.list [])) C (.ns fun _ => none)) ∧ ws.length ≤ k ∧ IntsAre ws (toI ((List.range k).filter fun j => !c'.q j)) :=
            ⟨W.n, e, itq, 0, .none, [], _, rfl, Nat.zero_le _, rfl, hE, by rw [upd_ne (Ne.symm c3), upd_ne (Ne.symm a3), upd_ne ne, upd_self], by rw [upd_ne nac, upd_self], upd_self, a1, c1', n2, n1, fun a y ha => by
              rw [upd_ne (fun z => by rw [z, c1'] at ha; cases ha), upd_ne (fun z => by rw [z, a1] at ha; cases ha), upd_ne (fun z => by rw [z, n2] at ha; cases ha)]; exact upd_old ha n1, Nat.le_refl _, .nil⟩
          exact ⟨WP.iterE hE ⟨rfl, I0⟩, I0⟩
        · rintro it acc C n Hc ⟨e, itq, k, old, ws, mC, rfl, hk, rfl, he, hit, hacc, hC, fa, fC, fe, fi, ec, hwl, hws⟩
          have htlc := ec _ _ htl'
          have nei : e ≠ itq := ne_of he hit (by simp)
          have nea : acc ≠ e := ne_of hacc he (by simp)
          have nia : acc ≠ itq := ne_of hacc hit (by simp)
          have nCe : C ≠ e := ne_of hC he (by simp)
          have nCi : C ≠ itq := ne_of hC hit (by simp)
          have nCa : C ≠ acc := ne_of hC hacc (by simp)
          by_cases hkn : k < W.n
          · refine WP.nextE (v := .ref (X.getD k 0)) he hit htlc (by rw [List.getElem?_map, hXg k hkn]; rfl) fun tq tkq ntq => ?_
            have tqe : tq ≠ e := fun z => by rw [z, he] at ntq; cases ntq
            refine WP.ownE (it := itq) (i := (k : Int) + 1) (v := .ref (X.getD k 0)) (by rw [upd_ne (Ne.symm tqe), upd_self]) ?_
            have bb : But [itq, e] Hc (upd (upd (upd (upd Hc itq (.iter tl (k + 1))) e (.raw (enumT itq ((k : Int) + 1) (.ref (X.getD k 0)) tq))) tq (.raw (tupO [.int k tkq, .ref (X.getD k 0)]))) e (.raw (enumO itq ((k : Int) + 1) (.ref (X.getD k 0))))) := fun a y ha hn => by
              simp only [List.mem_cons, List.not_mem_nil, or_false, not_or] at hn
              rw [upd_ne hn.2, upd_ne (fun z => by rw [z, ntq] at ha; cases ha), upd_ne hn.2, upd_ne hn.1]; exact ha
            have htq : (upd (upd (upd (upd Hc itq (.iter tl (k + 1))) e (.raw (enumT itq ((k : Int) + 1) (.ref (X.getD k 0)) tq))) tq (.raw (tupO [.int k tkq, .ref (X.getD k 0)]))) e (.raw (enumO itq ((k : Int) + 1) (.ref (X.getD k 0))))) tq = some (.raw (tupO [.int k tkq, .ref (X.getD k 0)])) := by rw [upd_ne tqe, upd_self]
            have hit2 : (upd (upd (upd (upd Hc itq (.iter tl (k + 1))) e (.raw (enumT itq ((k : Int) + 1) (.ref (X.getD k 0)) tq))) tq (.raw (tupO [.int k tkq, .ref (X.getD k 0)]))) e (.raw (enumO itq ((k : Int) + 1) (.ref (X.getD k 0))))) itq = some (.iter tl (k + 1)) := by
              rw [upd_ne (Ne.symm nei), upd_ne (fun z => by rw [← z, hit] at ntq; cases ntq), upd_ne (Ne.symm nei), upd_self]
            have he2 : (upd (upd (upd (upd Hc itq (.iter tl (k + 1))) e (.raw (enumT itq ((k : Int) + 1) (.ref (X.getD k 0)) tq))) tq (.raw (tupO [.int k tkq, .ref (X.getD k 0)]))) e (.raw (enumO itq ((k : Int) + 1) (.ref (X.getD k 0))))) e = some (.raw (enumO itq ((k : Int) + 1) (.ref (X.getD k 0)))) := upd_self
            generalize (upd (upd (upd (upd Hc itq (.iter tl (k + 1))) e (.raw (enumT itq ((k : Int) + 1) (.ref (X.getD k 0)) tq))) tq (.raw (tupO [.int k tkq, .ref (X.getD k 0)]))) e (.raw (enumO itq ((k : Int) + 1) (.ref (X.getD k 0))))) = Hd at bb htq hit2 he2 ⊢
            have hCd := bb _ _ hC (by simp [nCe, nCi])
            have haccd := bb _ _ hacc (by simp [nea, nia])
            have ed : Ext H' Hd := fun a y ha => bb _ _ (ec _ _ ha) (by
              simp only [List.mem_cons, List.not_mem_nil, or_false, not_or]
              exact ⟨fun z => (by rw [z, fi] at ha; cases ha), fun z => (by rw [z, fe] at ha; cases ha)⟩)
            refine WP.aTup o'.hh htq ?_
            refine WP.ao1 (WP.aName (WP.stL hCd ?_))
            refine WP.ao1 (WP.aName (WP.stL upd_self (WP.ao0 ?_)))
            show WP prog w h₀ A' _ (upd (upd Hd C _) C _) _
            rw [upd_upd]
            have hCf := upd_self (H := Hd) (a := C) (x := .ns fun y => if y = ("one" : Str) then some (.ref (X.getD k 0)) else if y = ("at" : Str) then some (.int k tkq) else mC y)
            have bf : ∀ a y, Hd a = some y → a ≠ C → upd Hd C (.ns fun y => if y = ("one" : Str) then some (.ref (X.getD k 0)) else if y = ("at" : Str) then some (.int k tkq) else mC y) a = some y := fun a y ha hn => by rw [upd_ne hn]; exact ha
            change WP prog w h₀ A' _ (upd Hd C (.ns fun y => if y = ("one" : Str) then some (.ref (X.getD k 0)) else if y = ("at" : Str) then some (.int k tkq) else mC y)) _
            generalize upd Hd C (.ns fun y => if y = ("one" : Str) then some (.ref (X.getD k 0)) else if y = ("at" : Str) then some (.int k tkq) else mC y) = Hf at hCf bf ⊢
            have ef : Ext H' Hf := fun a y ha => bf _ _ (ed _ _ ha) (fun z => by rw [z, fC] at ha; cases ha)
            have Sf := S'.ext ef
            obtain ⟨tc, hcf⟩ := Sf.cy_
            refine WP.tests1 (WP.tNot (WP.tVal (WP.callM (WP.name (WP.loadC rfl (ef _ _ hcell') ?_)))))
            refine WP.meth (f := 210) B hcf (by kernel_rfl) rfl ?_
            refine WP.cwK B (by k_is) (WP.args (WP.name (WP.loadL hCf rfl ?_)))
            refine WP.args0 (s_is_kept B o' (by omega) Sf hkn fun H2 e2 => WP.truthB ?_)
            have hrng : (List.range (k + 1)).filter (fun j => !c'.q j) = (List.range k).filter (fun j => !c'.q j) ++ if c'.q k then [] else [k] := by
              rw [List.range_succ, List.filter_append]
              cases hck : c'.q k <;> simp [hck]
            cases hck : c'.q k with
            | true =>
              rw [hck] at hrng
              refine ⟨W.n - (k + 1), by omega, e, itq, k + 1, _, ws, _, rfl, hkn, rfl, e2 _ _ (bf _ _ he2 (Ne.symm nCe)), e2 _ _ (bf _ _ hit2 (Ne.symm nCi)), e2 _ _ (bf _ _ haccd (Ne.symm nCa)), e2 _ _ hCf, fa, fC, fe, fi, ef.trans e2, by omega, ?_⟩
              rw [hrng]; simpa using hws
            | false =>
              rw [hck] at hrng
              refine WP.name (WP.loadL (e2 _ _ hCf) rfl ?_)
              have hacc2 := e2 _ _ (bf _ _ haccd (Ne.symm nCa))
              refine WP.append hacc2 ?_ (by omega)
              refine ⟨W.n - (k + 1), by omega, e, itq, k + 1, _, ws ++ [.int k tkq], _, rfl, hkn, rfl, by rw [upd_ne (Ne.symm nea)]; exact e2 _ _ (bf _ _ he2 (Ne.symm nCe)), by rw [upd_ne (Ne.symm nia)]; exact e2 _ _ (bf _ _ hit2 (Ne.symm nCi)), upd_self, by rw [upd_ne nCa]; exact e2 _ _ hCf, fa, fC, fe, fi, fun a y ha => ?_, by simp; omega, ?_⟩
              · rw [upd_ne (fun z => by rw [z, fa] at ha; cases ha)]; exact e2 _ _ (ef _ _ ha)
              · rw [hrng]
                show IntsAre _ (toI (_ ++ [k]))
                rw [show toI ((List.range k).filter (fun j => !c'.q j) ++ [k]) = toI ((List.range k).filter (fun j => !c'.q j)) ++ [(k : Int)] by simp]
                exact intsAre_push hws
          · have hkk : k = W.n := by omega
            subst hkk
            refine WP.endE o'.hh he hit htlc (by rw [List.getElem?_map, List.getElem?_eq_none (by omega)]; rfl) ?_
            have ed : Ext H' (del Hc itq) := fun a y ha => by rw [del_ne (fun z => by rw [z, fi] at ha; cases ha)]; exact ec _ _ ha
            refine ⟨⟨mC, by rw [del_ne nCi]; exact hC⟩, ⟨_, _, fun z => ?_, ed _ _ F'.loc⟩, acc, rfl, fa, fun a y ha => ?_, ws, ?_, hws⟩
            · have := F'.loc; rw [z, fC] at this; cases this
            · rw [del_ne (fun z => by rw [z, fC] at ha; cases ha)]; exact ed _ _ ha
            · rw [del_ne (Ne.symm nCa), del_ne nia]; exact hacc
      · rintro v Hx ⟨l, rfl, nl, ex', hl⟩
        have Fx := F'.ext ex'
        obtain ⟨tc, hcx⟩ := (S'.ext ex').cy_
        refine WP.args (WP.attr (WP.name (WP.fcC Fx q1 ?_)))
        refine WP.getI B hcx rfl (by kernel_rfl) rfl ?_
        refine WP.args0 (WP.newTuple fun r hr => ?_)
        have b2 := (b'.trans (Ext.but ex')).trans (But.refl.new (x := .raw (tupO [.ref l, .int c'.tot (tc 1)])) hr)
        refine h _ r l (tc 1) c'.q hq' b2 ?_ ?_ ?_ ?_
        · exact (T'.ext fun a o ha => ex' _ _ ha).ext fun a o ha => upd_old ha hr
        · rw [← show c'.tot = (((List.range W.n).filter c'.q).map fun j => W.rooms.getD j 0).sum from ht']
          exact upd_self
        · exact hl.ext fun y hy => upd_old hy hr
        · cases z : H l with
          | none => rfl
          | some y =>
            obtain ⟨ps', e380, _⟩ := T'
            have hne : l ∉ [380] := fun e => by rw [List.mem_singleton.mp e, e380] at nl; cases nl
            have := b' _ _ z hne
            rw [nl] at this; cases this
end
end Mine
end
section
open PySem PySem.W PyProof.Rows PySem.Calls
namespace Mine
theorem fill17 : (PySem.Challenge.rw_xm0623_01, Mine.hk.heap_1) = (PySem.Challenge.rw_xm0623_01, Mine.hk.heap_1) := by
  k_fill
  rfl
section
variable {prog : Program} {w : World} {h₀ : Heap} {A : Around} {d : Nat} {H H' : HM} {Φ : Value → HM → Prop}
/-- the drawing dict: at most b drawn -/
def Dr (prog : Program) (w : World) (H : HM) (dd tl : Addr) (b : Nat) : Prop := ∃ ns, ∃ p : Nat, ∃ tk, DictAt (strKind prog w) H dd [(("told" : Str), .ref tl), ("gone", .int (p : Int) tk)] ∧ LI H tl ns ∧ ns.length ≤ 100 ∧ p ≤ b
theorem Dr.keep {dd tl : Addr} {b : Nat} (x : Dr prog w H dd tl b) (e1 : ∀ y, H dd = some y → H' dd = some y) (e2 : ∀ y, H tl = some y → H' tl = some y) : Dr prog w H' dd tl b := let ⟨ns, p, tk, h1, h2, h3⟩ := x; ⟨ns, p, tk, h1.ext e1, h2.ext e2, h3⟩
theorem Dr.ext {dd tl : Addr} {b : Nat} (x : Dr prog w H dd tl b) (e : Ext H H') : Dr prog w H' dd tl b := x.keep (fun y => e _ y) fun y => e _ y

theorem s_one_of (B : Bs (Mine.hk.heap_1 w.params) h₀) (o : Ok A d) (hd : d ≤ 600) {dd tl : Addr} {b : Nat} {many : Int} {tm : Tok} (hD : Dr prog w H dd tl b) (hb : b < 1000) (hm : 0 < many)
    (h : ∀ H' v tk, But [dd] H H' → Dr prog w H' dd tl (b + 1) → 0 ≤ v → v < many → Φ (.int v tk) H') : WP prog w h₀ A (call (.ref 378) [.ref dd, .int many tm]) H Φ := by
  refine WP.fn (binds := [("heap_of", .ref dd), ("many", .int many tm)]) B o (by omega) (by k_is) (by k_is) (fun _ => .of_eq rfl) (locs rfl) (fun L A' H1 hL o' e1 hL1 => ?_)
  obtain ⟨ns, p, tk, hdd, hns, hnl, hpb⟩ := hD
  have hdd1 := hdd.ext fun y => e1 _ y
  have hns1 := hns.ext fun y => e1 _ y
  refine WP.cons (WP.asgName (WP.sub (WP.name (WP.loadL hL1 rfl (WP.cStr fun tk1 => ?_)))))
  refine WP.dItem (knd := strKind prog w) (k := "gone") hdd1 (strKind_is _ _ _ _) rfl ?_
  refine WP.stG hL1 fun H2 q2 hL2 => ?_
  have k2 : ∀ a y, H1 a = some y → notOwn y = true → H2 a = some y := fun a y ha hy => (q2 a (fun z => by rw [z, hL1] at ha; cases ha; cases hy)).trans ha
  have hdd2 := hdd1.ext fun y hy => k2 _ _ hy (by obtain ⟨_, es, e, _⟩ := hdd1; rw [e] at hy; cases hy; rfl)
  have hns2 := hns1.ext fun y hy => k2 _ _ hy (by obtain ⟨vs, e, _⟩ := hns1; rw [e] at hy; cases hy; rfl)
  have e2 : Ext H H2 := fun a y ha => (q2 a (fun z => by rw [z, hL] at ha; cases ha)).trans (e1 _ _ ha)
  refine WP.cons (WP.asgSub (WP.binop (WP.name (WP.loadL hL2 rfl (WP.cInt fun tk2 => WP.add fun tk3 => WP.name (WP.loadL hL2 rfl (WP.cStr fun tk4 => ?_)))))))
  refine WP.dSet (knd := strKind prog w) (k := "gone") hdd2 (strKind_is _ _ _ _) (by simp) fun es hes => ?_
  have bes : But [dd] H2 (upd H2 dd (.dict es)) := But.upd (by simp)
  have hdL : dd ≠ L := fun z => by obtain ⟨_, es, e, _⟩ := hdd; rw [z, hL] at e; cases e
  have htd : tl ≠ dd := fun z => by obtain ⟨_, es, e, _⟩ := hdd; obtain ⟨vs, e', _⟩ := hns; rw [z, e] at e'; cases e'
  generalize upd H2 dd (.dict es) = H3 at hes bes ⊢
  have hL3 := bes _ _ hL2 (by simpa using Ne.symm hdL)
  have hns3 : LI H3 tl ns := hns2.but bes (by simpa using htd)
  have hes3 : DictAt (strKind prog w) H3 dd [(("told" : Str), .ref tl), ("gone", .int ((p + 1 : Nat) : Int) tk3)] := hes
  have D3 : Dr prog w H3 dd tl (b + 1) := ⟨ns, p + 1, tk3, hes3, hns3, hnl, by omega⟩
  have b3 : But [dd] H H3 := (Ext.but e2).trans bes
  have hm0 : many ≠ 0 := by omega
  have fin : ∀ x : Int, 0 ≤ x.fmod many ∧ x.fmod many < many := fun x => ⟨Int.fmod_nonneg_of_pos x hm, Int.fmod_lt_of_pos x hm⟩
  refine WP.cons (WP.ifS (WP.tCmp (WP.name (WP.loadL hL3 rfl (WP.callN (WP.name (WP.blt B (by k_is) rfl (by decide) ?_)))))))
  refine WP.cwB (WP.args (WP.sub (WP.name (WP.loadL hL3 rfl (WP.cStr fun tk5 => ?_)))))
  refine WP.dItem (knd := strKind prog w) (k := "told") hes3 (strKind_is _ _ _ _) rfl ?_
  obtain ⟨vsT, hT3, hTi⟩ := id hns3
  have hlen := intsAre_len hTi
  refine WP.args0 (WP.len hT3 (fun tk6 => WP.lt (WP.truthB ?_)) (by omega))
  rw [hlen]
  by_cases hlt : p < ns.length
  · rw [show decide ((p : Int) < ((ns.length : Nat) : Int)) = true from decide_eq_true (by omega)]
    refine WP.cons (WP.ret (WP.binop (WP.sub (WP.sub (WP.name (WP.loadL hL3 rfl (WP.cStr fun tk7 => ?_)))))))
    refine WP.dItem (knd := strKind prog w) (k := "told") hes3 (strKind_is _ _ _ _) rfl ?_
    refine WP.name (WP.loadL hL3 rfl ?_)
    refine WP.itemI (n := ns[p]) hns3 (List.getElem?_eq_getElem hlt) (by omega) fun tk8 => ?_
    exact WP.name (WP.loadL hL3 rfl (WP.mod hm0 fun tk9 => h H3 _ tk9 b3 D3 (fin _).1 (fin _).2))
  · rw [show decide ((p : Int) < ((ns.length : Nat) : Int)) = false from decide_eq_false (by omega)]
    have hbits : ∀ n : Int, n.natAbs ≤ 2000000 → Builtin.Int.intBits n ≤ 64 := fun n hn => intBits_le_iff.mpr (Nat.lt_of_le_of_lt hn (by decide))
    refine WP.nil (WP.cons (WP.ret (WP.binop (WP.binop (WP.binop (WP.binop (WP.cInt fun t1 => WP.name (WP.loadL hL3 rfl (WP.mul (IntMulOk.of_right (hbits _ (by omega))) fun t2 => ?_)))))))))
    refine WP.binop (WP.binop (WP.name (WP.loadL hL3 rfl (WP.name (WP.loadL hL3 rfl (WP.mul (IntMulOk.of_right (hbits _ (by omega))) fun t3 => ?_))))))
    refine WP.cInt fun t4 => WP.fdiv (by decide) (PyProof.noPylong_small (by decide)) fun t5 => ?_
    refine WP.add fun t6 => WP.cInt fun t7 => WP.add fun t8 => WP.name (WP.loadL hL3 rfl (WP.mod hm0 fun tk9 => h H3 _ tk9 b3 D3 (fin _).1 (fin _).2))
end
end Mine
end
section
namespace Mine
/-- a way through that comes to nothing twice, and where it ends -/
inductive Pth (W : Wd) : List Nat → Nat → Prop
  | one {r : Nat} : r ∈ W.roots → Pth W [r] r
  | snoc {p : List Nat} {v j : Nat} : Pth W p v → j ∈ W.ways.getD v [] → j ∉ p → Pth W (p ++ [j]) j

section
variable {W : Wd} {p q : List Nat} {v j : Nat}
theorem Pth.last (h : Pth W p v) : p.getLast? = some v := by
  cases h with
  | one _ => rfl
  | snoc _ _ _ => simp
theorem Pth.ne (h : Pth W p v) : p ≠ [] := by
  intro e; have := h.last; rw [e] at this; cases this
theorem Pth.mem (h : Pth W p v) : v ∈ p := List.mem_of_getLast? h.last
theorem Wd.Ok.way (hW : W.Ok) {v j : Nat} (h : j ∈ W.ways.getD v []) : j < W.n := by
  rw [List.getD_eq_getElem?_getD] at h
  cases e : W.ways[v]? with
  | none => rw [e] at h; cases h
  | some r => rw [e] at h; exact (hW.w2 r (List.mem_of_getElem? e)).2 j h
theorem Pth.lt (hW : W.Ok) (h : Pth W p v) : ∀ x ∈ p, x < W.n := by
  induction h with
  | one h => intro x hx; rw [List.mem_singleton.mp hx]; exact hW.rt _ h
  | snoc _ hj _ ih =>
    intro x hx
    rcases List.mem_append.mp hx with hx | hx
    · exact ih x hx
    · rw [List.mem_singleton.mp hx]; exact hW.way hj
theorem Pth.nodup (h : Pth W p v) : p.Nodup := by
  induction h with
  | one h => simp
  | snoc _ _ hn ih =>
    rw [List.nodup_append]
    refine ⟨ih, by simp, fun a ha b hb e => ?_⟩
    rw [List.mem_singleton.mp hb] at e
    exact hn (e ▸ ha)
theorem nodup_len : ∀ (n : Nat) (p : List Nat), p.Nodup → (∀ x ∈ p, x < n) → p.length ≤ n
  | 0, [], _, _ => Nat.le_refl _
  | 0, x :: _, _, h => absurd (h x (by simp)) (Nat.not_lt_zero _)
  | n + 1, p, hn, h => by
    have h1 := nodup_len n (p.erase n) (hn.erase n) (fun x hx => by
      have h2 := List.mem_of_mem_erase hx
      have h3 := h x h2
      have h4 : x ≠ n := fun e => by
        rw [e] at hx
        exact (List.Nodup.not_mem_erase hn) hx
      omega)
    have h2 := List.length_erase (a := n) (l := p)
    split at h2 <;> omega
theorem Pth.len (hW : W.Ok) (h : Pth W p v) : p.length ≤ W.n := nodup_len _ _ h.nodup (h.lt hW)
theorem Pth.len1 (h : Pth W p v) : 1 ≤ p.length := by
  cases h with
  | one _ => simp
  | snoc _ _ _ => simp
/-- a way's going on -/
theorem Pth.next (h : Pth W q v) : ∀ p0 j r, q = p0 ++ j :: r → p0 ≠ [] → ∃ v0, Pth W p0 v0 ∧ j ∈ W.ways.getD v0 [] ∧ j ∉ p0 := by
  induction h with
  | one _ =>
    intro p0 j r e hne
    cases p0 with
    | nil => exact absurd rfl hne
    | cons a t => simp at e
  | @snoc p v j' hp hj hn ih =>
    intro p0 j r e hne
    rcases List.eq_nil_or_concat r with rfl | ⟨r', x, rfl⟩
    · have := List.append_inj' e rfl
      obtain ⟨rfl, e2⟩ := this
      cases e2
      exact ⟨v, hp, hj, hn⟩
    · have e' : p ++ [j'] = (p0 ++ j :: r') ++ [x] := by rw [e]; simp
      have := List.append_inj' e' rfl
      exact ih p0 j r' this.1 hne
/-- an end of a part of a way -/
theorem Pth.cut (h : Pth W p v) : ∀ x ∈ p, ∃ q, Pth W q x ∧ ∀ y ∈ q, y ∈ p := by
  induction h with
  | one h =>
    intro x hx
    rw [List.mem_singleton.mp hx]
    exact ⟨_, .one h, fun y hy => hy⟩
  | @snoc p v j hp hj hn ih =>
    intro x hx
    rcases List.mem_append.mp hx with hx | hx
    · obtain ⟨q, h1, h2⟩ := ih x hx
      exact ⟨q, h1, fun y hy => List.mem_append_left _ (h2 y hy)⟩
    · rw [List.mem_singleton.mp hx]
      exact ⟨_, .snoc hp hj hn, fun y hy => hy⟩
/-- where a way that keeps off bar leads is reached -/
theorem Pth.reach {bar : List Nat} (h : Pth W p v) (ha : ∀ x ∈ p, x ∉ bar) : RT (chB W bar) (srcB W bar) v := by
  induction h with
  | one h => exact .src (List.mem_filter.mpr ⟨h, by simpa using ha _ (by simp)⟩)
  | snoc hp hj hn ih =>
    refine .step (ih fun x hx => ha x (List.mem_append_left _ hx)) (List.mem_filter.mpr ⟨hj, ?_⟩)
    simpa using ha _ (by simp)
theorem reach_Pth {bar : List Nat} (h : RT (chB W bar) (srcB W bar) v) : ∃ p, Pth W p v ∧ ∀ x ∈ p, x ∉ bar := by
  induction h with
  | src h =>
    obtain ⟨h1, h2⟩ := List.mem_filter.mp h
    exact ⟨_, .one h1, fun x hx => by rw [List.mem_singleton.mp hx]; simpa using h2⟩
  | @step i j _ hj ih =>
    obtain ⟨p, hp, ha⟩ := ih
    obtain ⟨h1, h2⟩ := List.mem_filter.mp hj
    by_cases hm : j ∈ p
    · obtain ⟨q, hq, hs⟩ := hp.cut j hm
      exact ⟨q, hq, fun x hx => ha x (hs x hx)⟩
    · refine ⟨_, .snoc hp h1 hm, fun x hx => ?_⟩
      rcases List.mem_append.mp hx with hx | hx
      · exact ha x hx
      · rw [List.mem_singleton.mp hx]; simpa using h2

def weight (l : Nat) : Nat := 3 ^ (6 - l)
def mu (wt : List (List Nat)) : Nat := (wt.map fun p => weight p.length).sum
/-- what is found, ahead of each turn -/
structure PI (W : Wd) (wt : List (List Nat)) (fd : Nat → Option (List Nat)) : Prop where
  w : ∀ p ∈ wt, ∃ v, Pth W p v
  s : ∀ v K, fd v = some K → RT (chB W []) (srcB W []) v ∧ ∀ a, a ∉ K → RT (chB W [a]) (srcB W [a]) v
  c : ∀ p v, Pth W p v → (∃ K, fd v = some K ∧ ∀ x ∈ K, x ∈ p) ∨ ∃ p' rest, p' ∈ wt ∧ p = p' ++ rest
theorem PI.start : PI W (W.roots.map fun r => [r]) fun _ => none where
  w p hp := by
    obtain ⟨r, hr, rfl⟩ := List.mem_map.mp hp
    exact ⟨r, .one hr⟩
  s v K h := by cases h
  c p v h := by
    right
    cases p with
    | nil => exact absurd rfl h.ne
    | cons r t =>
      refine ⟨[r], t, List.mem_map.mpr ⟨r, ?_, rfl⟩, rfl⟩
      have : ∀ {p : List Nat} {v : Nat}, Pth W p v → ∀ r t, p = r :: t → r ∈ W.roots := by
        intro p v h
        induction h with
        | one h => intro r t e; cases e; exact h
        | @snoc p v j hp _ _ ih =>
          intro r t e
          cases p with
          | nil => exact absurd rfl hp.ne
          | cons a b => cases e; exact ih _ _ rfl
      exact this h r t rfl
def newFd (fd : Nat → Option (List Nat)) (p : List Nat) (v : Nat) : Nat → Option (List Nat) := fun u => if u = v then some (match fd v with | none => p | some K => K.filter fun x => decide (x ∈ p)) else fd u
def succs (W : Wd) (p : List Nat) (v : Nat) : List (List Nat) := ((W.ways.getD v []).filter fun j => !decide (j ∈ p)).map fun j => p ++ [j]
theorem PI.step {wt : List (List Nat)} {fd : Nat → Option (List Nat)} (I : PI W (wt ++ [p]) fd) (hp : Pth W p v) : PI W (wt ++ succs W p v) (newFd fd p v) where
  w q hq := by
    rcases List.mem_append.mp hq with h | h
    · exact I.w q (List.mem_append_left _ h)
    · obtain ⟨j, hj, rfl⟩ := List.mem_map.mp h
      obtain ⟨h1, h2⟩ := List.mem_filter.mp hj
      exact ⟨j, .snoc hp h1 (by simpa using h2)⟩
  s u K h := by
    unfold newFd at h
    split at h
    · rename_i e
      subst e
      have hpr : ∀ a, a ∉ p → RT (chB W [a]) (srcB W [a]) u := fun a ha => hp.reach (fun x hx => by simp; exact fun e => ha (e ▸ hx))
      refine ⟨hp.reach (fun x _ => by simp), fun a ha => ?_⟩
      cases hf : fd u with
      | none => rw [hf] at h; cases h; exact hpr a ha
      | some K0 =>
        rw [hf] at h; cases h
        by_cases h1 : a ∈ p
        · have h2 : a ∉ K0 := fun z => ha (List.mem_filter.mpr ⟨z, by simpa using h1⟩)
          exact (I.s u K0 hf).2 a h2
        · exact hpr a h1
    · exact I.s u K h
  c q u h := by
    rcases I.c q u h with ⟨K, hK, hs⟩ | ⟨p', rest, hm, rfl⟩
    · left
      unfold newFd
      by_cases e : u = v
      · subst e
        rw [if_pos rfl, hK]
        exact ⟨_, rfl, fun x hx => hs x (List.mem_filter.mp hx).1⟩
      · rw [if_neg e]; exact ⟨K, hK, hs⟩
    · rcases List.mem_append.mp hm with hm | hm
      · exact .inr ⟨p', rest, List.mem_append_left _ hm, rfl⟩
      · rw [List.mem_singleton.mp hm] at h ⊢
        cases rest with
        | nil =>
          rw [List.append_nil] at h ⊢
          have e : u = v := Option.some.inj (h.last.symm.trans hp.last)
          subst e
          left
          unfold newFd
          rw [if_pos rfl]
          cases hf : fd u with
          | none => exact ⟨p, rfl, fun x hx => hx⟩
          | some K0 => exact ⟨_, rfl, fun x hx => by simpa using (List.mem_filter.mp hx).2⟩
        | cons j r =>
          obtain ⟨v0, h1, h2, h3⟩ := h.next p j r rfl hp.ne
          have e : v0 = v := Option.some.inj (h1.last.symm.trans hp.last)
          subst e
          exact .inr ⟨p ++ [j], r, List.mem_append_right _ (List.mem_map.mpr ⟨j, List.mem_filter.mpr ⟨h2, by simpa using h3⟩, rfl⟩), by simp⟩
theorem mu_append {a b : List (List Nat)} : mu (a ++ b) = mu a + mu b := by simp [mu]
theorem mu_step (hW : W.Ok) {wt : List (List Nat)} (hp : Pth W p v) (hv : v < W.n) : mu (wt ++ succs W p v) < mu (wt ++ [p]) := by
  rw [mu_append, mu_append]
  have h1 := hp.len hW
  have h2 := hW.n5
  have h3 : (succs W p v).length ≤ 2 := by
    have h4 : (W.ways.getD v []).length = 2 := by
      have : W.ways.getD v [] ∈ W.ways := by
        rw [List.getD_eq_getElem?_getD, List.getElem?_eq_getElem (by rw [hW.lw]; exact hv)]; exact List.getElem_mem _
      exact (hW.w2 _ this).1
    have := List.length_filter_le (fun j => !decide (j ∈ p)) (W.ways.getD v [])
    unfold succs
    rw [List.length_map]
    omega
  have h4 : ∀ l : List (List Nat), (∀ q ∈ l, q.length = p.length + 1) → mu l = l.length * weight (p.length + 1) := by
    intro l
    induction l with
    | nil => intro _; simp [mu]
    | cons q r ih =>
      intro h
      have := ih fun q' hq' => h q' (List.mem_cons_of_mem _ hq')
      have e : mu (q :: r) = weight q.length + mu r := by simp [mu]
      rw [e, this, h q (by simp), List.length_cons, Nat.succ_mul]; omega
  rw [h4 (succs W p v) (fun q hq => by
    obtain ⟨j, _, rfl⟩ := List.mem_map.mp hq
    simp)]
  have e1 : mu [p] = weight p.length := by simp [mu]
  have e2 : weight p.length = 3 * weight (p.length + 1) := by
    unfold weight
    rw [show 6 - p.length = (6 - (p.length + 1)) + 1 by omega, Nat.pow_succ]; omega
  have e3 : 0 < weight (p.length + 1) := Nat.pow_pos (by decide)
  rw [e1, e2]
  have : (succs W p v).length * weight (p.length + 1) ≤ 2 * weight (p.length + 1) := Nat.mul_le_mul_right _ h3
  omega
theorem mu_len {wt : List (List Nat)} : wt.length ≤ mu wt := by
  induction wt with
  | nil => simp [mu]
  | cons q r ih =>
    have e : mu (q :: r) = weight q.length + mu r := by simp [mu]
    have : 0 < weight q.length := Nat.pow_pos (by decide)
    rw [e, List.length_cons]; omega
/-- what stands in the end -/
theorem PI.done {fd : Nat → Option (List Nat)} (I : PI W [] fd) (v : Nat) : (fd v = none ↔ ¬RT (chB W []) (srcB W []) v) ∧ ∀ K, fd v = some K → ∀ a, a ∈ K ↔ ¬RT (chB W [a]) (srcB W [a]) v := by
  have key : ∀ {bar : List Nat}, RT (chB W bar) (srcB W bar) v → ∃ K p, fd v = some K ∧ (∀ x ∈ K, x ∈ p) ∧ ∀ x ∈ p, x ∉ bar := fun h => by
    obtain ⟨p, hp, ha⟩ := reach_Pth h
    rcases I.c p v hp with ⟨K, h1, h2⟩ | ⟨_, _, hm, _⟩
    · exact ⟨K, p, h1, h2, ha⟩
    · cases hm
  refine ⟨⟨fun h hr => ?_, fun h => ?_⟩, fun K hK a => ⟨fun ha hr => ?_, fun h => ?_⟩⟩
  · obtain ⟨K, _, h1, _⟩ := key hr
    rw [h] at h1; cases h1
  · cases e : fd v with
    | none => rfl
    | some K => exact absurd (I.s v K e).1 h
  · obtain ⟨K', p, h1, h2, h3⟩ := key hr
    rw [hK] at h1; cases h1
    exact h3 a (h2 a ha) (by simp)
  · exact Classical.byContradiction fun hn => h ((I.s v K hK).2 a hn)
end
end Mine
end
section
open PySem PySem.W PyProof.Rows PySem.Calls PySem.SeqAt
namespace Mine
section
variable {prog : Program} {w : World} {h₀ : Heap} {A : Around} {H : HM} {env : Env} {pos : Pos} {Φ : Value → HM → Prop} {n : Nat}

theorem WP.sum {l : Addr} {ns : List Int} (hh : A.handled = none) (hl : LI H l ns) (h : ∀ tk, Φ (.int ns.sum tk) H) : WP prog w h₀ A (PySem.call (.builtin "sum") [.ref l]) H Φ := fun s Q E R k => by
  obtain ⟨vs, h1, h2⟩ := hl
  have hi := R.isList h1
  obtain ⟨D, R⟩ := R
  obtain ⟨L, m, e⟩ := R.frm
  exact PyProof.Rows.LSm.sum_ints (R.fr e) full_news hh hi h2 fun h' tk t' F' N' => k _ _ h' tk ⟨D, R.kept e F' N'⟩ (h _)
/-- x not in (a, b, c), lists of ints -/
theorem WP.ninT {x t a b c : Addr} {nx na nb nc : List Int} (o : Ok A n) (hn : n < 900) (hx : LI H x nx) (ha : LI H a na) (hb : LI H b nb) (hc : LI H c nc) (ht : H t = some (.raw (tupO [.ref a, .ref b, .ref c])))
    (h : nx = na ∨ nx = nb ∨ nx = nc → Φ (.bool false) H) (hh : nx = na ∨ nx = nb ∨ nx = nc) : WP prog w h₀ A (compareOp .NotIn (.ref x) (.ref t)) H Φ := fun s Q E R k => by
  obtain ⟨vx, h1, i1⟩ := hx
  obtain ⟨va, h2, i2⟩ := ha
  obtain ⟨vb, h3, i3⟩ := hb
  obtain ⟨vc, h4, i4⟩ := hc
  have r1 := reads_of_ints (R.isList h1) i1
  have ra := reads_of_ints (R.isList h2) i2
  have rb := reads_of_ints (R.isList h3) i3
  have rc := reads_of_ints (R.isList h4) i4
  have rt : Reads s.heap (.ref t) (PyData.tuple [PyData.list (na.map PyData.int), PyData.list (nb.map PyData.int), PyData.list (nc.map PyData.int)]) _ := .tuple (R.raw ht) rfl rfl (.cons ra (.cons rb (.cons rc .nil)))
  have hu : A.units + 65 < cLine := by have := o.un; unfold cLine; omega
  have hsh : shaped (PyData.tuple [PyData.list (na.map PyData.int), PyData.list (nb.map PyData.int), PyData.list (nc.map PyData.int)]) = true := by
    have h1 := PySem.W.depthAll_ints na
    have h2 := PySem.W.depthAll_ints nb
    have h3 := PySem.W.depthAll_ints nc
    have h4 : PyData.depth (PyData.tuple [PyData.list (na.map PyData.int), .list (nb.map PyData.int), .list (nc.map PyData.int)]) ≤ 64 := by simp only [PyData.depth, PyData.depthAll]; omega
    show (PyData.canLay0 (PyData.tuple [PyData.list (na.map PyData.int), PyData.list (nb.map PyData.int), PyData.list (nc.map PyData.int)]) && decide (PyData.depth (PyData.tuple [PyData.list (na.map PyData.int), PyData.list (nb.map PyData.int), PyData.list (nc.map PyData.int)]) ≤ 64)) = true
    rw [Bool.and_eq_true]
    exact ⟨by simp only [PyData.canLay0, PyData.canLayAll0, canLayAll0_ints, Bool.and_self], decide_eq_true h4⟩
  refine notIn_tuple_dataH rt r1 hsh (shaped_ints nx) hu ?_ ?_
  · intro y hy
    simp only [List.mem_cons, List.not_mem_nil, or_false] at hy
    rcases hy with rfl | rfl | rfl <;> (simp only [noMix]; exact noMix_ints _ _)
  · have hc : PySem.Spec.countIn (PyData.list (nx.map PyData.int)) [PyData.list (na.map PyData.int), PyData.list (nb.map PyData.int), PyData.list (nc.map PyData.int)] ≠ 0 := by
      have e : ∀ ns ms : List Int, PySem.Spec.same (.list (ns.map PyData.int)) (.list (ms.map PyData.int)) = decide (ns = ms) := fun ns ms => by simp only [PySem.Spec.same]; exact same_ints ns ms
      simp only [PySem.Spec.countIn, e]
      rcases hh with q | q | q <;> subst q <;> simp <;> (repeat' split) <;> omega
    rw [decide_eq_true hc]
    exact k _ H s.heap s.toks R (h hh)
/-- list(script[:40]) and the like -/
theorem WP.copyL {l : Addr} {vs : List Value} (hh : A.handled = none) (hl : H l = some (.list vs)) (hz : vs.length ≤ 1000) (h : ∀ q, H q = none → Φ (.ref q) (upd H q (.list vs))) : WP prog w h₀ A (PySem.call (.type "list") [.ref l]) H Φ := fun s Q E R k => by
  have hi := R.isList hl
  obtain ⟨D, R⟩ := R
  obtain ⟨L, m, e⟩ := R.frm
  obtain ⟨o, ho, hc, n, hd⟩ := hi
  refine call_list_seq (hsz := by rw [sizeLine_eq]; simp; omega) l (.inl rfl) ho hc hd fun h' c' hk hD => ?_
  have hq : s.heap.get? s.heap.objs.size = none := Heap.get?_none_of_le (Nat.le_refl _)
  exact k _ _ h' s.toks ⟨D, R.new (x := .list vs) hq rfl hk (R.fresh0 (Nat.le_refl _)) (fun b C kv eb z => absurd (R.Dpresent eb) (by rw [z]; exact Nat.lt_irrefl _)) ⟨c', hD⟩⟩ (h _ (R.none_of hq))
end
end Mine
end
section
open PySem PySem.W PyProof.Rows PySem.Calls
namespace Mine
section
variable {prog : Program} {w : World} {h₀ : Heap} {A : Around} {H : HM} {env : Env} {pos : Pos} {Φ : Value → HM → Prop}

theorem WP.slice {e : Expr} {k : Nat} {kk : Nat} {p0 p : Pos} {l : Addr} {items : Array Value} (hb : h₀.IsList l items) (hz : items.size ≤ 1000)
    (he : WP prog w h₀ A (eval e env) H fun v H' => v = .ref l ∧ ∀ q, H' q = none → Φ (.ref q) (upd H' q (.list (items.toList.take k)))) (ht : ∀ o r, letTemporaryGo e o r = Pure.pure () := by intro _ _; rfl) :
    WP prog w h₀ A (eval (.Subscript e (.Slice none (some (.Constant (.int (k : Int)) kk p0)) none p) pos) env) H Φ := fun s Q E R kf => by
  refine wpAny_Subscript_Slice (T := "list") (ht := ht) list_getitem_lookup (he s _ _ R fun v H1 h1 t1 R1 ⟨e1, hq⟩ => ?_)
  subst e1
  refine wpAny_Slice (wpAny_evalPart_none (wpAny_evalPart_some (wpAny_Constant_int (wpAny_evalPart_none ?_))))
  have hl1 : (h1.push { cls := .type "slice", data := .fields #[.none, .int (k : Int) t1, .none] }).IsList l items := let ⟨o, ho, r⟩ := hb; ⟨o, Heap.get?_push_of_some _ (R1.keep _ _ ho), r⟩
  refine ⟨hl1.typeIs, wpAny_getItem_list_slice hl1 (Heap.IsSliceOf.new ..) .none (.int _ _) .none (by simp) ?_ (by rw [sizeLine_eq]; omega)⟩
  obtain ⟨D, R1⟩ := R1
  have R2 := R1.same (h' := h1.push { cls := .type "slice", data := .fields #[.none, .int (k : Int) t1, .none] }) fun b o eb => Heap.get?_push_of_some _ eb
  rw [slicePick_upto']
  exact kf _ _ _ _ ⟨D, R2.push (x := .list (items.toList.take k)) rfl ⟨0, Heap.get?_push_size _ rfl⟩⟩ (hq _ (R2.none_of (Heap.get?_none_of_le (Nat.le_refl _))))

theorem WP.dict2 {k1 k2 : Str} {e1 e2 : Expr} {c1 c2 : Nat} {p1 p2 : Pos} (hbl : h₀.NoLimit) (hk : k1 ≠ k2)
    (h : ∀ d, H d = none → WP prog w h₀ A (eval e1 env) (upd H d (.dict [])) fun v1 H1 => WP prog w h₀ A (eval e2 env) H1 fun v2 H2 => H2 d = some (.dict []) ∧
      ∀ es, DictAt (strKind prog w) (upd H2 d (.dict es)) d [(k1, v1), (k2, v2)] → Φ (.ref d) (upd H2 d (.dict es))) :
    WP prog w h₀ A (eval (.Dict [some (.Constant (.str k1) c1 p1), some (.Constant (.str k2) c2 p2)] [e1, e2] pos) env) H Φ := fun s Q E R kf => by
  have hd0 : H s.heap.objs.size = none := let ⟨_, R⟩ := R; R.none_of (Heap.get?_none_of_le (Nat.le_refl _))
  have lo : (s.heap.objs.size == sysModules) = false := let ⟨_, R⟩ := R; beq_eq_false_iff_ne.mpr (Nat.ne_of_gt (Nat.lt_of_lt_of_le (modules_low hbl) R.above))
  refine wpAny_Dict_walk (knd := strKind prog w) rfl rfl (by simp) (by simp) ?_
  obtain ⟨D, R⟩ := R
  have R1 : Rep h₀ (upd H s.heap.objs.size (.dict [])) (s.heap.push { cls := .type "dict", data := .dict #[] }) := ⟨D, R.push (x := .dict []) rfl ⟨0, Heap.get?_push_size _ rfl⟩⟩
  refine evalPairs_cons (Constant_str (wpAny_bind (h _ hd0 ⟨s.heap.push { cls := .type "dict", data := .dict #[] }, s.gens, s.drawn, s.toks + 1, s.os⟩ _ _ R1 fun v1 H1 h1 t1 R2 hh => wpAny_bind (wpAny_standAt (wpAny_pure ?_)))))
  refine evalPairs_cons (Constant_str (wpAny_bind (hh _ _ _ R2 fun v2 H2 h2 t2 R3 hh2 => wpAny_bind (wpAny_standAt (wpAny_pure ?_)))))
  obtain ⟨hdd, hfin⟩ := hh2
  refine evalPairs_nil ?_
  have X : DictAt (strKind prog w) H2 s.heap.objs.size ([] : List (Str × Value)) := ⟨lo, [], hdd, fun e he => by simp at he, .nil, List.nodup_nil⟩
  refine ⟨[(k1, v1), (k2, v2)], ⟨strKind_is _ _ _ _, rfl, strKind_is _ _ _ _, rfl, trivial⟩, X.of R3, fun h' hm hs => ?_⟩
  have em : merged ([] : List (Str × Value)) [(k1, v1), (k2, v2)] = [(k1, v1), (k2, v2)] := by
    unfold merged stored
    simp [hk, stored]
  rw [em] at hm
  obtain ⟨es, x', R'⟩ := X.turn R3 hs hm
  exact kf _ _ _ _ R' (hfin es x')
end
end Mine
end
section
open PySem PySem.W PyProof.Rows PySem.Calls PySem.SeqAt
namespace Mine
theorem fill18 : (PySem.Challenge.rw_xm0623_01, Mine.hk.heap_1) = (PySem.Challenge.rw_xm0623_01, Mine.hk.heap_1) := by
  k_fill
  rfl
section
variable {prog : Program} {w : World} {h₀ : Heap} {A : Around} {d : Nat} {H H' : HM}
abbrev dat (p : List Nat) : PyData := .list ((toI p).map PyData.int)
theorem canLayAll0_dat : ∀ ps : List (List Nat), PyData.canLayAll0 (ps.map dat) = true
  | [] => by simp [PyData.canLayAll0]
  | p :: r => by
    have := canLayAll0_ints (toI p)
    simp only [List.map_cons, PyData.canLayAll0, PyData.canLay0, canLayAll0_dat r, this, Bool.and_self]
theorem depthAll_dat : ∀ ps : List (List Nat), PyData.depthAll (ps.map dat) ≤ 2
  | [] => by simp [PyData.depthAll]
  | p :: r => by
    have h1 := depthAll_dat r
    have h2 := PySem.W.depthAll_ints (toI p)
    simp only [List.map_cons, PyData.depthAll, PyData.depth]
    omega
theorem shaped_dat (ps : List (List Nat)) : shaped (.list (ps.map dat)) = true := by
  have h1 := depthAll_dat ps
  have h2 : PyData.depth (.list (ps.map dat)) ≤ 64 := by simp only [PyData.depth]; omega
  show (PyData.canLay0 (.list (ps.map dat)) && decide (PyData.depth (.list (ps.map dat)) ≤ 64)) = true
  rw [Bool.and_eq_true]
  exact ⟨by simp only [PyData.canLay0]; exact canLayAll0_dat ps, decide_eq_true h2⟩
theorem readsAll_dat {h : Heap} : ∀ (as : List Addr) (ps : List (List Nat)), as.length = ps.length → (∀ (i : Nat) a p, as[i]? = some a → ps[i]? = some p → ∃ vs, h.IsList a vs.toArray ∧ IntsAre vs (toI p)) → ∃ bs, ReadsAll h (as.map .ref) (ps.map dat) bs
  | [], [], _, _ => ⟨[], .nil⟩
  | a :: as, p :: ps, hl, h => by
    obtain ⟨vs, h1, h2⟩ := h 0 a p rfl rfl
    obtain ⟨bs, ih⟩ := readsAll_dat as ps (by simpa using hl) fun i a p h1 h2 => h (i + 1) a p h1 h2
    exact ⟨_, .cons (reads_of_ints h1 h2) ih⟩
theorem WP.neNil {Φ : Value → HM → Prop} {l q : Addr} {as : List Addr} {ps : List (List Nat)} {n : Nat} (o : Ok A n) (hn : n < 900) (hl : H l = some (.list (as.map .ref))) (hlen : as.length = ps.length) (hps : ∀ (i : Nat) a p, as[i]? = some a → ps[i]? = some p → LI H a (toI p)) (hq : H q = some (.list []))
    (h : Φ (.bool (!decide (ps = []))) H) : WP prog w h₀ A (compareOp .NotEq (.ref l) (.ref q)) H Φ := fun s Q E R k => by
  obtain ⟨c, h1⟩ := R.list hl
  obtain ⟨c', h2⟩ := R.list hq
  obtain ⟨bs, hb⟩ := readsAll_dat (h := s.heap) as ps hlen fun i a p ha hp => let ⟨vs, e, i⟩ := hps i a p ha hp; ⟨vs, R.isList e, i⟩
  have r1 : Reads s.heap (.ref l) (.list (ps.map dat)) _ := .list h1 rfl rfl (by simpa using hb)
  have r2 : Reads s.heap (.ref q) (.list []) _ := .list h2 rfl rfl (by simpa using ReadsAll.nil)
  refine ne_dataH_same r1 r2 (shaped_dat ps) (shaped_ints []) (by have := o.un; unfold cLine; omega) ?_ ?_
  · simp only [noMix]; cases ps <;> simp [noMixAll]
  · have e : PySem.Spec.same (.list (ps.map dat)) (.list []) = decide (ps = []) := by
      simp only [PySem.Spec.same]; cases ps <;> simp [PySem.Spec.sameAll]
    rw [e]
    exact k _ H s.heap s.toks R h

/-- a list of ints that is neither of the two that are turned -/
def GL (H : HM) (fl wl a : Addr) (p : List Nat) : Prop := LI H a (toI p) ∧ a ≠ fl ∧ a ≠ wl
theorem GL.ext {fl wl a : Addr} {p : List Nat} (x : GL H fl wl a p) (e : ∀ y, H a = some y → H' a = some y) : GL H' fl wl a p := ⟨x.1.ext e, x.2⟩
theorem FrC.pack3 {env : Env} {f cm : Str → Option Value} (_ : FrC H env f cm) : ∃ FR : HM → (Str → Option Value) → (Str → Option Value) → Prop, ∀ Hx fx cx, FR Hx fx cx ↔ FrC Hx env fx cx := ⟨fun Hx fx cx => FrC Hx env fx cx, fun _ _ _ => Iff.rfl⟩
theorem GL.upd {fl wl a b : Addr} {p : List Nat} {x : AObj} (y : GL H fl wl a p) (h : b = fl ∨ b = wl) : GL (Mine.upd H b x) fl wl a p := ⟨y.1.ext fun z hz => by
  have : a ≠ b := fun e => by
    rcases h with h | h
    · exact y.2.1 (e.trans h)
    · exact y.2.2 (e.trans h)
  rw [upd_ne this]; exact hz, y.2⟩
theorem GL.keep {env : Env} {f cm : Str → Option Value} {fl wl a : Addr} {p : List Nat} (y : GL H fl wl a p) (F : FrC H env f cm) (u : Upd1 env H H') : GL H' fl wl a p := ⟨y.1.ext fun z hz => u.keep F hz (by obtain ⟨vs, e, _⟩ := y.1; rw [e] at hz; cases hz; rfl), y.2⟩
/-- what is known of the two lists -/
structure GSt (W : Wd) (fl wl : Addr) (Ws : List Addr) (wt : List (List Nat)) (vs : List Value) (fd : Nat → Option (List Nat)) (H : HM) : Prop where
  f : H fl = some (.list vs)
  n : vs.length = W.n
  w : H wl = some (.list (Ws.map .ref))
  l : Ws.length = wt.length
  ws : ∀ (i : Nat) a p, Ws[i]? = some a → wt[i]? = some p → GL H fl wl a p
  fd : ∀ v, v < W.n → (fd v = none → vs[v]? = some .none) ∧ ∀ K, fd v = some K → ∃ a, vs[v]? = some (.ref a) ∧ GL H fl wl a K
theorem GSt.ext {W : Wd} {fl wl : Addr} {Ws : List Addr} {wt : List (List Nat)} {vs : List Value} {fd : Nat → Option (List Nat)} (S : GSt W fl wl Ws wt vs fd H) (e : ∀ a ys, H a = some (.list ys) → H' a = some (.list ys)) : GSt W fl wl Ws wt vs fd H' := by
  have eg : ∀ a p, GL H fl wl a p → GL H' fl wl a p := fun a p y => y.ext fun z hz => by
    obtain ⟨ys, h1, _⟩ := y.1
    rw [h1] at hz; cases hz; exact e _ _ h1
  exact ⟨e _ _ S.f, S.n, e _ _ S.w, S.l, fun i a p h1 h2 => eg a p (S.ws i a p h1 h2), fun v hv => ⟨(S.fd v hv).1, fun K hK => let ⟨a, h1, h2⟩ := (S.fd v hv).2 K hK; ⟨a, h1, eg a K h2⟩⟩⟩
theorem last_item {p : List Nat} {v : Nat} (h : p.getLast? = some v) : (toI p)[((-1 : Int) + ((toI p).length : Nat)).toNat]? = some (v : Int) := by
  rw [List.getLast?_eq_getElem?] at h
  have e : ((-1 : Int) + ((toI p).length : Nat)).toNat = p.length - 1 := by rw [List.length_map]; omega
  rw [e, List.getElem?_map, h]; rfl
/-- way[-1] -/
theorem WP.lastI {Φ : Value → HM → Prop} {value slice : Expr} {a : Addr} {p : List Nat} {v : Nat} {u : Tok} (hl : LI H a (toI p)) (hv : p.getLast? = some v) (h : ∀ tk, Φ (.int (v : Int) tk) H)
    (hs : subscripted slice false (.ref a) (.int (-1) u) = PySem.operate [.ref a, .int (-1) u] (getItem (.ref a) (.int (-1) u)) := by with_unfolding_all rfl) : WP prog w h₀ A (subscriptTail value slice (.ref a) (.int (-1) u)) H Φ := by
  obtain ⟨vs, hl, hi⟩ := hl
  have hlen := intsAre_len hi
  have hp : 1 ≤ p.length := by
    cases p with
    | nil => cases hv
    | cons _ _ => simp
  rw [List.length_map] at hlen
  obtain ⟨t, ht⟩ := intsAre_get hi (last_item hv)
  rw [List.length_map, ← hlen] at ht
  exact WP.itemNeg hl (by decide) (by omega) ht (h t) (by decide) hs

theorem s_gone (B : Bs (Mine.hk.heap_1 w.params) h₀) (o : Ok A d) (hd : d ≤ 600) {W : Wd} (hW : W.Ok) {Φ : Value → HM → Prop} {wa ra : Addr} {as : List Addr} (hwa : H wa = some (.list (as.map .ref))) (has : as.length = W.n) (hrows : ∀ (i : Nat) a r, as[i]? = some a → W.ways[i]? = some r → LI H a (toI r)) (hra : LI H ra (toI W.roots))
    (h : ∀ H' fl vs fd, Ext H H' → PI W [] fd → H' fl = some (.list vs) → vs.length = W.n → (∀ v, v < W.n → (fd v = none → vs[v]? = some .none) ∧ ∀ K, fd v = some K → ∃ a, vs[v]? = some (.ref a) ∧ LI H' a (toI K)) → Φ (.ref fl) H') :
    WC prog w h₀ A (.call (.ref 388) ⟨[.ref wa, .ref ra], []⟩) H fun fl H' => ∃ v, fl = .ret v ∧ Φ v H' := by
  have hn5 := hW.n5
  refine WC.fnC (binds := [("ways", .ref wa), ("roots", .ref ra)]) B o (by omega) (by k_is) (by k_is) rfl (fun L => ?_) (fun L A' H1 o' e1 ho F1 => ?_)
  · intro x hx
    simp only [List.mem_cons, List.not_mem_nil, or_false] at hx
    rcases hx with rfl | rfl
    · exact .inl rfl
    · exact .inl rfl
  -- found = [None] * len(ways)
  refine WP.cons (WP.asgName (WP.binop (WP.eList (WP.args (WP.cNone (WP.args0 (WP.newList fun q0 nq0 => ?_)))))))
  refine WP.callN (WP.name (WP.blt B (by k_is) rfl (by decide) ?_))
  have F1' := F1.ext (Ext.refl.new (x := .list [.none]) nq0)
  have e1' : Ext H (upd H1 q0 (.list [.none])) := e1.trans (Ext.refl.new nq0)
  refine WP.cwB (WP.args (WP.name (WP.fcL F1' rfl ?_)))
  refine WP.args0 (WP.len (e1' _ _ hwa) (fun tk1 => ?_) (by simp; omega))
  rw [List.length_map, has]
  refine WP.mulL upd_self (by omega) fun fl nfl => ?_
  have F1'' := F1'.ext (Ext.refl.new (x := .list (List.replicate W.n .none)) nfl)
  have e1'' : Ext H _ := e1'.trans (Ext.refl.new (x := .list (List.replicate W.n .none)) nfl)
  have hfl0 := upd_self (H := upd H1 q0 (.list [.none])) (a := fl) (x := .list (List.replicate W.n .none))
  have hflH : H fl = none := e1'.fresh nfl
  generalize upd (upd H1 q0 (.list [.none])) fl (.list (List.replicate W.n .none)) = Ha at F1'' e1'' hfl0 ⊢
  refine WP.fsL F1'' fun H2 F2 u2 => ?_
  have e2 : Ext H H2 := (u2.but (Ext.but (ds := []) e1'') ho).ext
  have hfl2 := u2.keep F1'' hfl0 rfl
  clear F1 F1' F1'' e1 e1' e1'' u2 hfl0 nq0 nfl
  -- waiting = [[root] for root in roots]
  obtain ⟨vsR, hRl, hRi⟩ := hra.ext fun y => e2 _ y
  have hRlen := intsAre_len hRi
  rw [List.length_map] at hRlen
  have hrl2 := hW.rl
  refine WP.cons (WP.asgV (N := vsR.length) (itO := fun k => .iter ra k) (Src := fun H => H ra = some (.list vsR)) (P := fun k v => vsR[k]? = some v)
    (fun fb k ws H' => (∀ a, fb a → H2 a = none) ∧ Ext H2 H' ∧ ∃ Ws : List Addr, ws = Ws.map .ref ∧ Ws.length = k ∧ ∀ (i : Nat) a, Ws[i]? = some a → ∃ r, W.roots[i]? = some r ∧ ¬fb a ∧ H2 a = none ∧ LI H' a (toI [r]))
    (by omega) rfl ?_ (by rw [F2.loc]; simp) ?_ ?_ ?_ ?_)
  · rintro fb k ws H6 ⟨_, e, _⟩
    exact ⟨e _ _ hRl, _, e _ _ F2.loc⟩
  · rintro fb k ws H6 H7 ⟨f, e, Ws, a, b, dd⟩ hk
    refine ⟨f, fun a y ha => hk _ _ (fun z => by rw [f a z] at ha; cases ha) (e _ _ ha), Ws, a, b, fun i a hia => ?_⟩
    obtain ⟨r, h1, h2, h2', h3⟩ := dd i a hia
    exact ⟨r, h1, h2, h2', h3.ext fun y => hk _ _ h2⟩
  · refine WP.name (WP.fcL F2 rfl ?_)
    refine WP.iterL hRl fun q hq => ⟨fun a y ha => ⟨y, upd_old ha hq⟩, q, rfl, Draw.list o'.hh, hq, upd_self, fun fb H6 hfb hk => ⟨hfb, fun a y ha => hk _ _ (fun z => by rw [hfb a z] at ha; cases ha) (upd_old ha hq), [], rfl, rfl, by simp⟩⟩
  · rintro fb C k v ws H6 f hk hv ⟨hfb, e, Ws, rfl, hW1, hW2⟩ _ htold hfC hC hfx
    obtain ⟨n, t, rfl, hn⟩ := intsAre_get' hRi hv
    rw [List.getElem?_map] at hn
    obtain ⟨r, hr, rfl⟩ := Option.map_eq_some_iff.mp hn
    refine WP.tests0 ⟨fun a y _ hy => hy, ?_⟩
    rw [if_pos rfl]
    refine WP.eList (WP.args (WP.name (WP.loadL hC hfx (WP.args0 (WP.newList fun q nq => ?_)))))
    refine ⟨fun a y _ hy => upd_old hy nq, hfb, e.trans (Ext.refl.new nq), Ws ++ [q], by simp, by simp [hW1], fun i a hia => ?_⟩
    by_cases hi : i < Ws.length
    · rw [List.getElem?_append_left hi] at hia
      obtain ⟨r', h1, h2, h2', h3⟩ := hW2 i a hia
      exact ⟨r', h1, h2, h2', h3.ext fun y hy => upd_old hy nq⟩
    · rw [List.getElem?_append_right (by omega)] at hia
      have hi0 : i - Ws.length = 0 := by
        have := (List.getElem?_eq_some_iff.mp hia).1
        simp at this; omega
      rw [hi0] at hia
      cases hia
      have : i = k := by omega
      subst this
      exact ⟨r, hr, fun z => htold _ z nq, e.fresh nq, _, upd_self, .cons _ _ .nil⟩
  rintro wl fb ws H6 ⟨hfb, e6, Ws, rfl, hW1, hW2⟩ _ hfwl _ hwl
  have F6 := F2.ext e6
  refine WP.aName (WP.fsL F6 fun H7 F7 u7 => ⟨fun a z ha hz => ?_, ⟨_, F7.loc⟩, fun H8 hk8 => ?_⟩)
  · rw [u7 a (fun q => by
      have hz0 := hfb a ha
      rcases q with q | ⟨n, hc⟩
      · rw [q] at hz0; exact absurd (hz0.symm.trans F2.loc) (by simp)
      · exact absurd (hz0.symm.trans (F2.cell n a hc)) (by simp))]
    exact hz
  have F8 : FrC H8 _ _ _ := ⟨hk8 _ _ (fun z => by have := F2.loc; rw [hfb _ z.1] at this; cases this) F7.loc, fun n c hc => hk8 _ _ (fun z => by have := F2.cell n c hc; rw [hfb _ z.1] at this; cases this) (F7.cell n c hc), F7.apart⟩
  have k8 : ∀ a y, H2 a = some y → notOwn y = true → H8 a = some y := fun a y ha hy => hk8 _ _ (fun z => by rw [hfb a z.1] at ha; cases ha) (u7.keep F6 (e6 _ _ ha) hy)
  have e8 : Ext H H8 := fun a y ha => by
    have h2 := e2 _ _ ha
    have hno : ¬Own _ a := fun z => by rw [ho a z] at ha; cases ha
    refine hk8 _ _ (fun z => by rw [hfb a z.1] at h2; cases h2) ?_
    rw [u7 a hno]; exact e6 _ _ h2
  have hwl8 : H8 wl = some (.list (Ws.map .ref)) := hk8 _ _ (fun z => z.2 rfl) (u7.keep F6 hwl rfl)
  have hwl2 : H2 wl = none := hfb _ hfwl
  have hwlH : H wl = none := e2.fresh hwl2
  have hfl8 := k8 _ _ hfl2 rfl
  have nfw : fl ≠ wl := fun z => by rw [z, hwl2] at hfl2; cases hfl2
  have hW8 : ∀ (i : Nat) a p, Ws[i]? = some a → (W.roots.map fun r => [r])[i]? = some p → GL H8 fl wl a p := fun i a p hia hp => by
    obtain ⟨r, h1, h2, h2', vs, h3, h4⟩ := hW2 i a hia
    rw [List.getElem?_map, h1] at hp
    cases hp
    exact ⟨⟨vs, hk8 _ _ (fun z => h2 z.1) (u7.keep F6 h3 rfl), h4⟩, fun z => (by rw [z, hfl2] at h2'; cases h2'), fun z => h2 (by rw [z]; exact hfwl)⟩
  have hWl : Ws.length = (W.roots.map fun r => [r]).length := by rw [List.length_map]; omega
  clear hW2 hwl hk8 k8 u7 F7 F6 e6 hfwl hfb F2 hfl2 e2 hwl2 hRl
  obtain ⟨FR, hFR⟩ := F8.pack3
  have S8 : GSt W fl wl Ws (W.roots.map fun r => [r]) (List.replicate W.n .none) (fun _ => none) H8 := ⟨hfl8, by simp, hwl8, hWl, hW8, fun v hv => ⟨fun _ => by rw [List.getElem?_replicate, if_pos hv], fun K hK => by cases hK⟩⟩
  have hmu : mu (W.roots.map fun r => [r]) ≤ 1000 := by
    unfold mu
    have h1 : ∀ l : List Nat, ((l.map fun r => [r]).map fun p => weight p.length).sum = l.length * 243 := by
      intro l
      induction l with
      | nil => rfl
      | cons a r ih =>
        rw [List.map_cons, List.map_cons, List.sum_cons, ih]
        show 3 ^ 5 + r.length * 243 = (r.length + 1) * 243
        omega
    rw [h1]; omega
  refine WP.cons (WP.whileG (fun n Hc => ∃ wt vs fd Ws f cm, n = mu wt ∧ mu wt ≤ 1000 ∧ FR Hc f cm ∧ f "ways" = some (.ref wa) ∧ f "found" = some (.ref fl) ∧ f "waiting" = some (.ref wl) ∧ Ext H Hc ∧ GSt W fl wl Ws wt vs fd Hc ∧ PI W wt fd ∧ ∀ v K, fd v = some K → K.length ≤ 10) _
    ⟨_, _, _, Ws, _, _, rfl, hmu, (hFR _ _ _).mpr F8, rfl, rfl, rfl, e8, S8, PI.start, fun _ _ h => by cases h⟩ ?_)
  clear S8 hW8 hWl hfl8 hwl8 e8 F8 hmu hW1
  rintro n Hc ⟨wt, vs, fd, Ws, f, cm, rfl, hmu, F, f1, f2, f3, ec, S, I, hK10⟩
  replace F := (hFR _ _ _).mp F
  refine WP.tCmp (WP.name (WP.fcL F f3 (WP.eList (WP.args0 (WP.newList fun q nq => ?_)))))
  have en : Ext Hc (upd Hc q (.list [])) := Ext.refl.new nq
  refine WP.neNil o' (by omega) (en _ _ S.w) S.l (fun i a p h1 h2 => ((S.ws i a p h1 h2).1).ext fun y hy => en _ _ hy) upd_self (WP.truthB ?_)
  have S := S.ext fun a ys ha => en _ _ ha
  have F := F.ext en
  have ec := ec.trans en
  generalize upd Hc q (.list []) = Hd at S F ec ⊢
  clear en nq
  have hml := mu_len (wt := wt)
  by_cases hz : wt = []
  · rw [decide_eq_true hz]
    refine WP.nil (WP.cons (WP.ret (WP.name (WP.fcL F f2 ?_))))
    subst hz
    exact h Hd fl vs fd ec I S.f S.n fun v hv => ⟨(S.fd v hv).1, fun K hK => let ⟨a, h1, h2⟩ := (S.fd v hv).2 K hK; ⟨a, h1, h2.1⟩⟩
  rw [decide_eq_false hz]
  obtain ⟨wt0, p, rfl⟩ : ∃ p0 i, wt = p0 ++ [i] := ⟨wt.dropLast, wt.getLast hz, (List.dropLast_concat_getLast hz).symm⟩
  have hWne : Ws ≠ [] := fun e => by have := S.l; rw [e] at this; simp at this
  obtain ⟨Ws0, a, rfl⟩ : ∃ p0 i, Ws = p0 ++ [i] := ⟨Ws.dropLast, Ws.getLast hWne, (List.dropLast_concat_getLast hWne).symm⟩
  have hl0 : Ws0.length = wt0.length := by have := S.l; simpa using this
  obtain ⟨v, hp⟩ := I.w p (by simp)
  have hvn : v < W.n := hp.lt hW v hp.mem
  have hpl := hp.len hW
  have hga : GL Hd fl wl a p := S.ws Ws0.length a p (by simp) (by rw [hl0]; simp)
  have hwn : wl ≠ fl := Ne.symm nfw
  -- way = waiting.pop()
  refine WP.cons (WP.asgName (WP.callM (WP.name (WP.fcL F f3 ?_))))
  refine WP.lMeth S.w PySem.F.slot_list_pop PySem.F.type_list_pop ?_
  have hsz : (wt0 ++ [p]).length ≤ 1000 := Nat.le_trans hml hmu
  have hsz0 : wt0.length ≤ 1000 := by simp at hsz; omega
  refine WP.cwB0 (WP.pop (p := Ws0.map .ref) (y := .ref a) S.w (by simp) ?_ (by simp; omega))
  have S1 : GSt W fl wl Ws0 wt0 vs fd (upd Hd wl (.list (Ws0.map .ref))) := ⟨by rw [upd_ne nfw]; exact S.f, S.n, upd_self, hl0, fun i b q h1 h2 => by
      have hi := (List.getElem?_eq_some_iff.mp h1).1
      exact (S.ws i b q (by rw [List.getElem?_append_left hi]; exact h1) (by rw [List.getElem?_append_left (by omega)]; exact h2)).upd (.inr rfl),
    fun u hu => ⟨(S.fd u hu).1, fun K hK => let ⟨b, h1, h2⟩ := (S.fd u hu).2 K hK; ⟨b, h1, h2.upd (.inr rfl)⟩⟩⟩
  have hga := hga.upd (x := .list (Ws0.map .ref)) (.inr rfl : wl = fl ∨ wl = wl)
  have F := F.but (But.upd (a := wl) (ds := [wl]) (x := .list (Ws0.map .ref)) (by simp)) (by
    intro b hb
    rw [List.mem_singleton.mp hb]
    exact F.ne S.w rfl)
  have ec : Ext H (upd Hd wl (.list (Ws0.map .ref))) := fun b y hb => by
    rw [upd_ne (fun z => by rw [z, hwlH] at hb; cases hb)]; exact ec _ _ hb
  clear S
  generalize upd Hd wl (.list (Ws0.map .ref)) = H3 at S1 hga F ec ⊢
  refine WP.fsC F fun H4 F4 u4 => ?_
  have S4 := S1.ext fun b ys hb => u4.keep F hb rfl
  have hga4 := hga.keep F u4
  have ec4 : Ext H H4 := (u4.but (Ext.but (ds := []) ec) ho).ext
  clear S1 hga ec u4 F
  -- known = found[way[-1]]
  obtain ⟨kv, hkv⟩ : ∃ kv, vs[v]? = some kv := ⟨_, List.getElem?_eq_getElem (by rw [S4.n]; exact hvn)⟩
  refine WP.cons (WP.asgName (WP.sub (WP.name (WP.fcL F4 f2 (WP.sub (WP.name (WP.fcC F4 rfl (WP.unary (WP.cInt fun k1 => WP.neg fun k2 => ?_)))))))))
  refine WP.lastI hga4.1 hp.last fun k3 => ?_
  refine WP.item S4.f (by omega) (x := kv) (by simpa using hkv) ?_ (by omega)
  refine WP.fsL F4 fun H5 F5 u5 => ?_
  have S5 := S4.ext fun b ys hb => u5.keep F4 hb rfl
  have hga5 := hga4.keep F4 u5
  have ec5 : Ext H H5 := (u5.but (Ext.but (ds := []) ec4) ho).ext
  clear S4 hga4 ec4 u5 F4
  -- found[way[-1]] = ..
  refine WP.cons (WP.asgSub (WP.mono (Φ := fun r H' => ∃ b K, r = .ref b ∧ Ext H5 H' ∧ newFd fd p v v = some K ∧ GL H' fl wl b K) ?_ ?_))
  · refine WP.ifExp (WP.tCmp (WP.name (WP.fcL F5 (if_pos rfl) (WP.cNone (WP.isNone (WP.truthB ?_))))))
    cases hfd : fd v with
    | none =>
      have hk0 := (S5.fd v hvn).1 hfd
      rw [hkv] at hk0
      cases hk0
      refine WP.name (WP.fcC F5 rfl ⟨a, p, rfl, Ext.refl, ?_, hga5⟩)
      unfold newFd; rw [if_pos rfl, hfd]
    | some K =>
      obtain ⟨ak, hk0, hgk⟩ := (S5.fd v hvn).2 K hfd
      rw [hkv] at hk0
      cases hk0
      obtain ⟨vsK, hKl, hKi⟩ := hgk.1
      have hKlen := intsAre_len hKi
      rw [List.length_map] at hKlen
      have hcw : H5 (_) = some (.cell (some (.ref a))) := F5.cell "way" _ rfl
      have hKn : K.length ≤ 1000 := Nat.le_trans (hK10 v K hfd) (by decide)
      refine WP.compV (N := vsK.length) (itO := fun k => .iter ak k) (Src := fun H => H ak = some (.list vsK)) (P := fun k v => vsK[k]? = some v)
        (fun fb k ws H' => (∀ a, fb a → H5 a = none) ∧ Ext H5 H' ∧ IntsAre ws (toI ((K.take k).filter fun j => decide (j ∈ p))))
        (by omega) rfl ?_ (by rw [F5.loc]; simp) ?_ ?_ ?_ ?_
      · rintro fb k ws H6 ⟨_, e, _⟩
        exact ⟨e _ _ hKl, _, e _ _ F5.loc⟩
      · rintro fb k ws H6 H7 ⟨f, e, hh⟩ hk
        exact ⟨f, fun a y ha => hk _ _ (fun z => by rw [f a z] at ha; cases ha) (e _ _ ha), hh⟩
      · refine WP.name (WP.fcL F5 (if_pos rfl) ?_)
        refine WP.iterL hKl fun q hq => ⟨fun a y ha => ⟨y, upd_old ha hq⟩, q, rfl, Draw.list o'.hh, hq, upd_self, fun fb H6 hfb hk => ⟨hfb, fun a y ha => hk _ _ (fun z => by rw [hfb a z] at ha; cases ha) (upd_old ha hq), .nil⟩⟩
      · rintro fb C k v' ws H6 f6 hk6 hv ⟨hfb, e6, hws⟩ _ htold hfC hC hfx
        obtain ⟨n, t, rfl, hn⟩ := intsAre_get' hKi hv
        rw [List.getElem?_map] at hn
        obtain ⟨j, hj, rfl⟩ := Option.map_eq_some_iff.mp hn
        refine WP.tests1 (WP.tCmp (WP.name (WP.loadL hC hfx (WP.name (WP.loadC rfl (e6 _ _ hcw) (WP.inI (hga5.1.ext fun y => e6 _ y) (WP.truthB ⟨fun a y _ hy => hy, ?_⟩)))))))
        rw [any_toI, List.take_add_one, hj, List.filter_append]
        by_cases hjb : j ∈ p
        · rw [if_pos (by simp [hjb])]
          refine WP.name (WP.loadL hC hfx ⟨fun a y _ hy => hy, hfb, e6, ?_⟩)
          have : toI ((List.take k K).filter (fun j => decide (j ∈ p)) ++ (some j).toList.filter (fun j => decide (j ∈ p))) = toI ((List.take k K).filter (fun j => decide (j ∈ p))) ++ [(j : Int)] := by simp [hjb]
          rw [this]; exact intsAre_push hws
        · rw [if_neg (by simp [hjb])]
          exact ⟨hfb, e6, by simpa [hjb] using hws⟩
      rintro acc fb ws H6 ⟨hfb, e6, hws⟩ _ hfa _ hacc
      rw [List.take_of_length_le (show K.length ≤ vsK.length by omega)] at hws
      refine ⟨acc, _, rfl, e6, ?_, ⟨ws, hacc, hws⟩, fun z => ?_, fun z => ?_⟩
      · unfold newFd; rw [if_pos rfl, hfd]
      · have := hfb _ hfa; rw [z, S5.f] at this; cases this
      · have := hfb _ hfa; rw [z, S5.w] at this; cases this
  rintro r H6 ⟨b, K, rfl, e6, hK, hgb⟩
  have S6 := S5.ext fun b ys hb => e6 _ _ hb
  have F6 := F5.ext e6
  have hga6 := hga5.ext fun y hy => e6 _ _ hy
  have ec6 := ec5.trans e6
  clear S5 F5 hga5 ec5 e6
  refine WP.name (WP.fcL F6 ((if_neg (by decide)).trans f2) (WP.sub (WP.name (WP.fcC F6 rfl (WP.unary (WP.cInt fun k4 => WP.neg fun k5 => ?_))))))
  refine WP.lastI hga6.1 hp.last fun k6 => ?_
  refine WP.setL S6.f (by rw [S6.n]; exact hvn) (by rw [S6.n]; omega) ?_
  have S7 : GSt W fl wl Ws0 wt0 (vs.set v (.ref b)) (newFd fd p v) (upd H6 fl (.list (vs.set v (.ref b)))) := ⟨upd_self, by rw [List.length_set]; exact S6.n, by rw [upd_ne hwn]; exact S6.w, S6.l, fun i b q h1 h2 => (S6.ws i b q h1 h2).upd (.inl rfl), fun u hu => by
    by_cases e : u = v
    · subst e
      refine ⟨fun h => (by rw [hK] at h; cases h), fun K' hK' => ?_⟩
      rw [hK] at hK'; cases hK'
      exact ⟨b, by rw [List.getElem?_set_self (by rw [S6.n]; exact hu)], hgb.upd (.inl rfl)⟩
    · have e1 : newFd fd p v u = fd u := by unfold newFd; rw [if_neg e]
      rw [e1, List.getElem?_set_ne (Ne.symm e)]
      exact ⟨(S6.fd u hu).1, fun K' hK' => let ⟨b, h1, h2⟩ := (S6.fd u hu).2 K' hK'; ⟨b, h1, h2.upd (.inl rfl)⟩⟩⟩
  have hga7 := hga6.upd (x := .list (vs.set v (.ref b))) (.inl rfl : fl = fl ∨ fl = wl)
  have F7 := F6.but (But.upd (a := fl) (ds := [fl]) (x := .list (vs.set v (.ref b))) (by simp)) (by
    intro b hb
    rw [List.mem_singleton.mp hb]
    exact F6.ne S6.f rfl)
  have ec7 : Ext H (upd H6 fl (.list (vs.set v (.ref b)))) := fun b y hb => by
    rw [upd_ne (fun z => by rw [z, hflH] at hb; cases hb)]; exact ec6 _ _ hb
  clear S6 hga6 ec6 F6 hgb
  generalize upd H6 fl (.list (vs.set v (.ref b))) = H7 at S7 hga7 F7 ec7 ⊢
  -- waiting.extend(..)
  refine WP.cons (WP.expr (WP.callM (WP.name (WP.fcL F7 ((if_neg (by decide)).trans f3) ?_))))
  refine WP.lMeth S7.w PySem.F.slot_list_extend PySem.F.type_list_extend ?_
  obtain ⟨av, hav⟩ : ∃ ai, as[v]? = some ai := ⟨as[v]'(by rw [has]; exact hvn), List.getElem?_eq_getElem _⟩
  obtain ⟨row, hrow⟩ : ∃ row, W.ways[v]? = some row := ⟨W.ways[v]'(by rw [hW.lw]; exact hvn), List.getElem?_eq_getElem _⟩
  obtain ⟨vsW, hWl, hWi⟩ := hrows v av row hav hrow
  have hlen := intsAre_len hWi
  rw [List.length_map] at hlen
  have hr2 := hW.w2 row (List.mem_of_getElem? hrow)
  have hcw : H7 (_) = some (.cell (some (.ref a))) := F7.cell "way" _ rfl
  obtain ⟨vsP, hPl, hPi⟩ := id hga7.1
  have hPlen := intsAre_len hPi
  rw [List.length_map] at hPlen
  refine WP.cwB (WP.args (WP.mono (Φ := fun r H' => ∃ acc : Addr, ∃ Bs : List Addr, r = .ref acc ∧ Ext H7 H' ∧ H7 acc = none ∧ H' acc = some (.list (Bs.map .ref)) ∧ Bs.length = (succs W p v).length ∧ ∀ (i : Nat) b q, Bs[i]? = some b → (succs W p v)[i]? = some q → GL H' fl wl b q) ?_ ?_))
  · have hsuc : succs W p v = (row.filter fun j => !decide (j ∈ p)).map fun j => p ++ [j] := by
      unfold succs
      rw [show W.ways.getD v [] = row by rw [List.getD_eq_getElem?_getD, hrow]; rfl]
    refine WP.compV (N := vsW.length) (itO := fun k => .iter av k) (Src := fun H => H av = some (.list vsW)) (P := fun k v => vsW[k]? = some v)
      (fun fb k ws H' => (∀ a, fb a → H7 a = none) ∧ Ext H7 H' ∧ ∃ Bs : List Addr, ws = Bs.map .ref ∧ Bs.length = ((row.take k).filter fun j => !decide (j ∈ p)).length ∧ ∀ (i : Nat) b q, Bs[i]? = some b → (((row.take k).filter fun j => !decide (j ∈ p)).map fun j => p ++ [j])[i]? = some q → ¬fb b ∧ GL H' fl wl b q)
      (by omega) rfl ?_ (by rw [F7.loc]; simp) ?_ ?_ ?_ ?_
    · rintro fb k ws H6 ⟨_, e, _⟩
      exact ⟨e _ _ (ec7 _ _ hWl), _, e _ _ F7.loc⟩
    · rintro fb k ws H6 H7' ⟨f, e, Bs, h1, h2, h3⟩ hk
      refine ⟨f, fun a y ha => hk _ _ (fun z => by rw [f a z] at ha; cases ha) (e _ _ ha), Bs, h1, h2, fun i b q hb hq => ?_⟩
      obtain ⟨h4, h5⟩ := h3 i b q hb hq
      exact ⟨h4, h5.ext fun y hy => hk _ _ h4 hy⟩
    · refine WP.sub (WP.name (WP.fcL F7 ((if_neg (by decide)).trans f1) (WP.sub (WP.name (WP.fcC F7 rfl (WP.unary (WP.cInt fun k7 => WP.neg fun k8 => ?_)))))))
      refine WP.lastI hga7.1 hp.last fun k9 => ?_
      refine WP.item (ec7 _ _ hwa) (by omega) (x := .ref av) (by simpa using hav) ?_ (by omega)
      refine WP.iterL (ec7 _ _ hWl) fun q hq => ⟨fun a y ha => ⟨y, upd_old ha hq⟩, q, rfl, Draw.list o'.hh, hq, upd_self, fun fb H6 hfb hk => ⟨hfb, fun a y ha => hk _ _ (fun z => by rw [hfb a z] at ha; cases ha) (upd_old ha hq), [], rfl, rfl, by simp⟩⟩
    · rintro fb C k v' ws H6 f6 hk6 hv ⟨hfb, e6, Bs, rfl, hB1, hB2⟩ _ htold hfC hC hfx
      obtain ⟨n, t, rfl, hn⟩ := intsAre_get' hWi hv
      rw [List.getElem?_map] at hn
      obtain ⟨j, hj, rfl⟩ := Option.map_eq_some_iff.mp hn
      refine WP.tests1 (WP.tCmp (WP.name (WP.loadL hC hfx (WP.name (WP.loadC rfl (e6 _ _ hcw) (WP.ninI (hga7.1.ext fun y => e6 _ y) (WP.truthB ⟨fun a y _ hy => hy, ?_⟩)))))))
      rw [any_toI, List.take_add_one, hj, List.filter_append]
      by_cases hjb : j ∈ p
      · rw [if_neg (by simp [hjb])]
        have e : (List.take k row).filter (fun j => !decide (j ∈ p)) ++ (some j).toList.filter (fun j => !decide (j ∈ p)) = (List.take k row).filter (fun j => !decide (j ∈ p)) := by simp [hjb]
        rw [e]
        exact ⟨hfb, e6, Bs, rfl, hB1, hB2⟩
      · rw [if_pos (by simp [hjb])]
        have e : (List.take k row).filter (fun j => !decide (j ∈ p)) ++ (some j).toList.filter (fun j => !decide (j ∈ p)) = (List.take k row).filter (fun j => !decide (j ∈ p)) ++ [j] := by simp [hjb]
        rw [e]
        refine WP.binop (WP.name (WP.loadC rfl (e6 _ _ hcw) (WP.eList (WP.args (WP.name (WP.loadL hC hfx (WP.args0 (WP.newList fun q1 nq1 => ?_))))))))
        have e7 := e6.trans (Ext.refl.new (x := .list [.int (j : Int) t]) nq1)
        refine WP.addL (e7 _ _ hPl) upd_self (by simp; omega) fun q2 nq2 => ?_
        have nq2' : H6 q2 = none := (Ext.refl.new (x := .list [.int (j : Int) t]) nq1).fresh nq2
        have k2 : ∀ a y, H6 a = some y → upd (upd H6 q1 (.list [.int (j : Int) t])) q2 (.list (vsP ++ [.int (j : Int) t])) a = some y := fun a y ha => upd_old (upd_old ha nq1) nq2
        refine ⟨fun a y _ hy => k2 _ _ hy, hfb, fun a y ha => k2 _ _ (e6 _ _ ha), Bs ++ [q2], by simp, by simp [hB1], fun i b q hb hq => ?_⟩
        rw [List.map_append] at hq
        by_cases hi : i < Bs.length
        · rw [List.getElem?_append_left hi] at hb
          rw [List.getElem?_append_left (by rw [List.length_map]; omega)] at hq
          obtain ⟨h4, h5⟩ := hB2 i b q hb hq
          exact ⟨h4, h5.ext fun y hy => k2 _ _ hy⟩
        · rw [List.getElem?_append_right (by omega)] at hb
          rw [List.getElem?_append_right (by rw [List.length_map]; omega), List.length_map, ← hB1] at hq
          have hi0 : i - Bs.length = 0 := by
            have := (List.getElem?_eq_some_iff.mp hb).1
            simp at this; omega
          rw [hi0] at hb hq
          cases hb
          cases hq
          refine ⟨fun z => htold _ z nq2', ⟨vsP ++ [.int (j : Int) t], upd_self, ?_⟩, fun z => ?_, fun z => ?_⟩
          · have : toI (p ++ [j]) = toI p ++ [(j : Int)] := by simp
            rw [this]; exact intsAre_push hPi
          · have := e6 _ _ S7.f; rw [← z, nq2'] at this; cases this
          · have := e6 _ _ S7.w; rw [← z, nq2'] at this; cases this
    rintro acc fb ws H6 ⟨hfb, e6, Bs, rfl, hB1, hB2⟩ _ hfa _ hacc
    rw [List.take_of_length_le (show row.length ≤ vsW.length by omega)] at hB1 hB2
    exact ⟨acc, Bs, rfl, e6, hfb _ hfa, hacc, by rw [hsuc, List.length_map]; exact hB1, fun i b q hb hq => (hB2 i b q hb (by rw [← hsuc]; exact hq)).2⟩
  rintro r H8 ⟨acc, Bs', rfl, e8, na, hacc, hbl, hbs⟩
  have S8 := S7.ext fun b ys hb => e8 _ _ hb
  have F8 := F7.ext e8
  have ec8 := ec7.trans e8
  have hst := mu_step hW (wt := wt0) hp hvn
  have hml2 := mu_len (wt := wt0 ++ succs W p v)
  rw [List.length_append] at hml2
  have hsu := S8.l
  refine WP.args0 (WP.extend S8.w hacc (by simp; omega) ?_)
  refine WP.nil ⟨mu (wt0 ++ succs W p v), hst, wt0 ++ succs W p v, vs.set v (.ref b), newFd fd p v, Ws0 ++ Bs', _, _, rfl, by omega, (hFR _ _ _).mpr (F8.but (But.upd (a := wl) (ds := [wl]) (by simp)) (by
    intro b hb
    rw [List.mem_singleton.mp hb]
    exact F8.ne S8.w rfl)), (if_neg (by decide)).trans f1, (if_neg (by decide)).trans f2, (if_neg (by decide)).trans f3, fun b y hb => ?_, ?_, I.step hp, fun u K' hK' => ?_⟩
  · rw [upd_ne (fun z => by rw [z, hwlH] at hb; cases hb)]; exact ec8 _ _ hb
  · rw [← List.map_append]
    refine ⟨by rw [upd_ne nfw]; exact S8.f, S8.n, upd_self, by rw [List.length_append, List.length_append, S8.l, hbl], fun i b q h1 h2 => ?_, fun u hu => ⟨(S8.fd u hu).1, fun K hK => let ⟨b, h1, h2⟩ := (S8.fd u hu).2 K hK; ⟨b, h1, h2.upd (.inr rfl)⟩⟩⟩
    by_cases hi : i < Ws0.length
    · rw [List.getElem?_append_left hi] at h1
      rw [List.getElem?_append_left (by omega)] at h2
      exact (S8.ws i b q h1 h2).upd (.inr rfl)
    · rw [List.getElem?_append_right (by omega)] at h1
      rw [List.getElem?_append_right (by omega), ← S8.l] at h2
      exact (hbs _ b q h1 h2).upd (.inr rfl)
  · unfold newFd at hK'
    split at hK'
    · cases hfd : fd v with
      | none =>
        rw [hfd] at hK'
        have e : p = K' := Option.some.inj hK'
        rw [← e]; exact Nat.le_trans hpl (by omega)
      | some K0 =>
        rw [hfd] at hK'; cases hK'
        exact Nat.le_trans (List.length_filter_le _ _) (hK10 v K0 hfd)
    · exact hK10 u K' hK'
end
end Mine
end
section
namespace Mine
open Classical in
noncomputable def rb (W : Wd) (bar : List Nat) (j : Nat) : Bool := decide (RT (chB W bar) (srcB W bar) j)
theorem rb_iff {W : Wd} {bar : List Nat} {j : Nat} : rb W bar j = true ↔ RT (chB W bar) (srcB W bar) j := by unfold rb; simp
noncomputable def lostL (W : Wd) (bar : List Nat) : List Nat := (List.range W.n).filter fun j => !rb W bar j
noncomputable def lots (W : Wd) (a : Nat) : List Nat := (lostL W [a]).filter fun x => !decide (x ∈ lostL W [])
abbrev room (W : Wd) (j : Nat) : Int := W.rooms.getD j 0
theorem dec_of {p : Prop} [Decidable p] {b : Bool} (h : p ↔ b = true) : decide p = b := by
  cases b with
  | true => exact decide_eq_true (h.mpr rfl)
  | false => exact decide_eq_false fun z => Bool.false_ne_true (h.mp z)
section
variable {W : Wd} {bar bar' : List Nat} {a b h t v : Nat}
theorem rt_mono (hs : ∀ x ∈ bar, x ∈ bar') (r : RT (chB W bar') (srcB W bar') v) : RT (chB W bar) (srcB W bar) v := by
  induction r with
  | src h =>
    obtain ⟨h1, h2⟩ := List.mem_filter.mp h
    exact .src (List.mem_filter.mpr ⟨h1, by simp at h2 ⊢; exact fun z => h2 (hs _ z)⟩)
  | step _ hj ih =>
    obtain ⟨h1, h2⟩ := List.mem_filter.mp hj
    exact .step ih (List.mem_filter.mpr ⟨h1, by simp at h2 ⊢; exact fun z => h2 (hs _ z)⟩)
/-- what is not come to with bar off is off every way there -/
theorem rt_add (hn : ¬RT (chB W bar) (srcB W bar) t) (hs : ∀ x ∈ bar', x ∈ bar ∨ x = t) (r : RT (chB W bar) (srcB W bar) v) : RT (chB W bar') (srcB W bar') v := by
  induction r with
  | @src i h =>
    obtain ⟨h1, h2⟩ := List.mem_filter.mp h
    refine .src (List.mem_filter.mpr ⟨h1, ?_⟩)
    simp at h2 ⊢
    intro z
    rcases hs _ z with q | q
    · exact h2 q
    · exact hn (by rw [← q]; exact .src h)
  | @step i j r hj ih =>
    obtain ⟨h1, h2⟩ := List.mem_filter.mp hj
    refine .step ih (List.mem_filter.mpr ⟨h1, ?_⟩)
    simp at h2 ⊢
    intro z
    rcases hs _ z with q | q
    · exact h2 q
    · exact hn (by rw [← q]; exact .step r hj)
/-- two that can each be come to without the other leave nothing that needs both -/
theorem rt_split (hab : a ≠ b) (h1 : RT (chB W [b]) (srcB W [b]) a) (h2 : RT (chB W [a]) (srcB W [a]) b) (r : RT (chB W []) (srcB W []) v) : RT (chB W [a]) (srcB W [a]) v ∨ RT (chB W [b]) (srcB W [b]) v := by
  induction r with
  | @src i h =>
    have h0 := (List.mem_filter.mp h).1
    by_cases e : i = a
    · subst e
      exact .inr (.src (List.mem_filter.mpr ⟨h0, by simp; exact hab⟩))
    · exact .inl (.src (List.mem_filter.mpr ⟨h0, by simp; exact e⟩))
  | @step i j r hj ih =>
    have h0 := (List.mem_filter.mp hj).1
    rcases ih with q | q
    · by_cases e : j = a
      · rw [e]; exact .inr h1
      · exact .inl (.step q (List.mem_filter.mpr ⟨h0, by simp; exact e⟩))
    · by_cases e : j = b
      · rw [e]; exact .inl h2
      · exact .inr (.step q (List.mem_filter.mpr ⟨h0, by simp; exact e⟩))
theorem mem_lost : v ∈ lostL W bar ↔ v < W.n ∧ ¬RT (chB W bar) (srcB W bar) v := by
  unfold lostL
  rw [List.mem_filter, List.mem_range, ← rb_iff]
  simp
theorem lots_eq : lots W a = (List.range W.n).filter fun j => !rb W [a] j && rb W [] j := by
  unfold lots lostL
  rw [List.filter_filter]
  apply List.filter_congr
  intro j hj
  have hm : decide (j ∈ (List.range W.n).filter fun j => !rb W [] j) = !rb W [] j := by
    have : j ∈ ((List.range W.n).filter fun j => !rb W [] j) ↔ (!rb W [] j) = true := by rw [List.mem_filter]; exact ⟨fun z => z.2, fun z => ⟨hj, z⟩⟩
    exact dec_of this
  rw [hm]
  cases rb W [] j <;> simp
theorem mem_lots : v ∈ lots W a ↔ v < W.n ∧ ¬RT (chB W [a]) (srcB W [a]) v ∧ RT (chB W []) (srcB W []) v := by
  rw [lots_eq, List.mem_filter, List.mem_range, ← rb_iff, ← rb_iff]
  simp
/-- 1: what is lost anyhow is what no way comes to -/
theorem f1 {fd : Nat → Option (List Nat)} (I : PI W [] fd) : lostL W [] = (List.range W.n).filter fun j => (fd j).isNone := by
  unfold lostL
  apply List.filter_congr
  intro j _
  have := (I.done j).1
  cases e : fd j with
  | none =>
    have h1 := this.mp e
    rw [← rb_iff] at h1
    simpa using h1
  | some K =>
    have h1 : RT (chB W []) (srcB W []) j := Classical.byContradiction fun z => by rw [this.mpr z] at e; cases e
    rw [← rb_iff] at h1
    simp [h1]
theorem sum_split {f : Nat → Int} {p : Nat → Bool} : ∀ (l : List Nat), ((l.filter p).map f).sum + ((l.filter fun j => !p j).map f).sum = (l.map f).sum
  | [] => rfl
  | x :: r => by
    have ih := sum_split (f := f) (p := p) r
    cases e : p x <;> simp only [List.filter_cons, e, Bool.not_true, Bool.not_false, if_true, if_false, List.map_cons, List.sum_cons, Bool.false_eq_true] <;> omega
theorem rooms_eq (hW : W.Ok) : (List.range W.n).map (room W) = W.rooms := by
  apply List.ext_getElem
  · simp [hW.lm]
  · intro i h1 h2
    simp only [List.getElem_map, List.getElem_range]
    show W.rooms.getD i 0 = _
    rw [List.getD_eq_getElem?_getD, List.getElem?_eq_getElem h2]; rfl
theorem f1b (hW : W.Ok) : (((List.range W.n).filter (rb W bar)).map (room W)).sum + ((lostL W bar).map (room W)).sum = W.rooms.sum := by
  have := sum_split (f := room W) (p := rb W bar) (List.range W.n)
  rw [rooms_eq hW] at this
  exact this
/-- 2: what a takes with it -/
theorem f2 {fd : Nat → Option (List Nat)} (I : PI W [] fd) : lots W a = (List.range W.n).filter fun j => !decide (j ∈ lostL W []) && (match fd j with | none => false | some K => decide (a ∈ K)) := by
  rw [lots_eq]
  apply List.filter_congr
  intro j hj
  have hm : (!decide (j ∈ lostL W [])) = rb W [] j := by
    have : (j ∈ lostL W []) ↔ (!rb W [] j) = true := by unfold lostL; rw [List.mem_filter]; exact ⟨fun z => z.2, fun z => ⟨hj, z⟩⟩
    rw [dec_of this]; simp
  rw [hm]
  obtain ⟨h1, h2⟩ := I.done j
  cases e : fd j with
  | none =>
    have h3 := h1.mp e
    rw [← rb_iff] at h3
    simp at h3
    simp [h3]
  | some K =>
    have h3 := h2 K e a
    have h4 : decide (a ∈ K) = !rb W [a] j := by
      rw [← rb_iff] at h3
      cases hr : rb W [a] j <;> simp [hr] at h3 ⊢ <;> exact h3
    show _ = (rb W [] j && decide (a ∈ K))
    rw [h4, Bool.and_comm]
theorem len_split {p : Nat → Bool} : ∀ (l : List Nat), (l.filter p).length + (l.filter fun j => !p j).length = l.length
  | [] => rfl
  | x :: r => by
    have ih := len_split (p := p) r
    cases e : p x <;> simp only [List.filter_cons, e, Bool.not_true, Bool.not_false, if_true, if_false, List.length_cons, Bool.false_eq_true] <;> omega
theorem f2b : (lostL W [a]).length = (lostL W []).length + (lots W a).length := by
  have h1 := len_split (p := fun x => decide (x ∈ lostL W [])) (lostL W [a])
  have h2 : (lostL W [a]).filter (fun x => decide (x ∈ lostL W [])) = lostL W [] := by
    unfold lostL
    rw [List.filter_filter]
    apply List.filter_congr
    intro j hj
    have : j ∈ ((List.range W.n).filter fun j => !rb W [] j) ↔ (!rb W [] j) = true := by rw [List.mem_filter]; exact ⟨fun z => z.2, fun z => ⟨hj, z⟩⟩
    rw [dec_of this]
    cases e : rb W [] j with
    | true => simp
    | false =>
      have : rb W [a] j = false := by
        cases e2 : rb W [a] j with
        | false => rfl
        | true =>
          have := rt_mono (bar := []) (by simp) (rb_iff.mp e2)
          rw [← rb_iff, e] at this; cases this
      simp [this]
  rw [h2] at h1
  unfold lots
  omega
/-- 3: two lots lie apart or one within the other -/
theorem f3 : (lots W a).filter (fun x => decide (x ∈ lots W b)) = [] ∨ (lots W a).filter (fun x => decide (x ∈ lots W b)) = lots W a ∨ (lots W a).filter (fun x => decide (x ∈ lots W b)) = lots W b := by
  by_cases hab : a = b
  · subst hab
    right; left
    apply List.filter_eq_self.mpr
    intro x hx; simpa using hx
  by_cases h1 : RT (chB W [b]) (srcB W [b]) a
  · by_cases h2 : RT (chB W [a]) (srcB W [a]) b
    · left
      apply List.filter_eq_nil_iff.mpr
      intro x hx
      simp
      intro hx2
      obtain ⟨_, h3, h4⟩ := mem_lots.mp hx
      obtain ⟨_, h5, _⟩ := mem_lots.mp hx2
      rcases rt_split hab h1 h2 h4 with q | q
      · exact h3 q
      · exact h5 q
    · -- b needs a: b's lot lies in a's
      right; right
      have hs : ∀ x, x ∈ lots W b → x ∈ lots W a := fun x hx => by
        obtain ⟨q1, q2, q3⟩ := mem_lots.mp hx
        exact mem_lots.mpr ⟨q1, fun z => q2 (rt_add h2 (by simp) z), q3⟩
      rw [lots_eq, lots_eq, List.filter_filter]
      apply List.filter_congr
      intro j hj
      have hm : decide (j ∈ (List.range W.n).filter fun j => !rb W [b] j && rb W [] j) = (!rb W [b] j && rb W [] j) := by
        have : j ∈ ((List.range W.n).filter fun j => !rb W [b] j && rb W [] j) ↔ (!rb W [b] j && rb W [] j) = true := by rw [List.mem_filter]; exact ⟨fun z => z.2, fun z => ⟨hj, z⟩⟩
        exact dec_of this
      rw [hm]
      cases e : (!rb W [b] j && rb W [] j) with
      | false => simp
      | true =>
        have h3 : j ∈ lots W b := by rw [lots_eq]; exact List.mem_filter.mpr ⟨hj, e⟩
        have h4 := hs j h3
        rw [lots_eq] at h4
        rw [(List.mem_filter.mp h4).2]; rfl
  · -- a needs b: a's lot lies in b's
    right; left
    apply List.filter_eq_self.mpr
    intro x hx
    obtain ⟨q1, q2, q3⟩ := mem_lots.mp hx
    simp
    exact mem_lots.mpr ⟨q1, fun z => q2 (rt_add h1 (by simp) z), q3⟩
noncomputable def both (W : Wd) (h t : Nat) : List Nat := (List.range W.n).filter fun j => decide (j ∈ lostL W []) || decide (j ∈ lots W h) || decide (j ∈ lots W t)
theorem mem_both : v ∈ both W h t ↔ v < W.n ∧ (¬RT (chB W [h]) (srcB W [h]) v ∨ ¬RT (chB W [t]) (srcB W [t]) v) := by
  unfold both
  rw [List.mem_filter, List.mem_range]
  simp only [Bool.or_eq_true, decide_eq_true_eq, mem_lost, mem_lots]
  constructor
  · rintro ⟨h1, (h2 | h2) | h2⟩
    · exact ⟨h1, .inl fun z => h2.2 (rt_mono (by simp) z)⟩
    · exact ⟨h1, .inl h2.2.1⟩
    · exact ⟨h1, .inr h2.2.1⟩
  · rintro ⟨h1, h2⟩
    refine ⟨h1, ?_⟩
    by_cases hr : RT (chB W []) (srcB W []) v
    · rcases h2 with h2 | h2
      · exact .inl (.inr ⟨h1, h2, hr⟩)
      · exact .inr ⟨h1, h2, hr⟩
    · exact .inl (.inl ⟨h1, hr⟩)
/-- 4: both barred, the one needing the other -/
theorem f4 (hd : t ∈ lots W h ∨ h ∈ lots W t) : lostL W [h, t] = both W h t := by
  have key : ∀ v, v < W.n → (¬RT (chB W [h, t]) (srcB W [h, t]) v ↔ (¬RT (chB W [h]) (srcB W [h]) v ∨ ¬RT (chB W [t]) (srcB W [t]) v)) := fun v _ => by
    constructor
    · intro hn
      by_cases h1 : RT (chB W [h]) (srcB W [h]) v
      · by_cases h2 : RT (chB W [t]) (srcB W [t]) v
        · exfalso
          rcases hd with hd | hd
          · exact hn (rt_add (mem_lots.mp hd).2.1 (by simp) h1)
          · exact hn (rt_add (mem_lots.mp hd).2.1 (by simp) h2)
        · exact .inr h2
      · exact .inl h1
    · rintro (h1 | h1) hr
      · exact h1 (rt_mono (by simp) hr)
      · exact h1 (rt_mono (by simp) hr)
  unfold lostL both
  apply List.filter_congr
  intro j hj
  have hj' := List.mem_range.mp hj
  have h1 := key j hj'
  have h2 : (decide (j ∈ lostL W []) || decide (j ∈ lots W h) || decide (j ∈ lots W t)) = true ↔ (¬RT (chB W [h]) (srcB W [h]) j ∨ ¬RT (chB W [t]) (srcB W [t]) j) := by
    have := mem_both (W := W) (h := h) (t := t) (v := j)
    unfold both at this
    rw [List.mem_filter] at this
    constructor
    · intro z; exact (this.mp ⟨hj, z⟩).2
    · intro z; exact (this.mpr ⟨hj', z⟩).2
  rw [← h1, ← rb_iff] at h2
  exact (Bool.eq_iff_iff.mpr (h2.trans (by simp))).symm
theorem f5 : (both W h t).filter (fun x => !decide (x ∈ lostL W [h, t])) = [] := by
  apply List.filter_eq_nil_iff.mpr
  intro x hx
  obtain ⟨h1, h2⟩ := mem_both.mp hx
  simp
  refine mem_lost.mpr ⟨h1, fun z => ?_⟩
  rcases h2 with h2 | h2
  · exact h2 (rt_mono (by simp) z)
  · exact h2 (rt_mono (by simp) z)
end
end Mine
end
section
open PySem PySem.W PyProof.Rows PySem.Calls
namespace Mine
section
variable {prog : Program} {w : World} {h₀ : Heap} {A : Around} {H : HM} {env : Env} {pos : Pos} {Φ : Value → HM → Prop}
variable {elt iter : Expr} {ifs : List Expr} {scope : Scope} {cl : List (Str × Addr)} {x : Str} {px : Pos} {N : Nat} {itO : Nat → AObj} {Src : HM → Prop} {P : Nat → Value → Prop}

/-- an iterator laid over ints -/
def Over (prog : Program) (w : World) (h₀ : Heap) (A : Around) (H : HM) (N : Nat) (itO : Nat → AObj) (Src : HM → Prop) (P : Nat → Value → Prop) (it : Value) (H2 : HM) : Prop := Ext H H2 ∧ ∃ own, it = .ref own ∧ Draw prog w h₀ A own N itO Src P ∧ H own = none ∧ H2 own = some (itO 0)
theorem Over.list {l : Addr} {vs : List Value} {H1 : HM} (hh : A.handled = none) (e : Ext H H1) (hl : H1 l = some (.list vs)) : WP prog w h₀ A (pyIter (.ref l)) H1 (Over prog w h₀ A H vs.length (fun k => .iter l k) (fun H => H l = some (.list vs)) (fun k v => vs[k]? = some v)) :=
  WP.iterL hl fun q hq => ⟨e.trans (Ext.refl.new hq), q, rfl, Draw.list hh, e.fresh hq, upd_self⟩
theorem Over.range {l : Addr} {n : Nat} {t u v : Tok} {H1 : HM} (hh : A.handled = none) (e : Ext H H1) (hl : H1 l = some (.raw (rangeO n t u v))) (hn : n ≤ 1000) : WP prog w h₀ A (pyIter (.ref l)) H1 (Over prog w h₀ A H n (fun k => .raw (rangeI k ((n : Int) - k))) (fun _ => True) (fun k v => ∃ t, v = .int k t)) :=
  WP.rangeIt hl hn fun q hq => ⟨e.trans (Ext.refl.new hq), q, rfl, Draw.range hh, e.fresh hq, by rw [upd_self]; simp⟩

/-- ints from ints, nothing turned -/
theorem WP.compG {ns : List Nat} {m0 : Str → Option Value} (p : Nat → Bool) (g : Nat → Int) (hN : ns.length = N) (hN2 : N ≤ 1000) (hL0 : H env.locals = some (.ns m0)) (hclos : closureFor scope env = Pure.pure cl)
    (hP : ∀ k v, k < N → P k v → ∃ j t, ns[k]? = some j ∧ v = .int (j : Int) t) (hSrc : ∀ H1, Ext H H1 → Src H1)
    (hi : WP prog w h₀ A (eval iter env) H fun xv H1 => WP prog w h₀ A (pyIter xv) H1 (Over prog w h₀ A H N itO Src P))
    (turn : ∀ C j t H1 f, j ∈ ns → Ext H H1 → H1 C = some (.ns f) → f x = some (.int (j : Int) t) → WP prog w h₀ A (tests ifs (compEnvC scope cl C env)) H1 fun ok H2 => Ext H1 H2 ∧ ok = p j ∧
      (p j = true → WP prog w h₀ A (eval elt (compEnvC scope cl C env)) H2 fun y H3 => Ext H2 H3 ∧ ∃ t, y = .int (g j) t))
    (fin : ∀ acc H1, Ext H H1 → H acc = none → LI H1 acc ((ns.filter p).map g) → Φ (.ref acc) H1)
    (hcell : ∀ y ∈ scope.names, y.2 ≠ .cell := by decide) (hkind : scope.kind = .function := by rfl) (hnames : ∀ x ∈ scope.names, x.2 = .local → scope.names.lookup x.1 = some .local := by decide)
    (hlt : ∀ it v, letOwnedTupleGo (.Name x px) it v = Pure.pure () := by intro _ _; rfl) (hx : ∀ C, (compEnvC scope cl C env).kindOf x = some .local := by intro _; rfl)
    (hp : ∀ C, ((compEnvC scope cl C env).scope.kind == .class || ((compEnvC scope cl C env).scope.kind == .module && (compEnvC scope cl C env).locals != (compEnvC scope cl C env).globals)) = false := by intro _; rfl) (hloc : ∀ C, (compEnvC scope cl C env).locals = C := by intro _; rfl)
    (hs : ∀ x, foldedSetIterable iter env x = Pure.pure x := by intro _; rfl) : WP prog w h₀ A (eval (.ListComp elt [⟨.Name x px, iter, ifs, 0⟩] scope pos) env) H Φ := by
  refine WP.compV (N := N) (itO := itO) (Src := Src) (P := P) (fun fb k ws H' => (∀ a, fb a → H a = none) ∧ Ext H H' ∧ IntsAre ws (((ns.take k).filter p).map g)) hN2 hclos ?_ (by rw [hL0]; simp) ?_ ?_ ?_ ?_ hcell hkind hnames hlt hx hp hloc hs
  · rintro fb k ws H1 ⟨_, e, _⟩
    exact ⟨hSrc H1 e, _, e _ _ hL0⟩
  · rintro fb k ws H6 H7 ⟨f, e, hh⟩ hk
    exact ⟨f, fun a y ha => hk _ _ (fun z => by rw [f a z] at ha; cases ha) (e _ _ ha), hh⟩
  · refine hi.mono fun xv H1 h => h.mono fun it H2 ⟨e, own, h1, h2, h3, h4⟩ => ⟨fun a y ha => ⟨y, e _ _ ha⟩, own, h1, h2, h3, h4, fun fb H6 hfb hk => ⟨hfb, fun a y ha => hk _ _ (fun z => by rw [hfb a z] at ha; cases ha) (e _ _ ha), .nil⟩⟩
  · rintro fb C k v ws H6 f hk hv ⟨hfb, e6, hws⟩ _ htold hfC hC hfx
    obtain ⟨j, t, hj, rfl⟩ := hP k v hk hv
    refine (turn C j t H6 f (List.mem_of_getElem? hj) e6 hC hfx).mono fun ok H7 ⟨e7, hok, helt⟩ => ⟨fun a y _ hy => e7 _ _ hy, ?_⟩
    subst hok
    rw [List.take_add_one, hj, List.filter_append, List.map_append]
    cases hpj : p j with
    | false =>
      rw [if_neg Bool.false_ne_true]
      exact ⟨hfb, e6.trans e7, by simpa [hpj] using hws⟩
    | true =>
      rw [if_pos rfl]
      refine (helt hpj).mono fun y H8 ⟨e8, t', hy⟩ => ?_
      subst hy
      refine ⟨fun a y _ hy => e8 _ _ hy, hfb, (e6.trans e7).trans e8, ?_⟩
      have : ((some j).toList.filter p).map g = [g j] := by simp [hpj]
      rw [this]; exact intsAre_push hws
  · rintro acc fb ws H6 ⟨hfb, e6, hws⟩ _ hfa _ hacc
    rw [← hN, List.take_length] at hws
    exact fin acc H6 e6 (hfb _ hfa) ⟨ws, hacc, hws⟩

/-- drawn values -/
theorem WP.compD {n : Nat} {m0 : Str → Option Value} {dd tl : Addr} {b : Nat} (Q : Int → Prop) (hn : n ≤ 100) (hL0 : H env.locals = some (.ns m0)) (hclos : closureFor scope env = Pure.pure cl) (hD : Dr prog w H dd tl b)
    (hi : WP prog w h₀ A (eval iter env) H fun xv H1 => WP prog w h₀ A (pyIter xv) H1 (Over prog w h₀ A H n (fun k => .raw (rangeI k ((n : Int) - k))) (fun _ => True) (fun k v => ∃ t, v = .int k t)))
    (turn : ∀ C k H1, k < n → But [dd] H H1 → Dr prog w H1 dd tl (b + k) → WP prog w h₀ A (eval elt (compEnvC scope cl C env)) H1 fun y H2 => But [dd] H1 H2 ∧ Dr prog w H2 dd tl (b + (k + 1)) ∧ ∃ v t, y = .int v t ∧ Q v)
    (fin : ∀ acc xs H1, But [dd] H H1 → H acc = none → Dr prog w H1 dd tl (b + n) → xs.length = n → (∀ v ∈ xs, Q v) → LI H1 acc xs → Φ (.ref acc) H1)
    (hcell : ∀ y ∈ scope.names, y.2 ≠ .cell := by decide) (hkind : scope.kind = .function := by rfl) (hnames : ∀ x ∈ scope.names, x.2 = .local → scope.names.lookup x.1 = some .local := by decide)
    (hlt : ∀ it v, letOwnedTupleGo (.Name x px) it v = Pure.pure () := by intro _ _; rfl) (hx : ∀ C, (compEnvC scope cl C env).kindOf x = some .local := by intro _; rfl)
    (hp : ∀ C, ((compEnvC scope cl C env).scope.kind == .class || ((compEnvC scope cl C env).scope.kind == .module && (compEnvC scope cl C env).locals != (compEnvC scope cl C env).globals)) = false := by intro _; rfl) (hloc : ∀ C, (compEnvC scope cl C env).locals = C := by intro _; rfl)
    (hs : ∀ x, foldedSetIterable iter env x = Pure.pure x := by intro _; rfl) : WP prog w h₀ A (eval (.ListComp elt [⟨.Name x px, iter, [], 0⟩] scope pos) env) H Φ := by
  have hdt : H dd ≠ none := by obtain ⟨_, _, _, ⟨_, es, e, _⟩, _⟩ := hD; rw [e]; simp
  have hlt' : H tl ≠ none := by obtain ⟨_, _, _, _, ⟨vs, e, _⟩, _⟩ := hD; rw [e]; simp
  have hld : env.locals ∉ [dd] := fun z => by
    obtain ⟨_, _, _, ⟨_, es, e, _⟩, _⟩ := hD
    rw [List.mem_singleton.mp z, e] at hL0; cases hL0
  refine WP.compV (N := n) (itO := fun k => .raw (rangeI k ((n : Int) - k))) (Src := fun _ => True) (P := fun k v => ∃ t, v = .int k t) (fun fb k ws H' => (∀ a, fb a → H a = none) ∧ But [dd] H H' ∧ Dr prog w H' dd tl (b + k) ∧ ∃ xs, IntsAre ws xs ∧ xs.length = k ∧ ∀ v ∈ xs, Q v) (by omega) hclos ?_ (by rw [hL0]; simp) ?_ ?_ ?_ ?_ hcell hkind hnames hlt hx hp hloc hs
  · rintro fb k ws H1 ⟨_, e, _⟩
    exact ⟨trivial, _, e _ _ hL0 hld⟩
  · rintro fb k ws H6 H7 ⟨f, e, hd, hh⟩ hk
    exact ⟨f, fun a y ha hna => hk _ _ (fun z => by rw [f a z] at ha; cases ha) (e _ _ ha hna), hd.keep (fun y => hk _ _ fun z => hdt (f _ z)) (fun y => hk _ _ fun z => hlt' (f _ z)), hh⟩
  · refine hi.mono fun xv H1 h => h.mono fun it H2 ⟨e, own, h1, h2, h3, h4⟩ => ⟨fun a y ha => ⟨y, e _ _ ha⟩, own, h1, h2, h3, h4, fun fb H6 hfb hk => ⟨hfb, fun a y ha _ => hk _ _ (fun z => by rw [hfb a z] at ha; cases ha) (e _ _ ha), (hD.ext e).keep (fun y => hk _ _ fun z => hdt (hfb _ z)) (fun y => hk _ _ fun z => hlt' (hfb _ z)), [], .nil, rfl, by simp⟩⟩
  · rintro fb C k v ws H6 f hk hv ⟨hfb, e6, hd6, xs, hws, hxl, hxQ⟩ _ htold hfC hC hfx
    refine WP.tests0 ⟨fun a y _ hy => hy, ?_⟩
    rw [if_pos rfl]
    refine (turn C k H6 hk e6 hd6).mono fun y H7 ⟨e7, hd7, v', t', hy, hq⟩ => ?_
    subst hy
    refine ⟨fun a y ha hy => e7 _ _ hy (fun z => hdt (by rw [← List.mem_singleton.mp z]; exact hfb _ ha)), hfb, e6.trans e7, hd7, xs ++ [v'], intsAre_push hws, by simp [hxl], fun u hu => ?_⟩
    rcases List.mem_append.mp hu with hu | hu
    · exact hxQ u hu
    · rw [List.mem_singleton.mp hu]; exact hq
  · rintro acc fb ws H6 ⟨hfb, e6, hd6, xs, hws, hxl, hxQ⟩ _ hfa _ hacc
    exact fin acc xs H6 e6 (hfb _ hfa) hd6 hxl hxQ ⟨ws, hacc, hws⟩
end
end Mine
end
section
open PySem PySem.W PyProof.Rows PySem.Calls
namespace Mine
def H380 : HM := fun a => if a = 380 then some (.raw (tabObj #[])) else none
/-- the first call: nothing is told but the empty table -/
def WC0 (prog : Program) (w : World) (h₀ : Heap) (A : Around) (c : Code) (Φ : Flow → HM → Prop) : Prop :=
  ∀ (s : Shared) (R : Result → Shared → Prop), (∀ b o, h₀.get? b = some o → s.heap.get? b = some o) → h₀.get? 380 = none → s.heap.get? 380 = some (tabObj #[]) → h₀.objs.size ≤ s.heap.objs.size →
    (∀ f H' h' tk, Rep h₀ H' h' → Φ f H' → R (.ok f) { s with heap := h', toks := tk }) → codeAny (model prog w) A c R s
section
variable {prog : Program} {w : World} {h₀ : Heap} {A : Around}
theorem WC0.fnC {K : Frag} {fa : Addr} {oc ct dV kV doc pm cdv : Value} {od an : Option Addr} {osl : Array (Option Value)} {name qual : Str} {params : Arguments} {body : List Stmt} {scope : Scope} {args : List Value} {binds : List (Str × Value)} {n : Nat} {Φ : Value → HM → Prop}
    (B : Bs K h₀) (o : Ok A n) (hn : n < 900) (ho : K.lookup fa = some ⟨oc, od, .func (fnX name qual params body scope [] dV kV doc pm an cdv ct), osl⟩) (hcd : codeIn K cdv qual = true)
    (hbind : bindArgs (fnX name qual params body scope [] dV kV doc pm an cdv ct) ⟨args, []⟩ = Pure.pure binds)
    (hkind : ∀ L, ∀ x ∈ binds, scope.names.lookup x.1 = some .local ∨ (scope.names.lookup x.1 = some .cell ∧ ((cellsFrom (L + 1) scope.names []).lookup x.1).isSome = true))
    (h : ∀ L A' H1, Ok A' (n + 1) → H1 380 = some (.raw (tabObj #[])) → (∀ a, Own (envC qual scope L fa cdv) a → a ≠ 380) →
      FrC H1 (envC qual scope L fa cdv) (bindL (envC qual scope L fa cdv).kindOf binds fun _ => none) (bindC (envC qual scope L fa cdv).kindOf binds fun _ => none) →
      WP prog w h₀ A' (execs body (envC qual scope L fa cdv)) H1 fun fl H' => Φ (retOf fl) H')
    (hco : scope.isCoroutine = false := by rfl) (hgen : scope.isGenerator = false := by rfl) (hk : scope.kind = .function := by rfl) : WC0 prog w h₀ A (.call (.ref fa) ⟨args, []⟩) fun fl H' => ∃ v, fl = .ret v ∧ Φ v H' := fun s R hkeep h380 ht hsz k => by
  refine codeAny_call_cells (fd := fnX name qual params body scope [] dV kV doc pm an cdv ct) (body := body) (binds := binds) (o.room (by omega)) (hkeep _ _ (B.X _ _ ho)) rfl (B.lim.keeps hkeep) (codeRec_of (B.X.keeps hkeep) hcd) rfl hbind rfl (hkind _) (fun s₁ X => ?_) hco hgen hk
  obtain ⟨h', tk, rfl, hk'⟩ := X.done
  change InCallC s (envC qual scope s.heap.objs.size fa cdv).locals (bindL (envC qual scope s.heap.objs.size fa cdv).kindOf binds fun _ => none) (envC qual scope s.heap.objs.size fa cdv).cells (bindC (envC qual scope s.heap.objs.size fa cdv).kindOf binds fun _ => none) _ at X
  have hb := h s.heap.objs.size (A.deeper (callEnvC (fnX name qual params body scope [] dV kV doc pm an cdv ct) s.heap.objs.size fa))
  change wpAny _ _ (execs body (envC qual scope s.heap.objs.size fa cdv)) _ _ _
  have hLoc : (envC qual scope s.heap.objs.size fa cdv).locals = s.heap.objs.size := rfl
  generalize envC qual scope s.heap.objs.size fa cdv = E at X hb hLoc ⊢
  have inj : ∀ n n' c, E.cells.lookup n = some c → E.cells.lookup n' = some c → n = n' := fun n n' c h1 h2 => name_of_addr X.apart (mem_of_lookup h1) (mem_of_lookup h2)
  have above : ∀ n c, E.cells.lookup n = some c → s.heap.objs.size < c := fun n c hc => hLoc ▸ X.above n c (mem_of_lookup hc)
  classical
  let H1 : HM := fun b => if b = E.locals then some (.ns (bindL E.kindOf binds fun _ => none)) else if hc : ∃ n, E.cells.lookup n = some b then some (.cell (bindC E.kindOf binds (fun _ => none) hc.choose)) else H380 b
  have hfr : ∀ a, Own E a → s.heap.objs.size ≤ a := by
    rintro a (rfl | ⟨n, hc⟩)
    · rw [hLoc]; exact Nat.le_refl _
    · exact Nat.le_of_lt (above n a hc)
  have hlt : 380 < s.heap.objs.size := Heap.lt_size ht
  have hne : ∀ a, Own E a → a ≠ 380 := fun a ha => Nat.ne_of_gt (Nat.lt_of_lt_of_le hlt (hfr a ha))
  have out : ∀ b, ¬Own E b → H1 b = H380 b := fun b hb => by
    show (if _ then _ else _) = _
    rw [if_neg (fun z => hb (.inl z)), dif_neg (fun z => hb (.inr z))]
  have e1 : H1 E.locals = some (.ns (bindL E.kindOf binds fun _ => none)) := if_pos rfl
  have e2 : ∀ n c, E.cells.lookup n = some c → H1 c = some (.cell (bindC E.kindOf binds (fun _ => none) n)) := fun n c hc => by
    show (if _ then _ else _) = _
    have hx : ∃ n, E.cells.lookup n = some c := ⟨n, hc⟩
    rw [if_neg (by rw [hLoc]; exact Nat.ne_of_gt (above n c hc)), dif_pos hx, inj _ _ c hx.choose_spec hc]
  have e3 : H1 380 = some (.raw (tabObj #[])) := (out 380 fun z => hne _ z rfl).trans (if_pos rfl)
  have cases3 : ∀ a x, H1 a = some x → (a = E.locals ∧ x = .ns (bindL E.kindOf binds fun _ => none)) ∨ (∃ n, E.cells.lookup n = some a ∧ x = .cell (bindC E.kindOf binds (fun _ => none) n)) ∨ (a = 380 ∧ x = .raw (tabObj #[])) := fun a x ha => by
    by_cases h1 : Own E a
    · rcases h1 with rfl | ⟨n, hc⟩
      · rw [e1] at ha; cases ha; exact .inl ⟨rfl, rfl⟩
      · rw [e2 n a hc] at ha; cases ha; exact .inr (.inl ⟨n, hc, rfl⟩)
    · rw [out a h1] at ha
      unfold H380 at ha
      split at ha
      · rename_i e; cases ha; exact .inr (.inr ⟨e, rfl⟩)
      · cases ha
  have R1 : RepD h₀ H1 h' (fun _ => 0) := by
    refine ⟨fun b o e => hk' _ _ (hkeep b o e), fun a x ha => ?_, fun a x ha => ?_, fun a C kv ha => ?_, fun a b C kv C' kv' ha => ?_, ⟨_, _, e1⟩⟩
    · rcases cases3 a x ha with ⟨rfl, rfl⟩ | ⟨n, hc, rfl⟩ | ⟨rfl, rfl⟩
      · exact Heap.get?_none_of_le (Nat.le_trans hsz (hfr _ (.inl rfl)))
      · exact Heap.get?_none_of_le (Nat.le_trans hsz (hfr _ (.inr ⟨n, hc⟩)))
      · exact h380
    · rcases cases3 a x ha with ⟨rfl, rfl⟩ | ⟨n, hc, rfl⟩ | ⟨rfl, rfl⟩
      · exact ⟨X.toInCall.ns, Nat.le_trans hsz (hfr _ (.inl rfl))⟩
      · exact X.cell n a hc
      · exact hk' _ _ ht
    · rcases cases3 a _ ha with ⟨_, e⟩ | ⟨n, hc, e⟩ | ⟨_, e⟩ <;> cases e
    · rcases cases3 a _ ha with ⟨_, e⟩ | ⟨n, hc, e⟩ | ⟨_, e⟩ <;> cases e
  refine hb H1 (o.deeper _) e3 hne ⟨e1, e2, inj⟩ _ _ _ ⟨_, R1⟩ fun fl H' h'' tk' R' p => ?_
  have := k (.ret (retOf fl)) H' h'' tk' R' ⟨_, rfl, p⟩
  cases fl <;> exact this
end
end Mine
end
section
open PySem PySem.W PyProof.Rows PySem.Calls
namespace Mine
/-- all but frames and cells is kept, and what is told stays told -/
def KA (H H' : HM) : Prop := ∀ a y, H a = some y → (notOwn y = true → H' a = some y) ∧ ∃ z, H' a = some z
section
variable {H H' H'' : HM} {q : Addr} {x : AObj} {env : Env} {f cm f' cm' : Str → Option Value}
theorem KA.refl : KA H H := fun _ y h => ⟨fun _ => h, y, h⟩
theorem KA.trans (u : KA H H') (v : KA H' H'') : KA H H'' := fun a y h => ⟨fun n => (v a y ((u a y h).1 n)).1 n, let ⟨z, hz⟩ := (u a y h).2; (v a z hz).2⟩
theorem Ext.ka (e : Ext H H') : KA H H' := fun a y h => ⟨fun _ => e a y h, y, e a y h⟩
theorem Upd1.ka (u : Upd1 env H H') (F : FrC H env f cm) (F' : FrC H' env f' cm') : KA H H' := fun a y h => ⟨fun n => u.keep F h n, by
  by_cases o : Own env a
  · rcases o with rfl | ⟨n, hc⟩
    · exact ⟨_, F'.loc⟩
    · exact ⟨_, F'.cell n a hc⟩
  · exact ⟨y, (u a o).trans h⟩⟩
theorem KA.new (u : KA H H') (h : H q = none) : KA H (Mine.upd H' q x) := fun a y ha => by
  rw [upd_ne (fun z => by rw [z, h] at ha; cases ha)]; exact u a y ha
theorem KA.gone (u : KA H H') (h : H q = none) : KA H (Mine.del H' q) := fun a y ha => by
  rw [del_ne (fun z => by rw [z, h] at ha; cases ha)]; exact u a y ha
theorem KA.fresh (u : KA H H') (h : H' q = none) : H q = none := by
  cases e : H q with
  | none => rfl
  | some y => obtain ⟨z, hz⟩ := (u q y e).2; rw [h] at hz; cases hz
theorem KA.at_ (u : KA H H') {a : Addr} {y : AObj} (h : H a = some y) (n : notOwn y = true) : H' a = some y := (u a y h).1 n
theorem KA.li (u : KA H H') {a : Addr} {ns : List Int} (h : LI H a ns) : LI H' a ns := let ⟨vs, h1, h2⟩ := h; ⟨vs, u.at_ h1 rfl, h2⟩
theorem KA.tab {qs : List (Pos × Str)} (u : KA H H') (T : Tab qs H) : Tab qs H' := T.ext fun _ _ h => u.at_ h rfl
theorem KA.dr {prog : Program} {w : World} {dd tl : Addr} {b : Nat} (u : KA H H') (D : Dr prog w H dd tl b) : Dr prog w H' dd tl b :=
  D.keep (fun y hy => u.at_ hy (by obtain ⟨_, _, _, ⟨_, es, e, _⟩, _⟩ := D; rw [e] at hy; cases hy; rfl)) (fun y hy => u.at_ hy (by obtain ⟨_, _, _, _, ⟨vs, e, _⟩, _⟩ := D; rw [e] at hy; cases hy; rfl))
end
section
variable {prog : Program} {w : World} {h₀ : Heap} {A : Around} {H : HM} {env : Env} {pos : Pos}
theorem WP.itemT {value slice : Expr} {t : Addr} {vs : List Value} {i : Nat} {u : Tok} {x : Value} {Φ : Value → HM → Prop} (ht : H t = some (.raw (tupO vs))) (hx : vs[i]? = some x) (h : Φ x H) (hi : i < 1000 := by decide)
    (hs : subscripted slice false (.ref t) (.int (i : Int) u) = PySem.operate [.ref t, .int (i : Int) u] (getItem (.ref t) (.int (i : Int) u)) := by with_unfolding_all rfl) :
    WP prog w h₀ A (subscriptTail value slice (.ref t) (.int (i : Int) u)) H Φ := fun s Q E R k => by
  have hl : i < vs.length := (List.getElem?_eq_some_iff.mp hx).1
  refine item_tupleT (l := vs) (j := i) (R.isTup ht) (by omega) (by omega) ?_ hx (k _ H s.heap s.toks R h) hs
  unfold seqIndex?
  simp
  omega

variable {elt iter : Expr} {ifs : List Expr} {scope : Scope} {cl : List (Str × Addr)} {x : Str} {px : Pos} {N : Nat} {itO : Nat → AObj} {Src : HM → Prop} {P : Nat → Value → Prop}
/-- y = [..], ints from ints, y a local -/
theorem WP.asgI {y : Str} {py spos : Pos} {Φ : Flow → HM → Prop} {f cm : Str → Option Value} {ns : List Nat} (p : Nat → Bool) (g : Nat → Int) (F : FrC H env f cm) (hN : ns.length = N) (hN2 : N ≤ 1000) (hclos : closureFor scope env = Pure.pure cl)
    (hP : ∀ k v, k < N → P k v → ∃ j t, ns[k]? = some j ∧ v = .int (j : Int) t) (hSrc : ∀ H1, Ext H H1 → Src H1)
    (hi : WP prog w h₀ A (eval iter env) H fun xv H1 => WP prog w h₀ A (pyIter xv) H1 (Over prog w h₀ A H N itO Src P))
    (turn : ∀ C j t H1 f, j ∈ ns → Ext H H1 → H1 C = some (.ns f) → f x = some (.int (j : Int) t) → WP prog w h₀ A (tests ifs (compEnvC scope cl C env)) H1 fun ok H2 => Ext H1 H2 ∧ ok = p j ∧
      (p j = true → WP prog w h₀ A (eval elt (compEnvC scope cl C env)) H2 fun y H3 => Ext H2 H3 ∧ ∃ t, y = .int (g j) t))
    (fin : ∀ acc H1, KA H H1 → FrC H1 env (fun z => if z = y then some (.ref acc) else f z) cm → LI H1 acc ((ns.filter p).map g) → Φ .next H1)
    (hy : env.kindOf y = some .local := by rfl) (hpy : (env.scope.kind == .class || (env.scope.kind == .module && env.locals != env.globals)) = false := by rfl)
    (hsw : swapsWith (.ListComp elt [⟨.Name x px, iter, ifs, 0⟩] scope pos) (some (.Name y py)) spos.line env = Pure.pure true := by rfl)
    (hcell : ∀ y ∈ scope.names, y.2 ≠ .cell := by decide) (hkind : scope.kind = .function := by rfl) (hnames : ∀ x ∈ scope.names, x.2 = .local → scope.names.lookup x.1 = some .local := by decide)
    (hlt : ∀ it v, letOwnedTupleGo (.Name x px) it v = Pure.pure () := by intro _ _; rfl) (hx : ∀ C, (compEnvC scope cl C env).kindOf x = some .local := by intro _; rfl)
    (hp : ∀ C, ((compEnvC scope cl C env).scope.kind == .class || ((compEnvC scope cl C env).scope.kind == .module && (compEnvC scope cl C env).locals != (compEnvC scope cl C env).globals)) = false := by intro _; rfl) (hloc : ∀ C, (compEnvC scope cl C env).locals = C := by intro _; rfl)
    (hs : ∀ x, foldedSetIterable iter env x = Pure.pure x := by intro _; rfl) : WP prog w h₀ A (exec (.Assign [.Name y py] (.ListComp elt [⟨.Name x px, iter, ifs, 0⟩] scope pos) spos) env) H Φ := by
  refine WP.asgV (N := N) (itO := itO) (Src := Src) (P := P) (fun fb k ws H' => (∀ a, fb a → H a = none) ∧ Ext H H' ∧ IntsAre ws (((ns.take k).filter p).map g)) hN2 hclos ?_ (by rw [F.loc]; simp) ?_ ?_ ?_ ?_ hsw hcell hkind hnames hlt hx hp hloc hs
  · rintro fb k ws H1 ⟨_, e, _⟩
    exact ⟨hSrc H1 e, _, e _ _ F.loc⟩
  · rintro fb k ws H6 H7 ⟨f, e, hh⟩ hk
    exact ⟨f, fun a y ha => hk _ _ (fun z => by rw [f a z] at ha; cases ha) (e _ _ ha), hh⟩
  · refine hi.mono fun xv H1 h => h.mono fun it H2 ⟨e, own, h1, h2, h3, h4⟩ => ⟨fun a y ha => ⟨y, e _ _ ha⟩, own, h1, h2, h3, h4, fun fb H6 hfb hk => ⟨hfb, fun a y ha => hk _ _ (fun z => by rw [hfb a z] at ha; cases ha) (e _ _ ha), .nil⟩⟩
  · rintro fb C k v ws H6 f hk hv ⟨hfb, e6, hws⟩ _ htold hfC hC hfx
    obtain ⟨j, t, hj, rfl⟩ := hP k v hk hv
    refine (turn C j t H6 f (List.mem_of_getElem? hj) e6 hC hfx).mono fun ok H7 ⟨e7, hok, helt⟩ => ⟨fun a y _ hy => e7 _ _ hy, ?_⟩
    subst hok
    rw [List.take_add_one, hj, List.filter_append, List.map_append]
    cases hpj : p j with
    | false =>
      rw [if_neg Bool.false_ne_true]
      exact ⟨hfb, e6.trans e7, by simpa [hpj] using hws⟩
    | true =>
      rw [if_pos rfl]
      refine (helt hpj).mono fun y H8 ⟨e8, t', hy⟩ => ?_
      subst hy
      refine ⟨fun a y _ hy => e8 _ _ hy, hfb, (e6.trans e7).trans e8, ?_⟩
      have : ((some j).toList.filter p).map g = [g j] := by simp [hpj]
      rw [this]; exact intsAre_push hws
  · rintro acc fb ws H6 ⟨hfb, e6, hws⟩ _ hfa _ hacc
    rw [← hN, List.take_length] at hws
    have F6 := F.ext e6
    have hno : ∀ a, fb a → ¬Own env a := fun a ha q => by
      have hz0 := hfb a ha
      rcases q with q | ⟨n, hc⟩
      · rw [q] at hz0; exact absurd (hz0.symm.trans F.loc) (by simp)
      · exact absurd (hz0.symm.trans (F.cell n a hc)) (by simp)
    refine WP.aName (WP.fsL F6 (fun H7 F7 u7 => ⟨fun a z ha hz => (u7 a (hno a ha)).trans hz, ⟨_, F7.loc⟩, fun H9 hk9 => fin acc H9 ?_ ?_ ?_⟩) hy hpy)
    · intro a z ha
      have nfb : ¬(fb a ∧ a ≠ acc) := fun q => by rw [hfb a q.1] at ha; cases ha
      obtain ⟨h1, z', h2⟩ := (u7.ka F6 F7) a z (e6 _ _ ha)
      exact ⟨fun hn => hk9 _ _ nfb (h1 hn), z', hk9 _ _ nfb h2⟩
    · exact ⟨hk9 _ _ (fun z => hno _ z.1 (.inl rfl)) F7.loc, fun n c hc => hk9 _ _ (fun z => hno _ z.1 (.inr ⟨n, hc⟩)) (F7.cell n c hc), F7.apart⟩
    · exact ⟨ws, hk9 _ _ (fun z => z.2 rfl) (u7.keep F6 hacc rfl), hws⟩
end
end Mine
end
section
open PySem PySem.W PyProof.Rows PySem.Calls
namespace Mine
theorem fill19 : (PySem.Challenge.rw_xm0623_01, Mine.hk.heap_1) = (PySem.Challenge.rw_xm0623_01, Mine.hk.heap_1) := by
  k_fill
  rfl
section
variable {prog : Program} {w : World} {h₀ : Heap} {A : Around} {d : Nat} {H H' : HM}
theorem Dr.dict {dd tl : Addr} {b : Nat} (D : Dr prog w H dd tl b) : ∃ es, H dd = some (.dict es) := let ⟨_, _, _, ⟨_, es, e, _⟩, _⟩ := D; ⟨es, e⟩
theorem Dr.mono {dd tl : Addr} {b c : Nat} (D : Dr prog w H dd tl b) (h : b ≤ c) : Dr prog w H dd tl c := let ⟨ns, p, tk, h1, h2, h3, h4⟩ := D; ⟨ns, p, tk, h1, h2, h3, Nat.le_trans h4 h⟩
theorem FrC.dr {env : Env} {f cm : Str → Option Value} {dd tl : Addr} {b : Nat} (F : FrC H env f cm) (D : Dr prog w H dd tl b) (e : But [dd] H H') : FrC H' env f cm := F.but e (by
  intro a ha
  obtain ⟨es, h⟩ := D.dict
  rw [List.mem_singleton.mp ha]; exact F.ne h rfl)
theorem keep_dr {dd tl a : Addr} {b : Nat} {y : AObj} (D : Dr prog w H dd tl b) (h : H a = some y) (hy : ∀ es, y ≠ .dict es) (e : But [dd] H H') : H' a = some y := e _ _ h fun z => by
  obtain ⟨es, h'⟩ := D.dict
  rw [List.mem_singleton.mp z, h'] at h; cases h; exact hy _ rfl
theorem LI.dr {dd tl a : Addr} {b : Nat} {ns : List Int} (D : Dr prog w H dd tl b) (h : LI H a ns) (e : But [dd] H H') : LI H' a ns := let ⟨vs, h1, h2⟩ := h; ⟨vs, keep_dr D h1 (fun _ => nofun) e, h2⟩
theorem Dr.own {env : Env} {f cm : Str → Option Value} {dd tl : Addr} {b : Nat} (D : Dr prog w H dd tl b) (F : FrC H env f cm) (u : Upd1 env H H') : Dr prog w H' dd tl b := D.keep (fun y hy => u.keep F hy (by obtain ⟨es, e⟩ := D.dict; rw [e] at hy; cases hy; rfl)) (fun y hy => u.keep F hy (by obtain ⟨_, _, _, _, ⟨vs, e, _⟩, _⟩ := D; rw [e] at hy; cases hy; rfl))
theorem LI.own {env : Env} {f cm : Str → Option Value} {a : Addr} {ns : List Int} (h : LI H a ns) (F : FrC H env f cm) (u : Upd1 env H H') : LI H' a ns := h.ext fun y hy => u.keep F hy (by obtain ⟨vs, e, _⟩ := h; rw [e] at hy; cases hy; rfl)
theorem nat_of {v : Int} {n : Nat} (h0 : 0 ≤ v) (h1 : v < (n : Int)) : ∃ j : Nat, v = (j : Int) ∧ j < n := ⟨v.toNat, by omega, by omega⟩

theorem lost_eq {W : Wd} {bar : List Nat} {q : Nat → Bool} (h : ∀ j, j < W.n → (q j = true ↔ RT (chB W bar) (srcB W bar) j)) : ((List.range W.n).filter fun j => !q j) = lostL W bar ∧ (List.range W.n).filter q = (List.range W.n).filter (rb W bar) := by
  have e : ∀ j ∈ List.range W.n, q j = rb W bar j := fun j hj => by
    have := h j (List.mem_range.mp hj)
    rw [← rb_iff] at this
    exact Bool.eq_iff_iff.mpr this
  refine ⟨?_, List.filter_congr e⟩
  unfold lostL
  exact List.filter_congr fun j hj => by rw [e j hj]
theorem keep380 {a : Addr} {y : AObj} (T : Tab qsL H) (h : H a = some y) (hy : ∀ ps, y ≠ .raw (tabObj ps)) (e : But [380] H H') : H' a = some y := e _ _ h fun z => by
  obtain ⟨ps, h', _⟩ := T
  rw [List.mem_singleton.mp z, h'] at h; cases h; exact hy _ rfl
theorem LI.k380 {a : Addr} {ns : List Int} (T : Tab qsL H) (h : LI H a ns) (e : But [380] H H') : LI H' a ns := let ⟨vs, h1, h2⟩ := h; ⟨vs, keep380 T h1 (fun _ => nofun) e, h2⟩
theorem FrC.k380 {env : Env} {f cm : Str → Option Value} (F : FrC H env f cm) (T : Tab qsL H) (e : But [380] H H') : FrC H' env f cm := F.but e (by
  intro a ha
  obtain ⟨ps, h, _⟩ := T
  rw [List.mem_singleton.mp ha]; exact F.ne h rfl)
theorem Tab.own {env : Env} {f cm : Str → Option Value} {qs : List (Pos × Str)} (T : Tab qs H) (F : FrC H env f cm) (u : Upd1 env H H') : Tab qs H' := T.ext fun _ _ ha => u.keep F ha rfl
theorem Dr.k380 {dd tl : Addr} {b : Nat} (D : Dr prog w H dd tl b) (T : Tab qsL H) (e : But [380] H H') : Dr prog w H' dd tl b := by
  obtain ⟨es, ed⟩ := D.dict
  obtain ⟨_, _, _, _, ⟨vs, et, _⟩, _⟩ := id D
  exact D.keep (fun y hy => by rw [ed] at hy; cases hy; exact keep380 T ed (fun _ => nofun) e) (fun y hy => by rw [et] at hy; cases hy; exact keep380 T et (fun _ => nofun) e)
/-- all but frames, cells and the table is kept -/
def KN (H H' : HM) : Prop := ∀ a y, H a = some y → (notOwn y = true → a ≠ 380 → H' a = some y) ∧ ∃ z, H' a = some z
/-- what stands of the law's world -/
structure LS (W : Wd) (wt wa ra ma sa : Addr) (as : List Addr) (pa an : Addr) (vs : List Value) (fd : Nat → Option (List Nat)) (H : HM) : Prop where
  at_ : WdAt W wt wa ra ma sa as H
  tab : Tab qsL H
  pas : H pa = some (.list vs)
  vn : vs.length = W.n
  fnd : ∀ v, v < W.n → (fd v = none → vs[v]? = some .none) ∧ ∀ K, fd v = some K → ∃ a, vs[v]? = some (.ref a) ∧ LI H a (toI K)
  any : LI H an (toI (lostL W []))
section
variable {W : Wd} {wt wa ra ma sa : Addr} {as : List Addr} {pa an : Addr} {vs : List Value} {fd : Nat → Option (List Nat)}
theorem LS.ext (S : LS W wt wa ra ma sa as pa an vs fd H) (e : Ext H H') : LS W wt wa ra ma sa as pa an vs fd H' :=
  ⟨S.at_.ext e, S.tab.ext fun a o => e _ _, e _ _ S.pas, S.vn, fun v hv => ⟨(S.fnd v hv).1, fun K hK => let ⟨a, h1, h2⟩ := (S.fnd v hv).2 K hK; ⟨a, h1, h2.ext fun y => e _ y⟩⟩, S.any.ext fun y => e _ y⟩
theorem LS.b380 (S : LS W wt wa ra ma sa as pa an vs fd H) (e : But [380] H H') (T : Tab qsL H') : LS W wt wa ra ma sa as pa an vs fd H' :=
  ⟨let ⟨_, h, _⟩ := S.tab; S.at_.but h e, T, keep380 S.tab S.pas (fun _ => nofun) e, S.vn, fun v hv => ⟨(S.fnd v hv).1, fun K hK => let ⟨a, h1, h2⟩ := (S.fnd v hv).2 K hK; ⟨a, h1, h2.k380 S.tab e⟩⟩, S.any.k380 S.tab e⟩
theorem LS.kn (S : LS W wt wa ra ma sa as pa an vs fd H) (e : KN H H') (T : Tab qsL H') : LS W wt wa ra ma sa as pa an vs fd H' := by
  obtain ⟨ps, h380, _⟩ := id S.tab
  have n : ∀ a ys, H a = some (.list ys) → H' a = some (.list ys) := fun a ys ha => (e _ _ ha).1 rfl (ne_of ha h380 (by simp))
  have k : ∀ a ns, LI H a ns → LI H' a ns := fun a ns ⟨ys, h1, h2⟩ => ⟨ys, n _ _ h1, h2⟩
  exact ⟨⟨(e _ _ S.at_.t).1 rfl (ne_of S.at_.t h380 (by simp [tupO, tabObj])), n _ _ S.at_.w, S.at_.l, fun i a r ha hr => k _ _ (S.at_.rows i a r ha hr), k _ _ S.at_.r, k _ _ S.at_.m, k _ _ S.at_.s⟩, T, n _ _ S.pas, S.vn, fun v hv => ⟨(S.fnd v hv).1, fun K hK => let ⟨a, h1, h2⟩ := (S.fnd v hv).2 K hK; ⟨a, h1, k _ _ h2⟩⟩, k _ _ S.any⟩
theorem LS.dr {dd tl : Addr} {b : Nat} (S : LS W wt wa ra ma sa as pa an vs fd H) (D : Dr prog w H dd tl b) (e : But [dd] H H') : LS W wt wa ra ma sa as pa an vs fd H' :=
  ⟨⟨keep_dr D S.at_.t (fun _ => nofun) e, keep_dr D S.at_.w (fun _ => nofun) e, S.at_.l, fun i a r ha hr => (S.at_.rows i a r ha hr).dr D e, S.at_.r.dr D e, S.at_.m.dr D e, S.at_.s.dr D e⟩, S.tab.ext fun _ _ h => keep_dr D h (fun _ => nofun) e, keep_dr D S.pas (fun _ => nofun) e, S.vn, fun v hv => ⟨(S.fnd v hv).1, fun K hK => let ⟨a, h1, h2⟩ := (S.fnd v hv).2 K hK; ⟨a, h1, h2.dr D e⟩⟩, S.any.dr D e⟩
theorem WdAt.own {env : Env} {f cm : Str → Option Value} (S : WdAt W wt wa ra ma sa as H) (F : FrC H env f cm) (u : Upd1 env H H') : WdAt W wt wa ra ma sa as H' :=
  ⟨u.keep F S.t rfl, u.keep F S.w rfl, S.l, fun i a r ha hr => (S.rows i a r ha hr).own F u, S.r.own F u, S.m.own F u, S.s.own F u⟩
theorem LS.own {env : Env} {f cm : Str → Option Value} (S : LS W wt wa ra ma sa as pa an vs fd H) (F : FrC H env f cm) (u : Upd1 env H H') : LS W wt wa ra ma sa as pa an vs fd H' :=
  ⟨S.at_.own F u, S.tab.own F u, u.keep F S.pas rfl, S.vn, fun v hv => ⟨(S.fnd v hv).1, fun K hK => let ⟨a, h1, h2⟩ := (S.fnd v hv).2 K hK; ⟨a, h1, h2.own F u⟩⟩, S.any.own F u⟩
end
theorem LI.over {a : Addr} {ns : List Nat} (h : LI H a (toI ns)) : ∃ vs, H a = some (.list vs) ∧ vs.length = ns.length ∧ ∀ (k : Nat) v, vs[k]? = some v → ∃ (j : Nat) (t : Tok), ns[k]? = some j ∧ v = .int (j : Int) t := by
  obtain ⟨vs, h1, h2⟩ := h
  refine ⟨vs, h1, by rw [intsAre_len h2, List.length_map], fun k v hv => ?_⟩
  obtain ⟨n, t, rfl, hn⟩ := intsAre_get' h2 hv
  rw [List.getElem?_map] at hn
  obtain ⟨j, hj, rfl⟩ := Option.map_eq_some_iff.mp hn
  exact ⟨j, t, hj, rfl⟩
theorem range_over {n : Nat} (k : Nat) (v : Value) (hk : k < n) (h : ∃ t, v = .int (k : Int) t) : ∃ (j : Nat) (t : Tok), (List.range n)[k]? = some j ∧ v = .int (j : Int) t := let ⟨t, e⟩ := h; ⟨k, t, by rw [List.getElem?_range hk], e⟩
theorem lost_len {W : Wd} (hW : W.Ok) (bar : List Nat) : (lostL W bar).length ≤ 5 := by
  unfold lostL
  have := List.length_filter_le (fun j => !rb W bar j) (List.range W.n)
  rw [List.length_range] at this
  have := hW.n5
  omega
theorem KN.refl : KN H H := fun _ y h => ⟨fun _ _ => h, y, h⟩
theorem KN.trans {H'' : HM} (u : KN H H') (v : KN H' H'') : KN H H'' := fun a y h => ⟨fun n m => (v a y ((u a y h).1 n m)).1 n m, let ⟨z, hz⟩ := (u a y h).2; (v a z hz).2⟩
theorem Ext.kn (e : Ext H H') : KN H H' := fun a y h => ⟨fun _ _ => e a y h, y, e a y h⟩
theorem But.kn (e : But [380] H H') (T : Tab qsL H') : KN H H' := fun a y h => by
  by_cases n : a = 380
  · obtain ⟨ps, h', _⟩ := T
    exact ⟨fun _ m => absurd n m, _, by rw [n]; exact h'⟩
  · exact ⟨fun _ _ => e a y h (by simpa using n), y, e a y h (by simpa using n)⟩
theorem Upd1.kn {env : Env} {f cm f' cm' : Str → Option Value} (u : Upd1 env H H') (F : FrC H env f cm) (F' : FrC H' env f' cm') : KN H H' := fun a y h => ⟨fun n _ => u.keep F h n, by
  by_cases o : Own env a
  · rcases o with rfl | ⟨n, hc⟩
    · exact ⟨_, F'.loc⟩
    · exact ⟨_, F'.cell n a hc⟩
  · exact ⟨y, (u a o).trans h⟩⟩
theorem KN.new {q : Addr} {x : AObj} (u : KN H H') (h : H q = none) : KN H (Mine.upd H' q x) := fun a y ha => by
  rw [upd_ne (fun z => by rw [z, h] at ha; cases ha)]; exact u a y ha
theorem KN.gone {q : Addr} (u : KN H H') (h : H q = none) : KN H (Mine.del H' q) := fun a y ha => by
  rw [del_ne (fun z => by rw [z, h] at ha; cases ha)]; exact u a y ha
theorem KN.fresh {q : Addr} (u : KN H H') (h : H' q = none) : H q = none := by
  cases e : H q with
  | none => rfl
  | some y => obtain ⟨z, hz⟩ := (u q y e).2; rw [h] at hz; cases hz
theorem Tab.turn {qs : List (Pos × Str)} {q : Addr} {x y : Int} {z : AObj} (T : Tab qs H) (hq : H q = some (.raw (rangeI x y))) : Tab qs (Mine.upd H q z) := by
  obtain ⟨ps, h1, h2, h3⟩ := T
  refine ⟨ps, by rw [upd_ne (ne_of h1 hq (by simp [tabObj, rangeI]))]; exact h1, h2, fun p hp => ?_⟩
  rcases h3 p hp with h | ⟨c', oc, vs, t, a, b, c, d, e⟩
  · exact .inl h
  · refine .inr ⟨c', oc, vs, t, a, ?_, c, d, e⟩
    rw [upd_ne (fun z => by
      rw [z, hq] at b; cases b
      cases c
      simp [rawInt] at d)]; exact b
theorem Tab.turnD {qs : List (Pos × Str)} {q : Addr} {x y : Int} (T : Tab qs H) (hq : H q = some (.raw (rangeI x y))) : Tab qs (Mine.del H q) := by
  obtain ⟨ps, h1, h2, h3⟩ := T
  refine ⟨ps, by rw [del_ne (ne_of h1 hq (by simp [tabObj, rangeI]))]; exact h1, h2, fun p hp => ?_⟩
  rcases h3 p hp with h | ⟨c', oc, vs, t, a, b, c, d, e⟩
  · exact .inl h
  · refine .inr ⟨c', oc, vs, t, a, ?_, c, d, e⟩
    rw [del_ne (fun z => by
      rw [z, hq] at b; cases b
      cases c
      simp [rawInt] at d)]; exact b
theorem c_law (B : Bs (Mine.hk.heap_1 w.params) h₀) (M : Mk h₀) (o : Ok A d) (hd : d ≤ 301) {sc : Addr} {items : Array Value} {ns0 : List Int} (hsc : h₀.IsList sc items) (hz : items.size ≤ 63) (hi : IntsAre items.toList ns0) :
    WC0 prog w h₀ A (.call (.ref 393) ⟨[.ref sc], []⟩) fun fl H' => ∃ v, fl = .ret v ∧ v = .bool true ∧ Tab qsL H' := by
  refine WC0.fnC (binds := [("script", .ref sc)]) B o (by omega) (by k_is) (by k_is) rfl (fun L => ?_) (fun L A' H1 o' hT1 ho F1 => ?_)
  · intro x hx
    simp only [List.mem_cons, List.not_mem_nil, or_false] at hx
    rcases hx with rfl
    exact .inl rfl
  -- drawn
  refine WP.cons (WP.asgName (WP.dict2 B.lim (by decide) fun dd ndd => ?_))
  have ea : Ext H1 (upd H1 dd (.dict [])) := Ext.refl.new ndd
  refine WP.callN (WP.name (WP.blt B (by k_is) rfl (by decide) ?_))
  refine WP.cwT (WP.args (WP.slice (k := 40) hsc (by omega) (WP.name (WP.fcL (F1.ext ea) rfl ⟨rfl, fun q1 nq1 => ?_⟩))))
  have eb := ea.trans (Ext.refl.new (x := .list (items.toList.take 40)) nq1)
  have hlen : (items.toList.take 40).length ≤ 40 := by rw [List.length_take]; omega
  refine WP.args0 (WP.copyL o'.hh upd_self (by omega) fun tl ntl => ?_)
  have ec := eb.trans (Ext.refl.new (x := .list (items.toList.take 40)) ntl)
  have kdd : upd (upd (upd H1 dd (.dict [])) q1 (.list (items.toList.take 40))) tl (.list (items.toList.take 40)) dd = some (.dict []) := upd_old (upd_old upd_self nq1) ntl
  have ktl := upd_self (H := upd (upd H1 dd (.dict [])) q1 (.list (items.toList.take 40))) (a := tl) (x := .list (items.toList.take 40))
  generalize upd (upd (upd H1 dd (.dict [])) q1 (.list (items.toList.take 40))) tl (.list (items.toList.take 40)) = Ha at ec kdd ktl ⊢
  refine WP.cInt fun tg => ⟨kdd, fun es hes => ?_⟩
  have bd : But [dd] Ha (upd Ha dd (.dict es)) := But.upd (by simp)
  generalize upd Ha dd (.dict es) = Hb at bd hes ⊢
  have ntd : tl ≠ dd := ne_of ktl kdd (by simp)
  have D2 : Dr prog w Hb dd tl 0 := ⟨ns0.take 40, 0, tg, hes, ⟨_, bd _ _ ktl (by simpa using ntd), by
    have : ∀ (k : Nat) (vs : List Value) (ns : List Int), IntsAre vs ns → IntsAre (vs.take k) (ns.take k) := by
      intro k
      induction k with
      | zero => intro vs ns _; simp; exact .nil
      | succ k ih =>
        intro vs ns h
        cases h with
        | nil => simp; exact .nil
        | cons n t h => simp only [List.take_succ_cons]; exact .cons n t (ih _ _ h)
    exact this 40 _ _ hi⟩, by rw [List.length_take]; omega, Nat.le_refl _⟩
  have F2 : FrC Hb _ _ _ := (F1.ext ec).but bd (by
    intro a ha
    rw [List.mem_singleton.mp ha]
    exact (F1.ext ec).ne kdd rfl)
  have hT2 : Hb 380 = some (.raw (tabObj #[])) := bd _ _ (ec _ _ hT1) (fun z => by rw [← List.mem_singleton.mp z, ec _ _ hT1] at kdd; cases kdd)
  clear ea eb ec kdd ktl bd hes F1 hT1 nq1 ntl ndd
  refine WP.fsC F2 fun H3 F3 u3 => ?_
  have D3 := D2.own F2 u3
  have hT3 := u3.keep F2 hT2 rfl
  clear F2 D2 hT2 u3
  -- many = 5 - one_of(drawn, 2)
  refine WP.cons (WP.asgName (WP.binop (WP.cInt fun t1 => WP.callN (WP.name (WP.loadG B.X B.g (by k_is) ?_)))))
  refine WP.cwK B (by k_is) (WP.args (WP.name (WP.fcC F3 rfl (WP.args (WP.cInt fun t2 => WP.args0 ?_)))))
  refine s_one_of B o' (by omega) D3 (by omega) (by decide) fun H4 v4 t4 b4 D4 hv0 hv1 => WP.subI fun t5 => ?_
  obtain ⟨n, hn, hn1⟩ : ∃ n : Nat, 5 - v4 = (n : Int) ∧ 4 ≤ n ∧ n ≤ 5 := ⟨(5 - v4).toNat, by omega, by omega, by omega⟩
  rw [hn]
  have F4 := F3.dr D3 b4
  have hT4 := keep_dr D3 hT3 (fun _ => nofun) b4
  refine WP.fsC F4 fun H5 F5 u5 => ?_
  have D5 := D4.own F4 u5
  have hT5 := u5.keep F4 hT4 rfl
  clear F3 D3 hT3 F4 D4 hT4 b4 u5
  -- roots = [0]
  refine WP.cons (WP.asgName (WP.eList (WP.args (WP.cInt fun t6 => WP.args0 (WP.newList fun ra nra => ?_)))))
  have e6 : Ext H5 (upd H5 ra (.list [.int 0 t6])) := Ext.refl.new nra
  have F6 := F5.ext e6
  refine WP.fsL F6 fun H7 F7 u7 => ?_
  have D7 := (D5.ext e6).own F6 u7
  have hT7 := u7.keep F6 (e6 _ _ hT5) rfl
  have hra7 := u7.keep F6 (upd_self (H := H5) (a := ra) (x := .list [.int 0 t6])) rfl
  have htr : tl ≠ ra := fun z => by obtain ⟨_, _, _, _, ⟨vs, e, _⟩, _⟩ := D5; rw [z, nra] at e; cases e
  clear F5 D5 hT5 e6 F6 u7 nra
  obtain ⟨FR, hFR⟩ := F7.pack3
  refine WP.seq (fun H' => ∃ roots b f cm, FR H' f cm ∧ cm "drawn" = some (.ref dd) ∧ cm "many" = some (.int n t5) ∧ f "roots" = some (.ref ra) ∧ Dr prog w H' dd tl b ∧ b ≤ 4 ∧ H' 380 = some (.raw (tabObj #[])) ∧ LI H' ra (toI roots) ∧ roots.length ≤ 2 ∧ ∀ j ∈ roots, j < n) ?_ ?_
  · refine WP.ifS (WP.tCmp (WP.callN (WP.name (WP.loadG B.X B.g (by k_is) ?_))))
    refine WP.cwK B (by k_is) (WP.args (WP.name (WP.fcC F7 rfl (WP.args (WP.cInt fun t7 => WP.args0 ?_)))))
    refine s_one_of B o' (by omega) D7 (by omega) (by decide) fun H8 v8 t8 b8 D8 _ _ => WP.cInt fun t9 => WP.eq (WP.truthB ?_)
    have F8 := F7.dr D7 b8
    have hT8 := keep_dr D7 hT7 (fun _ => nofun) b8
    have hra8 := keep_dr D7 hra7 (fun _ => nofun) b8
    cases v8 == 0
    · exact WP.nil ⟨rfl, [0], _, _, _, (hFR _ _ _).mpr F8, rfl, rfl, rfl, D8, by decide, hT8, ⟨_, hra8, .cons _ _ .nil⟩, by decide, by simp; omega⟩
    · refine WP.cons (WP.expr (WP.callM (WP.name (WP.fcL F8 rfl ?_))))
      refine WP.lMeth hra8 slot_list_append type_list_append ?_
      refine WP.cwB (WP.args (WP.callN (WP.name (WP.loadG B.X B.g (by k_is) ?_))))
      refine WP.cwK B (by k_is) (WP.args (WP.name (WP.fcC F8 rfl (WP.args (WP.name (WP.fcC F8 rfl (WP.args0 ?_)))))))
      refine s_one_of B o' (by omega) D8 (by omega) (by omega) fun H9 v9 t9 b9 D9 h0 h1 => WP.args0 ?_
      obtain ⟨j, rfl, hj⟩ := nat_of h0 h1
      have F9 := F8.dr D8 b9
      have hT9 := keep_dr D8 hT8 (fun _ => nofun) b9
      have hra9 := keep_dr D8 hra8 (fun _ => nofun) b9
      refine WP.append hra9 (WP.nil ?_)
      have nr : ∀ a y, H9 a = some y → (∀ ys, y ≠ .list ys) → upd H9 ra (.list ([.int 0 t6] ++ [.int (j : Int) t9])) a = some y := fun a y ha hy => upd_of_ne ha fun z => by rw [z, hra9] at ha; cases ha; exact hy _ rfl
      refine ⟨rfl, [0, j], _, _, _, (hFR _ _ _).mpr (F9.but (But.upd (a := ra) (ds := [ra]) (by simp)) (by intro a ha; rw [List.mem_singleton.mp ha]; exact F9.ne hra9 rfl)), rfl, rfl, rfl, D9.keep (fun y hy => nr _ _ hy (by obtain ⟨es, e⟩ := D9.dict; rw [e] at hy; cases hy; exact fun _ => nofun)) (fun y hy => (upd_ne htr).trans hy), by decide, nr _ _ hT9 (fun _ => nofun), ⟨_, upd_self, .cons _ _ (.cons _ _ .nil)⟩, by simp, by simp; omega⟩
  rintro H8 ⟨roots, b, f, cm, F, c1, c2, f1, D, hb, hT, hra, hrl, hrj⟩
  replace F := (hFR _ _ _).mp F
  clear F7 D7 hT7 hra7
  -- ways
  have hov : ∀ {Hx : HM} {fx cx : Str → Option Value}, FR Hx fx cx → True := fun _ => trivial
  refine WP.cons (WP.asgV (N := n) (itO := fun k => .raw (rangeI k ((n : Int) - k))) (Src := fun _ => True) (P := fun k v => ∃ t, v = .int k t)
    (fun fb k ws H' => (∀ a, fb a → H8 a = none) ∧ But [dd] H8 H' ∧ Dr prog w H' dd tl (b + 2 * k) ∧ ∃ (As : List Addr) (rows : List (List Nat)), ws = As.map .ref ∧ As.length = k ∧ rows.length = k ∧ (∀ r ∈ rows, r.length = 2 ∧ ∀ j ∈ r, j < n) ∧ ∀ (i : Nat) a r, As[i]? = some a → rows[i]? = some r → ¬fb a ∧ LI H' a (toI r))
    (by omega) rfl ?_ (by rw [F.loc]; simp) ?_ ?_ ?_ ?_)
  · rintro fb k ws H6 ⟨_, e, _⟩
    exact ⟨trivial, _, (F.dr D e).loc⟩
  · rintro fb k ws H6 H7 ⟨fbn, e, hd6, As, rows, h1, h2, h3, h4, h5⟩ hk
    have hdt : H8 dd ≠ none := by obtain ⟨es, e⟩ := D.dict; rw [e]; simp
    have htt : H8 tl ≠ none := by obtain ⟨_, _, _, _, ⟨vs, e, _⟩, _⟩ := D; rw [e]; simp
    exact ⟨fbn, fun a y ha hna => hk _ _ (fun z => by rw [fbn a z] at ha; cases ha) (e _ _ ha hna), hd6.keep (fun y => hk _ _ fun z => hdt (fbn _ z)) (fun y => hk _ _ fun z => htt (fbn _ z)), As, rows, h1, h2, h3, h4, fun i a r ha hr => ⟨(h5 i a r ha hr).1, (h5 i a r ha hr).2.ext fun y => hk _ _ (h5 i a r ha hr).1⟩⟩
  · refine WP.callN (WP.name (WP.blt B (by k_is) rfl (by decide) ?_))
    refine WP.cwT (WP.args (WP.name (WP.fcC F c2 (WP.args0 (WP.range fun q a' b' hq => ?_)))))
    refine (Over.range o'.hh (H := H8) (Ext.refl.new hq) upd_self (by omega)).mono fun it H2 ⟨e, own, h1, h2, h3, h4⟩ => ⟨fun a y ha => ⟨y, e _ _ ha⟩, own, h1, h2, h3, h4, fun fb H6 hfb hk => ?_⟩
    have hdt : H8 dd ≠ none := by obtain ⟨es, e⟩ := D.dict; rw [e]; simp
    have htt : H8 tl ≠ none := by obtain ⟨_, _, _, _, ⟨vs, e, _⟩, _⟩ := D; rw [e]; simp
    exact ⟨hfb, fun a y ha _ => hk _ _ (fun z => by rw [hfb a z] at ha; cases ha) (e _ _ ha), (D.ext e).keep (fun y => hk _ _ fun z => hdt (hfb _ z)) (fun y => hk _ _ fun z => htt (hfb _ z)), [], [], rfl, rfl, rfl, by simp, by simp⟩
  · rintro fb C k v ws H6 fC hk hv ⟨hfb, e6, hd6, As, rows, rfl, hA1, hR1, hR2, hR3⟩ _ htold hfC hC hfx
    refine WP.tests0 ⟨fun a y _ hy => hy, ?_⟩
    rw [if_pos rfl]
    have F6 := F.dr D e6
    have hcd : H6 (_) = some (.cell (cm "drawn")) := F6.cell "drawn" _ rfl
    have hcm : H6 (_) = some (.cell (cm "many")) := F6.cell "many" _ rfl
    rw [c1] at hcd
    rw [c2] at hcm
    have hddt : ∀ a, fb a → a ∉ [dd] := fun a ha z => by
      obtain ⟨es, e⟩ := D.dict
      have := hfb a ha
      rw [List.mem_singleton.mp z, e] at this; cases this
    refine WP.eList (WP.args (WP.callN (WP.name (WP.loadG B.X B.g (by k_is) ?_))))
    refine WP.cwK B (by k_is) (WP.args (WP.name (WP.loadC rfl hcd (WP.args (WP.name (WP.loadC rfl hcm (WP.args0 ?_)))))))
    refine s_one_of B o' (by omega) hd6 (by omega) (by omega) fun H9 v9 t9 b9 D9 h0 h1 => ?_
    obtain ⟨j1, rfl, hj1⟩ := nat_of h0 h1
    refine WP.args (WP.callN (WP.name (WP.loadG B.X B.g (by k_is) ?_)))
    refine WP.cwK B (by k_is) (WP.args (WP.name (WP.loadC rfl (keep_dr hd6 hcd (fun _ => nofun) b9) (WP.args (WP.name (WP.loadC rfl (keep_dr hd6 hcm (fun _ => nofun) b9) (WP.args0 ?_)))))))
    refine s_one_of B o' (by omega) D9 (by omega) (by omega) fun H10 v10 t10 b10 D10 h0 h1 => ?_
    obtain ⟨j2, rfl, hj2⟩ := nat_of h0 h1
    refine WP.args0 (WP.newList fun q nq => ?_)
    have k2 : ∀ a y, H6 a = some y → a ∉ [dd] → upd H10 q (.list [.int (j1 : Int) t9, .int (j2 : Int) t10]) a = some y := fun a y ha hn => upd_old (b10 _ _ (b9 _ _ ha hn) hn) nq
    have nq6 : ¬fb q := fun z => by
      cases z6 : H6 q with
      | none => exact htold q z z6
      | some y => have := b10 _ _ (b9 _ _ z6 (hddt q z)) (hddt q z); rw [nq] at this; cases this
    refine ⟨fun a y ha hy => k2 _ _ hy (hddt a ha), hfb, ((e6.trans b9).trans b10).trans (But.refl.new nq), ?_, As ++ [q], rows ++ [[j1, j2]], by simp, by simp [hA1], by simp [hR1], fun r hr => ?_, fun i a r ha hr => ?_⟩
    · have := D10.ext (Ext.refl.new (x := .list [.int (j1 : Int) t9, .int (j2 : Int) t10]) nq)
      rw [show b + 2 * (k + 1) = b + 2 * k + 1 + 1 by omega]; exact this
    · rcases List.mem_append.mp hr with hr | hr
      · exact hR2 r hr
      · rw [List.mem_singleton.mp hr]
        refine ⟨rfl, fun j hj => ?_⟩
        simp only [List.mem_cons, List.not_mem_nil, or_false] at hj
        rcases hj with rfl | rfl <;> assumption
    · by_cases hi : i < As.length
      · rw [List.getElem?_append_left hi] at ha
        rw [List.getElem?_append_left (by omega)] at hr
        obtain ⟨h4, h5⟩ := hR3 i a r ha hr
        refine ⟨h4, ?_⟩
        have h6 := (h5.dr hd6 b9).dr D9 b10
        exact h6.ext fun y hy => upd_old hy nq
      · rw [List.getElem?_append_right (by omega)] at ha
        rw [List.getElem?_append_right (by omega), hR1, ← hA1] at hr
        have hi0 : i - As.length = 0 := by
          have := (List.getElem?_eq_some_iff.mp ha).1
          simp at this; omega
        rw [hi0] at ha hr
        cases ha
        cases hr
        exact ⟨nq6, _, upd_self, .cons _ _ (.cons _ _ .nil)⟩
  rintro wa fb ws H6 ⟨hfb, e6, hd6, as, rows, rfl, hA1, hR1, hR2, hR3⟩ _ hfwa _ hwa
  have F6 := F.dr D e6
  refine WP.aName (WP.fsL F6 fun H7 F7 u7 => ⟨fun a z ha hz => ?_, ⟨_, F7.loc⟩, fun H9 hk9 => ?_⟩)
  · rw [u7 a (fun q => by
      have hz0 := hfb a ha
      rcases q with q | ⟨n, hc⟩
      · rw [q] at hz0; exact absurd (hz0.symm.trans F.loc) (by simp)
      · exact absurd (hz0.symm.trans (F.cell n a hc)) (by simp))]
    exact hz
  have F9 : FrC H9 _ _ _ := ⟨hk9 _ _ (fun z => by have := F.loc; rw [hfb _ z.1] at this; cases this) F7.loc, fun n c hc => hk9 _ _ (fun z => by have := F.cell n c hc; rw [hfb _ z.1] at this; cases this) (F7.cell n c hc), F7.apart⟩
  have k9 : ∀ a y, H6 a = some y → notOwn y = true → (fb a → a = wa) → H9 a = some y := fun a y ha hy hn => hk9 _ _ (fun z => z.2 (hn z.1)) (u7.keep F6 ha hy)
  have ndt : ∀ a y, H8 a = some y → ¬fb a := fun a y ha z => by rw [hfb a z] at ha; cases ha
  have D9 : Dr prog w H9 dd tl (b + 2 * n) := by
    obtain ⟨es, ed⟩ := D.dict
    obtain ⟨_, _, _, _, ⟨vs, etl, _⟩, _⟩ := id D
    refine hd6.keep (fun y hy => k9 _ _ hy ?_ fun z => absurd z (ndt _ _ ed)) (fun y hy => k9 _ _ hy ?_ fun z => absurd z (ndt _ _ etl))
    · obtain ⟨es, e⟩ := hd6.dict; rw [e] at hy; cases hy; rfl
    · obtain ⟨_, _, _, _, ⟨vs, e, _⟩, _⟩ := hd6; rw [e] at hy; cases hy; rfl
  have hT9 := k9 _ _ (keep_dr D hT (fun _ => nofun) e6) rfl fun z => absurd z (ndt _ _ hT)
  have hra9 : LI H9 ra (toI roots) := by
    obtain ⟨vs, h1, h2⟩ := hra
    exact ⟨vs, k9 _ _ (keep_dr D h1 (fun _ => nofun) e6) rfl fun z => absurd z (ndt _ _ h1), h2⟩
  have hwa9 := k9 _ _ hwa rfl fun _ => rfl
  have hrow9 : ∀ (i : Nat) a r, as[i]? = some a → rows[i]? = some r → LI H9 a (toI r) := fun i a r ha hr => by
    obtain ⟨h1, vs, h2, h3⟩ := hR3 i a r ha hr
    exact ⟨vs, k9 _ _ h2 rfl fun z => absurd z h1, h3⟩
  clear hR3 hwa k9 hk9 u7 F7 F6 e6 hfwa hfb hd6 ndt F D hT hra
  -- rooms
  have hrow0 := hrow9
  refine WP.cons (WP.asgName (WP.compD (n := n) (fun v => 1 ≤ v ∧ v ≤ 30) (by omega) F9.loc rfl D9 ?_ ?_ ?_))
  · refine WP.callN (WP.name (WP.blt B (by k_is) rfl (by decide) ?_))
    refine WP.cwT (WP.args (WP.name (WP.fcC F9 c2 (WP.args0 (WP.range fun q a' b' hq => ?_)))))
    exact Over.range o'.hh (Ext.refl.new hq) upd_self (by omega)
  · intro C k H1 hk e1 hd1
    have F1 := F9.dr D9 e1
    have hcd : H1 (_) = some (.cell (cm "drawn")) := F1.cell "drawn" _ rfl
    rw [c1] at hcd
    refine WP.binop (WP.cInt fun t1 => WP.callN (WP.name (WP.loadG B.X B.g (by k_is) ?_)))
    refine WP.cwK B (by k_is) (WP.args (WP.name (WP.loadC rfl hcd (WP.args (WP.cInt fun t2 => WP.args0 ?_)))))
    exact s_one_of B o' (by omega) hd1 (by omega) (by decide) fun H2 v t b2 D2 h0 h1 => WP.add fun t3 => ⟨b2, D2, _, t3, rfl, by omega, by omega⟩
  intro ma rooms H10 b10 _ D10 hrml hrmQ hma
  have F10 := F9.dr D9 b10
  refine WP.fsC F10 fun H11 F11 u11 => ?_
  have D11 := D10.own F10 u11
  have hT11 := u11.keep F10 (keep_dr D9 hT9 (fun _ => nofun) b10) rfl
  have hra11 := (hra9.dr D9 b10).own F10 u11
  have hwa11 := u11.keep F10 (keep_dr D9 hwa9 (fun _ => nofun) b10) rfl
  have hrow11 : ∀ (i : Nat) a r, as[i]? = some a → rows[i]? = some r → LI H11 a (toI r) := fun i a r ha hr => ((hrow9 i a r ha hr).dr D9 b10).own F10 u11
  have hma11 := hma.own F10 u11
  clear F10 D10 hma u11 b10 F9 D9 hT9 hra9 hwa9 hrow9 hrow0
  -- world
  refine WP.cons (WP.asgName (WP.eTuple (WP.args (WP.name (WP.fcL F11 rfl ?_)))))
  refine WP.args (WP.name (WP.fcL F11 ((if_neg (by decide)).trans f1) ?_))
  refine WP.args (WP.name (WP.fcC F11 rfl ?_))
  refine WP.args (WP.compD (n := n) (fun v => 0 ≤ v ∧ v < 5) (by omega) F11.loc rfl D11 ?_ ?_ ?_)
  · refine WP.callN (WP.name (WP.blt B (by k_is) rfl (by decide) ?_))
    refine WP.cwT (WP.args (WP.name (WP.fcC F11 ((if_neg (by decide)).trans c2) (WP.args0 (WP.range fun q a' b' hq => ?_)))))
    exact Over.range o'.hh (Ext.refl.new hq) upd_self (by omega)
  · intro C k H1 hk e1 hd1
    have F1 := F11.dr D11 e1
    have hcd : H1 (_) = some (.cell ((fun y => if y = ("rooms" : Str) then some (Value.ref ma) else cm y) "drawn")) := F1.cell "drawn" _ rfl
    rw [show (fun y => if y = ("rooms" : Str) then some (Value.ref ma) else cm y) ("drawn" : Str) = some (.ref dd) from (if_neg (by decide)).trans c1] at hcd
    refine WP.callN (WP.name (WP.loadG B.X B.g (by k_is) ?_))
    refine WP.cwK B (by k_is) (WP.args (WP.name (WP.loadC rfl hcd (WP.args (WP.cInt fun t2 => WP.args0 ?_)))))
    exact s_one_of B o' (by omega) hd1 (by omega) (by decide) fun H2 v t b2 D2 h0 h1 => ⟨b2, D2, _, t, rfl, h0, h1⟩
  intro sa sorts H12 b12 _ D12 hsol hsoQ hsa
  have F12 := F11.dr D11 b12
  refine WP.args0 (WP.newTuple fun wt nwt => ?_)
  have e13 : Ext H12 (upd H12 wt (.raw (tupO [.ref wa, .ref ra, .ref ma, .ref sa]))) := Ext.refl.new nwt
  have F13 := F12.ext e13
  refine WP.fsL F13 fun H14 F14 u14 => ?_
  have D14 := (D12.ext e13).own F13 u14
  have kl : ∀ a ns, LI H12 a ns → LI H14 a ns := fun a ns h => (h.ext fun y => e13 _ y).own F13 u14
  have hT14 := u14.keep F13 (e13 _ _ (keep_dr D11 hT11 (fun _ => nofun) b12)) rfl
  obtain ⟨W, hWd⟩ : ∃ W : Wd, W = ⟨n, rows, roots, rooms, sorts⟩ := ⟨_, rfl⟩
  have hW : W.Ok := by
    subst hWd
    exact ⟨by show n ≤ 5; omega, hR1, hrml, hsol, hR2, hrj, hrl⟩
  have hWn : W.n = n := by rw [hWd]
  have hAt : WdAt W wt wa ra ma sa as H14 := by
    subst hWd
    refine ⟨u14.keep F13 upd_self rfl, u14.keep F13 (e13 _ _ (keep_dr D11 hwa11 (fun _ => nofun) b12)) rfl, hA1, fun i a r ha hr => kl _ _ ((hrow11 i a r ha hr).dr D11 b12), kl _ _ (hra11.dr D11 b12), kl _ _ (hma11.dr D11 b12), kl _ _ hsa⟩
  have hrooms : ∀ v ∈ W.rooms, 1 ≤ v ∧ v ≤ 30 := by rw [hWd]; exact hrmQ
  have T14 : Tab qsL H14 := ⟨#[], hT14, trivial, fun p _ => .inl rfl⟩
  obtain ⟨FR, hFR⟩ := F14.pack3
  obtain ⟨f, cm, F, g1, g2, g3, g4, g5, g6⟩ : ∃ f cm, FR H14 f cm ∧ cm "drawn" = some (.ref dd) ∧ cm "many" = some (.int n t5) ∧ cm "rooms" = some (.ref ma) ∧ f "ways" = some (.ref wa) ∧ f "roots" = some (.ref ra) ∧ f "world" = some (.ref wt) :=
    ⟨_, _, (hFR _ _ _).mpr F14, (if_neg (by decide)).trans c1, (if_neg (by decide)).trans c2, if_pos rfl, (if_neg (by decide)).trans (if_pos rfl), (if_neg (by decide)).trans ((if_neg (by decide)).trans f1), if_pos rfl⟩
  replace F := (hFR _ _ _).mp F
  clear kl hsa hma11 hrow11 hwa11 hra11 hT11 hT14 D11 F11 F12 F13 F14 D12 u14 e13 nwt b12
  -- passed
  refine WP.cons (WP.asgName (WP.callN (WP.name (WP.loadG B.X B.g (by k_is) ?_))))
  refine WP.cwK B (by k_is) (WP.args (WP.name (WP.fcL F g4 (WP.args (WP.name (WP.fcL F g5 (WP.args0 ?_)))))))
  refine WP.call (s_gone B o' (by omega) hW hAt.w hAt.l hAt.rows hAt.r fun H15 pa vs fd e15 I hpa hvn hfd => ?_)
  have F15 := F.ext e15
  refine WP.fsC F15 fun H16 F16 u16 => ?_
  have D16 := (D14.ext e15).own F15 u16
  have hAt16 := (hAt.ext e15).own F15 u16
  have T16 : Tab qsL H16 := (T14.ext fun a o => e15 _ _).own F15 u16
  have hpa16 := u16.keep F15 hpa rfl
  have hfd16 : ∀ v, v < W.n → (fd v = none → vs[v]? = some .none) ∧ ∀ K, fd v = some K → ∃ a, vs[v]? = some (.ref a) ∧ LI H16 a (toI K) := fun v hv => ⟨(hfd v hv).1, fun K hK => let ⟨a, h1, h2⟩ := (hfd v hv).2 K hK; ⟨a, h1, h2.own F15 u16⟩⟩
  clear F15 hpa hfd u16 e15 F hAt T14 D14
  -- anyhow, room
  refine WP.cons (WP.asgTup (WP.callN (WP.name (WP.loadG B.X B.g (by k_is) ?_))))
  refine WP.cwK B (by k_is) (WP.args (WP.name (WP.fcL F16 g6 (WP.args (WP.eList (WP.args0 (WP.newList fun q nq => WP.args0 ?_)))))))
  have e17 : Ext H16 (upd H16 q (.list [])) := Ext.refl.new nq
  refine WP.call (s_lost (bar := []) B M o' (by omega) hW (hAt16.ext e17) ⟨[], upd_self, .nil⟩ (T16.ext fun a o => e17 _ _) fun H17 r an tk qb hq b17 T17 hr han _ => ?_)
  obtain ⟨el1, el2⟩ := lost_eq hq
  rw [el1] at han
  rw [el2] at hr
  have bb : But [380] H16 H17 := (Ext.but e17).trans b17
  refine WP.aTup o'.hh hr ?_
  have F17 := F16.k380 T16 bb
  have D17 := D16.k380 T16 bb
  refine WP.ao1 (WP.aName (WP.fsC F17 fun H18 F18 u18 => ?_))
  refine WP.ao1 (WP.aName (WP.fsL F18 fun H19 F19 u19 => ?_))
  refine WP.ao0 ?_
  have S17 : LS W wt wa ra ma sa as pa an vs fd H17 := ⟨let ⟨_, h, _⟩ := T16; hAt16.but h bb, T17, keep380 T16 hpa16 (fun _ => nofun) bb, hvn, fun v hv => ⟨(hfd16 v hv).1, fun K hK => let ⟨a, h1, h2⟩ := (hfd16 v hv).2 K hK; ⟨a, h1, h2.k380 T16 bb⟩⟩, han⟩
  have S := S17.own F17 (u18.trans u19)
  have D := D17.own F17 (u18.trans u19)
  obtain ⟨f', cm', F, g1, g2, g3, g6, g7, g8, g9⟩ : ∃ f' cm', FR H19 f' cm' ∧ cm' "drawn" = some (.ref dd) ∧ cm' "many" = some (.int n t5) ∧ cm' "rooms" = some (.ref ma) ∧ f' "world" = some (.ref wt) ∧ cm' "passed" = some (.ref pa) ∧ cm' "anyhow" = some (.ref an) ∧ f' "room" = some (.int (((List.range W.n).filter (rb W [])).map (room W)).sum tk) :=
    ⟨_, _, (hFR _ _ _).mpr F19, (if_neg (by decide)).trans ((if_neg (by decide)).trans g1), (if_neg (by decide)).trans ((if_neg (by decide)).trans g2), (if_neg (by decide)).trans ((if_neg (by decide)).trans g3), (if_neg (by decide)).trans g6, (if_neg (by decide)).trans (if_pos rfl), if_pos rfl, if_pos rfl⟩
  replace F := (hFR _ _ _).mp F
  clear S17 D17 F17 F18 F19 u18 u19 bb b17 hr e17 nq T16 T17 hAt16 hpa16 hfd16 D16 F16 han el1 el2 hq
  have hrm : ∀ j, j < n → W.rooms[j]? = some (room W j) := fun j hj => by
    show _ = some (W.rooms.getD j 0)
    rw [List.getD_eq_getElem?_getD, List.getElem?_eq_getElem (by rw [hW.lm, hWn]; exact hj)]; rfl
  clear hA1 hR1 hR2 hrml hrmQ hsol hsoQ hrl hrj hWd
  subst hWn
  -- if anyhow != [..] or room != ..
  refine WP.cons (WP.ifS (WP.tBool (WP.mono (Φ := fun b H' => b = false ∧ Ext H19 H') ?_ ?_)))
  · refine WP.or1 (WP.tCmp (WP.name (WP.fcC F g8 (WP.compG (N := W.n) (itO := fun k => .raw (rangeI k ((W.n : Int) - k))) (Src := fun _ => True) (P := fun k v => ∃ t, v = .int k t) (ns := List.range W.n) (fun j => (fd j).isNone) (fun j => (j : Int)) List.length_range (by omega) F.loc rfl range_over (fun _ _ => trivial) ?_ ?_ ?_))))
    · refine WP.callN (WP.name (WP.blt B (by k_is) rfl (by decide) ?_))
      refine WP.cwT (WP.args (WP.name (WP.fcC F g2 (WP.args0 (WP.range fun q a' b' hq => ?_)))))
      exact Over.range o'.hh (Ext.refl.new hq) upd_self (by omega)
    · intro C j t H1 fC hj e hC hfx
      have hjn := List.mem_range.mp hj
      have hcp : H19 (_) = some (.cell (cm' "passed")) := F.cell "passed" _ rfl
      rw [g7] at hcp
      obtain ⟨x, hx, hxn⟩ : ∃ x, vs[j]? = some x ∧ (x == Value.none) = (fd j).isNone := by
        obtain ⟨h1, h2⟩ := S.fnd j hjn
        cases hf : fd j with
        | none => exact ⟨_, h1 hf, rfl⟩
        | some K => obtain ⟨a, h3, _⟩ := h2 K hf; exact ⟨_, h3, rfl⟩
      refine WP.tests1 (WP.tCmp (WP.sub (WP.name (WP.loadC rfl (e _ _ hcp) (WP.name (WP.loadL hC hfx (WP.item (e _ _ S.pas) (by omega) (x := x) (by simpa using hx) (WP.cNone (WP.isNone (WP.truthB ?_))) (by omega))))))))
      exact ⟨Ext.refl, hxn, fun _ => WP.name (WP.loadL hC hfx ⟨Ext.refl, t, rfl⟩)⟩
    · intro acc H1 e _ hacc
      refine WP.neI o' (by omega) (S.any.ext fun y => e _ y) hacc (WP.truthB ?_)
      rw [← Mine.f1 I, decide_eq_true rfl]
      have F1 := F.ext e
      have S1 := S.ext e
      refine WP.or1 (WP.tCmp (WP.name (WP.fcL F1 g9 (WP.binop (WP.callN (WP.name (WP.blt B (by k_is) rfl (by decide) ?_)))))))
      refine WP.cwB (WP.args (WP.name (WP.fcC F1 g3 (WP.args0 (WP.sum o'.hh S1.at_.m fun t20 => ?_)))))
      refine WP.callN (WP.name (WP.blt B (by k_is) rfl (by decide) ?_))
      obtain ⟨vsA, hA, hAl, hAo⟩ := S1.any.over
      have hll := lost_len hW []
      refine WP.cwB (WP.args (WP.compG (N := vsA.length) (itO := fun k => .iter an k) (Src := fun H => H an = some (.list vsA)) (P := fun k v => vsA[k]? = some v) (ns := lostL W []) (fun _ => true) (room W) hAl.symm (by omega) F1.loc rfl (fun k v _ hv => hAo k v hv) (fun H2 e2 => e2 _ _ hA) ?_ ?_ ?_))
      · exact WP.name (WP.fcC F1 g8 (Over.list o'.hh Ext.refl hA))
      · intro C j t H2 fC hj e2 hC hfx
        have hjn := (mem_lost.mp hj).1
        have hcr : H1 (_) = some (.cell (cm' "rooms")) := F1.cell "rooms" _ rfl
        rw [g3] at hcr
        refine WP.tests0 ⟨Ext.refl, rfl, fun _ => ?_⟩
        refine WP.sub (WP.name (WP.loadC rfl (e2 _ _ hcr) (WP.name (WP.loadL hC hfx (WP.itemI (S1.at_.m.ext fun y => e2 _ y) (hrm j hjn) (by omega) fun tk => ⟨Ext.refl, tk, rfl⟩)))))
      · intro acc2 H2 e2 _ hacc2
        rw [List.filter_eq_self.mpr (by simp)] at hacc2
        refine WP.args0 (WP.sum o'.hh hacc2 fun t21 => WP.subI fun t22 => WP.ne (WP.truthB ?_))
        have hs := f1b (bar := []) hW
        have : (((List.range W.n).filter (rb W [])).map (room W)).sum = W.rooms.sum - ((lostL W []).map (room W)).sum := by omega
        rw [this, bne_self_eq_false]
        exact WP.or0 ⟨rfl, e.trans e2⟩
  rintro b H20 ⟨rfl, e20⟩
  have F20 := F.ext e20
  have S20 := S.ext e20
  have D20 := D.ext e20
  refine WP.nil ?_
  clear F S D e20
  -- lots = []
  refine WP.cons (WP.asgName (WP.eList (WP.args0 (WP.newList fun lt nlt => ?_))))
  have e21 : Ext H20 (upd H20 lt (.list [])) := Ext.refl.new nlt
  have htlt : tl ≠ lt := fun z => by obtain ⟨_, _, _, _, ⟨ys, e, _⟩, _⟩ := D20; rw [z, nlt] at e; cases e
  have F21 := F20.ext e21
  refine WP.fsC F21 fun H22 F22 u22 => ?_
  have hlt22 := u22.keep F21 (upd_self (H := H20) (a := lt) (x := .list [])) rfl
  have K22 : KN H20 H22 := e21.kn.trans (u22.kn F21 F22)
  have T22 : Tab qsL H22 := (S20.tab.ext fun a o => e21 _ _).own F21 u22
  have D22 := (D20.ext e21).own F21 u22
  have hF22 : FR H22 _ _ := (hFR _ _ _).mpr F22
  clear F21 u22 e21 F20 D20 F22
  obtain ⟨W5⟩ : Nonempty (W.n ≤ 5) := ⟨hW.n5⟩
  refine WP.cons (WP.forG (fun it m Hc => ∃ q k Ls f cm, it = .ref q ∧ k ≤ W.n ∧ m = W.n - k ∧ Hc q = some (.raw (rangeI k ((W.n : Int) - k))) ∧ H20 q = none ∧ FR Hc f cm ∧ cm "drawn" = some (.ref dd) ∧ cm "many" = some (.int W.n t5) ∧ cm "rooms" = some (.ref ma) ∧ f "world" = some (.ref wt) ∧ cm "passed" = some (.ref pa) ∧ cm "anyhow" = some (.ref an) ∧ cm "lots" = some (.ref lt) ∧
    KN H20 Hc ∧ Tab qsL Hc ∧ Dr prog w Hc dd tl (b + 2 * W.n + W.n + W.n) ∧ Hc lt = some (.list ((Ls : List Addr).map .ref)) ∧ Ls.length = k ∧ ∀ (i : Nat) a, Ls[i]? = some a → LI Hc a (toI (lots W i)) ∧ a ≠ lt) ?_ ?_)
  · have F22 := (hFR _ _ _).mp hF22
    refine WP.callN (WP.name (WP.blt B (by k_is) rfl (by decide) ?_))
    refine WP.cwT (WP.args (WP.name (WP.fcC F22 ((if_neg (by decide)).trans g2) (WP.args0 (WP.range fun q0 a' b' nq0 => ?_)))))
    refine WP.rangeIt upd_self (by omega) fun q nq => ?_
    have e23 : Ext H22 (upd (upd H22 q0 (.raw (rangeO W.n a' t5 b'))) q (.raw (rangeI 0 W.n))) := (Ext.refl.new nq0).trans (Ext.refl.new nq)
    have nq20 : H20 q = none := K22.fresh ((Ext.refl.new nq0).fresh nq)
    exact ⟨W.n, q, 0, [], _, _, rfl, Nat.zero_le _, rfl, by rw [upd_self]; simp, nq20, (hFR _ _ _).mpr (F22.ext e23), (if_neg (by decide)).trans g1, (if_neg (by decide)).trans g2, (if_neg (by decide)).trans g3, g6, (if_neg (by decide)).trans g7, (if_neg (by decide)).trans g8, if_pos rfl, K22.trans e23.kn, T22.ext fun a o => e23 _ _, (D22.ext e23).mono (by omega), e23 _ _ hlt22, rfl, by simp⟩
  · rintro it m Hc ⟨q, k, Ls, f, cm, rfl, hk, rfl, hq, nq, F, c1, c2, c3, f4, c5, c6, c7, K, T, D, hlt, hLl, hLs⟩
    replace F := (hFR _ _ _).mp F
    by_cases hkn : k < W.n
    · refine ((Draw.range o'.hh).next k Hc hkn hq trivial).mono fun r H1 ⟨v, er, ⟨tv, ev⟩, e1⟩ => ?_
      subst er ev e1
      refine WP.noTup ?_
      have K1 := K.new (x := .raw (rangeI ((k + 1 : Nat) : Int) ((W.n : Int) - ((k + 1 : Nat) : Int)))) nq
      have T1 := T.turn (z := .raw (rangeI ((k + 1 : Nat) : Int) ((W.n : Int) - ((k + 1 : Nat) : Int)))) hq
      have b1 : But [q] Hc (upd Hc q (.raw (rangeI ((k + 1 : Nat) : Int) ((W.n : Int) - ((k + 1 : Nat) : Int))))) := But.upd (by simp)
      have hq1 := upd_self (H := Hc) (a := q) (x := .raw (rangeI ((k + 1 : Nat) : Int) ((W.n : Int) - ((k + 1 : Nat) : Int))))
      generalize upd Hc q (.raw (rangeI ((k + 1 : Nat) : Int) ((W.n : Int) - ((k + 1 : Nat) : Int)))) = H1 at K1 T1 b1 hq1 ⊢
      have nl : ∀ a ys, Hc a = some (.list ys) → H1 a = some (.list ys) := fun a ys h => b1 _ _ h (by have := ne_of h hq (by simp); simpa using this)
      have F1 := F.but b1 (by intro a ha; rw [List.mem_singleton.mp ha]; exact F.ne hq rfl)
      have D1 : Dr prog w H1 dd tl (b + 2 * W.n + W.n + W.n) := by
        obtain ⟨es, ed⟩ := D.dict
        obtain ⟨_, _, _, _, ⟨ys, et, _⟩, _⟩ := id D
        exact D.keep (fun y hy => by rw [ed] at hy; cases hy; exact b1 _ _ ed (by have := ne_of ed hq (by simp); simpa using this)) (fun y hy => by rw [et] at hy; cases hy; exact nl _ _ et)
      have hlt1 := nl _ _ hlt
      have hLs1 : ∀ (i : Nat) a, Ls[i]? = some a → LI H1 a (toI (lots W i)) ∧ a ≠ lt := fun i a h => by
        obtain ⟨⟨ys, h1, h2⟩, h3⟩ := hLs i a h
        exact ⟨⟨ys, nl _ _ h1, h2⟩, h3⟩
      clear hLs hlt D F b1 nl T K hq
      refine WP.aName (WP.fsC F1 fun H2 F2 u2 => ?_)
      have K2 := K1.trans (u2.kn F1 F2)
      have T2 := T1.own F1 u2
      have D2 := D1.own F1 u2
      have hlt2 := u2.keep F1 hlt1 rfl
      have hq2 := u2.keep F1 hq1 rfl
      have hLs2 : ∀ (i : Nat) a, Ls[i]? = some a → LI H2 a (toI (lots W i)) ∧ a ≠ lt := fun i a h => ⟨(hLs1 i a h).1.own F1 u2, (hLs1 i a h).2⟩
      clear hLs1 hlt1 D1 T1 K1 F1 u2 hq1
      -- lost, left = _law_lost(world, [at])
      refine WP.cons (WP.asgTup (WP.callN (WP.name (WP.loadG B.X B.g (by k_is) ?_))))
      refine WP.cwK B (by k_is) (WP.args (WP.name (WP.fcL F2 f4 (WP.args (WP.eList (WP.args (WP.name (WP.fcC F2 (if_pos rfl) (WP.args0 (WP.newList fun q1 nq1 => WP.args0 ?_))))))))))
      have e3 : Ext H2 (upd H2 q1 (.list [.int (k : Int) tv])) := Ext.refl.new nq1
      have S2 := S20.kn K2 T2
      refine WP.call (s_lost (bar := [k]) B M o' (by omega) hW (S2.at_.ext e3) ⟨_, upd_self, .cons _ _ .nil⟩ (T2.ext fun a o => e3 _ _) fun H3 r la tk3 qb hqb b3 T3 hr3 hla hla0 => ?_)
      obtain ⟨el1, el2⟩ := lost_eq hqb
      rw [el1] at hla
      rw [el2] at hr3
      have bb : But [380] H2 H3 := (Ext.but e3).trans b3
      have lalt : la ≠ lt := fun z => by rw [z, e3 _ _ hlt2] at hla0; cases hla0
      refine WP.aTup o'.hh hr3 ?_
      have F3 := F2.k380 T2 bb
      have D3 := D2.k380 T2 bb
      have K3 := K2.trans (bb.kn T3)
      have hlt3 := keep380 T2 hlt2 (fun _ => nofun) bb
      have hq3 := keep380 T2 hq2 (by simp [rangeI, tabObj]) bb
      have hLs3 : ∀ (i : Nat) a, Ls[i]? = some a → LI H3 a (toI (lots W i)) ∧ a ≠ lt := fun i a h => ⟨(hLs2 i a h).1.k380 T2 bb, (hLs2 i a h).2⟩
      refine WP.ao1 (WP.aName (WP.fsC F3 fun H4 F4 u4 => ?_))
      refine WP.ao1 (WP.aName (WP.fsL F4 fun H5 F5 u5 => WP.ao0 ?_))
      have u := u4.trans u5
      have K5 := K3.trans (u.kn F3 F5)
      have T5 := T3.own F3 u
      have D5 := D3.own F3 u
      have hlt5 := u.keep F3 hlt3 rfl
      have hq5 := u.keep F3 hq3 rfl
      have hla5 := hla.own F3 u
      have hLs5 : ∀ (i : Nat) a, Ls[i]? = some a → LI H5 a (toI (lots W i)) ∧ a ≠ lt := fun i a h => ⟨(hLs3 i a h).1.own F3 u, (hLs3 i a h).2⟩
      have S5 := S20.kn K5 T5
      clear S2 K2 T2 D2 hlt2 hq2 hLs2 K3 T3 D3 hlt3 hq3 hla hLs3 F2 F3 F4 u4 u5 u bb b3 hr3 e3 nq1 hqb el1 el2
      -- lots.append(..)
      obtain ⟨vsL, hL, hLen, hLo⟩ := hla5.over
      have hll := lost_len hW [k]
      refine WP.cons (WP.expr (WP.callM (WP.name (WP.fcC F5 ((if_neg (by decide)).trans ((if_neg (by decide)).trans c7)) ?_))))
      refine WP.lMeth hlt5 slot_list_append type_list_append ?_
      refine WP.cwB (WP.args (WP.compG (N := vsL.length) (itO := fun k => .iter la k) (Src := fun H => H la = some (.list vsL)) (P := fun k v => vsL[k]? = some v) (ns := lostL W [k]) (fun j => !decide (j ∈ lostL W [])) (fun j => (j : Int)) hLen.symm (by omega) F5.loc rfl (fun k v _ hv => hLo k v hv) (fun H2 e2 => e2 _ _ hL) ?_ ?_ ?_))
      · exact WP.name (WP.fcC F5 (if_pos rfl) (Over.list o'.hh Ext.refl hL))
      · intro C j t H6 fC hj e6 hC hfx
        have hca := F5.cell "anyhow" _ rfl
        rw [show (if ("anyhow" : Str) = ("lost" : Str) then some (Value.ref la) else if ("anyhow" : Str) = ("at" : Str) then some (.int (k : Int) tv) else cm "anyhow") = some (.ref an) from (if_neg (by decide)).trans ((if_neg (by decide)).trans c6)] at hca
        refine WP.tests1 (WP.tCmp (WP.name (WP.loadL hC hfx (WP.name (WP.loadC rfl (e6 _ _ hca) (WP.ninI (S5.any.ext fun y => e6 _ y) (WP.truthB ?_)))))))
        rw [any_toI]
        exact ⟨Ext.refl, rfl, fun _ => WP.name (WP.loadL hC hfx ⟨Ext.refl, t, rfl⟩)⟩
      intro acc H6 e6 na hacc
      replace hacc : LI H6 acc (toI (lots W k)) := hacc
      have hlt6 := e6 _ _ hlt5
      have nal : acc ≠ lt := fun z => by rw [z, hlt5] at na; cases na
      refine WP.args0 (WP.append hlt6 ?_ (by simp; omega))
      have hlt7 : upd H6 lt (.list (Ls.map .ref ++ [.ref acc])) lt = some (.list ((Ls ++ [acc]).map .ref)) := by rw [upd_self]; simp
      have K7 : KN H20 (upd H6 lt (.list (Ls.map .ref ++ [.ref acc]))) := (K5.trans e6.kn).new nlt
      have bl : But [lt] H6 (upd H6 lt (.list (Ls.map .ref ++ [.ref acc]))) := But.upd (by simp)
      generalize upd H6 lt (.list (Ls.map .ref ++ [.ref acc])) = H7 at hlt7 K7 bl ⊢
      have F7 := (F5.ext e6).but bl (by intro a ha; rw [List.mem_singleton.mp ha]; exact (F5.ext e6).ne hlt6 rfl)
      have T7 : Tab qsL H7 := (T5.ext fun a o => e6 _ _).ext fun a o ha => bl _ _ ha (by have := ne_of ha hlt6 (by simp); simpa using this)
      have D7 : Dr prog w H7 dd tl (b + 2 * W.n + W.n + W.n) := by
        have D6 := D5.ext e6
        obtain ⟨es, ed⟩ := D6.dict
        exact D6.keep (fun y hy => bl _ _ hy (by have := ne_of ed hlt6 (by simp); simpa using this)) (fun y hy => bl _ _ hy (by simpa using htlt))
      have hq7 := bl _ _ (e6 _ _ hq5) (by have := ne_of (e6 _ _ hq5) hlt6 (by simp); simpa using this)
      have hla7 : LI H7 la (toI (lostL W [k])) := (hla5.ext fun y => e6 _ y).but bl (by
        simp only [List.mem_singleton]
        exact lalt)
      have hLs7 : ∀ (i : Nat) a, (Ls ++ [acc])[i]? = some a → LI H7 a (toI (lots W i)) ∧ a ≠ lt := fun i a ha => by
        by_cases hi : i < Ls.length
        · rw [List.getElem?_append_left hi] at ha
          obtain ⟨h1, h2⟩ := hLs5 i a ha
          exact ⟨(h1.ext fun y => e6 _ y).but bl (by simpa using h2), h2⟩
        · rw [List.getElem?_append_right (by omega)] at ha
          have hi0 : i - Ls.length = 0 := by
            have := (List.getElem?_eq_some_iff.mp ha).1
            simp at this; omega
          rw [hi0] at ha
          cases ha
          have : i = k := by omega
          subst this
          exact ⟨hacc.but bl (by simpa using nal), nal⟩
      have S7 := S20.kn K7 T7
      have hacc7 := hLs7 k acc (by rw [List.getElem?_append_right (by omega), hLl]; simp)
      clear S5 K5 T5 D5 hlt5 hq5 hla5 hLs5 F5 e6 bl hlt6 hacc na
      -- if lots[at] != [..]
      refine WP.cons (WP.ifS (WP.mono (Φ := fun b H' => b = false ∧ Ext H7 H') ?_ ?_))
      · refine WP.tCmp (WP.sub (WP.name (WP.fcC F7 ((if_neg (by decide)).trans ((if_neg (by decide)).trans c7)) (WP.name (WP.fcC F7 ((if_neg (by decide)).trans (if_pos rfl)) ?_)))))
        refine WP.item hlt7 (by omega) (x := .ref acc) (by simp [hLl]) ?_ (by omega)
        refine WP.compG (N := W.n) (itO := fun k => .raw (rangeI k ((W.n : Int) - k))) (Src := fun _ => True) (P := fun k v => ∃ t, v = .int k t) (ns := List.range W.n) (fun j => !decide (j ∈ lostL W []) && (match fd j with | none => false | some K => decide (k ∈ K))) (fun j => (j : Int)) List.length_range (by omega) F7.loc rfl range_over (fun _ _ => trivial) ?_ ?_ ?_
        · refine WP.callN (WP.name (WP.blt B (by k_is) rfl (by decide) ?_))
          refine WP.cwT (WP.args (WP.name (WP.fcC F7 ((if_neg (by decide)).trans ((if_neg (by decide)).trans c2)) (WP.args0 (WP.range fun q a' b' hq => ?_)))))
          exact Over.range o'.hh (Ext.refl.new hq) upd_self (by omega)
        · intro C j t H8 fC hj e8 hC hfx
          have hjn := List.mem_range.mp hj
          have hca := F7.cell "anyhow" _ rfl
          rw [show (if ("anyhow" : Str) = ("lost" : Str) then some (Value.ref la) else if ("anyhow" : Str) = ("at" : Str) then some (.int (k : Int) tv) else cm "anyhow") = some (.ref an) from (if_neg (by decide)).trans ((if_neg (by decide)).trans c6)] at hca
          have hcp := F7.cell "passed" _ rfl
          rw [show (if ("passed" : Str) = ("lost" : Str) then some (Value.ref la) else if ("passed" : Str) = ("at" : Str) then some (.int (k : Int) tv) else cm "passed") = some (.ref pa) from (if_neg (by decide)).trans ((if_neg (by decide)).trans c5)] at hcp
          have hct := F7.cell "at" _ rfl
          rw [show (if ("at" : Str) = ("lost" : Str) then some (Value.ref la) else if ("at" : Str) = ("at" : Str) then some (.int (k : Int) tv) else cm "at") = some (.int (k : Int) tv) from (if_neg (by decide)).trans (if_pos rfl)] at hct
          refine WP.tests1 (WP.tBool (WP.and1 (WP.tCmp (WP.name (WP.loadL hC hfx (WP.name (WP.loadC rfl (e8 _ _ hca) (WP.ninI (S7.any.ext fun y => e8 _ y) (WP.truthB ?_)))))))))
          rw [any_toI]
          by_cases hjl : j ∈ lostL W []
          · rw [decide_eq_true hjl]
            exact ⟨Ext.refl, rfl, fun z => by cases z⟩
          · rw [decide_eq_false hjl]
            obtain ⟨K, hK⟩ : ∃ K, fd j = some K := by
              cases hf : fd j with
              | none => exact absurd (mem_lost.mpr ⟨hjn, ((I.done j).1).mp hf⟩) hjl
              | some K => exact ⟨K, rfl⟩
            obtain ⟨aK, h1, h2⟩ := (S7.fnd j hjn).2 K hK
            rw [hK]
            refine WP.and1 (WP.tCmp (WP.name (WP.loadC rfl (e8 _ _ hct) (WP.sub (WP.name (WP.loadC rfl (e8 _ _ hcp) (WP.name (WP.loadL hC hfx (WP.item (e8 _ _ S7.pas) (by omega) (x := .ref aK) (by simpa using h1) (WP.inI (h2.ext fun y => e8 _ y) (WP.truthB ?_)) (by omega))))))))))
            rw [any_toI]
            cases hkK : decide (k ∈ K)
            · refine ⟨Ext.refl, ?_, fun z => ?_⟩
              · show false = (!false && decide (k ∈ K)); rw [hkK]; rfl
              · change (!false && decide (k ∈ K)) = true at z; rw [hkK] at z; cases z
            · refine WP.and0 ⟨Ext.refl, ?_, fun _ => WP.name (WP.loadL hC hfx ⟨Ext.refl, t, rfl⟩)⟩
              show true = (!false && decide (k ∈ K)); rw [hkK]; rfl
        · intro acc2 H8 e8 _ hacc2
          refine WP.neI o' (by omega) (hacc7.1.ext fun y => e8 _ y) hacc2 (WP.truthB ?_)
          have hh : (List.range W.n).filter (fun j => !decide (j ∈ lostL W []) && (match fd j with | none => false | some K => decide (k ∈ K))) = lots W k := (Mine.f2 (a := k) I).symm
          rw [hh, decide_eq_true rfl]
          exact ⟨rfl, e8⟩
      rintro b8 H8 ⟨rfl, e8⟩
      have F8 := F7.ext e8
      have S8 := S7.ext e8
      have D8 := D7.ext e8
      have T8 : Tab qsL H8 := T7.ext fun a o => e8 _ _
      have hlt8 := e8 _ _ hlt7
      have hla8 : LI H8 la (toI (lostL W [k])) := hla7.ext fun y => e8 _ y
      have hacc8 : LI H8 acc (toI (lots W k)) := hacc7.1.ext fun y => e8 _ y
      have hq8 := e8 _ _ hq7
      have hLs8 : ∀ (i : Nat) a, (Ls ++ [acc])[i]? = some a → LI H8 a (toI (lots W i)) ∧ a ≠ lt := fun i a h => ⟨(hLs7 i a h).1.ext fun y => e8 _ y, (hLs7 i a h).2⟩
      have K8 := K7.trans e8.kn
      refine WP.nil ?_
      clear S7 K7 T7 D7 hlt7 hq7 hla7 hLs7 F7 e8 hacc7
      -- if len(lost) != .. or sum(..) + left != ..
      refine WP.cons (WP.ifS (WP.tBool (WP.mono (Φ := fun b H' => b = false ∧ Ext H8 H') ?_ ?_)))
      · obtain ⟨vsL, hL, hLen, hLo⟩ := hla8.over
        obtain ⟨vsA, hA, hAl, hAo⟩ := S8.any.over
        obtain ⟨vsC, hC, hCl, hCo⟩ := hacc8.over
        have hll := lost_len hW [k]
        have hll0 := lost_len hW []
        have h2b := Mine.f2b (W := W) (a := k)
        refine WP.or1 (WP.tCmp (WP.callN (WP.name (WP.blt B (by k_is) rfl (by decide) ?_))))
        refine WP.cwB (WP.args (WP.name (WP.fcC F8 (if_pos rfl) (WP.args0 (WP.len hL (fun tA => ?_) (by omega))))))
        refine WP.binop (WP.callN (WP.name (WP.blt B (by k_is) rfl (by decide) ?_)))
        refine WP.cwB (WP.args (WP.name (WP.fcC F8 ((if_neg (by decide)).trans ((if_neg (by decide)).trans c6)) (WP.args0 (WP.len hA (fun tB => ?_) (by omega))))))
        refine WP.callN (WP.name (WP.blt B (by k_is) rfl (by decide) ?_))
        refine WP.cwB (WP.args (WP.sub (WP.name (WP.fcC F8 ((if_neg (by decide)).trans ((if_neg (by decide)).trans c7)) (WP.name (WP.fcC F8 ((if_neg (by decide)).trans (if_pos rfl)) ?_))))))
        refine WP.item hlt8 (by omega) (x := .ref acc) (by simp [hLl]) (WP.args0 (WP.len hC (fun tC => WP.add fun tD => WP.ne (WP.truthB ?_)) (by omega))) (by omega)
        have hn1 : (vsL.length : Int) = (vsA.length : Int) + (vsC.length : Int) := by rw [hLen, hAl, hCl]; omega
        rw [hn1, bne_self_eq_false]
        refine WP.or1 (WP.tCmp (WP.binop (WP.callN (WP.name (WP.blt B (by k_is) rfl (by decide) ?_)))))
        refine WP.cwB (WP.args (WP.compG (N := vsL.length) (itO := fun k => .iter la k) (Src := fun H => H la = some (.list vsL)) (P := fun k v => vsL[k]? = some v) (ns := lostL W [k]) (fun _ => true) (room W) hLen.symm (by omega) F8.loc rfl (fun k v _ hv => hLo k v hv) (fun H2 e2 => e2 _ _ hL) ?_ ?_ ?_))
        · exact WP.name (WP.fcC F8 (if_pos rfl) (Over.list o'.hh Ext.refl hL))
        · intro C j t H9 fC hj e9 hC hfx
          have hjn := (mem_lost.mp hj).1
          have hcr := F8.cell "rooms" _ rfl
          rw [show (if ("rooms" : Str) = ("lost" : Str) then some (Value.ref la) else if ("rooms" : Str) = ("at" : Str) then some (.int (k : Int) tv) else cm "rooms") = some (.ref ma) from (if_neg (by decide)).trans ((if_neg (by decide)).trans c3)] at hcr
          refine WP.tests0 ⟨Ext.refl, rfl, fun _ => ?_⟩
          exact WP.sub (WP.name (WP.loadC rfl (e9 _ _ hcr) (WP.name (WP.loadL hC hfx (WP.itemI (S8.at_.m.ext fun y => e9 _ y) (hrm j hjn) (by omega) fun tk => ⟨Ext.refl, tk, rfl⟩)))))
        · intro acc2 H9 e9 _ hacc2
          rw [List.filter_eq_self.mpr (by simp)] at hacc2
          refine WP.args0 (WP.sum o'.hh hacc2 fun t21 => WP.name (WP.fcL (F8.ext e9) (if_pos rfl) (WP.add fun t22 => WP.callN (WP.name (WP.blt B (by k_is) rfl (by decide) ?_)))))
          refine WP.cwB (WP.args (WP.name (WP.fcC (F8.ext e9) ((if_neg (by decide)).trans ((if_neg (by decide)).trans c3)) (WP.args0 (WP.sum o'.hh (S8.at_.m.ext fun y => e9 _ y) fun t23 => WP.ne (WP.truthB ?_))))))
          have hs := f1b (bar := [k]) hW
          have hs2 : ((lostL W [k]).map (room W)).sum + (((List.range W.n).filter (rb W [k])).map fun j => W.rooms.getD j 0).sum = W.rooms.sum := by
            show ((lostL W [k]).map (room W)).sum + (((List.range W.n).filter (rb W [k])).map (room W)).sum = W.rooms.sum
            omega
          rw [hs2, bne_self_eq_false]
          exact WP.or0 ⟨rfl, e9⟩
      rintro b9 H9 ⟨rfl, e9⟩
      refine WP.nil (WP.nil ?_)
      exact ⟨W.n - (k + 1), by omega, q, k + 1, Ls ++ [acc], _, _, rfl, hkn, rfl, e9 _ _ hq8, nq, (hFR _ _ _).mpr (F8.ext e9), (if_neg (by decide)).trans ((if_neg (by decide)).trans c1), (if_neg (by decide)).trans ((if_neg (by decide)).trans c2), (if_neg (by decide)).trans ((if_neg (by decide)).trans c3), (if_neg (by decide)).trans f4, (if_neg (by decide)).trans ((if_neg (by decide)).trans c5), (if_neg (by decide)).trans ((if_neg (by decide)).trans c6), (if_neg (by decide)).trans ((if_neg (by decide)).trans c7), K8.trans e9.kn, T8.ext fun a o => e9 _ _, D8.ext e9, e9 _ _ hlt8, by simp [hLl], fun i a h => ⟨(hLs8 i a h).1.ext fun y => e9 _ y, (hLs8 i a h).2⟩⟩
    · obtain rfl : k = W.n := by omega
      refine ((Draw.range o'.hh).done Hc hq trivial).mono fun r H1 ⟨er, e1⟩ => ?_
      subst er e1
      have K1 := K.gone nq
      have T1 := T.turnD hq
      have b1 : But [q] Hc (Mine.del Hc q) := But.del (by simp)
      generalize Mine.del Hc q = H30 at K1 T1 b1 ⊢
      have nl : ∀ a ys, Hc a = some (.list ys) → H30 a = some (.list ys) := fun a ys h => b1 _ _ h (by have := ne_of h hq (by simp); simpa using this)
      have F1 := F.but b1 (by intro a ha; rw [List.mem_singleton.mp ha]; exact F.ne hq rfl)
      have D1 : Dr prog w H30 dd tl (b + 2 * W.n + W.n + W.n) := by
        obtain ⟨es, ed⟩ := D.dict
        obtain ⟨_, _, _, _, ⟨ys, et, _⟩, _⟩ := id D
        exact D.keep (fun y hy => by rw [ed] at hy; cases hy; exact b1 _ _ ed (by have := ne_of ed hq (by simp); simpa using this)) (fun y hy => by rw [et] at hy; cases hy; exact nl _ _ et)
      have hlt1 := nl _ _ hlt
      have hLs1 : ∀ (i : Nat) a, Ls[i]? = some a → LI H30 a (toI (lots W i)) := fun i a h => by
        obtain ⟨⟨ys, h1, h2⟩, h3⟩ := hLs i a h
        exact ⟨ys, nl _ _ h1, h2⟩
      have S1 := S20.kn K1 T1
      clear hLs hlt D F b1 nl T K hq S20 K1 nq
      refine WP.nil ?_
      -- for one in lots
      refine WP.cons (WP.forG (fun it m Hc => ∃ q i f cm, it = .ref q ∧ i ≤ W.n ∧ m = W.n - i ∧ Hc q = some (.iter lt i) ∧ H30 q = none ∧ FR Hc f cm ∧ cm "drawn" = some (.ref dd) ∧ cm "many" = some (.int W.n t5) ∧ f "world" = some (.ref wt) ∧ cm "anyhow" = some (.ref an) ∧ cm "lots" = some (.ref lt) ∧ KA H30 Hc) ?_ ?_)
      · exact WP.name (WP.fcC F1 c7 (WP.iterL hlt1 fun q nq => ⟨W.n, q, 0, f, cm, rfl, Nat.zero_le _, rfl, upd_self, nq, (hFR _ _ _).mpr (F1.ext (Ext.refl.new nq)), c1, c2, f4, c6, c7, (Ext.refl.new nq).ka⟩))
      clear F1 c1 c2 c3 f4 c5 c6 c7
      rintro it m Hc ⟨q, i, f, cm, rfl, hi, rfl, hq, nq, F, c1, c2, f4, c6, c7, K⟩
      replace F := (hFR _ _ _).mp F
      have hltc := K.at_ hlt1 rfl
      by_cases hin : i < W.n
      · obtain ⟨a1, ha1⟩ : ∃ a, Ls[i]? = some a := ⟨Ls[i]'(by omega), List.getElem?_eq_getElem (by omega)⟩
        refine WP.nextL (v := .ref a1) hq hltc (by simp [ha1]) ?_
        refine WP.noTup ?_
        have K1 := K.new (x := .iter lt (i + 1)) nq
        have b1 : But [q] Hc (upd Hc q (.iter lt (i + 1))) := But.upd (by simp)
        have hq1 := upd_self (H := Hc) (a := q) (x := .iter lt (i + 1))
        generalize upd Hc q (.iter lt (i + 1)) = H31 at K1 b1 hq1 ⊢
        have F2 := F.but b1 (by intro a ha; rw [List.mem_singleton.mp ha]; exact F.ne hq rfl)
        refine WP.aName (WP.fsL F2 fun H32 F3 u3 => ?_)
        have K3 := K1.trans (u3.ka F2 F3)
        have hq3 := u3.keep F2 hq1 rfl
        have hlt3 := K3.at_ hlt1 rfl
        clear hq1 K1 b1 F2 u3 K F hq hltc
        -- for other in lots
        refine WP.cons (WP.forG (fun it m Hc => ∃ q i f cm, it = .ref q ∧ i ≤ W.n ∧ m = W.n - i ∧ Hc q = some (.iter lt i) ∧ H32 q = none ∧ FR Hc f cm ∧ cm "drawn" = some (.ref dd) ∧ cm "many" = some (.int W.n t5) ∧ f "world" = some (.ref wt) ∧ cm "anyhow" = some (.ref an) ∧ cm "lots" = some (.ref lt) ∧ f "one" = some (.ref a1) ∧ KA H32 Hc) ?_ ?_)
        · exact WP.name (WP.fcC F3 c7 (WP.iterL hlt3 fun q nq => ⟨W.n, q, 0, _, cm, rfl, Nat.zero_le _, rfl, upd_self, nq, (hFR _ _ _).mpr (F3.ext (Ext.refl.new nq)), c1, c2, (if_neg (by decide)).trans f4, c6, c7, if_pos rfl, (Ext.refl.new nq).ka⟩))
        clear F3 c1 c2 f4 c6 c7
        rintro it m Hc ⟨q', i', f, cm, rfl, hi', rfl, hq', nq', F, c1, c2, f4, c6, c7, f5, K⟩
        replace F := (hFR _ _ _).mp F
        have hltc := K.at_ hlt3 rfl
        by_cases hin' : i' < W.n
        · obtain ⟨a2, ha2⟩ : ∃ a, Ls[i']? = some a := ⟨Ls[i']'(by omega), List.getElem?_eq_getElem (by omega)⟩
          refine WP.nextL (v := .ref a2) hq' hltc (by simp [ha2]) ?_
          refine WP.noTup ?_
          have K1 := K.new (x := .iter lt (i' + 1)) nq'
          have b1 : But [q'] Hc (upd Hc q' (.iter lt (i' + 1))) := But.upd (by simp)
          have hq1 := upd_self (H := Hc) (a := q') (x := .iter lt (i' + 1))
          generalize upd Hc q' (.iter lt (i' + 1)) = H33 at K1 b1 hq1 ⊢
          have F2 := F.but b1 (by intro a ha; rw [List.mem_singleton.mp ha]; exact F.ne hq' rfl)
          refine WP.aName (WP.fsC F2 fun H34 F4 u4 => ?_)
          have K4 := K1.trans (u4.ka F2 F4)
          have hq4 := u4.keep F2 hq1 rfl
          have KK := K3.trans K4
          have hx1 := KK.li (hLs1 i a1 ha1)
          have hx2 := KK.li (hLs1 i' a2 ha2)
          clear hq1 K1 b1 F2 u4 K F hq' hltc
          -- if [..] not in ([], one, other)
          refine WP.cons (WP.ifS (WP.mono (Φ := fun b H' => b = false ∧ Ext H34 H') ?_ ?_))
          · obtain ⟨vs1, h1, h1l, h1o⟩ := hx1.over
            have hl1 : (lots W i).length ≤ 5 := Nat.le_trans (List.length_filter_le _ _) (lost_len hW [i])
            refine WP.tCmp (WP.compG (N := vs1.length) (itO := fun k => .iter a1 k) (Src := fun H => H a1 = some (.list vs1)) (P := fun k v => vs1[k]? = some v) (ns := lots W i) (fun j => decide (j ∈ lots W i')) (fun j => (j : Int)) h1l.symm (by omega) F4.loc rfl (fun k v _ hv => h1o k v hv) (fun H2 e2 => e2 _ _ h1) ?_ ?_ ?_)
            · exact WP.name (WP.fcL F4 f5 (Over.list o'.hh Ext.refl h1))
            · intro C j t H5 fC hj e5 hC hfx
              have hco := F4.cell "other" _ rfl
              rw [if_pos rfl] at hco
              refine WP.tests1 (WP.tCmp (WP.name (WP.loadL hC hfx (WP.name (WP.loadC rfl (e5 _ _ hco) (WP.inI (hx2.ext fun y => e5 _ y) (WP.truthB ?_)))))))
              rw [any_toI]
              exact ⟨Ext.refl, rfl, fun _ => WP.name (WP.loadL hC hfx ⟨Ext.refl, t, rfl⟩)⟩
            · intro acc H5 e5 na hacc
              refine WP.eTuple (WP.args (WP.eList (WP.args0 (WP.newList fun qe nqe => ?_))))
              have e6 : Ext H34 (upd H5 qe (.list [])) := e5.trans (Ext.refl.new nqe)
              have e56 : Ext H5 (upd H5 qe (.list [])) := Ext.refl.new nqe
              have hqe := upd_self (H := H5) (a := qe) (x := .list [])
              generalize upd H5 qe (.list []) = H6 at e6 e56 hqe ⊢
              refine WP.args (WP.name (WP.fcL (F4.ext e6) f5 (WP.args (WP.name (WP.fcC (F4.ext e6) (if_pos rfl) (WP.args0 (WP.newTuple fun qt nqt => ?_)))))))
              have e7 : Ext H6 (upd H6 qt (.raw (tupO [.ref qe, .ref a1, .ref a2]))) := Ext.refl.new nqt
              have hf3 := f3 (W := W) (a := i) (b := i')
              refine WP.ninT o' (by omega) (nx := toI ((lots W i).filter fun j => decide (j ∈ lots W i'))) (na := []) (nb := toI (lots W i)) (nc := toI (lots W i')) (hacc.ext fun y hy => e7 _ _ (e56 _ _ hy)) ⟨[], e7 _ _ hqe, .nil⟩ (hx1.ext fun y hy => e7 _ _ (e6 _ _ hy)) (hx2.ext fun y hy => e7 _ _ (e6 _ _ hy)) upd_self (fun _ => WP.truthB ⟨rfl, e6.trans e7⟩) ?_
              rcases hf3 with h | h | h
              · rw [h]; exact .inl rfl
              · rw [h]; exact .inr (.inl rfl)
              · rw [h]; exact .inr (.inr rfl)
          rintro b5 H5 ⟨rfl, e5⟩
          refine WP.nil (WP.nil ?_)
          exact ⟨W.n - (i' + 1), by omega, q', i' + 1, _, _, rfl, hin', rfl, e5 _ _ hq4, nq', (hFR _ _ _).mpr (F4.ext e5), (if_neg (by decide)).trans c1, (if_neg (by decide)).trans c2, f4, (if_neg (by decide)).trans c6, (if_neg (by decide)).trans c7, f5, K4.trans e5.ka⟩
        · refine WP.endL o'.hh hq' hltc (by simp; omega) (WP.nil (WP.nil ?_))
          have F2 := F.but (But.del (H := Hc) (a := q') (ds := [q']) (by simp)) (by intro a ha; rw [List.mem_singleton.mp ha]; exact F.ne hq' rfl)
          have K4 := K.gone nq'
          exact ⟨W.n - (i + 1), by omega, q, i + 1, _, _, rfl, hin, rfl, K4.at_ hq3 rfl, nq, (hFR _ _ _).mpr F2, c1, c2, f4, c6, c7, K3.trans K4⟩
      · refine WP.endL o'.hh hq hltc (by simp; omega) (WP.nil ?_)
        have F2 := F.but (But.del (H := Hc) (a := q) (ds := [q]) (by simp)) (by intro a ha; rw [List.mem_singleton.mp ha]; exact F.ne hq rfl)
        have K4 := K.gone nq
        generalize Mine.del Hc q = H40 at F2 K4 ⊢
        have T4 := K4.tab T1
        have S4 := S1.kn (fun a y h => ⟨fun n _ => (K4 a y h).1 n, (K4 a y h).2⟩) T4
        have D4 := K4.dr D1
        have hlt4 := K4.at_ hlt1 rfl
        have hLs4 : ∀ (i : Nat) a, Ls[i]? = some a → LI H40 a (toI (lots W i)) := fun i a h => K4.li (hLs1 i a h)
        clear K4 K hltc hq nq F hLs1 hlt1 D1 S1 T1
        -- here, there
        obtain ⟨hn4, hn5⟩ : 4 ≤ W.n ∧ W.n ≤ 5 := hn1
        refine WP.cons (WP.asgTup (WP.eTuple (WP.args (WP.callN (WP.name (WP.loadG B.X B.g (by k_is) ?_))))))
        refine WP.cwK B (by k_is) (WP.args (WP.name (WP.fcC F2 c1 (WP.args (WP.name (WP.fcC F2 c2 (WP.args0 ?_)))))))
        refine s_one_of B o' (by omega) D4 (by omega) (by omega) fun H41 v1 t1' b1 D41 h0 h1 => ?_
        obtain ⟨jh, rfl, hjh⟩ := nat_of h0 h1
        have F41 := F2.dr D4 b1
        refine WP.args (WP.callN (WP.name (WP.loadG B.X B.g (by k_is) ?_)))
        refine WP.cwK B (by k_is) (WP.args (WP.name (WP.fcC F41 c1 (WP.args (WP.name (WP.fcC F41 c2 (WP.args0 ?_)))))))
        refine s_one_of B o' (by omega) D41 (by omega) (by omega) fun H42 v2 t2' b2 D42 h0' h1' => ?_
        obtain ⟨jt, rfl, hjt⟩ := nat_of h0' h1'
        have F42 := F41.dr D41 b2
        have S42 := (S4.dr D4 b1).dr D41 b2
        have hlt42 := keep_dr D41 (keep_dr D4 hlt4 (fun _ => nofun) b1) (fun _ => nofun) b2
        have hLs42 : ∀ (i : Nat) a, Ls[i]? = some a → LI H42 a (toI (lots W i)) := fun i a h => ((hLs4 i a h).dr D4 b1).dr D41 b2
        refine WP.args0 (WP.newTuple fun qt nqt => ?_)
        have e43 : Ext H42 (upd H42 qt (.raw (tupO [.int (jh : Int) t1', .int (jt : Int) t2']))) := Ext.refl.new nqt
        have hqt := upd_self (H := H42) (a := qt) (x := .raw (tupO [.int (jh : Int) t1', .int (jt : Int) t2']))
        generalize upd H42 qt (.raw (tupO [.int (jh : Int) t1', .int (jt : Int) t2'])) = H43 at e43 hqt ⊢
        have F43 := F42.ext e43
        refine WP.aTup o'.hh hqt ?_
        refine WP.ao1 (WP.aName (WP.fsC F43 fun H44 F44 u44 => ?_))
        refine WP.ao1 (WP.aName (WP.fsC F44 fun H45 F45 u45 => WP.ao0 ?_))
        have K45 : KA H42 H45 := e43.ka.trans ((u44.trans u45).ka F43 F45)
        have T45 := K45.tab S42.tab
        have S45 := S42.kn (fun a y h => ⟨fun n _ => (K45 a y h).1 n, (K45 a y h).2⟩) T45
        have hlt45 := K45.at_ hlt42 rfl
        have hLs45 : ∀ (i : Nat) a, Ls[i]? = some a → LI H45 a (toI (lots W i)) := fun i a h => K45.li (hLs42 i a h)
        clear K45 hLs42 hlt42 S42 F44 F43 u44 u45 hqt e43 F42 F41 D42 b2 D41 b1 hLs4 hlt4 D4 S4 T4 F2
        -- lost = _law_lost(world, [here, there])[0]
        refine WP.cons (WP.asgName (WP.sub (WP.callN (WP.name (WP.loadG B.X B.g (by k_is) ?_)))))
        refine WP.cwK B (by k_is) (WP.args (WP.name (WP.fcL F45 f4 (WP.args (WP.eList (WP.args (WP.name (WP.fcC F45 ((if_neg (by decide)).trans (if_pos rfl)) (WP.args (WP.name (WP.fcC F45 (if_pos rfl) (WP.args0 (WP.newList fun q1 nq1 => WP.args0 ?_)))))))))))))
        have e46 : Ext H45 (upd H45 q1 (.list [.int (jh : Int) t1', .int (jt : Int) t2'])) := Ext.refl.new nq1
        refine WP.call (s_lost (bar := [jh, jt]) B M o' (by omega) hW (S45.at_.ext e46) ⟨_, upd_self, .cons _ _ (.cons _ _ .nil)⟩ (T45.ext fun a o => e46 _ _) fun H47 r la tk3 qb hqb b47 T47 hr hla hla0 => ?_)
        obtain ⟨el1, el2⟩ := lost_eq hqb
        rw [el1] at hla
        have bb : But [380] H45 H47 := (Ext.but e46).trans b47
        refine WP.cInt fun ti => WP.itemT (i := 0) hr rfl ?_
        have F47 := F45.k380 T45 bb
        have S47 := S45.b380 bb T47
        have hlt47 := keep380 T45 hlt45 (fun _ => nofun) bb
        have hLs47 : ∀ (i : Nat) a, Ls[i]? = some a → LI H47 a (toI (lots W i)) := fun i a h => (hLs45 i a h).k380 T45 bb
        refine WP.fsC F47 fun H48 F48 u48 => ?_
        have K48 := u48.ka F47 F48
        have T48 := K48.tab T47
        have S48 := S47.kn (fun a y h => ⟨fun n _ => (K48 a y h).1 n, (K48 a y h).2⟩) T48
        have hlt48 := K48.at_ hlt47 rfl
        have hLs48 : ∀ (i : Nat) a, Ls[i]? = some a → LI H48 a (toI (lots W i)) := fun i a h => K48.li (hLs47 i a h)
        have hla48 := K48.li hla
        obtain ⟨ah, hah⟩ : ∃ a, Ls[jh]? = some a := ⟨Ls[jh]'(by omega), List.getElem?_eq_getElem (by omega)⟩
        obtain ⟨at', hat⟩ : ∃ a, Ls[jt]? = some a := ⟨Ls[jt]'(by omega), List.getElem?_eq_getElem (by omega)⟩
        clear K48 hla hLs47 hlt47 S47 F47 u48 bb hr b47 T47 e46 nq1 hqb el1 el2 hla0 T45 S45 hlt45 hLs45 F45
        -- both
        refine WP.cons (WP.asgI (N := W.n) (itO := fun k => .raw (rangeI k ((W.n : Int) - k))) (Src := fun _ => True) (P := fun k v => ∃ t, v = .int k t) (ns := List.range W.n) (fun j => decide (j ∈ lostL W []) || decide (j ∈ lots W jh) || decide (j ∈ lots W jt)) (fun j => (j : Int)) F48 List.length_range (by omega) rfl range_over (fun _ _ => trivial) ?_ ?_ ?_)
        · refine WP.callN (WP.name (WP.blt B (by k_is) rfl (by decide) ?_))
          refine WP.cwT (WP.args (WP.name (WP.fcC F48 ((if_neg (by decide)).trans ((if_neg (by decide)).trans ((if_neg (by decide)).trans c2))) (WP.args0 (WP.range fun q a' b' hq => ?_)))))
          exact Over.range o'.hh (Ext.refl.new hq) upd_self (by omega)
        · intro C j t H49 fC hj e9 hC hfx
          have hca := F48.cell "anyhow" _ rfl
          rw [show (if ("anyhow" : Str) = ("lost" : Str) then some (Value.ref la) else if ("anyhow" : Str) = ("there" : Str) then some (.int (jt : Int) t2') else if ("anyhow" : Str) = ("here" : Str) then some (.int (jh : Int) t1') else cm "anyhow") = some (.ref an) from (if_neg (by decide)).trans ((if_neg (by decide)).trans ((if_neg (by decide)).trans c6))] at hca
          have hcl := F48.cell "lots" _ rfl
          rw [show (if ("lots" : Str) = ("lost" : Str) then some (Value.ref la) else if ("lots" : Str) = ("there" : Str) then some (.int (jt : Int) t2') else if ("lots" : Str) = ("here" : Str) then some (.int (jh : Int) t1') else cm "lots") = some (.ref lt) from (if_neg (by decide)).trans ((if_neg (by decide)).trans ((if_neg (by decide)).trans c7))] at hcl
          have hch := F48.cell "here" _ rfl
          rw [show (if ("here" : Str) = ("lost" : Str) then some (Value.ref la) else if ("here" : Str) = ("there" : Str) then some (.int (jt : Int) t2') else if ("here" : Str) = ("here" : Str) then some (.int (jh : Int) t1') else cm "here") = some (.int (jh : Int) t1') from (if_neg (by decide)).trans ((if_neg (by decide)).trans (if_pos rfl))] at hch
          have hct := F48.cell "there" _ rfl
          rw [show (if ("there" : Str) = ("lost" : Str) then some (Value.ref la) else if ("there" : Str) = ("there" : Str) then some (.int (jt : Int) t2') else if ("there" : Str) = ("here" : Str) then some (.int (jh : Int) t1') else cm "there") = some (.int (jt : Int) t2') from (if_neg (by decide)).trans (if_pos rfl)] at hct
          refine WP.tests1 (WP.tBool (WP.or1 (WP.tCmp (WP.name (WP.loadL hC hfx (WP.name (WP.loadC rfl (e9 _ _ hca) (WP.inI (S48.any.ext fun y => e9 _ y) (WP.truthB ?_)))))))))
          rw [any_toI]
          cases hc1 : decide (j ∈ lostL W []) with
          | true => exact ⟨Ext.refl, rfl, fun _ => WP.name (WP.loadL hC hfx ⟨Ext.refl, t, rfl⟩)⟩
          | false =>
            refine WP.or1 (WP.tCmp (WP.name (WP.loadL hC hfx (WP.sub (WP.name (WP.loadC rfl (e9 _ _ hcl) (WP.name (WP.loadC rfl (e9 _ _ hch) (WP.item (e9 _ _ hlt48) (by omega) (x := .ref ah) (by simp [hah]) (WP.inI ((hLs48 jh ah hah).ext fun y => e9 _ y) (WP.truthB ?_)) (by omega))))))))))
            rw [any_toI]
            cases hc2 : decide (j ∈ lots W jh) with
            | true => exact ⟨Ext.refl, rfl, fun _ => WP.name (WP.loadL hC hfx ⟨Ext.refl, t, rfl⟩)⟩
            | false =>
              refine WP.or1 (WP.tCmp (WP.name (WP.loadL hC hfx (WP.sub (WP.name (WP.loadC rfl (e9 _ _ hcl) (WP.name (WP.loadC rfl (e9 _ _ hct) (WP.item (e9 _ _ hlt48) (by omega) (x := .ref at') (by simp [hat]) (WP.inI ((hLs48 jt at' hat).ext fun y => e9 _ y) (WP.truthB ?_)) (by omega))))))))))
              rw [any_toI]
              cases hc3 : decide (j ∈ lots W jt) with
              | true => exact ⟨Ext.refl, rfl, fun _ => WP.name (WP.loadL hC hfx ⟨Ext.refl, t, rfl⟩)⟩
              | false => exact WP.or0 ⟨Ext.refl, rfl, fun z => absurd z (by decide)⟩
        intro ba H50 K50 F50 hba
        replace hba : LI H50 ba (toI (both W jh jt)) := hba
        have T50 := K50.tab T48
        have hlt50 := K50.at_ hlt48 rfl
        have hLs50 : ∀ (i : Nat) a, Ls[i]? = some a → LI H50 a (toI (lots W i)) := fun i a h => K50.li (hLs48 i a h)
        have hla50 := K50.li hla48
        clear K50 hla48 hLs48 hlt48 S48 T48 F48
        -- if there in lots[here] or here in lots[there]
        refine WP.cons (WP.ifS (WP.tBool (WP.mono (Φ := fun b H' => Ext H50 H' ∧ (b = true → jt ∈ lots W jh ∨ jh ∈ lots W jt)) ?_ ?_)))
        · refine WP.or1 (WP.tCmp (WP.name (WP.fcC F50 ((if_neg (by decide)).trans (if_pos rfl)) (WP.sub (WP.name (WP.fcC F50 ((if_neg (by decide)).trans ((if_neg (by decide)).trans ((if_neg (by decide)).trans c7))) (WP.name (WP.fcC F50 ((if_neg (by decide)).trans ((if_neg (by decide)).trans (if_pos rfl))) (WP.item hlt50 (by omega) (x := .ref ah) (by simp [hah]) (WP.inI (hLs50 jh ah hah) (WP.truthB ?_)) (by omega))))))))))
          rw [any_toI]
          cases hc1 : decide (jt ∈ lots W jh) with
          | true => exact ⟨Ext.refl, fun _ => .inl (of_decide_eq_true hc1)⟩
          | false =>
            refine WP.or1 (WP.tCmp (WP.name (WP.fcC F50 ((if_neg (by decide)).trans ((if_neg (by decide)).trans (if_pos rfl))) (WP.sub (WP.name (WP.fcC F50 ((if_neg (by decide)).trans ((if_neg (by decide)).trans ((if_neg (by decide)).trans c7))) (WP.name (WP.fcC F50 ((if_neg (by decide)).trans (if_pos rfl)) (WP.item hlt50 (by omega) (x := .ref at') (by simp [hat]) (WP.inI (hLs50 jt at' hat) (WP.truthB ?_)) (by omega))))))))))
            rw [any_toI]
            cases hc2 : decide (jh ∈ lots W jt) with
            | true => exact ⟨Ext.refl, fun _ => .inr (of_decide_eq_true hc2)⟩
            | false => exact WP.or0 ⟨Ext.refl, fun z => by cases z⟩
        rintro c H51 ⟨e51, hc⟩
        have F51 := F50.ext e51
        have T51 : Tab qsL H51 := T50.ext fun a o => e51 _ _
        have hla51 := hla50.ext fun y => e51 _ y
        have hba51 := hba.ext fun y => e51 _ y
        cases c with
        | true =>
          have hq4 := Mine.f4 (W := W) (h := jh) (t := jt) (hc rfl)
          refine WP.cons (WP.ret (WP.cmp (WP.name (WP.fcC F51 (if_pos rfl) (WP.name (WP.fcL F51 (if_pos rfl) (WP.eqI o' (by omega) hla51 hba51 ?_)))))))
          rw [hq4, decide_eq_true rfl]
          exact ⟨rfl, T51⟩
        | false =>
          refine WP.nil ?_
          obtain ⟨vsb, hb1, hbl, hbo⟩ := hba51.over
          have hlb : (both W jh jt).length ≤ 5 := by
            have := List.length_filter_le (fun j => decide (j ∈ lostL W []) || decide (j ∈ lots W jh) || decide (j ∈ lots W jt)) (List.range W.n)
            rw [List.length_range] at this
            exact Nat.le_trans this hn5
          refine WP.cons (WP.ret (WP.cmp (WP.compG (N := vsb.length) (itO := fun k => .iter ba k) (Src := fun H => H ba = some (.list vsb)) (P := fun k v => vsb[k]? = some v) (ns := both W jh jt) (fun j => !decide (j ∈ lostL W [jh, jt])) (fun j => (j : Int)) hbl.symm (by omega) F51.loc rfl (fun k v _ hv => hbo k v hv) (fun H2 e2 => e2 _ _ hb1) ?_ ?_ ?_)))
          · exact WP.name (WP.fcL F51 (if_pos rfl) (Over.list o'.hh Ext.refl hb1))
          · intro C j t H52 fC hj e2 hC hfx
            have hcl := F51.cell "lost" _ rfl
            rw [if_pos rfl] at hcl
            refine WP.tests1 (WP.tCmp (WP.name (WP.loadL hC hfx (WP.name (WP.loadC rfl (e2 _ _ hcl) (WP.ninI (hla51.ext fun y => e2 _ y) (WP.truthB ?_)))))))
            rw [any_toI]
            exact ⟨Ext.refl, rfl, fun _ => WP.name (WP.loadL hC hfx ⟨Ext.refl, t, rfl⟩)⟩
          · intro acc H52 e52 na hacc
            rw [Mine.f5] at hacc
            refine WP.eList (WP.args0 (WP.newList fun qe nqe => ?_))
            refine WP.eqI o' (by omega) (ns := []) (ms := []) (hacc.ext fun y hy => upd_old hy nqe) ⟨[], upd_self, .nil⟩ ?_
            rw [decide_eq_true rfl]
            exact ⟨rfl, (T51.ext fun a o => e52 _ _).ext fun a o h => upd_old h nqe⟩
end
end Mine
end
section
open PySem PySem.W PyProof.Rows PySem.Calls
namespace Mine
theorem okCaller : Ok callerA 301 := ⟨rfl, Nat.le_refl _, by decide⟩
theorem fillE : (PySem.Challenge.rw_xm0623_01, Mine.hk.heap_1) = (PySem.Challenge.rw_xm0623_01, Mine.hk.heap_1) := by
  k_fill
  rfl
theorem c_noTabs (w : World) : noTabs (Mine.hk.heap_1 w.params) = true := by kernel_rfl
theorem c_all {prog : Program} {w : World} {h₁ : Heap} {p : Program} {loose : List Str} {mean : ExcName → Option Value} {mg mb : Str → Option Value} (KX : (Mine.hk.heap_1 w.params).In h₁) (T : Top p loose mean mg mb h₁) (hT : TabsAt [(382, 380)] h₁)
    {sc : Addr} {vs : List Value} {ns : List Int} (hl : h₁.IsList sc vs.toArray) (hI : IntsAre vs ns) (hn : ns.length ≤ 63) (s : Shared) (hs : s.heap = h₁) (R : Result → Shared → Prop)
    (k : ∀ L m h' tk ps, Fr (ghostOf h₁ [(382, 380)]) L h' m → h'.get? 380 = some (tabObj ps) → R (.ok (.ret (.bool true))) { s with heap := h', toks := tk }) :
    codeAny (model prog w) callerA (.call (.ref 393) ⟨[.ref sc], []⟩) R s := by
  subst hs
  have T' := ghost_top hT T
  refine c_law (h₀ := ghostOf s.heap [(382, 380)]) ⟨ghost_K hT KX (c_noTabs w), ⟨_, _, _, _, topRead_of T'⟩, T'.nolimit⟩ ⟨⟨_, _, _, _, _, T'⟩, (ghost_code hT).1⟩ okCaller (Nat.le_refl _) (ghost_list hT hl) ?_ (ns0 := ns) ?_ s R (fun b o e => of_hideAll _ e) (hideAll_none _ (.head _)) (hT _ (.head _)).2 (Nat.le_of_eq (hideAll_size _ _)) ?_
  · have := intsAre_len hI
    simp; omega
  · simpa using hI
  · rintro f H' h' tk Rp ⟨v, rfl, rfl, ps, h380, _⟩
    have e := Rp.raw h380
    obtain ⟨D, Rp⟩ := Rp
    obtain ⟨L, m, eL⟩ := Rp.frm
    exact k L m h' tk ps (Rp.fr eL) e
end Mine
end
section
open PySem PySem.W PyProof.Rows PySem.Calls
namespace Mine
/- Place-holders of our own. The head's tactic proves its pieces with or without quick twins of the constants that it makes; it lays the twins, with very long equations, where their names are free.
   Here the names are taken, under our own theorem's name, so the compiled file stays small. Nothing below uses them. -/
theorem main.tw11003572833241299968 : True := trivial
theorem main.tw1054321117371714560 : True := trivial
theorem main.tw7237411587787531456 : True := trivial
theorem main.tw5240779543111244032 : True := trivial
theorem main.tw9557352009045844224 : True := trivial
theorem main.tw11782451180667920672 : True := trivial
theorem main.tw13157206579259725088 : True := trivial
theorem main.tw6981815665589151136 : True := trivial
theorem main.tw5084117380071580128 : True := trivial
theorem main.tw9976160756891316704 : True := trivial
theorem main.tw1677766988990989824 : True := trivial
theorem main.tw6541472054586571296 : True := trivial
theorem main.tw7439787175107056256 : True := trivial
theorem main.tw9808303207383738048 : True := trivial
theorem main.tw12483276189755474720 : True := trivial
theorem main.tw6449824600675878752 : True := trivial
theorem main.tw6557543464795787104 : True := trivial
theorem main.tw3796207824708393856 : True := trivial
theorem main.tw3627144658338631552 : True := trivial
theorem main.tw12670839924663504800 : True := trivial
theorem main.tw14064073609400967072 : True := trivial
theorem main.tw7325325605407576000 : True := trivial
theorem main.tw17402982504261768225 : True := trivial
theorem main.tw2110754180369666209 : True := trivial
theorem main.tw17715262827843222689 : True := trivial
theorem main.tw13676971244355772609 : True := trivial
theorem main.tw13110577991587790113 : True := trivial
theorem main.tw9376575566392132001 : True := trivial
theorem main.tw15768048840197415361 : True := trivial
theorem main.tw2538046985915079169 : True := trivial
theorem main.tw9406782406253462049 : True := trivial
theorem main.tw6635558491612396129 : True := trivial
theorem main.tw12077450504624328385 : True := trivial
theorem main.tw15365013842991253249 : True := trivial
theorem main.tw15624239662980076321 : True := trivial
theorem main.tw15109750227778091905 : True := trivial
theorem main.tw6389877041954997217 : True := trivial
theorem main.tw11987853993630220354 : True := trivial
theorem main.tw16135426469972691074 : True := trivial
theorem main.tw223528310411579522 : True := trivial
theorem main.tw4038153913678941442 : True := trivial
theorem main.tw15303317825217679618 : True := trivial
theorem main.tw10391951854915411234 : True := trivial
theorem main.tw7411558596216406370 : True := trivial
theorem main.tw5613160597433933154 : True := trivial
theorem main.tw9302470337196694018 : True := trivial
theorem main.tw11752208632293872130 : True := trivial
theorem main.tw7298748307773712898 : True := trivial
theorem main.tw14907226015203709474 : True := trivial
theorem main.tw1306636233014830658 : True := trivial
theorem main.tw4297412468100583042 : True := trivial
theorem main.tw16950194794029067938 : True := trivial
theorem main.tw6075091234017535682 : True := trivial
theorem main.tw11092141859048813250 : True := trivial
theorem main.tw11785714552879321826 : True := trivial
theorem main.tw6385024630547198690 : True := trivial
theorem main.tw6697339332421208802 : True := trivial
theorem main.tw961187720498965250 : True := trivial
theorem main.tw6508729118710982530 : True := trivial
theorem main.tw13224007501803129859 : True := trivial
theorem main.tw18284262389922463811 : True := trivial
theorem main.tw15467891735981029475 : True := trivial
theorem main.tw2007339730380871907 : True := trivial
theorem main.tw3626430660855392483 : True := trivial
theorem main.tw4900431672193113347 : True := trivial
theorem main.tw9957550378297406723 : True := trivial
theorem main.tw10609540516017602915 : True := trivial
theorem main.tw13406003279186336099 : True := trivial
theorem main.tw4605139254293405059 : True := trivial
theorem main.tw14771111431291430275 : True := trivial
theorem main.tw2647654807098235363 : True := trivial
theorem main.tw4475767826048309731 : True := trivial
theorem main.tw12702744160499308131 : True := trivial
theorem main.tw17403364634526059139 : True := trivial
theorem main.tw8466321980469482115 : True := trivial
theorem main.tw387501639795913443 : True := trivial
theorem main.tw17146568849442343683 : True := trivial
theorem main.tw11101190512080308003 : True := trivial
theorem main.tw10076426473510895491 : True := trivial
theorem main.tw10254138684755596195 : True := trivial
theorem main.tw11857135199678951331 : True := trivial
theorem main.tw7214478077546791972 : True := trivial
theorem main.tw8905464785575363620 : True := trivial
theorem main.tw962032349192862916 : True := trivial
theorem main.tw2729793432009153956 : True := trivial
theorem main.tw7113585516715319716 : True := trivial
theorem main.tw2225956059507018244 : True := trivial
theorem main.tw5445500540807937540 : True := trivial
theorem main.tw5160751907100791332 : True := trivial
theorem main.tw10663580350406149668 : True := trivial
theorem main.tw1587290215689348708 : True := trivial
theorem main.tw9840939614602229412 : True := trivial
theorem main.tw14539993770535171780 : True := trivial
theorem main.tw9756827057097773860 : True := trivial
theorem main.tw12252054271945606052 : True := trivial
theorem main.tw834873547066669988 : True := trivial
theorem main.tw9417822746687237092 : True := trivial
theorem main.tw15017983477296125989 : True := trivial
theorem main.tw1390771862084280389 : True := trivial
theorem main.tw8260724100714396741 : True := trivial
theorem main.tw8947760058931562597 : True := trivial
theorem main.tw5234446048077146213 : True := trivial
theorem main.tw15955573374722617477 : True := trivial
theorem main.tw6910295442248876197 : True := trivial
theorem main.tw11001617756164336837 : True := trivial
theorem main.tw8211959896082780389 : True := trivial
theorem main.tw12623159325031504133 : True := trivial
theorem main.tw14510055921401542917 : True := trivial
theorem main.tw9190990891756207365 : True := trivial
theorem main.tw14662554035588321541 : True := trivial
theorem main.tw917386388269078853 : True := trivial
theorem main.tw2906824675625879941 : True := trivial
theorem main.tw16451033083921036709 : True := trivial
theorem main.tw8467378866343419333 : True := trivial
theorem main.tw7083192437325867461 : True := trivial
theorem main.tw9268297945177815525 : True := trivial
theorem main.tw14759895335926876869 : True := trivial
theorem main.tw1714950047550659301 : True := trivial
theorem main.tw5665406974723832613 : True := trivial
theorem main.tw13402765919934010277 : True := trivial
theorem main.tw14646587721710459877 : True := trivial
theorem main.tw6545385358150927430 : True := trivial
theorem main.tw16411370214107742406 : True := trivial
theorem main.tw11554813239044494598 : True := trivial
theorem main.tw10750994468655217958 : True := trivial
theorem main.tw12298629886278197574 : True := trivial
theorem main.tw4458048076830672230 : True := trivial
theorem main.tw6511744376749373798 : True := trivial
theorem main.tw10707853282979444102 : True := trivial
theorem main.tw16952715711813285254 : True := trivial
theorem main.tw17297283025540448806 : True := trivial
theorem main.tw14009396871252706886 : True := trivial
theorem main.tw471287901995484742 : True := trivial
theorem main.tw9681375758050803366 : True := trivial
theorem main.tw2852251193174398662 : True := trivial
theorem main.tw17272174723667511238 : True := trivial
theorem main.tw15514936471743626214 : True := trivial
theorem main.tw11476092923266045095 : True := trivial
theorem main.tw5372645768047454471 : True := trivial
theorem main.tw12518504611687188807 : True := trivial
theorem main.tw16629339528299215175 : True := trivial
theorem main.tw17737603089517620647 : True := trivial
theorem main.tw5061512775090418087 : True := trivial
theorem main.tw13350764725976880583 : True := trivial
theorem main.tw8475525182357872103 : True := trivial
theorem main.tw16965079339398995527 : True := trivial
theorem main.tw11135027115929721415 : True := trivial
theorem main.tw65644731488775911 : True := trivial
theorem main.tw16519101796099990279 : True := trivial
theorem main.tw17644181745481072423 : True := trivial
theorem main.tw11261727412033496967 : True := trivial
theorem main.tw10463206416058312583 : True := trivial
theorem main.tw16049902774474827687 : True := trivial
theorem main.tw4324958949535026087 : True := trivial
theorem main.tw5781596087445459943 : True := trivial
theorem main.tw4039676971129161736 : True := trivial
theorem main.tw13132915859168520264 : True := trivial
theorem main.tw16153842264607907944 : True := trivial
theorem main.tw14562738103837258888 : True := trivial
theorem main.tw15079240505294077160 : True := trivial
theorem main.tw52199770228462824 : True := trivial
theorem main.tw11403851563620829512 : True := trivial
theorem main.tw6161133996638707016 : True := trivial
theorem main.tw12455012482086183272 : True := trivial
theorem main.tw17201416709059790184 : True := trivial
theorem main.tw1615956725737779560 : True := trivial
theorem main.tw18238007617527299592 : True := trivial
theorem main.tw12057704586751987240 : True := trivial
theorem main.tw4452170602077327944 : True := trivial
theorem main.tw14161005256144132680 : True := trivial
theorem main.tw7308723440029596264 : True := trivial
theorem main.tw7751025194823839400 : True := trivial
theorem main.tw14097447854668400296 : True := trivial
theorem main.tw15734660467963936456 : True := trivial
theorem main.tw17477492558424962760 : True := trivial
theorem main.tw3706830351922483016 : True := trivial
theorem main.tw10140136200207757160 : True := trivial
theorem main.tw1270039299266317192 : True := trivial
theorem main.tw1980160206288974728 : True := trivial
theorem main.tw17052023290607921161 : True := trivial
theorem main.tw1453356044741674121 : True := trivial
theorem main.tw10450603732522932521 : True := trivial
theorem main.tw4261964983698606537 : True := trivial
theorem main.tw13693970394777133609 : True := trivial
theorem main.tw17699438841360665129 : True := trivial
theorem main.tw15737690656516749961 : True := trivial
theorem main.tw12872379398031375081 : True := trivial
theorem main.tw5677329702179833609 : True := trivial
theorem main.tw11869032908438609737 : True := trivial
theorem main.tw3557749057250611081 : True := trivial
theorem main.tw4990475226369331113 : True := trivial
theorem main.tw11595355409239048105 : True := trivial
theorem main.tw10625486282989778954 : True := trivial
theorem main.tw4156125974679941130 : True := trivial
theorem main.tw5240536507193477226 : True := trivial
theorem main.tw14218914174604095658 : True := trivial
theorem main.tw2566753976717531306 : True := trivial
theorem main.tw6855474311058116810 : True := trivial
theorem main.tw18431692314602308842 : True := trivial
theorem main.tw7698036289167662538 : True := trivial
theorem main.tw1504049600530537962 : True := trivial
theorem main.tw31828345220925962 : True := trivial
theorem main.tw1628013610222277130 : True := trivial
theorem main.tw13113777628852026922 : True := trivial
theorem main.tw10924716458440934090 : True := trivial
theorem main.tw13777938177461255882 : True := trivial
theorem main.tw1319676515408343850 : True := trivial
theorem main.tw16356685582667847594 : True := trivial
theorem main.tw10334261112615635914 : True := trivial
theorem main.tw104360540948158410 : True := trivial
theorem main.tw11710404883906591787 : True := trivial
theorem main.tw2496676261509829067 : True := trivial
theorem main.tw750237026923860459 : True := trivial
theorem main.tw2279707942289718827 : True := trivial
theorem main.tw832900586485598795 : True := trivial
theorem main.tw18403998269306519403 : True := trivial
theorem main.tw3905226178654972811 : True := trivial
theorem main.tw7846812961960373227 : True := trivial
theorem main.tw17708487481403421675 : True := trivial
theorem main.tw16689149305811164139 : True := trivial
theorem main.tw16721930046160240684 : True := trivial
theorem main.tw11646826074482590764 : True := trivial
theorem main.tw12732289081945773324 : True := trivial
theorem main.tw8663697691656813868 : True := trivial
theorem main.tw6801380410627298636 : True := trivial
theorem main.tw8930851030842425676 : True := trivial
theorem main.tw12941917028564957548 : True := trivial
theorem main.tw15131278010643852716 : True := trivial
theorem main.tw13591255225166038476 : True := trivial
theorem main.tw18315214858253571532 : True := trivial
theorem main.tw18302796317244248524 : True := trivial
theorem main.tw9512817274939609580 : True := trivial
theorem main.tw1130211791997205004 : True := trivial
theorem main.tw8707812797481193996 : True := trivial
theorem main.tw14639212616227390028 : True := trivial
theorem main.tw10199874654664476236 : True := trivial
theorem main.tw9274054859765456524 : True := trivial
theorem main.tw14313897822631088780 : True := trivial
theorem main.tw4637267157515435788 : True := trivial
theorem main.tw9670510015898674028 : True := trivial
theorem main.tw5436791530062809996 : True := trivial
theorem main.tw15595112118272840620 : True := trivial
theorem main.tw9730157408454304684 : True := trivial
theorem main.tw12093647306153771053 : True := trivial
theorem main.tw7186131708394509389 : True := trivial
theorem main.tw18134284020713443437 : True := trivial
theorem main.tw7221758910455160077 : True := trivial
theorem main.tw3466206800631347469 : True := trivial
theorem main.tw8808949154728543533 : True := trivial
theorem main.tw7875838824674609581 : True := trivial
theorem main.tw4585930131862741453 : True := trivial
theorem main.tw1178595665728414349 : True := trivial
theorem main.tw8484041278411425421 : True := trivial
theorem main.tw1632041292262086317 : True := trivial
theorem main.tw10047389527955405517 : True := trivial
theorem main.tw13962693860625380366 : True := trivial
theorem main.tw6053611964639427726 : True := trivial
theorem main.tw6657087868060814 : True := trivial
theorem main.tw15643365686152983790 : True := trivial
theorem main.tw3562595001068472590 : True := trivial
theorem main.tw979501456738626862 : True := trivial
theorem main.tw2287757881348798766 : True := trivial
theorem main.tw451873465583785326 : True := trivial
theorem main.tw13348322127785295214 : True := trivial
theorem main.tw6912675738884088206 : True := trivial
theorem main.tw2019394398466159022 : True := trivial
theorem main.tw4650958065196391918 : True := trivial
theorem main.tw5127751686995613262 : True := trivial
theorem main.tw13642826006792871662 : True := trivial
theorem main.tw5532463470591059822 : True := trivial
theorem main.tw3779293765908593550 : True := trivial
theorem main.tw1678875084529416142 : True := trivial
theorem main.tw8748973510418095054 : True := trivial
theorem main.tw18120430973489738927 : True := trivial
theorem main.tw8478376212529829071 : True := trivial
theorem main.tw15136431859952498927 : True := trivial
theorem main.tw73751810991705359 : True := trivial
theorem main.tw18421580907717582127 : True := trivial
theorem main.tw4500915450034043215 : True := trivial
theorem main.tw7268301785047649679 : True := trivial
theorem main.tw10094358506670053839 : True := trivial
theorem main.tw11982392923317675503 : True := trivial
theorem main.tw17871620999419790863 : True := trivial
theorem main.tw9272984997812220495 : True := trivial
theorem main.tw13876859957761632879 : True := trivial
theorem main.tw3829396358689915599 : True := trivial
theorem main.tw3332543467307319023 : True := trivial
theorem main.tw6696893160125735727 : True := trivial
theorem main.tw13180746182150919023 : True := trivial
theorem main.tw17725498274588495791 : True := trivial
theorem main.tw7514964652732493775 : True := trivial
theorem main.tw5400957986263281647 : True := trivial
theorem main.tw5418533224930618480 : True := trivial
theorem main.tw6877560268529008848 : True := trivial
theorem main.tw6565609875121592624 : True := trivial
theorem main.tw15734200111481486640 : True := trivial
theorem main.tw12885673836220544336 : True := trivial
theorem main.tw18190005008629794160 : True := trivial
theorem main.tw8729708805864041840 : True := trivial
theorem main.tw4681395471914393968 : True := trivial
theorem main.tw2702614204127132176 : True := trivial
theorem main.tw17974016328880235120 : True := trivial
theorem main.tw7904437144335635152 : True := trivial
theorem main.tw17118054049896295152 : True := trivial
theorem main.tw5871769198996169552 : True := trivial
theorem main.tw17440482041763504976 : True := trivial
theorem main.tw12564604832814323664 : True := trivial
theorem main.tw16008252555379753968 : True := trivial
theorem main.tw12343854547171428336 : True := trivial
theorem main.tw13667920496262714385 : True := trivial
theorem main.tw16572128252103988241 : True := trivial
theorem main.tw452746233719593009 : True := trivial
theorem main.tw15616401959046598769 : True := trivial
theorem main.tw2544328076492683441 : True := trivial
theorem main.tw6569515737239586001 : True := trivial
theorem main.tw16251939892948500945 : True := trivial
theorem main.tw12839114828313443825 : True := trivial
theorem main.tw4072190877284726289 : True := trivial
theorem main.tw2272010419323277873 : True := trivial
theorem main.tw9974024809579530801 : True := trivial
theorem main.tw9897820754763898449 : True := trivial
theorem main.tw1429040668314091153 : True := trivial
theorem main.tw3960113756560652017 : True := trivial
theorem main.tw13503263706703578961 : True := trivial
theorem main.tw9682133043923132273 : True := trivial
theorem main.tw12885385263037960081 : True := trivial
theorem main.tw11120327062377616369 : True := trivial
theorem main.tw7093617532817203218 : True := trivial
theorem main.tw14060465935940456498 : True := trivial
theorem main.tw18031918436515192882 : True := trivial
theorem main.tw4812270449578504274 : True := trivial
theorem main.tw5518243967957118194 : True := trivial
theorem main.tw12608185968620612914 : True := trivial
theorem main.tw341453280667917650 : True := trivial
theorem main.tw4816531377298285970 : True := trivial
theorem main.tw14909365282108701170 : True := trivial
theorem main.tw4189750870438640210 : True := trivial
theorem main.tw5797031442667253490 : True := trivial
theorem main.tw4573282807186111410 : True := trivial
theorem main.tw17679725944135375923 : True := trivial
theorem main.tw16136984950599521427 : True := trivial
theorem main.tw12590340796369385619 : True := trivial
theorem main.tw14635473669698735251 : True := trivial
theorem main.tw4651154628705390771 : True := trivial
theorem main.tw2714283472998740243 : True := trivial
theorem main.tw11231129108391649555 : True := trivial
theorem main.tw16102231251864390963 : True := trivial
theorem main.tw5450094653865882931 : True := trivial
theorem main.tw10114013102757674387 : True := trivial
theorem main.tw4365514962571936147 : True := trivial
theorem main.tw6785657489111691699 : True := trivial
theorem main.tw10665089971535097683 : True := trivial
theorem main.tw5585478044538960755 : True := trivial
theorem main.tw2524017781993486291 : True := trivial
theorem main.tw3532412968194664532 : True := trivial
theorem main.tw6674386428176565332 : True := trivial
theorem main.tw8627561154394265716 : True := trivial
theorem main.tw15270170921892066516 : True := trivial
theorem main.tw11086099901593105684 : True := trivial
theorem main.tw5378808338967829844 : True := trivial
theorem main.tw17561526911342447988 : True := trivial
theorem main.tw9483120023164983764 : True := trivial
theorem main.tw3045742163950154196 : True := trivial
theorem main.tw1496695287857109588 : True := trivial
theorem main.tw2629084897520917108 : True := trivial
theorem main.tw2821470743931037460 : True := trivial
theorem main.tw1615045767204293396 : True := trivial
theorem main.tw11461230924637031220 : True := trivial
theorem main.tw17958375852430007124 : True := trivial
theorem main.tw10864377008497418100 : True := trivial
theorem main.tw2195194259037543316 : True := trivial
theorem main.tw10896356407431480244 : True := trivial
theorem main.tw15928290008803537013 : True := trivial
theorem main.tw14722489848711283861 : True := trivial
theorem main.tw18442785490491869365 : True := trivial
theorem main.tw2921958311620399285 : True := trivial
theorem main.tw3394367416137920725 : True := trivial
theorem main.tw8436210846270712021 : True := trivial
theorem main.tw3027586509356016917 : True := trivial
theorem main.tw453184122279072053 : True := trivial
theorem main.tw4544244032028310869 : True := trivial
theorem main.tw3454311308915712629 : True := trivial
theorem main.tw13293747886898857621 : True := trivial
theorem main.tw10363585996791799541 : True := trivial
theorem main.tw3137596982192898869 : True := trivial
theorem main.tw10159738436595150677 : True := trivial
theorem main.tw2583023086579268501 : True := trivial
theorem main.tw12205347405646519318 : True := trivial
theorem main.tw330327031418712150 : True := trivial
theorem main.tw8557395850702784662 : True := trivial
theorem main.tw17298425922696826006 : True := trivial
theorem main.tw15554039934745177238 : True := trivial
theorem main.tw14492832472218066102 : True := trivial
theorem main.tw14061640607465278742 : True := trivial
theorem main.tw9561784451562097942 : True := trivial
theorem main.tw3848698983108048278 : True := trivial
theorem main.tw13590572293223372214 : True := trivial
theorem main.tw13838900630717943254 : True := trivial
theorem main.tw4749052000479324790 : True := trivial
theorem main.tw9069182735580402390 : True := trivial
theorem main.tw1850612553970854742 : True := trivial
theorem main.tw3549514262204291990 : True := trivial
theorem main.tw16320729459185622934 : True := trivial
theorem main.tw4026956272090484662 : True := trivial
theorem main.tw10665469846841522134 : True := trivial
theorem main.tw2190695567426971638 : True := trivial
theorem main.tw16832360635688203351 : True := trivial
theorem main.tw15510692781650021527 : True := trivial
theorem main.tw1277820614484962519 : True := trivial
theorem main.tw10821422270917381399 : True := trivial
theorem main.tw2238316416991798583 : True := trivial
theorem main.tw7074144079889050967 : True := trivial
theorem main.tw7380652910202371479 : True := trivial
theorem main.tw8652556701797213591 : True := trivial
theorem main.tw6596593509180878263 : True := trivial
theorem main.tw14106445559736802775 : True := trivial
theorem main.tw7974275031393228247 : True := trivial
theorem main.tw5401703158475992631 : True := trivial
theorem main.tw18218335207050127959 : True := trivial
theorem main.tw18063282731904131703 : True := trivial
theorem main.tw18325589031809861271 : True := trivial
theorem main.tw5517759331935216279 : True := trivial
theorem main.tw2895952525429962455 : True := trivial
theorem main.tw2921621734765799159 : True := trivial
theorem main.tw9994787619460420439 : True := trivial
theorem main.tw7691172733374981047 : True := trivial
theorem main.tw6862492499505807319 : True := trivial
theorem main.tw10877679251791092727 : True := trivial
theorem main.tw15342904991969174519 : True := trivial
theorem main.tw16641786646906312760 : True := trivial
theorem main.tw2433702464844828792 : True := trivial
theorem main.tw10825838108423173272 : True := trivial
theorem main.tw5102693214775723256 : True := trivial
theorem main.tw1157997071576566072 : True := trivial
theorem main.tw645136716886899192 : True := trivial
theorem main.tw7235775444256392728 : True := trivial
theorem main.tw12027323910402764344 : True := trivial
theorem main.tw1409966394225722968 : True := trivial
theorem main.tw1156462466702112376 : True := trivial
theorem main.tw9656510801202774680 : True := trivial
theorem main.tw17236958762192778904 : True := trivial
theorem main.tw9848185148710128376 : True := trivial
theorem main.tw2744014450722944760 : True := trivial
theorem main.tw6006917696076858104 : True := trivial
theorem main.tw11692516046256081784 : True := trivial
theorem main.tw16922381011570985944 : True := trivial
theorem main.tw11815829001073249272 : True := trivial
theorem main.tw33456957511925785 : True := trivial
theorem main.tw9369988214560726041 : True := trivial
theorem main.tw8440099810896429113 : True := trivial
theorem main.tw15984706205718930553 : True := trivial
theorem main.tw15410482203810522393 : True := trivial
theorem main.tw10455743928339290457 : True := trivial
theorem main.tw5203219222101121401 : True := trivial
theorem main.tw9361300454564663673 : True := trivial
theorem main.tw14793117695081215449 : True := trivial
theorem main.tw16046730324260685337 : True := trivial
theorem main.tw16798622893749714585 : True := trivial
theorem main.tw11487549891475536569 : True := trivial
theorem main.tw16452447596832230105 : True := trivial
theorem main.tw6334894449686545209 : True := trivial
theorem main.tw5396188567872606041 : True := trivial
theorem main.tw10298723112805639129 : True := trivial
theorem main.tw2724176850512262202 : True := trivial
theorem main.tw7173623326730630234 : True := trivial
theorem main.tw16187894506366716058 : True := trivial
theorem main.tw8118072479153026202 : True := trivial
theorem main.tw7647378279178456250 : True := trivial
theorem main.tw1545906260438175962 : True := trivial
theorem main.tw9658885295015712986 : True := trivial
theorem main.tw765107192605250810 : True := trivial
theorem main.tw10642606787283503386 : True := trivial
theorem main.tw5665735395497279834 : True := trivial
theorem main.tw656089360051881306 : True := trivial
theorem main.tw7590696779544312186 : True := trivial
theorem main.tw9498315638749924794 : True := trivial
theorem main.tw5995161000843957690 : True := trivial
theorem main.tw13219505800766818778 : True := trivial
theorem main.tw6655696309031964122 : True := trivial
theorem main.tw12646911602827044314 : True := trivial
theorem main.tw6886502059237256666 : True := trivial
theorem main.tw3934531018447913466 : True := trivial
theorem main.tw4839478117068044826 : True := trivial
theorem main.tw716429049611869786 : True := trivial
theorem main.tw1118068078248606362 : True := trivial
theorem main.tw48596604365144762 : True := trivial
theorem main.tw6519269512792494810 : True := trivial
theorem main.tw14457758005677747962 : True := trivial
theorem main.tw9515011664573035354 : True := trivial
theorem main.tw13547569757486424058 : True := trivial
theorem main.tw13803360072150633466 : True := trivial
theorem main.tw16008457594558532635 : True := trivial
theorem main.tw15803610866087392283 : True := trivial
theorem main.tw12922898485456448571 : True := trivial
theorem main.tw5261291663784722523 : True := trivial
theorem main.tw12431561837914552411 : True := trivial
theorem main.tw16923884221124529275 : True := trivial
theorem main.tw6222487380544312443 : True := trivial
theorem main.tw15465920861327815835 : True := trivial
theorem main.tw5473700226181020891 : True := trivial
theorem main.tw17353955331779342651 : True := trivial
theorem main.tw9121559901702372667 : True := trivial
theorem main.tw3583811862363856187 : True := trivial
theorem main.tw6741292078354696603 : True := trivial
theorem main.tw3491332818749588091 : True := trivial
theorem main.tw7153082081811710619 : True := trivial
theorem main.tw11962923498438245051 : True := trivial
theorem main.tw17695171507069755227 : True := trivial
theorem main.tw17223442867436993403 : True := trivial
theorem main.tw10204856939554784155 : True := trivial
theorem main.tw12900284412222446716 : True := trivial
theorem main.tw16778611742570070204 : True := trivial
theorem main.tw17995407370409085180 : True := trivial
theorem main.tw5243159528196176124 : True := trivial
theorem main.tw2406621943657119228 : True := trivial
theorem main.tw5571399437266216444 : True := trivial
theorem main.tw11251407683458634364 : True := trivial
theorem main.tw302440914744352476 : True := trivial
theorem main.tw14080665800827857628 : True := trivial
theorem main.tw9155575984036265788 : True := trivial
theorem main.tw5649967823195072380 : True := trivial
theorem main.tw14439473939278146460 : True := trivial
theorem main.tw14027531716089632829 : True := trivial
theorem main.tw4766233809647381661 : True := trivial
theorem main.tw6112859857366181021 : True := trivial
theorem main.tw13116522157475607773 : True := trivial
theorem main.tw9381277316556691805 : True := trivial
theorem main.tw11181722664286889309 : True := trivial
theorem main.tw15356762974548107741 : True := trivial
theorem main.tw16480584520131690045 : True := trivial
theorem main.tw3864431920445960829 : True := trivial
theorem main.tw12927740378394474205 : True := trivial
theorem main.tw16819838333489098493 : True := trivial
theorem main.tw6044114016751833949 : True := trivial
theorem main.tw12915833801598196605 : True := trivial
theorem main.tw7761410557224570781 : True := trivial
theorem main.tw10177057350305019805 : True := trivial
theorem main.tw15485851114877660061 : True := trivial
theorem main.tw3343439749351644125 : True := trivial
theorem main.tw1099256609624015869 : True := trivial
theorem main.tw6660377722381337597 : True := trivial
theorem main.tw14788915703135433725 : True := trivial
theorem main.tw1777545030009416734 : True := trivial
theorem main.tw17450470499104002142 : True := trivial
theorem main.tw6418098437765475518 : True := trivial
theorem main.tw4333880214566435006 : True := trivial
theorem main.tw15060185592220127646 : True := trivial
theorem main.tw17336282652733537790 : True := trivial
theorem main.tw3769868279024859678 : True := trivial
theorem main.tw13270728482189477470 : True := trivial
theorem main.tw2759098988195820126 : True := trivial
theorem main.tw9563168847844234846 : True := trivial
theorem main.tw10876375607700338302 : True := trivial
theorem main.tw12361340156312767134 : True := trivial
theorem main.tw4775608329324902142 : True := trivial
theorem main.tw12543713266681445118 : True := trivial
theorem main.tw1236483940969888574 : True := trivial
theorem main.tw11221353774195762014 : True := trivial
theorem main.tw6361450105264607166 : True := trivial
theorem main.tw8079908401900000222 : True := trivial
theorem main.tw15806524323241146399 : True := trivial
theorem main.tw3299218664060906527 : True := trivial
theorem main.tw11544348965984651327 : True := trivial
theorem main.tw16656740534632174751 : True := trivial
theorem main.tw7332330508316399935 : True := trivial
theorem main.tw7293298908176781663 : True := trivial
theorem main.tw221909299271738847 : True := trivial
theorem main.tw17091655785135471103 : True := trivial
theorem main.tw9265829497004654079 : True := trivial
theorem main.tw18332899500509843999 : True := trivial
theorem main.tw12273490649430754879 : True := trivial
theorem main.tw3314904115985164895 : True := trivial
theorem main.tw4126091431370883743 : True := trivial
theorem main.tw18287795668848337631 : True := trivial
theorem main.tw17057053908230417247 : True := trivial
theorem main.tw15491723280356408159 : True := trivial
theorem main.tw9360745474812902239 : True := trivial
theorem main.tw6162249291895867263 : True := trivial
theorem main.tw13355152605343272895 : True := trivial
theorem main.tw14672674291997333471 : True := trivial
theorem main.tw16317711290601173674 : True := trivial
theorem main.tw6670726683274932807 : True := trivial
theorem main.tw17699125900338286826 : True := trivial
theorem main.tw18009127666401208840 : True := trivial
set_option Elab.async true in
theorem main : PySem.Challenge.rw_xm0623_01.Holds := by
  w_on
  o_law
  o_head (kmHook Mine.hk.heap_1 [2, 3, 15, 17, 18, 20, 21, 22, 24, 25, 27, 28, 36, 38, 39, 41, 42, 43, 45, 46, 48, 49, 50, 52, 53, 55, 56, 57, 59, 60, 62, 63, 64, 66, 67, 69, 70, 71, 73, 74,
    76, 77, 78, 80, 81, 83, 84, 85, 87, 88, 90, 91, 92, 94, 95, 97, 98, 99, 101, 102, 104, 105, 106, 108, 109, 111, 112, 113, 115, 116, 118, 119, 120, 122, 123, 125, 126, 127, 129, 130,
    132, 133, 134, 135, 136, 137, 138, 141, 143, 144, 146, 147, 148, 150, 151, 153, 154, 155, 157, 158, 160, 161, 162, 164, 165, 167, 168, 176, 178, 179, 181, 182, 183, 185, 186, 188, 189, 190, 192, 193,
    195, 196, 197, 199, 200, 202, 203, 204, 206, 207, 209, 210, 211, 213, 214, 216, 217, 218, 220, 221, 223, 224, 225, 227, 228, 230, 231, 232, 234, 235, 237, 238, 239, 241, 242, 244, 245, 246, 248, 249,
    251, 252, 253, 255, 256, 258, 259, 260, 262, 263, 265, 266, 267, 269, 270, 272, 273, 274, 276, 277, 279, 280, 281, 283, 284, 286, 287, 288, 290, 291, 293, 294, 295, 297, 298, 300, 301, 302, 304, 305,
    307, 308, 309, 311, 312, 314, 315, 316, 318, 319, 321, 322, 323, 325, 326, 328, 329, 330, 332, 333, 335, 336, 337, 339, 340, 342, 343, 344, 345, 346, 347, 348, 358, 360, 361, 363, 364, 365, 366, 367,
    368, 369, 372, 374, 375, 377, 378, 379, 382, 383, 384, 387, 388, 389, 392, 393] (fun _ => by kernel_rfl) [380])
  case hw => w_witness2
  k_fill
  intro w s₀ s₁ mg mb G Y fa o pm cd doc dV kV ho hd hcd hD hmg hg args vals as hpre hlay hrd hwl hlo
  have KX := km_in_of Y
  km_tabs Y
  have X := (Ground.X G).1
  have V := (Ground.X G).2
  refine Ground.open G ?_
  intro T B D TE TW
  try (refine guard_noD D (by decide +kernel) ?_; clear D)
  have hfa : fa = 393 := by
    have e := mg_of (n := "law") (v := .ref 393) KX T.g (by k_is)
    have e2 := e.symm.trans hmg
    cases e2; rfl
  km_lay T hmg ho hd cd
  clear hmg
  wrow_args hpre hlay hrd hwl hlo
  refine enter_call ?_
  w_top on
  kn_posts
  subst hfa
  rename_i hlen _
  refine c_all KX T hT9 (by assumption) (by assumption) (by omega) _ rfl _ fun L m h' tk ps F e => ⟨goodW_bool F hg (fun _ => rfl) (by kc_post), ⟨_, e⟩, trivial⟩
end Mine
end
theorem PySem.Challenge.cw_xm0623_01_holds : PySem.Challenge.rw_xm0623_01.Holds := by
  exact Mine.main
