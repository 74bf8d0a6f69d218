import PyProof.Rows.All
import Wide.All
import OpenK.AllK
import Wide.FinOn
import HandS.ForMost
import HandS.Evl
import HandS.Exc
import PyProof.ListMulRoad
import PyProof.FactsAll.tuple_2
import HandS.Base
import HandS.Call
import HandS.List
import HandS.TupMul
import HandS.Wide
import HandS.WideBits
import HandS.TupAny
import HandS.Style
import HandS.IsInst
import HandS.Flow
import PyProof.StrOps2
import KE.GoesEnumKw
import HandS.RaiseMore
import PyProof.ListStr
import KE.KTupSum
import HandS.Defaults
import HandS.EndBits
import PyProof.ReprRoads
import HandS.Deep
import HandS.Head0
import HandS.Head1
import HandS.Head2
import HandS.HeadEnd
import HandS.HeadHook1
import HandS.HeadHook2
import KE.IntBitsLaws
import PyProof.FitsInt
import PyProof.ReprLoop
import HandS.Text
import HandS.StrMore
import KE.KExcSuper
import KE.KExcInit
import HandS.ExcInit
import HandS.ExcField
import HandS.ExcIs
import HandS.ExcSuper
import KE.KExcIs
import KE.KIsAll
import HandS.ExcValue
import HandS.CallSlots
import HandS.Conv
import KE.KStateDown
import Lean
import HandS.Ends
import HandS.More
import HandS.Words
import HandS.WordsExc
import PySem.Challenge.RW_countreaders_k29_sums_and_lessers
set_option Elab.async false
set_option linter.all false
set_option maxRecDepth 100000
set_option maxHeartbeats 0
/-! Cr1: data D, how values stand for data (Rp), owned lists (stores), weakest preconditions over data (WE, WA, WT, WS, WI). -/
namespace Cr
open PySem PySem.Spec PyProof.Rows L2

inductive D where
  | non | bl (b : Bool) | int (i : Int) | str (x : Str) | lst (xs : List D) | tup (xs : List D) | ins (C : Addr) (fs : List (Str × D)) | scr (ns : List Int) | ty (n : String) | exc (C : Addr) (fs : List (Str × D)) | adr (a : Addr)

/-- a raised object of the class C with its dict at dd, kept as a value -/
def ExV (C dd a : Addr) : HO := .ext fun h => ∃ (oe : Obj) (vs : Array Value), h.get? a = some oe ∧ Zc (.ref C) (some dd) oe ∧ oe.data = .fields vs
mutual
inductive Rp (K : PySem.W.Frag) (H : Hp) : V → D → Prop
  | non : Rp K H .non .non
  | bl (b : Bool) : Rp K H (.bl b) (.bl b)
  | int (i : Int) : Rp K H (.int i) (.int i)
  | str (x : Str) : Rp K H (.str x) (.str x)
  | ty (n : String) : Rp K H (.ty n) (.ty n)
  | lst {a : Addr} {xs : List V} {ds : List D} : H a = some (.lst xs) → RpA K H xs ds → Rp K H (.ref a) (.lst ds)
  | tup {a : Addr} {xs : List V} {ds : List D} : SqT K H a xs → RpA K H xs ds → Rp K H (.ref a) (.tup ds)
  | scr {a : Addr} {ns : List Int} : SqL K H a (ns.map V.int) → Rp K H (.ref a) (.scr ns)
  | ins {a C dx : Addr} {fs : List (Str × V)} {ds : List (Str × D)} : H a = some (.ins C dx fs) → RpF K H fs ds → Rp K H (.ref a) (.ins C ds)
  | exc {a C dd : Addr} {fs : List (Str × V)} {ds : List (Str × D)} : H a = some (ExV C dd a) → H dd = some (.xd fs) → RpF K H fs ds → Rp K H (.ref a) (.exc C ds)
  | adr (a : Addr) : Rp K H (.ref a) (.adr a)
inductive RpA (K : PySem.W.Frag) (H : Hp) : List V → List D → Prop
  | nil : RpA K H [] []
  | cons {v : V} {vs : List V} {d : D} {ds : List D} : Rp K H v d → RpA K H vs ds → RpA K H (v :: vs) (d :: ds)
inductive RpF (K : PySem.W.Frag) (H : Hp) : List (Str × V) → List (Str × D) → Prop
  | nil : RpF K H [] []
  | cons {x : Str} {v : V} {vs : List (Str × V)} {d : D} {ds : List (Str × D)} : Rp K H v d → RpF K H vs ds → RpF K H ((x, v) :: vs) ((x, d) :: ds)
end

section
variable {K : PySem.W.Frag} {H H' : Hp}
mutual
theorem Rp.mono (e : Evl.Ex H H') : ∀ {v : V} {d : D}, Rp K H v d → Rp K H' v d
  | _, _, .non => .non
  | _, _, .bl b => .bl b
  | _, _, .int i => .int i
  | _, _, .str x => .str x
  | _, _, .ty n => .ty n
  | _, _, .lst h a => .lst (e _ _ h) (RpA.mono e a)
  | _, _, .scr h => .scr (Evl.ex_l e h)
  | _, _, .tup h a => .tup (Evl.ex_t e h) (RpA.mono e a)
  | _, _, .ins h a => .ins (e _ _ h) (RpF.mono e a)
  | _, _, .exc h h2 a => .exc (e _ _ h) (e _ _ h2) (RpF.mono e a)
  | _, _, .adr a => .adr a
theorem RpA.mono (e : Evl.Ex H H') : ∀ {vs : List V} {ds : List D}, RpA K H vs ds → RpA K H' vs ds
  | _, _, .nil => .nil
  | _, _, .cons h t => .cons (Rp.mono e h) (RpA.mono e t)
theorem RpF.mono (e : Evl.Ex H H') : ∀ {vs : List (Str × V)} {ds : List (Str × D)}, RpF K H vs ds → RpF K H' vs ds
  | _, _, .nil => .nil
  | _, _, .cons h t => .cons (Rp.mono e h) (RpF.mono e t)
end
theorem RpA.length : ∀ {vs : List V} {ds : List D}, RpA K H vs ds → vs.length = ds.length
  | _, _, .nil => rfl
  | _, _, .cons _ t => congrArg (· + 1) (RpA.length t)
theorem RpA.append : ∀ {vs ws : List V} {ds es : List D}, RpA K H vs ds → RpA K H ws es → RpA K H (vs ++ ws) (ds ++ es)
  | _, _, _, _, .nil, s => s
  | _, _, _, _, .cons h t, s => .cons h (RpA.append t s)
theorem RpA.get : ∀ {vs : List V} {ds : List D} {i : Nat} {d : D}, RpA K H vs ds → ds[i]? = some d → ∃ v, vs[i]? = some v ∧ Rp K H v d
  | _, _, _, _, .nil, e => by simp at e
  | _, _, 0, _, .cons h _, e => by simp at e; subst e; exact ⟨_, rfl, h⟩
  | _, _, i + 1, d, .cons _ t, e => by
    obtain ⟨v, h1, h2⟩ := RpA.get (i := i) (d := d) t (by simpa using e)
    exact ⟨v, by simpa using h1, h2⟩
theorem RpA.get2 : ∀ {vs : List V} {ds : List D} {i : Nat} {v : V}, RpA K H vs ds → vs[i]? = some v → ∃ d, ds[i]? = some d ∧ Rp K H v d
  | _, _, _, _, .nil, e => by simp at e
  | _, _, 0, _, .cons h _, e => by simp at e; subst e; exact ⟨_, rfl, h⟩
  | _, _, i + 1, d, .cons _ t, e => by
    obtain ⟨v, h1, h2⟩ := RpA.get2 (i := i) t (by simpa using e)
    exact ⟨v, by simpa using h1, h2⟩
theorem RpA.take : ∀ {vs : List V} {ds : List D} (n : Nat), RpA K H vs ds → RpA K H (vs.take n) (ds.take n)
  | _, _, 0, _ => .nil
  | _, _, _ + 1, .nil => .nil
  | _, _, n + 1, .cons h t => .cons h (RpA.take n t)
theorem RpA.drop : ∀ {vs : List V} {ds : List D} (n : Nat), RpA K H vs ds → RpA K H (vs.drop n) (ds.drop n)
  | _, _, 0, r => r
  | _, _, _ + 1, .nil => .nil
  | _, _, n + 1, .cons _ t => RpA.drop n t
theorem RpA.set {v : V} {d : D} (r : Rp K H v d) : ∀ {vs : List V} {ds : List D} (i : Nat), RpA K H vs ds → RpA K H (vs.set i v) (ds.set i d)
  | _, _, _, .nil => .nil
  | _, _, 0, .cons _ t => .cons r t
  | _, _, i + 1, .cons q t => .cons q (RpA.set r i t)
theorem RpA.ints : ∀ {vs : List V} {ns : List Int}, RpA K H vs (ns.map D.int) → vs = ns.map V.int
  | _, [], .nil => rfl
  | _, n :: ns, .cons h t => by
    cases h
    rw [RpA.ints t]
    rfl
theorem RpA.of_ints : ∀ (ns : List Int), RpA K H (ns.map V.int) (ns.map D.int)
  | [] => .nil
  | n :: ns => .cons (.int n) (RpA.of_ints ns)
end

/-! ### owned lists: a store tells which lists are owned and what they hold -/
abbrev Sto := Addr → Option (List D)
abbrev Dm := Addr → Bool
def dom (m : Sto) : Dm := fun a => (m a).isSome
def stS (m : Sto) (p : Addr) (ds : List D) : Sto := fun a => if a = p then some ds else m a
def stD (m : Sto) (p : Addr) : Sto := fun a => if a = p then none else m a
def hid (M : Dm) (H : Hp) : Hp := fun a => if M a = true then none else H a
theorem stS_same {m : Sto} {p : Addr} {ds : List D} : stS m p ds p = some ds := if_pos rfl
theorem stS_ne {m : Sto} {p a : Addr} {ds : List D} (h : a ≠ p) : stS m p ds a = m a := if_neg h
theorem stS_stS {m : Sto} {p : Addr} {ds es : List D} : stS (stS m p ds) p es = stS m p es := by
  funext a; unfold stS; split <;> rfl
theorem stS_comm {m : Sto} {p q : Addr} {ds es : List D} (h : p ≠ q) : stS (stS m p ds) q es = stS (stS m q es) p ds := by
  funext a; unfold stS
  by_cases h1 : a = q
  · rw [if_pos h1, if_neg (fun e => h (e.symm.trans h1)), if_pos h1]
  · rw [if_neg h1]
    by_cases h2 : a = p
    · rw [if_pos h2, if_pos h2]
    · rw [if_neg h2, if_neg h2, if_neg h1]
theorem stD_stS {m : Sto} {p : Addr} {ds : List D} (h : m p = none) : stD (stS m p ds) p = m := by
  funext a; unfold stD stS
  by_cases q : a = p
  · rw [if_pos q, q, h]
  · rw [if_neg q, if_neg q]
theorem stS_self {m : Sto} {p : Addr} {ds : List D} (h : m p = some ds) : stS m p ds = m := by
  funext a; unfold stS
  by_cases q : a = p
  · rw [if_pos q, q, h]
  · rw [if_neg q]
theorem dom_some {m : Sto} {a : Addr} {ds : List D} (h : m a = some ds) : dom m a = true := by unfold dom; rw [h]; rfl
theorem dom_none {m : Sto} {a : Addr} : dom m a = false ↔ m a = none := by
  unfold dom
  cases m a <;> simp
theorem dom_true {m : Sto} {a : Addr} (h : dom m a = true) : ∃ ds, m a = some ds := by
  unfold dom at h
  cases e : m a with
  | none => rw [e] at h; cases h
  | some ds => exact ⟨ds, rfl⟩
theorem dom_stS {m : Sto} {p : Addr} {ds es : List D} (h : m p = some es) : dom (stS m p ds) = dom m := by
  funext a; unfold dom stS
  by_cases q : a = p
  · rw [if_pos q, q, h]; rfl
  · rw [if_neg q]
theorem hid_out {M : Dm} {H : Hp} {a : Addr} (h : M a = false) : hid M H a = H a := if_neg (by rw [h]; exact Bool.false_ne_true)
theorem hid_some {M : Dm} {H : Hp} {a : Addr} {o : HO} (h : hid M H a = some o) : M a = false ∧ H a = some o := by
  unfold hid at h
  cases q : M a with
  | true => rw [q, if_pos rfl] at h; cases h
  | false => rw [q, if_neg Bool.false_ne_true] at h; exact ⟨rfl, h⟩
theorem hid_ex {M : Dm} {H : Hp} : Evl.Ex (hid M H) H := fun a o h => (hid_some h).2
theorem hid_sub {M N : Dm} {H : Hp} (s : ∀ a, M a = true → N a = true) : Evl.Ex (hid N H) (hid M H) := fun a o h => by
  obtain ⟨h1, h2⟩ := hid_some h
  have h3 : M a = false := by
    cases q : M a with
    | false => rfl
    | true => rw [s a q] at h1; cases h1
  rw [hid_out h3]
  exact h2

inductive Sv where
  | val (d : D) | adr (a : Addr)
abbrev Ro := List (Option Sv)

def RpS (K : PySem.W.Frag) (M : Dm) (H : Hp) : V → Sv → Prop
  | v, .val d => Rp K (hid M H) v d
  | v, .adr a => v = .ref a ∧ M a = true
def EnvOk (K : PySem.W.Frag) (M : Dm) (H : Hp) (σ : L2.St) (r : Ro) : Prop :=
  σ.length = r.length ∧ ∀ (i : Nat) (s : Sv), r[i]? = some (some s) → ∃ v, σ[i]? = some (some v) ∧ RpS K M H v s
def StoOk (K : PySem.W.Frag) (H : Hp) (m : Sto) : Prop :=
  ∀ a ds, m a = some ds → ∃ xs, H a = some (.lst xs) ∧ RpA K (hid (dom m) H) xs ds
/-- how the heap and the owned lists may move on -/
structure Xt (M : Dm) (H : Hp) (M' : Dm) (H' : Hp) : Prop where
  ex : Evl.Ex (hid M H) (hid M' H')
  al : ∀ a, H a ≠ none → H' a ≠ none
  dm : ∀ a, M a = true → M' a = true
  nw : ∀ a, M' a = true → M a = true ∨ H a = none

section
variable {K : PySem.W.Frag} {M M' M2 : Dm} {H H' H2 : Hp} {σ : L2.St} {r : Ro} {m m' : Sto}
theorem Xt.refl : Xt M H M H := ⟨fun _ _ h => h, fun _ h => h, fun _ h => h, fun _ h => .inl h⟩
theorem Xt.trans (a : Xt M H M' H') (b : Xt M' H' M2 H2) : Xt M H M2 H2 :=
  ⟨a.ex.trans b.ex, fun x h => b.al x (a.al x h), fun x h => b.dm x (a.dm x h), fun x h => by
    rcases b.nw x h with q | q
    · exact a.nw x q
    · right
      cases e : H x with
      | none => rfl
      | some o => exact absurd q (a.al x (by rw [e]; simp))⟩
theorem RpS.mono {v : V} {s : Sv} (x : Xt M H M' H') (h : RpS K M H v s) : RpS K M' H' v s := by
  cases s with
  | val d => exact Rp.mono x.ex h
  | adr a => exact ⟨h.1, x.dm _ h.2⟩
theorem EnvOk.mono (x : Xt M H M' H') (h : EnvOk K M H σ r) : EnvOk K M' H' σ r :=
  ⟨h.1, fun i s e => by
    obtain ⟨v, h1, h2⟩ := h.2 i s e
    exact ⟨v, h1, h2.mono x⟩⟩
theorem upd_al {p : Addr} {o : HO} : ∀ a, H a ≠ none → upd H p o a ≠ none := fun a e => by
  by_cases q : a = p
  · rw [q, upd_same]; simp
  · rw [upd_ne q]; exact e
/-- a new object, untouched by what is owned -/
theorem Xt.new {p : Addr} {o : HO} (h : H p = none) : Xt M H M (upd H p o) :=
  ⟨fun a u e => by
    obtain ⟨h1, h2⟩ := hid_some e
    rw [hid_out h1, upd_ne (ne_of_none h2 h)]
    exact h2, upd_al, fun _ q => q, fun _ q => .inl q⟩
/-- a new object that becomes owned -/
theorem Xt.own {p : Addr} {o : HO} {ds : List D} (h : H p = none) : Xt (dom m) H (dom (stS m p ds)) (upd H p o) :=
  ⟨fun a u e => by
    obtain ⟨h1, h2⟩ := hid_some e
    have np : a ≠ p := ne_of_none h2 h
    rw [hid_out (by rw [dom_none, stS_ne np]; exact dom_none.mp h1), upd_ne np]
    exact h2, upd_al, fun a q => by
    by_cases z : a = p
    · rw [z]; exact dom_some stS_same
    · obtain ⟨es, e⟩ := dom_true q
      exact dom_some (by rw [stS_ne z]; exact e), fun a q => by
    by_cases z : a = p
    · right; rw [z]; exact h
    · left
      obtain ⟨es, e⟩ := dom_true q
      rw [stS_ne z] at e
      exact dom_some e⟩
/-- an owned list is written -/
theorem Xt.wr {p : Addr} {o : HO} (hM : M p = true) : Xt M H M (upd H p o) :=
  ⟨fun a u e => by
    obtain ⟨h1, h2⟩ := hid_some e
    rw [hid_out h1, upd_ne (fun q => by rw [q, hM] at h1; cases h1)]
    exact h2, upd_al, fun _ q => q, fun _ q => .inl q⟩
/-- an owned list is let free -/
theorem Xt.frz {p : Addr} (hp : M p = false) (x : Xt M H (dom m) H') : Xt M H (dom (stD m p)) H' :=
  ⟨x.ex.trans (hid_sub fun a q => by
    obtain ⟨es, e⟩ := dom_true q
    unfold stD at e
    by_cases z : a = p
    · rw [if_pos z] at e; cases e
    · rw [if_neg z] at e; exact dom_some e), x.al, fun a q => by
    have z : a ≠ p := fun e => by rw [e, hp] at q; cases q
    obtain ⟨es, e⟩ := dom_true (x.dm a q)
    exact dom_some (show stD m p a = some es by unfold stD; rw [if_neg z]; exact e), fun a q => by
    obtain ⟨es, e⟩ := dom_true q
    unfold stD at e
    by_cases z : a = p
    · rw [if_pos z] at e; cases e
    · rw [if_neg z] at e; exact x.nw a (dom_some e)⟩
theorem StoOk.notin {p : Addr} (h : StoOk K H m) (e : H p = none) : m p = none := by
  cases q : m p with
  | none => rfl
  | some ds =>
    obtain ⟨xs, h1, _⟩ := h p ds q
    rw [e] at h1; cases h1
theorem StoOk.some {p : Addr} (h : StoOk K H m) (e : dom m p = true) : ∃ xs, H p = some (.lst xs) := by
  obtain ⟨ds, q⟩ := dom_true e
  obtain ⟨xs, h1, _⟩ := h p ds q
  exact ⟨xs, h1⟩
theorem StoOk.keep (h : StoOk K H m) (x : Xt (dom m) H (dom m) H') (k : ∀ a, dom m a = true → H' a = H a) : StoOk K H' m :=
  fun a ds e => by
    obtain ⟨xs, h1, h2⟩ := h a ds e
    exact ⟨xs, by rw [k a (dom_some e)]; exact h1, h2.mono x.ex⟩
theorem StoOk.new {p : Addr} {o : HO} (h : StoOk K H m) (e : H p = none) : StoOk K (upd H p o) m :=
  h.keep (Xt.new e) fun a ha => by
    obtain ⟨xs, q⟩ := h.some ha
    rw [upd_ne (ne_of_none q e)]
theorem StoOk.own {p : Addr} {xs : List V} {ds : List D} (h : StoOk K H m) (e : H p = none) (ra : RpA K (hid (dom m) H) xs ds) : StoOk K (upd H p (.lst xs)) (stS m p ds) := by
  have x : Xt (dom m) H (dom (stS m p ds)) (upd H p (.lst xs)) := Xt.own e
  intro a es q
  by_cases z : a = p
  · rw [z, stS_same] at q
    cases q
    exact ⟨xs, by rw [z]; exact upd_same, ra.mono x.ex⟩
  · rw [stS_ne z] at q
    obtain ⟨ys, h1, h2⟩ := h a es q
    exact ⟨ys, by rw [upd_ne z]; exact h1, h2.mono x.ex⟩
/-- an owned list is written -/
theorem StoOk.wr {p : Addr} {xs : List V} {ds es : List D} (h : StoOk K H m) (e : m p = .some es) (ra : RpA K (hid (dom m) H) xs ds) : StoOk K (upd H p (.lst xs)) (stS m p ds) := by
  have x : Xt (dom m) H (dom m) (upd H p (.lst xs)) := Xt.wr (dom_some e)
  intro a fs q
  rw [dom_stS e]
  by_cases z : a = p
  · rw [z, stS_same] at q
    cases q
    exact ⟨xs, by rw [z]; exact upd_same, ra.mono x.ex⟩
  · rw [stS_ne z] at q
    obtain ⟨ys, h1, h2⟩ := h a fs q
    exact ⟨ys, by rw [upd_ne z]; exact h1, h2.mono x.ex⟩
theorem stD_sub {p : Addr} : ∀ a, dom (stD m p) a = true → dom m a = true := fun a q => by
  obtain ⟨es, e⟩ := dom_true q
  unfold stD at e
  by_cases z : a = p
  · rw [if_pos z] at e; cases e
  · rw [if_neg z] at e; exact dom_some e
theorem StoOk.frz {p : Addr} {ds : List D} (h : StoOk K H m) (e : m p = .some ds) : StoOk K H (stD m p) ∧ Rp K (hid (dom (stD m p)) H) (.ref p) (.lst ds) := by
  have s : Evl.Ex (hid (dom m) H) (hid (dom (stD m p)) H) := hid_sub stD_sub
  refine ⟨fun a es q => ?_, ?_⟩
  · have q' : (if a = p then none else m a) = .some es := q
    by_cases z : a = p
    · rw [if_pos z] at q'; cases q'
    · rw [if_neg z] at q'
      obtain ⟨xs, h1, h2⟩ := h a es q'
      exact ⟨xs, h1, h2.mono s⟩
  · obtain ⟨xs, h1, h2⟩ := h p ds e
    exact .lst (by rw [hid_out (dom_none.mpr (if_pos rfl))]; exact h1) (h2.mono s)
end

/-! ### what is read -/
def vw (m : Sto) : Sv → Option D
  | .val d => some d
  | .adr a => (m a).map D.lst
def RpW (K : PySem.W.Frag) (M : Dm) (H : Hp) (v : V) (d : D) : Prop :=
  Rp K (hid M H) v d ∨ ∃ a xs ds, v = .ref a ∧ d = .lst ds ∧ H a = some (.lst xs) ∧ RpA K (hid M H) xs ds
theorem RpW.of {K : PySem.W.Frag} {H : Hp} {m : Sto} {v : V} {s : Sv} {d : D} (h : RpS K (dom m) H v s) (st : StoOk K H m) (e : vw m s = some d) : RpW K (dom m) H v d := by
  cases s with
  | val d' =>
    cases e
    exact .inl h
  | adr a =>
    obtain ⟨rfl, _⟩ := h
    have e : (m a).map D.lst = some d := e
    cases q : m a with
    | none => rw [q] at e; cases e
    | some ds =>
      rw [q] at e
      obtain ⟨xs, h1, h2⟩ := st a ds q
      exact .inr ⟨a, xs, ds, rfl, (Option.some.inj e).symm, h1, h2⟩
theorem RpW.lst {K : PySem.W.Frag} {M : Dm} {H : Hp} {v : V} {ds : List D} (h : RpW K M H v (.lst ds)) : ∃ a xs, v = .ref a ∧ H a = some (.lst xs) ∧ RpA K (hid M H) xs ds := by
  rcases h with h | ⟨a, xs, ds', rfl, e, h1, h2⟩
  · cases h with
    | lst q ra => exact ⟨_, _, rfl, (hid_some q).2, ra⟩
  · cases e
    exact ⟨a, xs, rfl, h1, h2⟩
theorem RpW.tup {K : PySem.W.Frag} {M : Dm} {H : Hp} {v : V} {ds : List D} (h : RpW K M H v (.tup ds)) : ∃ a xs, v = .ref a ∧ SqT K (hid M H) a xs ∧ RpA K (hid M H) xs ds := by
  rcases h with h | ⟨a, xs, ds', rfl, e, h1, h2⟩
  · cases h with
    | tup q ra => exact ⟨_, _, rfl, q, ra⟩
  · cases e
theorem RpW.rp {K : PySem.W.Frag} {M : Dm} {H : Hp} {v : V} {d : D} (h : RpW K M H v d) : Rp K H v d := by
  rcases h with h | ⟨a, xs, ds', rfl, rfl, h1, h2⟩
  · exact Rp.mono hid_ex h
  · exact .lst h1 (h2.mono hid_ex)
theorem RpW.int {K : PySem.W.Frag} {M : Dm} {H : Hp} {v : V} {i : Int} (h : RpW K M H v (.int i)) : v = .int i := by
  cases h.rp; rfl
theorem RpW.bl {K : PySem.W.Frag} {M : Dm} {H : Hp} {v : V} {i : Bool} (h : RpW K M H v (.bl i)) : v = .bl i := by
  cases h.rp; rfl
theorem RpW.str {K : PySem.W.Frag} {M : Dm} {H : Hp} {v : V} {i : Str} (h : RpW K M H v (.str i)) : v = .str i := by
  cases h.rp; rfl
theorem RpW.non {K : PySem.W.Frag} {M : Dm} {H : Hp} {v : V} (h : RpW K M H v .non) : v = .non := by
  cases h.rp; rfl

/-! ### weakest preconditions over data -/
def WE (K : PySem.W.Frag) (r : Ro) (m : Sto) (te : TE) (Q : Sv → Sto → Prop) : Prop :=
  ∀ (σ : L2.St) (H : Hp) (QV : VK), EnvOk K (dom m) H σ r → StoOk K H m →
    (∀ v H' s m', Xt (dom m) H (dom m') H' → StoOk K H' m' → RpS K (dom m') H' v s → Q s m' → QV v H') → te σ H QV
def RpSs (K : PySem.W.Frag) (M : Dm) (H : Hp) : List V → List Sv → Prop := Paired (RpS K M H)
def WA (K : PySem.W.Frag) (r : Ro) (m : Sto) (ta : TA) (Q : List Sv → Sto → Prop) : Prop :=
  ∀ (σ : L2.St) (H : Hp) (QV : List V → Hp → Prop), EnvOk K (dom m) H σ r → StoOk K H m →
    (∀ vs H' ss m', Xt (dom m) H (dom m') H' → StoOk K H' m' → RpSs K (dom m') H' vs ss → Q ss m' → QV vs H') → ta σ H QV
def WT (K : PySem.W.Frag) (r : Ro) (m : Sto) (tt : TT) (Q : Bool → Sto → Prop) : Prop :=
  ∀ (σ : L2.St) (H : Hp) (QV : Bool → Hp → Prop), EnvOk K (dom m) H σ r → StoOk K H m →
    (∀ b H' m', Xt (dom m) H (dom m') H' → StoOk K H' m' → Q b m' → QV b H') → tt σ H QV
structure Eds where
  nx : Ro → Sto → Prop
  rt : Sv → Sto → Prop
  bk : Ro → Sto → Prop := fun _ _ => False
  ct : Ro → Sto → Prop := fun _ _ => False
  W : WX := fun _ _ _ _ => False
  xc : Addr → List (Str × D) → Ro → Sto → Prop := fun _ _ _ _ => False
structure EdOk (K : PySem.W.Frag) (M : Dm) (H : Hp) (D' : Ends) (P : Eds) : Prop where
  nx : ∀ σ' H' r' m', Xt M H (dom m') H' → StoOk K H' m' → EnvOk K (dom m') H' σ' r' → P.nx r' m' → D'.nx σ' H'
  rt : ∀ v H' s m', Xt M H (dom m') H' → StoOk K H' m' → RpS K (dom m') H' v s → P.rt s m' → D'.rt v H'
  bk : ∀ σ' H' r' m', Xt M H (dom m') H' → StoOk K H' m' → EnvOk K (dom m') H' σ' r' → P.bk r' m' → D'.bk σ' H'
  ct : ∀ σ' H' r' m', Xt M H (dom m') H' → StoOk K H' m' → EnvOk K (dom m') H' σ' r' → P.ct r' m' → D'.ct σ' H'
  xc : ∀ σ' H' r' m' C dd vs fs, Xt M H (dom m') H' → StoOk K H' m' → EnvOk K (dom m') H' σ' r' → H' dd = some (.xd vs) → RpF K (hid (dom m') H') vs fs → P.xc C fs r' m' → P.W (.ref C) (some dd) σ' H'
/-- M: the domain at the entry of the def, of the loop's turn -/
def WS (K : PySem.W.Frag) (M : Dm) (r : Ro) (m : Sto) (ts : TS) (P : Eds) : Prop :=
  ∀ (σ : L2.St) (H H0 : Hp) (D' : Ends), EnvOk K (dom m) H σ r → StoOk K H m → Xt M H0 (dom m) H → EdOk K M H0 D' P → ts D' σ H
/-- a target that writes the slots js alone -/
def WG (K : PySem.W.Frag) (g : TG) (js : List Nat) (s : Sv) (r : Ro) (m : Sto) (Q : Ro → Prop) : Prop :=
  ∀ (v : V) (σ : L2.St) (H : Hp) (QV : L2.St → Hp → Prop), EnvOk K (dom m) H σ r → StoOk K H m → RpS K (dom m) H v s →
    (∀ σ' r', EnvOk K (dom m) H σ' r' → σ'.length = σ.length → (∀ j, j ∉ js → σ'[j]? = σ[j]?) → Q r' → QV σ' H) → g v σ H QV
/-- what is walked yields the data ds -/
structure ItOk (K : PySem.W.Frag) (M : Dm) (J : It) (H0 : Hp) (ds : List D) : Prop where
  go : ∀ i M' H, Xt M H0 M' H → i < ds.length → J.go i H
  yl : ∀ i M' H v H' d, (∀ a, M' a = true → H a ≠ none) → Xt M H0 M' H → ds[i]? = some d → J.yld i H v H' → Xt M' H M' H' ∧ (∀ a, M' a = true → H' a = H a) ∧ Rp K (hid M' H') v d
  st : ∀ M' H, Xt M H0 M' H → J.stop ds.length H
def WI (K : PySem.W.Frag) (r : Ro) (m : Sto) (wi : TI) (Q : List D → Sto → Prop) : Prop :=
  ∀ (σ : L2.St) (H : Hp) (R : It → Hp → Prop), EnvOk K (dom m) H σ r → StoOk K H m →
    (∀ J H' ds m', Xt (dom m) H (dom m') H' → StoOk K H' m' → ItOk K (dom m') J H' ds → Q ds m' → R J H') → wi σ H R

section
variable {K : PySem.W.Frag} {r : Ro} {m : Sto}
theorem EdOk.mono {M M' : Dm} {H H' : Hp} {D' : Ends} {P : Eds} (x : Xt M H M' H') (h : EdOk K M H D' P) : EdOk K M' H' D' P :=
  ⟨fun σ' H2 r' m2 y => h.nx σ' H2 r' m2 (x.trans y), fun v H2 s m2 y => h.rt v H2 s m2 (x.trans y), fun σ' H2 r' m2 y => h.bk σ' H2 r' m2 (x.trans y), fun σ' H2 r' m2 y => h.ct σ' H2 r' m2 (x.trans y), fun σ' H2 r' m2 C dd vs fs y => h.xc σ' H2 r' m2 C dd vs fs (x.trans y)⟩
theorem WE.imp {te : TE} {Q Q' : Sv → Sto → Prop} (h : WE K r m te Q) (i : ∀ s m', Q s m' → Q' s m') : WE K r m te Q' :=
  fun σ H QV e st k => h σ H QV e st fun v H' s m' x so rs q => k v H' s m' x so rs (i s m' q)
theorem WT.imp {te : TT} {Q Q' : Bool → Sto → Prop} (h : WT K r m te Q) (i : ∀ s m', Q s m' → Q' s m') : WT K r m te Q' :=
  fun σ H QV e st k => h σ H QV e st fun v H' m' x so q => k v H' m' x so (i v m' q)

/-! expressions -/
theorem we_var {i : Nat} {s : Sv} {Q : Sv → Sto → Prop} (h : r[i]? = some (some s)) (q : Q s m) : WE K r m (tVar i) Q := fun σ H QV e st k => by
  obtain ⟨v, h1, h2⟩ := e.2 i s h
  exact ⟨v, h1, k v H s m Xt.refl st h2 q⟩
theorem we_c {v : V} {d : D} {Q : Sv → Sto → Prop} (h : ∀ H, Rp K H v d) (q : Q (.val d) m) : WE K r m (tC v) Q := fun σ H QV e st k => k v H (.val d) m Xt.refl st (h _) q
theorem we_int {i : Int} {Q : Sv → Sto → Prop} (q : Q (.val (.int i)) m) : WE K r m (tC (.int i)) Q := we_c (fun _ => .int i) q
theorem we_str {i : Str} {Q : Sv → Sto → Prop} (q : Q (.val (.str i)) m) : WE K r m (tC (.str i)) Q := we_c (fun _ => .str i) q
theorem we_bl {i : Bool} {Q : Sv → Sto → Prop} (q : Q (.val (.bl i)) m) : WE K r m (tC (.bl i)) Q := we_c (fun _ => .bl i) q
theorem we_non {Q : Sv → Sto → Prop} (q : Q (.val .non) m) : WE K r m (tC .non) Q := we_c (fun _ => .non) q

theorem wa_nil {Q : List Sv → Sto → Prop} (q : Q [] m) : WA K r m tNil Q := fun σ H QV e st k => k [] H [] m Xt.refl st .nil q
theorem RpSs.mono {M M' : Dm} {H H' : Hp} (x : Xt M H M' H') : ∀ {vs : List V} {ss : List Sv}, RpSs K M H vs ss → RpSs K M' H' vs ss
  | _, _, .nil => .nil
  | _, _, .cons h t => .cons (h.mono x) (RpSs.mono x t)
theorem wa_cons {ta : TE} {tr : TA} {Q : List Sv → Sto → Prop} (h : WE K r m ta fun s m1 => WA K r m1 tr fun ss m2 => Q (s :: ss) m2) : WA K r m (tCons ta tr) Q := fun σ H QV e st k =>
  h σ H _ e st fun v H1 s m1 x1 so1 rs1 q1 => q1 σ H1 _ (e.mono x1) so1 fun vs H2 ss m2 x2 so2 rs2 q2 =>
    k (v :: vs) H2 (s :: ss) m2 (x1.trans x2) so2 (.cons (rs1.mono x2) rs2) q2

/-! tests -/
theorem wt_val {te : TE} {Q : Bool → Sto → Prop} (h : WE K r m te fun s m1 => ∃ b, s = .val (.bl b) ∧ Q b m1) : WT K r m (tB te) Q := fun σ H QV e st k =>
  h σ H _ e st fun v H1 s m1 x1 so1 rs1 ⟨b, es, q⟩ => by
    subst es
    have rs2 : Rp K (hid (dom m1) H1) v (.bl b) := rs1
    cases rs2
    exact ⟨b, rfl, k b H1 m1 x1 so1 q⟩
theorem wt_test {te : TE} {Q : Bool → Sto → Prop} (h : WE K r m te fun s m1 => ∃ b, s = .val (.bl b) ∧ Q b m1) : WT K r m (tTest te) Q := wt_val h
theorem wt_and {t u : TT} {Q : Bool → Sto → Prop} (h : WT K r m t fun b m1 => if b = true then WT K r m1 u Q else Q false m1) : WT K r m (tAnd t u) Q := fun σ H QV e st k =>
  h σ H _ e st fun b H1 m1 x1 so1 q => by
    cases b with
    | true => exact (if_pos rfl).mpr ((show WT K r m1 u Q from q) σ H1 QV (e.mono x1) so1 fun b H2 m2 x2 so2 q2 => k b H2 m2 (x1.trans x2) so2 q2)
    | false => exact k false H1 m1 x1 so1 q
theorem wt_or {t u : TT} {Q : Bool → Sto → Prop} (h : WT K r m t fun b m1 => if b = true then Q true m1 else WT K r m1 u Q) : WT K r m (tOr t u) Q := fun σ H QV e st k =>
  h σ H _ e st fun b H1 m1 x1 so1 q => by
    cases b with
    | true => exact k true H1 m1 x1 so1 q
    | false => exact (show WT K r m1 u Q from q) σ H1 QV (e.mono x1) so1 fun b H2 m2 x2 so2 q2 => k b H2 m2 (x1.trans x2) so2 q2
theorem wt_not {t : TT} {Q : Bool → Sto → Prop} (h : WT K r m t fun b m1 => Q (!b) m1) : WT K r m (tNot t) Q := fun σ H QV e st k =>
  h σ H _ e st fun b H1 m1 x1 so1 q => k _ H1 m1 x1 so1 q
theorem we_andV {ta tb : TE} {Q : Sv → Sto → Prop} (h : WE K r m ta fun s m1 => ∃ b, s = .val (.bl b) ∧ if b = true then WE K r m1 tb Q else Q (.val (.bl false)) m1) : WE K r m (tAndV ta tb) Q := fun σ H QV e st k =>
  h σ H _ e st fun v H1 s m1 x1 so1 rs1 ⟨b, es, q⟩ => by
    subst es
    have rs2 : Rp K (hid (dom m1) H1) v (.bl b) := rs1
    cases rs2
    refine ⟨b, rfl, ?_⟩
    cases b with
    | true => exact (show WE K r m1 tb Q from q) σ H1 QV (e.mono x1) so1 fun v H2 s m2 x2 so2 r2 q2 => k v H2 s m2 (x1.trans x2) so2 r2 q2
    | false => exact k _ H1 (.val (.bl false)) m1 x1 so1 (show Rp _ _ _ _ from .bl false) q
theorem we_orV {ta tb : TE} {Q : Sv → Sto → Prop} (h : WE K r m ta fun s m1 => ∃ b, s = .val (.bl b) ∧ if b = true then Q (.val (.bl true)) m1 else WE K r m1 tb Q) : WE K r m (tOrV ta tb) Q := fun σ H QV e st k =>
  h σ H _ e st fun v H1 s m1 x1 so1 rs1 ⟨b, es, q⟩ => by
    subst es
    have rs2 : Rp K (hid (dom m1) H1) v (.bl b) := rs1
    cases rs2
    refine ⟨b, rfl, ?_⟩
    cases b with
    | true => exact k _ H1 (.val (.bl true)) m1 x1 so1 (show Rp _ _ _ _ from .bl true) q
    | false => exact (show WE K r m1 tb Q from q) σ H1 QV (e.mono x1) so1 fun v H2 s m2 x2 so2 r2 q2 => k v H2 s m2 (x1.trans x2) so2 r2 q2
theorem we_notV {ta : TE} {Q : Sv → Sto → Prop} (h : WE K r m ta fun s m1 => ∃ b, s = .val (.bl b) ∧ Q (.val (.bl !b)) m1) : WE K r m (tNotV ta) Q := fun σ H QV e st k =>
  h σ H _ e st fun v H1 s m1 x1 so1 rs1 ⟨b, es, q⟩ => by
    subst es
    have rs2 : Rp K (hid (dom m1) H1) v (.bl b) := rs1
    cases rs2
    exact ⟨b, rfl, k _ H1 (.val (.bl !b)) m1 x1 so1 (show Rp _ _ _ _ from .bl _) q⟩
theorem we_if {t : TT} {ta tb : TE} {Q : Sv → Sto → Prop} (h : WT K r m t fun b m1 => if b = true then WE K r m1 ta Q else WE K r m1 tb Q) : WE K r m (tIf t ta tb) Q := fun σ H QV e st k =>
  h σ H _ e st fun b H1 m1 x1 so1 q => by
    cases b with
    | true => exact (show WE K r m1 ta Q from q) σ H1 QV (e.mono x1) so1 fun v H2 s m2 x2 so2 r2 q2 => k v H2 s m2 (x1.trans x2) so2 r2 q2
    | false => exact (show WE K r m1 tb Q from q) σ H1 QV (e.mono x1) so1 fun v H2 s m2 x2 so2 r2 q2 => k v H2 s m2 (x1.trans x2) so2 r2 q2

/-! displays -/
theorem vals_of {M : Dm} {H : Hp} : ∀ {vs : List V} {ss : List Sv} {ds : List D}, RpSs K M H vs ss → ss = ds.map Sv.val → RpA K (hid M H) vs ds
  | _, _, [], .nil, _ => .nil
  | _, _, [], .cons _ _, e => by cases e
  | _, _, _ :: _, .nil, e => by cases e
  | _, _, d :: ds, .cons h t, e => by
    injection e with e1 e2
    subst e1
    exact .cons h (vals_of t e2)
theorem we_tup {t : TA} {Q : Sv → Sto → Prop} (h : WA K r m t fun ss m1 => ∃ ds : List D, ss = ds.map Sv.val ∧ ds.length ≤ 100000 ∧ Q (.val (.tup ds)) m1) : WE K r m (tTup t) Q := fun σ H QV e st k =>
  h σ H _ e st fun vs H1 ss m1 x1 so1 rs1 ⟨ds, es, hl, q⟩ => by
    have ra := vals_of rs1 es
    refine ⟨by rw [ra.length]; exact Evl.sz_of hl, fun p hp => ?_⟩
    have x2 : Xt (dom m1) H1 (dom m1) (upd H1 p (.tup vs)) := Xt.new hp
    exact k _ _ (.val (.tup ds)) m1 (x1.trans x2) (so1.new hp) (show Rp _ _ _ _ from .tup (.inl (.inl (by rw [hid_out (dom_none.mpr (so1.notin hp))]; exact upd_same))) (ra.mono x2.ex)) q
/-- a new list, owned -/
theorem we_lstO {t : TA} {Q : Sv → Sto → Prop} (h : WA K r m t fun ss m1 => ∃ ds : List D, ss = ds.map Sv.val ∧ ds.length ≤ 100000 ∧ ∀ p, m1 p = none → Q (.adr p) (stS m1 p ds)) : WE K r m (tLst t) Q := fun σ H QV e st k =>
  h σ H _ e st fun vs H1 ss m1 x1 so1 rs1 ⟨ds, es, hl, q⟩ => by
    have ra := vals_of rs1 es
    refine ⟨by rw [ra.length]; exact Evl.sz_of hl, fun p hp => ?_⟩
    exact k _ _ (.adr p) (stS m1 p ds) (x1.trans (Xt.own hp)) (so1.own hp ra) ⟨rfl, dom_some stS_same⟩ (q p (so1.notin hp))
theorem we_lst {t : TA} {Q : Sv → Sto → Prop} (h : WA K r m t fun ss m1 => ∃ ds : List D, ss = ds.map Sv.val ∧ ds.length ≤ 100000 ∧ Q (.val (.lst ds)) m1) : WE K r m (tLst t) Q := fun σ H QV e st k =>
  h σ H _ e st fun vs H1 ss m1 x1 so1 rs1 ⟨ds, es, hl, q⟩ => by
    have ra := vals_of rs1 es
    refine ⟨by rw [ra.length]; exact Evl.sz_of hl, fun p hp => ?_⟩
    have x2 : Xt (dom m1) H1 (dom m1) (upd H1 p (.lst vs)) := Xt.new hp
    exact k _ _ (.val (.lst ds)) m1 (x1.trans x2) (so1.new hp) (show Rp _ _ _ _ from .lst (by rw [hid_out (dom_none.mpr (so1.notin hp))]; exact upd_same) (ra.mono x2.ex)) q

/-! operators by values -/
inductive Rs where
  | v (d : D) | l (ds : List D)
def Rs.d : Rs → D
  | .v d => d
  | .l ds => .lst ds
def kR (K : PySem.W.Frag) (M : Dm) (H : Hp) (Q : VK) : Rs → Prop
  | .v d => ∀ v H', Xt M H M H' → (∀ a, M a = true → H' a = H a) → Rp K (hid M H') v d → Q v H'
  | .l ds => ∀ p xs, H p = none → RpA K (hid M H) xs ds → Q (.ref p) (upd H p (.lst xs))
def rD2 (K : PySem.W.Frag) (f : D → D → Rs → Prop) : R2 := fun x y H Q => ∃ M a b c, (∀ z, M z = true → H z ≠ none) ∧ RpW K M H x a ∧ RpW K M H y b ∧ f a b c ∧ kR K M H Q c
def rD1 (K : PySem.W.Frag) (f : D → Rs → Prop) : V → Hp → VK → Prop := fun x H Q => ∃ M a c, (∀ z, M z = true → H z ≠ none) ∧ RpW K M H x a ∧ f a c ∧ kR K M H Q c
def RpWs (K : PySem.W.Frag) (M : Dm) (H : Hp) : List V → List D → Prop := Paired (RpW K M H)
def rDN (K : PySem.W.Frag) (f : List D → Rs → Prop) : List V → Hp → VK → Prop := fun xs H Q => ∃ M ds c, (∀ z, M z = true → H z ≠ none) ∧ RpWs K M H xs ds ∧ f ds c ∧ kR K M H Q c
theorem StoOk.live {H : Hp} (h : StoOk K H m) : ∀ z, dom m z = true → H z ≠ none := fun z hz => by
  obtain ⟨xs, e⟩ := h.some hz
  rw [e]; simp
theorem kR.of {H : Hp} {Q : Sv → Sto → Prop} {QV : VK} {c : Rs} (so : StoOk K H m)
    (k : ∀ v H' s m', Xt (dom m) H (dom m') H' → StoOk K H' m' → RpS K (dom m') H' v s → Q s m' → QV v H') (q : Q (.val c.d) m) : kR K (dom m) H QV c := by
  cases c with
  | v d => exact fun v H' x kp rp => k v H' (.val d) m x (so.keep x kp) rp q
  | l ds => exact fun p xs hp ra => k _ _ (.val (.lst ds)) m (Xt.new hp) (so.new hp) (show Rp _ _ _ _ from .lst (by rw [hid_out (dom_none.mpr (so.notin hp))]; exact upd_same) (ra.mono (Xt.new hp).ex)) q
theorem kR.ofO {H : Hp} {Q : Sv → Sto → Prop} {QV : VK} {ds : List D} (so : StoOk K H m)
    (k : ∀ v H' s m', Xt (dom m) H (dom m') H' → StoOk K H' m' → RpS K (dom m') H' v s → Q s m' → QV v H') (q : ∀ p, m p = none → Q (.adr p) (stS m p ds)) : kR K (dom m) H QV (.l ds) :=
  fun p xs hp ra => k _ _ (.adr p) (stS m p ds) (Xt.own hp) (so.own hp ra) ⟨rfl, dom_some stS_same⟩ (q p (so.notin hp))
theorem we_op {f : D → D → Rs → Prop} {ta tb : TE} {Q : Sv → Sto → Prop} (h : WE K r m ta fun s m1 => WE K r m1 tb fun t m2 => ∃ a b c, vw m2 s = some a ∧ vw m2 t = some b ∧ f a b c ∧ Q (.val c.d) m2) : WE K r m (tOp (rD2 K f) ta tb) Q := fun σ H QV e st k =>
  h σ H _ e st fun v H1 s m1 x1 so1 rs1 q1 => q1 σ H1 _ (e.mono x1) so1 fun u H2 t m2 x2 so2 rs2 ⟨a, b, c, ha, hb, hf, q⟩ =>
    ⟨dom m2, a, b, c, so2.live, RpW.of (rs1.mono x2) so2 ha, RpW.of rs2 so2 hb, hf, kR.of so2 (fun v H' s m' x => k v H' s m' ((x1.trans x2).trans x)) q⟩
theorem we_opO {f : D → D → Rs → Prop} {ta tb : TE} {Q : Sv → Sto → Prop} (h : WE K r m ta fun s m1 => WE K r m1 tb fun t m2 => ∃ a b ds, vw m2 s = some a ∧ vw m2 t = some b ∧ f a b (.l ds) ∧ ∀ p, m2 p = none → Q (.adr p) (stS m2 p ds)) : WE K r m (tOp (rD2 K f) ta tb) Q := fun σ H QV e st k =>
  h σ H _ e st fun v H1 s m1 x1 so1 rs1 q1 => q1 σ H1 _ (e.mono x1) so1 fun u H2 t m2 x2 so2 rs2 ⟨a, b, c, ha, hb, hf, q⟩ =>
    ⟨dom m2, a, b, .l c, so2.live, RpW.of (rs1.mono x2) so2 ha, RpW.of rs2 so2 hb, hf, kR.ofO so2 (fun v H' s m' x => k v H' s m' ((x1.trans x2).trans x)) q⟩
theorem we_un {f : D → Rs → Prop} {ta : TE} {Q : Sv → Sto → Prop} (h : WE K r m ta fun s m1 => ∃ a c, vw m1 s = some a ∧ f a c ∧ Q (.val c.d) m1) : WE K r m (tUn (rD1 K f) ta) Q := fun σ H QV e st k =>
  h σ H _ e st fun v H1 s m1 x1 so1 rs1 ⟨a, c, ha, hf, q⟩ => ⟨dom m1, a, c, so1.live, RpW.of rs1 so1 ha, hf, kR.of so1 (fun v H' s m' x => k v H' s m' (x1.trans x)) q⟩
theorem RpWs.of {H : Hp} (st : StoOk K H m) : ∀ {vs : List V} {ss : List Sv} {ds : List D}, RpSs K (dom m) H vs ss → ss.map (vw m) = ds.map some → RpWs K (dom m) H vs ds
  | _, _, [], .nil, _ => .nil
  | _, _, [], .cons _ _, e => by cases e
  | _, _, _ :: _, .nil, e => by cases e
  | _, _, d :: ds, .cons h t, e => by
    injection e with e1 e2
    exact .cons (RpW.of h st e1) (RpWs.of st t e2)
theorem we_cb {f : List D → Rs → Prop} {ta : TA} {Q : Sv → Sto → Prop} (h : WA K r m ta fun ss m1 => ∃ ds c, ss.map (vw m1) = ds.map some ∧ f ds c ∧ Q (.val c.d) m1) : WE K r m (tCB (rDN K f) ta) Q := fun σ H QV e st k =>
  h σ H _ e st fun vs H1 ss m1 x1 so1 rs1 ⟨ds, c, hs, hf, q⟩ => ⟨dom m1, ds, c, so1.live, RpWs.of so1 rs1 hs, hf, kR.of so1 (fun v H' s m' x => k v H' s m' (x1.trans x)) q⟩
theorem we_cbO {f : List D → Rs → Prop} {ta : TA} {Q : Sv → Sto → Prop} (h : WA K r m ta fun ss m1 => ∃ ds es, ss.map (vw m1) = ds.map some ∧ f ds (.l es) ∧ ∀ p, m1 p = none → Q (.adr p) (stS m1 p es)) : WE K r m (tCB (rDN K f) ta) Q := fun σ H QV e st k =>
  h σ H _ e st fun vs H1 ss m1 x1 so1 rs1 ⟨ds, c, hs, hf, q⟩ => ⟨dom m1, ds, .l c, so1.live, RpWs.of so1 rs1 hs, hf, kR.ofO so1 (fun v H' s m' x => k v H' s m' (x1.trans x)) q⟩
end
end Cr

/-! Cr2: statements, loops, comprehensions, promises over data. -/
namespace Cr
open PySem PySem.Spec PyProof.Rows L2
section
variable {K : PySem.W.Frag} {M : Dm} {r : Ro} {m : Sto} {P : Eds}
/-! ### statements -/
theorem ws_next (q : P.nx r m) : WS K M r m tNext P := fun σ H H0 D' e st x d => d.nx σ H r m x st e q
theorem ws_seq {t u : TS} (h : WS K M r m t { P with nx := fun r' m' => WS K M r' m' u P }) : WS K M r m (tSeq t u) P := fun σ H H0 D' e st x d =>
  h σ H H0 { D' with nx := u D' } e st x ⟨fun σ' H' r' m' x' s' e' q => q σ' H' H0 D' e' s' x' d, d.rt, d.bk, d.ct, d.xc⟩
theorem ws_asg {te : TE} {i : Nat} (h : WE K r m te fun s m1 => P.nx (r.set i (some s)) m1) : WS K M r m (tAsg te (gName i)) P := fun σ H H0 D' e st x d =>
  h σ H _ e st fun v H1 s m1 x1 so1 rs q => by
    have e1 := e.mono x1
    refine d.nx (σ.set i (some v)) H1 _ m1 (x.trans x1) so1 ⟨by rw [List.length_set, List.length_set]; exact e1.1, fun j t ht => ?_⟩ q
    by_cases hj : i = j
    · subst hj
      rw [List.getElem?_set] at ht
      by_cases hl : i < r.length
      · rw [if_pos rfl, if_pos hl] at ht
        cases ht
        refine ⟨v, ?_, rs⟩
        rw [List.getElem?_set, if_pos rfl, if_pos (by rw [e1.1]; exact hl)]
      · rw [if_pos rfl, if_neg hl] at ht
        cases ht
    · rw [List.getElem?_set_ne hj] at ht
      obtain ⟨u, h1, h2⟩ := e1.2 j t ht
      exact ⟨u, by rw [List.getElem?_set_ne hj]; exact h1, h2⟩
theorem ws_asgG {te : TE} {g : TG} (js : List Nat) (h : WE K r m te fun s m1 => WG K g js s r m1 fun r' => P.nx r' m1) : WS K M r m (tAsg te g) P := fun σ H H0 D' e st x d =>
  h σ H _ e st fun v H1 s m1 x1 so1 rs q => q v σ H1 _ (e.mono x1) so1 rs fun σ' r' e' _ _ q' => d.nx σ' H1 r' m1 (x.trans x1) so1 e' q'
theorem ws_ret {te : TE} (h : WE K r m te P.rt) : WS K M r m (tRet te) P := fun σ H H0 D' e st x d =>
  h σ H _ e st fun v H1 s m1 x1 so1 rs q => d.rt v H1 s m1 (x.trans x1) so1 rs q
theorem ws_retN (q : P.rt (.val .non) m) : WS K M r m tRetN P := fun σ H H0 D' e st x d => d.rt .non H (.val .non) m x st (show Rp _ _ _ _ from .non) q
theorem ws_drop {te : TE} (h : WE K r m te fun _ m1 => P.nx r m1) : WS K M r m (tDrop te) P := fun σ H H0 D' e st x d =>
  h σ H _ e st fun v H1 s m1 x1 so1 rs q => d.nx σ H1 r m1 (x.trans x1) so1 (e.mono x1) q
theorem ws_if {c : TT} {t u : TS} (h : WT K r m c fun b m1 => if b = true then WS K M r m1 t P else WS K M r m1 u P) : WS K M r m (tIfS c t u) P := fun σ H H0 D' e st x d =>
  h σ H _ e st fun b H1 m1 x1 so1 q => by
    cases b with
    | true => exact (show WS K M r m1 t P from q) σ H1 H0 D' (e.mono x1) so1 (x.trans x1) d
    | false => exact (show WS K M r m1 u P from q) σ H1 H0 D' (e.mono x1) so1 (x.trans x1) d
theorem ws_cont (q : P.ct r m) : WS K M r m tCont P := fun σ H H0 D' e st x d => d.ct σ H r m x st e q
theorem ws_break (q : P.bk r m) : WS K M r m tBreak P := fun σ H H0 D' e st x d => d.bk σ H r m x st e q
theorem WS.imp {ts : TS} {P' : Eds} (h : WS K M r m ts P) (h1 : ∀ r' m', P.nx r' m' → P'.nx r' m') (h2 : ∀ s m', P.rt s m' → P'.rt s m') (h3 : ∀ r' m', P.bk r' m' → P'.bk r' m') (h4 : ∀ r' m', P.ct r' m' → P'.ct r' m') (hW : ∀ c d σ H, P'.W c d σ H → P.W c d σ H := by exact fun _ _ _ _ h => h) (h5 : ∀ C fs r' m', P.xc C fs r' m' → P'.xc C fs r' m' := by exact fun _ _ _ _ h => h) : WS K M r m ts P' := fun σ H H0 D' e st x d =>
  h σ H H0 D' e st x ⟨fun σ' H' r' m' a b c q => d.nx σ' H' r' m' a b c (h1 _ _ q), fun v H' s m' a b c q => d.rt v H' s m' a b c (h2 _ _ q), fun σ' H' r' m' a b c q => d.bk σ' H' r' m' a b c (h3 _ _ q), fun σ' H' r' m' a b c q => d.ct σ' H' r' m' a b c (h4 _ _ q), fun σ' H' r' m' C dd vs fs a b c u v q => hW _ _ _ _ (d.xc σ' H' r' m' C dd vs fs a b c u v (h5 _ _ _ _ q))⟩
/-- less is known of the slots -/
theorem WS.env {r2 : Ro} {ts : TS} (hl : r2.length = r.length) (hr : ∀ (i : Nat) (s : Sv), r2[i]? = some (some s) → r[i]? = some (some s)) (h : WS K M r2 m ts P) : WS K M r m ts P := fun σ H H0 D' e st x d =>
  h σ H H0 D' ⟨e.1.trans hl.symm, fun i s q => e.2 i s (hr i s q)⟩ st x d
/-- an owned list is let free -/
def frzS (p : Addr) (ds : List D) : Option Sv → Option Sv
  | some (.adr a) => if a = p then some (.val (.lst ds)) else some (.adr a)
  | s => s
theorem ws_frz {ts : TS} {p : Addr} {ds : List D} (hp : m p = some ds) (hM : M p = false) (h : WS K M (r.map (frzS p ds)) (stD m p) ts P) : WS K M r m ts P := fun σ H H0 D' e st x d => by
  obtain ⟨s1, s2⟩ := st.frz hp
  refine h σ H H0 D' ⟨by rw [List.length_map]; exact e.1, fun i s q => ?_⟩ s1 (x.frz hM) d
  rw [List.getElem?_map] at q
  cases ei : r[i]? with
  | none => rw [ei] at q; cases q
  | some o =>
    rw [ei] at q
    cases o with
    | none => cases q
    | some z =>
      obtain ⟨v, h1, h2⟩ := e.2 i z ei
      cases z with
      | val dd =>
        have q2 : some (some (Sv.val dd)) = some (some s) := q
        cases q2
        exact ⟨v, h1, Rp.mono (hid_sub stD_sub) h2⟩
      | adr a =>
        have q2 : some (if a = p then some (Sv.val (.lst ds)) else some (.adr a)) = some (some s) := q
        obtain ⟨rfl, h3⟩ := h2
        by_cases z : a = p
        · rw [if_pos z] at q2
          cases q2
          exact ⟨_, h1, by rw [z]; exact s2⟩
        · rw [if_neg z] at q2
          cases q2
          obtain ⟨es, ee⟩ := dom_true h3
          exact ⟨_, h1, rfl, dom_some (show stD m p a = some es by unfold stD; rw [if_neg z]; exact ee)⟩
theorem ws_aug {te : TE} {i : Nat} {f : Int → Int → Int} {a : Int} (ha : r[i]? = some (some (.val (.int a)))) (h : WE K r m te fun s m1 => ∃ b, s = .val (.int b) ∧ P.nx (r.set i (some (.val (.int (f a b))))) m1) : WS K M r m (tAug i te (ipI f)) P := fun σ H H0 D' e st x d => by
  obtain ⟨v, h1, h2⟩ := e.2 i _ ha
  have h2' : Rp K (hid (dom m) H) v (.int a) := h2
  cases h2'
  refine ⟨_, h1, h σ H _ e st fun u H1 s m1 x1 so1 rs ⟨b, es, q⟩ => ?_⟩
  subst es
  have rs' : Rp K (hid (dom m1) H1) u (.int b) := rs
  cases rs'
  exact ⟨a, b, rfl, rfl, (ws_asg (te := tC (.int (f a b))) (i := i) (M := M) (we_int q)) σ H1 H0 D' (e.mono x1) so1 (x.trans x1) d⟩
/-- two names at once -/
theorem ws_par {ta : TA} {i j : Nat} (h : WA K r m ta fun ss m1 => ∃ s t, ss = [s, t] ∧ P.nx ((r.set i (some s)).set j (some t)) m1) : WS K M r m (tPar i j ta) P := fun σ H H0 D' e st x d =>
  h σ H _ e st fun vs H1 ss m1 x1 so1 rs ⟨s, t, es, q⟩ => by
    subst es
    cases rs with
    | cons r1 rs =>
      cases rs with
      | cons r2 rs =>
        cases rs
        refine ⟨_, _, rfl, ?_⟩
        have e1 := e.mono x1
        have key : ∀ {σ : L2.St} {r : Ro} {v : V} {s : Sv} {i : Nat}, EnvOk K (dom m1) H1 σ r → RpS K (dom m1) H1 v s → EnvOk K (dom m1) H1 (σ.set i (some v)) (r.set i (some s)) := fun {σ r v s i} e rs => by
          refine ⟨by rw [List.length_set, List.length_set]; exact e.1, fun j t ht => ?_⟩
          by_cases hj : i = j
          · subst hj
            rw [List.getElem?_set] at ht
            by_cases hl : i < r.length
            · rw [if_pos rfl, if_pos hl] at ht
              cases ht
              exact ⟨v, by rw [List.getElem?_set, if_pos rfl, if_pos (by rw [e.1]; exact hl)], rs⟩
            · rw [if_pos rfl, if_neg hl] at ht
              cases ht
          · rw [List.getElem?_set_ne hj] at ht
            obtain ⟨u, h1, h2⟩ := e.2 j t ht
            exact ⟨u, by rw [List.getElem?_set_ne hj]; exact h1, h2⟩
        exact d.nx _ H1 _ m1 (x.trans x1) so1 (key (key e1 r1) r2) q

/-! ### targets -/
theorem EnvOk.set {M : Dm} {H : Hp} {σ : L2.St} {r : Ro} {v : V} {s : Sv} {i : Nat} (e : EnvOk K M H σ r) (rs : RpS K M H v s) : EnvOk K M H (σ.set i (some v)) (r.set i (some s)) := by
  refine ⟨by rw [List.length_set, List.length_set]; exact e.1, fun j t ht => ?_⟩
  by_cases hj : i = j
  · subst hj
    rw [List.getElem?_set] at ht
    by_cases hl : i < r.length
    · rw [if_pos rfl, if_pos hl] at ht
      cases ht
      exact ⟨v, by rw [List.getElem?_set, if_pos rfl, if_pos (by rw [e.1]; exact hl)], rs⟩
    · rw [if_pos rfl, if_neg hl] at ht
      cases ht
  · rw [List.getElem?_set_ne hj] at ht
    obtain ⟨u, h1, h2⟩ := e.2 j t ht
    exact ⟨u, by rw [List.getElem?_set_ne hj]; exact h1, h2⟩
theorem wg_name {i : Nat} {s : Sv} {Q : Ro → Prop} (q : Q (r.set i (some s))) : WG K (gName i) [i] s r m Q := fun v σ H QV e st rs k =>
  k (σ.set i (some v)) (r.set i (some s)) (e.set rs) List.length_set (fun j hj => List.getElem?_set_ne (fun z => hj (by rw [z]; exact List.mem_cons_self))) q
/-- a row of targets -/
def WGs (K : PySem.W.Frag) (g : TGs) (js : List Nat) (ds : List D) (r : Ro) (m : Sto) (Q : Ro → Prop) : Prop :=
  ∀ (vs : List V) (σ : L2.St) (H : Hp) (QV : L2.St → Hp → Prop), EnvOk K (dom m) H σ r → StoOk K H m → RpA K (hid (dom m) H) vs ds →
    (∀ σ' r', EnvOk K (dom m) H σ' r' → σ'.length = σ.length → (∀ j, j ∉ js → σ'[j]? = σ[j]?) → Q r' → QV σ' H) → g vs σ H QV
theorem wgs_nil {Q : Ro → Prop} (q : Q r) : WGs K gNil [] [] r m Q := fun vs σ H QV e st rs k => by
  cases rs
  exact ⟨rfl, k σ r e rfl (fun _ _ => rfl) q⟩
theorem wgs_cons {t : TG} {u : TGs} {js ks : List Nat} {d : D} {ds : List D} {Q : Ro → Prop} (h : WG K t js (.val d) r m fun r1 => WGs K u ks ds r1 m Q) : WGs K (gCons t u) (js ++ ks) (d :: ds) r m Q := fun vs σ H QV e st rs k => by
  cases rs with
  | cons r1 r2 =>
    refine ⟨_, _, rfl, h _ σ H _ e st r1 fun σ1 r1' e1 l1 n1 q1 => q1 _ σ1 H _ e1 st r2 fun σ2 r2' e2 l2 n2 q2 => ?_⟩
    exact k σ2 r2' e2 (l2.trans l1) (fun j hj => (n2 j fun z => hj (List.mem_append_right _ z)).trans (n1 j fun z => hj (List.mem_append_left _ z))) q2
theorem wg_tup {n : Nat} {t : TGs} {js : List Nat} {ds : List D} {Q : Ro → Prop} (hn : ds.length = n) (h : WGs K t js ds r m Q) : WG K (gTup K n t) js (.val (.tup ds)) r m Q := fun v σ H QV e st rs k => by
  have rs' : Rp K (hid (dom m) H) v (.tup ds) := rs
  cases rs' with
  | tup hs ha => exact ⟨_, _, rfl, Evl.ex_t hid_ex hs, by rw [ha.length]; exact hn, h _ σ H QV e st ha k⟩

/-! ### loops -/
theorem StoOk.liveM {H : Hp} (st : StoOk K H m) : ∀ a, dom m a = true → H a ≠ none := st.live
theorem ws_for {wi : TI} {g : TG} {tb : TS} (js : List Nat) (h : WI K r m wi fun ds m1 => ∃ I : Nat → Ro → Sto → Prop, I 0 r m1 ∧
      (∀ i d r' m', ds[i]? = some d → I i r' m' → WG K g js (.val d) r' m' fun r2 => WS K (dom m1) r2 m' tb { nx := I (i + 1), ct := I (i + 1), bk := P.nx, rt := P.rt, W := P.W, xc := P.xc }) ∧
      (∀ r' m', I ds.length r' m' → P.nx r' m')) : WS K M r m (tFor wi g tb) P := fun σ H H0 D' e st x d =>
  h σ H _ e st fun J H1 ds m1 x1 so1 io ⟨I, i0, turn, fin⟩ => by
    refine ⟨fun i n σ' H' => ∃ r' m', i + n = ds.length ∧ Xt (dom m1) H1 (dom m') H' ∧ StoOk K H' m' ∧ EnvOk K (dom m') H' σ' r' ∧ I i r' m', ⟨ds.length, r, m1, by omega, Xt.refl, so1, e.mono x1, i0⟩, ?_⟩
    rintro i n σ' H' ⟨r', m', hn, x2, so2, e2, hI⟩
    by_cases hi : i < ds.length
    · right
      refine ⟨io.go i _ _ x2 hi, fun σ3 H3 => ∃ r' m', Xt (dom m1) H1 (dom m') H3 ∧ StoOk K H3 m' ∧ EnvOk K (dom m') H3 σ3 r' ∧ I (i + 1) r' m', ?_, fun v H3 hy => ?_⟩
      · rintro σ3 H3 ⟨r3, m3, a, b, c, q⟩
        exact ⟨n - 1, by omega, r3, m3, by omega, a, b, c, q⟩
      · obtain ⟨x3, kp, rp⟩ := io.yl i _ _ v H3 ds[i] so2.live x2 (List.getElem?_eq_getElem hi) hy
        have so3 := so2.keep x3 kp
        refine turn i ds[i] r' m' (List.getElem?_eq_getElem hi) hI v σ' H3 _ (e2.mono x3) so3 rp fun σ4 r4 e4 _ _ q4 => ?_
        refine q4 σ4 H3 H1 _ e4 so3 (x2.trans x3) ⟨fun σ5 H5 r5 m5 a b c q => ⟨r5, m5, a, b, c, q⟩, fun v5 H5 s5 m5 a b c q => d.rt v5 H5 s5 m5 ((x.trans x1).trans a) b c q, fun σ5 H5 r5 m5 a b c q => d.nx σ5 H5 r5 m5 ((x.trans x1).trans a) b c q, fun σ5 H5 r5 m5 a b c q => ⟨r5, m5, a, b, c, q⟩, fun σ5 H5 r5 m5 C dd vs fs a => d.xc σ5 H5 r5 m5 C dd vs fs ((x.trans x1).trans a)⟩
    · left
      have hl : i = ds.length := by omega
      subst hl
      exact ⟨io.st _ _ x2, d.nx σ' H' r' m' ((x.trans x1).trans x2) so2 e2 (fin r' m' hI)⟩
theorem ws_while {c : TT} {tb : TS} (I : Nat → Ro → Sto → Prop) (n0 : Nat) (i0 : I n0 r m)
    (turn : ∀ n r' m', I n r' m' → WT K r' m' c fun b m1 => if b = true then WS K (dom m) r' m1 tb { nx := fun r2 m2 => ∃ n', n' < n ∧ I n' r2 m2, ct := fun r2 m2 => ∃ n', n' < n ∧ I n' r2 m2, bk := P.nx, rt := P.rt, W := P.W, xc := P.xc } else P.nx r' m1) : WS K M r m (tWhile c tb) P := fun σ H H0 D' e st x d => by
  refine ⟨fun n σ' H' => ∃ r' m', Xt (dom m) H (dom m') H' ∧ StoOk K H' m' ∧ EnvOk K (dom m') H' σ' r' ∧ I n r' m', ⟨n0, r, m, Xt.refl, st, e, i0⟩, ?_⟩
  rintro n σ' H' ⟨r', m', x2, so2, e2, hI⟩
  refine turn n r' m' hI σ' H' _ e2 so2 fun b H3 m3 x3 so3 q => ?_
  cases b with
  | true =>
    refine ⟨fun σ4 H4 => ∃ n', n' < n ∧ ∃ r4 m4, Xt (dom m) H (dom m4) H4 ∧ StoOk K H4 m4 ∧ EnvOk K (dom m4) H4 σ4 r4 ∧ I n' r4 m4, fun σ4 H4 z => z, ?_⟩
    refine (show WS K (dom m) r' m3 tb _ from q) σ' H3 H _ (e2.mono x3) so3 (x2.trans x3) ⟨fun σ5 H5 r5 m5 a b c ⟨n', hn, q⟩ => ⟨n', hn, r5, m5, a, b, c, q⟩, fun v5 H5 s5 m5 a b c q => d.rt v5 H5 s5 m5 (x.trans a) b c q, fun σ5 H5 r5 m5 a b c q => d.nx σ5 H5 r5 m5 (x.trans a) b c q, fun σ5 H5 r5 m5 a b c ⟨n', hn, q⟩ => ⟨n', hn, r5, m5, a, b, c, q⟩, fun σ5 H5 r5 m5 C dd vs fs a => d.xc σ5 H5 r5 m5 C dd vs fs (x.trans a)⟩
  | false => exact d.nx σ' H3 r' m3 (x.trans (x2.trans x3)) so3 (e2.mono x3) q
end

/-! ### comprehensions -/
def wipeR (r : Ro) : List Nat → Ro
  | [] => r
  | v :: vs => (wipeR r vs).set v none
theorem wipe_env {K : PySem.W.Frag} {M : Dm} {H : Hp} {σ : L2.St} {r : Ro} (e : EnvOk K M H σ r) : ∀ vs : List Nat, EnvOk K M H (wipe σ vs) (wipeR r vs)
  | [] => e
  | v :: vs => by
    have ih := wipe_env e vs
    refine ⟨by show ((wipe σ vs).set v none).length = ((wipeR r vs).set v none).length; rw [List.length_set, List.length_set]; exact ih.1, fun j t ht => ?_⟩
    have ht2 : ((wipeR r vs).set v none)[j]? = some (some t) := ht
    by_cases hj : v = j
    · subst hj
      rw [List.getElem?_set] at ht2
      by_cases hl : v < (wipeR r vs).length
      · rw [if_pos rfl, if_pos hl] at ht2; cases ht2
      · rw [if_pos rfl, if_neg hl] at ht2; cases ht2
    · rw [List.getElem?_set_ne hj] at ht2
      obtain ⟨u, h1, h2⟩ := ih.2 j t ht2
      exact ⟨u, by show ((wipe σ vs).set v none)[j]? = _; rw [List.getElem?_set_ne hj]; exact h1, h2⟩
theorem wipe_get {σ : L2.St} {j : Nat} : ∀ {vs : List Nat}, j ∈ vs → (wipe σ vs)[j]? = if j < σ.length then some none else none
  | [], h => by cases h
  | v :: vs, h => by
    show ((wipe σ vs).set v none)[j]? = _
    by_cases hj : v = j
    · subst hj
      rw [List.getElem?_set, if_pos rfl, wipe_length]
    · rw [List.getElem?_set_ne hj]
      rcases List.mem_cons.mp h with q | q
      · exact absurd q.symm hj
      · exact wipe_get q
theorem wipe_eq {σ σ' : L2.St} {vs : List Nat} (hl : σ'.length = σ.length) (hj : ∀ j, j ∉ vs → σ'[j]? = σ[j]?) : wipe σ' vs = wipe σ vs := by
  refine List.ext_getElem? fun j => ?_
  by_cases q : j ∈ vs
  · rw [wipe_get q, wipe_get q, hl]
  · rw [wipe_out q, wipe_out q, hj j q]
theorem wipe_wipe {σ : L2.St} {vs : List Nat} : wipe (wipe σ vs) vs = wipe σ vs := wipe_eq (wipe_length σ vs) fun j q => wipe_out q

section
variable {K : PySem.W.Frag} {r : Ro} {m : Sto}
/-- the general comprehension; the new list is owned while it grows, and stays so -/
theorem we_lcO {wi : TI} {g : TG} {tt : TT} {te : TE} {vs js : List Nat} {Q : Sv → Sto → Prop} (hjs : ∀ j ∈ js, j ∈ vs)
    (h : WI K r m wi fun ds m1 => ds.length ≤ 100000 ∧ ∀ p, m1 p = none → ∃ I : Nat → List D → Sto → Prop, I 0 [] (stS m1 p []) ∧
      (∀ i d acc m', ds[i]? = some d → acc.length ≤ i → m' p = some acc → I i acc m' → WG K g js (.val d) (wipeR r vs) m' fun r2 => WT K r2 m' tt fun b m2 => if b = true then WE K r2 m2 te fun s m3 => ∃ x, s = .val x ∧ m3 p = some acc ∧ I (i + 1) (acc ++ [x]) (stS m3 p (acc ++ [x])) else m2 p = some acc ∧ I (i + 1) acc m2) ∧
      (∀ acc m', m' p = some acc → I ds.length acc m' → Q (.adr p) m')) : WE K r m (tLc wi g tt te vs) Q := fun σ H QV e st k =>
  h σ H _ e st fun J H1 ds m1 x1 so1 io ⟨hsz, q1⟩ D hD => by
    obtain ⟨I, i0, turn, fin⟩ := q1 D (so1.notin hD)
    refine ⟨fun i n H' => ∃ acc m', i + n = ds.length ∧ acc.length ≤ i ∧ Xt (dom m1) H1 (dom m') H' ∧ StoOk K H' m' ∧ m' D = some acc ∧ I i acc m', ⟨ds.length, [], stS m1 D [], by omega, Nat.le_refl _, Xt.own hD, so1.own hD .nil, stS_same, i0⟩, ?_⟩
    rintro i n H' ⟨acc, m', hn, hacc, x2, so2, hm, hI⟩
    by_cases hi : i < ds.length
    · right
      refine ⟨io.go i _ _ x2 hi, fun H3 => ∃ acc' m3, acc'.length ≤ i + 1 ∧ Xt (dom m1) H1 (dom m3) H3 ∧ StoOk K H3 m3 ∧ m3 D = some acc' ∧ I (i + 1) acc' m3, ?_, fun v H3 hy => ?_⟩
      · rintro H3 ⟨acc', m3, hl, a, b, c, q⟩
        exact ⟨n - 1, by omega, acc', m3, by omega, hl, a, b, c, q⟩
      · obtain ⟨x3, kp, rp⟩ := io.yl i _ _ v H3 ds[i] so2.live x2 (List.getElem?_eq_getElem hi) hy
        have so3 := so2.keep x3 kp
        have e3 : EnvOk K (dom m') H3 (wipe σ vs) (wipeR r vs) := wipe_env ((e.mono x1).mono (x2.trans x3)) vs
        refine turn i ds[i] acc m' (List.getElem?_eq_getElem hi) hacc hm hI v (wipe σ vs) H3 _ e3 so3 rp fun σ4 r4 e4 l4 n4 q4 => ⟨?_, ?_⟩
        · exact (wipe_eq l4 fun j hj => n4 j fun z => hj (hjs j z)).trans wipe_wipe
        · refine q4 σ4 H3 _ e4 so3 fun b H4 m4 x4 so4 q5 => ?_
          cases b with
          | false =>
            obtain ⟨c1, c2⟩ := q5
            exact ⟨acc, m4, by omega, (x2.trans x3).trans x4, so4, c1, c2⟩
          | true =>
            refine (show WE K r4 m4 te _ from q5) σ4 H4 _ (e4.mono x4) so4 fun y H5 s m5 x5 so5 rs ⟨x, es, c1, c2⟩ => ?_
            subst es
            obtain ⟨xs, hx, ra⟩ := so5 D acc c1
            have rs' : Rp K (hid (dom m5) H5) y x := rs
            have hlen : acc.length < sizeLine := Evl.sz_lt (by omega)
            refine ⟨xs, hx, by rw [ra.length]; exact hlen, acc ++ [x], stS m5 D (acc ++ [x]), by rw [List.length_append]; show acc.length + 1 ≤ i + 1; omega, ?_, so5.wr c1 (ra.append (.cons rs' .nil)), stS_same, c2⟩
            have w : Xt (dom m5) H5 (dom m5) (upd H5 D (.lst (xs ++ [y]))) := Xt.wr (dom_some c1)
            rw [dom_stS c1]
            exact (((x2.trans x3).trans x4).trans x5).trans w
    · left
      have hl : i = ds.length := by omega
      subst hl
      exact ⟨io.st _ _ x2, k (.ref D) H' (.adr D) m' (x1.trans x2) so2 ⟨rfl, dom_some hm⟩ (fin acc m' hm hI)⟩
/-- an owned fresh result is let free -/
theorem we_free {te : TE} {Q : Sv → Sto → Prop} (h : WE K r m te fun s m1 => ∃ p ds, s = .adr p ∧ m p = none ∧ m1 p = some ds ∧ Q (.val (.lst ds)) (stD m1 p)) : WE K r m te Q := fun σ H QV e st k =>
  h σ H QV e st fun v H1 s m1 x1 so1 rs ⟨p, ds, es, hp, hm, q⟩ => by
    subst es
    obtain ⟨rfl, _⟩ := rs
    obtain ⟨s1, s2⟩ := so1.frz hm
    exact k _ H1 (.val (.lst ds)) (stD m1 p) (x1.frz (dom_none.mpr hp)) s1 s2 q
/-- a comprehension whose tests and element leave the store as it is -/
theorem we_lc {wi : TI} {g : TG} {tt : TT} {te : TE} {vs js : List Nat} {Q : Sv → Sto → Prop} (hjs : ∀ j ∈ js, j ∈ vs)
    (h : WI K r m wi fun ds m1 => ds.length ≤ 100000 ∧ m1 = m ∧ ∃ (f : D → Bool) (v : D → D), (∀ d ∈ ds, ∀ m', WG K g js (.val d) (wipeR r vs) m' fun r2 => WT K r2 m' tt fun b m2 => b = f d ∧ m2 = m' ∧ (b = true → WE K r2 m' te fun s m3 => s = .val (v d) ∧ m3 = m')) ∧
      Q (.val (.lst ((ds.filter f).map v))) m) : WE K r m (tLc wi g tt te vs) Q := by
  refine we_free (we_lcO hjs fun σ H R e st k => h σ H R e st fun J H' ds mz x so io ⟨hl, em, f, v, turn, q⟩ => k J H' ds mz x so io ⟨hl, fun p hp => ?_⟩)
  subst em
  refine ⟨fun i acc m' => m' = stS mz p acc ∧ acc = ((ds.take i).filter f).map v, ⟨rfl, rfl⟩, ?_, ?_⟩
  · rintro i d acc m' hd _ hm ⟨rfl, rfl⟩
    have hmem : d ∈ ds := List.mem_of_getElem? hd
    have tk : ds.take (i + 1) = ds.take i ++ [d] := by rw [List.take_add_one, hd]; rfl
    refine fun v1 σ1 H1 QV1 e1 st1 rs1 k1 => turn d hmem _ v1 σ1 H1 QV1 e1 st1 rs1 fun σ2 r2 e2 l2 n2 q2 => k1 σ2 r2 e2 l2 n2 (q2.imp fun b m2 ⟨hb, hm2, q3⟩ => ?_)
    subst hm2
    cases b with
    | true =>
      refine (q3 rfl).imp fun s m3 ⟨hs, hm3⟩ => ⟨v d, hs, by rw [hm3]; exact stS_same, ?_, ?_⟩
      · rw [hm3, stS_stS]
      · rw [tk, List.filter_append, List.map_append]
        have : [d].filter f = [d] := by rw [List.filter_cons, if_pos hb.symm]; rfl
        rw [this]; rfl
    | false =>
      refine ⟨stS_same, rfl, ?_⟩
      rw [tk, List.filter_append, List.map_append]
      have : [d].filter f = [] := by rw [List.filter_cons, if_neg (by rw [← hb]; exact Bool.false_ne_true)]; rfl
      rw [this]
      simp
  · rintro acc m' hm ⟨rfl, rfl⟩
    refine ⟨p, _, rfl, hp, stS_same, ?_⟩
    rw [stD_stS hp, List.take_length]
    exact q

/-! ### promises over data -/
abbrev Tr := List Sv → Sto → (Sv → Sto → Prop) → Prop
def SpD (K : PySem.W.Frag) (T : Tr) : Sp := fun vs H QV _ => ∃ m ss Q, StoOk K H m ∧ RpSs K (dom m) H vs ss ∧ T ss m Q ∧
  ∀ v H' s m', Xt (dom m) H (dom m') H' → StoOk K H' m' → RpS K (dom m') H' v s → Q s m' → QV v H'
theorem we_call {T : Tr} {E : XK} {ta : TA} {Q : Sv → Sto → Prop} (h : WA K r m ta fun ss m1 => T ss m1 Q) : WE K r m (tCall (SpD K T) [] E ta) Q := fun σ H QV e st k =>
  h σ H _ e st fun vs H1 ss m1 x1 so1 rs q => ⟨m1, ss, Q, so1, by rw [List.append_nil]; exact rs, q, fun v H' s m' x so rp q' => k v H' s m' (x1.trans x) so rp q'⟩
def startR (N : List Str) (ss : List Sv) : Ro := ss.map some ++ List.replicate (N.length - ss.length) none
theorem RpSs.length {M : Dm} {H : Hp} {vs : List V} {ss : List Sv} (h : RpSs K M H vs ss) : vs.length = ss.length := Paired.length h
theorem RpSs.get {M : Dm} {H : Hp} : ∀ {vs : List V} {ss : List Sv} {i : Nat} {s : Sv}, RpSs K M H vs ss → ss[i]? = some s → ∃ v, vs[i]? = some v ∧ RpS K M H v s
  | _, _, _, _, .nil, e => by simp at e
  | _, _, 0, _, .cons h _, e => by simp at e; subst e; exact ⟨_, rfl, h⟩
  | _, _, i + 1, d, .cons _ t, e => by
    obtain ⟨v, h1, h2⟩ := RpSs.get (i := i) (s := d) t (by simpa using e)
    exact ⟨v, by simpa using h1, h2⟩
theorem start_env {N : List Str} {H : Hp} {vs : List V} {ss : List Sv} (h : RpSs K (dom m) H vs ss) : EnvOk K (dom m) H (L2.start N vs) (startR N ss) := by
  have hl := h.length
  refine ⟨by unfold L2.start startR; rw [List.length_append, List.length_append, List.length_map, List.length_map, List.length_replicate, List.length_replicate, hl], fun i s e => ?_⟩
  unfold startR at e
  by_cases hi : i < ss.length
  · rw [List.getElem?_append_left (by rw [List.length_map]; exact hi), List.getElem?_map] at e
    cases q : ss[i]? with
    | none => rw [q] at e; cases e
    | some t =>
      rw [q] at e
      have e' : some (some t) = some (some s) := e
      cases e'
      obtain ⟨v, h1, h2⟩ := h.get q
      refine ⟨v, ?_, h2⟩
      unfold L2.start
      rw [List.getElem?_append_left (by rw [List.length_map, hl]; exact hi), List.getElem?_map, h1]
      rfl
  · rw [List.getElem?_append_right (by rw [List.length_map]; omega), List.getElem?_replicate] at e
    split at e <;> cases e
theorem body_ok {T : Tr} {t : TS} {N : List Str} (h : ∀ ss m Q, T ss m Q → WS K (dom m) (startR N ss) m t { nx := fun _ m' => Q (.val .non) m', rt := Q }) {vs : List V} {H : Hp} {QV : VK} {E : XK} (q : SpD K T vs H QV E) :
    t { nx := fun _ H' => QV .non H', rt := QV } (L2.start N vs) H := by
  obtain ⟨m, ss, Q, so, rs, ht, k⟩ := q
  refine h ss m Q ht (L2.start N vs) H H _ (start_env rs) so Xt.refl ⟨fun σ' H' r' m' x so' e' q => k .non H' (.val .non) m' x so' (show Rp _ _ _ _ from .non) q, fun v H' s m' x so' rs' q => k v H' s m' x so' rs' q, fun _ _ _ _ _ _ _ q => q, fun _ _ _ _ _ _ _ q => q, fun _ _ _ _ _ _ _ _ _ _ _ _ _ q => q⟩
theorem len_ok {T : Tr} {n : Nat} (h : ∀ ss m Q, T ss m Q → ss.length = n) : ∀ vs H Q E, SpD K T vs H Q E → vs.length = n := fun vs H Q E ⟨m, ss, Q', so, rs, ht, _⟩ => by
  rw [rs.length]; exact h _ _ _ ht
/-- a def that computes, from data alone -/
def Pu (F : List D → Option D) : Tr := fun ss m Q => ∃ ds d, ss.map (vw m) = ds.map some ∧ F ds = some d ∧ Q (.val d) m
end
end Cr

/-! CrM: a tuple taken once, or not at all. -/
namespace Cr
open PySem PySem.Spec PyProof.Rows L2
theorem tuple_mul1 (l : Addr) (items : Array Value) (n : Nat) (dd : Option Addr) (sl : Array (Option Value)) (x : Int) (u : Tok) (c0 : (decide (x < -(2 ^ 63)) || decide (x ≥ 2 ^ 63)) = false) (c1 : (items.isEmpty || x == 1) = true) :
    Meets (Builtin.«tuple.__mul__» ⟨[.ref l, .int x u], []⟩) (fun _ R s => s.heap.get? l = some { cls := .type "tuple", dict := dd, data := .seq items n, slots := sl } ∧
      R (.ok (.ret (Value.ref l))) s) :=
  .of_wp fun prog w A R s h => by
    obtain ⟨hp, g, d, tk, os⟩ := s
    obtain ⟨hl, h⟩ := h
    have f1 := AutoSeq1.idx_int
    wp_walk using wpAny_loadPart' hl
    repeat (first
      | (refine wpAny_ite_false (decide_eq_false (by rw [c0]; exact Bool.false_ne_true)) ?_; wp_walk using wpAny_loadPart' hl)
      | (refine wpAny_ite_true (decide_eq_true (by rw [c1])) ?_; wp_walk using wpAny_loadPart' hl))
    exact ⟨_, rfl, h⟩
theorem tuple_mul0 (l : Addr) (items : Array Value) (n : Nat) (dd : Option Addr) (sl : Array (Option Value)) (x : Int) (u : Tok) (c0 : (decide (x < -(2 ^ 63)) || decide (x ≥ 2 ^ 63)) = false) (c1 : (items.isEmpty || x == 1) = false) (c2 : (decide (x ≤ 0) || items.isEmpty) = true) :
    Meets (Builtin.«tuple.__mul__» ⟨[.ref l, .int x u], []⟩) (fun _ R s => s.heap.get? l = some { cls := .type "tuple", dict := dd, data := .seq items n, slots := sl } ∧
      R (.ok (.ret (Value.ref s.heap.objs.size))) { s with heap := s.heap.push { cls := Value.type "tuple", data := Data.seq #[] }, toks := s.toks }) :=
  .of_wp fun prog w A R s h => by
    obtain ⟨hp, g, d, tk, os⟩ := s
    obtain ⟨hl, h⟩ := h
    have f1 := AutoSeq1.idx_int
    wp_walk using wpAny_loadPart' hl
    repeat (first
      | (refine wpAny_ite_false (decide_eq_false (by rw [c0]; exact Bool.false_ne_true)) ?_; wp_walk using wpAny_loadPart' hl)
      | (refine wpAny_ite_false (decide_eq_false (by rw [c1]; exact Bool.false_ne_true)) ?_; wp_walk using wpAny_loadPart' hl)
      | (refine wpAny_ite_true (decide_eq_true (by rw [c2])) ?_; wp_walk using wpAny_loadPart' hl))
    exact ⟨_, rfl, h⟩
/-- t * k, for few items and small numbers -/
def rRepS (K : PySem.W.Frag) : R2 := fun x y H Q => ∃ l k xs, x = .ref l ∧ y = .int k ∧ SqT K H l xs ∧ -1000 ≤ k ∧ k ≤ 1000 ∧ xs.length ≤ 1000 ∧
  (k = 1 ∨ xs = [] → Q (.ref l) H) ∧ ∀ p, H p = none → Q (.ref p) (upd H p (.tup (List.replicate k.toNat xs).flatten))
section
variable {X : Cx}
theorem op_repS : OpR X (binaryOp .Mult) (rRepS X.K) := by
  intro pins s σ H x y v u Q I rx ry h
  obtain ⟨l, k, xs, rfl, rfl, hT, h1, h2, hz, q1, q⟩ := h
  by_cases hk : 2 ≤ k ∧ xs ≠ []
  · exact op_repT pins s σ H _ _ v u Q I rx ry ⟨l, k, xs, rfl, rfl, hT, hk.2, hk.1, h2, hz, q⟩
  cases rx
  obtain ⟨t, rfl⟩ := ry
  obtain ⟨its, r, ⟨⟨cls, dd, data, sl⟩, ho, hc, n, hd⟩, hs⟩ := I.tuple hT
  simp only at hc hd
  subst hc hd
  have hle : its.length = xs.length := r.length.symm
  have c0 : (decide (k < -(2 ^ 63)) || decide (k ≥ 2 ^ 63)) = false := by
    rw [decide_eq_false (by omega), decide_eq_false (by omega)] <;> rfl
  by_cases e1 : k = 1 ∨ xs = []
  · have c1 : (its.toArray.isEmpty || k == 1) = true := by
      rcases e1 with e | e
      · subst e; simp
      · rw [e] at hle
        have : its = [] := List.eq_nil_of_length_eq_zero hle
        subst this
        rfl
    refine wpAny_binaryOp_repeat_ref (T := "tuple") (U := "int") (by decide) ⟨_, ho, rfl⟩ (fun s' => typeIs_int s' k t) noFill_tuple_mul F.fills_int_mul F.slot_int_rmul repeat_tuple F.slot_int_index.lookup
      (call_meets F.slot_int_rmul (typeIs_int s k t) F.entry_int_rmul (F.args_int_rmul_2 _ _) (int_rmul_tuple k t l its.toArray n dd sl)
        ⟨ho, rfl, ⟨_, ho, rfl⟩, call_meets F.slot_tuple_mul ⟨_, ho, rfl⟩ F.entry_tuple_mul (F.args_tuple_mul_2 _ _) (tuple_mul1 l its.toArray n dd sl k t c0 c1) ⟨ho, ?_⟩⟩)
    exact ⟨.ref l, H, I, rfl, q1 e1⟩
  · have hk1 : k ≠ 1 := fun e => e1 (.inl e)
    have hx : xs ≠ [] := fun e => e1 (.inr e)
    have hk0 : k ≤ 0 := by
      have : ¬ 2 ≤ k := fun z => hk ⟨z, hx⟩
      omega
    have c1 : (its.toArray.isEmpty || k == 1) = false := by
      cases its with
      | nil => exact absurd (List.eq_nil_of_length_eq_zero hle.symm) hx
      | cons a b => simpa using hk1
    have c2 : (decide (k ≤ 0) || its.toArray.isEmpty) = true := by
      rw [decide_eq_true hk0]; rfl
    refine wpAny_binaryOp_repeat_ref (T := "tuple") (U := "int") (by decide) ⟨_, ho, rfl⟩ (fun s' => typeIs_int s' k t) noFill_tuple_mul F.fills_int_mul F.slot_int_rmul repeat_tuple F.slot_int_index.lookup
      (call_meets F.slot_int_rmul (typeIs_int s k t) F.entry_int_rmul (F.args_int_rmul_2 _ _) (int_rmul_tuple k t l its.toArray n dd sl)
        ⟨ho, rfl, ⟨_, ho, rfl⟩, call_meets F.slot_tuple_mul ⟨_, ho, rfl⟩ F.entry_tuple_mul (F.args_tuple_mul_2 _ _) (tuple_mul0 l its.toArray n dd sl k t c0 c1 c2) ⟨ho, ?_⟩⟩)
    have e0 : (List.replicate k.toNat xs).flatten = [] := by
      have : k.toNat = 0 := by omega
      rw [this]; rfl
    rw [e0] at q
    refine ⟨.ref s.heap.objs.size, _, I.laid (t' := s.toks) (o := .tup []) (fun b ob q => Heap.get?_push_of_some _ q) (Nat.le_refl _) ?_, rfl, q _ (I.hok.fresh (Nat.le_refl _))⟩
    exact ⟨by decide, [], .nil, IsTup.new _ _⟩
end
end Cr

/-! Cr3: operators, subscripts, calls of built-ins, by data. -/
namespace Cr
open PySem PySem.Spec PyProof.Rows L2

section
variable {K : PySem.W.Frag} {M : Dm} {H : Hp} {Q : VK}
theorem kR.v {d : D} {v : V} (k : kR K M H Q (.v d)) (r : Rp K (hid M H) v d) : Q v H := k v H Xt.refl (fun _ _ => rfl) r
theorem dm_fresh {p : Addr} (lv : ∀ z, M z = true → H z ≠ none) (hp : H p = none) : M p = false := by
  cases e : M p with
  | false => rfl
  | true => exact absurd hp (lv p e)
theorem kR.tup {ds : List D} {p : Addr} {xs : List V} (lv : ∀ z, M z = true → H z ≠ none) (k : kR K M H Q (.v (.tup ds))) (hp : H p = none) (ra : RpA K (hid M H) xs ds) : Q (.ref p) (upd H p (.tup xs)) := by
  have x : Xt M H M (upd H p (.tup xs)) := Xt.new hp
  refine k _ _ x (fun a ha => upd_ne (fun e => by rw [e, dm_fresh lv hp] at ha; cases ha)) (.tup (.inl (.inl ?_)) (ra.mono x.ex))
  rw [hid_out (dm_fresh lv hp)]
  exact upd_same
end

/-! ### arithmetic: relations between data -/
def szD : Nat := 100000
theorem szD_line {n : Nat} (h : n ≤ szD) : n ≤ sizeLine := Evl.sz_of h
inductive RAdd : D → D → Rs → Prop
  | int (i j : Int) : RAdd (.int i) (.int j) (.v (.int (i + j)))
  | str {a b : Str} (h : a.length + b.length ≤ szD) : RAdd (.str a) (.str b) (.v (.str (a ++ b)))
  | lst {a b : List D} (h : a.length + b.length ≤ szD) : RAdd (.lst a) (.lst b) (.l (a ++ b))
  | tup {a b : List D} (h : a.length + b.length ≤ szD) : RAdd (.tup a) (.tup b) (.v (.tup (a ++ b)))
inductive RSub : D → D → Rs → Prop
  | int (i j : Int) : RSub (.int i) (.int j) (.v (.int (i - j)))
inductive RMul : D → D → Rs → Prop
  | int {i j : Int} (h : i.natAbs.log2 + j.natAbs.log2 < 1000000) : RMul (.int i) (.int j) (.v (.int (i * j)))
  | lst {a : List D} {k : Int} (h1 : -(2 ^ 63) ≤ k) (h2 : k < 2 ^ 63) (h3 : a.length * k.toNat ≤ szD) : RMul (.lst a) (.int k) (.l (List.replicate k.toNat a).flatten)
  | tup {a : List D} {k : Int} (h1 : -1000 ≤ k) (h2 : k ≤ 1000) (h3 : a.length ≤ 1000) : RMul (.tup a) (.int k) (.v (.tup (List.replicate k.toNat a).flatten))
  | str {a : Str} {k : Int} (h1 : -1000000 ≤ k) (h2 : k ≤ 1000000) (h3 : a.length * k.toNat ≤ szD) : RMul (.str a) (.int k) (.v (.str ⟨(List.replicate k.toNat a.cps.toList).flatten.toArray⟩))
inductive RFdiv : D → D → Rs → Prop
  | int {i j : Int} (h : 0 < j) (h2 : j.natAbs.log2 < 9000) : RFdiv (.int i) (.int j) (.v (.int (i / j)))
  | any {i j : Int} (h : j ≠ 0) (h2 : j.natAbs.log2 < 9000) : RFdiv (.int i) (.int j) (.v (.int (i.fdiv j)))
inductive RMod : D → D → Rs → Prop
  | int {i j : Int} (h : 0 < j) : RMod (.int i) (.int j) (.v (.int (i % j)))
  | any {i j : Int} (h : j ≠ 0) : RMod (.int i) (.int j) (.v (.int (i.fmod j)))
inductive RPow : D → D → Rs → Prop
  | int {i j : Int} (h : 0 ≤ j) (h2 : (Builtin.Int.intBits i : Int) * j ≤ 2 ^ 27) : RPow (.int i) (.int j) (.v (.int (i ^ j.toNat)))
inductive RNeg : D → Rs → Prop
  | int (i : Int) : RNeg (.int i) (.v (.int (-i)))
inductive RCmp (p : Int → Int → Bool) : D → D → Rs → Prop
  | int (i j : Int) : RCmp p (.int i) (.int j) (.v (.bl (p i j)))
abbrev RLt := RCmp fun i j => decide (i < j)
abbrev RLe := RCmp fun i j => decide (i ≤ j)
abbrev RGt := RCmp fun i j => decide (j < i)
abbrev RGe := RCmp fun i j => decide (j ≤ i)

section
variable {X : Cx}
theorem RpW.lstX {pins : List (Addr × Obj)} {σ : L2.St} {s : Shared} {M : Dm} {H : Hp} {v : V} {ds : List D} (I : L2.Inv X pins σ H s) (h : RpW X.K M H v (.lst ds)) :
    ∃ a xs its n, v = .ref a ∧ H a = some (.lst xs) ∧ RpA X.K (hid M H) xs ds ∧ Vals xs its ∧ xs.length = its.length ∧ s.heap.get? a = some { cls := .type "list", data := .seq its.toArray n } := by
  obtain ⟨a, xs, rfl, h1, h2⟩ := h.lst
  obtain ⟨z, its, n, r, l, e⟩ := I.lstM h1
  exact ⟨a, xs, its, n, rfl, h1, h2, r, l, e⟩
theorem sqT_hid {K : PySem.W.Frag} {M : Dm} {H : Hp} {a : Addr} {xs : List V} (h : SqT K (hid M H) a xs) : SqT K H a xs := Evl.ex_t hid_ex h
theorem op_addD : OpR X (binaryOp .Add) (rD2 X.K RAdd) := by
  intro pins s σ H x y v u Q I rx ry h
  obtain ⟨M, a, b, c, lv, ha, hb, hf, k⟩ := h
  cases hf with
  | int i j =>
    cases ha.int
    cases hb.int
    exact op_add pins s σ H _ _ v u Q I rx ry ⟨i, j, rfl, rfl, k.v (.int _)⟩
  | @str i j z =>
    cases ha.str
    cases hb.str
    exact op_add_str pins s σ H _ _ v u Q I rx ry ⟨i, j, rfl, rfl, szD_line z, k.v (.str _)⟩
  | lst z =>
    obtain ⟨p, xs, rfl, h1, ra⟩ := ha.lst
    obtain ⟨p2, xs2, rfl, h2, ra2⟩ := hb.lst
    have z' := szD_line z
    have la := ra.length
    have lb := ra2.length
    exact op_cat pins s σ H _ _ v u Q I rx ry ⟨p, p2, xs, xs2, rfl, rfl, h1, h2, by omega, fun q hq => k q _ hq (ra.append ra2)⟩
  | tup z =>
    obtain ⟨p, xs, rfl, h1, ra⟩ := ha.tup
    obtain ⟨p2, xs2, rfl, h2, ra2⟩ := hb.tup
    have z' := szD_line z
    have la := ra.length
    have lb := ra2.length
    refine op_catA pins s σ H _ _ v u Q I rx ry ⟨p, p2, xs, xs2, rfl, rfl, sqT_hid h1, sqT_hid h2, by omega, fun e => ?_, fun _ e => ?_, fun _ _ q hq => k.tup lv hq (ra.append ra2)⟩
    · subst e
      cases ra
      exact k.v (.tup h2 ra2)
    · subst e
      cases ra2
      rw [List.append_nil] at k
      exact k.v (.tup h1 ra)
theorem op_subD : OpR X (binaryOp .Sub) (rD2 X.K RSub) := by
  intro pins s σ H x y v u Q I rx ry ⟨M, a, b, c, lv, ha, hb, hf, k⟩
  cases hf with
  | int i j =>
    cases ha.int
    cases hb.int
    exact op_sub pins s σ H _ _ v u Q I rx ry ⟨i, j, rfl, rfl, k.v (.int _)⟩
theorem op_fdivM : OpR X (binaryOp .FloorDiv) (rI (fun _ j => j ≠ 0 ∧ j.natAbs.log2 < 9000) fun i j => .int (i.fdiv j)) := opI fun _ _ _ _ _ _ _ hc q => floordiv_int hc.1 q (.inl (PyProof.noPylong_of_log2 hc.2))
theorem op_fdivD : OpR X (binaryOp .FloorDiv) (rD2 X.K RFdiv) := by
  intro pins s σ H x y v u Q I rx ry ⟨M, a, b, c, lv, ha, hb, hf, k⟩
  cases hf with
  | int z z2 =>
    cases ha.int
    cases hb.int
    exact op_fdivW pins s σ H _ _ v u Q I rx ry ⟨_, _, rfl, rfl, ⟨z, z2⟩, k.v (.int _)⟩
  | any z z2 =>
    cases ha.int
    cases hb.int
    exact op_fdivM pins s σ H _ _ v u Q I rx ry ⟨_, _, rfl, rfl, ⟨z, z2⟩, k.v (.int _)⟩
theorem op_modD : OpR X (binaryOp .Mod) (rD2 X.K RMod) := by
  intro pins s σ H x y v u Q I rx ry ⟨M, a, b, c, lv, ha, hb, hf, k⟩
  cases hf with
  | int z =>
    cases ha.int
    cases hb.int
    exact op_mod pins s σ H _ _ v u Q I rx ry ⟨_, _, rfl, rfl, z, k.v (.int _)⟩
  | any z =>
    cases ha.int
    cases hb.int
    exact op_modN pins s σ H _ _ v u Q I rx ry ⟨_, _, rfl, rfl, z, k.v (.int _)⟩
theorem op_powX : OpR X (binaryOp .Pow) (rI (fun i j => 0 ≤ j ∧ (Builtin.Int.intBits i : Int) * j ≤ 2 ^ 27) fun i j => .int (i ^ j.toNat)) := opI fun _ _ _ _ _ _ _ hc q => pow_int hc.1 hc.2 q
theorem op_powD : OpR X (binaryOp .Pow) (rD2 X.K RPow) := by
  intro pins s σ H x y v u Q I rx ry ⟨M, a, b, c, lv, ha, hb, hf, k⟩
  cases hf with
  | int z z2 =>
    cases ha.int
    cases hb.int
    exact op_powX pins s σ H _ _ v u Q I rx ry ⟨_, _, rfl, rfl, ⟨z, z2⟩, k.v (.int _)⟩
theorem rpA_rep {K : PySem.W.Frag} {H : Hp} {xs : List V} {ds : List D} (ra : RpA K H xs ds) : ∀ n, RpA K H (List.replicate n xs).flatten (List.replicate n ds).flatten
  | 0 => .nil
  | n + 1 => by
    rw [List.replicate_succ, List.replicate_succ, List.flatten_cons, List.flatten_cons]
    exact ra.append (rpA_rep ra n)
theorem op_mulD : OpR X (binaryOp .Mult) (rD2 X.K RMul) := by
  intro pins s σ H x y v u Q I rx ry ⟨M, a, b, c, lv, ha, hb, hf, k⟩
  cases hf with
  | int z =>
    cases ha.int
    cases hb.int
    exact op_mulW pins s σ H _ _ v u Q I rx ry ⟨_, _, rfl, rfl, z, k.v (.int _)⟩
  | lst z1 z2 z3 =>
    obtain ⟨p, xs, rfl, h1, ra⟩ := ha.lst
    cases hb.int
    exact op_rep pins s σ H _ _ v u Q I rx ry ⟨p, _, xs, rfl, rfl, h1, z1, z2, by rw [ra.length]; exact szD_line z3, fun q hq => k q _ hq (rpA_rep ra _)⟩
  | @tup a i z1 z2 z3 =>
    obtain ⟨p, xs, rfl, h1, ra⟩ := ha.tup
    cases hb.int
    refine op_repS pins s σ H _ _ v u Q I rx ry ⟨p, _, xs, rfl, rfl, sqT_hid h1, z1, z2, by rw [ra.length]; exact z3, fun e => ?_, fun q hq => k.tup lv hq (rpA_rep ra _)⟩
    refine k.v ?_
    rcases e with e | e
    · subst e
      have : (List.replicate (1 : Int).toNat a).flatten = a := by show (List.replicate 1 a).flatten = a; simp
      rw [this]
      exact .tup h1 ra
    · subst e
      cases ra
      have : (List.replicate i.toNat ([] : List D)).flatten = [] := by simp
      rw [this]
      exact .tup h1 .nil
  | @str a i z1 z2 z3 =>
    cases ha.str
    cases hb.int
    obtain ⟨t, rfl⟩ := rx
    obtain ⟨t', rfl⟩ := ry
    have hsz := szD_line z3
    have hfl : ∀ n : Nat, (List.replicate n a.cps).foldl (· ++ ·) #[] = (List.replicate n a.cps.toList).flatten.toArray := fun n => by
      have : ∀ (n : Nat) (x : Array Nat), (List.replicate n a.cps).foldl (· ++ ·) x = (x.toList ++ (List.replicate n a.cps.toList).flatten).toArray := by
        intro n
        induction n with
        | zero => intro x; simp
        | succ n ih => intro x; rw [List.replicate_succ, List.foldl_cons, ih, List.replicate_succ, List.flatten_cons]; simp
      rw [this]; simp
    refine PySem.P.mul_str (by rw [decide_eq_false (by omega), decide_eq_false (by omega)]; rfl) (fun h1 _ => ?_) (fun _ _ => ?_) ?_
    · have h5 : (2 ^ 63 - 1) / i ≥ 9223372036854 := by
        have : (9223372036854 : Int) * i ≤ 2 ^ 63 - 1 := by omega
        exact (Int.le_ediv_iff_mul_le (by omega)).mpr this
      have h6 : a.length ≤ szD := by
        have h7 : 1 ≤ i.toNat := by omega
        exact Nat.le_trans (Nat.le_mul_of_pos_right _ h7) z3
      have : szD = 100000 := rfl
      omega
    · unfold Builtin.Str.tooLong
      exact decide_eq_false (by have := sizeLine_eq; omega)
    · have fin : ∀ z : Str, z = ⟨(List.replicate i.toNat a.cps.toList).flatten.toArray⟩ → z.length ≤ sizeLine → (Made.str z).post (EP X pins σ Q) s := fun z hz hl => by
        subst hz
        exact ⟨hl, .str _, H, I.tok _, ⟨_, rfl⟩, k.v (.str _)⟩
      have hl2 : (⟨(List.replicate i.toNat a.cps.toList).flatten.toArray⟩ : Str).length ≤ sizeLine := by
        show (List.replicate i.toNat a.cps.toList).flatten.toArray.size ≤ sizeLine
        rw [List.size_toArray, lm_len_rep_flat, Array.length_toList, Nat.mul_comm]
        exact hsz
      by_cases hi : i < 1
      · rw [if_pos hi]
        have e0 : i.toNat = 0 := by omega
        exact fin _ (by rw [e0]; rfl) (by decide)
      · rw [if_neg hi]
        by_cases h1 : (i == 1 || a.length == 0) = true
        · rw [if_pos h1]
          have ea : a = ⟨(List.replicate i.toNat a.cps.toList).flatten.toArray⟩ := by
            rw [Bool.or_eq_true] at h1
            rcases h1 with h1 | h1
            · have : i = 1 := by simpa using h1
              subst this
              show a = ⟨(List.replicate 1 a.cps.toList).flatten.toArray⟩
              simp
            · have h2 : a.cps.size = 0 := beq_iff_eq.mp h1
              have h3 : a.cps = #[] := Array.eq_empty_of_size_eq_zero h2
              obtain ⟨cp⟩ := a
              have h3' : cp = #[] := h3
              subst h3'
              simp
          rw [← ea] at k
          exact ⟨.str _, H, I, ⟨_, rfl⟩, k.v (.str _)⟩
        · rw [if_neg h1]
          exact fin _ (by rw [hfl]) (by rw [hfl]; exact hl2)
theorem un_negD : UnR X (unaryOp .USub) (rD1 X.K RNeg) := by
  intro pins s σ H x v Q I rx ⟨M, a, c, lv, ha, hf, k⟩
  cases hf with
  | int i =>
    cases ha.int
    exact un_neg pins s σ H _ v Q I rx ⟨i, rfl, k.v (.int _)⟩
theorem cmpD {op : CmpOp} {p : Int → Int → Bool} (h : OpR X (compareOp op) (rI0 fun i j => .bl (p i j))) : OpR X (compareOp op) (rD2 X.K (RCmp p)) := by
  intro pins s σ H x y v u Q I rx ry ⟨M, a, b, c, lv, ha, hb, hf, k⟩
  cases hf with
  | int i j =>
    cases ha.int
    cases hb.int
    exact h pins s σ H _ _ v u Q I rx ry ⟨i, j, rfl, rfl, k.v (.bl _)⟩
theorem op_ltD : OpR X (compareOp .Lt) (rD2 X.K RLt) := cmpD op_lt
theorem op_leD : OpR X (compareOp .LtE) (rD2 X.K RLe) := cmpD op_le
theorem op_gtD : OpR X (compareOp .Gt) (rD2 X.K RGt) := cmpD op_gt
theorem op_geD : OpR X (compareOp .GtE) (rD2 X.K RGe) := cmpD op_ge
end

/-! ### == and != -/
def D.flat : D → Bool
  | .non => true | .bl _ => true | .int _ => true | .str _ => true | _ => false
mutual
def D.py : D → Option PyData
  | .non => some .none
  | .bl b => some (.bool b)
  | .int i => some (.int i)
  | .str x => some (.str x)
  | .lst xs => (D.pyA xs).map .list
  | .tup xs => (D.pyA xs).map .tuple
  | .ins _ _ => none
  | .scr _ => none
  | .ty _ => none
  | .exc _ _ => none
  | .adr _ => none
def D.pyA : List D → Option (List PyData)
  | [] => some []
  | x :: xs => match D.py x, D.pyA xs with
    | some p, some ps => some (p :: ps)
    | _, _ => none
end
mutual
theorem Rp.dp {K : PySem.W.Frag} {H : Hp} : ∀ {d : D} {v : V} {p : PyData}, Rp K H v d → d.py = some p → Dp K H v p
  | .non, _, _, h, e => by cases h; cases e; exact .non
  | .bl b, _, _, h, e => by cases h; cases e; exact .bl b
  | .int i, _, _, h, e => by cases h; cases e; exact .int i
  | .str x, _, _, h, e => by cases h; cases e; exact .str x
  | .lst xs, _, p, h, e => by
    cases h with
    | lst q ra =>
      have e2 : (D.pyA xs).map PyData.list = some p := by simpa only [D.py] using e
      cases z : D.pyA xs with
      | none => rw [z] at e2; cases e2
      | some ps =>
        rw [z] at e2
        cases e2
        exact .lst (.inl (.inl q)) (RpA.dp ra z)
  | .tup xs, _, p, h, e => by
    cases h with
    | tup q ra =>
      have e2 : (D.pyA xs).map PyData.tuple = some p := by simpa only [D.py] using e
      cases z : D.pyA xs with
      | none => rw [z] at e2; cases e2
      | some ps =>
        rw [z] at e2
        cases e2
        exact .tup q (RpA.dp ra z)
  | .ins _ _, _, _, _, e => by simp [D.py] at e
  | .scr _, _, _, _, e => by simp [D.py] at e
  | .ty _, _, _, _, e => by simp [D.py] at e
  | .exc _ _, _, _, _, e => by simp [D.py] at e
  | .adr _, _, _, _, e => by simp [D.py] at e
theorem RpA.dp {K : PySem.W.Frag} {H : Hp} : ∀ {ds : List D} {vs : List V} {ps : List PyData}, RpA K H vs ds → D.pyA ds = some ps → DpAll K H vs ps
  | [], _, _, .nil, e => by simp [D.pyA] at e; subst e; exact .nil
  | d :: ds, _, _, .cons h t, e => by
    cases z : D.py d with
    | none => simp [D.pyA, z] at e
    | some p =>
      cases z2 : D.pyA ds with
      | none => simp [D.pyA, z, z2] at e
      | some ps =>
        simp [D.pyA, z, z2] at e
        subst e
        exact .cons (Rp.dp h z) (RpA.dp t z2)
end
/-- equality of flat data of one kind, and with None; of data at any depth -/
inductive REq : D → D → Bool → Prop
  | int (i j : Int) : REq (.int i) (.int j) (decide (i = j))
  | bl (i j : Bool) : REq (.bl i) (.bl j) (decide (i = j))
  | str (i j : Str) : REq (.str i) (.str j) (decide (i = j))
  | nn : REq .non .non true
  | deep {a b : D} {p q : PyData} (h1 : a.py = some p) (h2 : b.py = some q) (s1 : SeqAt.shaped p = true) (s2 : SeqAt.shaped q = true) : REq a b (PyData.eqv p q)
inductive REqR : D → D → Rs → Prop
  | mk {a b : D} {r : Bool} (h : REq a b r) : REqR a b (.v (.bl r))
inductive RNeR : D → D → Rs → Prop
  | mk {a b : D} {r : Bool} (h : REq a b r) : RNeR a b (.v (.bl (!r)))
section
variable {X : Cx}
theorem op_eqDD (hu : X.A.units + 64 < cLine) : OpR X (compareOp .Eq) (rD2 X.K REqR) := by
  intro pins s σ H x y v u Q I rx ry ⟨M, a, b, c, lv, ha, hb, hf, k⟩
  cases hf with
  | mk h =>
    cases h with
    | int i j =>
      cases ha.int
      cases hb.int
      refine op_eq pins s σ H _ _ v u Q I rx ry ⟨rfl, ?_⟩
      rw [show decide (V.int i = V.int j) = decide (i = j) by rw [dec_int]; rfl]
      exact k.v (.bl _)
    | bl i j =>
      cases ha.bl
      cases hb.bl
      refine op_eq pins s σ H _ _ v u Q I rx ry ⟨rfl, ?_⟩
      rw [show decide (V.bl i = V.bl j) = decide (i = j) by cases i <;> cases j <;> rfl]
      exact k.v (.bl _)
    | str i j =>
      cases ha.str
      cases hb.str
      refine op_eq pins s σ H _ _ v u Q I rx ry ⟨rfl, ?_⟩
      rw [show decide (V.str i = V.str j) = decide (i = j) by simp]
      exact k.v (.bl _)
    | nn =>
      cases ha.non
      cases hb.non
      exact op_eq pins s σ H _ _ v u Q I rx ry ⟨rfl, k.v (.bl _)⟩
    | deep h1 h2 s1 s2 => exact op_eqD hu pins s σ H _ _ v u Q I rx ry ⟨_, _, ha.rp.dp h1, hb.rp.dp h2, s1, s2, k.v (.bl _)⟩
theorem op_neDD (hu : X.A.units + 64 < cLine) : OpR X (compareOp .NotEq) (rD2 X.K RNeR) := by
  intro pins s σ H x y v u Q I rx ry ⟨M, a, b, c, lv, ha, hb, hf, k⟩
  cases hf with
  | mk h =>
    cases h with
    | int i j =>
      cases ha.int
      cases hb.int
      refine op_ne pins s σ H _ _ v u Q I rx ry ⟨rfl, ?_⟩
      rw [show decide (V.int i = V.int j) = decide (i = j) by rw [dec_int]; rfl]
      exact k.v (.bl _)
    | bl i j =>
      cases ha.bl
      cases hb.bl
      refine op_ne pins s σ H _ _ v u Q I rx ry ⟨rfl, ?_⟩
      rw [show decide (V.bl i = V.bl j) = decide (i = j) by cases i <;> cases j <;> rfl]
      exact k.v (.bl _)
    | str i j =>
      cases ha.str
      cases hb.str
      refine op_ne pins s σ H _ _ v u Q I rx ry ⟨rfl, ?_⟩
      rw [show decide (V.str i = V.str j) = decide (i = j) by simp]
      exact k.v (.bl _)
    | nn =>
      cases ha.non
      cases hb.non
      exact op_ne pins s σ H _ _ v u Q I rx ry ⟨rfl, k.v (.bl _)⟩
    | deep h1 h2 s1 s2 => exact op_neD hu pins s σ H _ _ v u Q I rx ry ⟨_, _, ha.rp.dp h1, hb.rp.dp h2, s1, s2, k.v (.bl _)⟩
end
/-! ### is -/
def D.isNon : D → Bool
  | .non => true
  | _ => false
inductive RIs : D → D → Bool → Prop
  | non (a : D) : RIs a .non a.isNon
  | bl (i j : Bool) : RIs (.bl i) (.bl j) (decide (i = j))
inductive RIsR : D → D → Rs → Prop
  | mk {a b : D} {r : Bool} (h : RIs a b r) : RIsR a b (.v (.bl r))
inductive RIsN : D → D → Rs → Prop
  | mk {a b : D} {r : Bool} (h : RIs a b r) : RIsN a b (.v (.bl (!r)))
theorem isNon_eq {K : PySem.W.Frag} {M : Dm} {H : Hp} {v : V} {d : D} (h : RpW K M H v d) : decide (v = V.non) = d.isNon := by
  cases h.rp <;> simp [D.isNon]
section
variable {X : Cx}
theorem op_isD : OpR X (compareOp .Is) (rD2 X.K RIsR) := by
  intro pins s σ H x y v u Q I rx ry ⟨M, a, b, c, lv, ha, hb, hf, k⟩
  cases hf with
  | mk h =>
    cases h with
    | non =>
      cases hb.non
      refine op_isN pins s σ H _ _ v u Q I rx ry ⟨rfl, ?_⟩
      rw [isNon_eq ha]
      exact k.v (.bl _)
    | bl i j =>
      cases ha.bl
      cases hb.bl
      exact op_isBl pins s σ H _ _ v u Q I rx ry ⟨i, j, rfl, rfl, k.v (.bl _)⟩
theorem op_isnotD : OpR X (compareOp .IsNot) (rD2 X.K RIsN) := by
  intro pins s σ H x y v u Q I rx ry ⟨M, a, b, c, lv, ha, hb, hf, k⟩
  cases hf with
  | mk h =>
    cases h with
    | non =>
      cases hb.non
      refine op_notN pins s σ H _ _ v u Q I rx ry ⟨rfl, ?_⟩
      rw [isNon_eq ha]
      exact k.v (.bl _)
    | bl i j =>
      cases ha.bl
      cases hb.bl
      exact op_notBl pins s σ H _ _ v u Q I rx ry ⟨i, j, rfl, rfl, k.v (.bl _)⟩
end
/-! ### subscripts -/
inductive RIx : D → D → Rs → Prop
  | lst {ds : List D} {i : Int} {d : D} (h : atI ds i = some d) : RIx (.lst ds) (.int i) (.v d)
  | tup {ds : List D} {i : Int} {d : D} (h : atI ds i = some d) : RIx (.tup ds) (.int i) (.v d)
  | scr {ns : List Int} {i : Int} {n : Int} (h : atI ns i = some n) : RIx (.scr ns) (.int i) (.v (.int n))
  | str {z : Str} {i : Int} {c : Nat} (hz : z.length ≤ szD) (h : atI z.cps.toList i = some c) : RIx (.str z) (.int i) (.v (.str ⟨#[c]⟩))
theorem atI_rp {K : PySem.W.Frag} {H : Hp} {xs : List V} {ds : List D} {i : Int} {d : D} (ra : RpA K H xs ds) (h : atI ds i = some d) : ∃ v, atI xs i = some v ∧ Rp K H v d := by
  unfold atI at h ⊢
  rw [ra.length]
  cases e : ixN ds.length i with
  | none => rw [e] at h; cases h
  | some j =>
    rw [e] at h
    exact ra.get h
section
variable {X : Cx}
theorem ix_D : IxR X (rD2 X.K RIx) := by
  intro value slice pins s σ H x y v u Q I rx ry ⟨M, a, b, c, lv, ha, hb, hf, k⟩ hs
  cases hf with
  | lst h =>
    obtain ⟨p, xs, rfl, h1, ra⟩ := ha.lst
    cases hb.int
    obtain ⟨z, e, rz⟩ := atI_rp ra h
    exact ix_list value slice pins s σ H _ _ v u Q I rx ry ⟨p, xs, _, z, rfl, rfl, .inl (.inl h1), e, k.v rz⟩ hs
  | tup h =>
    obtain ⟨p, xs, rfl, h1, ra⟩ := ha.tup
    cases hb.int
    obtain ⟨z, e, rz⟩ := atI_rp ra h
    exact ix_tup value slice pins s σ H _ _ v u Q I rx ry ⟨p, xs, _, z, rfl, rfl, sqT_hid h1, e, k.v rz⟩ hs
  | @scr ns i n h =>
    cases ha.rp with
    | scr q =>
      cases hb.int
      refine ix_list value slice pins s σ H _ _ v u Q I rx ry ⟨_, ns.map V.int, _, .int n, rfl, rfl, q, ?_, k.v (.int _)⟩ hs
      unfold atI at h ⊢
      rw [List.length_map]
      cases e : ixN ns.length i with
      | none => rw [e] at h; cases h
      | some j =>
        rw [e] at h
        have h' : ns[j]? = some n := h
        show (ns.map V.int)[j]? = some (V.int n)
        rw [List.getElem?_map, h']
        rfl
  | str hz h =>
    cases ha.str
    cases hb.int
    exact ix_str value slice pins s σ H _ _ v u Q I rx ry ⟨_, _, _, rfl, rfl, szD_line hz, h, k.v (.str _)⟩ hs
end
/-! slices -/
def cutD (ds : List D) (lo hi : Option Int) : List D := (ds.drop (HT.sIx ds.length 0 lo)).take (HT.sIx ds.length ds.length hi - HT.sIx ds.length 0 lo)
inductive RSl : D → Option Int → Option Int → Rs → Prop
  | lst (ds : List D) (lo hi : Option Int) : RSl (.lst ds) lo hi (.l (cutD ds lo hi))
  | tup (ds : List D) (lo hi : Option Int) : RSl (.tup ds) lo hi (.v (.tup (cutD ds lo hi)))
  | scr (ns : List Int) (lo hi : Option Int) : RSl (.scr ns) lo hi (.l (cutD (ns.map D.int) lo hi))
  | str {z : Str} (hz : z.length ≤ szD) (lo hi : Option Int) : RSl (.str z) lo hi (.v (.str (cutS z lo hi)))
def rSlD (K : PySem.W.Frag) : V → Option Int → Option Int → Hp → VK → Prop := fun x lo hi H Q => ∃ M a c, (∀ z, M z = true → H z ≠ none) ∧ RpW K M H x a ∧ RSl a lo hi c ∧ kR K M H Q c
theorem cut_rp {K : PySem.W.Frag} {H : Hp} {xs : List V} {ds : List D} (ra : RpA K H xs ds) (lo hi : Option Int) : RpA K H (cutV xs lo hi) (cutD ds lo hi) := by
  unfold cutV cutD
  rw [ra.length]
  exact (ra.drop _).take _
section
variable {X : Cx}
theorem sl_D : SlR X (rSlD X.K) := by
  intro pins s σ H x v vl vu lo hi sl Q I rx hs pl pu ⟨M, a, c, lv, ha, hf, k⟩
  cases hf with
  | lst ds =>
    obtain ⟨p, xs, rfl, h1, ra⟩ := ha.lst
    exact sl_list pins s σ H _ v vl vu lo hi sl Q I rx hs pl pu ⟨p, xs, rfl, .inl (.inl h1), fun q hq => k q _ hq (cut_rp ra lo hi)⟩
  | tup ds =>
    obtain ⟨p, xs, rfl, h1, ra⟩ := ha.tup
    refine sl_tupA pins s σ H _ v vl vu lo hi sl Q I rx hs pl pu ⟨p, xs, rfl, sqT_hid h1, fun hw => ?_, fun _ q hq => k.tup lv hq (cut_rp ra lo hi)⟩
    have e : cutD ds lo hi = ds := by
      unfold cutD
      rw [← ra.length, hw.1, hw.2, ra.length]
      simp
    rw [e] at k
    exact k.v (.tup h1 ra)
  | scr ns =>
    cases ha.rp with
    | scr q => exact sl_list pins s σ H _ v vl vu lo hi sl Q I rx hs pl pu ⟨_, ns.map V.int, rfl, q, fun p hp => k p _ hp (cut_rp (RpA.of_ints ns) lo hi)⟩
  | str hz =>
    cases ha.str
    exact sl_str pins s σ H _ v vl vu lo hi sl Q I rx hs pl pu ⟨_, rfl, szD_line hz, k.v (.str _)⟩
end
/-- the parts of a slice -/
def WO (K : PySem.W.Frag) (r : Ro) (m : Sto) (to : TO) (Q : Option Int → Sto → Prop) : Prop :=
  ∀ (σ : L2.St) (H : Hp) (QV : Option Int → Hp → Prop), EnvOk K (dom m) H σ r → StoOk K H m →
    (∀ o H' m', Xt (dom m) H (dom m') H' → StoOk K H' m' → Q o m' → QV o H') → to σ H QV
section
variable {K : PySem.W.Frag} {r : Ro} {m : Sto}
theorem wo_none {Q : Option Int → Sto → Prop} (q : Q none m) : WO K r m tNoPart Q := fun σ H QV e st k => k none H m Xt.refl st q
theorem wo_some {te : TE} {Q : Option Int → Sto → Prop} (h : WE K r m te fun s m1 => ∃ i, s = .val (.int i) ∧ Q (some i) m1) : WO K r m (tPart te) Q := fun σ H QV e st k =>
  h σ H _ e st fun v H1 s m1 x1 so1 rs ⟨i, es, q⟩ => by
    subst es
    have rs' : Rp K (hid (dom m1) H1) v (.int i) := rs
    cases rs'
    exact ⟨i, rfl, k (some i) H1 m1 x1 so1 q⟩
theorem we_slice {te : TE} {tl th : TO} {Q : Sv → Sto → Prop} (h : WE K r m te fun s m1 => WO K r m1 tl fun lo m2 => WO K r m2 th fun hi m3 => ∃ a c, vw m3 s = some a ∧ RSl a lo hi c ∧ Q (.val c.d) m3) : WE K r m (tSl (rSlD K) te tl th) Q := fun σ H QV e st k =>
  h σ H _ e st fun v H1 s m1 x1 so1 rs1 q1 => q1 σ H1 _ (e.mono x1) so1 fun lo H2 m2 x2 so2 q2 => q2 σ H2 _ (e.mono (x1.trans x2)) so2 fun hi H3 m3 x3 so3 ⟨a, c, ha, hf, q⟩ =>
    ⟨dom m3, a, c, so3.live, RpW.of ((rs1.mono x2).mono x3) so3 ha, hf, kR.of so3 (fun v H' s m' x => k v H' s m' (((x1.trans x2).trans x3).trans x)) q⟩
theorem we_sliceO {te : TE} {tl th : TO} {Q : Sv → Sto → Prop} (h : WE K r m te fun s m1 => WO K r m1 tl fun lo m2 => WO K r m2 th fun hi m3 => ∃ a ds, vw m3 s = some a ∧ RSl a lo hi (.l ds) ∧ ∀ p, m3 p = none → Q (.adr p) (stS m3 p ds)) : WE K r m (tSl (rSlD K) te tl th) Q := fun σ H QV e st k =>
  h σ H _ e st fun v H1 s m1 x1 so1 rs1 q1 => q1 σ H1 _ (e.mono x1) so1 fun lo H2 m2 x2 so2 q2 => q2 σ H2 _ (e.mono (x1.trans x2)) so2 fun hi H3 m3 x3 so3 ⟨a, c, ha, hf, q⟩ =>
    ⟨dom m3, a, .l c, so3.live, RpW.of ((rs1.mono x2).mono x3) so3 ha, hf, kR.ofO so3 (fun v H' s m' x => k v H' s m' (((x1.trans x2).trans x3).trans x)) q⟩
end
end Cr

/-! Cr4: what is walked, by data: lists, tuples, ranges; zip of lists and tuples in any mix, strict too. -/
namespace Cr
open PySem PySem.Spec PyProof.Rows L2

/-! ### strict zip, at the library's level -/
section
variable {prog : Program} {w : World} {A : Around} {E : Value → Shared → Prop} {s : Shared} {z TI TO i1 i2 : Addr} {fp1 fp2 : List Addr} {n1 n2 i : Nat} {P1 P2 : Nat → Value → Prop} {St1 St2 : Nat → Heap → Prop} {a1 a2 : Value}
/-- a zip's record; st: strict -/
abbrev IsZipB (st : Bool) (h : Heap) (z TI TO : Addr) (f0 : Value) : Prop :=
  h.get? z = some { cls := .type "zip", dict := none, data := .fields #[f0, .bool false, .bool st, .ref TI, .ref TO], slots := #[] }
theorem noe_item {it : Addr} {fp : List Addr} {n : Nat} {P : Nat → Value → Prop} {St : Nat → Heap → Prop} (D1 : Draws prog w A it fp n P St) {i : Nat} (hlt : i < n) (st : St i s.heap) {Q : Option Value → Shared → Prop}
    (h : ∀ x h' tk, P i x → St (i + 1) h' → Heap.SameBut it s.heap h' → Q (some x) { s with heap := h', toks := tk }) : wpAny (model prog w) A (Builtin.SmallTypes.nextOrEnd (.ref it)) Q E s := by
  unfold Builtin.SmallTypes.nextOrEnd
  exact wpAny_bind (wpAny_attempt (D1.item i s _ _ hlt st fun x h' tk p st' sb => wpAny_pure (h x h' tk p st' sb)))
theorem noe_end {it : Addr} {fp : List Addr} {n : Nat} {P : Nat → Value → Prop} {St : Nat → Heap → Prop} (D1 : Draws prog w A it fp n P St) (st : St n s.heap) {Q : Option Value → Shared → Prop}
    (h : ∀ h', Heap.ExtBut it s.heap h' → Q none { s with heap := h' }) : wpAny (model prog w) A (Builtin.SmallTypes.nextOrEnd (.ref it)) Q E s := by
  unfold Builtin.SmallTypes.nextOrEnd
  refine wpAny_bind (wpAny_attempt (D1.done s _ _ st fun h' e ex ⟨o, ho, hc⟩ => ?_))
  exact wpAny_bind (wpAny_isInstance (T := "StopIteration") (b := true) ⟨o, ho, hc⟩ isSubtype_stop (wpAny_pure (h h' ex)))
theorem stopIt {T : Type} {Q : T → Shared → Prop} (hh : A.handled = none)
    (h : ∀ h' e, (∀ c o, s.heap.get? c = some o → h'.get? c = some o) → (∃ o, h'.get? e = some o ∧ o.cls = .type "StopIteration") → E (.ref e) { s with heap := h' }) : wpAny (model prog w) A (Builtin.SmallTypes.stopIteration : Sem T) Q E s := by
  unfold Builtin.SmallTypes.stopIteration
  refine wpAny_bind ?_
  simp only [newExc, newTuple]
  refine wpAny_bind (wpAny_newObj_type ?_ (by size_fits))
  refine wpAny_bind (m := firstArgMember _ _) (wpAny_of_eq (a := Value.none) (by first | rfl | (simp only [firstArgMember]; rfl)) ?_)
  refine wpAny_newObj_type ?_ (by size_fits)
  simp only [raiseNew]
  refine wpAny_bind (wpAny_handled ?_)
  rw [hh]
  refine wpAny_bind (wpAny_pure (wpAny_throw ?_))
  exact h _ _ (fun c o e => Heap.get?_push_of_some _ (Heap.get?_push_of_some _ e)) ⟨_, Heap.get?_push_size _ rfl, rfl⟩
theorem zipS_item {Q : Value → Shared → Prop} (S : ZipSep2 z TI TO i1 i2 fp1 fp2) (D1 : Draws prog w A i1 fp1 n1 P1 St1) (D2 : Draws prog w A i2 fp2 n2 P2 St2)
    (hz : IsZipB true s.heap z TI TO .none) (hTI : IsTupOf2 s.heap TI (.ref i1) (.ref i2)) (hTO : IsTupOf2 s.heap TO a1 a2) (st1 : St1 i s.heap) (st2 : St2 i s.heap) (hlt1 : i < n1) (hlt2 : i < n2)
    (hQ : ∀ x1 x2 h' tk, P1 i x1 → P2 i x2 → IsZipB true h' z TI TO (rawInt s.heap.objs.size) → IsTupOf2 h' TO x1 x2 → St1 (i + 1) h' → St2 (i + 1) h' → IsTupOf2 h' s.heap.objs.size x1 x2 → h'.objs.size = s.heap.objs.size + 1 →
      (∀ c o, c ≠ z → c ≠ TO → c ≠ i1 → c ≠ i2 → s.heap.get? c = some o → h'.get? c = some o) → Q (.ref s.heap.objs.size) { s with heap := h', toks := tk }) :
    wpAny (model prog w) A (Builtin.«zip.__next__» ⟨[.ref z], []⟩) (fun fin s' => ∃ v, fin = .done (.ret v) ∧ Q v s') E s := by
  obtain ⟨hp, g, d, tk0, os⟩ := s
  show wpAny _ _ (field (.ref z) 2 >>= _) _ _ _
  refine wpAny_bind (wpAny_field hz rfl (x := .bool true) rfl ?_)
  show wpAny _ _ (field (.ref z) 3 >>= _) _ _ _
  refine wpAny_bind (wpAny_field hz rfl (x := .ref TI) rfl ?_)
  refine wpAny_bind (wpAny_seqItems hTI rfl ?_)
  show wpAny _ _ (Builtin.SmallTypes.ownedTupleIsFree (.ref z) >>= _) _ _ _
  refine wpAny_bind ?_
  unfold Builtin.SmallTypes.ownedTupleIsFree
  refine wpAny_bind (wpAny_field hz rfl (x := .none) rfl (wpAny_pure ?_))
  simp only [if_true]
  refine wpAny_bind (wpAny_rule ?_)
  refine wpAny_bind (wpAny_field hz rfl (x := .ref TO) rfl ?_)
  refine wpAny_bind (wpAny_setField_rec hz (by simp) fun g0 hz0 hs0 => ?_)
  replace hz0 : IsZipB true g0 z TI TO .ellipsis := hz0
  replace hs0 : Heap.SameBut z hp g0 := hs0
  refine wpAny_bind ?_
  simp only [List.zipIdx_cons, List.zipIdx_nil, List.forIn_cons, List.forIn_nil]
  -- the first one
  refine wpAny_bind (wpAny_bind (wpAny_onRaise ?_))
  show wpAny _ _ (Builtin.SmallTypes.nextOrEnd (.ref i1)) _ _ ⟨g0, g, d, tk0, os⟩
  refine noe_item (s := ⟨g0, g, d, tk0, os⟩) D1 hlt1 (D1.over st1 hs0 S.zf1) fun x1 p1 tk1 hx1 sn1 hp1 => ?_
  replace hp1 : Heap.SameBut i1 g0 p1 := hp1
  have hU1 : IsTupOf2 p1 TO a1 a2 := hp1.extBut _ _ S.Ti1 (hs0.extBut _ _ S.TOz hTO)
  refine wpAny_bind (wpAny_seqItems (s := ⟨p1, g, d, tk1, os⟩) hU1 rfl ?_)
  refine wpAny_bind (updateSeq_IsTupOf2 (s := ⟨p1, g, d, tk1, os⟩) hU1 fun g1 hT1 hs1 => ?_)
  replace hT1 : IsTupOf2 g1 TO x1 a2 := hT1
  replace hs1 : Heap.SameBut TO p1 g1 := hs1
  refine wpAny_bind (wpAny_letGo (wpAny_pure ?_))
  -- the second one
  refine wpAny_bind (wpAny_bind (wpAny_onRaise ?_))
  show wpAny _ _ (Builtin.SmallTypes.nextOrEnd (.ref i2)) _ _ ⟨g1, g, d, tk1, os⟩
  refine noe_item (s := ⟨g1, g, d, tk1, os⟩) D2 hlt2 (D2.over (D2.over (D2.over st2 hs0 S.zf2) hp1 S.sep1_2) hs1 S.Tf2) fun x2 p2 tk2 hx2 sn2 hp2 => ?_
  replace hp2 : Heap.SameBut i2 g1 p2 := hp2
  have hU2 : IsTupOf2 p2 TO x1 a2 := hp2.extBut _ _ S.Ti2 hT1
  refine wpAny_bind (wpAny_seqItems (s := ⟨p2, g, d, tk2, os⟩) hU2 rfl ?_)
  refine wpAny_bind (updateSeq_IsTupOf2 (s := ⟨p2, g, d, tk2, os⟩) hU2 fun g2 hT2 hs2 => ?_)
  replace hT2 : IsTupOf2 g2 TO x1 x2 := hT2
  replace hs2 : Heap.SameBut TO p2 g2 := hs2
  refine wpAny_bind (wpAny_letGo (wpAny_pure (wpAny_pure ?_)))
  -- the pair is handed out
  refine wpAny_bind (wpAny_seqItems (s := ⟨g2, g, d, tk2, os⟩) hT2 rfl ?_)
  refine wpAny_bind (wpAny_newTuple ?_)
  have hsz : g2.objs.size = hp.objs.size := by rw [hs2.1, hp2.1, hs1.1, hp1.1, hs0.1]
  have hzz : IsZipB true g2 z TI TO .ellipsis := hs2.extBut _ _ S.TOz.symm (hp2.extBut _ _ S.zi2 (hs1.extBut _ _ S.TOz.symm (hp1.extBut _ _ S.zi1 hz0)))
  have hkk : ∀ c o, c ≠ z → c ≠ TO → c ≠ i1 → c ≠ i2 → hp.get? c = some o → g2.get? c = some o := fun c o cz cT c1 c2 e =>
    hs2.extBut _ _ cT (hp2.extBut _ _ c2 (hs1.extBut _ _ cT (hp1.extBut _ _ c1 (hs0.extBut _ _ cz e))))
  have hj1 : St1 (i + 1) g2 := D1.over (D1.over (D1.over sn1 hs1 S.Tf1) hp2 S.sep2_1) hs2 S.Tf1
  have hj2 : St2 (i + 1) g2 := D2.over sn2 hs2 S.Tf2
  have hzlt : z < g2.objs.size := Heap.lt_size hzz
  show wpAny _ _ (Builtin.SmallTypes.ownedTupleHandOut (.ref z) (.ref g2.objs.size) >>= _) _ _ ⟨g2.push { cls := .type "tuple", data := .seq #[x1, x2] }, g, d, tk2, os⟩
  refine wpAny_bind ?_
  unfold Builtin.SmallTypes.ownedTupleHandOut
  have hz6 : IsZipB true (g2.push { cls := .type "tuple", data := .seq #[x1, x2] }) z TI TO .ellipsis := Heap.get?_push_of_some _ hzz
  refine wpAny_bind (wpAny_setField_rec hz6 (by simp) fun h7 hz7 hs7 => ?_)
  replace hz7 : IsZipB true h7 z TI TO (rawInt g2.objs.size) := hz7
  refine wpAny_setField_rec hz7 (by simp) fun h8 hz8 hs8 => ?_
  replace hz8 : IsZipB true h8 z TI TO (rawInt g2.objs.size) := hz8
  replace hs7 : Heap.SameBut z (g2.push { cls := .type "tuple", data := .seq #[x1, x2] }) h7 := hs7
  replace hs8 : Heap.SameBut z h7 h8 := hs8
  have up : ∀ c o, c ≠ z → g2.get? c = some o → h8.get? c = some o := fun c o c1 e => hs8.extBut _ _ c1 (hs7.extBut _ _ c1 (Heap.get?_push_of_some _ e))
  have hT8 : IsTupOf2 h8 g2.objs.size x1 x2 := hs8.extBut _ _ (Nat.ne_of_gt hzlt) (hs7.extBut _ _ (Nat.ne_of_gt hzlt) (Heap.get?_push_size _ rfl))
  have hn8 : h8.objs.size = g2.objs.size + 1 := by rw [hs8.1, hs7.1, Heap.size_push]
  rw [hsz] at hz8 hT8 hn8
  refine wpAny_pure ⟨_, rfl, ?_⟩
  show Q (.ref g2.objs.size) ⟨h8, g, d, tk2, os⟩
  rw [hsz]
  exact hQ x1 x2 h8 tk2 hx1 hx2 hz8 (up _ _ S.TOz hT2) (D1.frame _ _ _ hj1 fun b hb o e => up b o (fun q => S.zf1 (q ▸ hb)) e) (D2.frame _ _ _ hj2 fun b hb o e => up b o (fun q => S.zf2 (q ▸ hb)) e) hT8 hn8 fun c o cz cT c1 c2 e => up c o cz (hkk c o cz cT c1 c2 e)
theorem zipS_end {Q : Fin → Shared → Prop} (hh : A.handled = none) (S : ZipSep2 z TI TO i1 i2 fp1 fp2) (D1 : Draws prog w A i1 fp1 n1 P1 St1) (D2 : Draws prog w A i2 fp2 n1 P2 St2)
    (hz : IsZipB true s.heap z TI TO .none) (hTI : IsTupOf2 s.heap TI (.ref i1) (.ref i2)) (hTO : IsTupOf2 s.heap TO a1 a2) (st1 : St1 n1 s.heap) (st2 : St2 n1 s.heap)
    (hE : ∀ h' e, (∀ c o, c ≠ z → c ≠ TO → c ≠ i1 → c ≠ i2 → s.heap.get? c = some o → h'.get? c = some o) → (∃ o, h'.get? e = some o ∧ o.cls = .type "StopIteration") → E (.ref e) { s with heap := h' }) :
    wpAny (model prog w) A (Builtin.«zip.__next__» ⟨[.ref z], []⟩) Q E s := by
  obtain ⟨hp, g, d, tk0, os⟩ := s
  show wpAny _ _ (field (.ref z) 2 >>= _) _ _ _
  refine wpAny_bind (wpAny_field hz rfl (x := .bool true) rfl ?_)
  show wpAny _ _ (field (.ref z) 3 >>= _) _ _ _
  refine wpAny_bind (wpAny_field hz rfl (x := .ref TI) rfl ?_)
  refine wpAny_bind (wpAny_seqItems hTI rfl ?_)
  show wpAny _ _ (Builtin.SmallTypes.ownedTupleIsFree (.ref z) >>= _) _ _ _
  refine wpAny_bind ?_
  unfold Builtin.SmallTypes.ownedTupleIsFree
  refine wpAny_bind (wpAny_field hz rfl (x := .none) rfl (wpAny_pure ?_))
  simp only [if_true]
  refine wpAny_bind (wpAny_rule ?_)
  refine wpAny_bind (wpAny_field hz rfl (x := .ref TO) rfl ?_)
  refine wpAny_bind (wpAny_setField_rec hz (by simp) fun g0 hz0 hs0 => ?_)
  replace hz0 : IsZipB true g0 z TI TO .ellipsis := hz0
  replace hs0 : Heap.SameBut z hp g0 := hs0
  refine wpAny_bind ?_
  simp only [List.zipIdx_cons, List.zipIdx_nil, List.forIn_cons, List.forIn_nil]
  refine wpAny_bind (wpAny_bind (wpAny_onRaise ?_))
  show wpAny _ _ (Builtin.SmallTypes.nextOrEnd (.ref i1)) _ _ ⟨g0, g, d, tk0, os⟩
  refine noe_end (s := ⟨g0, g, d, tk0, os⟩) D1 (D1.over st1 hs0 S.zf1) fun q hq => ?_
  replace hq : Heap.ExtBut i1 g0 q := hq
  have hzq : IsZipB true q z TI TO .ellipsis := hq _ _ S.zi1 hz0
  refine wpAny_bind (wpAny_setField_rec (s := ⟨q, g, d, tk0, os⟩) hzq (by simp) fun q2 _ hq2 => ?_)
  replace hq2 : Heap.SameBut z q q2 := hq2
  refine wpAny_bind ?_
  show wpAny _ _ (forIn (([Value.ref i2] : List Value).zipIdx 1) PUnit.unit _ >>= _) _ _ _
  refine wpAny_bind ?_
  simp only [List.zipIdx_cons, List.zipIdx_nil, List.forIn_cons, List.forIn_nil]
  have st2q : St2 n1 q2 := D2.over (D2.frame _ _ _ (D2.over st2 hs0 S.zf2) fun b hb o e => hq b o (fun x => S.sep1_2 (x ▸ hb)) e) hq2 S.zf2
  refine wpAny_bind (wpAny_bind (noe_end (s := ⟨q2, g, d, tk0, os⟩) D2 st2q fun q3 hq3 => ?_))
  replace hq3 : Heap.ExtBut i2 q2 q3 := hq3
  show wpAny _ _ (pure (ForInStep.yield PUnit.unit)) _ _ _
  refine wpAny_pure (wpAny_pure ?_)
  refine wpAny_bind (wpAny_rule ?_)
  refine stopIt (s := ⟨q3, g, d, tk0, os⟩) hh fun h' e kp he => hE h' e (fun c o cz cT c1 c2 x => kp c o (hq3 _ _ c2 (hq2.extBut _ _ cz (hq _ _ c1 (hs0.extBut _ _ cz x))))) he
theorem letGoS {elts : List Expr} {x1 : Nat} {pos : Pos} {T : Addr} {Q : Unit → Shared → Prop} (hz : IsZipB true s.heap z TI TO (rawInt T))
    (hQ : ∀ h', IsZipB true h' z TI TO .none → Heap.SameBut z s.heap h' → Q () { s with heap := h' }) :
    wpAny (model prog w) A (letOwnedTupleGo (.Tuple elts x1 pos) (.ref z) (.ref T)) Q E s := by
  unfold letOwnedTupleGo
  refine wpAny_bind (wpAny_load hz ?_)
  show wpAny _ _ (if (["enumerate", "zip", "dict_itemiterator", "dict_reverseitemiterator", "odict_iterator", "itertools.zip_longest", "itertools.pairwise"].contains "zip" &&
      (#[rawInt T, .bool false, .bool true, .ref TI, .ref TO] : Array Value)[0]? == some (rawInt T)) = true then _ else _) Q E s
  rw [if_pos (by simp)]
  refine wpAny_bind (wpAny_rule ?_)
  show wpAny _ _ (setField (.ref z) 0 .none) Q E s
  exact wpAny_setField_rec hz (by simp) fun h' hz' hs' => hQ h' hz' hs'
theorem iterS {f0 : Value} {Q : Value → Shared → Prop} (hz : IsZipB true s.heap z TI TO f0) (h : Q (.ref z) s) : wpAny (model prog w) A (pyIter (.ref z)) Q E s := by
  have hT : s.TypeIs (.ref z) "zip" := ⟨_, hz, rfl⟩
  refine wpAny_pyIter_slot hT F.slot_zip_iter (wpAny_call_entry F.slot_zip_iter hT F.entry_zip_iter ?_ (F.args_zip_iter_1 _))
  show wpAny _ _ (ret (.ref z)) _ _ s
  exact wpAny_pure ⟨_, rfl, "zip", _, hT, F.slot_zip_next.lookup, h⟩
theorem nextS_item {Q : Option Value → Shared → Prop} (S : ZipSep2 z TI TO i1 i2 fp1 fp2) (D1 : Draws prog w A.in1 i1 fp1 n1 P1 St1) (D2 : Draws prog w A.in1 i2 fp2 n2 P2 St2)
    (hz : IsZipB true s.heap z TI TO .none) (hTI : IsTupOf2 s.heap TI (.ref i1) (.ref i2)) (hTO : IsTupOf2 s.heap TO a1 a2) (st1 : St1 i s.heap) (st2 : St2 i s.heap) (hlt1 : i < n1) (hlt2 : i < n2)
    (hQ : ∀ x1 x2 h' tk, P1 i x1 → P2 i x2 → IsZipB true h' z TI TO (rawInt s.heap.objs.size) → IsTupOf2 h' TO x1 x2 → St1 (i + 1) h' → St2 (i + 1) h' → IsTupOf2 h' s.heap.objs.size x1 x2 → h'.objs.size = s.heap.objs.size + 1 →
      (∀ c o, c ≠ z → c ≠ TO → c ≠ i1 → c ≠ i2 → s.heap.get? c = some o → h'.get? c = some o) → Q (some (.ref s.heap.objs.size)) { s with heap := h', toks := tk }) :
    wpAny (model prog w) A (pyNext (.ref z)) Q E s := by
  have hT : s.TypeIs (.ref z) "zip" := ⟨_, hz, rfl⟩
  unfold pyNext
  exact wpAny_bind (wpAny_attempt (wpAny_callSpecial?_slot (name := Str.ofString "__next__") hT F.slot_zip_next
    (wpAny_call_entry F.slot_zip_next hT F.entry_zip_next
      (zipS_item S D1 D2 hz hTI hTO st1 st2 hlt1 hlt2 fun x1 x2 h' tk y1 y2 b1 b2 d1 d2 b5 b6 b7 => wpAny_pure (hQ x1 x2 h' tk y1 y2 b1 b2 d1 d2 b5 b6 b7)) (F.args_zip_next_1 _))))
theorem nextS_end {Q : Option Value → Shared → Prop} (hh : A.handled = none) (S : ZipSep2 z TI TO i1 i2 fp1 fp2) (D1 : Draws prog w A.in1 i1 fp1 n1 P1 St1) (D2 : Draws prog w A.in1 i2 fp2 n1 P2 St2)
    (hz : IsZipB true s.heap z TI TO .none) (hTI : IsTupOf2 s.heap TI (.ref i1) (.ref i2)) (hTO : IsTupOf2 s.heap TO a1 a2) (st1 : St1 n1 s.heap) (st2 : St2 n1 s.heap)
    (hQ : ∀ h', (∀ c o, c ≠ z → c ≠ TO → c ≠ i1 → c ≠ i2 → s.heap.get? c = some o → h'.get? c = some o) → Q none { s with heap := h' }) : wpAny (model prog w) A (pyNext (.ref z)) Q E s := by
  have hT : s.TypeIs (.ref z) "zip" := ⟨_, hz, rfl⟩
  unfold pyNext
  refine wpAny_bind (wpAny_attempt (wpAny_callSpecial?_slot (name := Str.ofString "__next__") hT F.slot_zip_next
    (wpAny_call_entry F.slot_zip_next hT F.entry_zip_next (zipS_end hh S D1 D2 hz hTI hTO st1 st2 fun h' e hk he => ?_) (F.args_zip_next_1 _))))
  obtain ⟨o, ho, hc⟩ := he
  exact wpAny_bind (wpAny_isInstance (T := "StopIteration") (b := true) ⟨o, ho, hc⟩ isSubtype_stop (wpAny_pure (hQ _ hk)))
end
theorem typeCall_zipS (a b c : Value) : checkTypeCall "zip" ⟨[a, b], [(Str.ofString "strict", c)]⟩ = pure () := by kernel_rfl
theorem newCall_zipS (a b c : Value) : checkBuiltinCall "zip.__new__" ⟨[.type "zip", a, b], [(Str.ofString "strict", c)]⟩ = pure () := by kernel_rfl
theorem args_initS (obj a b c : Value) : argsOk "object.__init__" ⟨[obj, a, b], [(Str.ofString "strict", c)]⟩ := by unfold argsOk; kernel_rfl
abbrev zsT (h : Heap) (o1 o2 : Obj) : Heap := ((h.push o1).push o2).push { cls := .type "tuple", data := .seq #[.ref h.objs.size, .ref (h.push o1).objs.size] }
abbrev zsO (h : Heap) (o1 o2 : Obj) : Heap := (zsT h o1 o2).push { cls := .type "tuple", data := .seq #[.none, .none] }
abbrev zsZ (h : Heap) (o1 o2 : Obj) : Heap := (zsO h o1 o2).push { cls := .type "zip", data := .fields #[.none, .bool false, .bool true, .ref ((h.push o1).push o2).objs.size, .ref (zsT h o1 o2).objs.size] }
theorem meets_zipS {v1 v2 : Value} {o1 o2 : Obj} {H1 H2 : Heap → Prop} (B1 : Begins v1 o1 H1) (B2 : Begins v2 o2 H2) :
    Meets (Builtin.«zip.__new__» ⟨[.type "zip", v1, v2], [(Str.ofString "strict", .bool true)]⟩) (fun _ R s => (H1 s.heap ∧ H2 s.heap) ∧
      R (.ok (.ret (.ref (zsO s.heap o1 o2).objs.size))) { s with heap := zsZ s.heap o1 o2 }) :=
  .of_wp fun prog w A R s h => by
    obtain ⟨hp, g, d, tk, os⟩ := s; obtain ⟨⟨h1, h2⟩, h⟩ := h
    have hsub := sub_zip
    have e2 : (Str.ofString "strict" != ("strict" : Str)) = false := by decide +kernel
    have q1 : ∀ {A' : Around} {E : Value → Shared → Prop} {Q : Value → Shared → Prop}, Q (.ref hp.objs.size) ⟨(hp.push o1), g, d, tk, os⟩ → wpAny (model prog w) A' (pyIter v1) Q E ⟨hp, g, d, tk, os⟩ :=
      fun q => B1.iter prog w _ _ ⟨hp, g, d, tk, os⟩ _ (B1.keeps _ _ h1 fun b o' e => e) q
    have q2 : ∀ {A' : Around} {E : Value → Shared → Prop} {Q : Value → Shared → Prop}, Q (.ref (hp.push o1).objs.size) ⟨((hp.push o1).push o2), g, d, tk, os⟩ → wpAny (model prog w) A' (pyIter v2) Q E ⟨(hp.push o1), g, d, tk, os⟩ :=
      fun q => B2.iter prog w _ _ ⟨(hp.push o1), g, d, tk, os⟩ _ (B2.keeps _ _ h2 fun b o' e => (Heap.get?_push_of_some _ e)) q
    wp_walk using q1, q2
    exact ⟨_, rfl, h⟩

section
variable {prog : Program} {w : World} {A : Around} {E : Value → Shared → Prop} {s : Shared}
theorem zipS_begins {v1 v2 : Value} {o1 o2 : Obj} {H1 H2 : Heap → Prop} {Q : Value → Shared → Prop} (B1 : Begins v1 o1 H1) (B2 : Begins v2 o2 H2) (h1 : H1 s.heap) (h2 : H2 s.heap)
    (h : ∀ h', IsZipB true h' (s.heap.objs.size + 4) (s.heap.objs.size + 2) (s.heap.objs.size + 3) .none → IsTupOf2 h' (s.heap.objs.size + 2) (.ref s.heap.objs.size) (.ref (s.heap.objs.size + 1)) →
      IsTupOf2 h' (s.heap.objs.size + 3) .none .none → h'.get? s.heap.objs.size = some o1 → h'.get? (s.heap.objs.size + 1) = some o2 → h'.objs.size = s.heap.objs.size + 5 →
      (∀ c o, s.heap.get? c = some o → h'.get? c = some o) → Q (.ref (s.heap.objs.size + 4)) { s with heap := h' }) :
    wpAny (model prog w) A (call (.type "zip") [v1, v2] [(Str.ofString "strict", .bool true)]) Q E s := by
  refine callType_newKw F.called_zip (by decide) (typeCall_zipS _ _ _) (newCall_zipS _ _ _) (fun obj => args_initS obj _ _ _) F.entry_zip_new
    (meets_zipS B1 B2) ⟨⟨h1, h2⟩, ?_⟩
  have z1 : (s.heap.push o1).objs.size = s.heap.objs.size + 1 := by rw [Heap.size_push]
  have z2 : ((s.heap.push o1).push o2).objs.size = s.heap.objs.size + 2 := by rw [Heap.size_push, z1]
  have zT : (zsT s.heap o1 o2).objs.size = s.heap.objs.size + 3 := by rw [Heap.size_push, z2]
  have zO : (zsO s.heap o1 o2).objs.size = s.heap.objs.size + 4 := by rw [Heap.size_push, zT]
  have zZ : (zsZ s.heap o1 o2).objs.size = s.heap.objs.size + 5 := by rw [Heap.size_push, zO]
  have gZ : (zsZ s.heap o1 o2).get? (zsO s.heap o1 o2).objs.size = some _ := Heap.get?_push_size _ rfl
  have gO : (zsZ s.heap o1 o2).get? (zsT s.heap o1 o2).objs.size = some _ := Heap.get?_push_of_some _ (Heap.get?_push_size _ rfl)
  have gT : (zsZ s.heap o1 o2).get? ((s.heap.push o1).push o2).objs.size = some _ := Heap.get?_push_of_some _ (Heap.get?_push_of_some _ (Heap.get?_push_size _ rfl))
  have g1 : (zsZ s.heap o1 o2).get? s.heap.objs.size = some o1 := Heap.get?_push_of_some _ (Heap.get?_push_of_some _ (Heap.get?_push_of_some _ (Heap.get?_push_of_some _ (Heap.get?_push_size _ B1.free))))
  have g2 : (zsZ s.heap o1 o2).get? (s.heap.push o1).objs.size = some o2 := Heap.get?_push_of_some _ (Heap.get?_push_of_some _ (Heap.get?_push_of_some _ (Heap.get?_push_size _ B2.free)))
  rw [zO, zT, z2] at gZ
  rw [zT] at gO
  rw [z2, z1] at gT
  rw [z1] at g2
  show _ ∧ _
  rw [zO]
  exact ⟨⟨_, gZ, rfl⟩, h _ gZ gT gO g1 g2 zZ fun c o e => Heap.get?_push_of_some _ (Heap.get?_push_of_some _ (Heap.get?_push_of_some _ (Heap.get?_push_of_some _ (Heap.get?_push_of_some _ e))))⟩
end

/-! ### what zip takes: a list or a tuple -/
def SqX (K : PySem.W.Frag) (H : Hp) (b : Bool) (a : Addr) (xs : List V) : Prop := if b = true then SqT K H a xs else SqL K H a xs
def SrcIt (b : Bool) (h : Heap) (it a : Addr) (i : Nat) : Prop := if b = true then h.IsTupleIter it a i else h.IsListIter it a i
def SrcSq (b : Bool) (h : Heap) (a : Addr) (its : Array Value) : Prop := if b = true then h.IsTuple a its else h.IsList a its
def srcO (b : Bool) (a : Addr) : Obj := if b = true then { cls := .type "tuple_iterator", data := .fields #[.ref a, .int 0 0] } else { cls := .type "list_iterator", data := .fields #[.ref a, .int 0 0] }
theorem src_draws {prog : Program} {w : World} {A : Around} (hh : A.handled = none) (b : Bool) (it a : Addr) (hne : a ≠ it) (its : Array Value) :
    Draws prog w A it [it, a] its.size (fun i v => its[i]? = some v) (fun i h => SrcIt b h it a i ∧ SrcSq b h a its) := by
  cases b
  · exact Draws.list hh it a hne its
  · exact Draws.tuple hh it a hne its
theorem src_begins (b : Bool) (a : Addr) (its : Array Value) : Begins (.ref a) (srcO b a) (fun h => SrcSq b h a its) := by
  cases b
  · exact begins_list a its
  · exact begins_tuple a its
theorem src_of {X : Cx} {pins : List (Addr × Obj)} {σ : L2.St} {H : Hp} {s : Shared} (I : L2.Inv X pins σ H s) {b : Bool} {a : Addr} {xs : List V} (h : SqX X.K H b a xs) : ∃ its : List Value, Vals xs its ∧ SrcSq b s.heap a its.toArray ∧ a < s.heap.objs.size := by
  cases b
  · obtain ⟨its, r, p, _⟩ := I.list h
    exact ⟨its, r, p.isList, p.lt⟩
  · obtain ⟨its, r, p, _⟩ := I.tuple h
    exact ⟨its, r, p, p.lt⟩
theorem src_inj {X : Cx} {pins : List (Addr × Obj)} {σ : L2.St} {H : Hp} {s : Shared} (I : L2.Inv X pins σ H s) {b : Bool} {a : Addr} {xs ys : List V} (h : SqX X.K H b a xs) (h' : SqX X.K H b a ys) : xs = ys := by
  cases b
  · exact I.list_inj h h'
  · exact I.tuple_inj h h'
theorem srcIt_at {b : Bool} {h h' : Heap} {it a : Addr} {i : Nat} (x : SrcIt b h it a i) (k : ∀ o, h.get? it = some o → h'.get? it = some o) : SrcIt b h' it a i := by
  cases b
  · exact Heap.IsListIter.at x k
  · exact Heap.IsTupleIter.at x k
theorem srcIt_obj {b : Bool} {h : Heap} {it a : Addr} {i : Nat} (x : SrcIt b h it a i) : ∃ o, h.get? it = some o ∧ ∀ v, o.data ≠ .cell v := by
  cases b
  · obtain ⟨o, e, _, d⟩ := x
    exact ⟨o, e, fun v q => by rw [d] at q; cases q⟩
  · obtain ⟨o, e, _, d⟩ := x
    exact ⟨o, e, fun v q => by rw [d] at q; cases q⟩
theorem srcIt_new {b : Bool} {h : Heap} {it a : Addr} (x : h.get? it = some (srcO b a)) : SrcIt b h it a 0 := by
  cases b
  · exact ⟨_, x, rfl, rfl⟩
  · exact ⟨_, x, rfl, rfl⟩
def ItZ (K : PySem.W.Frag) (st b1 b2 : Bool) (a1 a2 : Addr) : It :=
  ⟨fun i H => ∃ (xs ys : List V) (x y : V), SqX K H b1 a1 xs ∧ SqX K H b2 a2 ys ∧ xs[i]? = some x ∧ ys[i]? = some y,
    fun i H v H' => ∃ T x y, v = .ref T ∧ H T = none ∧ H' = upd H T (.tup [x, y]) ∧ (∀ xs, SqX K H b1 a1 xs → xs[i]? = some x) ∧ ∀ ys, SqX K H b2 a2 ys → ys[i]? = some y,
    fun i H => ∃ xs ys : List V, SqX K H b1 a1 xs ∧ SqX K H b2 a2 ys ∧ i ≤ xs.length ∧ i ≤ ys.length ∧ (i = xs.length ∨ i = ys.length) ∧ (st = true → xs.length = ys.length)⟩
theorem mem5 {c z TI TO i1 i2 : Addr} (h : c ∈ [z, TI, TO, i1, i2]) : c = z ∨ c = TI ∨ c = TO ∨ c = i1 ∨ c = i2 := by simpa using h
theorem nextB_item {prog : Program} {w : World} {A : Around} {E : Value → Shared → Prop} {s : Shared} {z TI TO i1 i2 : Addr} {fp1 fp2 : List Addr} {n1 n2 i : Nat} {P1 P2 : Nat → Value → Prop} {St1 St2 : Nat → Heap → Prop} {a1 a2 : Value} {Q : Option Value → Shared → Prop} (st : Bool)
    (S : ZipSep2 z TI TO i1 i2 fp1 fp2) (D1 : Draws prog w A.in1 i1 fp1 n1 P1 St1) (D2 : Draws prog w A.in1 i2 fp2 n2 P2 St2)
    (hz : IsZipB st s.heap z TI TO .none) (hTI : IsTupOf2 s.heap TI (.ref i1) (.ref i2)) (hTO : IsTupOf2 s.heap TO a1 a2) (st1 : St1 i s.heap) (st2 : St2 i s.heap) (hlt1 : i < n1) (hlt2 : i < n2)
    (hQ : ∀ x1 x2 h' tk, P1 i x1 → P2 i x2 → IsZipB st h' z TI TO (rawInt s.heap.objs.size) → IsTupOf2 h' TO x1 x2 → St1 (i + 1) h' → St2 (i + 1) h' → IsTupOf2 h' s.heap.objs.size x1 x2 → h'.objs.size = s.heap.objs.size + 1 →
      (∀ c o, c ≠ z → c ≠ TO → c ≠ i1 → c ≠ i2 → s.heap.get? c = some o → h'.get? c = some o) → Q (some (.ref s.heap.objs.size)) { s with heap := h', toks := tk }) :
    wpAny (model prog w) A (pyNext (.ref z)) Q E s := by
  cases st
  · exact wpAny_pyNext_zipD2_item S D1 D2 hz hTI hTO st1 st2 hlt1 hlt2 hQ
  · exact nextS_item S D1 D2 hz hTI hTO st1 st2 hlt1 hlt2 hQ
theorem letGoB {prog : Program} {w : World} {A : Around} {E : Value → Shared → Prop} {s : Shared} {z TI TO : Addr} {elts : List Expr} {x1 : Nat} {pos : Pos} {T : Addr} {Q : Unit → Shared → Prop} (st : Bool) (hz : IsZipB st s.heap z TI TO (rawInt T))
    (hQ : ∀ h', IsZipB st h' z TI TO .none → Heap.SameBut z s.heap h' → Q () { s with heap := h' }) :
    wpAny (model prog w) A (letOwnedTupleGo (.Tuple elts x1 pos) (.ref z) (.ref T)) Q E s := by
  cases st
  · exact wpAny_letOwnedTupleGo_zip hz hQ
  · exact letGoS hz hQ
theorem turn_zipB {P : Program} {w : World} {K : PySem.W.Frag} {elts : List Expr} {kk : Nat} {tpos : Pos} {st b1 b2 : Bool} {N a1 a2 : Addr} (l1 : a1 < N) (l2 : a2 < N) :
    Turn P w K (.Tuple elts kk tpos) (ItZ K st b1 b2 a1 a2) [N + 4, N + 2, N + 3, N, N + 1] (N + 4)
      (fun i h => IsZipB st h (N + 4) (N + 2) (N + 3) .none ∧ IsTupOf2 h (N + 2) (.ref N) (.ref (N + 1)) ∧ (∃ x y, IsTupOf2 h (N + 3) x y) ∧ SrcIt b1 h N a1 i ∧ SrcIt b2 h (N + 1) a2 i) where
  mem := by simp
  obj := fun i h stt c hc => by
    obtain ⟨hz, hTI, ⟨x, y, hTO⟩, h1, h2⟩ := stt
    rcases mem5 hc with q | q | q | q | q
    · rw [q]; exact ⟨_, hz, fun v q => nomatch q⟩
    · rw [q]; exact ⟨_, hTI, fun v q => nomatch q⟩
    · rw [q]; exact ⟨_, hTO, fun v q => nomatch q⟩
    · rw [q]; exact srcIt_obj h1
    · rw [q]; exact srcIt_obj h2
  keep := fun i h h' stt k => by
    obtain ⟨hz, hTI, ⟨x, y, hTO⟩, h1, h2⟩ := stt
    exact ⟨k _ (by simp) _ hz, k _ (by simp) _ hTI, ⟨x, y, k _ (by simp) _ hTO⟩, srcIt_at h1 fun o q => k _ (by simp) o q, srcIt_at h2 fun o q => k _ (by simp) o q⟩
  item := by
    intro X hP hw hK hc i pins s σ H E I hf stt hg
    subst hP hw hK
    obtain ⟨hz, hTI, ⟨x0, y0, hTO⟩, h1, h2⟩ := stt
    obtain ⟨xs, ys, x, y, hqx, hqy, hx, hy⟩ := hg
    obtain ⟨its, rv, p1, _⟩ := src_of I hqx
    obtain ⟨its2, rv2, p2, _⟩ := src_of I hqy
    have S : ZipSep2 (N + 4) (N + 2) (N + 3) N (N + 1) [N, a1] [N + 1, a2] := zip_sep2 (by simpa using l1) (by simpa using l2)
    have hn : X.A.in1.handled = none := I.ok.hd hc
    have D1 := src_draws (prog := X.prog) (w := X.w) hn b1 N a1 (Nat.ne_of_lt l1) its.toArray
    have D2 := src_draws (prog := X.prog) (w := X.w) hn b2 (N + 1) a2 (Nat.ne_of_lt (Nat.lt_succ_of_lt l2)) its2.toArray
    have i1 : i < its.toArray.size := by rw [List.size_toArray, ← rv.length]; exact (List.getElem?_eq_some_iff.mp hx).1
    have i2 : i < its2.toArray.size := by rw [List.size_toArray, ← rv2.length]; exact (List.getElem?_eq_some_iff.mp hy).1
    have hzl : N + 4 < s.heap.objs.size := Heap.lt_size hz
    refine nextB_item st S D1 D2 hz hTI hTO ⟨h1, p1⟩ ⟨h2, p2⟩ i1 i2 fun u1 u2 h' tk e1 e2 z' TO' n1 n2 hT hsz hk => ?_
    refine ⟨_, rfl, letGoB (s := { s with heap := h', toks := tk }) st z' fun h'' z'' sb => ?_⟩
    have hT2 : h''.get? s.heap.objs.size = some { cls := .type "tuple", data := .seq #[u1, u2] } := (sb.2 _ (Nat.ne_of_gt hzl)).trans hT
    have ru1 : RelV x u1 := by
      obtain ⟨u, hu, ru⟩ := rv.get hx
      have e1' : its[i]? = some u1 := by simpa using e1
      rw [hu] at e1'
      rw [← Option.some.inj e1']
      exact ru
    have ru2 : RelV y u2 := by
      obtain ⟨u, hu, ru⟩ := rv2.get hy
      have e2' : its2[i]? = some u2 := by simpa using e2
      rw [hu] at e2'
      rw [← Option.some.inj e2']
      exact ru
    have new : ObjOk X.prog X.w (upd H s.heap.objs.size (.tup [x, y])) h'' s.heap.objs.size (.tup [x, y]) :=
      ⟨by show 2 ≤ sizeLine; decide, [u1, u2], .cons ru1 (.cons ru2 .nil), ⟨_, hT2, rfl, _, rfl⟩⟩
    have I1 : L2.Inv X pins σ (upd H s.heap.objs.size (.tup [x, y])) { s with heap := h'', toks := tk } :=
      I.turnedNew (t' := tk) (ch := [N + 4, N + 2, N + 3, N, N + 1]) (fun c o hb q => (sb.2 c (fun q' => hb (by simp [q']))).trans (hk c o (fun q' => hb (by simp [q'])) (fun q' => hb (by simp [q'])) (fun q' => hb (by simp [q'])) (fun q' => hb (by simp [q'])) q)) hf (Nat.le_refl _) new
    refine ⟨.ref s.heap.objs.size, _, I1, rfl, ⟨_, x, y, rfl, I.hok.fresh (Nat.le_refl _), rfl, fun l hl => by rw [src_inj I hl hqx]; exact hx, fun l hl => by rw [src_inj I hl hqy]; exact hy⟩, ⟨z'', ?_, ⟨u1, u2, ?_⟩, ?_, ?_⟩, fun c hcm => ?_⟩
    · exact (sb.2 _ (by show N + 2 ≠ N + 4; exact Nat.ne_of_lt (Nat.add_lt_add_left (by decide) N))).trans (hk _ _ S.TIz S.TITO S.TIi1 S.TIi2 hTI)
    · exact (sb.2 _ S.TOz).trans TO'
    · exact srcIt_at n1.1 fun o q => (sb.2 _ (Ne.symm S.zi1)).trans q
    · exact srcIt_at n2.1 fun o q => (sb.2 _ (Ne.symm S.zi2)).trans q
    · have hlt : c < s.heap.objs.size := by
        rcases mem5 hcm with q | q | q | q | q
        · rw [q]; exact hzl
        · rw [q]; exact Heap.lt_size hTI
        · rw [q]; exact Heap.lt_size hTO
        · rw [q]; obtain ⟨_, e1, _⟩ := srcIt_obj h1; exact Heap.lt_size e1
        · rw [q]; obtain ⟨_, e2, _⟩ := srcIt_obj h2; exact Heap.lt_size e2
      rw [upd_ne (Nat.ne_of_lt hlt)]
      exact (hf c hcm).1
  done := by
    intro X hP hw hK hc i pins s σ H E I hf stt hg
    subst hP hw hK
    obtain ⟨hz, hTI, ⟨x0, y0, hTO⟩, h1, h2⟩ := stt
    obtain ⟨xs, ys, hqx, hqy, le1, le2, hend, hst⟩ := hg
    obtain ⟨its, rv, p1, _⟩ := src_of I hqx
    obtain ⟨its2, rv2, p2, _⟩ := src_of I hqy
    have S : ZipSep2 (N + 4) (N + 2) (N + 3) N (N + 1) [N, a1] [N + 1, a2] := zip_sep2 (by simpa using l1) (by simpa using l2)
    have hn : X.A.in1.handled = none := I.ok.hd hc
    have D1 := src_draws (prog := X.prog) (w := X.w) hn b1 N a1 (Nat.ne_of_lt l1) its.toArray
    have D2 := src_draws (prog := X.prog) (w := X.w) hn b2 (N + 1) a2 (Nat.ne_of_lt (Nat.lt_succ_of_lt l2)) its2.toArray
    have e1 : its.toArray.size = xs.length := by rw [List.size_toArray, ← rv.length]
    have e2 : its2.toArray.size = ys.length := by rw [List.size_toArray, ← rv2.length]
    have fin : ∀ (h' : Heap) (tk : Nat), (∀ c o, c ≠ N + 4 → c ≠ N + 3 → c ≠ N → c ≠ N + 1 → s.heap.get? c = some o → h'.get? c = some o) → L2.Inv X pins σ H { s with heap := h', toks := tk } := fun h' tk hk =>
      I.turnedL (t' := tk) (ch := [N + 4, N + 2, N + 3, N, N + 1]) (fun c o hb q => hk c o (fun q' => hb (by simp [q'])) (fun q' => hb (by simp [q'])) (fun q' => hb (by simp [q'])) (fun q' => hb (by simp [q'])) q) hf
    cases st with
    | false =>
      refine wpAny_pyNext_zipD2_end S D1 D2 hz hTI hTO ⟨h1, p1⟩ ⟨h2, p2⟩ (by rw [e1]; exact le1) (by rw [e2]; exact le2) (by rw [e1, e2]; exact hend) fun h' tk hk => ⟨rfl, fin h' tk hk⟩
    | true =>
      have e3 : i = its.toArray.size := by
        have := hst rfl
        rcases hend with q | q
        · rw [e1]; exact q
        · rw [e1, this]; exact q
      have e4 : its2.toArray.size = its.toArray.size := by rw [e1, e2]; exact (hst rfl).symm
      rw [e4] at D2
      rw [e3] at h1 h2
      exact nextS_end (I.ok.hd hc) S D1 D2 hz hTI hTO ⟨h1, p1⟩ ⟨h2, p2⟩ fun h' hk => ⟨rfl, fin h' s.toks hk⟩
  self := fun A i s Q E stt h => by
    cases st
    · exact wpAny_pyIter_zip stt.1 h
    · exact iterS stt.1 h

/-! ### by data -/
def sqD : Bool → List D → D
  | true, ds => .tup ds
  | false, ds => .lst ds
def zipD (ds es : List D) : List D := (ds.zip es).map fun p => .tup [p.1, p.2]
theorem sq_of {K : PySem.W.Frag} {M : Dm} {H : Hp} {v : V} {b : Bool} {ds : List D} (h : Rp K (hid M H) v (sqD b ds)) : ∃ a xs, v = .ref a ∧ SqX K (hid M H) b a xs ∧ RpA K (hid M H) xs ds := by
  cases b
  · cases h with
    | lst q ra => exact ⟨_, _, rfl, .inl (.inl q), ra⟩
  · cases h with
    | tup q ra => exact ⟨_, _, rfl, q, ra⟩
theorem sqX_mono {K : PySem.W.Frag} {H H' : Hp} {b : Bool} {a : Addr} {xs : List V} (e : Evl.Ex H H') (h : SqX K H b a xs) : SqX K H' b a xs := by
  cases b
  · exact Evl.ex_l e h
  · exact Evl.ex_t e h
theorem itZ_ok {K : PySem.W.Frag} {M : Dm} {H : Hp} {st b1 b2 : Bool} {a1 a2 : Addr} {xs ys : List V} {ds es : List D} (q1 : SqX K (hid M H) b1 a1 xs) (r1 : RpA K (hid M H) xs ds) (q2 : SqX K (hid M H) b2 a2 ys) (r2 : RpA K (hid M H) ys es)
    (hst : st = true → ds.length = es.length) : ItOk K M (ItZ K st b1 b2 a1 a2) H (zipD ds es) := by
  have hl : (zipD ds es).length = min ds.length es.length := by unfold zipD; rw [List.length_map, List.length_zip]
  have up : ∀ {M' : Dm} {H' : Hp}, Xt M H M' H' → SqX K H' b1 a1 xs ∧ SqX K H' b2 a2 ys := fun x => ⟨sqX_mono (x.ex.trans hid_ex) q1, sqX_mono (x.ex.trans hid_ex) q2⟩
  refine ⟨fun i M' H' x hi => ?_, fun i M' H' v H2 d lv x hd hy => ?_, fun M' H' x => ?_⟩
  · rw [hl] at hi
    obtain ⟨u1, u2⟩ := up x
    have i1 : i < xs.length := by rw [r1.length]; omega
    have i2 : i < ys.length := by rw [r2.length]; omega
    exact ⟨xs, ys, xs[i], ys[i], u1, u2, List.getElem?_eq_getElem i1, List.getElem?_eq_getElem i2⟩
  · obtain ⟨u1, u2⟩ := up x
    obtain ⟨T, p, q, rfl, hT, rfl, e1, e2⟩ := hy
    have f1 := e1 xs u1
    have f2 := e2 ys u2
    have hi : i < (zipD ds es).length := (List.getElem?_eq_some_iff.mp hd).1
    rw [hl] at hi
    have i1 : i < ds.length := by omega
    have i2 : i < es.length := by omega
    have ed : d = .tup [ds[i], es[i]] := by
      unfold zipD at hd
      rw [List.getElem?_map] at hd
      have : (ds.zip es)[i]? = some (ds[i], es[i]) := by
        rw [List.getElem?_eq_getElem (by rw [List.length_zip]; omega), List.getElem_zip]
      rw [this] at hd
      exact (Option.some.inj hd).symm
    subst ed
    have nT : M' T = false := by
      cases e : M' T with
      | false => rfl
      | true => exact absurd hT (lv T e)
    have xn : Xt M' H' M' (upd H' T (.tup [p, q])) := Xt.new hT
    refine ⟨xn, fun a ha => upd_ne (fun e => by rw [e, nT] at ha; cases ha), .tup (xs := [p, q]) (.inl (.inl ?_)) ?_⟩
    · rw [hid_out nT]; exact upd_same
    · obtain ⟨v1, w1, z1⟩ := (r1.mono x.ex).get (List.getElem?_eq_getElem i1)
      obtain ⟨v2, w2, z2⟩ := (r2.mono x.ex).get (List.getElem?_eq_getElem i2)
      rw [f1] at w1
      rw [f2] at w2
      cases w1
      cases w2
      exact .cons (z1.mono xn.ex) (.cons (z2.mono xn.ex) .nil)
  · obtain ⟨u1, u2⟩ := up x
    have a1 := r1.length
    have a2 := r2.length
    exact ⟨xs, ys, u1, u2, by rw [hl]; omega, by rw [hl]; omega, by rw [hl]; omega, fun z => by rw [a1, a2]; exact hst z⟩
def iZ (K : PySem.W.Frag) (st : Bool) (ta : TA) : TI := fun σ H R => ta σ H fun vs H1 => ∃ M v1 v2 b1 b2 ds es, vs = [v1, v2] ∧ Rp K (hid M H1) v1 (sqD b1 ds) ∧ Rp K (hid M H1) v2 (sqD b2 es) ∧ (st = true → ds.length = es.length) ∧ ∀ J, ItOk K M J H1 (zipD ds es) → R J H1
theorem fp5 {X : Cx} {pins : List (Addr × Obj)} {σ : L2.St} {H : Hp} {s : Shared} (I : L2.Inv X pins σ H s) : ∀ c, c ∈ [s.heap.objs.size + 4, s.heap.objs.size + 2, s.heap.objs.size + 3, s.heap.objs.size, s.heap.objs.size + 1] → FpOk X pins H c := fun c hcm => by
  have hle : s.heap.objs.size ≤ c := by
    rcases mem5 hcm with z | z | z | z | z
    · rw [z]; exact Nat.le_add_right _ _
    · rw [z]; exact Nat.le_add_right _ _
    · rw [z]; exact Nat.le_add_right _ _
    · rw [z]; exact Nat.le_refl _
    · rw [z]; exact Nat.le_add_right _ _
  exact I.fpOk hle (I.hok.fresh hle)
section
variable {X : Cx} {e e2 : Expr} {ta : TA} {p pos tpos : Pos} {elts : List Expr} {kk : Nat}
/-- for a, b in zip(xs, ys) -/
theorem pi_zipN (hg : Gl X "zip") (hm : X.mg "zip" = none) (ha : PA X [e, e2] ta)
    (hs : starEach [e, e2] X.env = (false, eval e X.env) :: starEach [e2] X.env := by rfl) (hpl : (backTo pos (starEach [e2] X.env)).any (·.1) = false := by rfl) :
    PI X (.Tuple elts kk tpos) (.Call (.Name "zip" p) [e, e2] [] pos) (iZ X.K false ta) := by
  refine ⟨fun pins s σ H R I h => ?_⟩
  refine Call_ (ld_blt I hg hm PyProof.Rows.boot_zip (PyProof.Rows.callWith_type1 (thn (ha.run pos pins s σ H _ I h) fun us s1 ⟨vs, H1, I1, r1, q1⟩ => ?_) hs hpl))
  obtain ⟨M, v1, v2, b1, b2, ds, es, ex, h1, h2, hst, q⟩ := q1
  subst ex
  obtain ⟨a1, xs, rfl, q1, ra1⟩ := sq_of h1
  obtain ⟨a2, ys, rfl, q2, ra2⟩ := sq_of h2
  obtain ⟨u1, u2, rfl, rr1, rr2⟩ := vals2 r1
  cases rr1
  cases rr2
  obtain ⟨its, _, p1, l1⟩ := src_of I1 (sqX_mono hid_ex q1)
  obtain ⟨its2, _, p2, l2⟩ := src_of I1 (sqX_mono hid_ex q2)
  refine zip_begins2 (src_begins b1 a1 its.toArray) (src_begins b2 a2 its2.toArray) p1 p2 fun h' hz hTI hTO g1 g2 hsz hk => wpAny_pyIter_zip hz ?_
  have I2 : L2.Inv X pins σ H1 { s1 with heap := h' } := I1.kept (t' := s1.toks) hk
  exact ⟨s1.heap.objs.size + 4, _, _, _, H1, rfl, I2, turn_zipB (st := false) (b1 := b1) (b2 := b2) l1 l2, ⟨hz, hTI, ⟨_, _, hTO⟩, srcIt_new g1, srcIt_new g2⟩, fp5 I1, q _ (itZ_ok q1 ra1 q2 ra2 hst)⟩
theorem callWith_tyKw {M : Model} {A : Around} {E : Value → Shared → Prop} {s : Shared} {pos : Pos} {T : String} {args : List (Bool × Sem Value)} {keywords : List (Option Str × Sem Value)} {Q : Value → Shared → Prop}
    (hplain : args.any (·.1) = false) (hkw : keywords.any (·.1.isNone) = false)
    (h : wpAny M A (evalArgs (.type T) true args keywords) (fun a s1 => wpAny M A (call (.type T) a.pos a.kw) Q E s1) E s) :
    wpAny M A (callWith pos (.type T) [] args keywords) Q E s := by
  unfold callWith
  refine wpAny_bind (wpAny_holding (wpAny_mono h (fun a s1 h1 => wpAny_bind (wpAny_standAt ?_)) fun _ _ x => x))
  simp only [hplain, hkw, Bool.or_false]
  refine wpAny_bind (wpAny_pure ?_)
  exact wpAny_bind (wpAny_mono h1 (fun r s2 hr => wpAny_bind (wpAny_holding (wpAny_point (wpAny_pure hr)))) fun _ _ x => x)
/-- for a, b in zip(xs, ys, strict=True) -/
theorem pi_zipS {k : Nat} {cp kp : Pos} (hg : Gl X "zip") (hm : X.mg "zip" = none) (ha : PA X [e, e2] ta)
    (he : backTo pos (starEach [e, e2] X.env) = (false, eval e X.env) :: backTo pos (starEach [e2] X.env) := by rfl) (hpl : (backTo pos (starEach [e, e2] X.env)).any (·.1) = false := by rfl) :
    PI X (.Tuple elts kk tpos) (.Call (.Name "zip" p) [e, e2] [⟨some "strict", .Constant (.bool true) k cp, kp⟩] pos) (iZ X.K true ta) := by
  refine ⟨fun pins s σ H R I h => ?_⟩
  refine wpAny_Call_Name_kw (ld_blt I hg hm PyProof.Rows.boot_zip ?_)
  refine callWith_tyKw hpl rfl ?_
  have hA := ha.run pos pins s σ H _ I h
  rw [he] at hA ⊢
  refine evalArgs_kwB rfl (thn hA fun us s1 ⟨vs, H1, I1, r1, q1⟩ => ?_)
  refine kws_cons (Constant_bool (kws_nil ?_))
  obtain ⟨M, v1, v2, b1, b2, ds, es, ex, h1, h2, hst, q⟩ := q1
  subst ex
  obtain ⟨a1, xs, rfl, q1, ra1⟩ := sq_of h1
  obtain ⟨a2, ys, rfl, q2, ra2⟩ := sq_of h2
  obtain ⟨u1, u2, rfl, rr1, rr2⟩ := vals2 r1
  cases rr1
  cases rr2
  obtain ⟨its, _, p1, l1⟩ := src_of I1 (sqX_mono hid_ex q1)
  obtain ⟨its2, _, p2, l2⟩ := src_of I1 (sqX_mono hid_ex q2)
  show wpAny _ _ (call (.type "zip") [.ref a1, .ref a2] [(Str.ofString "strict", .bool true)]) _ _ _
  refine zipS_begins (src_begins b1 a1 its.toArray) (src_begins b2 a2 its2.toArray) p1 p2 fun h' hz hTI hTO g1 g2 hsz hk => iterS hz ?_
  have I2 : L2.Inv X pins σ H1 { s1 with heap := h' } := I1.kept (t' := s1.toks) hk
  exact ⟨s1.heap.objs.size + 4, _, _, _, H1, rfl, I2, turn_zipB (st := true) (b1 := b1) (b2 := b2) l1 l2, ⟨hz, hTI, ⟨_, _, hTO⟩, srcIt_new g1, srcIt_new g2⟩, fp5 I1, q _ (itZ_ok q1 ra1 q2 ra2 hst)⟩
end
end Cr

/-! Cr5: walks and calls of built-ins, by data. -/
namespace Cr
open PySem PySem.Spec PyProof.Rows L2

/-! ### walks -/
section
variable {X : Cx} {tg : Expr}
def iD (K : PySem.W.Frag) (te : TE) : TI := fun σ H R => te σ H fun v H1 => ∃ M b ds, Rp K (hid M H1) v (sqD b ds) ∧ ∀ J, ItOk K M J H1 ds → R J H1
theorem itl_ok {K : PySem.W.Frag} {M : Dm} {H : Hp} {a : Addr} {xs : List V} {ds : List D} (q : hid M H a = some (.lst xs)) (ra : RpA K (hid M H) xs ds) : ItOk K M (Itl K a) H ds := by
  have hl := ra.length
  have up : ∀ {M' : Dm} {H' : Hp}, Xt M H M' H' → SqL K H' a xs := fun x => .inl (.inl ((x.ex.trans hid_ex) _ _ q))
  refine ⟨fun i M' H' x hi => ?_, fun i M' H' v H2 d lv x hd hy => ?_, fun M' H' x => ⟨xs, up x, by omega⟩⟩
  · have i1 : i < xs.length := by omega
    exact ⟨xs, xs[i], up x, List.getElem?_eq_getElem i1⟩
  · obtain ⟨rfl, e⟩ := hy
    obtain ⟨w, e2, rw2⟩ := (ra.mono x.ex).get hd
    have e3 := e xs (up x)
    rw [e2] at e3
    cases e3
    exact ⟨Xt.refl, fun _ _ => rfl, rw2⟩
theorem itt_ok {K : PySem.W.Frag} {M : Dm} {H : Hp} {a : Addr} {xs : List V} {ds : List D} (q : SqT K (hid M H) a xs) (ra : RpA K (hid M H) xs ds) : ItOk K M (Itt K a) H ds := by
  have hl := ra.length
  have up : ∀ {M' : Dm} {H' : Hp}, Xt M H M' H' → SqT K H' a xs := fun x => Evl.ex_t (x.ex.trans hid_ex) q
  refine ⟨fun i M' H' x hi => ?_, fun i M' H' v H2 d lv x hd hy => ?_, fun M' H' x => ⟨xs, up x, by omega⟩⟩
  · have i1 : i < xs.length := by omega
    exact ⟨xs, xs[i], up x, List.getElem?_eq_getElem i1⟩
  · obtain ⟨rfl, e⟩ := hy
    obtain ⟨w, e2, rw2⟩ := (ra.mono x.ex).get hd
    have e3 := e xs (up x)
    rw [e2] at e3
    cases e3
    exact ⟨Xt.refl, fun _ _ => rfl, rw2⟩
theorem pi_D {l : Expr} {tl : TE} (hl : PE X l tl) : PI X tg l (iD X.K tl) := by
  refine ⟨fun pins s σ H R I h => ?_⟩
  refine thn (hl.run pins s σ H _ I h) fun v s1 ⟨x, H1, I1, r1, M, b, ds, rp, q⟩ => ?_
  cases b with
  | false =>
    cases rp with
    | @lst a xs _ e ra =>
      cases r1
      obtain ⟨its, rv, p, hz⟩ := I1.list (.inl (.inl (hid_some e).2))
      refine wpAny_pyIter_list p.isList ?_
      refine ⟨s1.heap.objs.size, [s1.heap.objs.size], _, _, H1, rfl, I1.kept (t' := s1.toks) fun b o e => Heap.get?_push_of_some _ e, turn_list a _, ⟨_, Heap.get?_push_size _ rfl, rfl, rfl⟩, fun b hb => ?_, q _ (itl_ok e ra)⟩
      have e : b = s1.heap.objs.size := by simpa using hb
      subst e
      exact I1.fpOk (Nat.le_refl _) (I1.hok.fresh (Nat.le_refl _))
  | true =>
    cases rp with
    | @tup a xs _ e ra =>
      cases r1
      obtain ⟨its, rv, p, hz⟩ := I1.tuple (sqT_hid e)
      refine wpAny_pyIter_tuple (show s1.heap.IsTuple a its.toArray from p) ?_
      refine ⟨s1.heap.objs.size, [s1.heap.objs.size], _, _, H1, rfl, I1.kept (t' := s1.toks) fun b o e => Heap.get?_push_of_some _ e, turn_tuple a _, ⟨_, Heap.get?_push_size _ rfl, rfl, rfl⟩, fun b hb => ?_, q _ (itt_ok e ra)⟩
      have e : b = s1.heap.objs.size := by simpa using hb
      subst e
      exact I1.fpOk (Nat.le_refl _) (I1.hok.fresh (Nat.le_refl _))
end
section
variable {K : PySem.W.Frag} {r : Ro} {m : Sto}
theorem wi_D {te : TE} {Q : List D → Sto → Prop} (h : WE K r m te fun s m1 => ∃ b ds, s = .val (sqD b ds) ∧ Q ds m1) : WI K r m (iD K te) Q := fun σ H R e st k =>
  h σ H _ e st fun v H1 s m1 x1 so1 rs ⟨b, ds, es, q⟩ => by
    subst es
    exact ⟨dom m1, b, ds, rs, fun J io => k J H1 ds m1 x1 so1 io q⟩
theorem wi_Z {st : Bool} {ta : TA} {Q : List D → Sto → Prop} (h : WA K r m ta fun ss m1 => ∃ b1 b2 ds es, ss = [.val (sqD b1 ds), .val (sqD b2 es)] ∧ (st = true → ds.length = es.length) ∧ Q (zipD ds es) m1) : WI K r m (iZ K st ta) Q := fun σ H R e so k =>
  h σ H _ e so fun vs H1 ss m1 x1 so1 rs ⟨b1, b2, ds, es, ess, hst, q⟩ => by
    subst ess
    cases rs with
    | cons r1 rs =>
      cases rs with
      | cons r2 rs =>
        cases rs
        exact ⟨dom m1, _, _, b1, b2, ds, es, rfl, r1, r2, hst, fun J io => k J H1 _ m1 x1 so1 io q⟩
theorem itr_ok {M : Dm} {H : Hp} (lo : Int) (n : Nat) : ItOk K M (Itr lo n) H ((List.range n).map fun (i : Nat) => D.int (lo + (i : Int))) := by
  refine ⟨fun i M' H' x hi => ?_, fun i M' H' v H2 d lv x hd hy => ?_, fun M' H' x => ?_⟩
  · show i < n
    rw [List.length_map, List.length_range] at hi
    exact hi
  · obtain ⟨rfl, rfl⟩ := hy
    rw [List.getElem?_map] at hd
    cases e : (List.range n)[i]? with
    | none => rw [e] at hd; cases hd
    | some j =>
      rw [e] at hd
      have ej : i = j := by
        obtain ⟨h1, h2⟩ := List.getElem?_eq_some_iff.mp e
        rw [List.getElem_range] at h2
        exact h2
      subst ej
      cases hd
      exact ⟨Xt.refl, fun _ _ => rfl, .int _⟩
  · show n ≤ ((List.range n).map fun (i : Nat) => D.int (lo + (i : Int))).length
    rw [List.length_map, List.length_range]
    exact Nat.le_refl _
def rngD (lo : Int) (n : Nat) : List D := (List.range n).map fun (i : Nat) => D.int (lo + (i : Int))
theorem wi_rng1 {ta : TA} {Q : List D → Sto → Prop} (h : WA K r m ta fun ss m1 => ∃ j : Int, ss = [.val (.int j)] ∧ -(2 ^ 62) ≤ j ∧ j < 2 ^ 62 ∧ Q (rngD 0 j.toNat) m1) : WI K r m (iRng1 ta) Q := fun σ H R e so k =>
  h σ H _ e so fun vs H1 ss m1 x1 so1 rs ⟨j, es, h1, h2, q⟩ => by
    subst es
    cases rs with
    | cons r1 rs =>
      cases rs
      have r1' : Rp K (hid (dom m1) H1) _ (.int j) := r1
      cases r1'
      exact ⟨j, rfl, h1, h2, k _ H1 _ m1 x1 so1 (itr_ok 0 j.toNat) q⟩
theorem wi_rng2 {ta : TA} {Q : List D → Sto → Prop} (h : WA K r m ta fun ss m1 => ∃ i j : Int, ss = [.val (.int i), .val (.int j)] ∧ (-(2 ^ 62) ≤ i ∧ i < 2 ^ 62 ∧ -(2 ^ 62) ≤ j ∧ j < 2 ^ 62) ∧ Q (rngD i (j - i).toNat) m1) : WI K r m (iRng2 ta) Q := fun σ H R e so k =>
  h σ H _ e so fun vs H1 ss m1 x1 so1 rs ⟨i, j, es, hb, q⟩ => by
    subst es
    cases rs with
    | cons r1 rs =>
      cases rs with
      | cons r2 rs =>
        cases rs
        have r1' : Rp K (hid (dom m1) H1) _ (.int i) := r1
        have r2' : Rp K (hid (dom m1) H1) _ (.int j) := r2
        cases r1'
        cases r2'
        exact ⟨i, j, rfl, hb, k _ H1 _ m1 x1 so1 (itr_ok i (j - i).toNat) q⟩
theorem we_bits {to : TE} {Q : Sv → Sto → Prop} (h : WE K r m to fun s m1 => ∃ i, s = .val (.int i) ∧ Q (.val (.int (Builtin.Int.intBits i : Nat))) m1) : WE K r m (tBits to) Q := fun σ H QV e so k =>
  h σ H _ e so fun v H1 s m1 x1 so1 rs ⟨i, es, q⟩ => by
    subst es
    have r1' : Rp K (hid (dom m1) H1) _ (.int i) := rs
    cases r1'
    exact ⟨i, rfl, k _ H1 (.val (.int (Builtin.Int.intBits i : Nat))) m1 x1 so1 (show Rp _ _ _ _ from .int _) q⟩
end

/-! ### calls -/
inductive RLen : List D → Rs → Prop
  | lst (ds : List D) : RLen [.lst ds] (.v (.int ds.length))
  | tup (ds : List D) : RLen [.tup ds] (.v (.int ds.length))
  | scr (ns : List Int) : RLen [.scr ns] (.v (.int ns.length))
  | str {z : Str} (h : z.length ≤ szD) : RLen [.str z] (.v (.int z.length))
inductive RTup : List D → Rs → Prop
  | lst (ds : List D) : RTup [.lst ds] (.v (.tup ds))
  | tup (ds : List D) : RTup [.tup ds] (.v (.tup ds))
inductive RLst : List D → Rs → Prop
  | lst (ds : List D) : RLst [.lst ds] (.l ds)
  | tup (ds : List D) : RLst [.tup ds] (.l ds)
  | str {z : Str} (h : z.length ≤ szD) : RLst [.str z] (.l (z.cps.toList.map fun c => D.str ⟨#[c]⟩))
inductive RInt : List D → Rs → Prop
  | int (i : Int) : RInt [.int i] (.v (.int i))
  | bl (b : Bool) : RInt [.bl b] (.v (.int (if b then 1 else 0)))
inductive RMax : List D → Rs → Prop
  | int (i j : Int) : RMax [.int i, .int j] (.v (.int (if j > i then j else i)))
inductive RMin : List D → Rs → Prop
  | int (i j : Int) : RMin [.int i, .int j] (.v (.int (if j < i then j else i)))
inductive RSum : List D → Rs → Prop
  | lst (ns : List Int) : RSum [.lst (ns.map .int)] (.v (.int ns.sum))
  | tup (ns : List Int) : RSum [.tup (ns.map .int)] (.v (.int ns.sum))
section
variable {X : Cx}
theorem rpWs1 {K : PySem.W.Frag} {M : Dm} {H : Hp} {xs : List V} {d : D} (h : RpWs K M H xs [d]) : ∃ x, xs = [x] ∧ RpW K M H x d := by
  cases h with
  | cons h1 h2 => cases h2; exact ⟨_, rfl, h1⟩
theorem rpWs2 {K : PySem.W.Frag} {M : Dm} {H : Hp} {xs : List V} {d e : D} (h : RpWs K M H xs [d, e]) : ∃ x y, xs = [x, y] ∧ RpW K M H x d ∧ RpW K M H y e := by
  cases h with
  | cons h1 h2 => cases h2 with
    | cons h2 h3 => cases h3; exact ⟨_, _, rfl, h1, h2⟩
theorem call_lenD : CallR X (.builtin "len") (rDN X.K RLen) := by
  intro pins s σ H xs us Q I r ⟨M, ds, c, lv, hs, hf, k⟩
  cases hf with
  | lst ds =>
    obtain ⟨x, rfl, h⟩ := rpWs1 hs
    obtain ⟨a, ys, rfl, e, ra⟩ := h.lst
    exact call_len_seq pins s σ H _ us Q I r ⟨a, ys, rfl, .inl (.inl (.inl e)), by rw [ra.length]; exact k.v (.int _)⟩
  | tup ds =>
    obtain ⟨x, rfl, h⟩ := rpWs1 hs
    obtain ⟨a, ys, rfl, e, ra⟩ := h.tup
    exact call_len_seq pins s σ H _ us Q I r ⟨a, ys, rfl, .inr (sqT_hid e), by rw [ra.length]; exact k.v (.int _)⟩
  | scr ns =>
    obtain ⟨x, rfl, h⟩ := rpWs1 hs
    cases h.rp with
    | scr e => exact call_len_seq pins s σ H _ us Q I r ⟨_, _, rfl, .inl e, by rw [List.length_map]; exact k.v (.int _)⟩
  | str hz =>
    obtain ⟨x, rfl, h⟩ := rpWs1 hs
    cases h.str
    exact call_len_str pins s σ H _ us Q I r ⟨_, rfl, szD_line hz, k.v (.int _)⟩
theorem call_tupD : CallR X (.type "tuple") (rDN X.K RTup) := by
  intro pins s σ H xs us Q I r ⟨M, ds, c, lv, hs, hf, k⟩
  cases hf with
  | lst ds =>
    obtain ⟨x, rfl, h⟩ := rpWs1 hs
    obtain ⟨a, ys, rfl, e, ra⟩ := h.lst
    exact call_tuple_of pins s σ H _ us Q I r ⟨a, ys, rfl, .inl ⟨.inl (.inl e), fun l hl => k.tup lv hl ra⟩⟩
  | tup ds =>
    obtain ⟨x, rfl, h⟩ := rpWs1 hs
    obtain ⟨a, ys, rfl, e, ra⟩ := h.tup
    exact call_tuple_of pins s σ H _ us Q I r ⟨a, ys, rfl, .inr ⟨sqT_hid e, k.v (.tup e ra)⟩⟩
theorem vals_signs : ∀ {cs : List Nat} {vs : List Value}, vs.length = cs.length → (∀ (j : Nat) (v : Value), vs[j]? = some v → ∃ c u, cs[j]? = some c ∧ v = .str ⟨#[c]⟩ u) → Vals (cs.map fun c => V.str ⟨#[c]⟩) vs
  | [], [], _, _ => .nil
  | [], _ :: _, h, _ => by cases h
  | _ :: _, [], h, _ => by cases h
  | c :: cs, v :: vs, h, hj => by
    obtain ⟨c', u, e1, e2⟩ := hj 0 v rfl
    have e1' : c = c' := Option.some.inj e1
    subst e1' e2
    exact .cons ⟨u, rfl⟩ (vals_signs (by simpa using h) fun j w hw => hj (j + 1) w hw)
theorem signs_rp {K : PySem.W.Frag} {H : Hp} : ∀ cs : List Nat, RpA K H (cs.map fun c => V.str ⟨#[c]⟩) (cs.map fun c => D.str ⟨#[c]⟩)
  | [] => .nil
  | c :: cs => .cons (.str _) (signs_rp cs)
theorem call_lstD (hc : X.calm = true) : CallR X (.type "list") (rDN X.K RLst) := by
  intro pins s σ H xs us Q I r ⟨M, ds, c, lv, hs, hf, k⟩
  cases hf with
  | lst ds =>
    obtain ⟨x, rfl, h⟩ := rpWs1 hs
    obtain ⟨a, ys, rfl, e, ra⟩ := h.lst
    exact call_list_of pins s σ H _ us Q I r ⟨a, ys, rfl, .inl (.inl (.inl e)), fun l hl => k l _ hl ra⟩
  | tup ds =>
    obtain ⟨x, rfl, h⟩ := rpWs1 hs
    obtain ⟨a, ys, rfl, e, ra⟩ := h.tup
    exact call_list_of pins s σ H _ us Q I r ⟨a, ys, rfl, .inr (sqT_hid e), fun l hl => k l _ hl ra⟩
  | @str z hz =>
    obtain ⟨x, rfl, h⟩ := rpWs1 hs
    obtain ⟨u, rfl, rx⟩ := vals1 r
    cases h.str
    obtain ⟨t, rfl⟩ := rx
    have hsz : z.cps.size ≤ sizeLine := szD_line hz
    refine PySem.call_list_str (I.ok.hd hc) z t (fun h' tk acc' c' kp e hacc => ?_) hsz
    have hv : Vals (z.cps.toList.map fun c => V.str ⟨#[c]⟩) acc'.toList := vals_signs (by rw [Array.length_toList, Array.length_toList]; exact hacc.1) fun j v hj => by
      obtain ⟨c, u, h1, h2⟩ := hacc.2 j v (by simpa using hj)
      exact ⟨c, u, by simpa using h1, h2⟩
    refine ⟨.ref s.heap.objs.size, _, I.laid (t' := tk) (o := .lst (z.cps.toList.map fun c => V.str ⟨#[c]⟩)) kp (Nat.le_refl _) ⟨by rw [List.length_map, Array.length_toList]; exact hsz, acc'.toList, c', hv, by simpa using e⟩, rfl, k _ _ (I.hok.fresh (Nat.le_refl _)) (signs_rp _)⟩
theorem call_intD : CallR X (.type "int") (rDN X.K RInt) := by
  intro pins s σ H xs us Q I r ⟨M, ds, c, lv, hs, hf, k⟩
  cases hf with
  | int i =>
    obtain ⟨x, rfl, h⟩ := rpWs1 hs
    cases h.int
    exact call_int1 pins s σ H _ us Q I r (.inl ⟨i, rfl, k.v (.int _)⟩)
  | bl b =>
    obtain ⟨x, rfl, h⟩ := rpWs1 hs
    cases h.bl
    exact call_int1 pins s σ H _ us Q I r (.inr ⟨b, rfl, k.v (.int _)⟩)
theorem call_maxD (hc : X.calm = true) : CallR X (.builtin "max") (rDN X.K RMax) := by
  intro pins s σ H xs us Q I r ⟨M, ds, c, lv, hs, hf, k⟩
  cases hf with
  | int i j =>
    obtain ⟨x, y, rfl, h1, h2⟩ := rpWs2 hs
    cases h1.int
    cases h2.int
    exact call_max2 hc pins s σ H _ us Q I r ⟨i, j, rfl, k.v (.int _)⟩
theorem call_minD (hc : X.calm = true) : CallR X (.builtin "min") (rDN X.K RMin) := by
  intro pins s σ H xs us Q I r ⟨M, ds, c, lv, hs, hf, k⟩
  cases hf with
  | int i j =>
    obtain ⟨x, y, rfl, h1, h2⟩ := rpWs2 hs
    cases h1.int
    cases h2.int
    exact call_min2 hc pins s σ H _ us Q I r ⟨i, j, rfl, k.v (.int _)⟩
theorem call_sumD (hc : X.calm = true) : CallR X (.builtin "sum") (rDN X.K RSum) := by
  intro pins s σ H xs us Q I r ⟨M, ds, c, lv, hs, hf, k⟩
  cases hf with
  | lst ns =>
    obtain ⟨x, rfl, h⟩ := rpWs1 hs
    obtain ⟨a, ys, rfl, e, ra⟩ := h.lst
    have ey := ra.ints
    subst ey
    exact cr_sum hc pins s σ H _ us Q I r ⟨a, ns, rfl, .inl (.inl e), k.v (.int _)⟩
  | tup ns =>
    obtain ⟨x, rfl, h⟩ := rpWs1 hs
    obtain ⟨a, ys, rfl, e, ra⟩ := h.tup
    have ey := ra.ints
    subst ey
    obtain ⟨its, rv, ht, _⟩ := I.tuple (sqT_hid e)
    rw [Vals.ref1 r]
    have hi := rv.ints
    obtain ⟨xs, ex⟩ := hi.allInts.items
    have hn : numsOf (intItems xs).toList = ns := by rw [← ex]; exact hi.numsOf
    rw [nums_intItems] at hn
    rw [ex] at ht
    refine PySem.W.ktm_sumG (I.ok.hd hc) ht fun h' tk t' hk => ?_
    rw [preSum_eq, List.take_of_length_le (by simp), hn]
    exact ⟨.int _, H, I.kept hk, ⟨_, rfl⟩, k.v (.int _)⟩
end
/-! isinstance -/
def D.tn : D → Option String
  | .non => some "NoneType"
  | .bl _ => some "bool"
  | .int _ => some "int"
  | .str _ => some "str"
  | .lst _ => some "list"
  | .tup _ => some "tuple"
  | .scr _ => some "list"
  | _ => none
theorem tyX_of {K : PySem.W.Frag} {M : Dm} {H : Hp} {v : V} {d : D} {t : String} (h : RpW K M H v d) (e : d.tn = some t) : TyX K H v (.type t) := by
  cases h.rp with
  | non => cases e; exact .base .non
  | bl b => cases e; exact .base (.bl b)
  | int i => cases e; exact .base (.int i)
  | str x => cases e; exact .base (.str x)
  | ty n => cases e
  | lst q _ => cases e; exact .base (.lst q)
  | tup q _ =>
    cases e
    rcases q with (q | ⟨o, q⟩) | ⟨o, its, n, q, hc, _⟩
    · exact .base (.tup q)
    · exact .fTuple q
    · exact .kTuple q hc
  | scr q =>
    cases e
    rcases q with (q | ⟨o, q⟩) | ⟨o, its, n, q, hc, _⟩
    · exact .base (.lst q)
    · exact .base (.frz q)
    · exact .kList q hc
  | ins q _ => cases e
  | exc _ _ _ => cases e
  | adr _ => cases e
inductive KAny (t : String) : List String → Bool → Prop
  | nil : KAny t [] false
  | yes {n : String} {ns : List String} (h : kitB t n = some true) : KAny t (n :: ns) true
  | no {n : String} {ns : List String} {b : Bool} (h : kitB t n = some false) (k : KAny t ns b) : KAny t (n :: ns) b
theorem KAny.kit {K : PySem.W.Frag} {t : String} : ∀ {ns : List String} {b : Bool}, KAny t ns b → PySem.W.kitAny K (.type t) (ns.map Value.type) = some b
  | _, _, .nil => kitAny_nil
  | _, _, .yes h => kitAny_cons (kit_ty h) (fun q => by cases q) (fun _ => rfl)
  | _, _, .no h k => kitAny_cons (kit_ty h) (fun _ => k.kit) (fun q => by cases q)
inductive RIsi : List D → Rs → Prop
  | one {d : D} {n t : String} {b : Bool} (h : d.tn = some t) (k : kitB t n = some b) : RIsi [d, .ty n] (.v (.bl b))
  | many {d : D} {ns : List String} {t : String} {b : Bool} (h : d.tn = some t) (k : KAny t ns b) : RIsi [d, .tup (ns.map .ty)] (.v (.bl b))
theorem clsV_of {K : PySem.W.Frag} {H : Hp} : ∀ {ns : List String} {xs : List V}, RpA K H xs (ns.map D.ty) → Paired ClsV xs (ns.map Value.type)
  | [], _, .nil => .nil
  | n :: ns, _, .cons h t => by
    cases h
    exact .cons (.ty n) (clsV_of t)
section
variable {X : Cx}
theorem call_isiD : CallR X (.builtin "isinstance") (rDN X.K RIsi) := by
  intro pins s σ H xs us Q I r ⟨M, ds, c, lv, hs, hf, k⟩
  cases hf with
  | one h kb =>
    obtain ⟨x, y, rfl, h1, h2⟩ := rpWs2 hs
    cases h2.rp
    exact call_isi pins s σ H _ us Q I r ⟨x, _, _, _, _, rfl, .ty _, tyX_of h1 h, kit_ty kb, k.v (.bl _)⟩
  | many h kb =>
    obtain ⟨x, y, rfl, h1, h2⟩ := rpWs2 hs
    obtain ⟨a, ys, rfl, e, ra⟩ := h2.tup
    obtain ⟨u1, u2, rfl, r1, r2⟩ := vals2 r
    cases (show u2 = Value.ref a from r2)
    obtain ⟨P, Z, p, hx⟩ := kit_of I r1 (tyX_of h1 h)
    obtain ⟨its, rv, ⟨o, g1, g2, n, g3⟩, _⟩ := I.tuple (sqT_hid e)
    have e3 := ClsV.all (clsV_of ra) rv
    subst e3
    obtain ⟨oc, od, dt, sl⟩ := o
    simp only at g2 g3
    subst g2 g3
    exact PySem.W.kia_tup Z I.kIn p g1 kb.kit hx fun tk => ⟨.bl _, H, I.tok tk, rfl, k.v (.bl _)⟩
end
end Cr

/-! Cr6: promises of defs that run where no repr is under way (FnG); repr and str of data; a law's end over such promises. -/
namespace Cr
open PySem PySem.Spec PyProof.Rows L2

/-- a def's promise, where no repr is under way; nothing is raised out of it -/
structure FnG (P : Program) (w : World) (K : PySem.W.Frag) (mg : Str → Option Value) (base : Heap) (k : Nat) (f : Addr) (fd : FuncData) (ps : List Str) (sp : Sp) : Prop where
  len : ∀ vs H Q E, sp vs H Q E → vs.length = ps.length
  run : ∀ (A : Around) (outer : List Env) (s : Shared) (H : Hp) (args : Args) (us : List Value) (vs : List V) (Q : VK), A.guards = some [] → Room k A → Env0 P w K mg base A outer s H → BindsTo s fd args (ps.zip us) → Vals vs us → sp vs H Q E0 →
    codeAny (model P w) A (.call (.ref f) args) (CR CX0 outer P w H s Q E0) s

section
variable {P : Program} {w : World} {K : PySem.W.Frag} {mg : Str → Option Value} {base : Heap} {x qual : Str} {params : Arguments} {body : List Stmt} {scope : Scope} {dvs : List V} {kws : List (Str × V)} {f : Addr} {fd : FuncData}
/-- the rule for a def, by its body -/
theorem okG {N ps : List Str} {k : Nat} {sp : Sp} (F : FunD K x qual params body scope dvs kws f fd) (S : FnScope N ps scope) (len : ∀ vs H Q E, sp vs H Q E → vs.length = ps.length)
    (hbody : ∀ (cdv : Value) (A : Around) (outer : List Env) (s : Shared) (H : Hp) (vs : List V) (Q : VK), A.guards = some [] → Room k (A.deeper (envOfC qual scope s.heap.objs.size f cdv)) → sp vs H Q E0 →
      ∃ t, PSs (cxOf CX0 P w K mg base N qual scope f cdv A outer s H E0).nox body t ∧ t { nx := fun _ H' => Q .non H', rt := Q } (L2.start N vs) H) : FnG P w K mg base (k + 1) f fd ps sp := by
  obtain ⟨oc, od, dV, kV, doc, pm, an, cdv, ct, osl, e, lk, hcd, _, _⟩ := F.ex
  subst e
  refine ⟨len, fun A outer s H args us vs Q hg hr e0 hb r hsp => ?_⟩
  have old : ∀ b o, base.get? b = some o → s.heap.get? b = some o := fun b o e => (e0.bs b o e).1
  have KX : K.In s.heap := e0.mod.kin.keeps old
  have lim : s.heap.NoLimit := e0.mod.nolimit.keeps old
  have hl := len _ _ _ _ hsp
  have hkind : ∀ y ∈ ps.zip us, scope.names.lookup y.1 = some .local ∨ (scope.names.lookup y.1 = some .cell ∧ ((cellsFrom (s.heap.objs.size + 1) scope.names []).lookup y.1).isSome = true) := by
    rintro ⟨n, v⟩ hy
    exact (S.par n (List.of_mem_zip hy).1).imp id fun q => ⟨q, PySem.W.cellsFrom_some _ _ _ (.inl q)⟩
  refine codeAny_call_function hr.depth (KX _ _ lk) rfl S.co S.gen rfl (PySem.W.codeRec_of KX hcd) (hb _ _ _ _ (wpAny_newFunctionEnv_cells S.kind hkind fun env he s1 x => ?_))
  subst he
  obtain ⟨t, ht, hq⟩ := hbody cdv A outer s H vs Q hg (hr.deeper _) hsp
  have I := inv_start (CX := CX0) (E := E0) S hr.hd e0 hl r x
  refine ⟨lim.keeps x.toInCall.keep, codeAny_func (wpAny_mono (ht.nox.run [] s1 _ H _ I hq) (fun fl s' hs => ?_) fun _ _ z => z)⟩
  cases fl with
  | ret u =>
    obtain ⟨v, σ', H', J, rv, q⟩ := hs
    exact ⟨v, H', J.os, J.bare, J.base, J.hok, rv, q⟩
  | next =>
    obtain ⟨σ', H', J, q⟩ := hs
    exact ⟨V.non, H', J.os, J.bare, J.base, J.hok, rfl, q⟩
  | brk => exact hs.elim fun _ z => z.elim fun _ z => z.2.elim
  | cont => exact hs.elim fun _ z => z.elim fun _ z => z.2.elim
end

section
variable {X : Cx} {k : Nat} {f : Addr} {fd : FuncData} {ps : List Str} {sp : Sp} {x : Str} {p pos : Pos} {e : Expr} {es : List Expr} {t : TA}
theorem run_G {pins : List (Addr × Obj)} {σ : L2.St} {H : Hp} {s : Shared} {Q : VK} {us : List Value} {vs : List V} (F : FnG X.prog X.w X.K X.mg X.base k f fd ps sp) (hgd : X.A.guards = some []) (hr : Room k X.A) (hb : Binds X.K fd ps [])
    (I : L2.Inv X pins σ H s) (r : Vals vs us) (h : sp vs H Q E0) : wpAny (model X.prog X.w) X.A (call (.ref f) us) (EP X pins σ Q) X.xe s := by
  have hl : us.length = ps.length := by rw [← r.length]; exact F.len _ _ _ _ h
  have hbs := hb s us I.kIn (by rw [List.append_nil]; exact hl)
  rw [List.append_nil] at hbs
  refine wpAny_call (codeAny_mono (F.run X.A X.stack s H ⟨us, []⟩ us vs Q hgd hr I.env0 hbs r h) fun r s' hq => ?_)
  match r, hq with
  | .ok (.ret u), hq => exact I.after hq
/-- f(e, ..) -/
theorem pe_G (F : FnG X.prog X.w X.K X.mg X.base k f fd ps sp) (hgd : X.A.guards = some []) (hr : Room k X.A) (hg : Gl X x) (hm : X.mg x = some (.ref f)) (hk : PySem.W.keepIn X.K (.ref f) = true) (hb : Binds X.K fd ps [])
    (ha : PA X (e :: es) t) (hdb : (x == ("__debug__" : Str)) = false := by decide) (he : starEach (e :: es) X.env = (false, eval e X.env) :: starEach es X.env := by rfl) (hpl : (backTo pos (starEach es X.env)).any (·.1) = false := by rfl) :
    PE X (.Call (.Name x p) (e :: es) [] pos) (tCall sp [] E0 t) :=
  ⟨fun pins s σ H Q I h => wpAny_Call_Name_kw (ld_glob I hg hm (PySem.W.callWith_K (h₀ := X.base) I.ok.mod.kin hk (thn (ha.run pos pins s σ H _ I h) fun us s1 ⟨vs, H1, I1, r, q⟩ =>
    ⟨I1.kIn, run_G F hgd hr hb I1 r (by have q2 : sp (vs ++ []) H1 Q E0 := q; rw [List.append_nil] at q2; exact q2)⟩) he hpl) hdb)⟩
/-- f() -/
theorem pe_G0 (F : FnG X.prog X.w X.K X.mg X.base k f fd ps sp) (hgd : X.A.guards = some []) (hr : Room k X.A) (hg : Gl X x) (hm : X.mg x = some (.ref f)) (hk : PySem.W.keepIn X.K (.ref f) = true) (hb : Binds X.K fd ps [])
    (hdb : (x == ("__debug__" : Str)) = false := by decide) : PE X (.Call (.Name x p) [] [] pos) (tCall sp [] E0 tNil) :=
  ⟨fun pins s σ H Q I h => wpAny_Call_Name_kw (ld_glob I hg hm (PySem.W.callWith_K0 I.kIn hk (run_G (us := []) F hgd hr hb I .nil h)) hdb)⟩
end

/-! ### repr and str of data -/
inductive RRepr : List D → Rs → Prop
  | mk {d : D} {p : PyData} (h : d.py = some p) (hs : p.showable = true) (hd : p.depth ≤ 60) (hl : p.shown.length ≤ sizeLine) : RRepr [d] (.v (.str p.shown))
mutual
theorem py_nodict : ∀ {d : D} {p : PyData}, d.py = some p → p.hasDict = false
  | .non, _, e => by cases e; simp [PyData.hasDict]
  | .bl _, _, e => by cases e; simp [PyData.hasDict]
  | .int _, _, e => by cases e; simp [PyData.hasDict]
  | .str _, _, e => by cases e; simp [PyData.hasDict]
  | .lst xs, p, e => by
    have e2 : (D.pyA xs).map PyData.list = some p := by simpa only [D.py] using e
    cases z : D.pyA xs with
    | none => rw [z] at e2; cases e2
    | some ps => rw [z] at e2; cases e2; simp only [PyData.hasDict]; exact pyA_nodict z
  | .tup xs, p, e => by
    have e2 : (D.pyA xs).map PyData.tuple = some p := by simpa only [D.py] using e
    cases z : D.pyA xs with
    | none => rw [z] at e2; cases e2
    | some ps => rw [z] at e2; cases e2; simp only [PyData.hasDict]; exact pyA_nodict z
  | .ins _ _, _, e => by simp [D.py] at e
  | .scr _, _, e => by simp [D.py] at e
  | .ty _, _, e => by simp [D.py] at e
theorem pyA_nodict : ∀ {ds : List D} {ps : List PyData}, D.pyA ds = some ps → PyData.hasDictAll ps = false
  | [], _, e => by simp [D.pyA] at e; subst e; simp [PyData.hasDictAll]
  | d :: ds, _, e => by
    cases z : D.py d with
    | none => simp [D.pyA, z] at e
    | some p =>
      cases z2 : D.pyA ds with
      | none => simp [D.pyA, z, z2] at e
      | some ps =>
        simp [D.pyA, z, z2] at e
        subst e
        simp [PyData.hasDictAll, py_nodict z, pyA_nodict z2]
end
section
variable {X : Cx}
theorem call_reprD (hg : X.A.guards = some []) (hu : X.A.units + 64 < cLine) : CallR X (.builtin "repr") (rDN X.K RRepr) := by
  intro pins s σ H xs us Q I r ⟨M, ds, c, lv, hs, hf, k⟩
  cases hf with
  | @mk d p h hsh hd hl =>
    obtain ⟨x, rfl, hx⟩ := rpWs1 hs
    obtain ⟨u, rfl, rx⟩ := vals1 r
    have dp := hx.rp.dp h
    cases d with
    | non => cases h; cases hx.non; cases rx; simp only [PyData.shown] at k; exact PySem.P.repr_of_none ⟨.str _, H, I.tok _, ⟨_, rfl⟩, k.v (.str _)⟩
    | bl b => cases h; cases hx.bl; cases rx; simp only [PyData.shown] at k; exact PySem.P.repr_of_bool ⟨.str _, H, I.tok _, ⟨_, rfl⟩, k.v (.str _)⟩
    | int i =>
      cases h; cases hx.int; obtain ⟨t, rfl⟩ := rx
      simp only [PyData.shown] at k
      exact PySem.P.repr_of_int (by simpa [PyData.showable] using hsh) ⟨.str _, H, I.tok _, ⟨_, rfl⟩, k.v (.str _)⟩
    | str z =>
      cases h; cases hx.str; obtain ⟨t, rfl⟩ := rx
      simp only [PyData.shown] at k hl
      exact PySem.P.repr_of_str ⟨.str _, H, I.tok _, ⟨_, rfl⟩, k.v (.str _)⟩ hl
    | lst ds =>
      obtain ⟨as, rd⟩ := Dp.reads I p x u dp rx
      obtain ⟨a, ys, rfl, _, _⟩ := hx.lst
      cases rx
      exact repr_of_reads' rd hsh (PyData.noDict_hsm (py_nodict h)) hg (by omega) (fun _ _ e => e) (fun h' t tk hk => ⟨.str _, H, I.kept (t' := tk) hk, ⟨_, rfl⟩, k.v (.str _)⟩) hl
    | tup ds =>
      obtain ⟨as, rd⟩ := Dp.reads I p x u dp rx
      obtain ⟨a, ys, rfl, _, _⟩ := hx.tup
      cases rx
      exact repr_of_reads' rd hsh (PyData.noDict_hsm (py_nodict h)) hg (by omega) (fun _ _ e => e) (fun h' t tk hk => ⟨.str _, H, I.kept (t' := tk) hk, ⟨_, rfl⟩, k.v (.str _)⟩) hl
    | ins _ _ => simp [D.py] at h
    | scr _ => simp [D.py] at h
    | ty _ => simp [D.py] at h
    | exc _ _ => simp [D.py] at h
    | adr _ => simp [D.py] at h
end

inductive RStr : List D → Rs → Prop
  | str (z : Str) : RStr [.str z] (.v (.str z))
  | mk {d : D} {p : PyData} (h : d.py = some p) (hn : ∀ z, d ≠ .str z) (hs : p.showable = true) (hd : p.depth ≤ 60) (hl : p.shown.length ≤ sizeLine) : RStr [d] (.v (.str p.shown))
section
variable {X : Cx}
theorem call_strD (hg : X.A.guards = some []) (hu : X.A.units + 64 < cLine) : CallR X (.type "str") (rDN X.K RStr) := by
  intro pins s σ H xs us Q I r ⟨M, ds, c, lv, hs, hf, k⟩
  cases hf with
  | str z =>
    obtain ⟨x, rfl, hx⟩ := rpWs1 hs
    obtain ⟨u, rfl, rx⟩ := vals1 r
    cases hx.str
    obtain ⟨t, rfl⟩ := rx
    exact PySem.P.str_of_str ⟨.str _, H, I, ⟨_, rfl⟩, k.v (.str _)⟩
  | @mk d p h hn hsh hd hl =>
    obtain ⟨x, rfl, hx⟩ := rpWs1 hs
    obtain ⟨u, rfl, rx⟩ := vals1 r
    have dp := hx.rp.dp h
    cases d with
    | non => cases h; cases hx.non; cases rx; simp only [PyData.shown] at k; exact PySem.P.str_of_none ⟨.str _, H, I.tok _, ⟨_, rfl⟩, k.v (.str _)⟩
    | bl b => cases h; cases hx.bl; cases rx; simp only [PyData.shown] at k; exact PySem.P.str_of_bool ⟨.str _, H, I.tok _, ⟨_, rfl⟩, k.v (.str _)⟩
    | int i =>
      cases h; cases hx.int; obtain ⟨t, rfl⟩ := rx
      simp only [PyData.shown] at k
      exact PySem.P.str_of_int (by simpa [PyData.showable] using hsh) ⟨.str _, H, I.tok _, ⟨_, rfl⟩, k.v (.str _)⟩
    | str z => exact absurd rfl (hn z)
    | lst ds =>
      obtain ⟨as, rd⟩ := Dp.reads I p x u dp rx
      obtain ⟨a, ys, rfl, _, _⟩ := hx.lst
      cases rx
      exact str_of_reads rd hsh (PyData.noDict_hsm (py_nodict h)) hg (by omega) (fun _ _ e => e) (fun h' t tk hk => ⟨.str _, H, I.kept (t' := tk) hk, ⟨_, rfl⟩, k.v (.str _)⟩) hl
    | tup ds =>
      obtain ⟨as, rd⟩ := Dp.reads I p x u dp rx
      obtain ⟨a, ys, rfl, _, _⟩ := hx.tup
      cases rx
      exact str_of_reads rd hsh (PyData.noDict_hsm (py_nodict h)) hg (by omega) (fun _ _ e => e) (fun h' t tk hk => ⟨.str _, H, I.kept (t' := tk) hk, ⟨_, rfl⟩, k.v (.str _)⟩) hl
    | ins _ _ => simp [D.py] at h
    | scr _ => simp [D.py] at h
    | ty _ => simp [D.py] at h
    | exc _ _ => simp [D.py] at h
    | adr _ => simp [D.py] at h
end
/-! ### a law's end -/
section
variable {P : Program} {w : World} {K : PySem.W.Frag} {mg mb : Str → Option Value} {k : Nat} {fa a : Addr} {fd : FuncData} {x : Str} {sp : Sp} {s1 : Shared} {vs : List Value} {ns : List Int}
/-- the abstract heap at the law's entry: the script alone, locked, where the written part does not hold it -/
def entryH (K : PySem.W.Frag) (a : Addr) (o : Obj) (ns : List Int) : Hp := fun b => if b = a ∧ K.lookup a = none then some (.frz o (.lst (ns.map V.int))) else none
theorem entryH_some {o : Obj} {b : Addr} {u : HO} (h : entryH K a o ns b = some u) : b = a ∧ K.lookup a = none ∧ u = .frz o (.lst (ns.map V.int)) := by
  unfold entryH at h
  by_cases q : b = a ∧ K.lookup a = none
  · rw [if_pos q] at h; exact ⟨q.1, q.2, (Option.some.inj h).symm⟩
  · rw [if_neg q] at h; cases h
theorem law_G (KX : K.In s1.heap) (hns : s1.heap.Ns mainGlobals mg) (hb : s1.heap.Ns builtinsNs mb) (hbb : ∀ x : Str, x ≠ "__name__" → mb x = bootBuiltins x) (hlim : s1.heap.NoLimit) (hg : s1.gens = #[])
    (ha : s1.heap.get? a = some { cls := .type "list", data := .seq vs.toArray }) (hi : IntsAre vs ns) (hl : ns.length ≤ sizeLine) (hr : Room k callerA)
    (F : ∀ base : Heap, K.In base → base.Ns mainGlobals mg → FnG P w K mg base k fa fd [x] sp) (hbind : ∀ (s : Shared) (u : Value), BindsTo s fd ⟨[u], []⟩ [(x, u)])
    (hsp : ∀ H : Hp, SqL K H a (ns.map V.int) → sp [.ref a] H (fun v _ => v = .bl true) E0) :
    codeAny (model P w) callerA (.call (.ref fa) ⟨[.ref a], []⟩) (fun r s' => r = .ok (.ret (.bool true)) ∧ OldK s1.heap s'.heap ∧ s'.os = s1.os ∧ AllBare s'.gens) s1 := by
  have rv := vals_ints hi
  generalize hob : ({ cls := .type "list", data := .seq vs.toArray } : Obj) = ob at ha
  have hdat : ob.data = .seq vs.toArray 0 := by rw [← hob]
  generalize hH : entryH K a ob ns = H
  have at_ : ∀ {b : Addr} {u : HO}, H b = some u → b = a ∧ K.lookup a = none ∧ u = .frz ob (.lst (ns.map V.int)) := fun {b u} e => entryH_some (by rw [hH]; exact e)
  have hS : SqL K H a (ns.map V.int) := by
    cases q : K.lookup a with
    | none => exact .inl (.inr ⟨ob, by rw [← hH]; exact if_pos ⟨rfl, q⟩⟩)
    | some o =>
      have e := KX a o q
      rw [ha] at e
      cases e
      subst hob
      exact .inr ⟨_, vs.toArray, _, q, rfl, rfl, rfl, by rw [List.size_toArray, hi.length]; exact hl, by simpa using rv⟩
  have hok : HOk P w H s1.heap := fun b u e => by
    obtain ⟨rfl, _, rfl⟩ := at_ e
    subst hob
    exact ⟨ha, by rw [List.length_map]; exact hl, vs, _, rv, ha⟩
  -- what the base holds
  have keepB : ∀ {b : Addr} {o : Obj}, s1.heap.get? b = some o → H b = none → (hidT s1.heap H).get? b = some o := fun e n => hidT_get e n
  have notA : ∀ {b : Addr} {o : Obj} {es : Array DictEntry} {ep : Nat}, s1.heap.get? b = some o → o.data = .dict es ep → H b = none := fun {b o es ep} e d => by
    cases q : H b with
    | none => rfl
    | some u =>
      obtain ⟨rfl, _, _⟩ := at_ q
      rw [ha] at e
      cases e
      rw [hdat] at d
      cases d
  have nsB : ∀ {b : Addr} {m : Str → Option Value}, s1.heap.Ns b m → (hidT s1.heap H).Ns b m := by
    rintro b m ⟨o, es, ep, e, d, r⟩
    exact ⟨o, es, ep, keepB e (notA e d), d, r⟩
  have KB : K.In (hidT s1.heap H) := fun b o e => keepB (KX b o e) (by
    cases q : H b with
    | none => rfl
    | some u =>
      obtain ⟨rfl, n, _⟩ := at_ q
      rw [n] at e
      cases e)
  have e0 : Env0 P w K mg (hidT s1.heap H) callerA [] s1 H :=
    ⟨rfl, ⟨KB, nsB hns, ⟨mb, nsB hb, hbb⟩, hlim.elim fun mc z => ⟨mc, nsB z.1, z.2⟩⟩, fun b o e => of_hidT e, Nat.le_of_eq (hidT_size _ _), trivial, fun b z => absurd (show b ∈ ([] : List Addr) from z) List.not_mem_nil, hok, .of_eq hg⟩
  refine codeAny_mono ((F _ KB (nsB hns)).run callerA [] s1 H ⟨[.ref a], []⟩ [.ref a] [.ref a] _ rfl hr e0 (hbind s1 (.ref a)) (.cons rfl .nil) (hsp H hS)) fun r s' h => ?_
  match r, h with
  | .ok (.ret u), ⟨v, H', os, bare, un, hok', r', q⟩ =>
    have q' : v = .bl true := q
    subst q'
    cases r'
    refine ⟨rfl, OldK.of_keep fun b o e => ?_, os, bare⟩
    cases q : H b with
    | none => exact un.keep b o e q (fun z => absurd (show b ∈ ([] : List Addr) from z) List.not_mem_nil) List.not_mem_nil
    | some u =>
      obtain ⟨rfl, _, rfl⟩ := at_ q
      obtain ⟨e2, _⟩ := hok' b _ (un.frzs b ob _ q)
      rw [ha] at e
      cases e
      exact e2
end
theorem walk_G {l : PySem.W.OpenLaw} {n k : Nat} {q : Program} {loose : List Str} {XP : (Str → Option Value) → Heap → Prop} {YP : World → Heap → Prop} {d : DefRec} {x : Str}
    (hn : l.most = some n) (hn2 : n ≤ sizeLine) (hdf : d.params.defaults = []) (hr : Room k callerA)
    (F : ∀ (w : World) (mg : Str → Option Value) (fa : Addr) (h : Heap), YP w h → h.Ns mainGlobals mg → mg d.name = some (.ref fa) →
      ∃ (K : PySem.W.Frag) (fd : FuncData) (sp : Sp), K.In h ∧ (∀ (s : Shared) (u : Value), BindsTo s fd ⟨[u], []⟩ [(x, u)]) ∧
        (∀ (H : Hp) (a : Addr) (ns : List Int), ns.length ≤ n → (∀ z ∈ ns, Builtin.Int.intBits z ≤ 1048576) → SqL K H a (ns.map V.int) → sp [.ref a] H (fun v _ => v = .bl true) E0) ∧
        ∀ base : Heap, K.In base → base.Ns mainGlobals mg → FnG l.prog w K mg base k fa fd [x] sp) :
    PySem.W.WalkO q loose XP YP l.row.toRowW d [] (fun f vs => PySem.call f vs) := by
  refine Att.attach_callB hn hdf fun w s0 s1 mg mb fa o pm cd doc a vs ns G Y ho hd hcd hmg hobj hints hlen hbits hg => ?_
  obtain ⟨K, fd, sp, KX, hb, hsp, hF⟩ := F w mg fa _ Y G.T.g hmg
  exact law_G KX G.T.g G.T.b G.T.builtins G.T.nolimit hg hobj hints (Nat.le_trans hlen hn2) hr hF hb fun H hS => hsp H a ns hlen hbits hS
/-- the script goes in, True comes out -/
def LawT (n : Nat) : Tr := fun ss m Q => ∃ ns : List Int, ss = [.val (.scr ns)] ∧ ns.length ≤ n ∧ (∀ z ∈ ns, Builtin.Int.intBits z ≤ 1048576) ∧ (∀ a, m a = none) ∧ ∀ m', Q (.val (.bl true)) m'
theorem law_sp {K : PySem.W.Frag} {n : Nat} {H : Hp} {a : Addr} {ns : List Int} (h1 : ns.length ≤ n) (h2 : ∀ z ∈ ns, Builtin.Int.intBits z ≤ 1048576) (hS : SqL K H a (ns.map V.int)) : SpD K (LawT n) [.ref a] H (fun v _ => v = .bl true) E0 := by
  have hh : hid (dom fun _ => none) H = H := by
    funext b
    exact hid_out rfl
  refine ⟨fun _ => none, [.val (.scr ns)], fun s m' => s = .val (.bl true), (fun a ds e => nomatch e), .cons (show Rp K (hid _ H) _ _ by rw [hh]; exact .scr hS) .nil, ⟨ns, rfl, h1, h2, fun _ => rfl, fun _ => rfl⟩, fun v H' s m' x so rs q => ?_⟩
  subst q
  have rs' : Rp K (hid (dom m') H') v (.bl true) := rs
  cases rs'
  rfl
end Cr

/-! Cr7: owned lists written and grown; chains; in; names of three; what the head tells. -/
namespace Cr
open PySem PySem.Spec PyProof.Rows L2
section
variable {K : PySem.W.Frag} {M : Dm} {r : Ro} {m : Sto} {P : Eds}
/-- p[i] = e, p owned -/
theorem ws_setI {te to ti : TE} (h : WE K r m te fun s m1 => WE K r m1 to fun t m2 => WE K r m2 ti fun u m3 => ∃ d p ds i j, s = .val d ∧ t = .adr p ∧ u = .val (.int i) ∧ m3 p = some ds ∧ ixN ds.length i = some j ∧ P.nx r (stS m3 p (ds.set j d))) :
    WS K M r m (tAsg te (gSub to ti rSetL)) P := fun σ H H0 D' e st x dd =>
  h σ H _ e st fun v H1 s m1 x1 so1 rs1 q1 => q1 σ H1 _ (e.mono x1) so1 fun o H2 t m2 x2 so2 rs2 q2 => q2 σ H2 _ ((e.mono x1).mono x2) so2 fun w H3 u m3 x3 so3 rs3 ⟨d, p, ds, i, j, es, et, eu, hm, hj, q⟩ => by
    subst es et eu
    obtain ⟨rfl, _⟩ := rs2
    have rs3' : Rp K (hid (dom m3) H3) w (.int i) := rs3
    cases rs3'
    obtain ⟨xs, hx, ra⟩ := so3 p ds hm
    have rd : Rp K (hid (dom m3) H3) v d := (rs1.mono (x2.trans x3))
    have so4 : StoOk K (upd H3 p (.lst (xs.set j v))) (stS m3 p (ds.set j d)) := so3.wr hm (ra.set rd j)
    have w : Xt (dom m3) H3 (dom (stS m3 p (ds.set j d))) (upd H3 p (.lst (xs.set j v))) := by
      rw [dom_stS hm]
      exact Xt.wr (dom_some hm)
    exact ⟨p, xs, i, j, rfl, rfl, hx, by rw [ra.length]; exact hj, dd.nx σ _ r _ (x.trans (((x1.trans x2).trans x3).trans w)) so4 ((((e.mono x1).mono x2).mono x3).mono w) q⟩
/-- p.append(e), p owned -/
theorem ws_app {to te : TE} (h : WE K r m to fun t m1 => ∃ p ds1, t = .adr p ∧ m1 p = some ds1 ∧ WE K r m1 te fun s m2 => ∃ d ds, s = .val d ∧ m2 p = some ds ∧ ds.length < 100000 ∧ P.nx r (stS m2 p (ds ++ [d]))) :
    WS K M r m (tDrop (tBM K "list" rAppend to (tCons te tNil))) P := fun σ H H0 D' e st x dd =>
  h σ H _ e st fun o H1 t m1 x1 so1 rs1 q1 => by
    have gen : ∀ {p : Addr} {ds1 : List D}, t = .adr p → m1 p = some ds1 → tyV K "list" o H1 := fun {p ds1} et hm => by
      subst et
      obtain ⟨rfl, _⟩ := rs1
      obtain ⟨xs, hx, _⟩ := so1 p ds1 hm
      exact .inl ⟨rfl, xs, Evl.sq_of hx⟩
    obtain ⟨p, ds1, et, hm1, q1⟩ := q1
    refine ⟨gen et hm1, ?_⟩
    subst et
    obtain ⟨rfl, _⟩ := rs1
    refine q1 σ H1 _ (e.mono x1) so1 fun v H2 s m2 x2 so2 rs2 ⟨d, ds, es, hm, hl, q⟩ => ?_
    subst es
    obtain ⟨xs, hx, ra⟩ := so2 p ds hm
    have rd : Rp K (hid (dom m2) H2) v d := rs2
    have w : Xt (dom m2) H2 (dom (stS m2 p (ds ++ [d]))) (upd H2 p (.lst (xs ++ [v]))) := by
      rw [dom_stS hm]
      exact Xt.wr (dom_some hm)
    exact ⟨p, xs, v, rfl, rfl, hx, by rw [ra.length]; exact Evl.sz_lt hl, dd.nx σ _ r _ (x.trans ((x1.trans x2).trans w)) (so2.wr hm (ra.append (.cons rd .nil))) (((e.mono x1).mono x2).mono w) q⟩
theorem wt_yes {Q : Bool → Sto → Prop} (q : Q true m) : WT K r m tYes Q := fun σ H QV e st k => k true H m Xt.refl st q
/-- a op1 b op2 c -/
theorem we_chain {f g : D → D → Rs → Prop} {ta tb tc : TE} {Q : Sv → Sto → Prop} (h : WE K r m ta fun s m1 => WE K r m1 tb fun t m2 => ∃ a b k, vw m2 s = some a ∧ vw m2 t = some b ∧ f a b (.v (.bl k)) ∧
      if k = true then WE K r m2 tc fun u m3 => ∃ b' c z, vw m3 t = some b' ∧ vw m3 u = some c ∧ g b' c z ∧ Q (.val z.d) m3 else Q (.val (.bl false)) m2) : WE K r m (tChain (rD2 K f) (rD2 K g) ta tb tc) Q := fun σ H QV e st k =>
  h σ H _ e st fun v H1 s m1 x1 so1 rs1 q1 => q1 σ H1 _ (e.mono x1) so1 fun u H2 t m2 x2 so2 rs2 ⟨a, b, c, ha, hb, hf, q⟩ => by
    refine ⟨dom m2, a, b, .v (.bl c), so2.live, RpW.of (rs1.mono x2) so2 ha, RpW.of rs2 so2 hb, hf, fun z H3 x3 kp rp => ?_⟩
    cases rp
    have so3 := so2.keep x3 kp
    refine ⟨c, rfl, ?_⟩
    cases c with
    | false => exact k _ H3 (.val (.bl false)) m2 ((x1.trans x2).trans x3) so3 (show Rp _ _ _ _ from .bl false) q
    | true =>
      refine (show WE K r m2 tc _ from q) σ H3 _ (((e.mono x1).mono x2).mono x3) so3 fun w H4 y m4 x4 so4 rs4 ⟨b', d, z, hb', hd, hg, q'⟩ => ?_
      exact ⟨dom m4, b', d, z, so4.live, RpW.of ((rs2.mono x3).mono x4) so4 hb', RpW.of rs4 so4 hd, hg, kR.of so4 (fun v H' s m' x => k v H' s m' ((((x1.trans x2).trans x3).trans x4).trans x)) q'⟩
/-- three names at once -/
theorem ws_par3 {ta : TA} {i j l : Nat} (h : WA K r m ta fun ss m1 => ∃ s t u, ss = [s, t, u] ∧ P.nx (((r.set i (some s)).set j (some t)).set l (some u)) m1) : WS K M r m (tPar3 i j l ta) P := fun σ H H0 D' e st x d =>
  h σ H _ e st fun vs H1 ss m1 x1 so1 rs ⟨s, t, u, es, q⟩ => by
    subst es
    cases rs with
    | cons r1 rs =>
      cases rs with
      | cons r2 rs =>
        cases rs with
        | cons r3 rs =>
          cases rs
          exact ⟨_, _, _, rfl, d.nx _ H1 _ m1 (x.trans x1) so1 ((((e.mono x1).set r1).set r2).set r3) q⟩
end

/-! ### in -/
def eqIn : D → D → Bool
  | .non, .non => true
  | .bl a, .bl b => a == b
  | .int a, .int b => a == b
  | .str a, .str b => a == b
  | _, _ => false
def D.flt : D → Bool
  | .non => true
  | .bl _ => true
  | .int _ => true
  | .str _ => true
  | _ => false
/-- no bool beside an int -/
def D.mixed : D → D → Bool
  | .bl _, .int _ => true
  | .int _, .bl _ => true
  | _, _ => false
inductive RIn : D → D → Bool → Prop
  | sq {d : D} {b : Bool} {ds : List D} (h : d.flt = true) (h2 : ds.all D.flt = true) (h3 : ds.all (fun e => !e.mixed d) = true) : RIn d (sqD b ds) (ds.any fun e => eqIn e d)
  | sub (i j : Str) : RIn (.str i) (.str j) (!(Builtin.Str.occurrences j i 0 j.length 1).isEmpty)
inductive RInR : D → D → Rs → Prop
  | mk {a b : D} {r : Bool} (h : RIn a b r) : RInR a b (.v (.bl r))
inductive RNotInR : D → D → Rs → Prop
  | mk {a b : D} {r : Bool} (h : RIn a b r) : RNotInR a b (.v (.bl (!r)))
theorem flat_rp {K : PySem.W.Frag} {H : Hp} {v : V} {d : D} (h : Rp K H v d) (f : d.flt = true) : flatV v = true := by
  cases h <;> first | rfl | (simp [D.flt] at f)
theorem eqIn_rp {K : PySem.W.Frag} {H : Hp} {v w : V} {d e : D} (h : Rp K H v d) (h' : Rp K H w e) (f : d.flt = true) (f' : e.flt = true) (g : e.mixed d = false) : eqV w v = eqIn e d := by
  cases h <;> first | (simp [D.flt] at f; done) | (cases h' <;> first | (simp [D.flt] at f'; done) | (simp [D.mixed] at g; done) | rfl)
theorem inV_rp {K : PySem.W.Frag} {H : Hp} {v : V} {d : D} (h : Rp K H v d) (f : d.flt = true) : ∀ {xs : List V} {ds : List D}, RpA K H xs ds → ds.all D.flt = true → ds.all (fun e => !e.mixed d) = true → inV v xs = (ds.any fun e => eqIn e d) ∧ xs.all flatV = true
  | _, _, .nil, _, _ => ⟨rfl, rfl⟩
  | x :: xs, e :: ds, .cons r t, f2, f3 => by
    rw [List.all_cons, Bool.and_eq_true] at f2 f3
    obtain ⟨i1, i2⟩ := inV_rp h f t f2.2 f3.2
    have g : e.mixed d = false := by simpa using f3.1
    constructor
    · unfold inV at i1 ⊢
      rw [List.any_cons, List.any_cons, i1, eqIn_rp h r f f2.1 g]
    · rw [List.all_cons, flat_rp r f2.1, i2]; rfl
section
variable {X : Cx}
theorem op_inDD : OpR X (compareOp .In) (rD2 X.K RInR) := by
  intro pins s σ H x y v u Q I rx ry ⟨M, a, b, c, lv, ha, hb, hf, k⟩
  cases hf with
  | mk h =>
    cases h with
    | @sq _ bb ds h h2 h3 =>
      have hd := ha.rp
      cases bb with
      | false =>
        obtain ⟨p, xs, rfl, hx, ra⟩ := (show RpW X.K M H y (.lst ds) from hb).lst
        obtain ⟨e1, e2⟩ := inV_rp hd h (ra.mono hid_ex) h2 h3
        refine op_in_seq pins s σ H _ _ v u Q I rx ry ⟨p, xs, rfl, .inl (Evl.sq_of hx), flat_rp hd h, e2, ?_⟩
        rw [if_neg Bool.false_ne_true, e1]
        exact k.v (.bl _)
      | true =>
        obtain ⟨p, xs, rfl, hx, ra⟩ := (show RpW X.K M H y (.tup ds) from hb).tup
        obtain ⟨e1, e2⟩ := inV_rp hd h (ra.mono hid_ex) h2 h3
        refine op_in_seq pins s σ H _ _ v u Q I rx ry ⟨p, xs, rfl, .inr (sqT_hid hx), flat_rp hd h, e2, ?_⟩
        rw [if_neg Bool.false_ne_true, e1]
        exact k.v (.bl _)
    | sub i j =>
      cases ha.str
      cases hb.str
      exact op_in_str pins s σ H _ _ v u Q I rx ry ⟨i, j, rfl, rfl, k.v (.bl _)⟩
theorem op_notInDD : OpR X (compareOp .NotIn) (rD2 X.K RNotInR) := by
  intro pins s σ H x y v u Q I rx ry ⟨M, a, b, c, lv, ha, hb, hf, k⟩
  cases hf with
  | mk h =>
    cases h with
    | @sq _ bb ds h h2 h3 =>
      have hd := ha.rp
      cases bb with
      | false =>
        obtain ⟨p, xs, rfl, hx, ra⟩ := (show RpW X.K M H y (.lst ds) from hb).lst
        obtain ⟨e1, e2⟩ := inV_rp hd h (ra.mono hid_ex) h2 h3
        refine op_notIn_seq pins s σ H _ _ v u Q I rx ry ⟨p, xs, rfl, .inl (Evl.sq_of hx), flat_rp hd h, e2, ?_⟩
        rw [if_pos rfl, e1]
        exact k.v (.bl _)
      | true =>
        obtain ⟨p, xs, rfl, hx, ra⟩ := (show RpW X.K M H y (.tup ds) from hb).tup
        obtain ⟨e1, e2⟩ := inV_rp hd h (ra.mono hid_ex) h2 h3
        refine op_notIn_seq pins s σ H _ _ v u Q I rx ry ⟨p, xs, rfl, .inr (sqT_hid hx), flat_rp hd h, e2, ?_⟩
        rw [if_pos rfl, e1]
        exact k.v (.bl _)
    | sub i j =>
      cases ha.str
      cases hb.str
      exact op_notIn_str pins s σ H _ _ v u Q I rx ry ⟨i, j, rfl, rfl, k.v (.bl _)⟩
end

/-! ### what the head tells of a def, with its promise -/
structure Has (P : Program) (w : World) (K : PySem.W.Frag) (mg : Str → Option Value) (base : Heap) (x : Str) (k : Nat) (ps : List Str) (T : Tr) : Prop where
  ex : ∃ (f : Addr) (fd : FuncData), mg x = some (.ref f) ∧ PySem.W.keepIn K (.ref f) = true ∧ Binds K fd ps [] ∧ FnG P w K mg base k f fd ps (SpD K T)
section
variable {X : Cx} {k : Nat} {ps : List Str} {T : Tr} {x : Str} {p pos : Pos} {e : Expr} {es : List Expr} {t : TA}
/-- f(e, ..) -/
theorem pe_U (F : Has X.prog X.w X.K X.mg X.base x k ps T) (hgd : X.A.guards = some []) (hr : Room k X.A) (hg : Gl X x) (ha : PA X (e :: es) t) (hdb : (x == ("__debug__" : Str)) = false := by decide)
    (he : starEach (e :: es) X.env = (false, eval e X.env) :: starEach es X.env := by rfl) (hpl : (backTo pos (starEach es X.env)).any (·.1) = false := by rfl) :
    PE X (.Call (.Name x p) (e :: es) [] pos) (tCall (SpD X.K T) [] E0 t) := by
  obtain ⟨f, fd, h1, h2, h3, h4⟩ := F.ex
  exact pe_G h4 hgd hr hg h1 h2 h3 ha hdb he hpl
end
abbrev Ok (K : PySem.W.Frag) (N : List Str) (T : Tr) (t : TS) : Prop := ∀ ss m Q, T ss m Q → WS K (dom m) (startR N ss) m t { nx := fun _ m' => Q (.val .non) m', rt := Q }
section
variable {P : Program} {w : World} {K : PySem.W.Frag} {mg : Str → Option Value} {base : Heap} {x qual : Str} {params : Arguments} {body : List Stmt} {scope : Scope} {f : Addr} {fd : FuncData} {N ps : List Str} {k : Nat} {T : Tr} {t : TS}
theorem fnG_ok (F : FunD K x qual params body scope [] [] f fd) (S : FnScope N ps scope) (len : ∀ ss m Q, T ss m Q → ss.length = ps.length) (ok : Ok K N T t)
    (hbody : ∀ (cdv : Value) (A : Around) (outer : List Env) (s : Shared) (H : Hp), A.guards = some [] → Room k (A.deeper (envOfC qual scope s.heap.objs.size f cdv)) →
      PSs (cxOf CX0 P w K mg base N qual scope f cdv A outer s H E0).nox body t) : FnG P w K mg base (k + 1) f fd ps (SpD K T) :=
  okG F S (len_ok len) fun cdv A outer s H vs Q hg hr h => ⟨t, hbody cdv A outer s H hg hr, body_ok ok h⟩
theorem has_ok (F : FunD K x qual params body scope [] [] f fd) (gF : mg x = some (.ref f)) (S : FnScope N ps scope) (len : ∀ ss m Q, T ss m Q → ss.length = ps.length)
    (hbd : ∀ (kV doc pm : Value) (an : Option Addr) (cdv ct : Value) (us : List Value), us.length = ps.length → bindArgs (PySem.W.fnOf x qual params body scope .none kV doc pm an cdv ct) ⟨us, []⟩ = pure (ps.zip us))
    (ok : Ok K N T t)
    (hbody : ∀ (cdv : Value) (A : Around) (outer : List Env) (s : Shared) (H : Hp), A.guards = some [] → Room k (A.deeper (envOfC qual scope s.heap.objs.size f cdv)) →
      PSs (cxOf CX0 P w K mg base N qual scope f cdv A outer s H E0).nox body t) : Has P w K mg base x (k + 1) ps T :=
  ⟨f, fd, gF, F.kp, F.bindsN hbd, fnG_ok F S len ok hbody⟩
end

/-! ### a head with more facts -/
def hookM (n : Nat) (fa : List He.Fa) (fn : List He.DefD) (ex : PySem.W.Frag → Bool) : PySem.W.Hook where
  α := He.AlD × Bool
  obs := fun s => (He.obsDG n fa fn s.heap.get?, ex (He.frG s.heap.get? (He.asD s.heap.get? n)))
  val := fun _ => (He.valD fn, true)
  says := fun _ h => ∃ K : PySem.W.Frag, K.In h ∧ He.SaysD fa fn K ∧ ex K = true
  of := fun _ _ e => ⟨_, He.frG_in, congrArg Prod.fst e, congrArg Prod.snd e⟩
  keeps := fun _ _ _ ⟨K, hK, c⟩ k => ⟨K, PySem.W.Frag.In.keeps hK k, c⟩
def obsM (n : Nat) (fa : List He.Fa) (fn : List He.DefD) (ex : PySem.W.Frag → Bool) (g : Addr → Option Obj) : He.AlD × Bool := (He.obsDG n fa fn g, ex (He.frG g (He.asD g n)))
theorem obsM_eq {n : Nat} {fa : List He.Fa} {fn : List He.DefD} {ex : PySem.W.Frag → Bool} {g : Addr → Option Obj} {s : Shared} (h : ∀ a, g a = s.heap.get? a) : obsM n fa fn ex g = (hookM n fa fn ex).obs s := by
  have e : g = s.heap.get? := funext h
  rw [e] <;> rfl
end Cr

/-! Cr8: rows of ints, what is drawn. -/
namespace Cr
open PySem PySem.Spec PyProof.Rows L2
theorem ite_dec {p : Prop} [Decidable p] {A B : Prop} (h1 : p → A) (h2 : ¬ p → B) : if decide p = true then A else B := by
  by_cases h : p
  · rw [if_pos (decide_eq_true h)]; exact h1 h
  · rw [if_neg (by rw [decide_eq_false h]; exact Bool.false_ne_true)]; exact h2 h
theorem ite_b {b : Bool} {A B : Prop} (h1 : b = true → A) (h2 : b = false → B) : if b = true then A else B := by
  cases b with
  | true => exact h1 rfl
  | false => exact h2 rfl
/-! ### sizes -/
theorem log2_mono {a b : Nat} (h : a ≤ b) : a.log2 ≤ b.log2 := by
  by_cases h0 : a = 0
  · subst h0; simp
  · exact (Nat.le_log2 (by omega)).mpr (Nat.le_trans (Nat.log2_self_le h0) h)
theorem mulOk {i j : Int} {B C : Nat} (h1 : i.natAbs ≤ B) (h2 : j.natAbs ≤ C) (h : B.log2 + C.log2 < 1000000) : i.natAbs.log2 + j.natAbs.log2 < 1000000 := by
  have := log2_mono h1
  have := log2_mono h2
  omega
theorem log2_lt {a k : Nat} (h : a < 2 ^ (k + 1)) : a.log2 ≤ k := by
  by_cases h0 : a = 0
  · subst h0; simp
  · exact Nat.lt_succ_iff.mp ((Nat.log2_lt h0).mpr h)
/-! ### rows of ints -/
abbrev tI (ns : List Int) : D := .tup (ns.map .int)
abbrev lI (ns : List Int) : D := .lst (ns.map .int)
theorem pyA_ints : ∀ ns : List Int, D.pyA (ns.map .int) = some (ns.map .int)
  | [] => rfl
  | n :: ns => by show D.pyA (D.int n :: ns.map D.int) = _; simp [D.pyA, D.py, pyA_ints ns]
theorem py_tI (ns : List Int) : (tI ns).py = some (.tuple (ns.map .int)) := by show D.py (.tup _) = _; simp [D.py, pyA_ints]
theorem py_lI (ns : List Int) : (lI ns).py = some (.list (ns.map .int)) := by show D.py (.lst _) = _; simp [D.py, pyA_ints]
theorem eqvAll_ints : ∀ xs ys : List Int, PyData.eqvAll (xs.map .int) (ys.map .int) = decide (xs = ys)
  | [], [] => by simp [PyData.eqvAll]
  | [], _ :: _ => by simp [PyData.eqvAll]
  | _ :: _, [] => by simp [PyData.eqvAll]
  | x :: xs, y :: ys => by
    simp only [List.map_cons, PyData.eqvAll, PyData.eqv, eqvAll_ints xs ys]
    by_cases h1 : x = y <;> by_cases h2 : xs = ys <;> simp [h1, h2]
theorem canLayAll_ints : ∀ ns : List Int, PyData.canLayAll0 (ns.map .int) = true
  | [] => by simp [PyData.canLayAll0]
  | n :: ns => by simp [PyData.canLayAll0, PyData.canLay0, canLayAll_ints ns]
theorem depthAll_ints : ∀ ns : List Int, PyData.depthAll (ns.map .int) ≤ 1
  | [] => by simp [PyData.depthAll]
  | n :: ns => by
    have := depthAll_ints ns
    simp only [List.map_cons, PyData.depthAll, PyData.depth]
    omega
theorem shaped_tI (ns : List Int) : SeqAt.shaped (.tuple (ns.map .int)) = true := by
  have := depthAll_ints ns
  unfold SeqAt.shaped
  rw [Bool.and_eq_true]
  refine ⟨by simp only [PyData.canLay0, canLayAll_ints], decide_eq_true ?_⟩
  simp only [PyData.depth]
  omega
theorem shaped_lI (ns : List Int) : SeqAt.shaped (.list (ns.map .int)) = true := by
  have := depthAll_ints ns
  unfold SeqAt.shaped
  rw [Bool.and_eq_true]
  refine ⟨by simp only [PyData.canLay0, canLayAll_ints], decide_eq_true ?_⟩
  simp only [PyData.depth]
  omega
theorem req_tI (xs ys : List Int) : REq (tI xs) (tI ys) (decide (xs = ys)) := by
  have h := REq.deep (py_tI xs) (py_tI ys) (shaped_tI xs) (shaped_tI ys)
  rw [show PyData.eqv (.tuple (xs.map .int)) (.tuple (ys.map .int)) = decide (xs = ys) by simp only [PyData.eqv, eqvAll_ints]] at h
  exact h
theorem req_lI (xs ys : List Int) : REq (lI xs) (lI ys) (decide (xs = ys)) := by
  have h := REq.deep (py_lI xs) (py_lI ys) (shaped_lI xs) (shaped_lI ys)
  rw [show PyData.eqv (.list (xs.map .int)) (.list (ys.map .int)) = decide (xs = ys) by simp only [PyData.eqv, eqvAll_ints]] at h
  exact h
theorem map_int_inj : ∀ {xs ys : List Int}, xs.map D.int = ys.map D.int → xs = ys
  | [], [], _ => rfl
  | [], _ :: _, h => by cases h
  | _ :: _, [], h => by cases h
  | x :: xs, y :: ys, h => by
    injection h with h1 h2
    injection h1 with h1
    rw [h1, map_int_inj h2]
/-- [..] == [] for ints -/
theorem req_nil (xs : List Int) : REq (lI xs) (.lst []) (decide (xs = [])) := req_lI xs []
/-! texts of rows of ints -/
theorem showable_ints : ∀ {ns : List Int}, (∀ n ∈ ns, n.natAbs.log2 < 1920) → PyData.showableAll (ns.map .int) = true
  | [], _ => by simp [PyData.showableAll]
  | n :: ns, h => by
    simp only [List.map_cons, PyData.showableAll, PyData.showable, showable_ints (fun z q => h z (List.mem_cons_of_mem _ q)), Bool.and_true, decide_eq_true_eq]
    exact h n List.mem_cons_self
theorem piled_ints : ∀ {ns : List Int}, (∀ n ∈ ns, n.natAbs < 10 ^ 1000) → piled (PyData.shownAll (ns.map .int)) ≤ 1003 * ns.length
  | [], _ => by simp [PyData.shownAll, piled]
  | n :: ns, h => by
    have h1 := piled_ints (fun z q => h z (List.mem_cons_of_mem _ q) : ∀ z ∈ ns, _)
    have h2 := int_text_length_le10 (k := 1000) (by decide) (h n List.mem_cons_self)
    have h3 : (Str.ofString (toString n)).length ≤ 1001 := by rw [PySem.ofString_length]; exact h2
    have h4 : PyData.shown (.int n) = Str.ofString (toString n) := by simp [PyData.shown]
    simp only [List.map_cons, PyData.shownAll, List.length_cons, h4]
    simp only [piled, List.map_cons, List.sum_cons] at h1 ⊢
    omega
theorem rrepr_tI {ns : List Int} (hl : ns.length ≤ 1000) (h : ∀ n ∈ ns, n.natAbs ≤ 10 ^ 400) : RRepr [tI ns] (.v (.str (PyData.shown (.tuple (ns.map .int))))) := by
  have b : ∀ n ∈ ns, n.natAbs.log2 < 1920 := fun n q => Nat.lt_of_le_of_lt (log2_mono (h n q)) (by decide +kernel)
  have b2 : ∀ n ∈ ns, n.natAbs < 10 ^ 1000 := fun n q => Nat.lt_of_le_of_lt (h n q) (by decide +kernel)
  have hd := depthAll_ints ns
  refine .mk (py_tI ns) (by simp only [PyData.showable]; exact showable_ints b) (by simp only [PyData.depth]; omega) ?_
  have hp := piled_ints b2
  simp only [PyData.shown]
  generalize PyData.shownAll (ns.map .int) = ts at hp ⊢
  unfold tupleText
  rw [strLen_append, strLen_append]
  have e1 : ((("(" : String) : Str)).length = 1 := rfl
  have e3 : (((if ts.length == 1 then ",)" else ")" : String) : Str)).length ≤ 2 := by split <;> decide
  rw [e1, sizeLine_eq]
  by_cases z : ts = []
  · subst z
    have : (Str.join ", " ([] : List Str)).length = 0 := rfl
    omega
  · have := join_length_add ts z
    omega
theorem rrepr_non : RRepr [.non] (.v (.str (PyData.shown .none))) := .mk rfl (by simp [PyData.showable]) (by simp [PyData.depth]) (by simp [PyData.shown]; decide)
/-! ### comprehensions over rows of ints -/
section
variable {K : PySem.W.Frag} {r : Ro} {m : Sto}
theorem zip_mem {xs ys : List Int} {d : D} (h : d ∈ zipD (xs.map .int) (ys.map .int)) : ∃ x y, d = .tup [.int x, .int y] ∧ (x, y) ∈ xs.zip ys := by
  unfold zipD at h
  obtain ⟨p, hp, rfl⟩ := List.mem_map.mp h
  rw [List.zip_map] at hp
  obtain ⟨⟨x, y⟩, h1, rfl⟩ := List.mem_map.mp hp
  exact ⟨x, y, rfl, h1⟩
def fst2 (g : Int → Int → D) : D → D
  | .tup [.int x, .int y] => g x y
  | _ => .non
def tst2 (g : Int → Int → Bool) : D → Bool
  | .tup [.int x, .int y] => g x y
  | _ => false
theorem zip_map (g : Int → Int → D) (f : Int → Int → Bool) : ∀ xs ys : List Int, ((zipD (xs.map .int) (ys.map .int)).filter (tst2 f)).map (fst2 g) = ((xs.zip ys).filter fun p => f p.1 p.2).map fun p => g p.1 p.2
  | [], _ => rfl
  | _ :: _, [] => rfl
  | x :: xs, y :: ys => by
    have ih := zip_map g f xs ys
    have e : zipD ((x :: xs).map D.int) ((y :: ys).map D.int) = .tup [.int x, .int y] :: zipD (xs.map .int) (ys.map .int) := rfl
    rw [e, List.zip_cons_cons, List.filter_cons, List.filter_cons]
    have e2 : tst2 f (.tup [.int x, .int y]) = f x y := rfl
    rw [e2]
    cases f x y with
    | true => rw [if_pos rfl, if_pos rfl, List.map_cons, List.map_cons, ih]; rfl
    | false => rw [if_neg Bool.false_ne_true, if_neg Bool.false_ne_true, ih]
theorem we_zipI {st : Bool} {a b : Nat} {ta : TA} {tt : TT} {te : TE} {Q : Sv → Sto → Prop} (xs ys : List Int) (f : Int → Int → Bool) (g : Int → Int → D) (hl : xs.length ≤ 100000) (hst : st = true → xs.length = ys.length)
    (ha : WA K r m ta fun ss m1 => m1 = m ∧ ∃ b1 b2, ss = [.val (sqD b1 (xs.map .int)), .val (sqD b2 (ys.map .int))])
    (ht : ∀ x y, (x, y) ∈ xs.zip ys → ∀ m', WT K (((wipeR r [a, b]).set a (some (.val (.int x)))).set b (some (.val (.int y)))) m' tt fun c m2 => c = f x y ∧ m2 = m' ∧
      (c = true → WE K (((wipeR r [a, b]).set a (some (.val (.int x)))).set b (some (.val (.int y)))) m' te fun s m3 => s = .val (g x y) ∧ m3 = m'))
    (q : Q (.val (.lst (((xs.zip ys).filter fun p => f p.1 p.2).map fun p => g p.1 p.2))) m) : WE K r m (tLc (iZ K st ta) (gTup K 2 (gCons (gName a) (gCons (gName b) gNil))) tt te [a, b]) Q := by
  refine we_lc (js := [a] ++ ([b] ++ [])) (by simp) (wi_Z fun σ H R e so k => ha σ H R e so fun vs H' ss m' x so' rs ⟨e1, b1, b2, es⟩ => k vs H' ss m' x so' rs ⟨b1, b2, _, _, es, fun z => by rw [List.length_map, List.length_map]; exact hst z, ?_, e1, tst2 f, fst2 g, fun d hd m' => ?_, ?_⟩)
  · unfold zipD
    rw [List.length_map, List.length_zip, List.length_map, List.length_map]
    omega
  · obtain ⟨x, y, rfl, hm⟩ := zip_mem hd
    exact wg_tup rfl (wgs_cons (wg_name (wgs_cons (wg_name (wgs_nil (ht x y hm m'))))))
  · rw [zip_map]; exact q
/-- over one row of ints -/
def fst1 (g : Int → D) : D → D
  | .int x => g x
  | _ => .non
def tst1 (g : Int → Bool) : D → Bool
  | .int x => g x
  | _ => false
theorem one_map (g : Int → D) (f : Int → Bool) : ∀ xs : List Int, ((xs.map D.int).filter (tst1 f)).map (fst1 g) = (xs.filter f).map g
  | [] => rfl
  | x :: xs => by
    have ih := one_map g f xs
    rw [List.map_cons, List.filter_cons, List.filter_cons]
    have e2 : tst1 f (.int x) = f x := rfl
    rw [e2]
    cases f x with
    | true => rw [if_pos rfl, if_pos rfl, List.map_cons, List.map_cons, ih]; rfl
    | false => rw [if_neg Bool.false_ne_true, if_neg Bool.false_ne_true, ih]
theorem we_eachI {a : Nat} {wi : TI} {tt : TT} {te : TE} {Q : Sv → Sto → Prop} (xs : List Int) (f : Int → Bool) (g : Int → D) (hl : xs.length ≤ 100000)
    (ha : WI K r m wi fun ds m1 => ds = xs.map .int ∧ m1 = m)
    (ht : ∀ x, x ∈ xs → ∀ m', WT K ((wipeR r [a]).set a (some (.val (.int x)))) m' tt fun c m2 => c = f x ∧ m2 = m' ∧ (c = true → WE K ((wipeR r [a]).set a (some (.val (.int x)))) m' te fun s m3 => s = .val (g x) ∧ m3 = m'))
    (q : Q (.val (.lst ((xs.filter f).map g))) m) : WE K r m (tLc wi (gName a) tt te [a]) Q := by
  refine we_lc (js := [a]) (by simp) fun σ H R e so k => ha σ H R e so fun J H' ds m' x so' io ⟨e1, e2⟩ => k J H' ds m' x so' io ⟨?_, e2, tst1 f, fst1 g, fun d hd m' => ?_, ?_⟩
  · rw [e1, List.length_map]; exact hl
  · rw [e1] at hd
    obtain ⟨x, hx, rfl⟩ := List.mem_map.mp hd
    exact wg_name (ht x hx m')
  · rw [e1, one_map]; exact q
/-! ### what is drawn: the generator is an owned list of three ints -/
def GenI (m : Sto) (g : Addr) (n : Nat) : Prop := ∃ a s c : Int, m g = some [.int a, .int s, .int c] ∧ 0 ≤ s ∧ s < 2147483647 ∧ 0 ≤ c ∧ c + 128 * (n : Int) ≤ 1000000000000
def Fr (m m' : Sto) (g : Addr) : Prop := ∀ p, p ≠ g → m' p = m p
theorem Fr.refl {g : Addr} : Fr m m g := fun _ _ => rfl
theorem Fr.trans {m1 m2 : Sto} {g : Addr} (a : Fr m m1 g) (b : Fr m1 m2 g) : Fr m m2 g := fun p h => (b p h).trans (a p h)
theorem Fr.st {g : Addr} {ds : List D} : Fr m (stS m g ds) g := fun p h => stS_ne h
theorem GenI.mono {g : Addr} {n k : Nat} (h : GenI m g n) (l : k ≤ n) : GenI m g k := by
  obtain ⟨a, s, c, h1, h2, h3, h4, h5⟩ := h
  exact ⟨a, s, c, h1, h2, h3, h4, by omega⟩
theorem GenI.some {g : Addr} {n : Nat} (h : GenI m g n) : ∃ ds, m g = some ds := by
  obtain ⟨a, s, c, h1, _⟩ := h
  exact ⟨_, h1⟩
theorem GenI.other {g p : Addr} {n : Nat} {ds : List D} (h : GenI m g n) (e : g ≠ p) : GenI (stS m p ds) g n := by
  obtain ⟨a, s, c, h1, h2⟩ := h
  exact ⟨a, s, c, by rw [stS_ne e]; exact h1, h2⟩
theorem GenI.del {g p : Addr} {n : Nat} (h : GenI m g n) (e : g ≠ p) : GenI (stD m p) g n := by
  obtain ⟨a, s, c, h1, h2⟩ := h
  exact ⟨a, s, c, by unfold stD; rw [if_neg e]; exact h1, h2⟩
/-- a row each item of which may draw k times -/
theorem we_drawn {wi : TI} {g : TG} {te : TE} {vs js : List Nat} {Q : Sv → Sto → Prop} {ge : Addr} (k n : Nat) (A : Nat → List D → Prop) (hjs : ∀ j ∈ js, j ∈ vs)
    (h : WI K r m wi fun ds m1 => m1 = m ∧ ds.length ≤ 100000 ∧ GenI m ge (n + k * ds.length) ∧ A 0 [] ∧
      (∀ i d acc m', ds[i]? = some d → A i acc → GenI m' ge (n + k * (ds.length - i)) → WG K g js (.val d) (wipeR r vs) m' fun r2 => WE K r2 m' te fun s m3 => ∃ x, s = .val x ∧ A (i + 1) (acc ++ [x]) ∧ GenI m3 ge (n + k * (ds.length - i - 1)) ∧ Fr m' m3 ge) ∧
      (∀ acc m', A ds.length acc → GenI m' ge n → Fr m m' ge → Q (.val (.lst acc)) m')) : WE K r m (tLc wi g tYes te vs) Q := by
  refine we_free (we_lcO hjs fun σ H R e st kk => h σ H R e st fun J H' ds mz x so io ⟨em, hl, hg, h0, turn, fin⟩ => kk J H' ds mz x so io ⟨hl, fun p hp => ?_⟩)
  subst em
  have gp : ge ≠ p := fun e => by
    obtain ⟨ds, z⟩ := hg.some
    rw [e, hp] at z
    cases z
  refine ⟨fun i acc m' => A i acc ∧ GenI m' ge (n + k * (ds.length - i)) ∧ ∀ q, q ≠ ge → q ≠ p → m' q = mz q, ⟨h0, hg.other gp, fun q _ h2 => stS_ne h2⟩, ?_, ?_⟩
  · rintro i d acc m' hd _ hm ⟨hA, hG, hF⟩
    refine fun v1 σ1 H1 QV1 e1 st1 rs1 k1 => turn i d acc m' hd hA hG v1 σ1 H1 QV1 e1 st1 rs1 fun σ2 r2 e2 l2 n2 q2 => k1 σ2 r2 e2 l2 n2 (wt_yes ?_)
    rw [if_pos rfl]
    refine q2.imp fun s m3 ⟨x, es, h1, h2, h3⟩ => ⟨x, es, by rw [h3 p (fun z => gp z.symm)]; exact hm, h1, ?_, fun q a b => by rw [stS_ne b, h3 q a, hF q a b]⟩
    have : n + k * (ds.length - (i + 1)) = n + k * (ds.length - i - 1) := rfl
    exact h2.other gp
  · rintro acc m' hm ⟨hA, hG, hF⟩
    refine ⟨p, _, rfl, hp, hm, fin acc (stD m' p) hA ?_ ?_⟩
    · have : n + k * (ds.length - ds.length) = n := by simp
      rw [this] at hG
      exact hG.del gp
    · intro q hq
      unfold stD
      by_cases z : q = p
      · rw [if_pos z, z, hp]
      · rw [if_neg z, hF q hq z]
end
end Cr

/-! Cr9: what the laws draw. -/
namespace Cr
open PySem PySem.Spec PyProof.Rows L2
local macro_rules | `(tactic| walk_at "w") => `(tactic| first
  | with_reducible refine ws_seq ?_ | with_reducible refine ws_asg ?_ | with_reducible refine ws_ret ?_ | with_reducible refine ws_retN ?_ | with_reducible refine ws_drop ?_ | with_reducible refine ws_if ?_
  | with_reducible refine ws_next ?_ | with_reducible refine ws_par ?_ | with_reducible refine ws_par3 ?_
  | with_reducible refine we_int ?_ | with_reducible refine we_str ?_ | with_reducible refine we_bl ?_ | with_reducible refine we_non ?_ | with_reducible refine we_op ?_ | with_reducible refine we_un ?_
  | with_reducible refine we_cb ?_ | with_reducible refine we_if ?_ | with_reducible refine we_tup ?_ | with_reducible refine we_call ?_ | with_reducible refine wa_cons ?_ | with_reducible refine wa_nil ?_
  | with_reducible refine wt_val ?_ | with_reducible refine wt_test ?_ | with_reducible refine wt_and ?_ | with_reducible refine wt_or ?_ | with_reducible refine wt_not ?_ | with_reducible refine wt_yes ?_
  | with_reducible refine we_andV ?_ | with_reducible refine we_orV ?_ | with_reducible refine we_notV ?_ | with_reducible refine we_chain ?_ | with_reducible refine we_slice ?_ | with_reducible refine wo_none ?_ | with_reducible refine wo_some ?_
  | with_reducible refine we_bits ?_ | refine we_var (by rfl) ?_)
local macro_rules | `(tactic| walk_at "i2") => `(tactic| refine ⟨_, _, _, rfl, rfl, .int _ _, ?_⟩)
local macro_rules | `(tactic| walk_at "in") => `(tactic| refine ⟨_, _, rfl, .int _, ?_⟩)
/-! ### the hash -/
def T_law_hash : Tr := fun ss m Q => ∃ s i : Int, ss = [.val (.int s), .val (.int i)] ∧ 0 ≤ s ∧ s < 2147483647 ∧ 0 ≤ i ∧ i ≤ 1000000000000 ∧ ∀ v : Int, 0 ≤ v → v < 2147483647 → Q (.val (.int v)) m
def t_law_hash (K : PySem.W.Frag) : TS := (tSeq (tAsg (tOp (rD2 K RMod) (tCB (rDN K RInt) (tCons (tOp (rD2 K RAdd) (tOp (rD2 K RAdd) (tOp (rD2 K RAdd) (tOp (rD2 K RMul) (tVar 0) (tC (.int 1140671))) (tOp (rD2 K RMul) (tOp (rD2 K RMul) (tC (.int 27644437)) (tVar 1)) (tVar 1))) (tOp (rD2 K RMul) (tC (.int 131)) (tVar 1))) (tC (.int 19))) tNil)) (tC (.int 2147483629))) (gName 2)) (tSeq (tAsg (tOp (rD2 K RMod) (tCB (rDN K RInt) (tCons (tOp (rD2 K RAdd) (tOp (rD2 K RAdd) (tOp (rD2 K RMul) (tVar 2) (tVar 2)) (tOp (rD2 K RMul) (tC (.int 62089)) (tVar 1))) (tC (.int 32416187))) tNil)) (tC (.int 2147483587))) (gName 2)) (tRet (tOp (rD2 K RMod) (tCB (rDN K RInt) (tCons (tOp (rD2 K RMul) (tVar 2) (tC (.int 48271))) tNil)) (tC (.int 2147483647))))))
theorem m_law_hash {K : PySem.W.Frag} : Ok K ["seed", "index", "mixed"] T_law_hash (t_law_hash K) := by
  rintro ss m Q ⟨s, i, rfl, h1, h2, h3, h4, q⟩
  unfold t_law_hash
  have mk : ∀ {a b : Int}, a.natAbs ≤ 10 ^ 30 → b.natAbs ≤ 10 ^ 30 → a.natAbs.log2 + b.natAbs.log2 < 1000000 := fun ha hb => mulOk ha hb (by decide +kernel)
  repeat walk_at "w"
  refine ⟨_, _, _, rfl, rfl, .int (mk (by omega) (by omega)), ?_⟩
  repeat walk_at "w"
  refine ⟨_, _, _, rfl, rfl, .int (mk (by omega) (by omega)), ?_⟩
  repeat walk_at "w"
  refine ⟨_, _, _, rfl, rfl, .int (mk (by omega) (by omega)), ?_⟩
  walk_at "i2"
  repeat walk_at "w"
  refine ⟨_, _, _, rfl, rfl, .int (mk (by omega) (by omega)), ?_⟩
  walk_at "i2"
  repeat walk_at "w"
  walk_at "i2"
  repeat walk_at "w"
  walk_at "in"
  repeat walk_at "w"
  refine ⟨_, _, _, rfl, rfl, .int (by decide), ?_⟩
  generalize hx : ((s * 1140671 + 27644437 * i * i + 131 * i + 19) % 2147483629) = x
  have x1 : 0 ≤ x := by rw [← hx]; exact Int.emod_nonneg _ (by decide)
  have x2 : x < 2147483629 := by rw [← hx]; exact Int.emod_lt_of_pos _ (by decide)
  repeat walk_at "w"
  refine ⟨_, _, _, rfl, rfl, .int (mk (by omega) (by omega)), ?_⟩
  repeat walk_at "w"
  refine ⟨_, _, _, rfl, rfl, .int (mk (by omega) (by omega)), ?_⟩
  walk_at "i2"
  repeat walk_at "w"
  walk_at "i2"
  repeat walk_at "w"
  walk_at "in"
  repeat walk_at "w"
  refine ⟨_, _, _, rfl, rfl, .int (by decide), ?_⟩
  generalize hy : ((x * x + 62089 * i + 32416187) % 2147483587) = y
  have y1 : 0 ≤ y := by rw [← hy]; exact Int.emod_nonneg _ (by decide)
  have y2 : y < 2147483629 := by rw [← hy]; have := Int.emod_lt_of_pos (x * x + 62089 * i + 32416187) (b := 2147483587) (by decide); omega
  repeat walk_at "w"
  refine ⟨_, _, _, rfl, rfl, .int (mk (by omega) (by omega)), ?_⟩
  repeat walk_at "w"
  walk_at "in"
  repeat walk_at "w"
  refine ⟨_, _, _, rfl, rfl, .int (by decide), ?_⟩
  exact q _ (Int.emod_nonneg _ (by decide)) (Int.emod_lt_of_pos _ (by decide))
theorem vw_adr {m : Sto} {a : Addr} {ds : List D} (h : m a = some ds) : vw m (.adr a) = some (.lst ds) := by show (m a).map D.lst = _; rw [h]; rfl
/-! ### a number below a bound -/
def bMax : Int := 2 ^ 3000
theorem bMax_eq : bMax = 2 ^ 3000 := rfl
theorem bMax_bits {b : Int} (h1 : 0 < b) (h2 : b < bMax) : Builtin.Int.intBits b ≤ 3000 ∧ b.natAbs.log2 < 9000 := by
  have h : b.natAbs < 2 ^ 3000 := by
    have e : (b.natAbs : Int) = b := by omega
    have h3 : (b.natAbs : Int) < ((2 ^ 3000 : Nat) : Int) := by rw [e]; exact h2
    exact Int.ofNat_lt.mp h3
  exact ⟨PySem.intBits_le_iff.mpr h, Nat.lt_of_le_of_lt (log2_lt h) (by decide)⟩
def T_law_random : Tr := fun ss m Q => ∃ (g : Addr) (b : Int) (n : Nat), ss = [.adr g, .val (.int b)] ∧ GenI m g (n + 1) ∧ 0 < b ∧ b < bMax ∧ ∀ (v : Int) (m' : Sto), 0 ≤ v → v < b → GenI m' g n → Fr m m' g → Q (.val (.int v)) m'
def t_law_random (K : PySem.W.Frag) : TS := (tSeq (tIfS (tTest (tOp (rD2 K RGt) (tOp (rD2 K RIx) (tVar 0) (tC (.int 0))) (tC (.int 0)))) (tSeq (tAsg (tOp (rD2 K RMod) (tCB (rDN K RInt) (tCons (tOp (rD2 K RIx) (tVar 0) (tC (.int 0))) tNil)) (tVar 1)) (gName 2)) (tSeq (tAsg (tOp (rD2 K RFdiv) (tOp (rD2 K RIx) (tVar 0) (tC (.int 0))) (tVar 1)) (gSub (tVar 0) (tC (.int 0)) rSetL)) (tRet (tVar 2)))) tNext) (tSeq (tAsg (tC (.int 0)) (gName 2)) (tSeq (tFor (iRng1 (tCons (tOp (rD2 K RAdd) (tC (.int 1)) (tOp (rD2 K RFdiv) (tBits (tVar 1)) (tC (.int 30)))) tNil)) (gName 3) (tSeq (tAsg (tOp (rD2 K RAdd) (tOp (rD2 K RIx) (tVar 0) (tC (.int 2))) (tC (.int 1))) (gSub (tVar 0) (tC (.int 2)) rSetL)) (tAsg (tOp (rD2 K RAdd) (tOp (rD2 K RMul) (tVar 2) (tC (.int 2147483587))) (tCall (SpD K T_law_hash) [] E0 (tCons (tOp (rD2 K RIx) (tVar 0) (tC (.int 1))) (tCons (tOp (rD2 K RIx) (tVar 0) (tC (.int 2))) tNil)))) (gName 2)))) (tRet (tOp (rD2 K RMod) (tCB (rDN K RInt) (tCons (tVar 2) tNil)) (tVar 1))))))
theorem m_law_random {K : PySem.W.Frag} : Ok K ["generator", "bound", "drawn", "turn"] T_law_random (t_law_random K) := by
  rintro ss m Q ⟨g, b, n, rfl, ⟨a, s, c, hg, s1, s2, c1, c2⟩, b1, b2, q⟩
  obtain ⟨bb1, bb2⟩ := bMax_bits b1 b2
  unfold t_law_random
  repeat walk_at "w"
  refine ⟨_, _, _, vw_adr hg, rfl, .lst rfl, ?_⟩
  repeat walk_at "w"
  walk_at "i2"
  refine ⟨_, rfl, ite_dec (fun ha => ?_) (fun ha => ?_)⟩
  · repeat walk_at "w"
    refine ⟨_, _, _, vw_adr hg, rfl, .lst rfl, ?_⟩
    repeat walk_at "w"
    walk_at "in"
    repeat walk_at "w"
    refine ⟨_, _, _, rfl, rfl, .int b1, ?_⟩
    walk_at "w"
    refine ws_setI ?_
    repeat walk_at "w"
    refine ⟨_, _, _, vw_adr hg, rfl, .lst rfl, ?_⟩
    repeat walk_at "w"
    refine ⟨_, _, _, rfl, rfl, .int b1 bb2, ?_⟩
    repeat walk_at "w"
    refine ⟨_, g, _, _, _, rfl, rfl, rfl, hg, rfl, ?_⟩
    repeat walk_at "w"
    refine q _ _ (Int.emod_nonneg _ (by omega)) (Int.emod_lt_of_pos _ b1) ⟨_, _, _, stS_same, s1, s2, c1, by omega⟩ Fr.st
  · repeat walk_at "w"
    refine ws_for [3] (wi_rng1 ?_)
    repeat walk_at "w"
    refine ⟨_, rfl, ?_⟩
    repeat walk_at "w"
    refine ⟨_, _, _, rfl, rfl, .int (by decide) (by decide +kernel), ?_⟩
    walk_at "i2"
    walk_at "w"
    have hn : (0 : Int) ≤ 1 + (Builtin.Int.intBits b : Int) / 30 ∧ 1 + (Builtin.Int.intBits b : Int) / 30 ≤ 101 := by omega
    generalize hN : 1 + (Builtin.Int.intBits b : Int) / 30 = N at hn
    refine ⟨N, rfl, by omega, by omega, fun i r' m' => ∃ (x c' : Int) (z : Option Sv), r' = [some (.adr g), some (.val (.int b)), some (.val (.int x)), z] ∧ 0 ≤ x ∧ x < 2 ^ (31 * i) ∧ m' g = some [.int a, .int s, .int c'] ∧ c' = c + i ∧ Fr m m' g, ⟨0, c, none, rfl, by decide, by decide, hg, by omega, Fr.refl⟩, ?_, ?_⟩
    · rintro i d r' m' hd ⟨x, c', z, rfl, x0, x1, hg', hc, hf⟩
      have hi : (i : Int) < N := by
        have := (List.getElem?_eq_some_iff.mp hd).1
        simp [rngD] at this
        omega
      refine wg_name ?_
      walk_at "w"
      refine ws_setI ?_
      repeat walk_at "w"
      refine ⟨_, _, _, vw_adr hg', rfl, .lst rfl, ?_⟩
      repeat walk_at "w"
      walk_at "i2"
      repeat walk_at "w"
      refine ⟨_, g, _, _, _, rfl, rfl, rfl, hg', rfl, ?_⟩
      repeat walk_at "w"
      have hx : x.natAbs.log2 ≤ 31 * i := log2_lt (by
        have e : (x.natAbs : Int) = x := by omega
        have h3 : (x.natAbs : Int) < ((2 ^ (31 * i) : Nat) : Int) := by rw [e]; simpa using x1
        have h4 := Int.ofNat_lt.mp h3
        rw [Nat.pow_succ]
        omega)
      refine ⟨_, _, _, rfl, rfl, .int (by have : (2147483587 : Int).natAbs.log2 = 30 := by decide +kernel
                                          omega), ?_⟩
      repeat walk_at "w"
      refine ⟨_, _, _, vw_adr stS_same, rfl, .lst rfl, ?_⟩
      repeat walk_at "w"
      refine ⟨_, _, _, vw_adr stS_same, rfl, .lst rfl, ?_⟩
      repeat walk_at "w"
      refine ⟨s, c' + 1, rfl, s1, s2, by omega, by omega, fun v v1 v2 => ?_⟩
      walk_at "i2"
      refine ⟨x * 2147483587 + v, c' + 1, _, rfl, by omega, ?_, stS_same, by omega, hf.trans Fr.st⟩
      have e : (2 : Int) ^ (31 * (i + 1)) = 2 ^ (31 * i) * 2147483648 := by rw [Nat.mul_add, Int.pow_add]; rfl
      rw [e]
      generalize (2 : Int) ^ (31 * i) = A at x1 ⊢
      omega
    · rintro r' m' ⟨x, c', z, rfl, x0, x1, hg', hc, hf⟩
      have hl : ((rngD 0 N.toNat).length : Int) = N := by simp [rngD]; omega
      repeat walk_at "w"
      walk_at "in"
      repeat walk_at "w"
      refine ⟨_, _, _, rfl, rfl, .int b1, ?_⟩
      exact q _ _ (Int.emod_nonneg _ (by omega)) (Int.emod_lt_of_pos _ b1) ⟨_, _, _, hg', s1, s2, by omega, by omega⟩ hf
end Cr

/-! CrA: generators, forms and points that laws draw. -/
namespace Cr
open PySem PySem.Spec PyProof.Rows L2
local macro_rules | `(tactic| walk_at "w") => `(tactic| first
  | with_reducible refine ws_seq ?_ | with_reducible refine ws_asg ?_ | with_reducible refine ws_ret ?_ | with_reducible refine ws_retN ?_ | with_reducible refine ws_drop ?_ | with_reducible refine ws_if ?_
  | with_reducible refine ws_next ?_ | with_reducible refine ws_par ?_ | with_reducible refine ws_par3 ?_
  | with_reducible refine we_int ?_ | with_reducible refine we_str ?_ | with_reducible refine we_bl ?_ | with_reducible refine we_non ?_ | with_reducible refine we_op ?_ | with_reducible refine we_un ?_
  | with_reducible refine we_cb ?_ | with_reducible refine we_if ?_ | with_reducible refine we_tup ?_ | with_reducible refine we_call ?_ | with_reducible refine wa_cons ?_ | with_reducible refine wa_nil ?_
  | with_reducible refine wt_val ?_ | with_reducible refine wt_test ?_ | with_reducible refine wt_and ?_ | with_reducible refine wt_or ?_ | with_reducible refine wt_not ?_ | with_reducible refine wt_yes ?_
  | with_reducible refine we_andV ?_ | with_reducible refine we_orV ?_ | with_reducible refine we_notV ?_ | with_reducible refine we_chain ?_ | with_reducible refine we_slice ?_ | with_reducible refine wo_none ?_ | with_reducible refine wo_some ?_
  | with_reducible refine we_bits ?_ | refine we_var (by rfl) ?_)
local macro_rules | `(tactic| walk_at "i2") => `(tactic| refine ⟨_, _, _, rfl, rfl, .int _ _, ?_⟩)
local macro_rules | `(tactic| walk_at "in") => `(tactic| refine ⟨_, _, rfl, .int _, ?_⟩)
theorem cut_ints (ns : List Int) (lo hi : Option Int) : ∃ xs : List Int, cutD (ns.map D.int) lo hi = xs.map D.int ∧ xs.length ≤ ns.length := by
  unfold cutD
  rw [List.length_map, ← List.map_drop, ← List.map_take]
  exact ⟨_, rfl, by simp; omega⟩
/-! ### the script -/
def T_law_cell : Tr := fun ss m Q => ∃ (ns : List Int) (i : Int), ss = [.val (.scr ns), .val (.int i)] ∧ 0 ≤ i ∧ (∀ z ∈ ns, Builtin.Int.intBits z ≤ 1048576) ∧ ∀ v : Int, Builtin.Int.intBits v ≤ 1048576 → Q (.val (.int v)) m
def t_law_cell (K : PySem.W.Frag) : TS := (tSeq (tIfS (tTest (tOp (rD2 K RLt) (tVar 1) (tCB (rDN K RLen) (tCons (tVar 0) tNil)))) (tRet (tOp (rD2 K RIx) (tVar 0) (tVar 1))) tNext) (tRet (tOp (rD2 K RMod) (tCB (rDN K RSum) (tCons (tSl (rSlD K) (tVar 0) tNoPart (tPart (tC (.int 1)))) tNil)) (tC (.int 1000003)))))
theorem m_law_cell {K : PySem.W.Frag} : Ok K ["script", "index"] T_law_cell (t_law_cell K) := by
  rintro ss m Q ⟨ns, i, rfl, i0, hb, q⟩
  unfold t_law_cell
  repeat walk_at "w"
  refine ⟨_, _, rfl, .scr _, ?_⟩
  walk_at "i2"
  refine ⟨_, rfl, ite_dec (fun hi => ?_) (fun hi => ?_)⟩
  · repeat walk_at "w"
    have h : i.toNat < ns.length := by omega
    refine ⟨_, _, _, rfl, rfl, .scr (n := ns[i.toNat]) (by unfold atI ixN; rw [if_pos i0, if_pos hi]; exact List.getElem?_eq_getElem h), ?_⟩
    exact q _ (hb _ (List.getElem_mem h))
  · repeat walk_at "w"
    refine ⟨1, rfl, ?_⟩
    obtain ⟨xs, e, _⟩ := cut_ints ns none (some 1)
    refine ⟨_, _, rfl, .scr _ _ _, ?_⟩
    repeat walk_at "w"
    refine ⟨[.lst (xs.map .int)], _, by rw [← e]; rfl, .lst _, ?_⟩
    repeat walk_at "w"
    refine ⟨_, _, _, rfl, rfl, .int (by decide), ?_⟩
    refine q _ (PySem.intBits_le_iff.mpr ?_)
    have h1 := Int.emod_nonneg xs.sum (b := 1000003) (by decide)
    have h2 := Int.emod_lt_of_pos xs.sum (b := 1000003) (by decide)
    refine Nat.lt_of_lt_of_le (m := 2 ^ 20) ?_ (Nat.pow_le_pow_right (by decide) (by decide))
    show (xs.sum % 1000003).natAbs < 1048576
    omega
def T_law_generator : Tr := fun ss m Q => ∃ (ns : List Int) (i : Int), ss = [.val (.scr ns), .val (.int i)] ∧ 0 ≤ i ∧ i ≤ 1000 ∧ (∀ z ∈ ns, Builtin.Int.intBits z ≤ 1048576) ∧ ∀ (p : Addr) (m' : Sto), m p = none → GenI m' p 1000000 → Fr m m' p → Q (.adr p) m'
def t_law_generator (K : PySem.W.Frag) : TS := (tSeq (tAsg (tCall (SpD K T_law_cell) [] E0 (tCons (tVar 0) (tCons (tVar 1) tNil))) (gName 2)) (tRet (tLst (tCons (tOp (rD2 K RMod) (tCB (rDN K RInt) (tCons (tCB (rDN K RMax) (tCons (tOp (rD2 K RSub) (tVar 2) (tOp (rD2 K RPow) (tC (.int 10)) (tC (.int 18)))) (tCons (tC (.int 0)) tNil))) tNil)) (tOp (rD2 K RPow) (tOp (rD2 K RPow) (tC (.int 10)) (tC (.int 60))) (tC (.int 10)))) (tCons (tOp (rD2 K RMod) (tCB (rDN K RInt) (tCons (tVar 2) tNil)) (tC (.int 2147483647))) (tCons (tOp (rD2 K RMul) (tC (.int 1000)) (tVar 1)) tNil))))))
theorem m_law_generator {K : PySem.W.Frag} : Ok K ["script", "index", "seed"] T_law_generator (t_law_generator K) := by
  rintro ss m Q ⟨ns, i, rfl, i0, i1, hb, q⟩
  unfold t_law_generator
  repeat walk_at "w"
  refine ⟨ns, i, rfl, i0, hb, fun v hv => ?_⟩
  walk_at "w"
  refine we_lstO ?_
  repeat walk_at "w"
  refine ⟨_, _, _, rfl, rfl, .int (by decide) (by decide), ?_⟩
  walk_at "i2"
  repeat walk_at "w"
  refine ⟨_, _, rfl, .int _ _, ?_⟩
  repeat walk_at "w"
  walk_at "in"
  repeat walk_at "w"
  refine ⟨_, _, _, rfl, rfl, .int (by decide) (by decide +kernel), ?_⟩
  repeat walk_at "w"
  refine ⟨_, _, _, rfl, rfl, .int (by decide) (by decide +kernel), ?_⟩
  refine ⟨_, _, _, rfl, rfl, .int (by decide +kernel), ?_⟩
  repeat walk_at "w"
  walk_at "in"
  repeat walk_at "w"
  refine ⟨_, _, _, rfl, rfl, .int (by decide), ?_⟩
  repeat walk_at "w"
  refine ⟨_, _, _, rfl, rfl, .int (mulOk (B := 1000) (C := 1000) (by decide) (by omega) (by decide +kernel)), ?_⟩
  repeat walk_at "w"
  refine ⟨[.int _, .int _, .int _], rfl, by show (3 : Nat) ≤ 100000; decide, fun p hp => q p _ hp ⟨_, _, _, stS_same, Int.emod_nonneg _ (by decide), Int.emod_lt_of_pos _ (by decide), by omega, by omega⟩ Fr.st⟩
/-! ### forms and points -/
def Row (l : Nat) (B : Int) (ns : List Int) : Prop := ns.length = l ∧ ∀ x ∈ ns, 0 ≤ x ∧ x ≤ B
theorem Row.snoc {l : Nat} {B x : Int} {ns : List Int} (h : Row l B ns) (h1 : 0 ≤ x) (h2 : x ≤ B) : Row (l + 1) B (ns ++ [x]) := ⟨by rw [List.length_append, h.1]; rfl, fun y q => by
  rcases List.mem_append.mp q with q | q
  · exact h.2 y q
  · have := List.mem_singleton.mp q
    subst this
    exact ⟨h1, h2⟩⟩
theorem Row.mono {l : Nat} {B C : Int} {ns : List Int} (h : Row l B ns) (le : B ≤ C) : Row l C ns := ⟨h.1, fun x q => ⟨(h.2 x q).1, Int.le_trans (h.2 x q).2 le⟩⟩
def T_law_form : Tr := fun ss m Q => ∃ (g : Addr) (k n : Nat) (B : Int), ss = [.adr g, .val (.int k), .val (.int B)] ∧ k ≤ 1000 ∧ 0 ≤ B ∧ B + 1 < bMax ∧ GenI m g (n + (k + 1)) ∧ ∀ (ns : List Int) (m' : Sto), Row (k + 1) B ns → GenI m' g n → Fr m m' g → Q (.val (tI ns)) m'
def t_law_form (K : PySem.W.Frag) : TS := (tRet (tCB (rDN K RTup) (tCons (tLc (iRng1 (tCons (tOp (rD2 K RAdd) (tVar 1) (tC (.int 1))) tNil)) (gName 3) tYes (tCall (SpD K T_law_random) [] E0 (tCons (tVar 0) (tCons (tOp (rD2 K RAdd) (tVar 2) (tC (.int 1))) tNil))) [3]) tNil)))
theorem rng_len (j : Int) (n : Nat) : (rngD j n).length = n := by simp [rngD]
theorem m_law_form {K : PySem.W.Frag} : Ok K ["generator", "many", "most", "turn"] T_law_form (t_law_form K) := by
  rintro ss m Q ⟨g, k, n, B, rfl, hk, hB, hB2, hg, q⟩
  unfold t_law_form
  repeat walk_at "w"
  refine we_drawn (ge := g) (js := [3]) 1 n (fun i acc => ∃ ns, acc = ns.map .int ∧ Row i B ns) (by decide) (wi_rng1 ?_)
  repeat walk_at "w"
  walk_at "i2"
  walk_at "w"
  have e1 : ((k : Int) + 1).toNat = k + 1 := by omega
  refine ⟨_, rfl, by omega, by omega, rfl, by rw [rng_len]; omega, by rw [rng_len, e1, Nat.one_mul]; exact hg, ⟨[], rfl, rfl, by simp⟩, ?_, ?_⟩
  · rintro i d acc m' hd ⟨ns, rfl, hr⟩ hG
    have hi := (List.getElem?_eq_some_iff.mp hd).1
    refine wg_name ?_
    repeat walk_at "w"
    walk_at "i2"
    repeat walk_at "w"
    refine ⟨g, B + 1, n + 1 * ((rngD 0 ((k : Int) + 1).toNat).length - i - 1), rfl, ?_, by omega, hB2, fun v m3 v0 v1 hG3 hF => ⟨.int v, rfl, ⟨ns ++ [v], by rw [List.map_append]; rfl, hr.snoc v0 (by omega)⟩, hG3, hF⟩⟩
    exact hG.mono (by omega)
  · rintro acc m' ⟨ns, rfl, hr⟩ hG hF
    rw [rng_len, e1] at hr
    repeat walk_at "w"
    refine ⟨_, _, rfl, .lst _, ?_⟩
    exact q ns m' hr hG hF
def T_law_point : Tr := fun ss m Q => ∃ (g : Addr) (k n : Nat) (B : Int), ss = [.adr g, .val (.int k), .val (.int B)] ∧ k ≤ 1000 ∧ 0 ≤ B ∧ B + 1 < bMax ∧ GenI m g (n + k) ∧ ∀ (ns : List Int) (m' : Sto), Row k B ns → GenI m' g n → Fr m m' g → Q (.val (lI ns)) m'
def t_law_point (K : PySem.W.Frag) : TS := (tRet (tLc (iRng1 (tCons (tVar 1) tNil)) (gName 3) tYes (tCall (SpD K T_law_random) [] E0 (tCons (tVar 0) (tCons (tOp (rD2 K RAdd) (tVar 2) (tC (.int 1))) tNil))) [3]))
theorem m_law_point {K : PySem.W.Frag} : Ok K ["generator", "many", "most", "turn"] T_law_point (t_law_point K) := by
  rintro ss m Q ⟨g, k, n, B, rfl, hk, hB, hB2, hg, q⟩
  unfold t_law_point
  repeat walk_at "w"
  refine we_drawn (ge := g) (js := [3]) 1 n (fun i acc => ∃ ns, acc = ns.map .int ∧ Row i B ns) (by decide) (wi_rng1 ?_)
  repeat walk_at "w"
  have e1 : ((k : Int)).toNat = k := by omega
  refine ⟨_, rfl, by omega, by omega, rfl, by rw [rng_len]; omega, by rw [rng_len, e1, Nat.one_mul]; exact hg, ⟨[], rfl, rfl, by simp⟩, ?_, ?_⟩
  · rintro i d acc m' hd ⟨ns, rfl, hr⟩ hG
    have hi := (List.getElem?_eq_some_iff.mp hd).1
    refine wg_name ?_
    repeat walk_at "w"
    walk_at "i2"
    repeat walk_at "w"
    refine ⟨g, B + 1, n + 1 * ((rngD 0 ((k : Int)).toNat).length - i - 1), rfl, ?_, by omega, hB2, fun v m3 v0 v1 hG3 hF => ⟨.int v, rfl, ⟨ns ++ [v], by rw [List.map_append]; rfl, hr.snoc v0 (by omega)⟩, hG3, hF⟩⟩
    exact hG.mono (by omega)
  · rintro acc m' ⟨ns, rfl, hr⟩ hG hF
    rw [rng_len, e1] at hr
    exact q ns m' hr hG hF
end Cr

/-! CrB: sums over rows. -/
namespace Cr
open PySem PySem.Spec PyProof.Rows L2
local macro_rules | `(tactic| walk_at "w") => `(tactic| first
  | with_reducible refine ws_seq ?_ | with_reducible refine ws_asg ?_ | with_reducible refine ws_ret ?_ | with_reducible refine ws_retN ?_ | with_reducible refine ws_drop ?_ | with_reducible refine ws_if ?_
  | with_reducible refine ws_next ?_ | with_reducible refine ws_par ?_ | with_reducible refine ws_par3 ?_
  | with_reducible refine we_int ?_ | with_reducible refine we_str ?_ | with_reducible refine we_bl ?_ | with_reducible refine we_non ?_ | with_reducible refine we_op ?_ | with_reducible refine we_un ?_
  | with_reducible refine we_cb ?_ | with_reducible refine we_if ?_ | with_reducible refine we_tup ?_ | with_reducible refine we_call ?_ | with_reducible refine wa_cons ?_ | with_reducible refine wa_nil ?_
  | with_reducible refine wt_val ?_ | with_reducible refine wt_test ?_ | with_reducible refine wt_and ?_ | with_reducible refine wt_or ?_ | with_reducible refine wt_not ?_ | with_reducible refine wt_yes ?_
  | with_reducible refine we_andV ?_ | with_reducible refine we_orV ?_ | with_reducible refine we_notV ?_ | with_reducible refine we_chain ?_ | with_reducible refine we_slice ?_ | with_reducible refine wo_none ?_ | with_reducible refine wo_some ?_
  | with_reducible refine we_bits ?_ | refine we_var (by rfl) ?_)
local macro_rules | `(tactic| walk_at "i2") => `(tactic| refine ⟨_, _, _, rfl, rfl, .int _ _, ?_⟩)
local macro_rules | `(tactic| walk_at "in") => `(tactic| refine ⟨_, _, rfl, .int _, ?_⟩)
theorem cut_tail (f : List D) : cutD f (some 1) none = f.tail := by
  unfold cutD
  have e : HT.sIx f.length 0 (some 1) = min 1 f.length := HT.sIx_nat f.length 0 1
  rw [e, HT.sIx_none]
  cases f with
  | nil => rfl
  | cons c cs =>
    have : min 1 (c :: cs).length = 1 := by simp
    rw [this]
    simp
theorem zw (g : Int → Int → Int) : ∀ xs ys : List Int, ((xs.zip ys).filter fun _ => true).map (fun p => D.int (g p.1 p.2)) = (List.zipWith g xs ys).map .int
  | [], _ => rfl
  | _ :: _, [] => rfl
  | x :: xs, y :: ys => by
    have ih := zw g xs ys
    rw [List.zip_cons_cons, List.filter_cons, if_pos rfl, List.map_cons, List.zipWith_cons_cons, List.map_cons, ih]
theorem we_zipW {K : PySem.W.Frag} {r : Ro} {m : Sto} {st : Bool} {a b : Nat} {ta : TA} {te : TE} {Q : Sv → Sto → Prop} (xs ys : List Int) (g : Int → Int → Int) (hl : xs.length ≤ 100000) (hst : st = true → xs.length = ys.length)
    (ha : WA K r m ta fun ss m1 => m1 = m ∧ ∃ b1 b2, ss = [.val (sqD b1 (xs.map .int)), .val (sqD b2 (ys.map .int))])
    (ht : ∀ x y, x ∈ xs → y ∈ ys → ∀ m', WE K (((wipeR r [a, b]).set a (some (.val (.int x)))).set b (some (.val (.int y)))) m' te fun s m3 => s = .val (.int (g x y)) ∧ m3 = m')
    (q : Q (.val (lI (List.zipWith g xs ys))) m) : WE K r m (tLc (iZ K st ta) (gTup K 2 (gCons (gName a) (gCons (gName b) gNil))) tYes te [a, b]) Q := by
  refine we_zipI xs ys (fun _ _ => true) (fun x y => .int (g x y)) hl hst ha (fun x y hm m' => wt_yes ⟨rfl, rfl, fun _ => ht x y (List.of_mem_zip hm).1 (List.of_mem_zip hm).2 m'⟩) ?_
  rw [zw]; exact q
/-! ### sums, differences, below -/
abbrev bSz (ns : List Int) : Prop := ∀ x ∈ ns, x.natAbs ≤ 10 ^ 400
theorem smul_ok {x y : Int} (h1 : x.natAbs ≤ 10 ^ 400) (h2 : y.natAbs ≤ 10 ^ 400) : x.natAbs.log2 + y.natAbs.log2 < 1000000 := mulOk h1 h2 (by decide +kernel)
def valI (f ps : List Int) : Int := f.headD 0 + (List.zipWith (· * ·) f.tail ps).sum
def T_law_value : Tr := fun ss m Q => ∃ (f ps : List Int) (b : Bool), ss = [.val (tI f), .val (sqD b (ps.map .int))] ∧ f ≠ [] ∧ f.length ≤ 1000 ∧ bSz f ∧ bSz ps ∧ Q (.val (.int (valI f ps))) m
def t_law_value (K : PySem.W.Frag) : TS := (tRet (tOp (rD2 K RAdd) (tOp (rD2 K RIx) (tVar 0) (tC (.int 0))) (tCB (rDN K RSum) (tCons (tLc (iZ K false (tCons (tSl (rSlD K) (tVar 0) (tPart (tC (.int 1))) tNoPart) (tCons (tVar 1) tNil))) (gTup K 2 (gCons (gName 2) (gCons (gName 3) gNil))) tYes (tOp (rD2 K RMul) (tVar 2) (tVar 3)) [2, 3]) tNil))))
theorem m_law_value {K : PySem.W.Frag} : Ok K ["form", "point", "number", "count"] T_law_value (t_law_value K) := by
  rintro ss m Q ⟨f, ps, b, rfl, hne, hl, h1, h2, q⟩
  unfold t_law_value
  cases f with
  | nil => exact absurd rfl hne
  | cons c cs =>
    repeat walk_at "w"
    refine ⟨_, _, _, rfl, rfl, .tup (d := .int c) (by unfold atI ixN; rw [if_pos (by decide), if_pos (by rw [List.length_map]; show (0 : Int) < ((cs.length + 1 : Nat) : Int); omega)]; rfl), ?_⟩
    repeat walk_at "w"
    refine we_zipW cs ps (· * ·) (by have : cs.length + 1 ≤ 1000 := hl; omega) (fun z => by cases z) ?_ (fun x y hx hy m' => ?_) ?_
    · repeat walk_at "w"
      refine ⟨1, rfl, ?_⟩
      repeat walk_at "w"
      refine ⟨_, _, rfl, .tup _ _ _, ?_⟩
      repeat walk_at "w"
      refine ⟨rfl, true, b, ?_⟩
      rw [cut_tail]
      rfl
    · repeat walk_at "w"
      exact ⟨_, _, _, rfl, rfl, .int (smul_ok (h1 _ (List.mem_cons_of_mem _ hx)) (h2 _ hy)), rfl, rfl⟩
    · repeat walk_at "w"
      refine ⟨[lI _], _, rfl, .lst _, ?_⟩
      refine ⟨_, _, _, rfl, rfl, .int _ _, ?_⟩
      exact q
def T_law_added : Tr := fun ss m Q => ∃ xs ys : List Int, ss = [.val (tI xs), .val (tI ys)] ∧ xs.length ≤ 100000 ∧ Q (.val (tI (List.zipWith (· + ·) xs ys))) m
def t_law_added (K : PySem.W.Frag) : TS := (tRet (tCB (rDN K RTup) (tCons (tLc (iZ K false (tCons (tVar 0) (tCons (tVar 1) tNil))) (gTup K 2 (gCons (gName 2) (gCons (gName 3) gNil))) tYes (tOp (rD2 K RAdd) (tVar 2) (tVar 3)) [2, 3]) tNil)))
theorem m_law_added {K : PySem.W.Frag} : Ok K ["one", "other", "low", "high"] T_law_added (t_law_added K) := by
  rintro ss m Q ⟨xs, ys, rfl, hl, q⟩
  unfold t_law_added
  repeat walk_at "w"
  refine we_zipW xs ys (· + ·) hl (fun z => by cases z) ?_ (fun x y hx hy m' => ?_) ?_
  · repeat walk_at "w"
    exact ⟨rfl, true, true, rfl⟩
  · repeat walk_at "w"
    exact ⟨_, _, _, rfl, rfl, .int _ _, rfl, rfl⟩
  · repeat walk_at "w"
    exact ⟨[lI _], _, rfl, .lst _, q⟩
def T_law_less : Tr := fun ss m Q => ∃ xs ys : List Int, ss = [.val (tI xs), .val (tI ys)] ∧ xs.length ≤ 100000 ∧ Q (.val (tI (List.zipWith (· - ·) xs ys))) m
def t_law_less (K : PySem.W.Frag) : TS := (tRet (tCB (rDN K RTup) (tCons (tLc (iZ K false (tCons (tVar 0) (tCons (tVar 1) tNil))) (gTup K 2 (gCons (gName 2) (gCons (gName 3) gNil))) tYes (tOp (rD2 K RSub) (tVar 2) (tVar 3)) [2, 3]) tNil)))
theorem m_law_less {K : PySem.W.Frag} : Ok K ["one", "other", "low", "high"] T_law_less (t_law_less K) := by
  rintro ss m Q ⟨xs, ys, rfl, hl, q⟩
  unfold t_law_less
  repeat walk_at "w"
  refine we_zipW xs ys (· - ·) hl (fun z => by cases z) ?_ (fun x y hx hy m' => ?_) ?_
  · repeat walk_at "w"
    exact ⟨rfl, true, true, rfl⟩
  · repeat walk_at "w"
    exact ⟨_, _, _, rfl, rfl, .int _ _, rfl, rfl⟩
  · repeat walk_at "w"
    exact ⟨[lI _], _, rfl, .lst _, q⟩
def lessAll (xs ys : List Int) : Bool := (xs.zip ys).all fun p => decide (p.1 ≤ p.2)
theorem below_nil (xs ys : List Int) : decide (((xs.zip ys).filter fun p => decide (p.2 < p.1)).map (·.1) = []) = lessAll xs ys := by
  unfold lessAll
  generalize xs.zip ys = l
  induction l with
  | nil => rfl
  | cons p l ih =>
    rw [List.filter_cons, List.all_cons, ← ih]
    by_cases h : p.2 < p.1
    · rw [if_pos (decide_eq_true h)]
      have : ¬ p.1 ≤ p.2 := by omega
      simp [this]
    · rw [if_neg (by simpa using h)]
      have : p.1 ≤ p.2 := by omega
      simp [this]
def T_law_below : Tr := fun ss m Q => ∃ xs ys : List Int, ss = [.val (tI xs), .val (tI ys)] ∧ xs.length ≤ 100000 ∧ Q (.val (.bl (lessAll xs ys))) m
theorem below_ok {K : PySem.W.Frag} {st : Bool} {m : Sto} {Q : Sv → Sto → Prop} (xs ys : List Int) (hl : xs.length ≤ 100000) (hst : st = true → xs.length = ys.length) (q : Q (.val (.bl (lessAll xs ys))) m) :
    WE K (startR ["one", "other", "low", "high"] [.val (tI xs), .val (tI ys)]) m (tOp (rD2 K REqR) (tLc (iZ K st (tCons (tVar 0) (tCons (tVar 1) tNil))) (gTup K 2 (gCons (gName 2) (gCons (gName 3) gNil))) (tTest (tOp (rD2 K RGt) (tVar 2) (tVar 3))) (tVar 2) [2, 3]) (tLst tNil)) Q := by
  refine we_op (we_zipI xs ys (fun x y => decide (y < x)) (fun x _ => .int x) hl hst ?_ (fun x y _ m' => ?_) ?_)
  · repeat walk_at "w"
    exact ⟨rfl, true, true, rfl⟩
  · repeat walk_at "w"
    refine ⟨_, _, _, rfl, rfl, .int _ _, ?_⟩
    refine ⟨_, rfl, rfl, rfl, fun _ => ?_⟩
    repeat walk_at "w"
    exact ⟨rfl, rfl⟩
  · refine we_lst ?_
    repeat walk_at "w"
    refine ⟨[], rfl, by decide, ?_⟩
    have e : (((xs.zip ys).filter fun p => decide (p.2 < p.1)).map fun p => D.int p.1) = (((xs.zip ys).filter fun p => decide (p.2 < p.1)).map (·.1)).map .int := by rw [List.map_map]; rfl
    refine ⟨_, _, _, rfl, rfl, .mk (by rw [e]; exact req_nil _), ?_⟩
    rw [below_nil]
    exact q
def t_law_below (K : PySem.W.Frag) : TS := (tRet (tOp (rD2 K REqR) (tLc (iZ K false (tCons (tVar 0) (tCons (tVar 1) tNil))) (gTup K 2 (gCons (gName 2) (gCons (gName 3) gNil))) (tTest (tOp (rD2 K RGt) (tVar 2) (tVar 3))) (tVar 2) [2, 3]) (tLst tNil)))
theorem m_law_below {K : PySem.W.Frag} : Ok K ["one", "other", "low", "high"] T_law_below (t_law_below K) := by
  rintro ss m Q ⟨xs, ys, rfl, hl, q⟩
  unfold t_law_below
  walk_at "w"
  exact below_ok xs ys hl (fun z => by cases z) q
/-- [[0] * many] + three points -/
def T_law_spots : Tr := fun ss m Q => ∃ (g : Addr) (k n : Nat), ss = [.adr g, .val (.int k)] ∧ k ≤ 1000 ∧ GenI m g (n + 3 * k) ∧ ∀ (ps : List (List Int)) (m' : Sto), ps.length = 4 → (∀ p ∈ ps, Row k 3 p) → GenI m' g n → Fr m m' g → Q (.val (.lst (ps.map lI))) m'
def t_law_spots (K : PySem.W.Frag) : TS := (tRet (tOp (rD2 K RAdd) (tLst (tCons (tOp (rD2 K RMul) (tLst (tCons (tC (.int 0)) tNil)) (tVar 1)) tNil)) (tLc (iRng1 (tCons (tC (.int 3)) tNil)) (gName 2) tYes (tCall (SpD K T_law_point) [] E0 (tCons (tVar 0) (tCons (tVar 1) (tCons (tC (.int 3)) tNil)))) [2])))
theorem rep_ints (k : Nat) : (List.replicate k [D.int 0]).flatten = (List.replicate k (0 : Int)).map D.int := by
  induction k with
  | zero => rfl
  | succ k ih => rw [List.replicate_succ, List.replicate_succ, List.flatten_cons, ih]; rfl
theorem m_law_spots {K : PySem.W.Frag} : Ok K ["generator", "many", "turn"] T_law_spots (t_law_spots K) := by
  rintro ss m Q ⟨g, k, n, rfl, hk, hg, q⟩
  unfold t_law_spots
  repeat walk_at "w"
  refine we_lst ?_
  repeat walk_at "w"
  refine we_lst ?_
  repeat walk_at "w"
  refine ⟨[.int 0], rfl, by decide, ?_⟩
  repeat walk_at "w"
  refine ⟨_, _, _, rfl, rfl, .lst (by omega) (by omega) (by simp [szD]; omega), ?_⟩
  repeat walk_at "w"
  have e0 : ((k : Int)).toNat = k := by omega
  refine ⟨[lI (List.replicate k 0)], by rw [e0, rep_ints]; rfl, by show (1 : Nat) ≤ 100000; decide, ?_⟩
  refine we_drawn (ge := g) (js := [2]) k n (fun i acc => ∃ ps : List (List Int), acc = ps.map lI ∧ ps.length = i ∧ ∀ p ∈ ps, Row k 3 p) (by decide) (wi_rng1 ?_)
  repeat walk_at "w"
  refine ⟨3, rfl, by omega, by omega, rfl, by decide, (by rw [rng_len]; exact hg.mono (by show n + k * 3 ≤ _; omega)), ⟨[], rfl, rfl, by simp⟩, ?_, ?_⟩
  · rintro i d acc m' hd ⟨ps, rfl, hpl, hps⟩ hG
    have hi := (List.getElem?_eq_some_iff.mp hd).1
    rw [rng_len] at hi hG ⊢
    refine wg_name ?_
    repeat walk_at "w"
    have e3 : (3 : Int).toNat - i = (3 : Int).toNat - i - 1 + 1 := by omega
    refine ⟨g, k, n + k * ((3 : Int).toNat - i - 1), 3, rfl, hk, by decide, by decide +kernel, by rw [e3, Nat.mul_add, Nat.mul_one] at hG; exact hG.mono (by omega), fun ns m3 hr hG3 hF => ⟨_, rfl, ⟨ps ++ [ns], by rw [List.map_append]; rfl, by rw [List.length_append, hpl]; rfl, ?_⟩, hG3, hF⟩⟩
    intro p hp
    rcases List.mem_append.mp hp with h | h
    · exact hps p h
    · rw [List.mem_singleton.mp h]; exact hr
  · rintro acc m' ⟨ps, rfl, hpl, hps⟩ hG hF
    rw [rng_len] at hpl
    refine ⟨_, _, _, rfl, rfl, .lst (by simp [szD, hpl]), ?_⟩
    refine q (List.replicate k 0 :: ps) m' (by simp [hpl]) (fun p hp => ?_) hG hF
    rcases List.mem_cons.mp hp with h | h
    · rw [h]
      exact ⟨by simp, fun x hx => by rw [List.eq_of_mem_replicate hx]; decide⟩
    · exact hps p h
end Cr

/-! CrK: kinds. -/
namespace Cr
open PySem PySem.Spec PyProof.Rows L2
local macro_rules | `(tactic| walk_at "w") => `(tactic| first
  | with_reducible refine ws_seq ?_ | with_reducible refine ws_asg ?_ | with_reducible refine ws_ret ?_ | with_reducible refine ws_retN ?_ | with_reducible refine ws_drop ?_ | with_reducible refine ws_if ?_
  | with_reducible refine ws_next ?_ | with_reducible refine ws_par ?_ | with_reducible refine ws_par3 ?_
  | with_reducible refine we_int ?_ | with_reducible refine we_str ?_ | with_reducible refine we_bl ?_ | with_reducible refine we_non ?_ | with_reducible refine we_op ?_ | with_reducible refine we_un ?_
  | with_reducible refine we_cb ?_ | with_reducible refine we_if ?_ | with_reducible refine we_tup ?_ | with_reducible refine we_call ?_ | with_reducible refine wa_cons ?_ | with_reducible refine wa_nil ?_
  | with_reducible refine wt_val ?_ | with_reducible refine wt_test ?_ | with_reducible refine wt_and ?_ | with_reducible refine wt_or ?_ | with_reducible refine wt_not ?_ | with_reducible refine wt_yes ?_
  | with_reducible refine we_andV ?_ | with_reducible refine we_orV ?_ | with_reducible refine we_notV ?_ | with_reducible refine we_chain ?_ | with_reducible refine we_slice ?_ | with_reducible refine wo_none ?_ | with_reducible refine wo_some ?_
  | with_reducible refine we_bits ?_ | refine we_var (by rfl) ?_)
local macro_rules | `(tactic| walk_at "i2") => `(tactic| refine ⟨_, _, _, rfl, rfl, .int _ _, ?_⟩)
local macro_rules | `(tactic| walk_at "in") => `(tactic| refine ⟨_, _, rfl, .int _, ?_⟩)
/-! ### plain data -/
def Plain (d : D) : Prop := ∃ p, d.py = some p ∧ p.canLay0 = true ∧ p.depth ≤ 60
theorem plain_int (i : Int) : Plain (.int i) := ⟨_, rfl, by simp [PyData.canLay0], by simp [PyData.depth]⟩
theorem plain_bl (i : Bool) : Plain (.bl i) := ⟨_, rfl, by simp [PyData.canLay0], by simp [PyData.depth]⟩
theorem plain_non : Plain .non := ⟨_, rfl, by simp [PyData.canLay0], by simp [PyData.depth]⟩
theorem plain_tI (ns : List Int) : Plain (tI ns) := ⟨_, py_tI ns, by simp only [PyData.canLay0, canLayAll_ints], by have := depthAll_ints ns; simp only [PyData.depth]; omega⟩
theorem plain_lI (ns : List Int) : Plain (lI ns) := ⟨_, py_lI ns, by simp only [PyData.canLay0, canLayAll_ints], by have := depthAll_ints ns; simp only [PyData.depth]; omega⟩
theorem pyA_of : ∀ {ds : List D}, (∀ d ∈ ds, Plain d) → ∃ ps, D.pyA ds = some ps ∧ ps.length = ds.length ∧ PyData.canLayAll0 ps = true ∧ PyData.depthAll ps ≤ 60
  | [], _ => ⟨[], rfl, rfl, by simp [PyData.canLayAll0], by simp [PyData.depthAll]⟩
  | d :: ds, h => by
    obtain ⟨p, h1, h2, h3⟩ := h d List.mem_cons_self
    obtain ⟨ps, i1, i2, i3, i4⟩ := pyA_of fun e q => h e (List.mem_cons_of_mem _ q)
    refine ⟨p :: ps, by simp [D.pyA, h1, i1], by rw [List.length_cons, List.length_cons, i2], by simp [PyData.canLayAll0, h2, i3], ?_⟩
    simp only [PyData.depthAll]
    omega
theorem reqL_nil {ds : List D} (h : ∀ d ∈ ds, Plain d) : REq (.lst ds) (.lst []) ds.isEmpty := by
  obtain ⟨ps, h1, h2, h3, h4⟩ := pyA_of h
  have k1 : SeqAt.shaped (.list ps) = true := by
    unfold SeqAt.shaped
    rw [Bool.and_eq_true]
    exact ⟨by simpa only [PyData.canLay0] using h3, decide_eq_true (by simp only [PyData.depth]; omega)⟩
  have e := REq.deep (a := .lst ds) (b := .lst []) (by simp only [D.py, h1]; rfl) (by rfl) k1 (shaped_lI [])
  have e2 : PyData.eqv (.list ps) (.list (([] : List Int).map .int)) = ds.isEmpty := by
    simp only [PyData.eqv, List.map_nil]
    cases ps with
    | nil =>
      cases ds with
      | nil => simp [PyData.eqvAll]
      | cons _ _ => cases h2
    | cons p ps =>
      cases ds with
      | nil => cases h2
      | cons _ _ => simp [PyData.eqvAll]
  rw [e2] at e
  exact e
theorem Plain.tn {d : D} (h : Plain d) : d.tn.isSome = true := by
  obtain ⟨p, h1, _⟩ := h
  cases d <;> first | rfl | (simp [D.py] at h1)
def isInt : D → Bool
  | .int _ => true
  | .bl _ => true
  | _ => false
def isBl : D → Bool
  | .bl _ => true
  | _ => false
def isStr : D → Bool
  | .str _ => true
  | _ => false
def isTup : D → Bool
  | .tup _ => true
  | _ => false
def isLst : D → Bool
  | .lst _ => true
  | .scr _ => true
  | _ => false
theorem isi_int {d : D} (h : d.tn.isSome = true) : RIsi [d, .ty "int"] (.v (.bl (isInt d))) := by
  cases d <;> first | exact .one (b := true) rfl (by decide +kernel) | exact .one (b := false) rfl (by decide +kernel) | cases h
theorem isi_bl {d : D} (h : d.tn.isSome = true) : RIsi [d, .ty "bool"] (.v (.bl (isBl d))) := by
  cases d <;> first | exact .one (b := true) rfl (by decide +kernel) | exact .one (b := false) rfl (by decide +kernel) | cases h
theorem isi_str {d : D} (h : d.tn.isSome = true) : RIsi [d, .ty "str"] (.v (.bl (isStr d))) := by
  cases d <;> first | exact .one (b := true) rfl (by decide +kernel) | exact .one (b := false) rfl (by decide +kernel) | cases h
theorem isi_tup {d : D} (h : d.tn.isSome = true) : RIsi [d, .ty "tuple"] (.v (.bl (isTup d))) := by
  cases d <;> first | exact .one (b := true) rfl (by decide +kernel) | exact .one (b := false) rfl (by decide +kernel) | cases h
theorem isi_lst {d : D} (h : d.tn.isSome = true) : RIsi [d, .ty "list"] (.v (.bl (isLst d))) := by
  cases d <;> first | exact .one (b := true) rfl (by decide +kernel) | exact .one (b := false) rfl (by decide +kernel) | cases h
/-! ### kinds -/
def wholeD : D → Bool
  | .int _ => true
  | _ => false
def T_is_whole : Tr := fun ss m Q => ∃ d, ss = [.val d] ∧ Plain d ∧ Q (.val (.bl (wholeD d))) m
def t_is_whole (K : PySem.W.Frag) : TS := (tRet (tAndV (tCB (rDN K RIsi) (tCons (tVar 0) (tCons (tC (.ty "int")) tNil))) (tNotV (tCB (rDN K RIsi) (tCons (tVar 0) (tCons (tC (.ty "bool")) tNil))))))
theorem we_ty {K : PySem.W.Frag} {r : Ro} {m : Sto} {n : String} {Q : Sv → Sto → Prop} (q : Q (.val (.ty n)) m) : WE K r m (tC (.ty n)) Q := we_c (fun _ => .ty n) q
theorem m_is_whole {K : PySem.W.Frag} : Ok K ["value"] T_is_whole (t_is_whole K) := by
  rintro ss m Q ⟨d, rfl, hp, q⟩
  unfold t_is_whole
  repeat walk_at "w"
  refine we_ty ?_
  repeat walk_at "w"
  refine ⟨[d, .ty "int"], _, rfl, isi_int hp.tn, ?_⟩
  refine ⟨_, rfl, ite_b (fun h => ?_) (fun h => ?_)⟩
  · repeat walk_at "w"
    refine we_ty ?_
    repeat walk_at "w"
    refine ⟨[d, .ty "bool"], _, rfl, isi_bl hp.tn, ?_⟩
    refine ⟨_, rfl, ?_⟩
    have e : wholeD d = !isBl d := by cases d <;> first | rfl | cases h
    rw [← e]
    exact q
  · have e : wholeD d = false := by cases d <;> first | rfl | cases h
    rw [← e]
    exact q
def hiD : Option Int → D
  | none => .non
  | some i => .int i
def betD (d : D) (lo : Int) (hi : Option Int) : Bool := match d with
  | .int i => decide (lo ≤ i) && (match hi with | none => true | some h => decide (i ≤ h))
  | _ => false
def T_is_between : Tr := fun ss m Q => ∃ (d : D) (lo : Int) (hi : Option Int), ss = [.val d, .val (.int lo), .val (hiD hi)] ∧ Plain d ∧ Q (.val (.bl (betD d lo hi))) m
def t_is_between (K : PySem.W.Frag) : TS := (tRet (tAndV (tCall (SpD K T_is_whole) [] E0 (tCons (tVar 0) tNil)) (tAndV (tOp (rD2 K RLe) (tVar 1) (tVar 0)) (tOrV (tOp (rD2 K RIsR) (tVar 2) (tC .non)) (tOp (rD2 K RLe) (tVar 0) (tVar 2))))))
theorem m_is_between {K : PySem.W.Frag} : Ok K ["value", "low", "high"] T_is_between (t_is_between K) := by
  rintro ss m Q ⟨d, lo, hi, rfl, hp, q⟩
  unfold t_is_between
  repeat walk_at "w"
  refine ⟨d, rfl, hp, ?_⟩
  cases d with
  | int i =>
    refine ⟨true, rfl, ?_⟩
    rw [if_pos rfl]
    repeat walk_at "w"
    walk_at "i2"
    refine ⟨_, rfl, ite_dec (fun h => ?_) (fun h => ?_)⟩
    · cases hi with
      | none =>
        repeat walk_at "w"
        refine ⟨_, _, _, rfl, rfl, .mk (.non _), ?_⟩
        refine ⟨true, rfl, ?_⟩
        rw [if_pos rfl]
        simpa [betD, h, Rs.d] using q
      | some z =>
        repeat walk_at "w"
        refine ⟨_, _, _, rfl, rfl, .mk (.non _), ?_⟩
        refine ⟨false, rfl, ?_⟩
        rw [if_neg Bool.false_ne_true]
        repeat walk_at "w"
        walk_at "i2"
        simpa [betD, h, Rs.d] using q
    · simpa [betD, h, Rs.d] using q
  | _ => exact ⟨false, rfl, q⟩
def cntD (d : D) : Bool := betD d 0 none
def T_are_counts : Tr := fun ss m Q => ∃ (b : Bool) (ds : List D), ss = [.val (sqD b ds)] ∧ ds.length ≤ 100000 ∧ (∀ d ∈ ds, Plain d) ∧ Q (.val (.bl (ds.all cntD))) m
def t_are_counts (K : PySem.W.Frag) : TS := (tRet (tOp (rD2 K REqR) (tLc (iD K (tVar 0)) (gName 1) (tNot (tB (tCall (SpD K T_is_between) [] E0 (tCons (tVar 1) (tCons (tC (.int 0)) (tCons (tC .non) tNil)))))) (tVar 1) [1]) (tLst tNil)))
theorem all_empty (f : D → Bool) (ds : List D) : ((ds.filter fun d => !f d).map fun d => d).isEmpty = ds.all f := by
  rw [List.map_id']
  induction ds with
  | nil => rfl
  | cons d ds ih =>
    rw [List.filter_cons, List.all_cons, ← ih]
    cases f d <;> simp
theorem m_are_counts {K : PySem.W.Frag} : Ok K ["items", "item"] T_are_counts (t_are_counts K) := by
  rintro ss m Q ⟨b, ds, rfl, hl, hp, q⟩
  unfold t_are_counts
  repeat walk_at "w"
  refine we_lc (js := [1]) (by decide) (wi_D ?_)
  repeat walk_at "w"
  refine ⟨b, ds, rfl, hl, rfl, fun d => !cntD d, fun d => d, fun d hd m' => ?_, ?_⟩
  · refine wg_name ?_
    repeat walk_at "w"
    refine ⟨d, 0, none, rfl, hp d hd, ?_⟩
    refine ⟨_, rfl, rfl, rfl, fun _ => ?_⟩
    repeat walk_at "w"
    exact ⟨rfl, rfl⟩
  · refine we_lst ?_
    repeat walk_at "w"
    refine ⟨[], rfl, by decide, ?_⟩
    refine ⟨_, _, _, rfl, rfl, .mk (reqL_nil fun d hd => ?_), ?_⟩
    · rw [List.map_id'] at hd
      exact hp d (List.mem_filter.mp hd).1
    · rw [all_empty]
      exact q
def formD (k : Int) : D → Bool
  | .tup ds => decide ((ds.length : Int) = k + 1) && ds.all cntD
  | _ => false
def PlainV (d : D) : Prop := d.tn.isSome = true ∧ ∀ ds, d = .tup ds → ds.length ≤ 100000 ∧ ∀ e ∈ ds, Plain e
theorem plainV_tI {ns : List Int} (h : ns.length ≤ 100000) : PlainV (tI ns) := ⟨rfl, fun ds e => by
  cases e
  refine ⟨by rw [List.length_map]; exact h, fun e he => ?_⟩
  obtain ⟨i, _, rfl⟩ := List.mem_map.mp he
  exact plain_int i⟩
def T_is_form_for : Tr := fun ss m Q => ∃ (k : Int) (d : D), ss = [.val (.int k), .val d] ∧ PlainV d ∧ Q (.val (.bl (formD k d))) m
def t_is_form_for (K : PySem.W.Frag) : TS := (tRet (tAndV (tCB (rDN K RIsi) (tCons (tVar 1) (tCons (tC (.ty "tuple")) tNil))) (tAndV (tOp (rD2 K REqR) (tCB (rDN K RLen) (tCons (tVar 1) tNil)) (tOp (rD2 K RAdd) (tVar 0) (tC (.int 1)))) (tCall (SpD K T_are_counts) [] E0 (tCons (tVar 1) tNil)))))
theorem m_is_form_for {K : PySem.W.Frag} : Ok K ["many", "value"] T_is_form_for (t_is_form_for K) := by
  rintro ss m Q ⟨k, d, rfl, ⟨hp, hv⟩, q⟩
  unfold t_is_form_for
  repeat walk_at "w"
  refine we_ty ?_
  repeat walk_at "w"
  refine ⟨[d, .ty "tuple"], _, rfl, isi_tup hp, ?_⟩
  refine ⟨_, rfl, ite_b (fun h => ?_) (fun h => ?_)⟩
  · cases d with
    | tup ds =>
      obtain ⟨h1, h2⟩ := hv ds rfl
      repeat walk_at "w"
      refine ⟨_, _, rfl, .tup _, ?_⟩
      repeat walk_at "w"
      walk_at "i2"
      refine ⟨_, _, _, rfl, rfl, .mk (.int _ _), ?_⟩
      refine ⟨_, rfl, ite_dec (fun h => ?_) (fun h => ?_)⟩
      · repeat walk_at "w"
        refine ⟨true, ds, rfl, h1, h2, ?_⟩
        have e : formD k (.tup ds) = ds.all cntD := by simp [formD, h]
        rw [← e]
        exact q
      · have e : formD k (.tup ds) = false := by simp [formD, h]
        rw [← e]
        exact q
    | _ => cases h
  · have e : formD k d = false := by cases d <;> first | rfl | cases h
    rw [← e]
    exact q
/-! ### checks that let -/
def T_check_number : Tr := fun ss m Q => ∃ (i lo : Int) (hi : Option Int), ss = [.val (.int i), .val (.int lo), .val (hiD hi)] ∧ betD (.int i) lo hi = true ∧ Q (.val .non) m
def t_check_number (K : PySem.W.Frag) : TS := (tIfS (tNot (tB (tCall (SpD K T_is_between) [] E0 (tCons (tVar 0) (tCons (tVar 1) (tCons (tVar 2) tNil)))))) tNever tNext)
theorem m_check_number {K : PySem.W.Frag} : Ok K ["number", "low", "high"] T_check_number (t_check_number K) := by
  rintro ss m Q ⟨i, lo, hi, rfl, h, q⟩
  unfold t_check_number
  repeat walk_at "w"
  refine ⟨.int i, lo, hi, rfl, plain_int i, ?_⟩
  rw [h]
  refine ⟨true, rfl, ?_⟩
  show if (!true) = true then _ else _
  rw [if_neg (by decide)]
  walk_at "w"
  exact q
def T_check_many : Tr := fun ss m Q => ∃ i : Int, ss = [.val (.int i)] ∧ 0 ≤ i ∧ i ≤ 3 ∧ Q (.val .non) m
def t_check_many (K : PySem.W.Frag) : TS := (tDrop (tCall (SpD K T_check_number) [] E0 (tCons (tVar 0) (tCons (tC (.int 0)) (tCons (tC (.int 3)) tNil)))))
theorem m_check_many {K : PySem.W.Frag} : Ok K ["many"] T_check_many (t_check_many K) := by
  rintro ss m Q ⟨i, rfl, h1, h2, q⟩
  unfold t_check_many
  repeat walk_at "w"
  exact ⟨i, 0, some 3, rfl, by simp [betD, h1, h2], q⟩
theorem formD_tI {k : Nat} {B : Int} {ns : List Int} (h : Row (k + 1) B ns) : formD k (tI ns) = true := by
  have h1 : (ns.map D.int).all cntD = true := by
    rw [List.all_map, List.all_eq_true]
    intro x hx
    have := (h.2 x hx).1
    simp [cntD, betD, this]
  show (decide (((ns.map D.int).length : Int) = (k : Int) + 1) && (ns.map D.int).all cntD) = true
  rw [h1, Bool.and_true, List.length_map, h.1]
  exact decide_eq_true (by omega)
def T_check_form : Tr := fun ss m Q => ∃ (k : Nat) (B : Int) (ns : List Int), ss = [.val (.int k), .val (tI ns)] ∧ k ≤ 1000 ∧ Row (k + 1) B ns ∧ Q (.val .non) m
def t_check_form (K : PySem.W.Frag) : TS := (tIfS (tNot (tB (tCall (SpD K T_is_form_for) [] E0 (tCons (tVar 0) (tCons (tVar 1) tNil))))) tNever tNext)
theorem m_check_form {K : PySem.W.Frag} : Ok K ["many", "form"] T_check_form (t_check_form K) := by
  rintro ss m Q ⟨k, B, ns, rfl, hk, hr, q⟩
  unfold t_check_form
  repeat walk_at "w"
  refine ⟨k, tI ns, rfl, plainV_tI (by rw [hr.1]; omega), ?_⟩
  rw [formD_tI hr]
  refine ⟨true, rfl, ?_⟩
  show if (!true) = true then _ else _
  rw [if_neg (by decide)]
  walk_at "w"
  exact q
/-! ### forms -/
def T_form_below : Tr := fun ss m Q => ∃ xs ys : List Int, ss = [.val (tI xs), .val (tI ys)] ∧ xs.length ≤ 100000 ∧ xs.length = ys.length ∧ Q (.val (.bl (lessAll xs ys))) m
def t_form_below (K : PySem.W.Frag) : TS := (tRet (tOp (rD2 K REqR) (tLc (iZ K true (tCons (tVar 0) (tCons (tVar 1) tNil))) (gTup K 2 (gCons (gName 2) (gCons (gName 3) gNil))) (tTest (tOp (rD2 K RGt) (tVar 2) (tVar 3))) (tVar 2) [2, 3]) (tLst tNil)))
theorem m_form_below {K : PySem.W.Frag} : Ok K ["one", "other", "low", "high"] T_form_below (t_form_below K) := by
  rintro ss m Q ⟨xs, ys, rfl, hl, he, q⟩
  unfold t_form_below
  walk_at "w"
  exact below_ok xs ys hl (fun _ => he) q
def T_form_sum : Tr := fun ss m Q => ∃ xs ys : List Int, ss = [.val (tI xs), .val (tI ys)] ∧ xs.length ≤ 100000 ∧ xs.length = ys.length ∧ Q (.val (tI (List.zipWith (· + ·) xs ys))) m
def t_form_sum (K : PySem.W.Frag) : TS := (tRet (tCB (rDN K RTup) (tCons (tLc (iZ K true (tCons (tVar 0) (tCons (tVar 1) tNil))) (gTup K 2 (gCons (gName 2) (gCons (gName 3) gNil))) tYes (tOp (rD2 K RAdd) (tVar 2) (tVar 3)) [2, 3]) tNil)))
theorem m_form_sum {K : PySem.W.Frag} : Ok K ["one", "other", "low", "high"] T_form_sum (t_form_sum K) := by
  rintro ss m Q ⟨xs, ys, rfl, hl, he, q⟩
  unfold t_form_sum
  repeat walk_at "w"
  refine we_zipW xs ys (· + ·) hl (fun _ => he) ?_ (fun x y hx hy m' => ?_) ?_
  · repeat walk_at "w"
    exact ⟨rfl, true, true, rfl⟩
  · repeat walk_at "w"
    exact ⟨_, _, _, rfl, rfl, .int _ _, rfl, rfl⟩
  · repeat walk_at "w"
    exact ⟨[lI _], _, rfl, .lst _, q⟩
def T_form_times : Tr := fun ss m Q => ∃ (c : Int) (xs : List Int), ss = [.val (.int c), .val (tI xs)] ∧ xs.length ≤ 100000 ∧ c.natAbs ≤ 10 ^ 400 ∧ bSz xs ∧ Q (.val (tI (xs.map (c * ·)))) m
def t_form_times (K : PySem.W.Frag) : TS := (tRet (tCB (rDN K RTup) (tCons (tLc (iD K (tVar 1)) (gName 2) tYes (tOp (rD2 K RMul) (tVar 0) (tVar 2)) [2]) tNil)))
theorem m_form_times {K : PySem.W.Frag} : Ok K ["number", "form", "item"] T_form_times (t_form_times K) := by
  rintro ss m Q ⟨c, xs, rfl, hl, hc, hx, q⟩
  unfold t_form_times
  repeat walk_at "w"
  refine we_eachI xs (fun _ => true) (fun x => .int (c * x)) hl (wi_D ?_) (fun x hxm m' => ?_) ?_
  · repeat walk_at "w"
    exact ⟨true, xs.map .int, rfl, rfl, rfl⟩
  · repeat walk_at "w"
    refine ⟨rfl, rfl, fun _ => ?_⟩
    repeat walk_at "w"
    exact ⟨_, _, _, rfl, rfl, .int (smul_ok hc (hx x hxm)), rfl, rfl⟩
  · repeat walk_at "w"
    have e : (xs.filter fun _ => true).map (fun x => D.int (c * x)) = (xs.map (c * ·)).map .int := by rw [List.filter_eq_self.mpr (fun _ _ => rfl), List.map_map]; rfl
    rw [e]
    exact ⟨[lI _], _, rfl, .lst _, q⟩
end Cr

/-! CrS: texts; items taken from owned lists. -/
namespace Cr
open PySem PySem.Spec PyProof.Rows L2
section
variable {K : PySem.W.Frag} {M : Dm} {r : Ro} {m : Sto} {P : Eds}
theorem strs_rp {K : PySem.W.Frag} {H : Hp} : ∀ {vs : List V} {zs : List Str}, RpA K H vs (zs.map D.str) → vs = zs.map V.str
  | _, [], h => by cases h; rfl
  | _, z :: zs, h => by
    cases h with
    | cons h t =>
      cases h
      rw [strs_rp t]
      rfl
/-- sep.join(..) -/
abbrev rJoin (K : PySem.W.Frag) : V → List V → Hp → VK → Prop := fun x xs H Q => ∃ a p, ∃ ys : List Str, x = .str a ∧ xs = [.ref p] ∧ (SqL K H p (ys.map V.str) ∨ SqT K H p (ys.map V.str)) ∧
      (ys.map (·.length)).sum + ys.length * a.length ≤ 16777216 ∧ Q (.str (Txt.join a ys)) H
theorem we_join {to te : TE} {Q : Sv → Sto → Prop} (h : WE K r m to fun s m1 => ∃ a, s = .val (.str a) ∧ WE K r m1 te fun t m2 => ∃ (b : Bool) (zs : List Str), vw m2 t = some (sqD b (zs.map .str)) ∧ (zs.map (·.length)).sum + zs.length * a.length ≤ 16777216 ∧ Q (.val (.str (Txt.join a zs))) m2) :
    WE K r m (tM1 (rJoin K) to te) Q := fun σ H QV e st k =>
  h σ H _ e st fun v H1 s m1 x1 so1 rs1 ⟨a, es, q⟩ => by
    subst es
    have rs1' : Rp K (hid (dom m1) H1) v (.str a) := rs1
    cases rs1'
    refine ⟨⟨a, rfl⟩, q σ H1 _ (e.mono x1) so1 fun u H2 t m2 x2 so2 rs2 ⟨b, zs, hv, hz, q2⟩ => ?_⟩
    have ru := RpW.of rs2 so2 hv
    cases b with
    | false =>
      obtain ⟨p, xs, rfl, hx, ra⟩ := (show RpW K (dom m2) H2 u (.lst (zs.map .str)) from ru).lst
      rw [strs_rp ra] at hx
      exact ⟨a, p, zs, rfl, rfl, .inl (Evl.sq_of hx), hz, k _ H2 (.val (.str _)) m2 (x1.trans x2) so2 (show Rp _ _ _ _ from .str _) q2⟩
    | true =>
      obtain ⟨p, xs, rfl, hx, ra⟩ := (show RpW K (dom m2) H2 u (.tup (zs.map .str)) from ru).tup
      rw [strs_rp ra] at hx
      exact ⟨a, p, zs, rfl, rfl, .inr (sqT_hid hx), hz, k _ H2 (.val (.str _)) m2 (x1.trans x2) so2 (show Rp _ _ _ _ from .str _) q2⟩
abbrev rStrip : V → List V → Hp → VK → Prop := fun x xs H Q => ∃ a b, x = .str a ∧ xs = [.str b] ∧ a.length ≤ sizeLine ∧ Q (.str (Txt.stripChars a b)) H
abbrev rFind : V → List V → Hp → VK → Prop := fun x xs H Q => ∃ a b, x = .str a ∧ xs = [.str b] ∧ Q (.int (Txt.find a b)) H
/-- a method of one text with one text -/
theorem we_s1 {g : Str → Str → Str} {to te : TE} {Q : Sv → Sto → Prop} (h : WE K r m to fun s m1 => ∃ a, s = .val (.str a) ∧ WE K r m1 te fun t m2 => ∃ b, t = .val (.str b) ∧ a.length ≤ sizeLine ∧ Q (.val (.str (g a b))) m2) :
    WE K r m (tBM K "str" (fun x xs H Q => ∃ a b, x = .str a ∧ xs = [.str b] ∧ a.length ≤ sizeLine ∧ Q (.str (g a b)) H) to (tCons te tNil)) Q := fun σ H QV e st k =>
  h σ H _ e st fun v H1 s m1 x1 so1 rs1 ⟨a, es, q⟩ => by
    subst es
    have rs1' : Rp K (hid (dom m1) H1) v (.str a) := rs1
    cases rs1'
    refine ⟨rfl, q σ H1 _ (e.mono x1) so1 fun u H2 t m2 x2 so2 rs2 ⟨b, et, hl, q2⟩ => ?_⟩
    subst et
    have rs2' : Rp K (hid (dom m2) H2) u (.str b) := rs2
    cases rs2'
    exact ⟨a, b, rfl, rfl, hl, k _ H2 (.val (.str _)) m2 (x1.trans x2) so2 (show Rp _ _ _ _ from .str _) q2⟩
theorem we_find {to te : TE} {Q : Sv → Sto → Prop} (h : WE K r m to fun s m1 => ∃ a, s = .val (.str a) ∧ WE K r m1 te fun t m2 => ∃ b, t = .val (.str b) ∧ Q (.val (.int (Txt.find a b))) m2) :
    WE K r m (tBM K "str" rFind to (tCons te tNil)) Q := fun σ H QV e st k =>
  h σ H _ e st fun v H1 s m1 x1 so1 rs1 ⟨a, es, q⟩ => by
    subst es
    have rs1' : Rp K (hid (dom m1) H1) v (.str a) := rs1
    cases rs1'
    refine ⟨rfl, q σ H1 _ (e.mono x1) so1 fun u H2 t m2 x2 so2 rs2 ⟨b, et, q2⟩ => ?_⟩
    subst et
    have rs2' : Rp K (hid (dom m2) H2) u (.str b) := rs2
    cases rs2'
    exact ⟨a, b, rfl, rfl, k _ H2 (.val (.int _)) m2 (x1.trans x2) so2 (show Rp _ _ _ _ from .int _) q2⟩
/-- the last item of an owned list is taken -/
theorem we_pop {to : TE} {Q : Sv → Sto → Prop} (h : WE K r m to fun s m1 => ∃ p ds d, s = .adr p ∧ m1 p = some (ds ++ [d]) ∧ Q (.val d) (stS m1 p ds)) : WE K r m (tBM0 K "list" rPop to) Q := fun σ H QV e st k =>
  h σ H _ e st fun v H1 s m1 x1 so1 rs1 ⟨p, ds, d, es, hm, q⟩ => by
    subst es
    obtain ⟨rfl, _⟩ := rs1
    obtain ⟨xs, hx, ra⟩ := so1 p _ hm
    have hl := ra.length
    rw [List.length_append] at hl
    have hl1 : xs.length = ds.length + 1 := hl
    obtain ⟨y, hy, ry⟩ := ra.get (i := xs.length - 1) (d := d) (by rw [hl1, Nat.add_sub_cancel, List.getElem?_append_right (Nat.le_refl _), Nat.sub_self]; rfl)
    have rd : RpA K (hid (dom m1) H1) xs.dropLast ds := by
      have := ra.take ds.length
      rw [List.take_left' rfl] at this
      rw [List.dropLast_eq_take, hl1, Nat.add_sub_cancel]
      exact this
    have w : Xt (dom m1) H1 (dom (stS m1 p ds)) (upd H1 p (.lst xs.dropLast)) := by
      rw [dom_stS hm]
      exact Xt.wr (dom_some hm)
    exact ⟨.inl ⟨rfl, xs, Evl.sq_of hx⟩, p, xs, y, rfl, rfl, hx, hy, k y _ (.val d) (stS m1 p ds) (x1.trans w) (so1.wr hm rd) (Rp.mono w.ex ry) q⟩
theorem RpA.erase {K : PySem.W.Frag} {H : Hp} : ∀ {vs : List V} {ds : List D} (i : Nat), RpA K H vs ds → RpA K H (vs.eraseIdx i) (ds.eraseIdx i)
  | _, _, _, .nil => .nil
  | _, _, 0, .cons _ t => t
  | _, _, i + 1, .cons h t => .cons h (RpA.erase i t)
theorem we_popAt {to ti : TE} {Q : Sv → Sto → Prop} (h : WE K r m to fun s m1 => ∃ p ds1, s = .adr p ∧ m1 p = some ds1 ∧ WE K r m1 ti fun t m2 => ∃ (i : Int) (j : Nat) (ds : List D) (d : D), t = .val (.int i) ∧ m2 p = some ds ∧ ds.length ≤ 100000 ∧ ixN ds.length i = some j ∧ ds[j]? = some d ∧ Q (.val d) (stS m2 p (ds.eraseIdx j))) :
    WE K r m (tBM K "list" rPopAt to (tCons ti tNil)) Q := fun σ H QV e st k =>
  h σ H _ e st fun v H1 s m1 x1 so1 rs1 ⟨p, ds1, es, hm1, q⟩ => by
    subst es
    obtain ⟨rfl, _⟩ := rs1
    obtain ⟨xs1, hx1, _⟩ := so1 p _ hm1
    refine ⟨.inl ⟨rfl, xs1, Evl.sq_of hx1⟩, q σ H1 _ (e.mono x1) so1 fun u H2 t m2 x2 so2 rs2 ⟨i, j, ds, d, et, hm, hl, hj, hd, q2⟩ => ?_⟩
    subst et
    have rs2' : Rp K (hid (dom m2) H2) u (.int i) := rs2
    cases rs2'
    obtain ⟨xs, hx, ra⟩ := so2 p _ hm
    obtain ⟨s1, s2, s3, s4⟩ := ixN_seq hj
    obtain ⟨y, hy, ry⟩ := ra.get hd
    have w : Xt (dom m2) H2 (dom (stS m2 p (ds.eraseIdx j))) (upd H2 p (.lst (xs.eraseIdx j))) := by
      rw [dom_stS hm]
      exact Xt.wr (dom_some hm)
    exact ⟨p, xs, i, j, y, rfl, rfl, hx, by omega, by omega, by rw [ra.length]; exact s1, hy, k y _ (.val d) (stS m2 p _) ((x1.trans x2).trans w) (so2.wr hm (ra.erase j)) (Rp.mono w.ex ry) q2⟩
end
end Cr

/-! CrT: texts as rows of signs. -/
namespace Cr
open PySem PySem.Spec PyProof.Rows L2
local macro_rules | `(tactic| walk_at "w") => `(tactic| first
  | with_reducible refine ws_seq ?_ | with_reducible refine ws_asg ?_ | with_reducible refine ws_ret ?_ | with_reducible refine ws_retN ?_ | with_reducible refine ws_drop ?_ | with_reducible refine ws_if ?_
  | with_reducible refine ws_next ?_ | with_reducible refine ws_par ?_ | with_reducible refine ws_par3 ?_
  | with_reducible refine we_int ?_ | with_reducible refine we_str ?_ | with_reducible refine we_bl ?_ | with_reducible refine we_non ?_ | with_reducible refine we_op ?_ | with_reducible refine we_un ?_
  | with_reducible refine we_cb ?_ | with_reducible refine we_if ?_ | with_reducible refine we_tup ?_ | with_reducible refine we_call ?_ | with_reducible refine wa_cons ?_ | with_reducible refine wa_nil ?_
  | with_reducible refine wt_val ?_ | with_reducible refine wt_test ?_ | with_reducible refine wt_and ?_ | with_reducible refine wt_or ?_ | with_reducible refine wt_not ?_ | with_reducible refine wt_yes ?_
  | with_reducible refine we_andV ?_ | with_reducible refine we_orV ?_ | with_reducible refine we_notV ?_ | with_reducible refine we_chain ?_ | with_reducible refine we_slice ?_ | with_reducible refine wo_none ?_ | with_reducible refine wo_some ?_
  | with_reducible refine we_bits ?_ | refine we_var (by rfl) ?_)
local macro_rules | `(tactic| walk_at "i2") => `(tactic| refine ⟨_, _, _, rfl, rfl, .int _ _, ?_⟩)
local macro_rules | `(tactic| walk_at "in") => `(tactic| refine ⟨_, _, rfl, .int _, ?_⟩)
def S (l : List Nat) : Str := ⟨l.toArray⟩
abbrev dS (l : List Nat) : D := .str (S l)
theorem S_len (l : List Nat) : (S l).length = l.length := by show l.toArray.size = _; simp
theorem S_app (a b : List Nat) : S a ++ S b = S (a ++ b) := by
  show (⟨a.toArray ++ b.toArray⟩ : Str) = ⟨(a ++ b).toArray⟩
  simp
theorem S_inj {a b : List Nat} (h : S a = S b) : a = b := by
  injection h with h
  simpa using h
theorem S_of (z : Str) : z = S z.cps.toList := by
  obtain ⟨a⟩ := z
  show (⟨a⟩ : Str) = ⟨a.toList.toArray⟩
  simp
theorem radd_S {a b : List Nat} (h : a.length + b.length ≤ szD) : RAdd (dS a) (dS b) (.v (dS (a ++ b))) := by
  have := RAdd.str (a := S a) (b := S b) (by rw [S_len, S_len]; exact h)
  rw [S_app] at this
  exact this
theorem rix_S {l : List Nat} {i : Int} {c : Nat} (hl : l.length ≤ szD) (h : atI l i = some c) : RIx (dS l) (.int i) (.v (dS [c])) := .str (by rw [S_len]; exact hl) (by show atI l.toArray.toList i = _; simpa using h)
def cutL (l : List Nat) (lo hi : Option Int) : List Nat := (l.drop (HT.sIx l.length 0 lo)).take (HT.sIx l.length l.length hi - HT.sIx l.length 0 lo)
theorem rsl_S {l : List Nat} (hl : l.length ≤ szD) (lo hi : Option Int) : RSl (dS l) lo hi (.v (dS (cutL l lo hi))) := by
  have := RSl.str (z := S l) (by rw [S_len]; exact hl) lo hi
  have e : cutS (S l) lo hi = S (cutL l lo hi) := by
    unfold cutS cutL
    rw [S_len]
    show (⟨_⟩ : Str) = ⟨_⟩
    simp [S]
  rw [e] at this
  exact this
theorem rmul_S {l : List Nat} {k : Int} (h1 : -1000000 ≤ k) (h2 : k ≤ 1000000) (h3 : l.length * k.toNat ≤ szD) : RMul (dS l) (.int k) (.v (dS (List.replicate k.toNat l).flatten)) := by
  have := RMul.str (a := S l) h1 h2 (by rw [S_len]; exact h3)
  have e : (⟨(List.replicate k.toNat (S l).cps.toList).flatten.toArray⟩ : Str) = S (List.replicate k.toNat l).flatten := by
    show (⟨_⟩ : Str) = ⟨_⟩
    simp [S]
  rw [e] at this
  exact this
theorem rlen_S {l : List Nat} (hl : l.length ≤ szD) : RLen [dS l] (.v (.int l.length)) := by
  have := RLen.str (z := S l) (by rw [S_len]; exact hl)
  rw [S_len] at this
  exact this
theorem req_S (a b : List Nat) : REq (dS a) (dS b) (decide (a = b)) := by
  have := REq.str (S a) (S b)
  have e : decide (S a = S b) = decide (a = b) := by
    by_cases h : a = b
    · rw [decide_eq_true h, h, decide_eq_true rfl]
    · rw [decide_eq_false h, decide_eq_false fun z => h (S_inj z)]
  rw [e] at this
  exact this
theorem join_S (ls : List (List Nat)) : Txt.join (S []) (ls.map S) = S ls.flatten := by
  have key : ∀ (ps : List (List Nat)) (acc : Array Nat), (ps.map S).foldl (fun acc p => acc ++ (S []).cps ++ p.cps) acc = (acc.toList ++ ps.flatten).toArray := by
    intro ps
    induction ps with
    | nil => intro acc; simp
    | cons p ps ih =>
      intro acc
      rw [List.map_cons, List.foldl_cons, ih]
      simp [S]
  show Builtin.Str.glued (S []) (ls.map S) = _
  unfold Builtin.Str.glued
  cases ls with
  | nil => rfl
  | cons a r =>
    show (⟨(r.map S).foldl (fun acc p => acc ++ (S []).cps ++ p.cps) (S a).cps⟩ : Str) = _
    rw [key]
    simp [S]
theorem strip_S {l L : List Nat} (h : ∀ c ∈ l, c ∈ L) : Txt.stripChars (S l) (S L) = S [] := by
  have hg : ∀ c ∈ l, (S L).cps.contains c = true := fun c hc => by
    show L.toArray.contains c = true
    simpa using h c hc
  have htw : l.takeWhile (S L).cps.contains = l := by
    generalize (S L).cps.contains = f at hg
    clear h
    induction l with
    | nil => rfl
    | cons a r ih => rw [List.takeWhile_cons, hg a List.mem_cons_self, ih fun c hc => hg c (List.mem_cons_of_mem _ hc)]; rfl
  have e0 : stripLo (S L).cps.contains true (S l) = l.length := by
    unfold stripLo
    rw [if_pos rfl]
    show (l.toArray.toList.takeWhile _).length = _
    rw [List.toList_toArray, htw]
  have e1 : stripHi (S L).cps.contains true (S l) l.length = l.length := by
    unfold stripHi
    rw [if_pos rfl, S_len]
    show l.length - ((l.toArray.toList.drop l.length).reverse.takeWhile _).length = _
    rw [List.toList_toArray, List.drop_length]
    simp
  unfold Txt.stripChars Txt.stripBy stripSame stripped
  rw [e0, e1, S_len]
  by_cases hl : l = []
  · subst hl
    simp
  · have : (l.length == 0) = false := by
      cases l with
      | nil => exact absurd rfl hl
      | cons a b => rfl
    rw [this, Bool.false_and, if_neg Bool.false_ne_true]
    show (⟨l.toArray.extract l.length l.length⟩ : Str) = _
    simp [S]
/-! ### words of small letters -/
def abc : List Nat := [97, 98, 99, 100, 101, 102, 103, 104, 105, 106, 107, 108, 109, 110, 111, 112, 113, 114, 115, 116, 117, 118, 119, 120, 121, 122]
theorem abc_eq : ("abcdefghijklmnopqrstuvwxyz" : Str) = S abc := by decide +kernel
/-- a word: small letters, not too long -/
def Wd (n : Nat) (l : List Nat) : Prop := l.length ≤ n ∧ ∀ c ∈ l, c ∈ abc
theorem Wd.mono {n k : Nat} {l : List Nat} (h : Wd n l) (hk : n ≤ k) : Wd k l := ⟨Nat.le_trans h.1 hk, h.2⟩
theorem Wd.app {n k : Nat} {a b : List Nat} (h : Wd n a) (h2 : Wd k b) : Wd (n + k) (a ++ b) := ⟨by rw [List.length_append]; have := h.1; have := h2.1; omega, fun c hc => (List.mem_append.mp hc).elim (h.2 c) (h2.2 c)⟩
theorem Wd.sub {n : Nat} {a b : List Nat} (h : Wd n a) (hl : b.length ≤ n) (hb : ∀ c ∈ b, c ∈ a) : Wd n b := ⟨hl, fun c hc => h.2 c (hb c hc)⟩
theorem cutL_sub (l : List Nat) (lo hi : Option Int) : ∀ c ∈ cutL l lo hi, c ∈ l := fun c hc => List.mem_of_mem_drop (List.mem_of_mem_take hc)
theorem cutL_len (l : List Nat) (lo hi : Option Int) : (cutL l lo hi).length ≤ l.length := by unfold cutL; simp; omega
theorem Wd.cut {n : Nat} {a : List Nat} (h : Wd n a) (lo hi : Option Int) : Wd n (cutL a lo hi) := h.sub (Nat.le_trans (cutL_len a lo hi) h.1) (cutL_sub a lo hi)
theorem rep_mem {l : List Nat} : ∀ {n : Nat} {c : Nat}, c ∈ (List.replicate n l).flatten → c ∈ l
  | 0, c, h => by simp at h
  | n + 1, c, h => by
    rw [List.replicate_succ, List.flatten_cons] at h
    exact (List.mem_append.mp h).elim id rep_mem
theorem rep_len (l : List Nat) (n : Nat) : (List.replicate n l).flatten.length = n * l.length := by
  induction n with
  | zero => simp
  | succ n ih => rw [List.replicate_succ, List.flatten_cons, List.length_append, ih, Nat.succ_mul]; omega
theorem Wd.rep {n : Nat} {a : List Nat} (h : Wd n a) (k : Nat) : Wd (k * n) (List.replicate k a).flatten := ⟨by rw [rep_len]; exact Nat.mul_le_mul_left k h.1, fun c hc => h.2 c (rep_mem hc)⟩
end Cr

/-! CrU: letters and words drawn; pieces. -/
namespace Cr
open PySem PySem.Spec PyProof.Rows L2
local macro_rules | `(tactic| walk_at "w") => `(tactic| first
  | with_reducible refine ws_seq ?_ | with_reducible refine ws_asg ?_ | with_reducible refine ws_ret ?_ | with_reducible refine ws_retN ?_ | with_reducible refine ws_drop ?_ | with_reducible refine ws_if ?_
  | with_reducible refine ws_next ?_ | with_reducible refine ws_par ?_ | with_reducible refine ws_par3 ?_
  | with_reducible refine we_int ?_ | with_reducible refine we_str ?_ | with_reducible refine we_bl ?_ | with_reducible refine we_non ?_ | with_reducible refine we_op ?_ | with_reducible refine we_un ?_
  | with_reducible refine we_cb ?_ | with_reducible refine we_if ?_ | with_reducible refine we_tup ?_ | with_reducible refine we_call ?_ | with_reducible refine wa_cons ?_ | with_reducible refine wa_nil ?_
  | with_reducible refine wt_val ?_ | with_reducible refine wt_test ?_ | with_reducible refine wt_and ?_ | with_reducible refine wt_or ?_ | with_reducible refine wt_not ?_ | with_reducible refine wt_yes ?_
  | with_reducible refine we_andV ?_ | with_reducible refine we_orV ?_ | with_reducible refine we_notV ?_ | with_reducible refine we_chain ?_ | with_reducible refine we_slice ?_ | with_reducible refine wo_none ?_ | with_reducible refine wo_some ?_
  | with_reducible refine we_bits ?_ | refine we_var (by rfl) ?_)
local macro_rules | `(tactic| walk_at "i2") => `(tactic| refine ⟨_, _, _, rfl, rfl, .int _ _, ?_⟩)
local macro_rules | `(tactic| walk_at "in") => `(tactic| refine ⟨_, _, rfl, .int _, ?_⟩)
theorem ws_retD {K : PySem.W.Frag} {M : Dm} {r : Ro} {m : Sto} {P : Eds} {te : TE} {p : Addr} (hM : M p = false) (h : WE K r m te fun s m1 => ∃ d ds, s = .val d ∧ m1 p = some ds ∧ P.rt (.val d) (stD m1 p)) : WS K M r m (tRet te) P := fun σ H H0 D' e st x dd =>
  h σ H _ e st fun v H1 s m1 x1 so1 rs ⟨d, ds, es, hm, q⟩ => by
    subst es
    have rs' : Rp K (hid (dom m1) H1) v d := rs
    exact dd.rt v H1 (.val d) (stD m1 p) ((x.trans x1).frz hM) (so1.frz hm).1 (Rp.mono (hid_sub stD_sub) rs') q
theorem GenI.ne {m : Sto} {g p : Addr} {n : Nat} (h : GenI m g n) (hp : m p = none) : g ≠ p := fun e => by
  obtain ⟨ds, z⟩ := h.some
  rw [e, hp] at z
  cases z
/-- signs, each a text of its own -/
abbrev sg (c : Nat) : D := dS [c]
abbrev S1 (c : Nat) : Str := S [c]
theorem abc_signs : (("abcdefghijklmnopqrstuvwxyz" : Str).cps.toList.map fun c => D.str ⟨#[c]⟩) = abc.map sg := by
  rw [abc_eq]
  rfl
theorem flat_one : ∀ ls : List Nat, (ls.map fun c => [c]).flatten = ls
  | [] => rfl
  | a :: r => by rw [List.map_cons, List.flatten_cons, flat_one r]; rfl
theorem erase_map {α β : Type} (f : α → β) : ∀ (l : List α) (i : Nat), (l.map f).eraseIdx i = (l.eraseIdx i).map f
  | [], _ => rfl
  | _ :: _, 0 => rfl
  | a :: l, i + 1 => by
    show f a :: (l.map f).eraseIdx i = f a :: (l.eraseIdx i).map f
    rw [erase_map f l i]
def T_law_letters : Tr := fun ss m Q => ∃ (g : Addr) (n : Nat), ss = [.adr g] ∧ GenI m g (n + 3) ∧ ∀ (l : List Nat) (m' : Sto), l.length = 3 → l.Nodup → (∀ c ∈ l, c ∈ abc) → GenI m' g n → Fr m m' g → Q (.val (dS l)) m'
def t_law_letters (K : PySem.W.Frag) : TS := (tSeq (tAsg (tCB (rDN K RLst) (tCons (tC (.str ("abcdefghijklmnopqrstuvwxyz" : Str))) tNil)) (gName 1)) (tRet (tM1 (rJoin K) (tC (.str ("" : Str))) (tLc (iRng1 (tCons (tC (.int 3)) tNil)) (gName 2) tYes (tBM K "list" rPopAt (tVar 1) (tCons (tCall (SpD K T_law_random) [] E0 (tCons (tVar 0) (tCons (tCB (rDN K RLen) (tCons (tVar 1) tNil)) tNil))) tNil)) [2]))))
theorem m_law_letters {K : PySem.W.Frag} : Ok K ["generator", "left", "turn"] T_law_letters (t_law_letters K) := by
  rintro ss m Q ⟨g, n, rfl, hg, q⟩
  have bm : ∀ x : Int, x ≤ 10 ^ 30 → x < bMax := fun x h => Int.lt_of_le_of_lt h (by decide +kernel)
  unfold t_law_letters
  refine ws_seq (ws_asg (we_cbO ?_))
  repeat walk_at "w"
  refine ⟨[.str "abcdefghijklmnopqrstuvwxyz"], abc.map sg, rfl, ?_, fun p hp => ?_⟩
  · have := RLst.str (z := ("abcdefghijklmnopqrstuvwxyz" : Str)) (by rw [abc_eq, S_len]; decide)
    rw [abc_signs] at this
    exact this
  have gp := hg.ne hp
  refine ws_retD (p := p) (dom_none.mpr hp) (we_join (we_str ⟨_, rfl, ?_⟩))
  refine we_free (we_lcO (js := [2]) (by decide) (wi_rng1 (wa_cons (we_int (wa_nil ⟨3, rfl, by decide, by decide, by decide, fun pc hpc => ?_⟩)))))
  have gpc : g ≠ pc := fun e => by
    obtain ⟨ds, z⟩ := (hg.other (ds := abc.map sg) gp).some
    rw [e, hpc] at z
    cases z
  have ppc : p ≠ pc := fun e => by
    rw [← e, stS_same] at hpc
    cases hpc
  refine ⟨fun i acc m' => ∃ (ls rem : List Nat), acc = ls.map sg ∧ ls.length = i ∧ i ≤ 3 ∧ (ls ++ rem).Perm abc ∧ m' p = some (rem.map sg) ∧ GenI m' g (n + (3 - i)) ∧ ∀ x, x ≠ g → x ≠ p → x ≠ pc → m' x = m x, ⟨[], abc, rfl, rfl, by decide, List.Perm.refl _, by rw [stS_ne ppc]; exact stS_same, (hg.other gp).other gpc, fun x h1 h2 h3 => by rw [stS_ne h3, stS_ne h2]⟩, ?_, ?_⟩
  · rintro i d acc m' hd _ hm ⟨ls, rem, rfl, hl, hi3, hperm, hmp, hG, hF⟩
    have hi : i < 3 := by
      have := (List.getElem?_eq_some_iff.mp hd).1
      rw [rng_len] at this
      exact this
    have hlen : ls.length + rem.length = 26 := by
      have := hperm.length_eq
      rw [List.length_append] at this
      exact this
    refine wg_name (wt_yes ?_)
    rw [if_pos rfl]
    refine we_popAt (we_var (by rfl) ⟨p, _, rfl, hmp, ?_⟩)
    repeat walk_at "w"
    refine ⟨[.lst (rem.map sg)], _, by show [vw m' (.adr p)] = [some _]; rw [vw_adr hmp], .lst _, ?_⟩
    walk_at "w"
    have hrl : ((rem.map sg).length : Int) = 26 - (i : Int) := by rw [List.length_map]; omega
    refine ⟨g, _, n + (3 - (i + 1)), rfl, hG.mono (by omega), by show (0 : Int) < ((rem.map sg).length : Int); omega, bm _ (by omega), fun v m3 v0 v1 hG3 hF3 => ?_⟩
    obtain ⟨j, rfl⟩ := Int.eq_ofNat_of_zero_le v0
    have hj : j < rem.length := by rw [List.length_map] at v1; omega
    refine ⟨(j : Int), j, rem.map sg, sg rem[j], rfl, by rw [hF3 p gp.symm]; exact hmp, by rw [List.length_map]; omega, Evl.ixN_nat (by rw [List.length_map]; exact hj), by rw [List.getElem?_map, List.getElem?_eq_getElem hj]; rfl, ?_⟩
    have hpc3 : m3 pc = some (ls.map sg) := by rw [hF3 pc gpc.symm]; exact hm
    refine ⟨sg rem[j], rfl, by rw [stS_ne ppc.symm]; exact hpc3, ls ++ [rem[j]], rem.eraseIdx j, by rw [List.map_append]; rfl, by rw [List.length_append, hl]; rfl, by omega, ?_, ?_, ?_, ?_⟩
    · refine List.Perm.trans ?_ hperm
      rw [List.append_assoc]
      refine List.Perm.append_left _ ?_
      have e : rem = rem.take j ++ rem[j] :: rem.drop (j + 1) := by rw [List.getElem_cons_drop, List.take_append_drop]
      rw [List.eraseIdx_eq_take_drop_succ]
      refine List.Perm.trans ?_ (List.Perm.of_eq e.symm)
      exact (show (rem[j] :: (rem.take j ++ rem.drop (j + 1))).Perm _ from List.perm_middle.symm)
    · rw [stS_ne ppc, erase_map]
      exact stS_same
    · exact (hG3.other gp).other gpc
    · intro x h1 h2 h3
      rw [stS_ne h3, stS_ne h2, hF3 x h1]
      exact hF x h1 h2 h3
  · rintro acc m' hm ⟨ls, rem, rfl, hl, hi3, hperm, hmp, hG, hF⟩
    rw [rng_len] at hl hG
    have hl3 : ls.length = 3 := hl
    have nd : (ls ++ rem).Nodup := hperm.nodup_iff.mpr (by decide)
    have hne : ∀ c ∈ ls, c ∈ abc := fun c hc => hperm.mem_iff.mp (List.mem_append_left _ hc)
    refine ⟨pc, _, rfl, hpc, hm, false, ls.map S1, by show some (D.lst (ls.map sg)) = some (.lst ((ls.map S1).map .str)); rw [List.map_map]; rfl, ?_, D.str _, rem.map sg, rfl, ?_, ?_⟩
    · have : ((ls.map S1).map (·.length)).sum = ls.length := by
        clear hl hl3 nd hne hperm hm
        induction ls with
        | nil => rfl
        | cons a r ih => rw [List.map_cons, List.map_cons, List.sum_cons, ih, List.length_cons, S_len]; simp; omega
      rw [this, List.length_map, hl3]
      decide
    · unfold stD
      rw [if_neg ppc]
      exact hmp
    · have ej : Txt.join ("" : Str) (ls.map S1) = S ls := by
        have := join_S (ls.map fun c => [c])
        rw [List.map_map] at this
        have e2 : (ls.map fun c => [c]).flatten = ls := flat_one ls
        rw [e2] at this
        exact this
      rw [ej]
      refine q ls _ hl3 (List.Nodup.sublist (List.sublist_append_left _ _) nd) hne ?_ ?_
      · have := (hG.del gpc).del gp
        exact this
      · intro x hx
        unfold stD
        by_cases h1 : x = p
        · rw [if_pos h1, h1]; exact hp.symm
        · rw [if_neg h1]
          by_cases h2 : x = pc
          · rw [if_pos h2, h2]
            rw [stS_ne ppc.symm] at hpc
            exact hpc.symm
          · rw [if_neg h2]
            exact hF x hx h1 h2
end Cr

/-! CrV: words drawn; pieces. -/
namespace Cr
open PySem PySem.Spec PyProof.Rows L2
local macro_rules | `(tactic| walk_at "w") => `(tactic| first
  | with_reducible refine ws_seq ?_ | with_reducible refine ws_asg ?_ | with_reducible refine ws_ret ?_ | with_reducible refine ws_retN ?_ | with_reducible refine ws_drop ?_ | with_reducible refine ws_if ?_
  | with_reducible refine ws_next ?_ | with_reducible refine ws_par ?_ | with_reducible refine ws_par3 ?_
  | with_reducible refine we_int ?_ | with_reducible refine we_str ?_ | with_reducible refine we_bl ?_ | with_reducible refine we_non ?_ | with_reducible refine we_op ?_ | with_reducible refine we_un ?_
  | with_reducible refine we_cb ?_ | with_reducible refine we_if ?_ | with_reducible refine we_tup ?_ | with_reducible refine we_call ?_ | with_reducible refine wa_cons ?_ | with_reducible refine wa_nil ?_
  | with_reducible refine wt_val ?_ | with_reducible refine wt_test ?_ | with_reducible refine wt_and ?_ | with_reducible refine wt_or ?_ | with_reducible refine wt_not ?_ | with_reducible refine wt_yes ?_
  | with_reducible refine we_andV ?_ | with_reducible refine we_orV ?_ | with_reducible refine we_notV ?_ | with_reducible refine we_chain ?_ | with_reducible refine we_slice ?_ | with_reducible refine wo_none ?_ | with_reducible refine wo_some ?_
  | with_reducible refine we_bits ?_ | refine we_var (by rfl) ?_)
local macro_rules | `(tactic| walk_at "i2") => `(tactic| refine ⟨_, _, _, rfl, rfl, .int _ _, ?_⟩)
local macro_rules | `(tactic| walk_at "in") => `(tactic| refine ⟨_, _, rfl, .int _, ?_⟩)
/-! ### a word drawn -/
def T_law_word : Tr := fun ss m Q => ∃ (g : Addr) (sgn : List Nat) (lo hi n : Nat), ss = [.adr g, .val (dS sgn), .val (.int lo), .val (.int hi)] ∧ sgn ≠ [] ∧ sgn.length ≤ 1000 ∧ lo ≤ hi ∧ hi ≤ 1000 ∧ GenI m g (n + (1 + hi)) ∧
  ∀ (w : List Nat) (m' : Sto), lo ≤ w.length → w.length ≤ hi → (∀ c ∈ w, c ∈ sgn) → GenI m' g n → Fr m m' g → Q (.val (dS w)) m'
def t_law_word (K : PySem.W.Frag) : TS := (tSeq (tAsg (tOp (rD2 K RAdd) (tVar 2) (tCall (SpD K T_law_random) [] E0 (tCons (tVar 0) (tCons (tOp (rD2 K RAdd) (tOp (rD2 K RSub) (tVar 3) (tVar 2)) (tC (.int 1))) tNil)))) (gName 4)) (tRet (tM1 (rJoin K) (tC (.str ("" : Str))) (tLc (iRng1 (tCons (tVar 4) tNil)) (gName 5) tYes (tOp (rD2 K RIx) (tVar 1) (tCall (SpD K T_law_random) [] E0 (tCons (tVar 0) (tCons (tCB (rDN K RLen) (tCons (tVar 1) tNil)) tNil)))) [5]))))
theorem len_S1 (ls : List Nat) : ((ls.map S1).map (·.length)).sum = ls.length := by
  induction ls with
  | nil => rfl
  | cons a r ih => rw [List.map_cons, List.map_cons, List.sum_cons, ih, List.length_cons, S_len]; simp; omega
theorem join_S1 (ls : List Nat) : Txt.join ("" : Str) (ls.map S1) = S ls := by
  have := join_S (ls.map fun c => [c])
  rw [List.map_map, flat_one] at this
  exact this
theorem atI_natV {α : Type} {xs : List α} {i : Nat} (h : i < xs.length) : atI xs (i : Int) = some xs[i] := by
  unfold atI ixN
  rw [if_pos (by omega), if_pos (by omega)]
  simp [h]
theorem m_law_word {K : PySem.W.Frag} : Ok K ["generator", "signs", "least", "most", "many", "turn"] T_law_word (t_law_word K) := by
  rintro ss m Q ⟨g, sgn, lo, hi, n, rfl, hne, hsl, hlh, hh, hg, q⟩
  have bm : ∀ x : Int, x ≤ 10 ^ 30 → x < bMax := fun x h => Int.lt_of_le_of_lt h (by decide +kernel)
  have hs0 : 0 < sgn.length := by
    cases sgn with
    | nil => exact absurd rfl hne
    | cons a b => simp
  unfold t_law_word
  repeat walk_at "w"
  walk_at "i2"
  repeat walk_at "w"
  walk_at "i2"
  walk_at "w"
  refine ⟨g, _, n + hi, rfl, hg.mono (by omega), by omega, bm _ (by omega), fun v m1 v0 v1 hG hF => ?_⟩
  walk_at "i2"
  obtain ⟨k, hk⟩ := Int.eq_ofNat_of_zero_le v0
  subst hk
  refine ws_ret (we_join (we_str ⟨_, rfl, ?_⟩))
  refine we_drawn (ge := g) (js := [5]) 1 n (fun i acc => ∃ ls : List Nat, acc = ls.map sg ∧ ls.length = i ∧ ∀ c ∈ ls, c ∈ sgn) (by decide) (wi_rng1 ?_)
  walk_at "w"
  walk_at "w"
  walk_at "w"
  have e1 : ((lo : Int) + (k : Int)).toNat = lo + k := by omega
  have hkh : lo + k ≤ hi := by omega
  refine ⟨_, rfl, by omega, by omega, rfl, by rw [rng_len]; omega, by rw [rng_len, e1, Nat.one_mul]; exact hG.mono (by omega), ⟨[], rfl, rfl, by simp⟩, ?_, ?_⟩
  · rintro i d acc m' hd ⟨ls, rfl, hl, hls⟩ hG2
    have hi2 := (List.getElem?_eq_some_iff.mp hd).1
    rw [rng_len] at hi2 hG2 ⊢
    refine wg_name ?_
    repeat walk_at "w"
    refine ⟨_, _, rfl, rlen_S (by show _ ≤ 100000; omega), ?_⟩
    walk_at "w"
    refine ⟨g, _, n + 1 * (((lo : Int) + (k : Int)).toNat - i - 1), rfl, hG2.mono (by omega), by show (0 : Int) < (sgn.length : Int); omega, bm _ (by show (sgn.length : Int) ≤ 10 ^ 30; omega), fun v m3 v0 v1 hG3 hF3 => ?_⟩
    obtain ⟨j, rfl⟩ := Int.eq_ofNat_of_zero_le v0
    have hj : j < sgn.length := by
      have : (j : Int) < (sgn.length : Int) := v1
      omega
    refine ⟨_, _, _, rfl, rfl, rix_S (by show _ ≤ 100000; omega) (atI_natV hj), ?_⟩
    refine ⟨sg sgn[j], rfl, ⟨ls ++ [sgn[j]], by rw [List.map_append]; rfl, by rw [List.length_append, hl]; rfl, fun c hc => ?_⟩, hG3, hF3⟩
    rcases List.mem_append.mp hc with h | h
    · exact hls c h
    · rw [List.mem_singleton.mp h]; exact List.getElem_mem hj
  · rintro acc m' ⟨ls, rfl, hl, hls⟩ hG2 hF2
    rw [rng_len, e1] at hl
    refine ⟨false, ls.map S1, by show some (D.lst (ls.map sg)) = some (.lst ((ls.map S1).map .str)); rw [List.map_map]; rfl, ?_, ?_⟩
    · rw [len_S1, List.length_map]
      show ls.length + ls.length * 0 ≤ 16777216
      omega
    · rw [join_S1]
      exact q ls m' (by omega) (by omega) hls hG2 (hF.trans hF2)
/-! ### letters, pieces -/
def letD (d : D) (most : Int) : Bool := match d with
  | .str z => decide ((z.length : Int) ≤ most)
  | _ => false
def LetOk (d : D) : Prop := d.tn.isSome = true ∧ ∀ z, d = .str z → ∃ l, z = S l ∧ l.length ≤ szD ∧ ∀ c ∈ l, c ∈ abc
def T_is_letters : Tr := fun ss m Q => ∃ (d : D) (most : Int), ss = [.val d, .val (.int most)] ∧ LetOk d ∧ Q (.val (.bl (letD d most))) m
def t_is_letters (K : PySem.W.Frag) : TS := (tRet (tAndV (tCB (rDN K RIsi) (tCons (tVar 0) (tCons (tC (.ty "str")) tNil))) (tAndV (tOp (rD2 K RLe) (tCB (rDN K RLen) (tCons (tVar 0) tNil)) (tVar 1)) (tOp (rD2 K REqR) (tBM K "str" rStrip (tVar 0) (tCons (tC (.str ("abcdefghijklmnopqrstuvwxyz" : Str))) tNil)) (tC (.str ("" : Str)))))))
theorem m_is_letters {K : PySem.W.Frag} : Ok K ["value", "most"] T_is_letters (t_is_letters K) := by
  rintro ss m Q ⟨d, most, rfl, ⟨ht, hz⟩, q⟩
  unfold t_is_letters
  repeat walk_at "w"
  refine we_ty ?_
  repeat walk_at "w"
  refine ⟨[d, .ty "str"], _, rfl, isi_str ht, _, rfl, ite_b (fun h => ?_) (fun h => ?_)⟩
  · cases d with
    | str z =>
      obtain ⟨l, rfl, hl, hab⟩ := hz z rfl
      repeat walk_at "w"
      refine ⟨_, _, rfl, rlen_S hl, ?_⟩
      repeat walk_at "w"
      walk_at "i2"
      have e : letD (dS l) most = decide ((l.length : Int) ≤ most) := by show decide (((S l).length : Int) ≤ most) = _; rw [S_len]
      rw [e] at q
      refine ⟨_, rfl, ite_dec (fun h => ?_) (fun h => ?_)⟩
      · refine we_op (we_s1 (we_var (by rfl) ⟨_, rfl, we_str ⟨_, rfl, by rw [S_len]; exact szD_line hl, ?_⟩⟩))
        rw [abc_eq, strip_S hab]
        refine we_str ⟨_, _, _, rfl, rfl, .mk (req_S [] []), ?_⟩
        rw [decide_eq_true h] at q
        exact q
      · rw [decide_eq_false h] at q
        exact q
    | _ => cases h
  · have e : letD d most = false := by cases d <;> first | rfl | cases h
    rw [e] at q
    exact q
theorem letOk_S {l : List Nat} (h : l.length ≤ szD) (ha : ∀ c ∈ l, c ∈ abc) : LetOk (dS l) := ⟨rfl, fun z e => by
  cases e
  exact ⟨l, rfl, h, ha⟩⟩
theorem letD_S (l : List Nat) (most : Int) : letD (dS l) most = decide ((l.length : Int) ≤ most) := by show decide (((S l).length : Int) ≤ most) = _; rw [S_len]
def pieceD (k : Int) : D → Bool
  | .tup [a, b] => letD a 2000 && formD k b
  | _ => false
def PcOk (d : D) : Prop := d.tn.isSome = true ∧ (∀ ds, d = .tup ds → ds.length ≤ szD) ∧ ∀ a b, d = .tup [a, b] → LetOk a ∧ PlainV b
def T_is_piece : Tr := fun ss m Q => ∃ (k : Int) (d : D), ss = [.val (.int k), .val d] ∧ PcOk d ∧ Q (.val (.bl (pieceD k d))) m
def t_is_piece (K : PySem.W.Frag) : TS := (tSeq (tIfS (tOr (tNot (tB (tCB (rDN K RIsi) (tCons (tVar 1) (tCons (tC (.ty "tuple")) tNil))))) (tTest (tOp (rD2 K RNeR) (tCB (rDN K RLen) (tCons (tVar 1) tNil)) (tC (.int 2))))) (tRet (tC (.bl false))) tNext) (tRet (tAndV (tCall (SpD K T_is_letters) [] E0 (tCons (tOp (rD2 K RIx) (tVar 1) (tC (.int 0))) (tCons (tC (.int 2000)) tNil))) (tCall (SpD K T_is_form_for) [] E0 (tCons (tVar 0) (tCons (tOp (rD2 K RIx) (tVar 1) (tC (.int 1))) tNil))))))
theorem m_is_piece {K : PySem.W.Frag} : Ok K ["many", "value"] T_is_piece (t_is_piece K) := by
  rintro ss m Q ⟨k, d, rfl, ⟨ht, hl, hp⟩, q⟩
  unfold t_is_piece
  repeat walk_at "w"
  refine we_ty ?_
  repeat walk_at "w"
  refine ⟨[d, .ty "tuple"], _, rfl, isi_tup ht, _, rfl, ?_⟩
  refine ite_b (fun h => ?_) (fun h => ?_)
  · have e : isTup d = false := by simpa using h
    rw [if_pos rfl]
    repeat walk_at "w"
    have e2 : pieceD k d = false := by cases d <;> first | rfl | cases e
    rw [e2] at q
    exact q
  · have e : isTup d = true := by simpa using h
    cases d with
    | tup ds =>
      repeat walk_at "w"
      refine ⟨_, _, rfl, .tup _, ?_⟩
      repeat walk_at "w"
      refine ⟨_, _, _, rfl, rfl, .mk (.int _ _), _, rfl, ?_⟩
      match ds, hp, q with
      | [a, b], hp, q =>
        obtain ⟨ha, hb⟩ := hp a b rfl
        rw [show (!decide ((([a, b] : List D).length : Int) = 2)) = false from rfl, if_neg Bool.false_ne_true]
        repeat walk_at "w"
        refine ⟨_, _, _, rfl, rfl, .tup (d := a) rfl, ?_⟩
        repeat walk_at "w"
        refine ⟨a, 2000, rfl, ha, _, rfl, ite_b (fun h => ?_) (fun h => ?_)⟩
        · repeat walk_at "w"
          refine ⟨_, _, _, rfl, rfl, .tup (d := b) rfl, ?_⟩
          walk_at "w"
          refine ⟨k, b, rfl, hb, ?_⟩
          have e3 : pieceD k (.tup [a, b]) = formD k b := by show (letD a 2000 && formD k b) = _; rw [h]; rfl
          rw [e3] at q
          exact q
        · have e3 : pieceD k (.tup [a, b]) = false := by show (letD a 2000 && formD k b) = _; rw [h]; rfl
          rw [e3] at q
          exact q
      | [], hp, q =>
        rw [show (!decide ((([] : List D).length : Int) = 2)) = true from rfl, if_pos rfl]
        repeat walk_at "w"
        exact q
      | [a], hp, q =>
        rw [show (!decide ((([a] : List D).length : Int) = 2)) = true from rfl, if_pos rfl]
        repeat walk_at "w"
        exact q
      | a :: b :: c :: r, hp, q =>
        rw [show (!decide (((a :: b :: c :: r : List D).length : Int) = 2)) = true by rw [decide_eq_false (by simp only [List.length_cons]; omega)]; rfl, if_pos rfl]
        repeat walk_at "w"
        exact q
    | _ => cases e
abbrev Pc := List Nat × List Int
def pD (p : Pc) : D := .tup [dS p.1, tI p.2]
abbrev psD (ps : List Pc) : D := .lst (ps.map pD)
def openB (f : List Int) : Bool := decide (0 < f.tail.sum)
def T_is_open_form : Tr := fun ss m Q => ∃ f : List Int, ss = [.val (tI f)] ∧ Q (.val (.bl (openB f))) m
def t_is_open_form (K : PySem.W.Frag) : TS := (tRet (tOp (rD2 K RGt) (tCB (rDN K RSum) (tCons (tSl (rSlD K) (tVar 0) (tPart (tC (.int 1))) tNoPart) tNil)) (tC (.int 0))))
theorem m_is_open_form {K : PySem.W.Frag} : Ok K ["form"] T_is_open_form (t_is_open_form K) := by
  rintro ss m Q ⟨f, rfl, q⟩
  unfold t_is_open_form
  repeat walk_at "w"
  refine ⟨1, rfl, ?_⟩
  walk_at "w"
  refine ⟨_, _, rfl, .tup _ _ _, ?_⟩
  repeat walk_at "w"
  refine ⟨[.tup (f.tail.map .int)], _, by rw [cut_tail, List.map_tail]; rfl, .tup _, ?_⟩
  repeat walk_at "w"
  walk_at "i2"
  exact q
end Cr

/-! CrW: measures and checks of pieces. -/
namespace Cr
open PySem PySem.Spec PyProof.Rows L2
local macro_rules | `(tactic| walk_at "w") => `(tactic| first
  | with_reducible refine ws_seq ?_ | with_reducible refine ws_asg ?_ | with_reducible refine ws_ret ?_ | with_reducible refine ws_retN ?_ | with_reducible refine ws_drop ?_ | with_reducible refine ws_if ?_
  | with_reducible refine ws_next ?_ | with_reducible refine ws_par ?_ | with_reducible refine ws_par3 ?_
  | with_reducible refine we_int ?_ | with_reducible refine we_str ?_ | with_reducible refine we_bl ?_ | with_reducible refine we_non ?_ | with_reducible refine we_op ?_ | with_reducible refine we_un ?_
  | with_reducible refine we_cb ?_ | with_reducible refine we_if ?_ | with_reducible refine we_tup ?_ | with_reducible refine we_call ?_ | with_reducible refine wa_cons ?_ | with_reducible refine wa_nil ?_
  | with_reducible refine wt_val ?_ | with_reducible refine wt_test ?_ | with_reducible refine wt_and ?_ | with_reducible refine wt_or ?_ | with_reducible refine wt_not ?_ | with_reducible refine wt_yes ?_
  | with_reducible refine we_andV ?_ | with_reducible refine we_orV ?_ | with_reducible refine we_notV ?_ | with_reducible refine we_chain ?_ | with_reducible refine we_slice ?_ | with_reducible refine wo_none ?_ | with_reducible refine wo_some ?_
  | with_reducible refine we_bits ?_ | refine we_var (by rfl) ?_)
local macro_rules | `(tactic| walk_at "i2") => `(tactic| refine ⟨_, _, _, rfl, rfl, .int _ _, ?_⟩)
local macro_rules | `(tactic| walk_at "in") => `(tactic| refine ⟨_, _, rfl, .int _, ?_⟩)
theorem atI_nat0 {α : Type} {xs : List α} {x : α} (h : xs[0]? = some x) : atI xs (0 : Int) = some x := by
  cases xs with
  | nil => cases h
  | cons a r =>
    unfold atI ixN
    rw [if_pos (by decide), if_pos (by simp only [List.length_cons]; omega)]
    exact h
open Classical in
theorem we_mapP {K : PySem.W.Frag} {r : Ro} {m : Sto} {a b : Nat} {wi : TI} {te : TE} {Q : Sv → Sto → Prop} (ps : List Pc) (g : Pc → D) (hl : ps.length ≤ 100000)
    (ha : WI K r m wi fun ds m1 => ds = ps.map pD ∧ m1 = m)
    (ht : ∀ p ∈ ps, ∀ m', WE K (((wipeR r [a, b]).set a (some (.val (dS p.1)))).set b (some (.val (tI p.2)))) m' te fun s m3 => s = .val (g p) ∧ m3 = m')
    (q : Q (.val (.lst (ps.map g))) m) : WE K r m (tLc wi (gTup K 2 (gCons (gName a) (gCons (gName b) gNil))) tYes te [a, b]) Q := by
  have inj : ∀ {p p' : Pc}, pD p = pD p' → p = p' := fun {p p'} h => by
    injection h with h
    injection h with h1 h2
    injection h2 with h2 _
    injection h1 with h1
    injection h2 with h2
    exact Prod.ext (S_inj h1) (map_int_inj h2)
  let v : D → D := fun d => if h : ∃ p, pD p = d then g h.choose else .non
  have hv : ∀ p, v (pD p) = g p := fun p => by
    have h : ∃ p', pD p' = pD p := ⟨p, rfl⟩
    show (if h : ∃ p', pD p' = pD p then g h.choose else .non) = _
    rw [dif_pos h, inj h.choose_spec]
  refine we_lc (js := [a] ++ ([b] ++ [])) (by simp) fun σ H R e so k => ha σ H R e so fun J H' ds m' x so' io ⟨e1, e2⟩ => k J H' ds m' x so' io ⟨by rw [e1, List.length_map]; exact hl, e2, fun _ => true, v, fun d hd m' => ?_, ?_⟩
  · rw [e1] at hd
    obtain ⟨p, hp, rfl⟩ := List.mem_map.mp hd
    exact wg_tup rfl (wgs_cons (wg_name (wgs_cons (wg_name (wgs_nil (wt_yes ⟨rfl, rfl, fun _ => by rw [hv]; exact ht p hp m'⟩))))))
  · rw [e1, List.filter_eq_self.mpr (fun _ _ => rfl), List.map_map]
    have : v ∘ pD = g := funext hv
    rw [this]
    exact q
/-! ### measures -/
def measP (p : Pc) : Int := (p.1.length : Int) * (p.2.headD 0 + (if openB p.2 = true then 1 else 0))
def measI (ps : List Pc) : Int := (ps.map measP).sum
/-- the letters, the numbers of a piece are such that all is reckoned -/
def PcS (p : Pc) : Prop := p.1.length ≤ 100000 ∧ p.2 ≠ [] ∧ bSz p.2 ∧ p.2.length ≤ 1000
def T_measure : Tr := fun ss m Q => ∃ ps : List Pc, ss = [.val (psD ps)] ∧ ps.length ≤ 100000 ∧ (∀ p ∈ ps, PcS p) ∧ Q (.val (.int (measI ps))) m
def t_measure (K : PySem.W.Frag) : TS := (tRet (tCB (rDN K RSum) (tCons (tLc (iD K (tVar 0)) (gTup K 2 (gCons (gName 1) (gCons (gName 2) gNil))) tYes (tOp (rD2 K RMul) (tCB (rDN K RLen) (tCons (tVar 1) tNil)) (tOp (rD2 K RAdd) (tOp (rD2 K RIx) (tVar 2) (tC (.int 0))) (tCB (rDN K RInt) (tCons (tCall (SpD K T_is_open_form) [] E0 (tCons (tVar 2) tNil)) tNil)))) [1, 2]) tNil)))
theorem m_measure {K : PySem.W.Frag} : Ok K ["pieces", "word", "form"] T_measure (t_measure K) := by
  rintro ss m Q ⟨ps, rfl, hl, hps, q⟩
  unfold t_measure
  repeat walk_at "w"
  refine we_mapP ps (fun p => .int (measP p)) hl (wi_D ?_) (fun p hp m' => ?_) ?_
  · repeat walk_at "w"
    exact ⟨false, _, rfl, rfl, rfl⟩
  · obtain ⟨h1, h2, h3, h4⟩ := hps p hp
    obtain ⟨w, f⟩ := p
    cases f with
    | nil => exact absurd rfl h2
    | cons c cs =>
      have hc := h3 c List.mem_cons_self
      repeat walk_at "w"
      refine ⟨_, _, rfl, rlen_S h1, ?_⟩
      repeat walk_at "w"
      refine ⟨_, _, _, rfl, rfl, .tup (d := .int c) (atI_nat0 rfl), ?_⟩
      repeat walk_at "w"
      refine ⟨c :: cs, rfl, ?_⟩
      walk_at "w"
      refine ⟨_, _, rfl, .bl _, ?_⟩
      walk_at "i2"
      have hb : (c + (if openB (c :: cs) = true then 1 else 0)).natAbs ≤ 10 ^ 401 := by
        have h5 : (if openB (c :: cs) = true then (1 : Int) else 0).natAbs ≤ 1 := by split <;> decide
        have h6 : (c + (if openB (c :: cs) = true then 1 else 0)).natAbs ≤ c.natAbs + 1 := by omega
        exact Nat.le_trans h6 (Nat.le_trans (Nat.add_le_add_right hc 1) (by decide +kernel))
      refine ⟨_, _, _, rfl, rfl, .int (mulOk (B := 100000) (C := 10 ^ 401) (by simpa using h1) hb (by decide +kernel)), rfl, rfl⟩
  · repeat walk_at "w"
    refine ⟨[lI (ps.map measP)], _, ?_, .lst _, q⟩
    show [some (D.lst (ps.map fun p => .int (measP p)))] = [some (D.lst ((ps.map measP).map .int))]
    rw [List.map_map]
    rfl
/-! ### good pieces -/
structure Good (k : Nat) (p : Pc) : Prop where
  wd : Wd 2000 p.1
  fm : ∃ B : Int, Row (k + 1) B p.2 ∧ B ≤ 10 ^ 300
theorem Good.s {k : Nat} {p : Pc} (h : Good k p) (hk : k ≤ 3) : PcS p := by
  obtain ⟨B, hr, hB⟩ := h.fm
  refine ⟨by have := h.wd.1; omega, ?_, ?_, by rw [hr.1]; omega⟩
  · intro e
    have := hr.1
    rw [e] at this
    cases this
  · intro x hx
    have h1 := hr.2 x hx
    have h2 : x.natAbs ≤ 10 ^ 300 := by
      have h3 : (x.natAbs : Int) ≤ ((10 ^ 300 : Nat) : Int) := by
        rw [show (x.natAbs : Int) = x by omega]
        exact Int.le_trans h1.2 (Int.le_trans hB (by decide +kernel))
      exact Int.ofNat_le.mp h3
    exact Nat.le_trans h2 (Nat.pow_le_pow_right (by decide) (by decide))
theorem Good.pc {k : Nat} {p : Pc} (h : Good k p) (hk : k ≤ 3) : PcOk (pD p) ∧ pieceD k (pD p) = true := by
  obtain ⟨B, hr, hB⟩ := h.fm
  have hw := h.wd.1
  refine ⟨⟨rfl, fun ds e => by cases e; show (2 : Nat) ≤ 100000; decide, fun a b e => by
    cases e
    exact ⟨letOk_S (by show _ ≤ 100000; omega) h.wd.2, plainV_tI (by rw [hr.1]; omega)⟩⟩, ?_⟩
  show (letD (dS p.1) 2000 && formD k (tI p.2)) = true
  rw [letD_S, formD_tI hr, Bool.and_true]
  exact decide_eq_true (by omega)
def T_check_pieces : Tr := fun ss m Q => ∃ (k : Nat) (ps : List Pc), ss = [.val (.int k), .val (psD ps)] ∧ k ≤ 3 ∧ ps.length ≤ 5000 ∧ (∀ p ∈ ps, Good k p) ∧ measI ps ≤ 2000 ∧ Q (.val .non) m
def t_check_pieces (K : PySem.W.Frag) : TS := (tSeq (tDrop (tCall (SpD K T_check_many) [] E0 (tCons (tVar 0) tNil))) (tSeq (tIfS (tOr (tNot (tB (tCB (rDN K RIsi) (tCons (tVar 1) (tCons (tC (.ty "list")) tNil))))) (tTest (tOp (rD2 K RGt) (tCB (rDN K RLen) (tCons (tVar 1) tNil)) (tC (.int 5000))))) tNever tNext) (tSeq (tFor (iD K (tVar 1)) (gName 2) (tIfS (tNot (tB (tCall (SpD K T_is_piece) [] E0 (tCons (tVar 0) (tCons (tVar 2) tNil))))) tNever tNext)) (tIfS (tTest (tOp (rD2 K RGt) (tCall (SpD K T_measure) [] E0 (tCons (tVar 1) tNil)) (tC (.int 2000)))) tNever tNext))))
theorem wt_orF {K : PySem.W.Frag} {r : Ro} {m : Sto} {A B : TT} {Q : Bool → Sto → Prop} (hA : WT K r m A fun x m1 => x = false ∧ m1 = m) (hB : WT K r m B fun x m1 => x = false ∧ m1 = m) (q : Q false m) : WT K r m (tOr A B) Q :=
  wt_or (hA.imp fun x m1 ⟨h1, h2⟩ => by
    subst h1 h2
    exact hB.imp fun y m2 ⟨h3, h4⟩ => by subst h3 h4; exact q)
theorem if_no {A B : Prop} (h : B) : if false = true then A else B := by rw [if_neg (by decide)]; exact h
theorem m_check_pieces {K : PySem.W.Frag} : Ok K ["many", "pieces", "item"] T_check_pieces (t_check_pieces K) := by
  rintro ss m Q ⟨k, ps, rfl, hk, hl, hps, hm, q⟩
  unfold t_check_pieces
  repeat walk_at "w"
  refine ⟨k, rfl, by omega, by omega, ?_⟩
  refine ws_seq (ws_if (wt_orF ?_ ?_ (if_no ?_)))
  · repeat walk_at "w"
    refine we_ty ?_
    repeat walk_at "w"
    exact ⟨[psD ps, .ty "list"], _, rfl, isi_lst rfl, true, rfl, rfl, rfl⟩
  · repeat walk_at "w"
    refine ⟨_, _, rfl, .lst _, ?_⟩
    repeat walk_at "w"
    refine ⟨_, _, _, rfl, rfl, .int _ _, _, rfl, ?_, rfl⟩
    exact decide_eq_false (by rw [List.length_map]; omega)
  walk_at "w"
  refine ws_seq (ws_for [2] (wi_D ?_))
  repeat walk_at "w"
  refine ⟨false, ps.map pD, rfl, fun i r' m' => m' = m ∧ ∃ z, r' = [some (.val (.int k)), some (.val (psD ps)), z], ⟨rfl, _, rfl⟩, ?_, ?_⟩
  · rintro i d r' m' hd ⟨rfl, z, rfl⟩
    obtain ⟨p, hp, rfl⟩ := List.mem_map.mp (List.mem_of_getElem? hd)
    obtain ⟨h1, h2⟩ := (hps p hp).pc hk
    refine wg_name ?_
    repeat walk_at "w"
    refine ⟨k, pD p, rfl, h1, ?_⟩
    rw [h2]
    refine ⟨true, rfl, ?_⟩
    show if (!true) = true then _ else _
    rw [if_neg (by decide)]
    walk_at "w"
    exact ⟨rfl, _, rfl⟩
  · rintro r' m' ⟨rfl, z, rfl⟩
    repeat walk_at "w"
    refine ⟨ps, rfl, by omega, fun p hp => (hps p hp).s hk, ?_⟩
    repeat walk_at "w"
    refine ⟨_, _, _, rfl, rfl, .int _ _, _, rfl, ?_⟩
    rw [show decide ((2000 : Int) < measI ps) = false from decide_eq_false (by omega), if_neg Bool.false_ne_true]
    walk_at "w"
    exact q
def T_plain : Tr := fun ss m Q => ∃ (k : Nat) (c : Int), ss = [.val (.int k), .val (.int c)] ∧ k ≤ 3 ∧ Q (.val (tI (c :: List.replicate k 0))) m
def t_plain (K : PySem.W.Frag) : TS := (tRet (tOp (rD2 K RAdd) (tTup (tCons (tVar 1) tNil)) (tOp (rD2 K RMul) (tTup (tCons (tC (.int 0)) tNil)) (tVar 0))))
theorem m_plain {K : PySem.W.Frag} : Ok K ["many", "number"] T_plain (t_plain K) := by
  rintro ss m Q ⟨k, c, rfl, hk, q⟩
  unfold t_plain
  repeat walk_at "w"
  refine ⟨[.int c], rfl, by show (1 : Nat) ≤ 100000; decide, ?_⟩
  repeat walk_at "w"
  refine ⟨[.int 0], rfl, by decide, ?_⟩
  repeat walk_at "w"
  refine ⟨_, _, _, rfl, rfl, .tup (by omega) (by omega) (by decide), ?_⟩
  have e0 : ((k : Int)).toNat = k := by omega
  refine ⟨_, _, _, rfl, rfl, .tup ?_, ?_⟩
  · rw [e0, rep_ints]
    simp [szD]
    omega
  · rw [e0, rep_ints]
    exact q
end Cr

/-! CrX1: own errors whose __init__ says super().__init__(value); self.value = value. -/
namespace Cr
open PySem PySem.Spec PyProof.Rows L2
/-- the body of such an __init__ -/
def IsIni (b : List Stmt) : Prop := ∃ p0 p1 p2 p3 p4 p5 p6 p7 p8 p9 : Pos, b = [.Expr (.Call (.Attribute (.Call (.Name "super" p0) [] [] p1) "__init__" p2) [.Name "value" p3] [] p4) p5, .Assign [.Attribute (.Name "self" p6) "value" p7] (.Name "value" p8) p9] ∧ (p2.endLine == p4.line) = true
structure IniScope (qual : Str) (params : Arguments) (scope : Scope) : Prop where
  sup : scope.names.lookup ("super" : Str) = some .globalImplicit
  cls : scope.names.lookup ("__class__" : Str) = some .free
  self : scope.names.lookup ("self" : Str) = some .local
  value : scope.names.lookup ("value" : Str) = some .local
  kind : scope.kind = .function
  co : scope.isCoroutine = false
  gen : scope.isGenerator = false
  cell : ∀ x ∈ scope.names, x.2 ≠ .cell
  par : ∃ ar, (params.posonlyargs ++ params.args).head? = some ar ∧ ar.arg = "self"
  inter : ∀ (L f cc : Addr) (cd : Value), interactive (PySem.W.ksEnv qual scope L f cd cc) = false
  sw1 : ∀ (L f cc : Addr) (cd : Value) (p0 p1 p2 p3 p4 : Pos) (l : Nat), swapsWith (.Call (.Attribute (.Call (.Name "super" p0) [] [] p1) "__init__" p2) [.Name "value" p3] [] p4) none l (PySem.W.ksEnv qual scope L f cd cc) = pure false
  sw2 : ∀ (L f cc : Addr) (cd : Value) (p6 p7 p8 : Pos) (l : Nat), swapsWith (.Name "value" p8) (some (.Attribute (.Name "self" p6) "value" p7)) l (PySem.W.ksEnv qual scope L f cd cc) = pure false
  st : ∀ (L f cc : Addr) (cd : Value) (p3 : Pos), starEach [.Name "value" p3] (PySem.W.ksEnv qual scope L f cd cc) = (false, eval (.Name "value" p3) (PySem.W.ksEnv qual scope L f cd cc)) :: starEach [] (PySem.W.ksEnv qual scope L f cd cc)
theorem ini_ev (env : Env) (p0 p1 p2 p3 p4 : Pos) (h : (p2.endLine == p4.line) = true) :
    eval (.Call (.Attribute (.Call (.Name "super" p0) [] [] p1) "__init__" p2) [.Name "value" p3] [] p4) env = (do
      let ov ← attributeBase (.Call (.Name "super" p0) [] [] p1) "__init__" env (eval (.Call (.Name "super" p0) [] [] p1) env)
      standAt p2.atName
      let (f', first) ← holding [ov] (getMethod ov "__init__" (do return (← importBound (.Call (.Name "super" p0) [] [] p1) env).getD true))
      callWith p4 f' first (backTo p4 (starEach [.Name "value" p3] env)) []) := by
  have e : methodCallPos true (.Call (.Name "super" p0) [] [] p1) env p2 p4 = pure p4 := by
    unfold methodCallPos
    rw [h]
    rfl
  have e2 : ∀ ov, methodCall (.Call (.Name "super" p0) [] [] p1) "__init__" p2 p4 env ov 1 (backTo p4 (starEach [.Name "value" p3] env)) (backToKw p4 (keywordEach [] env)) = (do
      let (f', first) ← holding [ov] (getMethod ov "__init__" (do return (← importBound (.Call (.Name "super" p0) [] [] p1) env).getD true))
      callWith p4 f' first (backTo p4 (starEach [.Name "value" p3] env)) []) := fun ov => by
    unfold methodCall
    have e3 : methodCallForm 1 (backTo p4 (starEach [.Name "value" p3] env)) (backToKw p4 (keywordEach [] env)) = true := rfl
    rw [e3, e]
    rfl
  show (attributeBase _ _ _ _ >>= fun ov => standAt p2.atName >>= fun _ => methodCall (.Call (.Name "super" p0) [] [] p1) "__init__" p2 p4 env ov 1 (backTo p4 (starEach [.Name "value" p3] env)) (backToKw p4 (keywordEach [] env))) = _
  simp only [e2]
/-- what the written part tells of such a class -/
structure ErrC (prog : Program) (K : PySem.W.Frag) (C : Addr) : Prop where
  oex : OexC K C
  fn : ∃ (fI cda cc : Addr) (qual : Str) (params : Arguments) (body : List Stmt) (scope : Scope) (dV kV doc pm ct oc ccl cl : Value) (an od cdd cld : Option Addr) (osl ccs csl : Array (Option Value)) (vs : Array Value) (file : Str) (tf : Tok),
    PySem.W.findIn K (.ref C) "__init__" = some (some (.ref fI)) ∧ PySem.W.typeIn K (.ref fI) = some (.type "function") ∧
    K.lookup fI = some ⟨oc, od, .func (PySem.W.ksFn "__init__" qual params body scope dV kV doc pm an (.ref cda) ct cc), osl⟩ ∧ PySem.W.codeIn K (.ref cda) qual = true ∧
    K.lookup cda = some ⟨ccl, cdd, .fields vs, ccs⟩ ∧ vs[2]? = some (.str file tf) ∧ ((prog.main.file : Str) == file) = true ∧
    K.lookup cc = some ⟨cl, cld, .cell (some (.ref C)), csl⟩ ∧ IsIni body ∧ IniScope qual params scope ∧
    (∀ (s : Shared) (a b : Value), K.In s.heap → BindsTo s (PySem.W.ksFn "__init__" qual params body scope dV kV doc pm an (.ref cda) ct cc) ⟨[a, b], []⟩ [("self", a), ("value", b)])
  init : PySem.W.excInitIn K C He.veBase "ValueError.__new__" = true
  sup : PySem.W.ks_superIn K C C "__init__" = some (some (.builtin "ValueError.__init__"))
  sub : PySem.W.subIn K (.ref C) (.type "ValueError") = some true
  own : PySem.W.mroIn K C (.ref C) = some true
  noval : PySem.W.findIn K (.ref C) "value" = some none
  opq : PySem.W.nsIn K cStatics "thirdparty.any" = some none
  nosup : (prog.main.scope.names.lookup ("super" : Str)).isSome = false
open PySem.W in
theorem init_raw {prog : Program} {w : World} {A : Around} {K : PySem.W.Frag} {mg : Str → Option Value} {base : Heap} {C fI : Addr} {e t : Addr} {u : Value} {s : Shared} {R : Result → Shared → Prop}
    (T : ErrC prog K C) (hfI : PySem.W.findIn K (.ref C) "__init__" = some (some (.ref fI))) (MO : Mod K mg base) (hms : mg "super" = none) (keep : ∀ b o, base.get? b = some o → s.heap.get? b = some o) (hbs : base.objs.size ≤ s.heap.objs.size)
    (hroom : A.depth < recursionLimit) (he : s.heap.get? e = some (PySem.HandSPX.excO C t)) (hne : base.get? e = none)
    (h : ∀ (s' : Shared) (t' d : Addr), s'.os = s.os → s'.gens = s.gens → (∀ b o, b ≠ e → s.heap.get? b = some o → s'.heap.get? b = some o) →
      s'.heap.get? e = some { cls := .ref C, dict := some d, data := .fields #[.ref t', .none, .none, .none, .bool false, .none] } → s.heap.objs.size ≤ d → d ≠ e →
      s'.heap.Ns1 d (fun y => if y = ("value" : Str) then some u else none) → R (.ok (.ret .none)) s') :
    codeAny (model prog w) A (.call (.ref fI) ⟨[.ref e, u], []⟩) R s := by
  obtain ⟨fI', cda, cc, qual, params, body, scope, dV, kV, doc, pm, ct, oc, ccl, cl, an, od, cdd, cld, osl, ccs, csl, vs, file, tf, f1, f2, f3, f4, f5, f6, f7, f8, ⟨p0, p1, p2, p3, p4, p5, p6, p7, p8, p9, rfl, hln⟩, S, hb⟩ := T.fn
  have ef : fI' = fI := by
    rw [hfI] at f1
    injection f1 with f1
    injection f1 with f1
    injection f1 with f1
    exact f1.symm
  subst ef
  obtain ⟨ar, par1, par2⟩ := S.par
  have X : K.In s.heap := MO.kin.keeps keep
  obtain ⟨mb, hmb, hmb2⟩ := MO.blt
  refine ks_codeAny_call_defAt (fd := ksFn "__init__" qual params _ scope dV kV doc pm an (.ref cda) ct cc) (binds := [("self", .ref e), ("value", u)]) hroom (X _ _ f3) rfl (MO.nolimit.keeps keep) (codeRec_of X f4) rfl (hb s _ _ X) S.cell (fun x hx => ?_) (fun h₁ hns hk₁ => ?_) S.co S.gen S.kind
  · rcases List.mem_cons.mp hx with rfl | hx
    · exact S.self
    · rw [List.mem_singleton.mp hx]; exact S.value
  -- the frame
  have env_eq : callEnv (ksFn "__init__" qual params [.Expr (.Call (.Attribute (.Call (.Name "super" p0) [] [] p1) "__init__" p2) [.Name "value" p3] [] p4) p5, .Assign [.Attribute (.Name "self" p6) "value" p7] (.Name "value" p8) p9] scope dV kV doc pm an (.ref cda) ct cc) s.heap.objs.size fI' = ksEnv qual scope s.heap.objs.size fI' (.ref cda) cc := rfl
  rw [env_eq]
  have keep1 : ∀ b o, base.get? b = some o → h₁.get? b = some o := fun b o q => hk₁ b o (keep b o q)
  have neL : e ≠ s.heap.objs.size := Nat.ne_of_lt (Heap.lt_size he)
  generalize hmm : (fun x => List.lookup x ([("self", Value.ref e), ("value", u)] : List (Str × Value)).reverse) = m at hns
  have vself : m "self" = some (.ref e) := by rw [← hmm]; rfl
  have vvalue : m "value" = some u := by rw [← hmm]; rfl
  -- the ground: all but the new object
  have gk : ∀ b o, b ≠ e → s.heap.get? b = some o → (hideAll s.heap [e]).get? b = some o := fun b o hb q => hideAll_get _ q (by simpa using hb)
  have go : ∀ b o, (hideAll s.heap [e]).get? b = some o → s.heap.get? b = some o := fun b o q => of_hideAll _ q
  have gn : (hideAll s.heap [e]).get? e = none := hideAll_none _ (by simp)
  have bg : ∀ b o, base.get? b = some o → (hideAll s.heap [e]).get? b = some o := fun b o q => gk b o (fun z => by rw [z, hne] at q; cases q) (keep b o q)
  have XG : K.In (hideAll s.heap [e]) := MO.kin.keeps bg
  have F1 : PyProof.Rows.Fr (hideAll s.heap [e]) s.heap.objs.size h₁ m := ⟨hns, fun b o q => hk₁ b o (go b o q), Nat.le_of_eq (hideAll_size _ _)⟩
  have N1 : News (hideAll s.heap [e]) s.heap.objs.size h₁ [(e, excObj C t none .none)] := fun p hp => by
    rw [List.mem_singleton.mp hp]
    exact ⟨hk₁ _ _ he, neL, gn⟩
  have I1 : InstAt h₁ e (excObj C t none .none) C none := ⟨hk₁ _ _ he, rfl, rfl, trivial⟩
  have X1 : K.In h₁ := MO.kin.keeps keep1
  obtain ⟨nm, q, N, bs, bm, sn, sub, ab, col, dd, k0, k1, k2, k3, k5, hC, hbm⟩ := T.oex.cls
  have hD1 := X1 _ _ hC
  have hcl : clsIn K C = some { name := nm, bases := bs, mro := .ref C :: bm, ns := N, qualname := q, hasDict := true, slotNames := sn, subclasses := sub, abstract := ab, collection := col, hasDel := false } := by unfold clsIn; rw [hC] <;> rfl
  refine ks_wpAt_execs_cons (ks_wpAt_Expr_any (ks_wpAt_MethodCall ?_ (ini_ev _ p0 p1 p2 p3 p4 hln)) (S.inter _ _ _ _) (S.sw1 _ _ _ _ _ _ _ _ _ _))
  -- super()
  refine ks_wpAt_super_base (env := ksEnv qual scope s.heap.objs.size fI' (.ref cda) cc) S.sup S.cls (by decide) rfl (X1 _ _ f3) rfl par1 rfl (X1 _ _ f5) rfl f6 f7 T.nosup ?_
  refine ks_loadName_global S.kind S.sup (Calls.loadGlobal_builtin (env := ksEnv qual scope s.heap.objs.size fI' (.ref cda) cc) (MO.glob.keeps keep1) hms (hmb.keeps keep1) ((hmb2 _ (by decide +kernel)).trans (by first | rfl | kernel_rfl)) ⟨rfl, ?_⟩)
  refine wpAny_loadName_free S.kind S.cls rfl ⟨_, X1 _ _ f8, rfl⟩ ?_
  rw [par2]
  refine wpAny_loadName_local S.kind S.self F1.ns vself ?_
  refine ks_wpAny_isType_cls hD1 rfl ⟨rfl, ?_⟩
  refine ks_wpAny_call_super hD1 rfl I1.at_ I1.cls (fun c z => by cases z) (looks_mroIn X1 T.own) (fun h2 e2 k2 => ?_)
  obtain ⟨F2, N2, l2⟩ := ks_newsPush (s := ⟨h₁, s.gens, s.drawn, s.toks + 2, s.os⟩) F1 N1 rfl e2 k2
  have neS : h₁.objs.size ≠ e := fun z => absurd (l2 (e, excObj C t none .none) List.mem_cons_self) (by rw [z]; exact Nat.lt_irrefl _)
  have I2 : InstAt h2 e (excObj C t none .none) C none := ⟨k2 _ _ I1.at_, rfl, rfl, trivial⟩
  refine kxs_method kxs_ValueError F2 XG N2 (so := h₁.objs.size) List.mem_cons_self I2 T.opq T.sup T.sub (by decide) (fun q3 h3 F3 N3 l3 => ?_)
  have ne3 : q3 ≠ e := fun z => absurd (l3 (e, excObj C t none .none) (List.mem_cons_of_mem _ List.mem_cons_self)) (by rw [z]; exact Nat.lt_irrefl _)
  refine kxs_callWith1 N3 List.mem_cons_self ?_ (S.st _ _ _ _ _) (by rfl)
  rw [S.st]
  show wpAny _ _ (spliced ((false, eval (.Name "value" p3) (ksEnv qual scope s.heap.objs.size fI' (.ref cda) cc)) :: backTo p4 (starEach [] (ksEnv qual scope s.heap.objs.size fI' (.ref cda) cc)))) _ _ _
  have lv : ∀ {hh : Heap} {t2 : Nat} {Q : Value → Shared → Prop} {E : Value → Shared → Prop}, hh.Ns s.heap.objs.size m → Q u ⟨hh, s.gens, s.drawn, t2, s.os⟩ →
      wpAny (model prog w) (A.deeper (ksEnv qual scope s.heap.objs.size fI' (.ref cda) cc)) (eval (.Name "value" p3) (ksEnv qual scope s.heap.objs.size fI' (.ref cda) cc)) Q E ⟨hh, s.gens, s.drawn, t2, s.os⟩ := fun hn q =>
    PySem.ESX.ldL hn vvalue q S.kind S.value
  refine Calls.spliced_cons (lv F3.ns (Calls.spliced_nil ⟨kxs_at N3 List.mem_cons_self, ?_⟩))
  have U : UpdF e (excObj C t none .none) [(q3, kxs_mw "ValueError.__init__" e), (h₁.objs.size, ks_superObj C e C), (e, excObj C t none .none)] (fun o' => (q3, kxs_mw "ValueError.__init__" e) :: (h₁.objs.size, ks_superObj C e C) :: [(e, o')]) :=
    .tail ne3 (.tail neS (.head (fun p hp => by cases hp)))
  refine kxs_call F3 XG N3 F.excBase_ValueError T.init List.mem_cons_self U (by show 1 ≤ sizeLine; rw [sizeLine_eq]; omega) (fun t' h4 F4 N4 l4 => ?_)
  have he4 := (N4 (e, excObj C t' none .none) (by simp)).1
  have X4 : K.In h4 := XG.keeps F4.keep
  refine ks_wpAt_execs_cons (wpAt_of_wpAny (plainObj_wpAny_Assign_Attribute ?_ (S.sw2 _ _ _ _ _ _ _ _)))
  refine PySem.ESX.ldL F4.ns vvalue ?_ S.kind S.value
  refine PySem.ESX.ldL F4.ns vself ?_ S.kind S.self
  refine set_plain X4 (ox := excObj C t' none .none) (od := none) ⟨he4, rfl, rfl, trivial⟩ T.oex.sa ?_
  refine PySem.HandSPX.exc_osa X4 he4 hcl (show PySem.HandSPX.refsVE (.ref C :: bm) = true from hbm) rfl T.noval (fun h5 tk' dx k5' dn dne hx hn => ?_)
  refine wpAt_of_wpAny (wpAny_execs_nil ?_)
  have up : ∀ b o, b ≠ e → s.heap.get? b = some o → h5.get? b = some o := fun b o hb q => k5' b o hb (F4.keep b o (gk b o hb q))
  have grow : s.heap.objs.size ≤ h4.objs.size := by
    obtain ⟨oL, es, ep, hL, _⟩ := F4.ns
    exact Nat.le_of_lt (Heap.lt_size hL)
  exact h _ t' dx rfl rfl up hx (Nat.le_trans grow dn) dne hn
end Cr

/-! CrX2: errors made, raised, let out of a def, caught and kept, asked and read. -/
namespace Cr
open PySem PySem.Spec PyProof.Rows L2
/-! ### made -/
/-- X(e): the class C, one argument -/
def tMkE (C : Addr) (te : TE) : L2.St → Hp → XK → Prop := fun σ H Q => te σ H fun v H1 => ∀ d, H1 d = none → Q (.ref C) (some d) (upd H1 d (.xd [("value", v)]))
theorem pmk_err {X : Cx} {x : Str} {C : Addr} {k : Nat} {p pos : Pos} {e : Expr} {te : TE} (T : ErrC X.prog X.K C) (hr : Room (k + 1) X.A) (hg : Gl X x) (hm : X.mg x = some (.ref C)) (hms : X.mg "super" = none) (he : PE X e te)
    (hdb : (x == ("__debug__" : Str)) = false := by decide) (hst : starEach [e] X.env = (false, eval e X.env) :: starEach [] X.env := by rfl) (hpl : (backTo pos (starEach [] X.env)).any (·.1) = false := by rfl) :
    PMk X (.Call (.Name x p) [e] [] pos) (tMkE C te) := by
  intro pins s σ H Q I h
  obtain ⟨nm, q, N, bs, bm, sn, sub, ab, col, dd, k0, k1, k2, k3, k5, hC, hbm⟩ := T.oex.cls
  refine wpAny_Call_Name_kw (ld_glob I hg hm ?_ hdb)
  refine PySem.W.callWith_K (h₀ := X.base) I.ok.mod.kin T.oex.kC ?_ hst hpl
  rw [hst]
  show wpAny _ _ (spliced ((false, eval e X.env) :: backTo pos (starEach [] X.env))) _ _ s
  refine Calls.spliced_cons (thn (he.run pins s σ H _ I h) fun u s1 ⟨v, H1, I1, r1, q1⟩ => ?_)
  refine Calls.spliced_nil ⟨I1.kIn, ?_⟩
  show wpAny _ _ (call (.ref C) [u]) _ _ _
  obtain ⟨fI, iC, tI⟩ : ∃ fI, PySem.W.findIn X.K (.ref C) "__init__" = some (some (.ref fI)) ∧ PySem.W.typeIn X.K (.ref fI) = some (.type "function") := by
    obtain ⟨fI, cda, cc, qual, params, body, scope, dV, kV, doc, pm, ct, oc, ccl, cl, an, od, cdd, cld, osl, ccs, csl, vs, file, tf, f1, f2, _⟩ := T.fn
    exact ⟨fI, f1, f2⟩
  obtain ⟨hp, g, dr, tk, os⟩ := s1
  have hsz : hp.objs.size ≤ hp.objs.size + 1 := Nat.le_succ _
  have kk : ∀ b o, hp.get? b = some o → ((hp.push (PySem.W.kdv_tup [u])).push (PySem.HandSPX.excO C hp.objs.size)).get? b = some o := fun b o e => Heap.get?_push_of_some _ (Heap.get?_push_of_some _ e)
  have hget : ((hp.push (PySem.W.kdv_tup [u])).push (PySem.HandSPX.excO C hp.objs.size)).get? (hp.objs.size + 1) = some (PySem.HandSPX.excO C hp.objs.size) := by heap_get
  have hlen : hp.objs.size ≤ ((hp.push (PySem.W.kdv_tup [u])).push (PySem.HandSPX.excO C hp.objs.size)).objs.size := by
    simp [Heap.push]
    omega
  have nE : ∀ {b : Addr} {o : Obj}, hp.get? b = some o → b ≠ hp.objs.size + 1 := fun z => Nat.ne_of_lt (Nat.lt_succ_of_lt (Heap.lt_size z))
  have hus : [u].length ≤ sizeLine := by show 1 ≤ sizeLine; rw [sizeLine_eq]; omega
  have bk : ∀ b o, X.base.get? b = some o → hp.get? b = some o := fun b o z => I1.bk b o z
  have hbn : X.base.get? (hp.objs.size + 1) = none := by
    cases z : X.base.get? (hp.objs.size + 1) with
    | none => rfl
    | some o => exact absurd rfl (nE (bk _ _ z))
  refine wpAny_call (PySem.HandSPX.call_own F.excBase_ValueError (fun Y => PySem.HandSPX.refsVE_contains Y bm hbm) (I1.kIn _ _ hC) (PySem.W.looks_findIn I1.kIn iC) (fun self => PySem.W.bind_fn I1.kIn self tI) hus
    (init_raw T iC I1.ok.mod hms (fun b o z => kk b o (bk b o z)) (Nat.le_trans (Nat.le_trans I1.ok.bsz I1.sz) hlen) (hr.make C [u] []).depth hget hbn (fun s' t' d hos hgens hup hx hd dne hns => ?_)))
  obtain ⟨h2, g2, d2, t2, os2⟩ := s'
  obtain rfl : os2 = os := hos
  obtain rfl : g2 = g := hgens
  refine ⟨rfl, ?_⟩
  -- without the object
  have gk : ∀ b o, hp.get? b = some o → (PySem.W.hideAll h2 [hp.objs.size + 1]).get? b = some o := fun b o z => PySem.W.hideAll_get _ (hup b o (nE z) (kk b o z)) (by simpa using nE z)
  have go : ∀ b o, (PySem.W.hideAll h2 [hp.objs.size + 1]).get? b = some o → h2.get? b = some o := fun b o z => PySem.W.of_hideAll _ z
  have dn : hp.get? d = none := by
    cases z : hp.get? d with
    | none => rfl
    | some o => exact absurd (Heap.lt_size z) (Nat.not_lt.mpr (Nat.le_trans hlen hd))
  have hd1 : H1 d = none := I1.hok.gone dn
  obtain ⟨o, es, ep, ho, hrr⟩ := hns
  have hns2 : (PySem.W.hideAll h2 [hp.objs.size + 1]).Ns1 d (fun y => if y = ("value" : Str) then some u else none) := ⟨o, es, ep, PySem.W.hideAll_get _ ho (by simpa using dne), hrr⟩
  have J : Inv X pins σ (upd H1 d (.xd [("value", v)])) { heap := PySem.W.hideAll h2 [hp.objs.size + 1], gens := g2, drawn := dr, toks := tk, os := os2 } :=
    I1.laidN gk dn hd1 ⟨_, hns2, fun f => relO_put (fs := []) (mA := fun _ => none) r1 (fun g => True.intro) f⟩
  exact ⟨hp.objs.size + 1, _, _, _, _, .ref C, some d, rfl, J, go, PySem.W.hideAll_none _ (by simp), hx, ⟨rfl, rfl⟩, rfl, rfl, (by rw [upd_ne (Ne.symm dne)]; exact I1.hok.fresh hsz), rfl, I1.bare, raises_own T.oex.exC T.oex.tyC, q1 d hd1⟩
/-! ### raised -/
def tRaise (W : WX) (C : Addr) (te : TE) : TS := fun _ σ H => te σ H fun v H1 => ∀ d, H1 d = none → W (.ref C) (some d) σ (upd H1 d (.xd [("value", v)]))
/-- raise X(e) -/
theorem ps_raiseE {X : Cx} {W : WX} {x : Str} {C : Addr} {k : Nat} {p pos pos' : Pos} {e : Expr} {te : TE} (hc : X.calm = true) (tk : Takes X W) (T : ErrC X.prog X.K C) (hr : Room (k + 1) X.A) (hg : Gl X x) (hm : X.mg x = some (.ref C)) (hms : X.mg "super" = none) (he : PE X e te)
    (hdb : (x == ("__debug__" : Str)) = false := by decide) (hst : starEach [e] X.env = (false, eval e X.env) :: starEach [] X.env := by rfl) (hpl : (backTo pos (starEach [] X.env)).any (·.1) = false := by rfl) :
    PS X (.Raise (some (.Call (.Name x p) [e] [] pos)) none pos') (tRaise W C te) := ps_raise hc tk (pmk_err T hr hg hm hms he hdb hst hpl)
section
variable {K : PySem.W.Frag} {M : Dm} {r : Ro} {m : Sto} {P : Eds}
theorem ws_raise {C : Addr} {te : TE} (h : WE K r m te fun s m1 => ∃ d0, s = .val d0 ∧ P.xc C [("value", d0)] r m1) : WS K M r m (tRaise P.W C te) P := fun σ H H0 D' e st x d =>
  h σ H _ e st fun v H1 s m1 x1 so1 rs ⟨d0, es, q⟩ dd hdd => by
    subst es
    have x2 : Xt (dom m1) H1 (dom m1) (upd H1 dd (.xd [("value", v)])) := Xt.new hdd
    exact d.xc σ _ r m1 C dd [("value", v)] [("value", d0)] (x.trans (x1.trans x2)) (so1.new hdd) ((e.mono x1).mono x2) upd_same (.cons (Rp.mono x2.ex rs) .nil) q
end
/-! ### a def that may raise -/
structure FnX (P : Program) (w : World) (K : PySem.W.Frag) (mg : Str → Option Value) (base : Heap) (k : Nat) (f : Addr) (fd : FuncData) (ps : List Str) (sp : Sp) : Prop where
  len : ∀ vs H Q E, sp vs H Q E → vs.length = ps.length
  run : ∀ (A : Around) (outer : List Env) (s : Shared) (H : Hp) (args : Args) (us : List Value) (vs : List V) (Q : VK) (E : XK), A.guards = some [] → Room k A → Env0 P w K mg base A outer s H → BindsTo s fd args (ps.zip us) → Vals vs us → sp vs H Q E →
    codeAny (model P w) A (.call (.ref f) args) (CR (L2.CX P w) outer P w H s Q E) s
section
variable {P : Program} {w : World} {K : PySem.W.Frag} {mg : Str → Option Value} {base : Heap} {x qual : Str} {params : Arguments} {body : List Stmt} {scope : Scope} {dvs : List V} {kws : List (Str × V)} {f : Addr} {fd : FuncData}
theorem okX {N ps : List Str} {k : Nat} {sp : Sp} (F : FunD K x qual params body scope dvs kws f fd) (S : FnScope N ps scope) (len : ∀ vs H Q E, sp vs H Q E → vs.length = ps.length)
    (hbody : ∀ (cdv : Value) (A : Around) (outer : List Env) (s : Shared) (H : Hp) (vs : List V) (Q : VK) (E : XK), A.guards = some [] → Room k (A.deeper (envOfC qual scope s.heap.objs.size f cdv)) → sp vs H Q E →
      ∃ t, PSs (cxOf (L2.CX P w) P w K mg base N qual scope f cdv A outer s H E) body t ∧ t { nx := fun _ H' => Q .non H', rt := Q } (L2.start N vs) H) : FnX P w K mg base (k + 1) f fd ps sp := by
  obtain ⟨oc, od, dV, kV, doc, pm, an, cdv, ct, osl, e, lk, hcd, _, _⟩ := F.ex
  subst e
  refine ⟨len, fun A outer s H args us vs Q E hg hr e0 hb r hsp => ?_⟩
  have old : ∀ b o, base.get? b = some o → s.heap.get? b = some o := fun b o e => (e0.bs b o e).1
  have KX : K.In s.heap := e0.mod.kin.keeps old
  have lim : s.heap.NoLimit := e0.mod.nolimit.keeps old
  have hl := len _ _ _ _ hsp
  have hkind : ∀ y ∈ ps.zip us, scope.names.lookup y.1 = some .local ∨ (scope.names.lookup y.1 = some .cell ∧ ((cellsFrom (s.heap.objs.size + 1) scope.names []).lookup y.1).isSome = true) := by
    rintro ⟨n, v⟩ hy
    exact (S.par n (List.of_mem_zip hy).1).imp id fun q => ⟨q, PySem.W.cellsFrom_some _ _ _ (.inl q)⟩
  refine codeAny_call_function hr.depth (KX _ _ lk) rfl S.co S.gen rfl (PySem.W.codeRec_of KX hcd) (hb _ _ _ _ (wpAny_newFunctionEnv_cells S.kind hkind fun env he s1 x => ?_))
  subst he
  obtain ⟨t, ht, hq⟩ := hbody cdv A outer s H vs Q E hg (hr.deeper _) hsp
  have I := inv_start (CX := L2.CX P w) (E := E) S hr.hd e0 hl r x
  refine ⟨lim.keeps x.toInCall.keep, codeAny_func (wpAny_mono (ht.run [] s1 _ H _ I hq) (fun fl s' hs => ?_) fun _ _ z => z)⟩
  cases fl with
  | ret u =>
    obtain ⟨v, σ', H', J, rv, q⟩ := hs
    exact ⟨v, H', J.os, J.bare, J.base, J.hok, rv, q⟩
  | next =>
    obtain ⟨σ', H', J, q⟩ := hs
    exact ⟨V.non, H', J.os, J.bare, J.base, J.hok, rfl, q⟩
  | brk => exact hs.elim fun _ z => z.elim fun _ z => z.2.elim
  | cont => exact hs.elim fun _ z => z.elim fun _ z => z.2.elim
end
/-- two ways out: Q a value, X an error of the class C with its fields -/
abbrev Tr2 := List Sv → Sto → (Sv → Sto → Prop) → (Addr → List (Str × D) → Sto → Prop) → Prop
def SpX (K : PySem.W.Frag) (T : Tr2) : Sp := fun vs H QV E => ∃ m ss Q X, StoOk K H m ∧ RpSs K (dom m) H vs ss ∧ T ss m Q X ∧
  (∀ v H' s m', Xt (dom m) H (dom m') H' → StoOk K H' m' → RpS K (dom m') H' v s → Q s m' → QV v H') ∧
  (∀ H' m' C dd vs fs, Xt (dom m) H (dom m') H' → StoOk K H' m' → H' dd = some (.xd vs) → RpF K (hid (dom m') H') vs fs → X C fs m' → E (.ref C) (some dd) H')
def wF : WX := fun _ _ _ _ => False
def wE (E : XK) : WX := fun cls d _ H => E cls d H
/-- f(e, ..), f may raise -/
def tCallX (W : WX) (sp : Sp) (t : TA) : TE := fun σ H Q => t σ H fun vs H1 => sp vs H1 Q (fun cls d H' => W cls d σ H')
structure HasX (P : Program) (w : World) (K : PySem.W.Frag) (mg : Str → Option Value) (base : Heap) (x : Str) (k : Nat) (ps : List Str) (T : Tr2) : Prop where
  ex : ∃ (f : Addr) (fd : FuncData), mg x = some (.ref f) ∧ PySem.W.keepIn K (.ref f) = true ∧ Binds K fd ps [] ∧ FnX P w K mg base k f fd ps (SpX K T)
theorem takes_no {X : Cx} : Takes X wF := fun u s' ⟨_, _, _, _, _, _, _, _, _, _, _, _, _, _, _, _, z⟩ => z.elim
section
variable {X : Cx} {W : WX} {k : Nat} {ps : List Str} {T : Tr2} {x : Str} {p pos : Pos} {e : Expr} {es : List Expr} {t : TA}
theorem pe_X (F : HasX X.prog X.w X.K X.mg X.base x k ps T) (tk : Takes X W) (hgd : X.A.guards = some []) (hr : Room k X.A) (hg : Gl X x) (ha : PA X (e :: es) t) (hdb : (x == ("__debug__" : Str)) = false := by decide)
    (he : starEach (e :: es) X.env = (false, eval e X.env) :: starEach es X.env := by rfl) (hpl : (backTo pos (starEach es X.env)).any (·.1) = false := by rfl) :
    PE X (.Call (.Name x p) (e :: es) [] pos) (tCallX W (SpX X.K T) t) := by
  obtain ⟨f, fd, h1, h2, h3, h4⟩ := F.ex
  refine ⟨fun pins s σ H Q I h => wpAny_Call_Name_kw (ld_glob I hg h1 (PySem.W.callWith_K (h₀ := X.base) I.ok.mod.kin h2 (thn (ha.run pos pins s σ H _ I h) fun us s1 ⟨vs, H1, I1, r, q⟩ => ⟨I1.kIn, ?_⟩) he hpl) hdb)⟩
  have hl : us.length = ps.length := by rw [← r.length]; exact h4.len _ _ _ _ q
  have hbs := h3 s1 us I1.kIn (by rw [List.append_nil]; exact hl)
  rw [List.append_nil] at hbs
  refine wpAny_call (codeAny_mono (h4.run X.A X.stack s1 H1 ⟨us, []⟩ us vs Q _ hgd hr I1.env0 hbs r q) fun rr s' hq => ?_)
  cases rr with
  | error u => exact tk _ _ (XE.of_call I1 (fun cls d H' z => z) hq)
  | ok fl =>
    cases fl with
    | ret u => exact I1.after hq
    | next => exact False.elim hq
    | brk => exact False.elim hq
    | cont => exact False.elim hq
end
/-! its data -/
section
variable {K : PySem.W.Frag} {M : Dm} {r : Ro} {m : Sto} {P : Eds}
theorem we_callX {W : WX} {T : Tr2} {ta : TA} {Q : Sv → Sto → Prop} (h : WA K r m ta fun ss m1 => T ss m1 Q fun _ _ _ => False) : WE K r m (tCallX W (SpX K T) ta) Q := fun σ H QV e st k =>
  h σ H _ e st fun vs H1 ss m1 x1 so1 rs q => ⟨m1, ss, Q, _, so1, rs, q, fun v H' s m' x so rp q' => k v H' s m' (x1.trans x) so rp q', fun _ _ _ _ _ _ _ _ _ _ z => z.elim⟩
theorem ws_dropX {T : Tr2} {ta : TA} (h : WA K r m ta fun ss m1 => T ss m1 (fun _ m2 => P.nx r m2) fun C fs m2 => P.xc C fs r m2) : WS K M r m (tDrop (tCallX P.W (SpX K T) ta)) P := fun σ H H0 D' e st x d =>
  h σ H _ e st fun vs H1 ss m1 x1 so1 rs q => ⟨m1, ss, _, _, so1, rs, q, fun v H' s m' x2 so rp q' => d.nx σ H' r m' (x.trans (x1.trans x2)) so (e.mono (x1.trans x2)) q',
    fun H' m' C dd vs fs x2 so hd rf q' => d.xc σ H' r m' C dd vs fs (x.trans (x1.trans x2)) so (e.mono (x1.trans x2)) hd rf q'⟩
theorem ws_retX {T : Tr2} {ta : TA} (h : WA K r m ta fun ss m1 => T ss m1 P.rt fun C fs m2 => P.xc C fs r m2) : WS K M r m (tRet (tCallX P.W (SpX K T) ta)) P := fun σ H H0 D' e st x d =>
  h σ H _ e st fun vs H1 ss m1 x1 so1 rs q => ⟨m1, ss, _, _, so1, rs, q, fun v H' s m' x2 so rp q' => d.rt v H' s m' (x.trans (x1.trans x2)) so rp q',
    fun H' m' C dd vs fs x2 so hd rf q' => d.xc σ H' r m' C dd vs fs (x.trans (x1.trans x2)) so (e.mono (x1.trans x2)) hd rf q'⟩
end
abbrev OkX (K : PySem.W.Frag) (N : List Str) (T : Tr2) (t : WX → TS) : Prop := ∀ (W : WX) ss m Q X, T ss m Q X → WS K (dom m) (startR N ss) m (t W) { nx := fun _ m' => Q (.val .non) m', rt := Q, W := W, xc := fun C fs _ m' => X C fs m' }
section
variable {P : Program} {w : World} {K : PySem.W.Frag} {mg : Str → Option Value} {base : Heap} {x qual : Str} {params : Arguments} {body : List Stmt} {scope : Scope} {f : Addr} {fd : FuncData} {N ps : List Str} {k : Nat} {T : Tr2} {t : WX → TS}
theorem bodyX (h : OkX K N T t) {vs : List V} {H : Hp} {QV : VK} {E : XK} (q : SpX K T vs H QV E) : t (wE E) { nx := fun _ H' => QV .non H', rt := QV } (L2.start N vs) H := by
  obtain ⟨m, ss, Q, X, so, rs, ht, k, kx⟩ := q
  refine h (wE E) ss m Q X ht (L2.start N vs) H H _ (start_env rs) so Xt.refl ⟨fun σ' H' r' m' x so' e' q => k .non H' (.val .non) m' x so' (show Rp _ _ _ _ from .non) q, fun v H' s m' x so' rs' q => k v H' s m' x so' rs' q, fun _ _ _ _ _ _ _ q => q, fun _ _ _ _ _ _ _ q => q,
    fun σ' H' r' m' C dd vs fs x so' e' hd rf q => kx H' m' C dd vs fs x so' hd rf q⟩
theorem lenX_ok {n : Nat} (h : ∀ ss m Q X, T ss m Q X → ss.length = n) : ∀ vs H Q E, SpX K T vs H Q E → vs.length = n := fun vs H Q E ⟨m, ss, Q', X, so, rs, ht, _⟩ => by
  rw [rs.length]; exact h _ _ _ _ ht
theorem hasX_ok (F : FunD K x qual params body scope [] [] f fd) (gF : mg x = some (.ref f)) (S : FnScope N ps scope) (len : ∀ ss m Q X, T ss m Q X → ss.length = ps.length)
    (hbd : ∀ (kV doc pm : Value) (an : Option Addr) (cdv ct : Value) (us : List Value), us.length = ps.length → bindArgs (PySem.W.fnOf x qual params body scope .none kV doc pm an cdv ct) ⟨us, []⟩ = pure (ps.zip us))
    (ok : OkX K N T t)
    (hbody : ∀ (cdv : Value) (A : Around) (outer : List Env) (s : Shared) (H : Hp) (E : XK), A.guards = some [] → Room k (A.deeper (envOfC qual scope s.heap.objs.size f cdv)) → Takes (cxOf (L2.CX P w) P w K mg base N qual scope f cdv A outer s H E) (wE E) →
      PSs (cxOf (L2.CX P w) P w K mg base N qual scope f cdv A outer s H E) body (t (wE E))) : HasX P w K mg base x (k + 1) ps T :=
  ⟨f, fd, gF, F.kp, F.bindsN hbd, okX F S (lenX_ok len) fun cdv A outer s H vs Q E hg hr h => ⟨t (wE E), hbody cdv A outer s H E hg hr (takes_of rfl rfl rfl rfl), bodyX ok h⟩⟩
end
end Cr

/-! CrX3: an error caught and kept; isinstance of it, its field. -/
namespace Cr
open PySem PySem.Spec PyProof.Rows L2
theorem exv_ok {P : Program} {w : World} {H : Hp} {h : Heap} {a C dd : Addr} {oe : Obj} {vs : Array Value} (e : h.get? a = some oe) (z : Zc (.ref C) (some dd) oe) (d : oe.data = .fields vs) : ObjOk P w H h a (ExV C dd a) :=
  ⟨⟨oe, vs, e, z, d⟩, ⟨oe, e⟩, fun _ _ ⟨o, v, q, r⟩ k => ⟨o, v, k o q, r⟩⟩
section
variable {X : Cx} {pins : List (Addr × Obj)} {σ : L2.St} {H : Hp} {s : Shared}
/-- an object that stands is tracked from now on -/
theorem take_in {a : Addr} {oe : Obj} {vs : Array Value} {o : HO} (I : Inv X pins σ H s) (ha : s.heap.get? a = some oe) (hd : oe.data = .fields vs) (hn : H a = none) (n0 : X.s_0.heap.get? a = none) (nL : a ≠ X.env.locals) (np : ∀ p ∈ X.pn ++ pins, p.1 ≠ a)
    (new : ObjOk X.prog X.w (upd H a o) s.heap a o) : Inv X pins σ (upd H a o) s := by
  have n0' : ∀ b u, X.s_0.heap.get? b = some u → b ≠ a := fun b u e z => by rw [z, n0] at e; cases e
  refine ⟨I.ok, I.os, I.bare, ⟨I.base.keep, I.base.slot, fun b u e n hx => ?_, I.base.there, fun b xs e => ?_, fun b u v e => ?_, fun b ps e => ?_⟩, I.loc, I.cell, ?_, fun x c e => ?_, fun p hp => ?_, fun b u e => ?_, I.len⟩
  · rw [upd_ne (n0' b u e)]
    exact I.base.free b u e n hx
  · have z := I.base.tups b xs e
    rw [upd_ne (fun y => by rw [y, hn] at z; cases z)]
    exact z
  · have z := I.base.frzs b u v e
    rw [upd_ne (fun y => by rw [y, hn] at z; cases z)]
    exact z
  · obtain ⟨more, z⟩ := I.base.tbls b ps e
    exact ⟨more, by rw [upd_ne (fun y => by rw [y, hn] at z; cases z)]; exact z⟩
  · rw [upd_ne nL.symm]
    exact I.free
  · have hc : c ≠ a := fun z => by
      obtain ⟨v, oc, e1, e2⟩ := I.cell x c e
      rw [z, ha] at e1
      cases e1
      rw [hd] at e2
      cases e2
    rw [upd_ne hc]
    exact I.freeC x c e
  · obtain ⟨e, n, ne, nf, d⟩ := I.pin p hp
    exact ⟨e, by rw [upd_ne (np p hp)]; exact n, ne, nf, d⟩
  · by_cases hb : b = a
    · subst hb
      rw [upd_same] at e
      cases e
      exact new
    · rw [upd_ne hb] at e
      exact (I.hok b u e).stay (fun c v _ q => q) (fun c q => by rw [upd_ne (fun y => by rw [y, hn] at q; cases q)]; exact q) fun c xs q => by rw [upd_ne (fun y => by rw [y, hn] at q; cases q)]; exact q
end
/-- what 'except x as n: g = n' wishes of an error of the body: the slots of n, g are i, j -/
def wKeep (K : PySem.W.Frag) (c : Value) (i j : Nat) (Wo : WX) (D : Ends) : WX := fun cls d σ H =>
  ∃ b, PySem.W.exmOne K cls c = some b ∧ (b = true → ∃ C dd, cls = .ref C ∧ d = some dd ∧ ∀ a, H a = none → D.nx (((σ.set i (some (.ref a))).set j (some (.ref a))).set i none) (upd H a (ExV C dd a))) ∧ (b = false → Wo cls d σ H)
def tTryK (K : PySem.W.Frag) (c : Value) (i j : Nat) (tb : WX → TS) (Wo : WX) : TS := fun D σ H => tb (wKeep K c i j Wo D) D σ H
section
variable {X : Cx} {x n gn : Str} {c : Value} {i j : Nat} {body : List Stmt} {np gp np2 ap pos pos' : Pos} {tb : WX → TS} {Wo : WX}
theorem ps_try_keep (hs : X.stack = X.env :: X.outer) (hf : X.env.frame = some X.env.locals) (hex : X.ex = []) (hN : X.N.Nodup) (hi : X.N[i]? = some n) (hln : X.env.kindOf n = some .local) (hc : Names X x c) (tk : Takes X Wo)
    (hb : ∀ (W : WX) (pn : List (Addr × Obj)) (xe : Value → Shared → Prop), Takes (X.tr pn xe) W → PassesOwn (model X.prog X.w) X.A X.env xe → PSs (X.tr pn xe) body (tb W))
    (hsu : ∀ (a : Addr) (oe : Obj) (pn : List (Addr × Obj)), PSs (X.suite a ((a, oe) :: pn)) [.Assign [.Name gn gp] (.Name n np2) ap] (tAsg (tVar i) (gName j))) :
    PS X (.Try body [.ExceptHandler (some (.Name x np)) (some n) [.Assign [.Name gn gp] (.Name n np2) ap] pos'] [] [] pos) (tTryK X.K c i j tb Wo) := by
  refine ⟨fun pins s σ H D I h => ?_⟩
  have ok := I.ok
  have hfr : X.A.frames = some (X.env :: X.outer) := by rw [ok.frames, hs]
  have hloc : Loc X.env.scope n := .inl hln
  refine wpAny_Try_except ?_
  refine wpAny_mono ((hb (wKeep X.K c i j Wo D) (X.pn ++ pins) (fun e s₁ => wpAny (model X.prog X.w) X.A (noteFrame e X.env) (fun _ s₂ => wpAny (model X.prog X.w) X.A (setFlight e none) (fun _ s₃ =>
    wpAny (model X.prog X.w) X.A (handleBy e X.env [.ExceptHandler (some (.Name x np)) (some n) [.Assign [.Name gn gp] (.Name n np2) ap] pos']) (SP X pins D) X.xe s₃) X.xe s₂) X.xe s₁) (fun u s' xx => ?_) PassesOwn.looking).run [] s σ H D (I.toTry _) h) (fun f s1 hsp => ?_) (fun e s1 he => he)
  · obtain ⟨a, B, sI, pins', σ', H', cls, d, rfl, J', nb, up, sky, na, os, ag, b, hb1, hyes, hno⟩ := xx
    have J : Inv X pins σ' H' sI := J'.ofTry ok
    have sky' : Sky B (X.env :: X.outer) a (Zc cls d) X.env.locals s'.heap := by rw [← hs]; exact sky
    show wpAny (model X.prog X.w) X.A (noteFrame (.ref a) X.env) _ _ _
    refine Sky.land Zc.steady hfr hf sky' fun h3 fl3 up3 => ?_
    have J3 : Inv X pins σ' H' { s' with heap := h3 } := J.landed nb fl3.1 (up.trans up3) os ag
    obtain ⟨oe3, vs3, he3, hz3, hd3⟩ := fl3.there
    have notFr : ∀ {h : Heap} {o : Obj} {vs : Array Value}, h.FunFrames B (X.env :: X.outer) → h.get? a = some o → o.data = .fields vs → a ∉ frs (X.env :: X.outer) := fun {h o vs} ff e dd hm => by
      obtain ⟨_, o', e', hnf⟩ := ff.mem hm
      rw [e] at e'; cases e'
      exact hnf _ dd
    have nfr := notFr fl3.2.2.1 he3 hd3
    have nL : a ≠ X.env.locals := fun z => nfr (List.mem_filterMap.mpr ⟨X.env, List.mem_cons_self, by rw [hf, z]⟩)
    have nF : a ∉ X.fs := fun hm => by
      obtain ⟨e, he, q⟩ := List.mem_filterMap.mp hm
      exact nfr (List.mem_filterMap.mpr ⟨e, List.mem_cons_of_mem _ he, q⟩)
    -- it was not there
    have nI : sI.heap.get? a = none := by
      cases z : sI.heap.get? a with
      | none => rfl
      | some o =>
        have y := nb a o z (by rw [hs]; exact nfr)
        rw [fl3.2.1] at y
        cases y
    have n0 : X.s_0.heap.get? a = none := by
      cases z : X.s_0.heap.get? a with
      | none => rfl
      | some o =>
        obtain ⟨o', y⟩ := J.base.there a o z (by rw [hex]; exact fun z => by cases z)
        rw [nI] at y
        cases y
    have npins : ∀ p ∈ X.pn ++ pins, p.1 ≠ a := fun p hp z => by
      have y := (J.pin p hp).1
      rw [z, nI] at y
      cases y
    refine wpAny_handleBy_cons (codeAny_handlers_test ?_) (by intro q; cases q)
    have S3 := J3.suite he3 hd3 na nL nF
    have LT : PySem.W.Looks (model X.prog X.w) h3 (typeOf (.ref a)) cls := fun A Q E s k q => wpAny_typeOf_ref (k _ _ he3) (by rw [hz3.1]; exact q)
    have LM := PySem.W.exm_one (M := model X.prog X.w) (J3.kIn) LT hb1
    have test : ∀ {Q : Value → Shared → Prop} {E : Value → Shared → Prop}, Q c { s' with heap := h3 } → wpAny (model X.prog X.w) (X.A.mark (some (.ref a))) (eval (.Name x np) X.env) Q E { s' with heap := h3 } := fun {Q E} q => by
      obtain ⟨hg, hdbg, hm | ⟨hm, hv, hnn⟩⟩ := hc
      · exact ld_glob (X := X.suite a ((a, oe3) :: (X.pn ++ pins))) S3 hg hm q hdbg
      · exact ld_blt (X := X.suite a ((a, oe3) :: (X.pn ++ pins))) S3 hg hm hv q hnn hdbg
    refine test (LM.here ?_)
    cases b with
    | true =>
      refine codeAny_handlers_suite_as ?_
      refine HandSPX.lands_againZ fl3 fun h4 fl4 up4 => ?_
      have J4 : Inv X pins σ' H' { s' with heap := h4 } := J.landed nb fl4.1 ((up.trans up3).trans up4) os ag
      obtain ⟨oe4, vs4, he4, hz4, hd4⟩ := fl4.there
      have S4 := J4.suite he4 hd4 na nL nF
      have hil : i < σ'.length := by rw [J4.len]; exact (List.getElem?_eq_some_iff.mp hi).1
      refine store_ok (X := X.suite a ((a, oe4) :: (X.pn ++ pins))) (v := .ref a) S4 hN hi hloc rfl (fun s5 S5 => ?_) (.inr hln)
      refine wpAny_mono ((hsu a oe4 (X.pn ++ pins)).run [] s5 _ H' { nx := fun σ6 H6 => σ6 = (σ'.set i (some (.ref a))).set j (some (.ref a)) ∧ H6 = H', rt := fun _ _ => False } S5 ⟨.ref a, by rw [List.getElem?_set, if_pos rfl, if_pos hil], rfl, rfl⟩) (fun f s6 hsp => ?_) (fun _ _ z => False.elim z)
      cases f with
      | next =>
        obtain ⟨σ6, H6, S6, rfl, rfl⟩ := hsp
        refine gone_ok (X := X.suite a ((a, oe4) :: (X.pn ++ pins))) (pins := []) S6 hN hi hln fun s7 S7 => ?_
        obtain ⟨C, dd, rfl, rfl, q⟩ := hyes rfl
        have ha7 := (S7.pin (a, oe4) (List.mem_append_left _ List.mem_cons_self)).1
        have J7 : Inv X pins _ H6 s7 := S7.unsuite ok
        exact ⟨_, _, take_in J7 ha7 hd4 na n0 nL npins (exv_ok ha7 hz4 hd4), q a na⟩
      | brk =>
        obtain ⟨σ6, H6, S6, q6⟩ := hsp
        exact q6.elim
      | cont =>
        obtain ⟨σ6, H6, S6, q6⟩ := hsp
        exact q6.elim
      | ret u =>
        obtain ⟨v6, σ6, H6, S6, r6, q6⟩ := hsp
        exact q6.elim
    | false =>
      show wpAny _ X.A (handleBy (.ref a) X.env []) _ _ _
      refine wpAny_handleBy_nil ?_
      obtain ⟨k1, k2, k3, oe, vs, T, oT, ts', he, hz, hd, h1, hr⟩ := id fl3
      unfold PySem.passOn
      refine wpAny_bind (wpAny_field he hd h1 ?_)
      rw [if_neg (show ¬ ((Value.ref T == Value.none) = true) from by simp)]
      have fin : wpAny (model X.prog X.w) X.A (setFlight (.ref a) X.env.frame) (fun _ s4 => wpAny (model X.prog X.w) X.A (throw (.ref a) : Sem Flow) (SP X pins D) X.xe s4) X.xe { s' with heap := h3 } := by
        rw [hf]
        refine HandSPX.setFlight_upZ fl3 fun h4 hh4 up4 => wpAny_throw (tk _ _ ?_)
        exact ⟨a, B, sI, pins, σ', H', cls, d, rfl, J, nb, (up.trans up3).trans up4, .inr (.inr (by rw [hs]; exact hh4)), na, os, ag, hno rfl⟩
      first
        | exact wpAny_bind (wpAny_pure (wpAny_bind fin))
        | exact wpAny_bind fin
  · cases f with
    | next =>
      obtain ⟨σ', H', J', q⟩ := hsp
      exact wpAny_execs_nil ⟨σ', H', J'.ofTry ok, q⟩
    | brk =>
      obtain ⟨σ', H', J', q⟩ := hsp
      exact ⟨σ', H', J'.ofTry ok, q⟩
    | cont =>
      obtain ⟨σ', H', J', q⟩ := hsp
      exact ⟨σ', H', J'.ofTry ok, q⟩
    | ret u =>
      obtain ⟨v, σ', H', J', r, q⟩ := hsp
      exact ⟨v, σ', H', J'.ofTry ok, r, q⟩
end
section
variable {K : PySem.W.Frag} {M : Dm} {r : Ro} {m : Sto} {P : Eds}
/-- every error of the body is caught -/
theorem ws_tryK {c : Value} {i j : Nat} {tb : WX → TS} {Wo : WX} (h : ∀ W, WS K M r m (tb W) { P with W := W, xc := fun C fs r' m' => PySem.W.exmOne K (.ref C) c = some true ∧ P.nx (((r'.set i (some (.val (.exc C fs)))).set j (some (.val (.exc C fs)))).set i none) m' }) : WS K M r m (tTryK K c i j tb Wo) P := fun σ H H0 D' e st x d => by
  refine h (wKeep K c i j Wo D') σ H H0 D' e st x ⟨d.nx, d.rt, d.bk, d.ct, fun σ' H' r' m' C dd vs fs x' so' e' hd rf ⟨hex, q⟩ => ⟨true, hex, fun _ => ⟨C, dd, rfl, rfl, fun a ha => ?_⟩, fun z => by cases z⟩⟩
  have x2 : Xt (dom m') H' (dom m') (upd H' a (ExV C dd a)) := Xt.new ha
  have e2 := e'.mono x2
  have out : ∀ b o, H' b = some o → dom m' b = false → hid (dom m') H' b = some o := fun b o z y => by rw [hid_out y]; exact z
  have rp : Rp K (hid (dom m') (upd H' a (ExV C dd a))) (.ref a) (.exc C fs) := by
    have nd : dom m' dd = false := by
      rw [dom_none]
      cases z : m' dd with
      | none => rfl
      | some ds =>
        obtain ⟨xs, h1, _⟩ := so' dd ds z
        rw [hd] at h1
        cases h1
    have ndd : dd ≠ a := fun z => by rw [z, ha] at hd; cases hd
    refine .exc (dd := dd) ?_ ?_ (RpF.mono x2.ex rf)
    · rw [hid_out (dom_none.mpr (so'.notin ha)), upd_same]
    · rw [hid_out nd, upd_ne ndd]; exact hd
  refine d.nx _ _ _ m' (x'.trans x2) (so'.new ha) ?_ q
  -- the slots
  have st1 : ∀ {σ1 : L2.St} {r1 : Ro} (k : Nat), EnvOk K (dom m') (upd H' a (ExV C dd a)) σ1 r1 → EnvOk K (dom m') (upd H' a (ExV C dd a)) (σ1.set k (some (.ref a))) (r1.set k (some (.val (.exc C fs)))) := fun {σ1 r1} k e1 => by
    refine ⟨by rw [List.length_set, List.length_set]; exact e1.1, fun l t ht => ?_⟩
    by_cases hj : k = l
    · subst hj
      rw [List.getElem?_set] at ht
      by_cases hl : k < r1.length
      · rw [if_pos rfl, if_pos hl] at ht
        cases ht
        exact ⟨.ref a, by rw [List.getElem?_set, if_pos rfl, if_pos (by rw [e1.1]; exact hl)], rp⟩
      · rw [if_pos rfl, if_neg hl] at ht
        cases ht
    · rw [List.getElem?_set_ne hj] at ht
      obtain ⟨u, h1, h2⟩ := e1.2 l t ht
      exact ⟨u, by rw [List.getElem?_set_ne hj]; exact h1, h2⟩
  have e3 := st1 j (st1 i e2)
  refine ⟨by rw [List.length_set, List.length_set (as := (r'.set i _).set j _)]; exact e3.1, fun l t ht => ?_⟩
  by_cases hj : i = l
  · subst hj
    obtain ⟨h1, h2⟩ := List.getElem?_eq_some_iff.mp ht
    rw [List.getElem_set_self] at h2
    cases h2
  · rw [List.getElem?_set_ne hj] at ht
    obtain ⟨u, h1, h2⟩ := e3.2 l t ht
    exact ⟨u, by rw [List.getElem?_set_ne hj]; exact h1, h2⟩
end
/-! ### isinstance of errors, their field -/
structure ErrI (K : PySem.W.Frag) (C : Addr) : Prop where
  cl : (PySem.W.clsIn K C).isSome = true
  ga : PySem.W.findIn K (.ref C) "__getattribute__" = some (some (.builtin "BaseException.__getattribute__"))
  gt : PySem.W.findIn K (.ref C) "__getattr__" = some none
  sub : PySem.W.subIn K (.ref C) (.type "BaseException") = some true
  ca : PySem.W.findIn K (.ref C) "__class__" = some (some (.builtin "object.__class__"))
  sp : PySem.W.specialIn K (.builtin "object.__class__") "__get__" = some (some (.builtin "getset_descriptor.__get__"))
  tk : PySem.W.takesIn K (.builtin "object.__class__") = some true
  mo : PySem.W.mroIn K C (.type "object") = some true
  hd : PySem.W.hasDictIn K C = true
  nv : PySem.W.findIn K (.ref C) "value" = some none
/-- isinstance: of built-in types as before; an error against one class of the program, against several -/
inductive RIsx (K : PySem.W.Frag) : List D → Rs → Prop
  | old {ds : List D} {c : Rs} (h : RIsi ds c) : RIsx K ds c
  | one {C c : Addr} {fs : List (Str × D)} {b : Bool} (i : ErrI K C) (h : PySem.W.kitOne K (.ref C) (.ref c) = some b) : RIsx K [.exc C fs, .adr c] (.v (.bl b))
  | many {C : Addr} {cs : List Addr} {fs : List (Str × D)} {b : Bool} (i : ErrI K C) (h : PySem.W.kitAny K (.ref C) (cs.map Value.ref) = some b) : RIsx K [.exc C fs, .tup (cs.map .adr)] (.v (.bl b))
theorem refs_of {K : PySem.W.Frag} {H : Hp} : ∀ {cs : List Addr} {xs : List V}, RpA K H xs (cs.map D.adr) → xs = cs.map V.ref
  | [], _, .nil => rfl
  | c :: cs, _, .cons h t => by
    cases h
    rw [refs_of t]
    rfl
theorem vals_refs : ∀ {cs : List Addr} {us : List Value}, Vals (cs.map V.ref) us → us = cs.map Value.ref
  | [], _, .nil => rfl
  | c :: cs, _, .cons h t => by
    cases (show _ = Value.ref c from h)
    rw [vals_refs t]
    rfl
section
variable {X : Cx}
theorem exc_inst {pins : List (Addr × Obj)} {σ : L2.St} {H : Hp} {s : Shared} {M : Dm} {v : V} {C : Addr} {fs : List (Str × D)} (I : Inv X pins σ H s) (h : RpW X.K M H v (.exc C fs)) :
    ∃ (a dd : Addr) (oe od : Obj) (vs : List (Str × V)), v = .ref a ∧ PySem.W.InstAt s.heap a oe C (some od) ∧ s.heap.get? dd = some od ∧ H dd = some (.xd vs) ∧ RpF X.K (hid M H) vs fs := by
  rcases h with h | ⟨_, _, _, _, e, _⟩
  · cases h with
    | @exc a C' dd vs ds h1 h2 h3 =>
      obtain ⟨m1, e1⟩ := hid_some h1
      obtain ⟨m2, e2⟩ := hid_some h2
      obtain ⟨⟨oe, ws, g1, g2, g3⟩, _, _⟩ := I.hok a _ e1
      have hx : ObjOk X.prog X.w H s.heap dd (.xd vs) := I.hok dd _ e2
      obtain ⟨mA, hns, hr⟩ := hx
      obtain ⟨od, ho, hl⟩ := lookIn_ns hns
      exact ⟨a, dd, oe, od, vs, rfl, ⟨g1, g2.1, by unfold PySem.W.notCls; rw [g3] <;> rfl, by rw [g2.2]; exact ho⟩, ho, e2, h3⟩
  · cases e
theorem call_isxD : CallR X (.builtin "isinstance") (rDN X.K (RIsx X.K)) := by
  intro pins s σ H xs us Q I r ⟨M, ds, c, lv, hs, hf, k⟩
  cases hf with
  | old h => exact call_isiD pins s σ H xs us Q I r ⟨M, ds, c, lv, hs, h, k⟩
  | one i hb =>
    obtain ⟨x, y, rfl, h1, h2⟩ := rpWs2 hs
    cases h2.rp
    obtain ⟨u1, u2, rfl, r1, r2⟩ := vals2 r
    obtain ⟨a, dd, oe, od, vs, rfl, J, _, _, _⟩ := exc_inst I h1
    cases (show u1 = Value.ref a from r1)
    cases (show u2 = Value.ref _ from r2)
    exact PySem.W.kia_one (PySem.W.kitx_exc i.cl i.ga i.gt i.sub i.ca i.sp i.tk i.mo) I.kIn J hb (fun z => nomatch z) fun tk => ⟨.bl _, H, I.tok tk, rfl, k.v (.bl _)⟩
  | many i hb =>
    obtain ⟨x, y, rfl, h1, h2⟩ := rpWs2 hs
    obtain ⟨a, ys, rfl, e, ra⟩ := h2.tup
    obtain ⟨u1, u2, rfl, r1, r2⟩ := vals2 r
    cases (show u2 = Value.ref a from r2)
    obtain ⟨a1, dd, oe, od, vs, rfl, J, _, _, _⟩ := exc_inst I h1
    cases (show u1 = Value.ref a1 from r1)
    obtain ⟨its, rv, ⟨o, g1, g2, n, g3⟩, _⟩ := I.tuple (sqT_hid e)
    have e0 := refs_of ra
    subst e0
    have e3 := vals_refs rv
    subst e3
    obtain ⟨oc, od', dt, sl⟩ := o
    simp only at g2 g3
    subst g2 g3
    exact PySem.W.kia_tup (PySem.W.kitx_exc i.cl i.ga i.gt i.sub i.ca i.sp i.tk i.mo) I.kIn J g1 hb (fun z => nomatch z) fun tk => ⟨.bl _, H, I.tok tk, rfl, k.v (.bl _)⟩
/-- error.value -/
def tXval (K : PySem.W.Frag) (te : TE) : TE := fun σ H Q => te σ H fun x H1 => ∃ M C fs d, RpW K M H1 x (.exc C fs) ∧ ErrI K C ∧ fs.lookup ("value" : Str) = some d ∧ ∀ v, Rp K (hid M H1) v d → Q v H1
theorem rpF_look {K : PySem.W.Frag} {H : Hp} {f : Str} {d : D} : ∀ {vs : List (Str × V)} {fs : List (Str × D)}, RpF K H vs fs → fs.lookup f = some d → ∃ v, vs.lookup f = some v ∧ Rp K H v d
  | _, _, .nil, e => by cases e
  | _, _, .cons (x := x) (v := v) (d := d') h t, e => by
    rw [List.lookup_cons] at e ⊢
    cases q : (f == x) with
    | true =>
      rw [q] at e
      cases e
      exact ⟨v, rfl, h⟩
    | false =>
      rw [q] at e
      exact rpF_look t e
theorem pe_xval {e : Expr} {te : TE} {pos : Pos} (he : PE X e te) (hb : attributeBase e "value" X.env (eval e X.env) = eval e X.env := by rfl) : PE X (.Attribute e "value" pos) (tXval X.K te) := by
  refine ⟨fun pins s σ H Q I h => ?_⟩
  refine attr_of hb (thn (he.run pins s σ H _ I h) fun u s1 hh => ?_)
  obtain ⟨x, H1, I1, rx, M, C, fs, d, hx, T, hl, q⟩ := hh
  obtain ⟨a, dd, oe, od, vs, rfl, J, ho, hd, rf⟩ := exc_inst I1 hx
  obtain rfl : u = Value.ref a := rx
  obtain ⟨v, hv, rv⟩ := rpF_look rf hl
  have hx2 : ObjOk X.prog X.w H1 s1.heap dd (.xd vs) := I1.hok dd _ hd
  obtain ⟨mA, hns, hr⟩ := hx2
  obtain ⟨od2, ho2, hl2⟩ := lookIn_ns hns
  rw [ho] at ho2
  cases ho2
  obtain ⟨w, hw, rw'⟩ := RelO.some_of (v := v) (o := mA "value") (by rw [← hv]; exact hr "value")
  exact HandSPX.exc_get I1.kIn J T.ga T.gt T.sub (PySem.W.findObj_own T.hd T.nv rfl (by rw [hl2, hw])) (handed_of rw') ⟨v, H1, I1.tok _, rw', q v rv⟩
end
section
variable {K : PySem.W.Frag} {r : Ro} {m : Sto}
theorem we_xval {te : TE} {Q : Sv → Sto → Prop} (h : WE K r m te fun s m1 => ∃ C fs d, s = .val (.exc C fs) ∧ ErrI K C ∧ fs.lookup ("value" : Str) = some d ∧ Q (.val d) m1) : WE K r m (tXval K te) Q := fun σ H QV e st k =>
  h σ H _ e st fun v H1 s m1 x1 so1 rs ⟨C, fs, d, es, T, hl, q⟩ => by
    subst es
    exact ⟨dom m1, C, fs, d, .inl rs, T, hl, fun u ru => k u H1 (.val d) m1 x1 so1 ru q⟩
end
end Cr

/-! CrX4: owned lists within tuples; calls by keywords. -/
namespace Cr
open PySem PySem.Spec PyProof.Rows L2
/-! ### owned lists within tuples -/
def svD : Sv → D
  | .val d => d
  | .adr a => .adr a
theorem rpSs_A {K : PySem.W.Frag} {M : Dm} {H : Hp} : ∀ {vs : List V} {ss : List Sv}, RpSs K M H vs ss → RpA K (hid M H) vs (ss.map svD)
  | _, _, .nil => .nil
  | _, _, .cons (b := s) h t => by
    refine .cons ?_ (rpSs_A t)
    cases s with
    | val d => exact h
    | adr a =>
      obtain ⟨rfl, _⟩ := h
      exact .adr a
/-- an owned list is let free: what stands for it in data -/
def frzD (p : Addr) (ds : List D) : D → D
  | .adr a => if a = p then .lst ds else .adr a
  | d => d
section
variable {K : PySem.W.Frag} {r : Ro} {m : Sto}
theorem we_tupA {t : TA} {Q : Sv → Sto → Prop} (h : WA K r m t fun ss m1 => ss.length ≤ 100000 ∧ Q (.val (.tup (ss.map svD))) m1) : WE K r m (tTup t) Q := fun σ H QV e st k =>
  h σ H _ e st fun vs H1 ss m1 x1 so1 rs1 ⟨hl, q⟩ => by
    have ra := rpSs_A rs1
    refine ⟨by rw [rs1.length]; exact Evl.sz_of hl, fun p hp => ?_⟩
    have x2 : Xt (dom m1) H1 (dom m1) (upd H1 p (.tup vs)) := Xt.new hp
    exact k _ _ (.val (.tup (ss.map svD))) m1 (x1.trans x2) (so1.new hp) (show Rp _ _ _ _ from .tup (.inl (.inl (by rw [hid_out (dom_none.mpr (so1.notin hp))]; exact upd_same))) (ra.mono x2.ex)) q
/-- an owned list that data name -/
theorem we_unA {te : TE} {Q : Sv → Sto → Prop} (h : WE K r m te fun s m1 => ∃ p ds, s = .val (.adr p) ∧ m1 p = some ds ∧ Q (.adr p) m1) : WE K r m te Q := fun σ H QV e st k =>
  h σ H QV e st fun v H1 s m1 x1 so1 rs ⟨p, ds, es, hp, q⟩ => by
    subst es
    have rs' : Rp K (hid (dom m1) H1) v (.adr p) := rs
    cases rs' with
    | adr => exact k (.ref p) H1 (.adr p) m1 x1 so1 ⟨rfl, dom_some hp⟩ q
theorem rpA_frz {H : Hp} {M N : Dm} {p : Addr} {ds : List D} (ex : Evl.Ex (hid M H) (hid N H)) (hp : Rp K (hid N H) (.ref p) (.lst ds)) : ∀ {vs : List V} {es : List D}, RpA K (hid M H) vs es → RpA K (hid N H) vs (es.map (frzD p ds))
  | _, _, .nil => .nil
  | _, _, .cons (d := d) h t => by
    refine .cons ?_ (rpA_frz ex hp t)
    cases h with
    | adr a =>
      show Rp K _ (.ref a) (if a = p then .lst ds else .adr a)
      by_cases e : a = p
      · rw [if_pos e, e]; exact hp
      · rw [if_neg e]; exact .adr a
    | non => exact .non
    | bl b => exact .bl b
    | int i => exact .int i
    | str x => exact .str x
    | ty n => exact .ty n
    | lst h1 h2 => exact Rp.mono ex (.lst h1 h2)
    | tup h1 h2 => exact Rp.mono ex (.tup h1 h2)
    | scr h1 => exact Rp.mono ex (.scr h1)
    | ins h1 h2 => exact Rp.mono ex (.ins h1 h2)
    | exc h1 h2 h3 => exact Rp.mono ex (.exc h1 h2 h3)
/-- a fresh owned list within a tuple is let free -/
theorem we_freeT {te : TE} {Q : Sv → Sto → Prop} (h : WE K r m te fun s m1 => ∃ p ds es, s = .val (.tup es) ∧ m p = none ∧ m1 p = some ds ∧ Q (.val (.tup (es.map (frzD p ds)))) (stD m1 p)) : WE K r m te Q := fun σ H QV e st k =>
  h σ H QV e st fun v H1 s m1 x1 so1 rs ⟨p, ds, es, eq, hp, hm, q⟩ => by
    subst eq
    obtain ⟨s1, s2⟩ := so1.frz hm
    have rs' : Rp K (hid (dom m1) H1) v (.tup es) := rs
    cases rs' with
    | tup h1 h2 =>
      have ex : Evl.Ex (hid (dom m1) H1) (hid (dom (stD m1 p)) H1) := hid_sub stD_sub
      exact k _ H1 (.val (.tup (es.map (frzD p ds)))) (stD m1 p) (x1.frz (dom_none.mpr hp)) s1 (show Rp _ _ _ _ from .tup (Evl.ex_t ex h1) (rpA_frz ex s2 h2)) q
end
/-! ### calls by keywords -/
def pick {α : Type} (pm : List Nat) (l : List α) : List α := pm.filterMap fun i => l[i]?
theorem paired_get {α β : Type} {F : α → β → Prop} : ∀ {l₁ : List α} {l₂ : List β} (i : Nat), Paired F l₁ l₂ → (l₁[i]? = none ∧ l₂[i]? = none) ∨ ∃ a b, l₁[i]? = some a ∧ l₂[i]? = some b ∧ F a b
  | _, _, _, .nil => .inl ⟨rfl, rfl⟩
  | _, _, 0, .cons h _ => .inr ⟨_, _, rfl, rfl, h⟩
  | _, _, i + 1, .cons _ t => by
    rcases paired_get i t with ⟨h1, h2⟩ | ⟨a, b, h1, h2, h3⟩
    · exact .inl ⟨by simpa using h1, by simpa using h2⟩
    · exact .inr ⟨a, b, by simpa using h1, by simpa using h2, h3⟩
theorem paired_pick {α β : Type} {F : α → β → Prop} {l₁ : List α} {l₂ : List β} (h : Paired F l₁ l₂) : ∀ pm : List Nat, Paired F (pick pm l₁) (pick pm l₂)
  | [] => .nil
  | i :: pm => by
    have ih := paired_pick h pm
    unfold pick at ih ⊢
    rw [List.filterMap_cons, List.filterMap_cons]
    rcases paired_get i h with ⟨h1, h2⟩ | ⟨a, b, h1, h2, h3⟩
    · rw [h1, h2]; exact ih
    · rw [h1, h2]; exact .cons h3 ih
/-- the keywords ks, in the parameters' order by pm -/
def BindsK (K : PySem.W.Frag) (fd : FuncData) (ps ks : List Str) (pm : List Nat) : Prop := ∀ (s : Shared) (ws : List Value), K.In s.heap → ws.length = ks.length → BindsTo s fd ⟨[], ks.zip ws⟩ (ps.zip (pick pm ws))
structure HasK (P : Program) (w : World) (K : PySem.W.Frag) (mg : Str → Option Value) (base : Heap) (x : Str) (k : Nat) (ps ks : List Str) (pm : List Nat) (T : Tr) : Prop where
  ex : ∃ (f : Addr) (fd : FuncData), mg x = some (.ref f) ∧ PySem.W.keepIn K (.ref f) = true ∧ BindsK K fd ps ks pm ∧ FnG P w K mg base k f fd ps (SpD K T)
structure HasXK (P : Program) (w : World) (K : PySem.W.Frag) (mg : Str → Option Value) (base : Heap) (x : Str) (k : Nat) (ps ks : List Str) (pm : List Nat) (T : Tr2) : Prop where
  ex : ∃ (f : Addr) (fd : FuncData), mg x = some (.ref f) ∧ PySem.W.keepIn K (.ref f) = true ∧ BindsK K fd ps ks pm ∧ FnX P w K mg base k f fd ps (SpX K T)
def tCallKw (n : Nat) (pm : List Nat) (sp : Sp) (t : TA) : TE := fun σ H Q => t σ H fun vs H1 => vs.length = n ∧ sp (pick pm vs) H1 Q E0
def tCallXKw (n : Nat) (pm : List Nat) (W : WX) (sp : Sp) (t : TA) : TE := fun σ H Q => t σ H fun vs H1 => vs.length = n ∧ sp (pick pm vs) H1 Q (fun cls d H' => W cls d σ H')
section
variable {X : Cx} {W : WX} {k : Nat} {ps ks : List Str} {pm : List Nat} {T : Tr} {T2 : Tr2} {x : Str} {p pos : Pos} {kws : List Keyword} {t : TA}
theorem pe_UK (F : HasK X.prog X.w X.K X.mg X.base x k ps ks pm T) (hgd : X.A.guards = some []) (hr : Room k X.A) (hg : Gl X x) (hkw : PK X kws t) (hall : (backToKw pos (keywordEach kws X.env)).all (·.1.isSome) = true := by rfl)
    (hks : (backToKw pos (keywordEach kws X.env)).filterMap (·.1) = ks := by rfl) (hdb : (x == ("__debug__" : Str)) = false := by decide)
    (hpl : ((backTo pos (starEach [] X.env)).any (·.1) || (backToKw pos (keywordEach kws X.env)).any (·.1.isNone)) = false := by rfl)
    {n : Nat} (hnn : ks.length = n := by rfl) : PE X (.Call (.Name x p) [] kws pos) (tCallKw n pm (SpD X.K T) t) := by
  subst hnn
  obtain ⟨f, fd, h1, h2, h3, h4⟩ := F.ex
  refine ⟨fun pins s σ H Q I h => wpAny_Call_Name_kw (ld_glob I hg h1 (PySem.W.callWith_KW0 (h₀ := X.base) I.ok.mod.kin h2 hall (thn (hkw.run pos pins s σ H _ I h) fun us s1 ⟨vs, H1, I1, r, hn, q⟩ => ⟨I1.kIn, ?_⟩) hpl) hdb)⟩
  rw [hks]
  have hbs := h3 s1 us I1.kIn (by rw [← Paired.length r]; exact hn)
  refine wpAny_call (codeAny_mono (h4.run X.A X.stack s1 H1 _ (pick pm us) (pick pm vs) Q hgd hr I1.env0 hbs (paired_pick r pm) q) fun rr s' hq => ?_)
  match rr, hq with
  | .ok (.ret u), hq => exact I1.after hq
theorem pe_XK (F : HasXK X.prog X.w X.K X.mg X.base x k ps ks pm T2) (tk : Takes X W) (hgd : X.A.guards = some []) (hr : Room k X.A) (hg : Gl X x) (hkw : PK X kws t) (hall : (backToKw pos (keywordEach kws X.env)).all (·.1.isSome) = true := by rfl)
    (hks : (backToKw pos (keywordEach kws X.env)).filterMap (·.1) = ks := by rfl) (hdb : (x == ("__debug__" : Str)) = false := by decide)
    (hpl : ((backTo pos (starEach [] X.env)).any (·.1) || (backToKw pos (keywordEach kws X.env)).any (·.1.isNone)) = false := by rfl)
    {n : Nat} (hnn : ks.length = n := by rfl) : PE X (.Call (.Name x p) [] kws pos) (tCallXKw n pm W (SpX X.K T2) t) := by
  subst hnn
  obtain ⟨f, fd, h1, h2, h3, h4⟩ := F.ex
  refine ⟨fun pins s σ H Q I h => wpAny_Call_Name_kw (ld_glob I hg h1 (PySem.W.callWith_KW0 (h₀ := X.base) I.ok.mod.kin h2 hall (thn (hkw.run pos pins s σ H _ I h) fun us s1 ⟨vs, H1, I1, r, hn, q⟩ => ⟨I1.kIn, ?_⟩) hpl) hdb)⟩
  rw [hks]
  have hbs := h3 s1 us I1.kIn (by rw [← Paired.length r]; exact hn)
  refine wpAny_call (codeAny_mono (h4.run X.A X.stack s1 H1 _ (pick pm us) (pick pm vs) Q _ hgd hr I1.env0 hbs (paired_pick r pm) q) fun rr s' hq => ?_)
  cases rr with
  | error u => exact tk _ _ (XE.of_call I1 (fun cls d H' z => z) hq)
  | ok fl =>
    cases fl with
    | ret u => exact I1.after hq
    | next => exact False.elim hq
    | brk => exact False.elim hq
    | cont => exact False.elim hq
end
section
variable {K : PySem.W.Frag} {r : Ro} {m : Sto}
theorem we_callK {T : Tr} {n : Nat} {pm : List Nat} {ta : TA} {Q : Sv → Sto → Prop} (h : WA K r m ta fun ss m1 => ss.length = n ∧ T (pick pm ss) m1 Q) : WE K r m (tCallKw n pm (SpD K T) ta) Q := fun σ H QV e st k =>
  h σ H _ e st fun vs H1 ss m1 x1 so1 rs ⟨hn, q⟩ => ⟨by rw [rs.length]; exact hn, m1, pick pm ss, Q, so1, paired_pick rs pm, q, fun v H' s m' x so rp q' => k v H' s m' (x1.trans x) so rp q'⟩
theorem we_callXK {W : WX} {T : Tr2} {n : Nat} {pm : List Nat} {ta : TA} {Q : Sv → Sto → Prop} (h : WA K r m ta fun ss m1 => ss.length = n ∧ T (pick pm ss) m1 Q fun _ _ _ => False) : WE K r m (tCallXKw n pm W (SpX K T) ta) Q := fun σ H QV e st k =>
  h σ H _ e st fun vs H1 ss m1 x1 so1 rs ⟨hn, q⟩ => ⟨by rw [rs.length]; exact hn, m1, pick pm ss, Q, _, so1, paired_pick rs pm, q, fun v H' s m' x so rp q' => k v H' s m' (x1.trans x) so rp q', fun _ _ _ _ _ _ _ _ _ _ z => z.elim⟩
end
section
variable {P : Program} {w : World} {K : PySem.W.Frag} {mg : Str → Option Value} {base : Heap} {x qual : Str} {params : Arguments} {body : List Stmt} {scope : Scope} {f : Addr} {fd : FuncData} {ps ks : List Str} {pm : List Nat} {k : Nat} {T : Tr} {T2 : Tr2}
theorem bindsK (F : FunD K x qual params body scope [] [] f fd)
    (h : ∀ (kV doc pm' : Value) (an : Option Addr) (cdv ct : Value) (ws : List Value), ws.length = ks.length → bindArgs (PySem.W.fnOf x qual params body scope .none kV doc pm' an cdv ct) ⟨[], ks.zip ws⟩ = pure (ps.zip (pick pm ws))) : BindsK K fd ps ks pm := by
  obtain ⟨oc, od, dV, kV, doc, pm', an, cdv, ct, osl, rfl, lk, hcd, hD, hK⟩ := F.ex
  rcases hD with ⟨_, rfl⟩ | ⟨e, _⟩
  · exact fun s ws _ hl => .of_eq (h kV doc pm' an cdv ct ws hl)
  · exact absurd rfl e
theorem fnD_uniq {K : PySem.W.Frag} {x qual x' qual' : Str} {params params' : Arguments} {body body' : List Stmt} {scope scope' : Scope} {f : Addr} {fd fd' : FuncData} {a b c d} (F : FunD K x qual params body scope a b f fd) (F' : FunD K x' qual' params' body' scope' c d f fd') : fd = fd' := by
  obtain ⟨oc, od, dV, kV, doc, pm', an, cdv, ct, osl, e1, lk, _⟩ := F.ex
  obtain ⟨oc', od', dV', kV', doc', pm'', an', cdv', ct', osl', e1', lk', _⟩ := F'.ex
  rw [lk] at lk'
  injection lk' with z
  injection z with _ _ z _
  injection z
end
end Cr

/-! CrX5: what a head tells of the error classes. -/
namespace Cr
open PySem PySem.Spec PyProof.Rows L2
def oexB (K : PySem.W.Frag) (C : Addr) : Bool := match K.lookup C with
  | some ⟨.type "type", _, .cls cd, sl⟩ => (match cd.mro, sl.toList with
    | .ref C' :: bm, [_, _, _, _, some (.builtin n), _] => C' == C && (n == "ValueError.__new__" && (cd.hasDict && (!cd.hasDel && PySem.HandSPX.refsVE bm)))
    | _, _ => false)
  | _ => false
theorem oexB_ok {K : PySem.W.Frag} {C : Addr} (q : oexB K C = true) : ∃ nm q N bs bm sn sub ab col dd k0 k1 k2 k3 k5, K.lookup C = some (excClassObj nm q C N bs bm true sn sub ab col dd k0 k1 k2 k3 k5 "ValueError.__new__") ∧ PySem.HandSPX.refsVE bm = true := by
  unfold oexB at q
  split at q
  · rename_i dd cd sl ho
    split at q
    · rename_i C' bm k0 k1 k2 k3 n k5 hm hs
      simp only [Bool.and_eq_true, beq_iff_eq, Bool.not_eq_true'] at q
      obtain ⟨rfl, rfl, hd', hdel, hr⟩ := q
      obtain ⟨nm, bs, mro, ns, qn, hd, sn, sub, ab, col, del⟩ := cd
      dsimp only at hm hdel hd'
      subst hm hdel hd'
      have hsl : sl = #[k0, k1, k2, k3, some (.builtin "ValueError.__new__"), k5] := by
        obtain ⟨l⟩ := sl
        simp only at hs
        rw [hs]
      subst hsl
      exact ⟨nm, qn, ns, bs, bm, sn, sub, ab, col, dd, k0, k1, k2, k3, k5, ho, hr⟩
    · cases q
  · cases q
abbrev FnC : Type := Option (Str × Str × Arguments × FuncBody × Scope × Addr × List Str × Addr)
/-- a method as it was written; of its cells the names -/
def fnC (K : PySem.W.Frag) (p : Str × Option Str) : FnC := match K.lookup (He.fAd K p) with
  | some ⟨_, _, .func fd, _⟩ => some (fd.name, fd.qualname, fd.params, fd.body, fd.scope, fd.globals, fd.closure.map (·.1), fd.builtins)
  | _ => none
def iniC (qual : Str) (st : Stmt) : FnC := some ("__init__", qual, defArgs st, .stmts (defBody st), defScope st, mainGlobals, ["__class__"], builtinsNs)
def errB (file : Str) (K : PySem.W.Frag) (x : Str) : Bool :=
  oexB K (He.ga K x) && (He.eqO (PySem.W.findIn K (.ref (He.ga K x)) "__setattr__") (some (some (.builtin "object.__setattr__"))) && (decide (PySem.W.subIn K (.ref (He.ga K x)) (.type "BaseException") = some true) &&
  (decide (PySem.W.typeIn K (.ref (He.ga K x)) = some (.type "type")) && (PySem.W.keepIn K (.ref (He.ga K x)) &&
  (He.eqO (PySem.W.findIn K (.ref (He.ga K x)) "__init__") (some (some (.ref (He.ma K (He.ga K x) "__init__")))) && (decide (PySem.W.typeIn K (.ref (He.ma K (He.ga K x) "__init__")) = some (.type "function")) &&
  ((match K.lookup (He.ma K (He.ga K x) "__init__") with
    | some ⟨_, _, .func fd, _⟩ => (match fd.code with
      | .ref cda => PySem.W.codeIn K (.ref cda) fd.qualname && (match K.lookup cda with
        | some ⟨_, _, .fields vs, _⟩ => (match (vs[2]? : Option Value) with
          | some (.str f _) => file == f
          | _ => false)
        | _ => false)
      | _ => false) && ((match fd.closure with
      | [(_, cc)] => (match K.lookup cc with
        | some ⟨_, _, .cell (some (.ref D)), _⟩ => D == He.ga K x
        | _ => false)
      | _ => false) && (match fd.defaults with
      | .ref T => (match K.lookup T with
        | some ⟨_, _, .seq its _, _⟩ => (match its.toList with | [_] => true | _ => false)
        | _ => false)
      | _ => false))
    | _ => false) &&
  (PySem.W.excInitIn K (He.ga K x) He.veBase "ValueError.__new__" && (decide (PySem.W.ks_superIn K (He.ga K x) (He.ga K x) "__init__" = some (some (.builtin "ValueError.__init__"))) &&
  (decide (PySem.W.subIn K (.ref (He.ga K x)) (.type "ValueError") = some true) && (decide (PySem.W.mroIn K (He.ga K x) (.ref (He.ga K x)) = some true) &&
  (He.eqO (PySem.W.findIn K (.ref (He.ga K x)) "value") (some none) && He.eqO (PySem.W.nsIn K cStatics "thirdparty.any") (some none)))))))))))))
def erriB (K : PySem.W.Frag) (x : Str) : Bool :=
  (PySem.W.clsIn K (He.ga K x)).isSome && (He.eqO (PySem.W.findIn K (.ref (He.ga K x)) "__getattribute__") (some (some (.builtin "BaseException.__getattribute__"))) && (He.eqO (PySem.W.findIn K (.ref (He.ga K x)) "__getattr__") (some none) &&
  (decide (PySem.W.subIn K (.ref (He.ga K x)) (.type "BaseException") = some true) && (He.eqO (PySem.W.findIn K (.ref (He.ga K x)) "__class__") (some (some (.builtin "object.__class__"))) &&
  (He.eqO (PySem.W.specialIn K (.builtin "object.__class__") "__get__") (some (some (.builtin "getset_descriptor.__get__"))) && (decide (PySem.W.takesIn K (.builtin "object.__class__") = some true) &&
  (decide (PySem.W.mroIn K (He.ga K x) (.type "object") = some true) && (PySem.W.hasDictIn K (He.ga K x) && He.eqO (PySem.W.findIn K (.ref (He.ga K x)) "value") (some none)))))))))
theorem erriB_ok {K : PySem.W.Frag} {x : Str} (h : erriB K x = true) : ErrI K (He.ga K x) := by
  unfold erriB at h
  obtain ⟨h1, h⟩ := He.ba h
  obtain ⟨h2, h⟩ := He.ba h
  obtain ⟨h3, h⟩ := He.ba h
  obtain ⟨h4, h⟩ := He.ba h
  obtain ⟨h5, h⟩ := He.ba h
  obtain ⟨h6, h⟩ := He.ba h
  obtain ⟨h7, h⟩ := He.ba h
  obtain ⟨h8, h⟩ := He.ba h
  obtain ⟨h9, h10⟩ := He.ba h
  exact ⟨h1, He.eqO_ok h2, He.eqO_ok h3, of_decide_eq_true h4, He.eqO_ok h5, He.eqO_ok h6, of_decide_eq_true h7, of_decide_eq_true h8, h9, He.eqO_ok h10⟩
theorem errB_ok {prog : Program} {K : PySem.W.Frag} {x qual : Str} {st : Stmt} (h : errB prog.main.file K x = true) (hf : fnC K (x, some "__init__") = iniC qual st) (hi : IsIni (defBody st)) (hs : IniScope qual (defArgs st) (defScope st))
    (hb : ∀ (T : Addr) (kV doc pm cdv ct : Value) (an : Option Addr) (cc : Addr) (dv a b : Value), ∃ k, bindArgs (PySem.W.ksFn "__init__" qual (defArgs st) (defBody st) (defScope st) (.ref T) kV doc pm an cdv ct cc) ⟨[a, b], []⟩ = seqItems? (.ref T) >>= k ∧ k (some #[dv]) = pure [(("self" : Str), a), ("value", b)])
    (hn : (prog.main.scope.names.lookup ("super" : Str)).isSome = false) : ErrC prog K (He.ga K x) := by
  unfold errB at h
  obtain ⟨h1, h⟩ := He.ba h
  obtain ⟨h2, h⟩ := He.ba h
  obtain ⟨h3, h⟩ := He.ba h
  obtain ⟨h4, h⟩ := He.ba h
  obtain ⟨h5, h⟩ := He.ba h
  obtain ⟨h6, h⟩ := He.ba h
  obtain ⟨h7, h⟩ := He.ba h
  obtain ⟨h8, h⟩ := He.ba h
  obtain ⟨h9, h⟩ := He.ba h
  obtain ⟨h10, h⟩ := He.ba h
  obtain ⟨h11, h⟩ := He.ba h
  obtain ⟨h12, h⟩ := He.ba h
  obtain ⟨h13, h14⟩ := He.ba h
  refine ⟨⟨oexB_ok h1, He.eqO_ok h2, of_decide_eq_true h3, of_decide_eq_true h4, h5⟩, ?_, h9, of_decide_eq_true h10, of_decide_eq_true h11, of_decide_eq_true h12, He.eqO_ok h13, He.eqO_ok h14, hn⟩
  have ef : He.fAd K (x, some "__init__") = He.ma K (He.ga K x) "__init__" := rfl
  unfold fnC at hf
  rw [ef] at hf
  cases q : K.lookup (He.ma K (He.ga K x) "__init__") with
  | none => rw [q] at hf; cases hf
  | some o =>
    obtain ⟨oc, od, dt, osl⟩ := o
    rw [q] at hf h8
    cases dt with
    | func fd =>
      obtain ⟨name, qualname, params, body, scope, globals, closure, defaults, kwdefaults, doc, pyModule, annotations, code, closureTuple, builtins⟩ := fd
      dsimp only at hf h8
      unfold iniC at hf
      injection hf with hf
      injection hf with e1 hf
      injection hf with e2 hf
      injection hf with e3 hf
      injection hf with e4 hf
      injection hf with e5 hf
      injection hf with e6 hf
      injection hf with e7 e8
      subst e1 e2 e3 e4 e5 e6 e8
      obtain ⟨g1, g2⟩ := He.ba h8
      obtain ⟨g2, g3⟩ := He.ba g2
      cases code with
      | ref cda =>
        dsimp only at g1
        obtain ⟨g4, g5⟩ := He.ba g1
        cases qc : K.lookup cda with
        | none => rw [qc] at g5; cases g5
        | some oc2 =>
          obtain ⟨ccl, cdd, cdt, ccs⟩ := oc2
          rw [qc] at g5
          cases cdt with
          | fields vs =>
            dsimp only at g5
            cases qv : vs[2]? with
            | none => rw [qv] at g5; cases g5
            | some v2 =>
              rw [qv] at g5
              cases v2 with
              | str f tf =>
                cases closure with
                | nil => cases g2
                | cons p r =>
                  cases r with
                  | cons p2 r2 => cases g2
                  | nil =>
                    obtain ⟨cn, cc⟩ := p
                    simp only [List.map_cons, List.map_nil, List.cons.injEq, and_true] at e7
                    subst e7
                    dsimp only at g2
                    cases qcc : K.lookup cc with
                    | none => rw [qcc] at g2; cases g2
                    | some occ =>
                      obtain ⟨cl, cld, cldt, csl⟩ := occ
                      rw [qcc] at g2
                      cases cldt with
                      | cell cv =>
                        cases cv with
                        | none => cases g2
                        | some cv =>
                          cases cv with
                          | ref D =>
                            have eD : D = He.ga K x := by simpa using g2
                            subst eD
                            cases defaults with
                            | ref T =>
                              dsimp only at g3
                              cases qT : K.lookup T with
                              | none => rw [qT] at g3; cases g3
                              | some oT =>
                                obtain ⟨tc, td, tdt, tsl⟩ := oT
                                rw [qT] at g3
                                cases tdt with
                                | seq items n =>
                                  obtain ⟨il⟩ := items
                                  match il, g3 with
                                  | [dv], _ =>
                                  refine ⟨He.ma K (He.ga K x) "__init__", cda, cc, qualname, defArgs st, defBody st, defScope st, .ref T, kwdefaults, doc, pyModule, closureTuple, oc, ccl, cl, annotations, od, cdd, cld, osl, ccs, csl, vs, f, tf, He.eqO_ok h6, of_decide_eq_true h7, q, g4, qc, qv, g5, qcc, hi, hs, fun s a b X => ?_⟩
                                  obtain ⟨k, k1, k2⟩ := hb T kwdefaults doc pyModule (.ref cda) closureTuple annotations cc dv a b
                                  exact PySem.W.binds_K X rfl qT rfl k1 k2
                                | _ => cases g3
                            | _ => cases g3
                          | _ => cases g2
                      | _ => cases g2
              | _ => cases g5
          | _ => cases g5
      | _ => cases g1
    | _ => cases hf
/-! ### the Hook -/
def frE (g : Addr → Option Obj) (n : Nat) : PySem.W.Frag := He.frG g (cStatics :: He.asD g n)
def hookE (n : Nat) (fa : List He.Fa) (fn : List He.DefD) (ex : PySem.W.Frag → Bool) (ei : List Str) (ev : List FnC) : PySem.W.Hook where
  α := (He.AlD × Bool) × List FnC
  obs := fun s => ((He.obsD fa fn (frE s.heap.get? n), ex (frE s.heap.get? n)), ei.map fun x => fnC (frE s.heap.get? n) (x, some "__init__"))
  val := fun _ => ((He.valD fn, true), ev)
  says := fun _ h => ∃ K : PySem.W.Frag, K.In h ∧ He.SaysD fa fn K ∧ ex K = true ∧ (ei.map fun x => fnC K (x, some "__init__")) = ev
  of := fun _ s e => ⟨frE s.heap.get? n, He.frG_in, congrArg (fun z : (He.AlD × Bool) × List FnC => z.1.1) e, congrArg (fun z : (He.AlD × Bool) × List FnC => z.1.2) e, congrArg (fun z : (He.AlD × Bool) × List FnC => z.2) e⟩
  keeps := fun _ _ _ ⟨K, hK, c⟩ k => ⟨K, PySem.W.Frag.In.keeps hK k, c⟩
def obsE (n : Nat) (fa : List He.Fa) (fn : List He.DefD) (ex : PySem.W.Frag → Bool) (ei : List Str) (g : Addr → Option Obj) : (He.AlD × Bool) × List FnC := ((He.obsD fa fn (frE g n), ex (frE g n)), ei.map fun x => fnC (frE g n) (x, some "__init__"))
theorem obsE_eq {n : Nat} {fa : List He.Fa} {fn : List He.DefD} {ex : PySem.W.Frag → Bool} {ei : List Str} {ev : List FnC} {g : Addr → Option Obj} {s : Shared} (h : ∀ a, g a = s.heap.get? a) : obsE n fa fn ex ei g = (hookE n fa fn ex ei ev).obs s := by
  have e : g = s.heap.get? := funext h
  rw [e] <;> rfl
end Cr

/-! CrX6: except C as n: g = n.value -/
namespace Cr
open PySem PySem.Spec PyProof.Rows L2
open PySem.HandSPX
/-- e.value within the handler: the error is pinned, not taken in -/
def tRawV (K : PySem.W.Frag) (oe : Obj) (a : Addr) (i : Nat) : TE := fun σ H Q => σ[i]? = some (some (.ref a)) ∧ ∃ (C dd : Addr) (vs : List (Str × V)) (v : V), oe.cls = .ref C ∧ oe.dict = some dd ∧ (∃ ws, oe.data = .fields ws) ∧ H dd = some (.xd vs) ∧ ErrI K C ∧ vs.lookup ("value" : Str) = some v ∧ Q v H

def wKeepV (K : PySem.W.Frag) (c : Value) (i j : Nat) (Wo : WX) (D : Ends) : WX := fun cls d σ H =>
  ∃ b, PySem.W.exmOne K cls c = some b ∧ (b = true → ∃ (C dd : Addr) (vs : List (Str × V)) (v : V), cls = .ref C ∧ d = some dd ∧ H dd = some (.xd vs) ∧ ErrI K C ∧ vs.lookup ("value" : Str) = some v ∧ ∀ a, H a = none → D.nx (((σ.set i (some (.ref a))).set j (some v)).set i none) H) ∧ (b = false → Wo cls d σ H)
def tTryV (K : PySem.W.Frag) (c : Value) (i j : Nat) (tb : WX → TS) (Wo : WX) : TS := fun D σ H => tb (wKeepV K c i j Wo D) D σ H
theorem pe_rawV {X : Cx} {a : Addr} {oe : Obj} {pn : List (Addr × Obj)} {i : Nat} {e : Expr} {pos : Pos} (he : PE (X.suite a ((a, oe) :: pn)) e (tVar i)) (hb : attributeBase e "value" (X.suite a ((a, oe) :: pn)).env (eval e (X.suite a ((a, oe) :: pn)).env) = eval e (X.suite a ((a, oe) :: pn)).env := by rfl) :
    PE (X.suite a ((a, oe) :: pn)) (.Attribute e "value" pos) (tRawV X.K oe a i) := by
  refine ⟨fun pins s σ H Q I h => ?_⟩
  obtain ⟨h0, C, dd, vs, v, hc, hd, ⟨ws, hf⟩, hx, T, hl, q⟩ := h
  refine attr_of hb (thn (he.run pins s σ H (fun v H1 => v = .ref a ∧ H1 = H) I ⟨.ref a, h0, rfl, rfl⟩) fun u s1 hh => ?_)
  obtain ⟨x, H1, I1, rx, rfl, rfl⟩ := hh
  obtain rfl : u = Value.ref a := rx
  have ha := (I1.pin (a, oe) (List.mem_append_left _ List.mem_cons_self)).1
  have hx2 : ObjOk _ _ H1 s1.heap dd (.xd vs) := I1.hok dd _ hx
  obtain ⟨mA, hns, hr⟩ := hx2
  obtain ⟨od, ho, hl2⟩ := lookIn_ns hns
  have J : PySem.W.InstAt s1.heap a oe C (some od) := ⟨ha, hc, by unfold PySem.W.notCls; rw [hf] <;> rfl, by rw [hd]; exact ho⟩
  obtain ⟨w, hw, rw'⟩ := RelO.some_of (v := v) (o := mA "value") (by rw [← hl]; exact hr "value")
  exact HandSPX.exc_get I1.kIn J T.ga T.gt T.sub (PySem.W.findObj_own T.hd T.nv rfl (by rw [hl2, hw])) (handed_of rw') ⟨v, H1, I1.tok _, rw', q⟩
section
variable {X : Cx} {x n gn : Str} {c : Value} {i j : Nat} {body : List Stmt} {np gp np2 ap vp pos pos' : Pos} {tb : WX → TS} {Wo : WX}
theorem ps_try_val (hs : X.stack = X.env :: X.outer) (hf : X.env.frame = some X.env.locals) (hex : X.ex = []) (hN : X.N.Nodup) (hi : X.N[i]? = some n) (hln : X.env.kindOf n = some .local) (hc : Names X x c) (tk : Takes X Wo)
    (hb : ∀ (W : WX) (pn : List (Addr × Obj)) (xe : Value → Shared → Prop), Takes (X.tr pn xe) W → PassesOwn (model X.prog X.w) X.A X.env xe → PSs (X.tr pn xe) body (tb W))
    (hsu : ∀ (a : Addr) (oe : Obj) (pn : List (Addr × Obj)), PSs (X.suite a ((a, oe) :: pn)) [.Assign [.Name gn gp] (.Attribute (.Name n np2) "value" vp) ap] (tAsg (tRawV X.K oe a i) (gName j))) :
    PS X (.Try body [.ExceptHandler (some (.Name x np)) (some n) [.Assign [.Name gn gp] (.Attribute (.Name n np2) "value" vp) ap] pos'] [] [] pos) (tTryV X.K c i j tb Wo) := by
  refine ⟨fun pins s σ H D I h => ?_⟩
  have ok := I.ok
  have hfr : X.A.frames = some (X.env :: X.outer) := by rw [ok.frames, hs]
  have hloc : Loc X.env.scope n := .inl hln
  refine wpAny_Try_except ?_
  refine wpAny_mono ((hb (wKeepV X.K c i j Wo D) (X.pn ++ pins) (fun e s₁ => wpAny (model X.prog X.w) X.A (noteFrame e X.env) (fun _ s₂ => wpAny (model X.prog X.w) X.A (setFlight e none) (fun _ s₃ =>
    wpAny (model X.prog X.w) X.A (handleBy e X.env [.ExceptHandler (some (.Name x np)) (some n) [.Assign [.Name gn gp] (.Attribute (.Name n np2) "value" vp) ap] pos']) (SP X pins D) X.xe s₃) X.xe s₂) X.xe s₁) (fun u s' xx => ?_) PassesOwn.looking).run [] s σ H D (I.toTry _) h) (fun f s1 hsp => ?_) (fun e s1 he => he)
  · obtain ⟨a, B, sI, pins', σ', H', cls, d, rfl, J', nb, up, sky, na, os, ag, b, hb1, hyes, hno⟩ := xx
    have J : Inv X pins σ' H' sI := J'.ofTry ok
    have sky' : Sky B (X.env :: X.outer) a (Zc cls d) X.env.locals s'.heap := by rw [← hs]; exact sky
    show wpAny (model X.prog X.w) X.A (noteFrame (.ref a) X.env) _ _ _
    refine Sky.land Zc.steady hfr hf sky' fun h3 fl3 up3 => ?_
    have J3 : Inv X pins σ' H' { s' with heap := h3 } := J.landed nb fl3.1 (up.trans up3) os ag
    obtain ⟨oe3, vs3, he3, hz3, hd3⟩ := fl3.there
    have notFr : ∀ {h : Heap} {o : Obj} {vs : Array Value}, h.FunFrames B (X.env :: X.outer) → h.get? a = some o → o.data = .fields vs → a ∉ frs (X.env :: X.outer) := fun {h o vs} ff e dd hm => by
      obtain ⟨_, o', e', hnf⟩ := ff.mem hm
      rw [e] at e'; cases e'
      exact hnf _ dd
    have nfr := notFr fl3.2.2.1 he3 hd3
    have nL : a ≠ X.env.locals := fun z => nfr (List.mem_filterMap.mpr ⟨X.env, List.mem_cons_self, by rw [hf, z]⟩)
    have nF : a ∉ X.fs := fun hm => by
      obtain ⟨e, he, q⟩ := List.mem_filterMap.mp hm
      exact nfr (List.mem_filterMap.mpr ⟨e, List.mem_cons_of_mem _ he, q⟩)
    -- it was not there
    have nI : sI.heap.get? a = none := by
      cases z : sI.heap.get? a with
      | none => rfl
      | some o =>
        have y := nb a o z (by rw [hs]; exact nfr)
        rw [fl3.2.1] at y
        cases y
    have n0 : X.s_0.heap.get? a = none := by
      cases z : X.s_0.heap.get? a with
      | none => rfl
      | some o =>
        obtain ⟨o', y⟩ := J.base.there a o z (by rw [hex]; exact fun z => by cases z)
        rw [nI] at y
        cases y
    have npins : ∀ p ∈ X.pn ++ pins, p.1 ≠ a := fun p hp z => by
      have y := (J.pin p hp).1
      rw [z, nI] at y
      cases y
    refine wpAny_handleBy_cons (codeAny_handlers_test ?_) (by intro q; cases q)
    have S3 := J3.suite he3 hd3 na nL nF
    have LT : PySem.W.Looks (model X.prog X.w) h3 (typeOf (.ref a)) cls := fun A Q E s k q => wpAny_typeOf_ref (k _ _ he3) (by rw [hz3.1]; exact q)
    have LM := PySem.W.exm_one (M := model X.prog X.w) (J3.kIn) LT hb1
    have test : ∀ {Q : Value → Shared → Prop} {E : Value → Shared → Prop}, Q c { s' with heap := h3 } → wpAny (model X.prog X.w) (X.A.mark (some (.ref a))) (eval (.Name x np) X.env) Q E { s' with heap := h3 } := fun {Q E} q => by
      obtain ⟨hg, hdbg, hm | ⟨hm, hv, hnn⟩⟩ := hc
      · exact ld_glob (X := X.suite a ((a, oe3) :: (X.pn ++ pins))) S3 hg hm q hdbg
      · exact ld_blt (X := X.suite a ((a, oe3) :: (X.pn ++ pins))) S3 hg hm hv q hnn hdbg
    refine test (LM.here ?_)
    cases b with
    | true =>
      refine codeAny_handlers_suite_as ?_
      refine HandSPX.lands_againZ fl3 fun h4 fl4 up4 => ?_
      have J4 : Inv X pins σ' H' { s' with heap := h4 } := J.landed nb fl4.1 ((up.trans up3).trans up4) os ag
      obtain ⟨oe4, vs4, he4, hz4, hd4⟩ := fl4.there
      have S4 := J4.suite he4 hd4 na nL nF
      have hil : i < σ'.length := by rw [J4.len]; exact (List.getElem?_eq_some_iff.mp hi).1
      refine store_ok (X := X.suite a ((a, oe4) :: (X.pn ++ pins))) (v := .ref a) S4 hN hi hloc rfl (fun s5 S5 => ?_) (.inr hln)
      obtain ⟨C, dd, vs, v, rfl, rfl, hdd, hE, hlk, q⟩ := hyes rfl
      refine wpAny_mono ((hsu a oe4 (X.pn ++ pins)).run [] s5 _ H' { nx := fun σ6 H6 => σ6 = (σ'.set i (some (.ref a))).set j (some v) ∧ H6 = H', rt := fun _ _ => False } S5 ⟨by rw [List.getElem?_set, if_pos rfl, if_pos hil], C, dd, vs, v, hz4.1, hz4.2, ⟨_, hd4⟩, hdd, hE, hlk, rfl, rfl⟩) (fun f s6 hsp => ?_) (fun _ _ z => False.elim z)
      cases f with
      | next =>
        obtain ⟨σ6, H6, S6, rfl, rfl⟩ := hsp
        refine gone_ok (X := X.suite a ((a, oe4) :: (X.pn ++ pins))) (pins := []) S6 hN hi hln fun s7 S7 => ?_
        have ha7 := (S7.pin (a, oe4) (List.mem_append_left _ List.mem_cons_self)).1
        have J7 : Inv X pins _ H6 s7 := S7.unsuite ok
        exact ⟨_, _, J7, q a na⟩
      | brk =>
        obtain ⟨σ6, H6, S6, q6⟩ := hsp
        exact q6.elim
      | cont =>
        obtain ⟨σ6, H6, S6, q6⟩ := hsp
        exact q6.elim
      | ret u =>
        obtain ⟨v6, σ6, H6, S6, r6, q6⟩ := hsp
        exact q6.elim
    | false =>
      show wpAny _ X.A (handleBy (.ref a) X.env []) _ _ _
      refine wpAny_handleBy_nil ?_
      obtain ⟨k1, k2, k3, oe, vs, T, oT, ts', he, hz, hd, h1, hr⟩ := id fl3
      unfold PySem.passOn
      refine wpAny_bind (wpAny_field he hd h1 ?_)
      rw [if_neg (show ¬ ((Value.ref T == Value.none) = true) from by simp)]
      have fin : wpAny (model X.prog X.w) X.A (setFlight (.ref a) X.env.frame) (fun _ s4 => wpAny (model X.prog X.w) X.A (throw (.ref a) : Sem Flow) (SP X pins D) X.xe s4) X.xe { s' with heap := h3 } := by
        rw [hf]
        refine HandSPX.setFlight_upZ fl3 fun h4 hh4 up4 => wpAny_throw (tk _ _ ?_)
        exact ⟨a, B, sI, pins, σ', H', cls, d, rfl, J, nb, (up.trans up3).trans up4, .inr (.inr (by rw [hs]; exact hh4)), na, os, ag, hno rfl⟩
      first
        | exact wpAny_bind (wpAny_pure (wpAny_bind fin))
        | exact wpAny_bind fin
  · cases f with
    | next =>
      obtain ⟨σ', H', J', q⟩ := hsp
      exact wpAny_execs_nil ⟨σ', H', J'.ofTry ok, q⟩
    | brk =>
      obtain ⟨σ', H', J', q⟩ := hsp
      exact ⟨σ', H', J'.ofTry ok, q⟩
    | cont =>
      obtain ⟨σ', H', J', q⟩ := hsp
      exact ⟨σ', H', J'.ofTry ok, q⟩
    | ret u =>
      obtain ⟨v, σ', H', J', r, q⟩ := hsp
      exact ⟨v, σ', H', J'.ofTry ok, r, q⟩
end
section
variable {K : PySem.W.Frag} {M : Dm} {r : Ro} {m : Sto} {P : Eds}
/-- every error of the body is caught, its value kept -/
theorem ws_tryV {c : Value} {i j : Nat} {tb : WX → TS} {Wo : WX} (h : ∀ W, WS K M r m (tb W) { P with W := W, xc := fun C fs r' m' => PySem.W.exmOne K (.ref C) c = some true ∧ ErrI K C ∧ ∃ d, fs.lookup ("value" : Str) = some d ∧ P.nx ((r'.set j (some (.val d))).set i none) m' }) : WS K M r m (tTryV K c i j tb Wo) P := fun σ H H0 D' e st x d => by
  refine h (wKeepV K c i j Wo D') σ H H0 D' e st x ⟨d.nx, d.rt, d.bk, d.ct, fun σ' H' r' m' C dd vs fs x' so' e' hd rf ⟨hex, hE, dv, hlk, q⟩ => ?_⟩
  obtain ⟨v, hv, rv⟩ := rpF_look rf hlk
  refine ⟨true, hex, fun _ => ⟨C, dd, vs, v, rfl, rfl, hd, hE, hv, fun a ha => ?_⟩, fun z => by cases z⟩
  refine d.nx _ _ _ m' x' so' ?_ q
  refine ⟨by rw [List.length_set, List.length_set, List.length_set, List.length_set, List.length_set]; exact e'.1, fun l t ht => ?_⟩
  by_cases hj : i = l
  · subst hj
    obtain ⟨h1, h2⟩ := List.getElem?_eq_some_iff.mp ht
    rw [List.getElem_set_self] at h2
    cases h2
  · rw [List.getElem?_set_ne hj] at ht
    by_cases hk : j = l
    · subst hk
      rw [List.getElem?_set] at ht
      by_cases hl : j < r'.length
      · rw [if_pos rfl, if_pos hl] at ht
        cases ht
        exact ⟨v, by rw [List.getElem?_set_ne hj, List.getElem?_set, if_pos rfl, if_pos (by rw [List.length_set, e'.1]; exact hl)], rv⟩
      · rw [if_pos rfl, if_neg hl] at ht
        cases ht
    · rw [List.getElem?_set_ne hk] at ht
      obtain ⟨u, h1, h2⟩ := e'.2 l t ht
      exact ⟨u, by rw [List.getElem?_set_ne hj, List.getElem?_set_ne hk, List.getElem?_set_ne hj]; exact h1, h2⟩
end
end Cr

/-! CrY: all of it; a range as a list; pure tests; facts by places. -/
namespace Cr
open PySem PySem.Spec PyProof.Rows L2
theorem ex_ix {l : List Bool} (h : l.all id = true) (i : Nat) {b : Bool} (e : l[i]? = some b) : b = true := List.all_eq_true.mp h b (List.mem_of_getElem? e)
section
variable {P : Program} {w : World} {K : PySem.W.Frag} {mg : Str → Option Value} {base : Heap} {x qual : Str} {params : Arguments} {body : List Stmt} {scope : Scope} {f : Addr} {fd : FuncData} {N ps : List Str} {k : Nat} {T : Tr2} {t : WX → TS}
theorem fnX_ok (F : FunD K x qual params body scope [] [] f fd) (S : FnScope N ps scope) (len : ∀ ss m Q X, T ss m Q X → ss.length = ps.length) (ok : OkX K N T t)
    (hbody : ∀ (cdv : Value) (A : Around) (outer : List Env) (s : Shared) (H : Hp) (E : XK), A.guards = some [] → Room k (A.deeper (envOfC qual scope s.heap.objs.size f cdv)) → Takes (cxOf (L2.CX P w) P w K mg base N qual scope f cdv A outer s H E) (wE E) →
      PSs (cxOf (L2.CX P w) P w K mg base N qual scope f cdv A outer s H E) body (t (wE E))) : FnX P w K mg base (k + 1) f fd ps (SpX K T) :=
  okX F S (lenX_ok len) fun cdv A outer s H vs Q E hg hr h => ⟨t (wE E), hbody cdv A outer s H E hg hr (takes_of rfl rfl rfl rfl), bodyX ok h⟩
end
theorem pe_U0 {X : Cx} {k : Nat} {ps : List Str} {T : Tr} {x : Str} {p pos : Pos} (F : Has X.prog X.w X.K X.mg X.base x k ps T) (hgd : X.A.guards = some []) (hr : Room k X.A) (hg : Gl X x) (hdb : (x == ("__debug__" : Str)) = false := by decide) :
    PE X (.Call (.Name x p) [] [] pos) (tCall (SpD X.K T) [] E0 tNil) := by
  obtain ⟨f, fd, h1, h2, h3, h4⟩ := F.ex
  exact pe_G0 h4 hgd hr hg h1 h2 h3 hdb
section
variable {K : PySem.W.Frag} {r : Ro} {m : Sto}
theorem rpA_rg {H : Hp} (n : Int) : RpA K H (rgV 0 n) (rngD 0 n.toNat) := by
  unfold rgV rngD
  rw [Int.sub_zero]
  generalize List.range n.toNat = l
  induction l with
  | nil => exact .nil
  | cons i l ih => exact .cons (.int _) ih
theorem we_listRg {ta : TE} {Q : Sv → Sto → Prop} (h : WE K r m ta fun s m1 => ∃ n : Int, s = .val (.int n) ∧ 0 ≤ n ∧ n ≤ 100000 ∧ Q (.val (.lst (rngD 0 n.toNat))) m1) : WE K r m (tLstRg (tRg1 ta)) Q := fun σ H QV e st k =>
  h σ H _ e st fun v H1 s m1 x1 so1 rs ⟨n, es, h0, h1, q⟩ => by
    subst es
    have rs' : Rp K (hid (dom m1) H1) v (.int n) := rs
    cases rs'
    refine ⟨n, rfl, RgOk.of_le (by omega) (by omega) (by omega) h0, fun p hp => ?_⟩
    have x2 : Xt (dom m1) H1 (dom m1) (upd H1 p (.lst (rgV 0 n))) := Xt.new hp
    exact k _ _ (.val (.lst (rngD 0 n.toNat))) m1 (x1.trans x2) (so1.new hp) (show Rp _ _ _ _ from .lst (by rw [hid_out (dom_none.mpr (so1.notin hp))]; exact upd_same) ((rpA_rg n).mono x2.ex)) q
/-! pure tests -/
theorem wtA {A B : TT} {a b : Bool} (hA : WT K r m A fun x m1 => x = a ∧ m1 = m) (hB : a = true → WT K r m B fun x m1 => x = b ∧ m1 = m) : WT K r m (tAnd A B) fun x m1 => x = (a && b) ∧ m1 = m :=
  wt_and (hA.imp fun x m1 ⟨h1, h2⟩ => by
    subst h1 h2
    cases x with
    | true => exact (hB rfl).imp fun y m2 ⟨h3, h4⟩ => ⟨by rw [h3]; rfl, h4⟩
    | false => exact ⟨rfl, rfl⟩)
theorem wtO {A B : TT} {a b : Bool} (hA : WT K r m A fun x m1 => x = a ∧ m1 = m) (hB : a = false → WT K r m B fun x m1 => x = b ∧ m1 = m) : WT K r m (tOr A B) fun x m1 => x = (a || b) ∧ m1 = m :=
  wt_or (hA.imp fun x m1 ⟨h1, h2⟩ => by
    subst h1 h2
    cases x with
    | true => exact ⟨rfl, rfl⟩
    | false => exact (hB rfl).imp fun y m2 ⟨h3, h4⟩ => ⟨by rw [h3]; rfl, h4⟩)
theorem wtN {A : TT} {a : Bool} (hA : WT K r m A fun x m1 => x = a ∧ m1 = m) : WT K r m (tNot A) fun x m1 => x = (!a) ∧ m1 = m :=
  wt_not (hA.imp fun x m1 ⟨h1, h2⟩ => ⟨by rw [h1], h2⟩)
theorem wsIf {M : Dm} {c : TT} {t u : TS} {P : Eds} {b : Bool} (h : WT K r m c fun x m1 => x = b ∧ m1 = m) (h1 : b = true → WS K M r m t P) (h2 : b = false → WS K M r m u P) : WS K M r m (tIfS c t u) P :=
  ws_if (h.imp fun x m1 ⟨e1, e2⟩ => by
    subst e1 e2
    cases x with
    | true => exact (if_pos rfl).mpr (h1 rfl)
    | false => exact (if_neg Bool.false_ne_true).mpr (h2 rfl))
theorem weIf {c : TT} {t u : TE} {Q : Sv → Sto → Prop} {b : Bool} (h : WT K r m c fun x m1 => x = b ∧ m1 = m) (h1 : b = true → WE K r m t Q) (h2 : b = false → WE K r m u Q) : WE K r m (tIf c t u) Q :=
  we_if (h.imp fun x m1 ⟨e1, e2⟩ => by
    subst e1 e2
    cases x with
    | true => exact (if_pos rfl).mpr (h1 rfl)
    | false => exact (if_neg Bool.false_ne_true).mpr (h2 rfl))
end
end Cr

/-! CrZ: an owned list handed to a call and had back. -/
namespace Cr
open PySem PySem.Spec PyProof.Rows L2
mutual
/-- no list within -/
def D.nolst : D → Bool
  | .lst _ => false
  | .scr _ => false
  | .ins _ _ => false
  | .exc _ _ => false
  | .tup xs => D.nolstA xs
  | _ => true
def D.nolstA : List D → Bool
  | [] => true
  | x :: xs => D.nolst x && D.nolstA xs
end
def svNo : Sv → Bool
  | .val d => d.nolst
  | .adr _ => true
section
variable {K : PySem.W.Frag} {M N : Dm} {H : Hp} {p : Addr}
mutual
theorem Rp.noP (hp : ∃ xs, H p = some (.lst xs)) (hN : ∀ a, N a = true → M a = true ∨ a = p) : ∀ {v : V} {d : D}, Rp K (hid M H) v d → d.nolst = true → Rp K (hid N H) v d
  | _, _, .non, _ => .non
  | _, _, .bl b, _ => .bl b
  | _, _, .int i, _ => .int i
  | _, _, .str x, _ => .str x
  | _, _, .ty n, _ => .ty n
  | _, _, .adr a, _ => .adr a
  | _, _, .lst _ _, h => by simp [D.nolst] at h
  | _, _, .scr _, h => by simp [D.nolst] at h
  | _, _, .ins _ _, h => by simp [D.nolst] at h
  | _, _, .exc _ _ _, h => by simp [D.nolst] at h
  | _, _, .tup (a := a) (xs := xs) (ds := ds) h ra, hn => by
    have hn' : D.nolstA ds = true := by simpa [D.nolst] using hn
    refine .tup ?_ (RpA.noP hp hN ra hn')
    obtain ⟨ys, hy⟩ := hp
    have key : ∀ o, hid M H a = some o → (∀ zs, o ≠ .lst zs) → hid N H a = some o := fun o e ne => by
      obtain ⟨h1, h2⟩ := hid_some e
      rw [hid_out]
      · exact h2
      · cases q : N a with
        | false => rfl
        | true =>
          rcases hN a q with z | z
          · rw [h1] at z; cases z
          · rw [z, hy] at h2
            cases h2
            exact absurd rfl (ne ys)
    rcases h with (h | ⟨o, h⟩) | h
    · exact .inl (.inl (key _ h (fun zs z => by cases z)))
    · exact .inl (.inr ⟨o, key _ h (fun zs z => by cases z)⟩)
    · obtain ⟨o, its, n, q, hc, hr⟩ := h
      exact .inr ⟨o, its, n, q, hc, hr⟩
theorem RpA.noP (hp : ∃ xs, H p = some (.lst xs)) (hN : ∀ a, N a = true → M a = true ∨ a = p) : ∀ {vs : List V} {ds : List D}, RpA K (hid M H) vs ds → D.nolstA ds = true → RpA K (hid N H) vs ds
  | _, _, .nil, _ => .nil
  | _, _, .cons (d := d) (ds := ds) h t, hn => by
    have hn' := Bool.and_eq_true_iff.mp (show (D.nolst d && D.nolstA ds) = true by simpa [D.nolstA] using hn)
    exact .cons (Rp.noP hp hN h hn'.1) (RpA.noP hp hN t hn'.2)
end
end
def bor (p : Addr) (ds : List D) : Sv → Sv
  | .adr a => if a = p then .val (.lst ds) else .adr a
  | s => s
section
variable {K : PySem.W.Frag} {r : Ro} {m : Sto}
/-- behind a call that had p borrowed -/
theorem bor_back {m1 m2 : Sto} {H1 H2 : Hp} {p : Addr} {ds : List D} {v : V} {s : Sv} (so1 : StoOk K H1 m1) (hp : m1 p = some ds) (x : Xt (dom (stD m1 p)) H1 (dom m2) H2) (so2 : StoOk K H2 m2) (rs : RpS K (dom m2) H2 v s) (h2 : m2 p = none) (hs : svNo s = true)
    (hes : ∀ q es, m2 q = some es → D.nolstA es = true) : Xt (dom m1) H1 (dom (stS m2 p ds)) H2 ∧ StoOk K H2 (stS m2 p ds) ∧ RpS K (dom (stS m2 p ds)) H2 v s := by
  have dp : dom m1 p = true := dom_some hp
  have nd : dom (stD m1 p) p = false := dom_none.mpr (if_pos rfl)
  have dm : ∀ a, dom (stS m2 p ds) a = true → dom m2 a = true ∨ a = p := fun a h => by
    by_cases z : a = p
    · exact .inr z
    · left
      obtain ⟨es, e⟩ := dom_true h
      rw [stS_ne z] at e
      exact dom_some e
  have sd : ∀ a, a ≠ p → dom (stD m1 p) a = dom m1 a := fun a z => by
    unfold dom stD
    rw [if_neg z]
  have xt : Xt (dom m1) H1 (dom (stS m2 p ds)) H2 := ⟨fun a u e => by
    obtain ⟨e1, e2⟩ := hid_some e
    have z : a ≠ p := fun z => by rw [z, dp] at e1; cases e1
    have e3 : hid (dom (stD m1 p)) H1 a = some u := by rw [hid_out (by rw [sd a z]; exact e1)]; exact e2
    obtain ⟨e4, e5⟩ := hid_some (x.ex _ _ e3)
    rw [hid_out]
    · exact e5
    · cases q : dom (stS m2 p ds) a with
      | false => rfl
      | true =>
        rcases dm a q with y | y
        · rw [e4] at y; cases y
        · exact absurd y z, x.al, fun a h => by
    by_cases z : a = p
    · rw [z]; exact dom_some stS_same
    · obtain ⟨es, e⟩ := dom_true (x.dm a (by rw [sd a z]; exact h))
      exact dom_some (by rw [stS_ne z]; exact e), fun a h => by
    rcases dm a h with y | y
    · rcases x.nw a y with q | q
      · left
        exact stD_sub a q
      · exact .inr q
    · rw [y]; exact .inl dp⟩
  obtain ⟨xs, g1, g2⟩ := so1 p ds hp
  have g3 : H2 p = some (.lst xs) := by
    have e3 : hid (dom (stD m1 p)) H1 p = some (.lst xs) := by rw [hid_out nd]; exact g1
    exact (hid_some (x.ex _ _ e3)).2
  refine ⟨xt, fun a es e => ?_, ?_⟩
  · by_cases z : a = p
    · rw [z, stS_same] at e
      cases e
      exact ⟨xs, by rw [z]; exact g3, g2.mono xt.ex⟩
    · rw [stS_ne z] at e
      obtain ⟨ys, k1, k2⟩ := so2 a es e
      exact ⟨ys, k1, RpA.noP ⟨xs, g3⟩ dm k2 (hes a es e)⟩
  · cases s with
    | val d => exact Rp.noP ⟨xs, g3⟩ dm rs hs
    | adr a =>
      obtain ⟨rfl, h⟩ := rs
      refine ⟨rfl, ?_⟩
      obtain ⟨es, e⟩ := dom_true h
      have z : a ≠ p := fun z => by rw [z, h2] at e; cases e
      exact dom_some (by rw [stS_ne z]; exact e)
theorem rpSs_bor {H : Hp} {m1 : Sto} {p : Addr} {ds : List D} (so : StoOk K H m1) (hp : m1 p = some ds) : ∀ {vs : List V} {ss : List Sv}, RpSs K (dom m1) H vs ss → RpSs K (dom (stD m1 p)) H vs (ss.map (bor p ds))
  | _, _, .nil => .nil
  | _, _, .cons (b := s) h t => by
    refine .cons ?_ (rpSs_bor so hp t)
    have ex : Evl.Ex (hid (dom m1) H) (hid (dom (stD m1 p)) H) := hid_sub stD_sub
    cases s with
    | val d => exact Rp.mono ex h
    | adr a =>
      obtain ⟨rfl, h2⟩ := h
      show RpS K _ H (.ref a) (if a = p then .val (.lst ds) else .adr a)
      by_cases z : a = p
      · rw [if_pos z, z]
        exact (so.frz hp).2
      · rw [if_neg z]
        refine ⟨rfl, ?_⟩
        obtain ⟨es, e⟩ := dom_true h2
        exact dom_some (show stD m1 p a = some es by unfold stD; rw [if_neg z]; exact e)
theorem we_callB {T : Tr} {E : XK} {ta : TA} {Q : Sv → Sto → Prop} (h : WA K r m ta fun ss m1 => ∃ p ds, m1 p = some ds ∧ T (ss.map (bor p ds)) (stD m1 p) fun s m2 => m2 p = none ∧ svNo s = true ∧ (∀ q es, m2 q = some es → D.nolstA es = true) ∧ Q s (stS m2 p ds)) :
    WE K r m (tCall (SpD K T) [] E ta) Q := fun σ H QV e st k =>
  h σ H _ e st fun vs H1 ss m1 x1 so1 rs ⟨p, ds, hp, q⟩ => ⟨stD m1 p, ss.map (bor p ds), _, (so1.frz hp).1, by rw [List.append_nil]; exact rpSs_bor so1 hp rs, q, fun v H' s m' x so rp ⟨a1, a2, a3, q'⟩ => by
    obtain ⟨b1, b2, b3⟩ := bor_back so1 hp x so rp a1 a2 a3
    exact k v H' s _ (x1.trans b1) b2 b3 q'⟩
theorem we_callXB {W : WX} {T : Tr2} {ta : TA} {Q : Sv → Sto → Prop} (h : WA K r m ta fun ss m1 => ∃ p ds, m1 p = some ds ∧ T (ss.map (bor p ds)) (stD m1 p) (fun s m2 => m2 p = none ∧ svNo s = true ∧ (∀ q es, m2 q = some es → D.nolstA es = true) ∧ Q s (stS m2 p ds)) fun _ _ _ => False) :
    WE K r m (tCallX W (SpX K T) ta) Q := fun σ H QV e st k =>
  h σ H _ e st fun vs H1 ss m1 x1 so1 rs ⟨p, ds, hp, q⟩ => ⟨stD m1 p, ss.map (bor p ds), _, _, (so1.frz hp).1, rpSs_bor so1 hp rs, q, fun v H' s m' x so rp ⟨a1, a2, a3, q'⟩ => by
    obtain ⟨b1, b2, b3⟩ := bor_back so1 hp x so rp a1 a2 a3
    exact k v H' s _ (x1.trans b1) b2 b3 q', fun _ _ _ _ _ _ _ _ _ _ z => z.elim⟩
theorem we_callXKB {W : WX} {T : Tr2} {n : Nat} {pm : List Nat} {ta : TA} {Q : Sv → Sto → Prop} (h : WA K r m ta fun ss m1 => ss.length = n ∧ ∃ p ds, m1 p = some ds ∧ T ((pick pm ss).map (bor p ds)) (stD m1 p) (fun s m2 => m2 p = none ∧ svNo s = true ∧ (∀ q es, m2 q = some es → D.nolstA es = true) ∧ Q s (stS m2 p ds)) fun _ _ _ => False) :
    WE K r m (tCallXKw n pm W (SpX K T) ta) Q := fun σ H QV e st k =>
  h σ H _ e st fun vs H1 ss m1 x1 so1 rs ⟨hn, p, ds, hp, q⟩ => ⟨by rw [rs.length]; exact hn, stD m1 p, (pick pm ss).map (bor p ds), _, _, (so1.frz hp).1, rpSs_bor so1 hp (paired_pick rs pm), q, fun v H' s m' x so rp ⟨a1, a2, a3, q'⟩ => by
    obtain ⟨b1, b2, b3⟩ := bor_back so1 hp x so rp a1 a2 a3
    exact k v H' s _ (x1.trans b1) b2 b3 q', fun _ _ _ _ _ _ _ _ _ _ z => z.elim⟩
end
/-! ### displays -/
inductive Vs : List Sv → List D → Prop
  | nil : Vs [] []
  | cons {d : D} {ss : List Sv} {ds : List D} : Vs ss ds → Vs (.val d :: ss) (d :: ds)
theorem Vs.eq : ∀ {ss : List Sv} {ds : List D}, Vs ss ds → ss = ds.map Sv.val
  | _, _, .nil => rfl
  | _, _, .cons h => by rw [h.eq]; rfl
section
variable {K : PySem.W.Frag} {r : Ro} {m : Sto}
theorem we_lstV {t : TA} {Q : Sv → Sto → Prop} (h : WA K r m t fun ss m1 => ∃ ds, Vs ss ds ∧ ds.length ≤ 1000 ∧ Q (.val (.lst ds)) m1) : WE K r m (tLst t) Q :=
  we_lst fun σ H QV e st k => h σ H QV e st fun vs H' ss m' x so rs ⟨ds, h1, h2, q⟩ => k vs H' ss m' x so rs ⟨ds, h1.eq, by omega, q⟩
theorem we_tupV {t : TA} {Q : Sv → Sto → Prop} (h : WA K r m t fun ss m1 => ∃ ds, Vs ss ds ∧ ds.length ≤ 1000 ∧ Q (.val (.tup ds)) m1) : WE K r m (tTup t) Q :=
  we_tup fun σ H QV e st k => h σ H QV e st fun vs H' ss m' x so rs ⟨ds, h1, h2, q⟩ => k vs H' ss m' x so rs ⟨ds, h1.eq, by omega, q⟩
theorem we_cls {a : Addr} {Q : Sv → Sto → Prop} (q : Q (.val (.adr a)) m) : WE K r m (tC (.ref a)) Q := we_c (d := .adr a) (fun _ => .adr a) q
theorem wt_eqI {i : Nat} {a b : Int} (hi : r[i]? = some (some (.val (.int a)))) : WT K r m (tTest (tOp (rD2 K REqR) (tVar i) (tC (.int b)))) fun x m1 => x = decide (a = b) ∧ m1 = m :=
  wt_test (we_op (we_var hi (we_int ⟨_, _, _, rfl, rfl, .mk (.int _ _), _, rfl, rfl, rfl⟩)))
end
/-- two texts in a list -/
theorem req_txt2 {a b : Str} (ha : PyData.strOk a = true) (hb : PyData.strOk b = true) : REq (.lst [.str a, .str b]) (.lst [.str a, .str b]) true := by
  have s : SeqAt.shaped (.list [.str a, .str b]) = true := by
    unfold SeqAt.shaped
    rw [Bool.and_eq_true]
    exact ⟨by simp only [PyData.canLay0, PyData.canLayAll0, ha, hb, Bool.and_self], decide_eq_true (by simp [PyData.depth, PyData.depthAll])⟩
  have h := REq.deep (a := .lst [.str a, .str b]) (b := .lst [.str a, .str b]) (p := .list [.str a, .str b]) (q := .list [.str a, .str b]) rfl rfl s s
  rw [show PyData.eqv (.list [.str a, .str b]) (.list [.str a, .str b]) = true by simp [PyData.eqv, PyData.eqvAll]] at h
  exact h
def reprB (d : D) : Bool := match d.py with
  | some p => p.showable && (decide (p.depth ≤ 60) && (decide (p.shown.length ≤ 10000) && PyData.strOk p.shown))
  | none => false
theorem reprB_ok {d : D} (h : reprB d = true) : ∃ z, RRepr [d] (.v (.str z)) ∧ PyData.strOk z = true := by
  unfold reprB at h
  cases e : d.py with
  | none => rw [e] at h; cases h
  | some p =>
    rw [e] at h
    obtain ⟨h1, h⟩ := He.ba h
    obtain ⟨h2, h⟩ := He.ba h
    obtain ⟨h3, h4⟩ := He.ba h
    exact ⟨_, .mk e h1 (of_decide_eq_true h2) (Nat.le_trans (of_decide_eq_true h3) (by rw [sizeLine_eq]; omega)), h4⟩
def plainB (d : D) : Bool := match d.py with
  | some p => p.canLay0 && decide (p.depth ≤ 60)
  | none => false
theorem plainB_ok {d : D} (h : plainB d = true) : Plain d := by
  unfold plainB at h
  cases e : d.py with
  | none => rw [e] at h; cases h
  | some p =>
    rw [e] at h
    obtain ⟨h1, h2⟩ := He.ba h
    exact ⟨p, e, h1, of_decide_eq_true h2⟩
example : ([.non, .tup [], .tup [.int 1], .str "1", .lst [.bl true], .lst [.str "1"], .lst [.lst [.int 1]], .lst [.int 1, .non, .tup [.int 2]], .int 5] : List D).all reprB = true := by decide +kernel
example : ([.non, .tup [], .tup [.int 1], .str "1", .lst [.bl true], .lst [.str "1"], .lst [.lst [.int 1]], .lst [.int 1, .non, .tup [.int 2]], .int 5] : List D).all plainB = true := by decide +kernel
end Cr

/-! CrR: runs: what they are, their least forms, their values. -/
namespace Ru
open PySem PySem.Spec PyProof.Rows L2 Cr
local macro_rules | `(tactic| walk_at "w") => `(tactic| first
  | with_reducible refine ws_seq ?_ | with_reducible refine ws_asg ?_ | with_reducible refine ws_ret ?_ | with_reducible refine ws_retN ?_ | with_reducible refine ws_drop ?_ | with_reducible refine ws_if ?_
  | with_reducible refine ws_next ?_ | with_reducible refine ws_par ?_ | with_reducible refine ws_par3 ?_
  | with_reducible refine we_int ?_ | with_reducible refine we_str ?_ | with_reducible refine we_bl ?_ | with_reducible refine we_non ?_ | with_reducible refine we_op ?_ | with_reducible refine we_un ?_
  | with_reducible refine we_cb ?_ | with_reducible refine we_if ?_ | with_reducible refine we_tup ?_ | with_reducible refine we_call ?_ | with_reducible refine wa_cons ?_ | with_reducible refine wa_nil ?_
  | with_reducible refine wt_val ?_ | with_reducible refine wt_test ?_ | with_reducible refine wt_and ?_ | with_reducible refine wt_or ?_ | with_reducible refine wt_not ?_ | with_reducible refine wt_yes ?_
  | with_reducible refine we_andV ?_ | with_reducible refine we_orV ?_ | with_reducible refine we_notV ?_ | with_reducible refine we_chain ?_ | with_reducible refine we_slice ?_ | with_reducible refine wo_none ?_ | with_reducible refine wo_some ?_
  | with_reducible refine we_bits ?_ | refine we_var (by rfl) ?_)
local macro_rules | `(tactic| walk_at "i2") => `(tactic| refine ⟨_, _, _, rfl, rfl, .int _ _, ?_⟩)
local macro_rules | `(tactic| walk_at "in") => `(tactic| refine ⟨_, _, rfl, .int _, ?_⟩)


abbrev Wo := Option Int
/-- a run: values, start, slope -/
structure Rn where
  f : List Wo
  s : Wo
  l : Int
abbrev fD (f : List Wo) : D := .lst (f.map hiD)
abbrev rD (r : Rn) : D := .tup [fD r.f, hiD r.s, .int r.l]
theorem plain_w (o : Wo) : Plain (hiD o) := by
  cases o with
  | none => exact plain_non
  | some i => exact plain_int i
theorem hiD_inj {a b : Wo} (h : hiD a = hiD b) : a = b := by
  cases a <;> cases b <;> first | rfl | cases h
  rfl
theorem req_w (a b : Wo) : REq (hiD a) (hiD b) (decide (a = b)) := by
  cases a with
  | none =>
    cases b with
    | none => exact .nn
    | some j =>
      have := REq.deep (a := .non) (b := .int j) (p := .none) (q := .int j) rfl rfl (by unfold SeqAt.shaped; simp [PyData.canLay0, PyData.depth]) (by unfold SeqAt.shaped; simp [PyData.canLay0, PyData.depth])
      rw [show PyData.eqv .none (.int j) = false by simp [PyData.eqv]] at this
      rw [decide_eq_false (by simp)]
      exact this
  | some i =>
    cases b with
    | none =>
      have := REq.deep (a := .int i) (b := .non) (p := .int i) (q := .none) rfl rfl (by unfold SeqAt.shaped; simp [PyData.canLay0, PyData.depth]) (by unfold SeqAt.shaped; simp [PyData.canLay0, PyData.depth])
      rw [show PyData.eqv (.int i) .none = false by simp [PyData.eqv]] at this
      rw [decide_eq_false (by simp)]
      exact this
    | some j =>
      have := REq.int i j
      rw [show decide (some i = some j) = decide (i = j) by simp]
      exact this
/-! ### kinds -/
def worthD : D → Bool
  | .non => true
  | .int _ => true
  | _ => false
theorem worthD_w (o : Wo) : worthD (hiD o) = true := by cases o <;> rfl
theorem worthD_of {d : D} (h : worthD d = true) : ∃ o, d = hiD o := by
  cases d with
  | non => exact ⟨none, rfl⟩
  | int i => exact ⟨some i, rfl⟩
  | _ => cases h
def T_is_worth : Tr := fun ss m Q => ∃ d, ss = [.val d] ∧ Plain d ∧ Q (.val (.bl (worthD d))) m
def t_is_worth (K : PySem.W.Frag) : TS := (tRet (tOrV (tOp (rD2 K RIsR) (tVar 0) (tC .non)) (tCall (SpD K T_is_whole) [] E0 (tCons (tVar 0) tNil))))
theorem m_is_worth {K : PySem.W.Frag} : Ok K ["value"] T_is_worth (t_is_worth K) := by
  rintro ss m Q ⟨d, rfl, hp, q⟩
  unfold t_is_worth
  refine ws_ret (we_orV (we_op (we_var rfl (we_non ⟨_, _, _, rfl, rfl, .mk (.non _), _, rfl, ?_⟩))))
  cases d with
  | non => exact (if_pos rfl).mpr q
  | int i => exact (if_neg Bool.false_ne_true).mpr (we_call (wa_cons (we_var rfl (wa_nil ⟨_, rfl, hp, q⟩))))
  | _ => exact (if_neg Bool.false_ne_true).mpr (we_call (wa_cons (we_var rfl (wa_nil ⟨_, rfl, hp, q⟩))))
/-- lists whose items are plain, of some length -/
def LenOk (d : D) : Prop := ∀ ds, d = .lst ds → ds.length ≤ 100000 ∧ ∀ e ∈ ds, Plain e
def areD : D → Bool
  | .lst ds => ds.all worthD
  | _ => false
theorem areD_f (f : List Wo) : areD (fD f) = true := by
  show (f.map hiD).all worthD = true
  rw [List.all_eq_true]
  intro d hd
  obtain ⟨o, _, rfl⟩ := List.mem_map.mp hd
  exact worthD_w o
theorem areD_of {d : D} (h : areD d = true) : ∃ f, d = fD f := by
  cases d with
  | lst ds =>
    have h' : ∀ x ∈ ds, worthD x = true := List.all_eq_true.mp (show ds.all worthD = true from h)
    have : ∃ f : List Wo, ds = f.map hiD := by
      clear h
      induction ds with
      | nil => exact ⟨[], rfl⟩
      | cons a r ih =>
        obtain ⟨f, hf⟩ := ih fun x hx => h' x (List.mem_cons_of_mem _ hx)
        obtain ⟨o, ho⟩ := worthD_of (h' a List.mem_cons_self)
        exact ⟨o :: f, by rw [ho, hf]; rfl⟩
    obtain ⟨f, rfl⟩ := this
    exact ⟨f, rfl⟩
  | _ => cases h
theorem lenOk_f {f : List Wo} (h : f.length ≤ 100000) : LenOk (fD f) := fun ds e => by
  cases e
  refine ⟨by rw [List.length_map]; exact h, fun d hd => ?_⟩
  obtain ⟨o, _, rfl⟩ := List.mem_map.mp hd
  exact plain_w o
def T_are_worths : Tr := fun ss m Q => ∃ d : D, ss = [.val d] ∧ Plain d ∧ LenOk d ∧ Q (.val (.bl (areD d))) m
def t_are_worths (K : PySem.W.Frag) : TS := (tRet (tAndV (tCB (rDN K RIsi) (tCons (tVar 0) (tCons (tC (.ty "list")) tNil))) (tOp (rD2 K REqR) (tLc (iD K (tVar 0)) (gName 1) (tNot (tB (tCall (SpD K T_is_worth) [] E0 (tCons (tVar 1) tNil)))) (tVar 1) [1]) (tLst tNil))))
theorem m_are_worths {K : PySem.W.Frag} : Ok K ["value", "item"] T_are_worths (t_are_worths K) := by
  rintro ss m Q ⟨d, rfl, hp, hl, q⟩
  unfold t_are_worths
  refine ws_ret (we_andV (we_cb (wa_cons (we_var rfl (wa_cons (we_ty (wa_nil ⟨[d, .ty "list"], _, rfl, isi_lst hp.tn, _, rfl, ?_⟩)))))))
  cases d with
  | lst ds =>
    refine (if_pos rfl).mpr ?_
    obtain ⟨h1, h2⟩ := hl ds rfl
    refine we_op (we_lc (js := [1]) (by decide) (wi_D (we_var rfl ⟨false, ds, rfl, h1, rfl, fun d => !worthD d, fun d => d, fun d hd m' => ?_, ?_⟩)))
    · exact wg_name ((wtN (wt_val (we_call (wa_cons (we_var rfl (wa_nil ⟨d, rfl, h2 d hd, _, rfl, rfl, rfl⟩)))))).imp fun x m2 ⟨e1, e2⟩ => ⟨e1, e2, fun _ => we_var rfl ⟨rfl, rfl⟩⟩)
    · refine we_lst (wa_nil ⟨[], rfl, by decide, _, _, _, rfl, rfl, .mk (reqL_nil fun d hd' => ?_), ?_⟩)
      · obtain ⟨e, he, rfl⟩ := List.mem_map.mp hd'
        exact h2 e (List.mem_filter.mp he).1
      · rw [all_empty]
        exact q
  | scr ns =>
    obtain ⟨p, h1, _⟩ := hp
    cases h1
  | _ => exact (if_neg Bool.false_ne_true).mpr q
/-! ### slopes, steps back -/
def slopeD (s : Wo) : D → Bool
  | .int l => s.isSome || decide (l = 0)
  | _ => false
def T_is_slope : Tr := fun ss m Q => ∃ (s : Wo) (d : D), ss = [.val (hiD s), .val d] ∧ Plain d ∧ Q (.val (.bl (slopeD s d))) m
def t_is_slope (K : PySem.W.Frag) : TS := (tRet (tAndV (tCall (SpD K T_is_whole) [] E0 (tCons (tVar 1) tNil)) (tOrV (tOp (rD2 K RIsN) (tVar 0) (tC .non)) (tOp (rD2 K REqR) (tVar 1) (tC (.int 0))))))
theorem m_is_slope {K : PySem.W.Frag} : Ok K ["start", "slope"] T_is_slope (t_is_slope K) := by
  rintro ss m Q ⟨s, d, rfl, hp, q⟩
  unfold t_is_slope
  refine ws_ret (we_andV (we_call (wa_cons (we_var rfl (wa_nil ⟨d, rfl, hp, _, rfl, ?_⟩)))))
  cases d with
  | int l =>
    refine (if_pos rfl).mpr (we_orV (we_op (we_var rfl (we_non ⟨_, _, _, rfl, rfl, .mk (.non _), _, rfl, ?_⟩))))
    cases s with
    | none =>
      refine (if_neg (by decide)).mpr (we_op (we_var rfl (we_int ⟨_, _, _, rfl, rfl, .mk (.int _ _), ?_⟩)))
      exact q
    | some a => exact (if_pos rfl).mpr q
  | _ => exact (if_neg Bool.false_ne_true).mpr q
def back (s : Wo) (l : Int) : Wo := s.map (· - l)
def T_step_back : Tr := fun ss m Q => ∃ (s : Wo) (l : Int), ss = [.val (hiD s), .val (.int l)] ∧ Q (.val (hiD (back s l))) m
def t_step_back (K : PySem.W.Frag) : TS := (tSeq (tIfS (tTest (tOp (rD2 K RIsR) (tVar 0) (tC .non))) (tRet (tC .non)) tNext) (tRet (tOp (rD2 K RSub) (tVar 0) (tVar 1))))
theorem m_step_back {K : PySem.W.Frag} : Ok K ["start", "slope"] T_step_back (t_step_back K) := by
  rintro ss m Q ⟨s, l, rfl, q⟩
  unfold t_step_back
  cases s with
  | none => exact ws_seq (wsIf (b := true) (wt_test (we_op (we_var rfl (we_non ⟨_, _, _, rfl, rfl, .mk (.non _), _, rfl, rfl, rfl⟩)))) (fun _ => ws_ret (we_non q)) (fun h => by cases h))
  | some a => exact ws_seq (wsIf (b := false) (wt_test (we_op (we_var rfl (we_non ⟨_, _, _, rfl, rfl, .mk (.non _), _, rfl, rfl, rfl⟩)))) (fun h => by cases h) fun _ => ws_next (ws_ret (we_op (we_var rfl (we_var rfl ⟨_, _, _, rfl, rfl, .int _ _, q⟩)))))
/-! ### the least form -/
def shortG (l : Int) : List Wo → Wo → List Wo × Wo
  | [], s => ([], s)
  | x :: r, s => if x = back s l then shortG l r x else (x :: r, s)
def short (r : Rn) : Rn := ⟨(shortG r.l r.f.reverse r.s).1.reverse, (shortG r.l r.f.reverse r.s).2, r.l⟩
def valR (r : Rn) (n : Nat) : Wo := match r.f[n]? with
  | some o => o
  | none => r.s.map fun s => s + r.l * ((n : Int) - r.f.length)
theorem val_step (g : List Wo) (s : Wo) (l : Int) (n : Nat) : valR ⟨g ++ [back s l], s, l⟩ n = valR ⟨g, back s l, l⟩ n := by
  unfold valR
  by_cases h : n < g.length
  · rw [List.getElem?_append_left h]
    have : g[n]? = some g[n] := List.getElem?_eq_getElem h
    simp only [this]
  · rw [List.getElem?_append_right (by omega), List.getElem?_eq_none (by omega : g.length ≤ n)]
    by_cases h2 : n = g.length
    · subst h2
      rw [Nat.sub_self]
      cases s with
      | none => rfl
      | some a => simp [back]
    · obtain ⟨k, hk⟩ : ∃ k, n - g.length = k + 1 := ⟨n - g.length - 1, by omega⟩
      rw [hk]
      cases s with
      | none => rfl
      | some a =>
        simp only [back, Option.map_some, List.length_append, List.length_singleton, List.getElem?_cons_succ, List.getElem?_nil]
        congr 1
        rw [Int.mul_sub, Int.mul_sub]
        have : l * ((g.length + 1 : Nat) : Int) = l * g.length + l := by rw [Int.natCast_add, Int.mul_add]; simp
        rw [this]
        omega
theorem val_shortG (l : Int) : ∀ (r : List Wo) (s : Wo) (n : Nat), valR ⟨(shortG l r s).1.reverse, (shortG l r s).2, l⟩ n = valR ⟨r.reverse, s, l⟩ n
  | [], s, n => rfl
  | x :: r, s, n => by
    unfold shortG
    by_cases h : x = back s l
    · rw [if_pos h, val_shortG l r x n, List.reverse_cons, h, val_step]
    · rw [if_neg h]
theorem val_short (r : Rn) (n : Nat) : valR (short r) n = valR r n := by
  have := val_shortG r.l r.f.reverse r.s n
  rw [List.reverse_reverse] at this
  exact this
/-- as short as can be -/
def lastOk (r : Rn) : Bool := decide (r.f = []) || !decide (r.f.getLast? = some (back r.s r.l))
theorem shortG_last (l : Int) : ∀ (r : List Wo) (s : Wo), (shortG l r s).1 = [] ∨ (shortG l r s).1.head? ≠ some (back (shortG l r s).2 l)
  | [], s => .inl rfl
  | x :: r, s => by
    unfold shortG
    by_cases h : x = back s l
    · rw [if_pos h]; exact shortG_last l r x
    · rw [if_neg h]
      exact .inr fun e => h (Option.some.inj e)
theorem short_last (r : Rn) : lastOk (short r) = true := by
  unfold lastOk short
  rcases shortG_last r.l r.f.reverse r.s with h | h
  · simp [h]
  · by_cases h0 : (shortG r.l r.f.reverse r.s).1 = []
    · simp [h0]
    · rw [Bool.or_eq_true, Bool.not_eq_true']
      right
      rw [List.getLast?_reverse]
      exact decide_eq_false h
theorem shortG_len (l : Int) : ∀ (r : List Wo) (s : Wo), (shortG l r s).1.length ≤ r.length ∧ (∀ x ∈ (shortG l r s).1, x ∈ r) ∧ ((shortG l r s).2 = s ∨ (shortG l r s).2 ∈ r)
  | [], s => ⟨Nat.le_refl _, fun x hx => hx, .inl rfl⟩
  | x :: r, s => by
    unfold shortG
    by_cases h : x = back s l
    · rw [if_pos h]
      obtain ⟨h1, h2, h3⟩ := shortG_len l r x
      refine ⟨Nat.le_succ_of_le h1, fun y hy => List.mem_cons_of_mem _ (h2 y hy), .inr ?_⟩
      rcases h3 with h3 | h3
      · rw [h3]; exact List.mem_cons_self
      · exact List.mem_cons_of_mem _ h3
    · rw [if_neg h]
      exact ⟨Nat.le_refl _, fun y hy => hy, .inl rfl⟩
theorem short_len (r : Rn) : (short r).f.length ≤ r.f.length := by
  show (shortG r.l r.f.reverse r.s).1.reverse.length ≤ _
  rw [List.length_reverse]
  have := (shortG_len r.l r.f.reverse r.s).1
  rw [List.length_reverse] at this
  exact this
theorem short_none (r : Rn) (h : r.s.isSome = true ∨ r.l = 0) : (short r).s.isSome = true ∨ (short r).l = 0 := by
  rcases h with h | h
  · left
    show (shortG r.l r.f.reverse r.s).2.isSome = true
    generalize r.f.reverse = g
    generalize hs : r.s = s at h
    clear hs
    induction g generalizing s with
    | nil => exact h
    | cons x g ih =>
      unfold shortG
      by_cases hx : x = back s r.l
      · rw [if_pos hx]
        refine ih x ?_
        rw [hx]
        cases s with
        | none => cases h
        | some a => rfl
      · rw [if_neg hx]; exact h
  · exact .inr h
/-- a new list of its own -/
def T_shortened : Tr := fun ss m Q => ∃ r : Rn, ss = [.val (fD r.f), .val (hiD r.s), .val (.int r.l)] ∧ r.f.length ≤ 100000 ∧ ∀ p, m p = none → Q (.val (.tup [.adr p, hiD (short r).s, .int r.l])) (stS m p ((short r).f.map hiD))
def t_shortened (K : PySem.W.Frag) : TS := (tSeq (tAsg (tCB (rDN K RLen) (tCons (tVar 0) tNil)) (gName 3)) (tSeq (tWhile (tAnd (tTest (tOp (rD2 K RGt) (tVar 3) (tC (.int 0)))) (tTest (tOp (rD2 K REqR) (tOp (rD2 K RIx) (tVar 0) (tOp (rD2 K RSub) (tVar 3) (tC (.int 1)))) (tCall (SpD K T_step_back) [] E0 (tCons (tVar 1) (tCons (tVar 2) tNil)))))) (tSeq (tAsg (tOp (rD2 K RSub) (tVar 3) (tC (.int 1))) (gName 3)) (tAsg (tOp (rD2 K RIx) (tVar 0) (tVar 3)) (gName 1)))) (tRet (tTup (tCons (tSl (rSlD K) (tVar 0) tNoPart (tPart (tVar 3))) (tCons (tVar 1) (tCons (tVar 2) tNil)))))))
theorem atI_natE {α : Type} {xs : List α} {i : Nat} {x : α} (h : xs[i]? = some x) : atI xs (i : Int) = some x := by
  have hi := (List.getElem?_eq_some_iff.mp h).1
  rw [atI_natV hi]
  rw [List.getElem?_eq_getElem hi] at h
  exact h
theorem cut_take (ds : List D) (n : Nat) (h : n ≤ ds.length) : cutD ds none (some (n : Int)) = ds.take n := by
  unfold Cr.cutD
  rw [HT.sIx_none, HT.sIx_nat]
  rw [Nat.min_eq_left h]
  rfl
theorem m_shortened {K : PySem.W.Frag} : Ok K ["first", "start", "slope", "end"] T_shortened (t_shortened K) := by
  rintro ss m Q ⟨r, rfl, hl, q⟩
  obtain ⟨f, s, l⟩ := r
  unfold t_shortened
  refine ws_seq (ws_asg (we_cb (wa_cons (we_var rfl (wa_nil ⟨_, _, rfl, .lst _, ?_⟩)))))
  show WS K _ [some (.val (fD f)), some (.val (hiD s)), some (.val (.int l)), some (.val (.int ((f.map hiD).length : Nat)))] m _ _
  rw [List.length_map]
  refine ws_seq (ws_while (fun n r' m' => m' = m ∧ ∃ s' : Wo, n ≤ f.length ∧ r' = [some (.val (fD f)), some (.val (hiD s')), some (.val (.int l)), some (.val (.int (n : Nat)))] ∧ shortG l (f.take n).reverse s' = shortG l f.reverse s) f.length ⟨rfl, s, Nat.le_refl _, rfl, by rw [List.take_length]⟩ ?_)
  rintro n r' m' ⟨rfl, s', hn, rfl, hs⟩
  have fin : (f.take n).reverse = [] ∨ (∃ x, (f.take n).reverse.head? = some x ∧ x ≠ back s' l) → WS K (dom m') [some (.val (fD f)), some (.val (hiD s')), some (.val (.int l)), some (.val (.int (n : Nat)))] m' (tRet (tTup (tCons (tSl (rSlD K) (tVar 0) tNoPart (tPart (tVar 3))) (tCons (tVar 1) (tCons (tVar 2) tNil))))) { nx := fun _ m' => Q (.val .non) m', rt := Q } := fun hstop => by
    have hst : shortG l (f.take n).reverse s' = ((f.take n).reverse, s') := by
      rcases hstop with h | ⟨x, h1, h2⟩
      · rw [h]; rfl
      · cases e : (f.take n).reverse with
        | nil => rw [e] at h1; cases h1
        | cons y z =>
          rw [e] at h1
          cases h1
          unfold shortG
          rw [if_neg h2]
    rw [hst] at hs
    have e1 : (short ⟨f, s, l⟩).f = f.take n := by
      show (shortG l f.reverse s).1.reverse = _
      rw [← hs, List.reverse_reverse]
    have e2 : (short ⟨f, s, l⟩).s = s' := by
      show (shortG l f.reverse s).2 = _
      rw [← hs]
    refine ws_ret (we_tupA (wa_cons (we_sliceO (we_var rfl (wo_none (wo_some (we_var rfl ⟨_, rfl, _, _, rfl, .lst _ _ _, fun p hp => wa_cons (we_var rfl (wa_cons (we_var rfl (wa_nil ⟨by show 3 ≤ 100000; decide, ?_⟩))))⟩)))))))
    have := q p hp
    rw [e1, e2] at this
    rw [cut_take _ _ (by rw [List.length_map]; exact hn), ← List.map_take]
    exact this
  refine (wtA (a := decide (0 < n)) (b := decide ((f.take n).reverse.head? = some (back s' l))) (wt_test (we_op (we_var rfl (we_int ⟨_, _, _, rfl, rfl, .int _ _, _, rfl, by simp, rfl⟩)))) fun h0 => ?_).imp fun b m2 ⟨hb, hm⟩ => ?_
  · have hn0 : 0 < n := of_decide_eq_true h0
    have hlt : n - 1 < f.length := by omega
    have hg : f[n - 1]? = some f[n - 1] := List.getElem?_eq_getElem hlt
    have hh : (f.take n).reverse.head? = some f[n - 1] := by
      rw [List.head?_reverse, List.getLast?_take, if_neg (by omega), hg]
      rfl
    refine wt_test (we_op (we_op (we_var rfl (we_op (we_var rfl (we_int ⟨_, _, _, rfl, rfl, .int _ _, ?_⟩))))))
    have ei : ((n : Nat) : Int) - 1 = ((n - 1 : Nat) : Int) := by omega
    refine ⟨_, _, _, rfl, rfl, .lst (d := hiD f[n - 1]) (by rw [ei]; exact atI_natE (by rw [List.getElem?_map, hg]; rfl)), ?_⟩
    refine we_call (wa_cons (we_var rfl (wa_cons (we_var rfl (wa_nil ⟨s', l, rfl, _, _, _, rfl, rfl, .mk (req_w _ _), _, rfl, ?_, rfl⟩)))))
    rw [hh]
    simp
  · subst hm
    by_cases h0 : 0 < n
    · have hlt : n - 1 < f.length := by omega
      have hg : f[n - 1]? = some f[n - 1] := List.getElem?_eq_getElem hlt
      have hh : (f.take n).reverse = f[n - 1] :: (f.take (n - 1)).reverse := by
        have : f.take n = f.take (n - 1) ++ [f[n - 1]] := by
          have := List.take_add_one (l := f) (i := n - 1)
          rw [show n - 1 + 1 = n by omega, hg] at this
          exact this
        rw [this, List.reverse_append]
        rfl
      rw [decide_eq_true h0, Bool.true_and, hh] at hb
      by_cases hx : f[n - 1] = back s' l
      · rw [hb, decide_eq_true (by rw [hx]; rfl), if_pos rfl]
        have ei : ((n : Nat) : Int) - 1 = ((n - 1 : Nat) : Int) := by omega
        refine ws_seq (ws_asg (we_op (we_var rfl (we_int ⟨_, _, _, rfl, rfl, .int _ _, ?_⟩))))
        show WS K _ [some (.val (fD f)), some (.val (hiD s')), some (.val (.int l)), some (.val (.int (((n : Nat) : Int) - 1)))] m2 _ _
        rw [ei]
        refine ws_asg (we_op (we_var rfl (we_var rfl ⟨_, _, _, rfl, rfl, .lst (d := hiD f[n - 1]) (atI_natE (by rw [List.getElem?_map, hg]; rfl)), ?_⟩)))
        refine ⟨n - 1, by omega, rfl, f[n - 1], by omega, rfl, ?_⟩
        rw [← hs, hh]
        show _ = if f[n - 1] = back s' l then _ else _
        rw [if_pos hx]
      · rw [hb, List.head?_cons, decide_eq_false (fun z => hx (Option.some.inj z)), if_neg Bool.false_ne_true]
        exact fin (.inr ⟨f[n - 1], by rw [hh]; rfl, hx⟩)
    · rw [decide_eq_false h0, Bool.false_and] at hb
      rw [hb, if_neg Bool.false_ne_true]
      refine fin (.inl ?_)
      have : n = 0 := by omega
      subst this
      rfl
/-! ### is a run; refusals -/
def wOf : D → Wo
  | .int i => some i
  | _ => none
theorem wOf_w (o : Wo) : wOf (hiD o) = o := by cases o <;> rfl
theorem map_wOf (f : List Wo) : (f.map hiD).map wOf = f := by
  rw [List.map_map]
  have : (wOf ∘ hiD) = id := funext wOf_w
  rw [this, List.map_id]
def tailB (a b c : D) : Bool := match a, c with
  | .lst ds, .int l => lastOk ⟨ds.map wOf, wOf b, l⟩
  | _, _ => true
/-- the test of a run, for any data -/
def runB : D → Bool
  | .tup [a, b, c] => areD a && (worthD b && (slopeD (wOf b) c && tailB a b c))
  | _ => false
def pw : Wo → PyData
  | none => .none
  | some i => .int i
theorem py_w (o : Wo) : (hiD o).py = some (pw o) := by cases o <;> rfl
theorem pyA_f : ∀ f : List Wo, D.pyA (f.map hiD) = some (f.map pw)
  | [] => rfl
  | o :: f => by
    show D.pyA (hiD o :: f.map hiD) = _
    simp only [D.pyA, py_w, pyA_f f]
    rfl
theorem canLay_f : ∀ f : List Wo, PyData.canLayAll0 (f.map pw) = true ∧ PyData.depthAll (f.map pw) ≤ 1
  | [] => ⟨by simp [PyData.canLayAll0], by simp [PyData.depthAll]⟩
  | o :: f => by
    obtain ⟨h1, h2⟩ := canLay_f f
    cases o <;> exact ⟨by simp [PyData.canLayAll0, PyData.canLay0, pw, h1], by simp [PyData.depthAll, PyData.depth, pw]; omega⟩
theorem py_f (f : List Wo) : (fD f).py = some (.list (f.map pw)) := by
  show D.py (.lst _) = _
  simp only [D.py, pyA_f]
  rfl
theorem plain_f (f : List Wo) : Plain (fD f) := by
  obtain ⟨h1, h2⟩ := canLay_f f
  exact ⟨_, py_f f, by simpa only [PyData.canLay0] using h1, by simp only [PyData.depth]; omega⟩
theorem runB_r (r : Rn) : runB (rD r) = ((r.s.isSome || decide (r.l = 0)) && lastOk r) := by
  show (areD (fD r.f) && (worthD (hiD r.s) && (slopeD (wOf (hiD r.s)) (.int r.l) && lastOk ⟨(r.f.map hiD).map wOf, wOf (hiD r.s), r.l⟩))) = _
  rw [areD_f, worthD_w, wOf_w, map_wOf]
  rfl
theorem runB_of {d : D} (h : runB d = true) : ∃ r, d = rD r ∧ (r.s.isSome = true ∨ r.l = 0) ∧ lastOk r = true := by
  match d, h with
  | .tup [a, b, c], h =>
    obtain ⟨h1, h⟩ := Bool.and_eq_true_iff.mp (show (areD a && (worthD b && (slopeD (wOf b) c && tailB a b c))) = true from h)
    obtain ⟨h2, h⟩ := Bool.and_eq_true_iff.mp h
    obtain ⟨h3, h⟩ := Bool.and_eq_true_iff.mp h
    obtain ⟨f, rfl⟩ := areD_of h1
    obtain ⟨o, rfl⟩ := worthD_of h2
    rw [wOf_w] at h3
    match c, h3, h with
    | .int l, h3, h =>
      have h' : lastOk ⟨(f.map hiD).map wOf, wOf (hiD o), l⟩ = true := h
      rw [map_wOf, wOf_w] at h'
      refine ⟨⟨f, o, l⟩, rfl, ?_, h'⟩
      have h4 : (o.isSome || decide (l = 0)) = true := h3
      rcases Bool.or_eq_true_iff.mp h4 with z | z
      · exact .inl z
      · exact .inr (of_decide_eq_true z)
/-- data that is_run is asked of -/
def RunQ (d : D) : Prop := d.tn.isSome = true ∧ (∀ ds, d = .tup ds → ds.length ≤ 100000) ∧ ∀ a b c, d = .tup [a, b, c] → (Plain a ∧ LenOk a) ∧ Plain b ∧ Plain c
theorem runQ_r {r : Rn} (h : r.f.length ≤ 100000) : RunQ (rD r) := ⟨rfl, fun ds e => by cases e; show 3 ≤ 100000; decide, fun a b c e => by
  cases e
  exact ⟨⟨plain_f _, lenOk_f h⟩, plain_w _, plain_int _⟩⟩
def T_is_run : Tr := fun ss m Q => ∃ d : D, ss = [.val d] ∧ RunQ d ∧ Q (.val (.bl (runB d))) m
def t_is_run (K : PySem.W.Frag) : TS := (tSeq (tIfS (tOr (tNot (tB (tCB (rDN K RIsi) (tCons (tVar 0) (tCons (tC (.ty "tuple")) tNil))))) (tTest (tOp (rD2 K RNeR) (tCB (rDN K RLen) (tCons (tVar 0) tNil)) (tC (.int 3))))) (tRet (tC (.bl false))) tNext) (tSeq (tAsg (tVar 0) (gTup K 3 (gCons (gName 1) (gCons (gName 2) (gCons (gName 3) gNil))))) (tSeq (tIfS (tOr (tNot (tB (tCall (SpD K T_are_worths) [] E0 (tCons (tVar 1) tNil)))) (tOr (tNot (tB (tCall (SpD K T_is_worth) [] E0 (tCons (tVar 2) tNil)))) (tNot (tB (tCall (SpD K T_is_slope) [] E0 (tCons (tVar 2) (tCons (tVar 3) tNil))))))) (tRet (tC (.bl false))) tNext) (tRet (tOrV (tOp (rD2 K REqR) (tVar 1) (tLst tNil)) (tOp (rD2 K RNeR) (tOp (rD2 K RIx) (tVar 1) (tUn (rD1 K RNeg) (tC (.int 1)))) (tCall (SpD K T_step_back) [] E0 (tCons (tVar 2) (tCons (tVar 3) tNil)))))))))
theorem m_is_run {K : PySem.W.Frag} : Ok K ["value", "first", "start", "slope"] T_is_run (t_is_run K) := by
  rintro ss m Q ⟨d, rfl, ⟨ht, hl, hp⟩, q⟩
  unfold t_is_run
  by_cases h3 : ∃ a b c, d = .tup [a, b, c]
  · obtain ⟨a, b, c, rfl⟩ := h3
    obtain ⟨⟨pa, la⟩, pb, pc⟩ := hp a b c rfl
    refine ws_seq (wsIf (b := false) (wtO (a := false) (b := false) (wtN (a := true) (wt_val (we_cb (wa_cons (we_var rfl (wa_cons (we_ty (wa_nil ⟨[.tup [a, b, c], .ty "tuple"], _, rfl, isi_tup rfl, true, rfl, rfl, rfl⟩)))))))) fun _ =>
      wt_test (we_op (we_cb (wa_cons (we_var rfl (wa_nil ⟨_, _, rfl, .tup _, we_int ⟨_, _, _, rfl, rfl, .mk (.int _ _), _, rfl, rfl, rfl⟩⟩)))))) (fun h => by cases h) fun _ => ws_next ?_)
    refine ws_seq (ws_asgG ([1] ++ ([2] ++ ([3] ++ []))) (we_var rfl (wg_tup rfl (wgs_cons (wg_name (wgs_cons (wg_name (wgs_cons (wg_name (wgs_nil ?_))))))))))
    show WS K _ [some (.val (.tup [a, b, c])), some (.val a), some (.val b), some (.val c)] m _ _
    have no : ∀ {P : Eds}, runB (.tup [a, b, c]) = false → P.rt = Q → WS K (dom m) [some (.val (.tup [a, b, c])), some (.val a), some (.val b), some (.val c)] m (tRet (tC (.bl false))) P := fun {P} e1 e2 => by
      refine ws_ret (we_bl ?_)
      rw [e2, ← e1]
      exact q
    have hr : runB (.tup [a, b, c]) = (areD a && (worthD b && (slopeD (wOf b) c && tailB a b c))) := rfl
    by_cases h1 : areD a = true
    · by_cases h2 : worthD b = true
      · obtain ⟨s, rfl⟩ := worthD_of h2
        obtain ⟨f, rfl⟩ := areD_of h1
        by_cases h4 : slopeD s c = true
        · obtain ⟨l, rfl⟩ : ∃ l, c = .int l := by
            cases c with
            | int l => exact ⟨l, rfl⟩
            | _ => cases h4
          refine ws_seq (wsIf (b := false) (wtO (a := false) (b := false) (wtN (a := true) (wt_val (we_call (wa_cons (we_var rfl (wa_nil ⟨_, rfl, pa, la, _, rfl, h1, rfl⟩)))))) fun _ => wtO (a := false) (b := false) (wtN (a := true) (wt_val (we_call (wa_cons (we_var rfl (wa_nil ⟨_, rfl, pb, _, rfl, h2, rfl⟩)))))) fun _ =>
            wtN (a := true) (wt_val (we_call (wa_cons (we_var rfl (wa_cons (we_var rfl (wa_nil ⟨s, _, rfl, pc, _, rfl, h4, rfl⟩)))))))) (fun h => by cases h) fun _ => ws_next ?_)
          have e : runB (.tup [fD f, hiD s, .int l]) = lastOk ⟨f, s, l⟩ := by
            have := runB_r ⟨f, s, l⟩
            have h5 : (s.isSome || decide (l = 0)) = true := h4
            rw [show (Rn.mk f s l).s.isSome = s.isSome from rfl, show (Rn.mk f s l).l = l from rfl, h5, Bool.true_and] at this
            exact this
          have hf : ∀ d ∈ f.map hiD, Plain d := (la _ rfl).2
          refine ws_ret (we_orV (we_op (we_var rfl (we_lst (wa_nil ⟨[], rfl, by decide, _, _, _, rfl, rfl, .mk (reqL_nil hf), _, rfl, ?_⟩)))))
          cases hfe : f with
          | nil =>
            refine (if_pos rfl).mpr ?_
            rw [hfe] at e q
            rw [show runB (.tup [fD [], hiD s, .int l]) = true by rw [e]; rfl] at q
            exact q
          | cons x g =>
            refine (if_neg (by simp)).mpr ?_
            obtain ⟨y, hy⟩ : ∃ y, f.getLast? = some y := by
              rw [hfe]
              exact ⟨_, List.getLast?_eq_getLast (by simp)⟩
            rw [← hfe]
            refine we_op (we_op (we_var rfl (we_un (we_int ⟨_, _, rfl, .int _, _, _, _, rfl, rfl, .lst (d := hiD y) ?_, we_call (wa_cons (we_var rfl (wa_cons (we_var rfl (wa_nil ⟨s, l, rfl, _, _, _, rfl, rfl, .mk (req_w _ _), ?_⟩)))))⟩))))
            · unfold atI ixN
              have hn : 0 < f.length := by rw [hfe]; simp
              rw [List.length_map, if_neg (by decide), if_pos (by omega)]
              show (f.map hiD)[((-1 : Int) + (f.length : Int)).toNat]? = _
              rw [show ((-1 : Int) + (f.length : Int)).toNat = f.length - 1 by omega, List.getElem?_map, ← List.getLast?_eq_getElem?, hy]
              rfl
            · have e6 : (!decide (y = back s l)) = lastOk ⟨f, s, l⟩ := by
                unfold lastOk
                rw [hy]
                have : decide (f = []) = false := decide_eq_false (by rw [hfe]; simp)
                rw [this, Bool.false_or]
                simp
              show Q (.val (.bl (!decide (y = back s l)))) m
              rw [e6, ← e]
              exact q
        · have h4' : slopeD s c = false := by simpa using h4
          refine ws_seq (wsIf (b := true) (wtO (a := false) (b := true) (wtN (a := true) (wt_val (we_call (wa_cons (we_var rfl (wa_nil ⟨_, rfl, pa, la, _, rfl, h1, rfl⟩)))))) fun _ => wtO (a := false) (b := true) (wtN (a := true) (wt_val (we_call (wa_cons (we_var rfl (wa_nil ⟨_, rfl, pb, _, rfl, h2, rfl⟩)))))) fun _ =>
            wtN (a := false) (wt_val (we_call (wa_cons (we_var rfl (wa_cons (we_var rfl (wa_nil ⟨s, _, rfl, pc, _, rfl, h4', rfl⟩)))))))) (fun _ => no (by rw [hr, wOf_w, h4', Bool.false_and, Bool.and_false, Bool.and_false]) rfl) (fun h => by cases h))
      · have h2' : worthD b = false := by simpa using h2
        refine ws_seq (wsIf (b := true) (wtO (a := false) (b := true) (wtN (a := true) (wt_val (we_call (wa_cons (we_var rfl (wa_nil ⟨_, rfl, pa, la, _, rfl, h1, rfl⟩)))))) fun _ => (wt_or ((wtN (a := false) (wt_val (we_call (wa_cons (we_var rfl (wa_nil ⟨_, rfl, pb, _, rfl, h2', rfl⟩)))))).imp fun x m1 ⟨e1, e2⟩ => by
          subst e1 e2
          exact (if_pos rfl).mpr ⟨rfl, rfl⟩))) (fun _ => no (by rw [hr, h2', Bool.false_and, Bool.and_false]) rfl) (fun h => by cases h))
    · have h1' : areD a = false := by simpa using h1
      refine ws_seq (wsIf (b := true) (wt_or ((wtN (a := false) (wt_val (we_call (wa_cons (we_var rfl (wa_nil ⟨_, rfl, pa, la, _, rfl, h1', rfl⟩)))))).imp fun x m1 ⟨e1, e2⟩ => by
          subst e1 e2
          exact (if_pos rfl).mpr ⟨rfl, rfl⟩)) (fun _ => no (by rw [hr, h1', Bool.false_and]) rfl) (fun h => by cases h))
  · -- no tuple of three
    have hq : runB d = false := by
      cases d with
      | tup ds =>
        match ds, h3 with
        | [], _ => rfl
        | [_], _ => rfl
        | [_, _], _ => rfl
        | [a, b, c], h => exact absurd ⟨a, b, c, rfl⟩ h
        | _ :: _ :: _ :: _ :: _, _ => rfl
      | _ => rfl
    rw [hq] at q
    cases hd : isTup d with
    | false =>
      refine ws_seq (wsIf (b := true) (wt_or ((wtN (a := false) (wt_val (we_cb (wa_cons (we_var rfl (wa_cons (we_ty (wa_nil ⟨[d, .ty "tuple"], _, rfl, isi_tup ht, false, by rw [hd]; rfl, rfl, rfl⟩)))))))).imp fun x m1 ⟨e1, e2⟩ => by
        subst e1 e2
        exact (if_pos rfl).mpr ⟨rfl, rfl⟩)) (fun _ => ws_ret (we_bl q)) (fun h => by cases h))
    | true =>
      cases d with
      | tup ds =>
        have hne : (decide ((ds.length : Int) = 3)) = false := by
          refine decide_eq_false fun z => ?_
          match ds, h3, z with
          | [a, b, c], h, _ => exact h ⟨a, b, c, rfl⟩
        refine ws_seq (wsIf (b := true) (wtO (a := false) (b := true) (wtN (a := true) (wt_val (we_cb (wa_cons (we_var rfl (wa_cons (we_ty (wa_nil ⟨[.tup ds, .ty "tuple"], _, rfl, isi_tup rfl, true, rfl, rfl, rfl⟩)))))))) fun _ =>
          wt_test (we_op (we_cb (wa_cons (we_var rfl (wa_nil ⟨_, _, rfl, .tup _, we_int ⟨_, _, _, rfl, rfl, .mk (.int _ _), _, rfl, by rw [hne]; rfl, rfl⟩⟩)))))) (fun _ => ws_ret (we_bl q)) (fun h => by cases h))
      | _ => cases hd
/-! ### refusals -/
def T_check_run (K : PySem.W.Frag) : Tr2 := fun ss m Q X => ∃ d : D, ss = [.val d] ∧ RunQ d ∧ (if runB d = true then Q (.val .non) m else X (He.ga K "InvalidRun") [("value", d)] m)
def t_check_run (K : PySem.W.Frag) (W : WX) : TS := (tIfS (tNot (tB (tCall (SpD K T_is_run) [] E0 (tCons (tVar 0) tNil)))) (tRaise W (He.ga K "InvalidRun") (tVar 0)) tNext)
theorem m_check_run {K : PySem.W.Frag} : OkX K ["run"] (T_check_run K) (t_check_run K) := by
  rintro W ss m Q X ⟨d, rfl, hd, q⟩
  unfold t_check_run
  refine wsIf (wtN (a := runB d) (wt_val (we_call (wa_cons (we_var rfl (wa_nil ⟨d, rfl, hd, _, rfl, rfl, rfl⟩)))))) (fun h => ?_) fun h => ws_next ?_
  · have h' : runB d = false := by simpa using h
    rw [h', if_neg Bool.false_ne_true] at q
    exact ws_raise (we_var rfl ⟨d, rfl, q⟩)
  · have h' : runB d = true := by simpa using h
    rw [h', if_pos rfl] at q
    exact q
def T_check_number (K : PySem.W.Frag) : Tr2 := fun ss m Q X => ∃ (d : D) (lo : Int) (hi : Wo), ss = [.val d, .val (.int lo), .val (hiD hi)] ∧ Plain d ∧ (if betD d lo hi = true then Q (.val .non) m else X (He.ga K "InvalidNumber") [("value", d)] m)
def t_check_number (K : PySem.W.Frag) (W : WX) : TS := (tIfS (tNot (tB (tCall (SpD K T_is_between) [] E0 (tCons (tVar 0) (tCons (tVar 1) (tCons (tVar 2) tNil)))))) (tRaise W (He.ga K "InvalidNumber") (tVar 0)) tNext)
theorem m_check_number {K : PySem.W.Frag} : OkX K ["number", "low", "high"] (T_check_number K) (t_check_number K) := by
  rintro W ss m Q X ⟨d, lo, hi, rfl, hd, q⟩
  unfold t_check_number
  refine wsIf (wtN (a := betD d lo hi) (wt_val (we_call (wa_cons (we_var rfl (wa_cons (we_var rfl (wa_cons (we_var rfl (wa_nil ⟨d, lo, hi, rfl, hd, _, rfl, rfl, rfl⟩)))))))))) (fun h => ?_) fun h => ws_next ?_
  · have h' : betD d lo hi = false := by simpa using h
    rw [h', if_neg Bool.false_ne_true] at q
    exact ws_raise (we_var rfl ⟨d, rfl, q⟩)
  · have h' : betD d lo hi = true := by simpa using h
    rw [h', if_pos rfl] at q
    exact q
/-- what least_run does with its arguments -/
inductive LeastQ (K : PySem.W.Frag) (m : Sto) (Q : Sv → Sto → Prop) (X : Addr → List (Str × D) → Sto → Prop) : D → D → D → Prop
  | ok (r : Rn) : r.f.length ≤ 100000 → (r.s.isSome = true ∨ r.l = 0) → (∀ p, m p = none → Q (.val (.tup [.adr p, hiD (short r).s, .int r.l])) (stS m p ((short r).f.map hiD))) → LeastQ K m Q X (fD r.f) (hiD r.s) (.int r.l)
  | lst {a b c : D} : Plain a → LenOk a → areD a = false → X (He.ga K "InvalidList") [("value", a)] m → LeastQ K m Q X a b c
  | num {f : List Wo} {b c : D} : f.length ≤ 100000 → Plain b → worthD b = false → X (He.ga K "InvalidNumber") [("value", b)] m → LeastQ K m Q X (fD f) b c
  | slope {f : List Wo} {s : Wo} {c : D} : f.length ≤ 100000 → Plain c → slopeD s c = false → X (He.ga K "InvalidNumber") [("value", c)] m → LeastQ K m Q X (fD f) (hiD s) c
def T_least_run (K : PySem.W.Frag) : Tr2 := fun ss m Q X => ∃ a b c : D, ss = [.val a, .val b, .val c] ∧ LeastQ K m Q X a b c
def t_least_run (K : PySem.W.Frag) (W : WX) : TS := (tSeq (tIfS (tNot (tB (tCall (SpD K T_are_worths) [] E0 (tCons (tVar 0) tNil)))) (tRaise W (He.ga K "InvalidList") (tVar 0)) tNext) (tSeq (tIfS (tNot (tB (tCall (SpD K T_is_worth) [] E0 (tCons (tVar 1) tNil)))) (tRaise W (He.ga K "InvalidNumber") (tVar 1)) tNext) (tSeq (tIfS (tNot (tB (tCall (SpD K T_is_slope) [] E0 (tCons (tVar 1) (tCons (tVar 2) tNil))))) (tRaise W (He.ga K "InvalidNumber") (tVar 2)) tNext) (tRet (tCall (SpD K T_shortened) [] E0 (tCons (tVar 0) (tCons (tVar 1) (tCons (tVar 2) tNil))))))))
theorem m_least_run {K : PySem.W.Frag} : OkX K ["first", "start", "slope"] (T_least_run K) (t_least_run K) := by
  rintro W ss m Q X ⟨a, b, c, rfl, h⟩
  unfold t_least_run
  have t1 : ∀ {d e f : D} {x : Bool}, Plain d → LenOk d → areD d = x → WT K [some (.val d), some (.val e), some (.val f)] m (tNot (tB (tCall (SpD K T_are_worths) [] E0 (tCons (tVar 0) tNil)))) fun y m1 => y = (!x) ∧ m1 = m := fun h1 h2 h3 =>
    wtN (wt_val (we_call (wa_cons (we_var rfl (wa_nil ⟨_, rfl, h1, h2, _, rfl, h3, rfl⟩)))))
  have t2 : ∀ {d e f : D} {x : Bool}, Plain e → worthD e = x → WT K [some (.val d), some (.val e), some (.val f)] m (tNot (tB (tCall (SpD K T_is_worth) [] E0 (tCons (tVar 1) tNil)))) fun y m1 => y = (!x) ∧ m1 = m := fun h1 h3 =>
    wtN (wt_val (we_call (wa_cons (we_var rfl (wa_nil ⟨_, rfl, h1, _, rfl, h3, rfl⟩)))))
  have t3 : ∀ {d f : D} {s : Wo} {x : Bool}, Plain f → slopeD s f = x → WT K [some (.val d), some (.val (hiD s)), some (.val f)] m (tNot (tB (tCall (SpD K T_is_slope) [] E0 (tCons (tVar 1) (tCons (tVar 2) tNil))))) fun y m1 => y = (!x) ∧ m1 = m := fun h1 h3 =>
    wtN (wt_val (we_call (wa_cons (we_var rfl (wa_cons (we_var rfl (wa_nil ⟨_, _, rfl, h1, _, rfl, h3, rfl⟩)))))))
  cases h with
  | ok r h1 h2 q =>
    have h3 : slopeD r.s (.int r.l) = true := by
      show (r.s.isSome || decide (r.l = 0)) = true
      rcases h2 with h | h
      · rw [h]; rfl
      · rw [decide_eq_true h, Bool.or_true]
    refine ws_seq (wsIf (t1 (plain_f _) (lenOk_f h1) (areD_f _)) (fun h => by cases h) fun _ => ws_next (ws_seq (wsIf (t2 (plain_w _) (worthD_w _)) (fun h => by cases h) fun _ => ws_next (ws_seq (wsIf (t3 (plain_int _) h3) (fun h => by cases h) fun _ => ws_next ?_)))))
    exact ws_ret (we_call (wa_cons (we_var rfl (wa_cons (we_var rfl (wa_cons (we_var rfl (wa_nil ⟨r, rfl, h1, q⟩))))))))
  | lst h1 h2 h3 q => exact ws_seq (wsIf (t1 h1 h2 h3) (fun _ => ws_raise (we_var rfl ⟨a, rfl, q⟩)) (fun h => by cases h))
  | num h1 h2 h3 q => exact ws_seq (wsIf (t1 (plain_f _) (lenOk_f h1) (areD_f _)) (fun h => by cases h) fun _ => ws_next (ws_seq (wsIf (t2 h2 h3) (fun _ => ws_raise (we_var rfl ⟨b, rfl, q⟩)) (fun h => by cases h))))
  | slope h1 h2 h3 q =>
    exact ws_seq (wsIf (t1 (plain_f _) (lenOk_f h1) (areD_f _)) (fun h => by cases h) fun _ => ws_next (ws_seq (wsIf (t2 (plain_w _) (worthD_w _)) (fun h => by cases h) fun _ => ws_next (ws_seq (wsIf (t3 h2 h3) (fun _ => ws_raise (we_var rfl ⟨c, rfl, q⟩)) (fun h => by cases h))))))
/-! ### values -/
def sml (i : Int) : Prop := i.natAbs ≤ 10 ^ 400
theorem mul_sml {i j : Int} (hi : sml i) (hj : sml j) : i.natAbs.log2 + j.natAbs.log2 < 1000000 := mulOk (B := 10 ^ 400) (C := 10 ^ 400) hi hj (by decide +kernel)
def T_value_of : Tr := fun ss m Q => ∃ (r : Rn) (n : Nat), ss = [.val (rD r), .val (.int n)] ∧ sml r.l ∧ n ≤ 10 ^ 400 ∧ Q (.val (hiD (valR r n))) m
def t_value_of (K : PySem.W.Frag) : TS := (tSeq (tAsg (tVar 0) (gTup K 3 (gCons (gName 2) (gCons (gName 3) (gCons (gName 4) gNil))))) (tSeq (tIfS (tTest (tOp (rD2 K RLt) (tVar 1) (tCB (rDN K RLen) (tCons (tVar 2) tNil)))) (tRet (tOp (rD2 K RIx) (tVar 2) (tVar 1))) tNext) (tSeq (tIfS (tTest (tOp (rD2 K RIsR) (tVar 3) (tC .non))) (tRet (tC .non)) tNext) (tRet (tOp (rD2 K RAdd) (tVar 3) (tOp (rD2 K RMul) (tVar 4) (tOp (rD2 K RSub) (tVar 1) (tCB (rDN K RLen) (tCons (tVar 2) tNil)))))))))
theorem m_value_of {K : PySem.W.Frag} : Ok K ["run", "number", "first", "start", "slope"] T_value_of (t_value_of K) := by
  rintro ss m Q ⟨⟨f, s, l⟩, n, rfl, hl, hn, q⟩
  unfold t_value_of
  refine ws_seq (ws_asgG ([2] ++ ([3] ++ ([4] ++ []))) (we_var rfl (wg_tup rfl (wgs_cons (wg_name (wgs_cons (wg_name (wgs_cons (wg_name (wgs_nil ?_))))))))))
  show WS K _ [some (.val (rD ⟨f, s, l⟩)), some (.val (.int n)), some (.val (fD f)), some (.val (hiD s)), some (.val (.int l))] m _ _
  have tl : WT K [some (.val (rD ⟨f, s, l⟩)), some (.val (.int n)), some (.val (fD f)), some (.val (hiD s)), some (.val (.int l))] m (tTest (tOp (rD2 K RLt) (tVar 1) (tCB (rDN K RLen) (tCons (tVar 2) tNil)))) fun x m1 => x = decide (n < f.length) ∧ m1 = m :=
    wt_test (we_op (we_var rfl (we_cb (wa_cons (we_var rfl (wa_nil ⟨_, _, rfl, .lst _, _, _, _, rfl, rfl, .int _ _, _, rfl, by simp, rfl⟩))))))
  refine ws_seq (wsIf tl (fun h => ?_) fun h => ws_next ?_)
  · have h' : n < f.length := of_decide_eq_true h
    have e : f[n]? = some f[n] := List.getElem?_eq_getElem h'
    refine ws_ret (we_op (we_var rfl (we_var rfl ⟨_, _, _, rfl, rfl, .lst (d := hiD f[n]) (atI_natE (by rw [List.getElem?_map, e]; rfl)), ?_⟩)))
    have e2 : valR ⟨f, s, l⟩ n = f[n] := by unfold valR; simp only [e]
    rw [e2] at q
    exact q
  · have h' : f.length ≤ n := by simpa using h
    have e2 : valR ⟨f, s, l⟩ n = s.map fun s => s + l * ((n : Int) - f.length) := by unfold valR; simp only [List.getElem?_eq_none h']
    rw [e2] at q
    cases s with
    | none => exact ws_seq (wsIf (b := true) (wt_test (we_op (we_var rfl (we_non ⟨_, _, _, rfl, rfl, .mk (.non _), _, rfl, rfl, rfl⟩)))) (fun _ => ws_ret (we_non q)) (fun h => by cases h))
    | some a =>
      refine ws_seq (wsIf (b := false) (wt_test (we_op (we_var rfl (we_non ⟨_, _, _, rfl, rfl, .mk (.non _), _, rfl, rfl, rfl⟩)))) (fun h => by cases h) fun _ => ws_next ?_)
      refine ws_ret (we_op (we_var rfl (we_op (we_var rfl (we_op (we_var rfl (we_cb (wa_cons (we_var rfl (wa_nil ⟨_, _, rfl, .lst _, _, _, _, rfl, rfl, .int _ _, _, _, _, rfl, rfl, .int (mul_sml hl ?_), _, _, _, rfl, rfl, .int _ _, ?_⟩))))))))))
      · rw [List.length_map]
        show ((n : Int) - (f.length : Int)).natAbs ≤ 10 ^ 400
        have : ((n : Int) - (f.length : Int)).natAbs ≤ n := by omega
        exact Nat.le_trans this hn
      · rw [List.length_map]
        exact q
inductive ValQ (K : PySem.W.Frag) (m : Sto) (Q : Sv → Sto → Prop) (X : Addr → List (Str × D) → Sto → Prop) : D → D → Prop
  | ok (r : Rn) (n : Nat) : r.f.length ≤ 100000 → runB (rD r) = true → sml r.l → n ≤ 10 ^ 400 → Q (.val (hiD (valR r n))) m → ValQ K m Q X (rD r) (.int n)
  | run {d e : D} : RunQ d → runB d = false → X (He.ga K "InvalidRun") [("value", d)] m → ValQ K m Q X d e
  | num {r : Rn} {e : D} : r.f.length ≤ 100000 → runB (rD r) = true → Plain e → betD e 0 none = false → X (He.ga K "InvalidNumber") [("value", e)] m → ValQ K m Q X (rD r) e
def T_run_value (K : PySem.W.Frag) : Tr2 := fun ss m Q X => ∃ d e : D, ss = [.val d, .val e] ∧ ValQ K m Q X d e
def t_run_value (K : PySem.W.Frag) (W : WX) : TS := (tSeq (tDrop (tCallX W (SpX K (T_check_run K)) (tCons (tVar 0) tNil))) (tSeq (tDrop (tCallX W (SpX K (T_check_number K)) (tCons (tVar 1) (tCons (tC (.int 0)) (tCons (tC .non) tNil))))) (tRet (tCall (SpD K T_value_of) [] E0 (tCons (tVar 0) (tCons (tVar 1) tNil))))))
theorem m_run_value {K : PySem.W.Frag} : OkX K ["run", "number"] (T_run_value K) (t_run_value K) := by
  rintro W ss m Q X ⟨d, e, rfl, h⟩
  unfold t_run_value
  cases h with
  | ok r n h1 h2 h3 h4 q =>
    refine ws_seq (ws_dropX (wa_cons (we_var rfl (wa_nil ⟨_, rfl, runQ_r h1, ?_⟩))))
    rw [h2, if_pos rfl]
    refine ws_seq (ws_dropX (wa_cons (we_var rfl (wa_cons (we_int (wa_cons (we_non (wa_nil ⟨_, 0, none, rfl, plain_int _, ?_⟩))))))))
    rw [show betD (.int n) 0 none = true by simp [betD], if_pos rfl]
    exact ws_ret (we_call (wa_cons (we_var rfl (wa_cons (we_var rfl (wa_nil ⟨r, n, rfl, h3, h4, q⟩))))))
  | run h1 h2 q =>
    refine ws_seq (ws_dropX (wa_cons (we_var rfl (wa_nil ⟨_, rfl, h1, ?_⟩))))
    rw [h2, if_neg Bool.false_ne_true]
    exact q
  | num h1 h2 h3 h4 q =>
    refine ws_seq (ws_dropX (wa_cons (we_var rfl (wa_nil ⟨_, rfl, runQ_r h1, ?_⟩))))
    rw [h2, if_pos rfl]
    refine ws_seq (ws_dropX (wa_cons (we_var rfl (wa_cons (we_int (wa_cons (we_non (wa_nil ⟨_, 0, none, rfl, h3, ?_⟩))))))))
    rw [h4, if_neg Bool.false_ne_true]
    exact q
end Ru

/-! CrZ1: borrowed lists again (what a call makes is new), owned lists of pure items, texts of data. -/
namespace Cr
open PySem PySem.Spec PyProof.Rows L2
section
variable {K : PySem.W.Frag} {r : Ro} {m : Sto}
theorem bor_nw {m1 m2 : Sto} {H1 H2 : Hp} {p : Addr} {ds : List D} (so1 : StoOk K H1 m1) (hp : m1 p = some ds) (x : Xt (dom (stD m1 p)) H1 (dom m2) H2) : m2 p = none := by
  obtain ⟨xs, g1, g2⟩ := so1 p ds hp
  have nd : dom (stD m1 p) p = false := dom_none.mpr (if_pos rfl)
  cases e : m2 p with
  | none => rfl
  | some es =>
    rcases x.nw p (dom_some e) with h | h
    · rw [nd] at h; cases h
    · rw [g1] at h; cases h
theorem we_callN {T : Tr} {E : XK} {ta : TA} {Q : Sv → Sto → Prop} (h : WA K r m ta fun ss m1 => ∃ p ds, m1 p = some ds ∧ T (ss.map (bor p ds)) (stD m1 p) fun s m2 => m2 p = none → svNo s = true ∧ (∀ q es, m2 q = some es → D.nolstA es = true) ∧ Q s (stS m2 p ds)) :
    WE K r m (tCall (SpD K T) [] E ta) Q := fun σ H QV e st k =>
  h σ H _ e st fun vs H1 ss m1 x1 so1 rs ⟨p, ds, hp, q⟩ => ⟨stD m1 p, ss.map (bor p ds), _, (so1.frz hp).1, by rw [List.append_nil]; exact rpSs_bor so1 hp rs, q, fun v H' s m' x so rp q' => by
    have a1 := bor_nw so1 hp x
    obtain ⟨a2, a3, q'⟩ := q' a1
    obtain ⟨b1, b2, b3⟩ := bor_back so1 hp x so rp a1 a2 a3
    exact k v H' s _ (x1.trans b1) b2 b3 q'⟩
theorem we_callXN {W : WX} {T : Tr2} {ta : TA} {Q : Sv → Sto → Prop} (h : WA K r m ta fun ss m1 => ∃ p ds, m1 p = some ds ∧ T (ss.map (bor p ds)) (stD m1 p) (fun s m2 => m2 p = none → svNo s = true ∧ (∀ q es, m2 q = some es → D.nolstA es = true) ∧ Q s (stS m2 p ds)) fun _ _ _ => False) :
    WE K r m (tCallX W (SpX K T) ta) Q := fun σ H QV e st k =>
  h σ H _ e st fun vs H1 ss m1 x1 so1 rs ⟨p, ds, hp, q⟩ => ⟨stD m1 p, ss.map (bor p ds), _, _, (so1.frz hp).1, rpSs_bor so1 hp rs, q, fun v H' s m' x so rp q' => by
    have a1 := bor_nw so1 hp x
    obtain ⟨a2, a3, q'⟩ := q' a1
    obtain ⟨b1, b2, b3⟩ := bor_back so1 hp x so rp a1 a2 a3
    exact k v H' s _ (x1.trans b1) b2 b3 q', fun _ _ _ _ _ _ _ _ _ _ z => z.elim⟩
theorem we_callXKN {W : WX} {T : Tr2} {n : Nat} {pm : List Nat} {ta : TA} {Q : Sv → Sto → Prop} (h : WA K r m ta fun ss m1 => ss.length = n ∧ ∃ p ds, m1 p = some ds ∧ T ((pick pm ss).map (bor p ds)) (stD m1 p) (fun s m2 => m2 p = none → svNo s = true ∧ (∀ q es, m2 q = some es → D.nolstA es = true) ∧ Q s (stS m2 p ds)) fun _ _ _ => False) :
    WE K r m (tCallXKw n pm W (SpX K T) ta) Q := fun σ H QV e st k =>
  h σ H _ e st fun vs H1 ss m1 x1 so1 rs ⟨hn, p, ds, hp, q⟩ => ⟨by rw [rs.length]; exact hn, stD m1 p, (pick pm ss).map (bor p ds), _, _, (so1.frz hp).1, rpSs_bor so1 hp (paired_pick rs pm), q, fun v H' s m' x so rp q' => by
    have a1 := bor_nw so1 hp x
    obtain ⟨a2, a3, q'⟩ := q' a1
    obtain ⟨b1, b2, b3⟩ := bor_back so1 hp x so rp a1 a2 a3
    exact k v H' s _ (x1.trans b1) b2 b3 q', fun _ _ _ _ _ _ _ _ _ _ z => z.elim⟩
/-- an owned list of pure items -/
theorem we_lcP {wi : TI} {g : TG} {te : TE} {vs js : List Nat} {Q : Sv → Sto → Prop} (hjs : ∀ j ∈ js, j ∈ vs)
    (h : WI K r m wi fun ds m1 => ds.length ≤ 100000 ∧ ∃ v : D → D, (∀ d ∈ ds, ∀ p acc, m1 p = none → WG K g js (.val d) (wipeR r vs) (stS m1 p acc) fun r2 => WE K r2 (stS m1 p acc) te fun s m3 => s = .val (v d) ∧ m3 = stS m1 p acc) ∧ ∀ p, m1 p = none → Q (.adr p) (stS m1 p (ds.map v))) :
    WE K r m (tLc wi g tYes te vs) Q := by
  refine we_lcO hjs fun σ H R e st k => h σ H R e st fun J H' ds mz x so io ⟨hl, v, turn, q⟩ => k J H' ds mz x so io ⟨hl, fun p hp => ?_⟩
  refine ⟨fun i acc m' => m' = stS mz p acc ∧ acc = (ds.take i).map v, ⟨rfl, rfl⟩, ?_, ?_⟩
  · rintro i d acc m' hd _ hm ⟨rfl, rfl⟩
    have hmem : d ∈ ds := List.mem_of_getElem? hd
    have tk : ds.take (i + 1) = ds.take i ++ [d] := by rw [List.take_add_one, hd]; rfl
    refine fun v1 σ1 H1 QV1 e1 st1 rs1 k1 => turn d hmem p _ hp v1 σ1 H1 QV1 e1 st1 rs1 fun σ2 r2 e2 l2 n2 q2 => k1 σ2 r2 e2 l2 n2 (wt_yes ((if_pos rfl).mpr (q2.imp fun s m3 ⟨hs, hm3⟩ => ?_)))
    refine ⟨v d, hs, by rw [hm3]; exact stS_same, ?_, ?_⟩
    · rw [hm3, stS_stS]
    · rw [tk, List.map_append]; rfl
  · rintro acc m' hm ⟨rfl, rfl⟩
    have := q p hp
    rw [List.take_length]
    exact this
end
/-! ### texts of data -/
structure Sh (d : D) (n k : Nat) : Prop where
  ex : ∃ p, d.py = some p ∧ p.showable = true ∧ p.depth ≤ k ∧ p.shown.length ≤ 1003 * n
structure ShA (ds : List D) (n k : Nat) : Prop where
  ex : ∃ ps, D.pyA ds = some ps ∧ PyData.showableAll ps = true ∧ PyData.depthAll ps ≤ k ∧ piled (PyData.shownAll ps) ≤ 1003 * n
theorem sh_int {i : Int} (h : i.natAbs ≤ 10 ^ 400) : Sh (.int i) 1 0 := by
  refine ⟨.int i, rfl, ?_, by simp [PyData.depth], ?_⟩
  · simp only [PyData.showable, decide_eq_true_eq]
    exact Nat.lt_of_le_of_lt (log2_mono h) (by decide +kernel)
  · rw [PyData.shown_int, PySem.ofString_length]
    have := int_text_length_le10 (k := 1000) (by decide) (Nat.lt_of_le_of_lt h (by decide +kernel))
    omega
theorem sh_non : Sh .non 1 0 := ⟨.none, rfl, by simp [PyData.showable], by simp [PyData.depth], by rw [PyData.shown_none]; decide +kernel⟩
theorem sh_bl {b : Bool} : Sh (.bl b) 1 0 := ⟨.bool b, rfl, by simp [PyData.showable], by simp [PyData.depth], by rw [PyData.shown_bool]; cases b <;> decide +kernel⟩
theorem sh_w {o : Option Int} (h : ∀ i, o = some i → i.natAbs ≤ 10 ^ 400) : Sh (hiD o) 1 0 := by
  cases o with
  | none => exact sh_non
  | some i => exact sh_int (h i rfl)
theorem shA_nil : ShA [] 0 0 := ⟨[], by simp only [D.pyA], by simp [PyData.showableAll], by simp [PyData.depthAll], by simp [PyData.shownAll, piled]⟩
theorem shA_cons {d : D} {ds : List D} {n n' k : Nat} (h : Sh d n k) (t : ShA ds n' k) : ShA (d :: ds) (n + n' + 1) k := by
  obtain ⟨p, h1, h2, h3, h4⟩ := h.ex
  obtain ⟨ps, t1, t2, t3, t4⟩ := t.ex
  refine ⟨p :: ps, by simp only [D.pyA, h1, t1], ?_, ?_, ?_⟩
  · simp only [PyData.showableAll, h2, t2, Bool.and_self]
  · simp only [PyData.depthAll]; omega
  · rw [PyData.shownAll_cons]
    unfold piled at t4 ⊢
    rw [List.map_cons, List.sum_cons]
    omega
theorem sh_mono {d : D} {n n' k k' : Nat} (h : Sh d n k) (hn : n ≤ n') (hk : k ≤ k') : Sh d n' k' := by
  obtain ⟨p, h1, h2, h3, h4⟩ := h.ex
  exact ⟨p, h1, h2, by omega, by omega⟩
theorem shA_mono {d : List D} {n n' k k' : Nat} (h : ShA d n k) (hn : n ≤ n') (hk : k ≤ k') : ShA d n' k' := by
  obtain ⟨p, h1, h2, h3, h4⟩ := h.ex
  exact ⟨p, h1, h2, by omega, by omega⟩
theorem shA_map {α : Type} {f : α → D} {n k : Nat} : ∀ {l : List α}, (∀ x ∈ l, Sh (f x) n k) → ShA (l.map f) ((n + 1) * l.length) k
  | [], _ => shA_mono shA_nil (Nat.zero_le _) (Nat.zero_le _)
  | x :: l, h => by
    have ih := shA_map (l := l) fun y hy => h y (List.mem_cons_of_mem _ hy)
    refine shA_mono (shA_cons (h x List.mem_cons_self) ih) ?_ (Nat.le_refl _)
    rw [List.length_cons, Nat.mul_add]
    omega
theorem join_le (ts : List Str) : (Str.join ", " ts).length ≤ piled ts := by
  by_cases z : ts = []
  · subst z
    exact Nat.zero_le _
  · have := join_length_add ts z
    omega
theorem sh_lst {ds : List D} {n k : Nat} (h : ShA ds n k) : Sh (.lst ds) (n + 1) (k + 1) := by
  obtain ⟨ps, t1, t2, t3, t4⟩ := h.ex
  refine ⟨.list ps, by simp only [D.py, t1]; rfl, by simp only [PyData.showable, t2], by simp only [PyData.depth]; omega, ?_⟩
  rw [PyData.shown_list, strLen_append, strLen_append]
  have := join_le (PyData.shownAll ps)
  have e1 : ((("[" : String) : Str)).length = 1 := rfl
  have e2 : ((("]" : String) : Str)).length = 1 := rfl
  omega
theorem sh_tup {ds : List D} {n k : Nat} (h : ShA ds n k) : Sh (.tup ds) (n + 1) (k + 1) := by
  obtain ⟨ps, t1, t2, t3, t4⟩ := h.ex
  refine ⟨.tuple ps, by simp only [D.py, t1]; rfl, by simp only [PyData.showable, t2], by simp only [PyData.depth]; omega, ?_⟩
  rw [PyData.shown_tuple, strLen_append, strLen_append]
  have := join_le (PyData.shownAll ps)
  have e1 : ((("(" : String) : Str)).length = 1 := rfl
  have e2 : (((if ps.length == 1 then ",)" else ")" : String) : Str)).length ≤ 2 := by split <;> decide
  omega
theorem sh_repr {d : D} {n k : Nat} (h : Sh d n k) (hn : n ≤ 10000) (hk : k ≤ 60) : ∃ z, RRepr [d] (.v (.str z)) := by
  obtain ⟨p, h1, h2, h3, h4⟩ := h.ex
  exact ⟨_, .mk h1 h2 (by omega) (by rw [sizeLine_eq]; omega)⟩
section
variable {K : PySem.W.Frag} {r : Ro} {m : Sto}
/-- repr(a) is repr(b), both the same -/
theorem wt_reprs {d : D} {z : Str} {ta tb : TE} (h : RRepr [d] (.v (.str z))) (h1 : ∀ {Q : Sv → Sto → Prop}, (∀ s, vw m s = some d → Q s m) → WE K r m ta Q) (h2 : ∀ {Q : Sv → Sto → Prop}, (∀ s, vw m s = some d → Q s m) → WE K r m tb Q) :
    WT K r m (tTest (tOp (rD2 K RNeR) (tCB (rDN K RRepr) (tCons ta tNil)) (tCB (rDN K RRepr) (tCons tb tNil)))) fun x m1 => x = false ∧ m1 = m :=
  wt_test (we_op (we_cb (wa_cons (h1 fun s hs => wa_nil ⟨[d], _, by show [vw m s] = [some d]; rw [hs], h, we_cb (wa_cons (h2 fun s hs => wa_nil ⟨[d], _, by show [vw m s] = [some d]; rw [hs], h, _, _, _, rfl, rfl, .mk (.str z z), _, rfl, by rw [decide_eq_true rfl]; rfl, rfl⟩))⟩))))
end
/-! ### runs -/
end Cr
namespace Ru
open PySem PySem.Spec PyProof.Rows L2 Cr
theorem sh_run {r : Rn} {n : Nat} (hn : r.f.length ≤ n) (hf : ∀ o ∈ r.f, ∀ i, o = some i → i.natAbs ≤ 10 ^ 400) (hs : ∀ i, r.s = some i → i.natAbs ≤ 10 ^ 400) (hl : r.l.natAbs ≤ 10 ^ 400) : Sh (rD r) (2 * n + 10) 2 := by
  have h1 : Sh (fD r.f) (2 * n + 1) 1 := sh_mono (sh_lst (shA_map fun o ho => sh_w (hf o ho))) (by omega) (by omega)
  have h2 : ShA [fD r.f, hiD r.s, .int r.l] _ 1 := shA_cons h1 (shA_cons (sh_mono (sh_w hs) (Nat.le_refl _) (by omega)) (shA_cons (sh_mono (sh_int hl) (Nat.le_refl _) (by omega)) (shA_mono shA_nil (Nat.le_refl _) (by omega))))
  exact sh_mono (sh_tup h2) (by omega) (by omega)
/-- values of the short form are values or the start -/
theorem short_mem (r : Rn) : (∀ x ∈ (short r).f, x ∈ r.f) ∧ ((short r).s = r.s ∨ (short r).s ∈ r.f) := by
  obtain ⟨h1, h2, h3⟩ := shortG_len r.l r.f.reverse r.s
  refine ⟨fun x hx => ?_, ?_⟩
  · have : x ∈ (shortG r.l r.f.reverse r.s).1.reverse := hx
    exact List.mem_reverse.mp (h2 x (List.mem_reverse.mp this))
  · rcases h3 with h | h
    · exact .inl h
    · exact .inr (List.mem_reverse.mp h)
/-- the run with more values written out -/
def more (r : Rn) (k : Nat) : Rn := ⟨(List.range k).map (valR r), valR r k, r.l⟩
theorem short_ext (f : List Wo) (s : Wo) (l : Int) : short ⟨f ++ [s], s.map (· + l), l⟩ = short ⟨f, s, l⟩ := by
  unfold short
  show (⟨(shortG l (f ++ [s]).reverse (s.map (· + l))).1.reverse, (shortG l (f ++ [s]).reverse (s.map (· + l))).2, l⟩ : Rn) = _
  have : shortG l (f ++ [s]).reverse (s.map (· + l)) = shortG l f.reverse s := by
    rw [List.reverse_append]
    show shortG l (s :: f.reverse) _ = _
    have e : s = back (s.map (· + l)) l := by
      cases s with
      | none => rfl
      | some a => show some a = some (a + l - l); congr 1; omega
    rw [shortG, if_pos e]
  rw [this]
theorem map_valR_len (r : Rn) : (List.range r.f.length).map (valR r) = r.f := by
  apply List.ext_getElem
  · simp
  · intro i h1 h2
    rw [List.getElem_map, List.getElem_range]
    unfold valR
    rw [List.getElem?_eq_getElem h2]
theorem valR_ge (r : Rn) {n : Nat} (h : r.f.length ≤ n) : valR r n = r.s.map fun s => s + r.l * ((n : Int) - r.f.length) := by
  unfold valR
  rw [List.getElem?_eq_none h]
theorem short_more (r : Rn) (j : Nat) : short (more r (r.f.length + j)) = short r := by
  induction j with
  | zero =>
    have e1 : valR r r.f.length = r.s := by
      rw [valR_ge r (Nat.le_refl _)]
      cases r.s with
      | none => rfl
      | some a => simp
    have : more r (r.f.length + 0) = r := by
      unfold more
      rw [Nat.add_zero, map_valR_len, e1]
    rw [this]
  | succ j ih =>
    have e1 : more r (r.f.length + (j + 1)) = ⟨(more r (r.f.length + j)).f ++ [(more r (r.f.length + j)).s], (more r (r.f.length + j)).s.map (· + r.l), r.l⟩ := by
      unfold more
      rw [← Nat.add_assoc, List.range_succ, List.map_append]
      congr 1
      show valR r _ = (valR r _).map _
      rw [valR_ge r (by omega), valR_ge r (by omega)]
      cases r.s with
      | none => rfl
      | some a =>
        simp only [Option.map_some]
        congr 1
        have : ((r.f.length + j + 1 : Nat) : Int) - r.f.length = (((r.f.length + j : Nat) : Int) - r.f.length) + 1 := by omega
        rw [this, Int.mul_add, Int.mul_one, Int.add_assoc]
    rw [e1, short_ext]
    exact ih
end Ru

/-! CrG: what the laws share: numbers drawn from a hash, loops over constants, errors told, lists owned. -/
namespace Ge
open PySem PySem.Spec PyProof.Rows L2 Cr
local macro_rules | `(tactic| walk_at "w") => `(tactic| first
  | with_reducible refine ws_seq ?_ | with_reducible refine ws_asg ?_ | with_reducible refine ws_ret ?_ | with_reducible refine ws_retN ?_ | with_reducible refine ws_drop ?_ | with_reducible refine ws_if ?_
  | with_reducible refine ws_next ?_ | with_reducible refine ws_par ?_ | with_reducible refine ws_par3 ?_
  | with_reducible refine we_int ?_ | with_reducible refine we_str ?_ | with_reducible refine we_bl ?_ | with_reducible refine we_non ?_ | with_reducible refine we_op ?_ | with_reducible refine we_un ?_
  | with_reducible refine we_cb ?_ | with_reducible refine we_if ?_ | with_reducible refine we_tup ?_ | with_reducible refine we_call ?_ | with_reducible refine wa_cons ?_ | with_reducible refine wa_nil ?_
  | with_reducible refine wt_val ?_ | with_reducible refine wt_test ?_ | with_reducible refine wt_and ?_ | with_reducible refine wt_or ?_ | with_reducible refine wt_not ?_ | with_reducible refine wt_yes ?_
  | with_reducible refine we_andV ?_ | with_reducible refine we_orV ?_ | with_reducible refine we_notV ?_ | with_reducible refine we_chain ?_ | with_reducible refine we_slice ?_ | with_reducible refine wo_none ?_ | with_reducible refine wo_some ?_
  | with_reducible refine we_bits ?_ | refine we_var (by rfl) ?_)
local macro_rules | `(tactic| walk_at "i2") => `(tactic| refine ⟨_, _, _, rfl, rfl, .int _ _, ?_⟩)
local macro_rules | `(tactic| walk_at "in") => `(tactic| refine ⟨_, _, rfl, .int _, ?_⟩)

def t_law_hash (K : PySem.W.Frag) : TS := (tSeq (tAsg (tOp (rD2 K RMod) (tCB (rDN K RInt) (tCons (tOp (rD2 K RAdd) (tOp (rD2 K RAdd) (tOp (rD2 K RAdd) (tOp (rD2 K RMul) (tVar 0) (tC (.int 1299709))) (tOp (rD2 K RMul) (tOp (rD2 K RMul) (tC (.int 104729)) (tVar 1)) (tVar 1))) (tOp (rD2 K RMul) (tC (.int 31)) (tVar 1))) (tC (.int 7))) tNil)) (tC (.int 2147483629))) (gName 2)) (tSeq (tAsg (tOp (rD2 K RMod) (tCB (rDN K RInt) (tCons (tOp (rD2 K RAdd) (tOp (rD2 K RAdd) (tOp (rD2 K RMul) (tVar 2) (tVar 2)) (tOp (rD2 K RMul) (tC (.int 48271)) (tVar 1))) (tC (.int 15485863))) tNil)) (tC (.int 2147483587))) (gName 2)) (tRet (tOp (rD2 K RMod) (tCB (rDN K RInt) (tCons (tOp (rD2 K RMul) (tVar 2) (tC (.int 69621))) tNil)) (tC (.int 2147483647))))))
def t_law_generator (K : PySem.W.Frag) : TS := (tSeq (tAsg (tIf (tTest (tOp (rD2 K RLt) (tVar 1) (tCB (rDN K RLen) (tCons (tVar 0) tNil)))) (tOp (rD2 K RIx) (tVar 0) (tVar 1)) (tOp (rD2 K RMod) (tCB (rDN K RSum) (tCons (tSl (rSlD K) (tVar 0) tNoPart (tPart (tC (.int 1)))) tNil)) (tC (.int 1000003)))) (gName 2)) (tRet (tLst (tCons (tOp (rD2 K RMod) (tCB (rDN K RInt) (tCons (tCB (rDN K RMax) (tCons (tOp (rD2 K RSub) (tVar 2) (tOp (rD2 K RPow) (tC (.int 10)) (tC (.int 18)))) (tCons (tC (.int 0)) tNil))) tNil)) (tOp (rD2 K RPow) (tOp (rD2 K RPow) (tC (.int 10)) (tC (.int 60))) (tC (.int 10)))) (tCons (tOp (rD2 K RMod) (tCB (rDN K RInt) (tCons (tVar 2) tNil)) (tC (.int 2147483647))) (tCons (tOp (rD2 K RMul) (tC (.int 1000)) (tVar 1)) tNil))))))

theorem m_law_hash {K : PySem.W.Frag} : Ok K ["seed", "index", "mixed"] T_law_hash (t_law_hash K) := by
  rintro ss m Q ⟨s, i, rfl, h1, h2, h3, h4, q⟩
  unfold t_law_hash
  have mk : ∀ {a b : Int}, a.natAbs ≤ 10 ^ 30 → b.natAbs ≤ 10 ^ 30 → a.natAbs.log2 + b.natAbs.log2 < 1000000 := fun ha hb => mulOk ha hb (by decide +kernel)
  repeat walk_at "w"
  refine ⟨_, _, _, rfl, rfl, .int (mk (by omega) (by omega)), ?_⟩
  repeat walk_at "w"
  refine ⟨_, _, _, rfl, rfl, .int (mk (by omega) (by omega)), ?_⟩
  repeat walk_at "w"
  refine ⟨_, _, _, rfl, rfl, .int (mk (by omega) (by omega)), ?_⟩
  walk_at "i2"
  repeat walk_at "w"
  refine ⟨_, _, _, rfl, rfl, .int (mk (by omega) (by omega)), ?_⟩
  walk_at "i2"
  repeat walk_at "w"
  walk_at "i2"
  repeat walk_at "w"
  walk_at "in"
  repeat walk_at "w"
  refine ⟨_, _, _, rfl, rfl, .int (by decide), ?_⟩
  generalize hx : ((s * 1299709 + 104729 * i * i + 31 * i + 7) % 2147483629) = x
  have x1 : 0 ≤ x := by rw [← hx]; exact Int.emod_nonneg _ (by decide)
  have x2 : x < 2147483629 := by rw [← hx]; exact Int.emod_lt_of_pos _ (by decide)
  repeat walk_at "w"
  refine ⟨_, _, _, rfl, rfl, .int (mk (by omega) (by omega)), ?_⟩
  repeat walk_at "w"
  refine ⟨_, _, _, rfl, rfl, .int (mk (by omega) (by omega)), ?_⟩
  walk_at "i2"
  repeat walk_at "w"
  walk_at "i2"
  repeat walk_at "w"
  walk_at "in"
  repeat walk_at "w"
  refine ⟨_, _, _, rfl, rfl, .int (by decide), ?_⟩
  generalize hy : ((x * x + 48271 * i + 15485863) % 2147483587) = y
  have y1 : 0 ≤ y := by rw [← hy]; exact Int.emod_nonneg _ (by decide)
  have y2 : y < 2147483629 := by rw [← hy]; have := Int.emod_lt_of_pos (x * x + 48271 * i + 15485863) (b := 2147483587) (by decide); omega
  repeat walk_at "w"
  refine ⟨_, _, _, rfl, rfl, .int (mk (by omega) (by omega)), ?_⟩
  repeat walk_at "w"
  walk_at "in"
  repeat walk_at "w"
  refine ⟨_, _, _, rfl, rfl, .int (by decide), ?_⟩
  exact q _ (Int.emod_nonneg _ (by decide)) (Int.emod_lt_of_pos _ (by decide))
theorem m_law_generator {K : PySem.W.Frag} : Ok K ["script", "index", "seed"] T_law_generator (t_law_generator K) := by
  rintro ss m Q ⟨ns, i, rfl, i0, i1, hb, q⟩
  unfold t_law_generator
  have rest : ∀ v : Int, WS K (dom m) [some (.val (.scr ns)), some (.val (.int i)), some (.val (.int v))] m (tRet (tLst (tCons (tOp (rD2 K RMod) (tCB (rDN K RInt) (tCons (tCB (rDN K RMax) (tCons (tOp (rD2 K RSub) (tVar 2) (tOp (rD2 K RPow) (tC (.int 10)) (tC (.int 18)))) (tCons (tC (.int 0)) tNil))) tNil)) (tOp (rD2 K RPow) (tOp (rD2 K RPow) (tC (.int 10)) (tC (.int 60))) (tC (.int 10)))) (tCons (tOp (rD2 K RMod) (tCB (rDN K RInt) (tCons (tVar 2) tNil)) (tC (.int 2147483647))) (tCons (tOp (rD2 K RMul) (tC (.int 1000)) (tVar 1)) tNil))))) { nx := fun _ m' => Q (.val .non) m', rt := Q } := fun v => by
    refine ws_ret (we_lstO ?_)
    repeat walk_at "w"
    refine ⟨_, _, _, rfl, rfl, .int (by decide) (by decide), ?_⟩
    walk_at "i2"
    repeat walk_at "w"
    refine ⟨_, _, rfl, .int _ _, ?_⟩
    repeat walk_at "w"
    walk_at "in"
    repeat walk_at "w"
    refine ⟨_, _, _, rfl, rfl, .int (by decide) (by decide +kernel), ?_⟩
    repeat walk_at "w"
    refine ⟨_, _, _, rfl, rfl, .int (by decide) (by decide +kernel), ?_⟩
    refine ⟨_, _, _, rfl, rfl, .int (by decide +kernel), ?_⟩
    repeat walk_at "w"
    walk_at "in"
    repeat walk_at "w"
    refine ⟨_, _, _, rfl, rfl, .int (by decide), ?_⟩
    repeat walk_at "w"
    refine ⟨_, _, _, rfl, rfl, .int (mulOk (B := 1000) (C := 1000) (by decide) (by omega) (by decide +kernel)), ?_⟩
    repeat walk_at "w"
    refine ⟨[.int _, .int _, .int _], rfl, by show (3 : Nat) ≤ 100000; decide, fun p hp => q p _ hp ⟨_, _, _, stS_same, Int.emod_nonneg _ (by decide), Int.emod_lt_of_pos _ (by decide), by omega, by omega⟩ Fr.st⟩
  refine ws_seq (ws_asg (we_if (wt_test (we_op (we_var rfl (we_cb (wa_cons (we_var rfl (wa_nil ⟨_, _, rfl, .scr _, _, _, _, rfl, rfl, .int _ _, _, rfl, ite_dec (fun hi => ?_) (fun hi => ?_)⟩))))))))) 
  · have h : i.toNat < ns.length := by omega
    exact we_op (we_var rfl (we_var rfl ⟨_, _, _, rfl, rfl, .scr (n := ns[i.toNat]) (by unfold atI ixN; rw [if_pos i0, if_pos hi]; exact List.getElem?_eq_getElem h), rest _⟩))
  · obtain ⟨xs, e, _⟩ := cut_ints ns none (some 1)
    exact we_op (we_cb (wa_cons (we_slice (we_var rfl (wo_none (wo_some (we_int ⟨1, rfl, _, _, rfl, .scr _ _ _, wa_nil ⟨[.lst (xs.map .int)], _, by rw [← e]; rfl, .lst _, we_int ⟨_, _, _, rfl, rfl, .int (by decide), rest _⟩⟩⟩)))))))
section
variable {K : PySem.W.Frag} {r : Ro} {m : Sto}
theorem bm {x : Int} (h : x ≤ 10 ^ 30) : x < bMax := Int.lt_of_le_of_lt h (by decide +kernel)
theorem we_rnd {i : Nat} {g : Addr} {b : Int} (n : Nat) {te : TE} {Q : Sv → Sto → Prop} (hi : r[i]? = some (some (.adr g))) (ht : WE K r m te fun s m1 => s = .val (.int b) ∧ m1 = m) (hG : GenI m g (n + 1)) (h0 : 0 < b) (h1 : b ≤ 10 ^ 30)
    (q : ∀ v m', 0 ≤ v → v < b → GenI m' g n → Fr m m' g → Q (.val (.int v)) m') : WE K r m (tCall (SpD K T_law_random) [] E0 (tCons (tVar i) (tCons te tNil))) Q :=
  we_call (wa_cons (we_var hi (wa_cons (ht.imp fun s m1 ⟨e1, e2⟩ => by
    subst e1 e2
    exact wa_nil ⟨g, b, n, rfl, hG, h0, bm h1, q⟩))))
theorem we_rndC {i : Nat} {g : Addr} {b : Int} (n : Nat) {Q : Sv → Sto → Prop} (hi : r[i]? = some (some (.adr g))) (hG : GenI m g (n + 1)) (h0 : 0 < b) (h1 : b ≤ 10 ^ 30)
    (q : ∀ v m', 0 ≤ v → v < b → GenI m' g n → Fr m m' g → Q (.val (.int v)) m') : WE K r m (tCall (SpD K T_law_random) [] E0 (tCons (tVar i) (tCons (tC (.int b)) tNil))) Q :=
  we_rnd n hi (we_int ⟨rfl, rfl⟩) hG h0 h1 q
theorem we_pow {a b : Int} {Q : Sv → Sto → Prop} (h0 : 0 ≤ b) (h : a.natAbs.log2 * b.toNat < 100000) (hp : RPow (.int a) (.int b) (.v (.int (a ^ b.toNat)))) (q : Q (.val (.int (a ^ b.toNat))) m) : WE K r m (tOp (rD2 K RPow) (tC (.int a)) (tC (.int b))) Q :=
  we_op (we_int (we_int ⟨_, _, _, rfl, rfl, hp, q⟩))
end

/-- no list within an owned list -/
def NoL (m : Sto) : Prop := ∀ q es, m q = some es → D.nolstA es = true
theorem nolst_app : ∀ {a b : List D}, D.nolstA a = true → D.nolstA b = true → D.nolstA (a ++ b) = true
  | [], _, _, h => h
  | x :: a, b, h, h2 => by
    obtain ⟨h1, h3⟩ := He.ba (show (D.nolst x && D.nolstA a) = true from h)
    show (D.nolst x && D.nolstA (a ++ b)) = true
    rw [h1, nolst_app h3 h2]
    rfl
theorem NoL.st {m : Sto} {p : Addr} {ds : List D} (h : NoL m) (hd : D.nolstA ds = true) : NoL (stS m p ds) := fun q es e => by
  by_cases z : q = p
  · rw [z, stS_same] at e
    cases e
    exact hd
  · rw [stS_ne z] at e
    exact h q es e
theorem NoL.sd {m : Sto} {p : Addr} (h : NoL m) : NoL (stD m p) := fun q es e => by
  unfold stD at e
  by_cases z : q = p
  · rw [if_pos z] at e; cases e
  · rw [if_neg z] at e; exact h q es e
theorem NoL.fr {m m' : Sto} {g : Addr} {n : Nat} (h : NoL m) (f : Fr m m' g) (hg : GenI m' g n) : NoL m' := fun q es e => by
  by_cases z : q = g
  · obtain ⟨a, s, c, e1, _⟩ := hg
    rw [z, e1] at e
    cases e
    rfl
  · rw [f q z] at e
    exact h q es e
theorem stD_back {m : Sto} {p q : Addr} {ds es : List D} (hp : m p = some ds) (hq : m q = none) : stD (stS (stS (stD m p) q es) p ds) q = m := by
  have z : q ≠ p := fun e => by rw [e, hp] at hq; cases hq
  funext a
  unfold stD stS
  by_cases e : a = q
  · rw [if_pos e, e, hq]
  · rw [if_neg e]
    by_cases e2 : a = p
    · rw [if_pos e2, e2, hp]
    · rw [if_neg e2, if_neg e]
      exact if_neg e2
theorem loopC {K : PySem.W.Frag} {M : Dm} {m : Sto} {r0 : Option Sv} {rest : Ro} {P : Eds} {te : TE} {tb : TS} (ds : List D) (hd : ∀ {Q : Sv → Sto → Prop}, Q (.val (.lst ds)) m → WE K (r0 :: rest) m te Q)
    (ht : ∀ d ∈ ds, ∀ P' : Eds, P'.nx (some (.val d) :: rest) m → WS K (dom m) (some (.val d) :: rest) m tb P') (fin : ∀ x, P.nx (x :: rest) m) : WS K M (r0 :: rest) m (tFor (iD K te) (gName 0) tb) P := by
  refine ws_for [0] (wi_D (hd ⟨false, ds, rfl, fun _ r' m' => m' = m ∧ ∃ x, r' = (x :: rest), ⟨rfl, _, rfl⟩, ?_, ?_⟩))
  · rintro i d r' m' hd' ⟨rfl, x, rfl⟩
    exact wg_name (ht d (List.mem_of_getElem? hd') _ ⟨rfl, _, rfl⟩)
  · rintro r' m' ⟨rfl, x, rfl⟩
    exact fin x
theorem dom_sub {K : PySem.W.Frag} {m mz : Sto} {H H' : Hp} (x : Xt (dom m) H (dom mz) H') {p : Addr} (h : mz p = none) : m p = none := by
  cases e : m p with
  | none => rfl
  | some ds =>
    have := x.dm p (dom_some e)
    rw [dom_none.mpr h] at this
    cases this
/-- a row each item of which may draw k times, its length drawn, too -/
theorem we_drawnR {K : PySem.W.Frag} {r : Ro} {m : Sto} {wi : TI} {g : TG} {te : TE} {vs js : List Nat} {Q : Sv → Sto → Prop} {ge : Addr} (k n : Nat) (A : Nat → List D → Prop) (hjs : ∀ j ∈ js, j ∈ vs)
    (h : WI K r m wi fun ds m1 => ds.length ≤ 100000 ∧ GenI m1 ge (n + k * ds.length) ∧ A 0 [] ∧
      (∀ i d acc m', ds[i]? = some d → A i acc → GenI m' ge (n + k * (ds.length - i)) → WG K g js (.val d) (wipeR r vs) m' fun r2 => WE K r2 m' te fun s m3 => ∃ x, s = .val x ∧ A (i + 1) (acc ++ [x]) ∧ GenI m3 ge (n + k * (ds.length - i - 1)) ∧ Fr m' m3 ge) ∧
      (∀ acc m', A ds.length acc → GenI m' ge n → Fr m1 m' ge → Q (.val (.lst acc)) m')) : WE K r m (tLc wi g tYes te vs) Q := by
  refine we_free (we_lcO hjs fun σ H R e st kk => h σ H R e st fun J H' ds mz x so io ⟨hl, hg, h0, turn, fin⟩ => kk J H' ds mz x so io ⟨hl, fun p hp => ?_⟩)
  have hp0 : m p = none := dom_sub (K := K) x hp
  have gp : ge ≠ p := fun e => by
    obtain ⟨ds, z⟩ := hg.some
    rw [e, hp] at z
    cases z
  refine ⟨fun i acc m' => A i acc ∧ GenI m' ge (n + k * (ds.length - i)) ∧ ∀ q, q ≠ ge → q ≠ p → m' q = mz q, ⟨h0, hg.other gp, fun q _ h2 => stS_ne h2⟩, ?_, ?_⟩
  · rintro i d acc m' hd _ hm ⟨hA, hG, hF⟩
    refine fun v1 σ1 H1 QV1 e1 st1 rs1 k1 => turn i d acc m' hd hA hG v1 σ1 H1 QV1 e1 st1 rs1 fun σ2 r2 e2 l2 n2 q2 => k1 σ2 r2 e2 l2 n2 (wt_yes ?_)
    rw [if_pos rfl]
    refine q2.imp fun s m3 ⟨x, es, h1, h2, h3⟩ => ⟨x, es, by rw [h3 p (fun z => gp z.symm)]; exact hm, h1, ?_, fun q a b => by rw [stS_ne b, h3 q a, hF q a b]⟩
    have : n + k * (ds.length - (i + 1)) = n + k * (ds.length - i - 1) := rfl
    exact h2.other gp
  · rintro acc m' hm ⟨hA, hG, hF⟩
    refine ⟨p, _, rfl, hp0, hm, fin acc (stD m' p) hA ?_ ?_⟩
    · have : n + k * (ds.length - ds.length) = n := by simp
      rw [this] at hG
      exact hG.del gp
    · intro q hq
      unfold stD
      by_cases z : q = p
      · rw [if_pos z, z, hp]
      · rw [if_neg z, hF q hq z]
section
variable {K : PySem.W.Frag} {r : Ro} {m : Sto}
theorem wt_one {C c : Addr} {fs : List (Str × D)} {b : Bool} {i : Nat} (hi : r[i]? = some (some (.val (.exc C fs)))) (e : ErrI K C) (h : PySem.W.kitOne K (.ref C) (.ref c) = some b) : WT K r m (tB (tCB (rDN K (RIsx K)) (tCons (tVar i) (tCons (tC (.ref c)) tNil)))) fun x m1 => x = b ∧ m1 = m :=
  wt_val (we_cb (wa_cons (we_var hi (wa_cons (we_cls (wa_nil ⟨[.exc C fs, .adr c], _, rfl, .one e h, b, rfl, rfl, rfl⟩))))))
theorem wt_two {C c1 c2 : Addr} {fs : List (Str × D)} {b1 b2 : Bool} {i : Nat} (hi : r[i]? = some (some (.val (.exc C fs)))) (e : ErrI K C) (h1 : PySem.W.kitOne K (.ref C) (.ref c1) = some b1) (h2 : PySem.W.kitOne K (.ref C) (.ref c2) = some b2) :
    WT K r m (tB (tCB (rDN K (RIsx K)) (tCons (tVar i) (tCons (tTup (tCons (tC (.ref c1)) (tCons (tC (.ref c2)) tNil))) tNil)))) fun x m1 => x = (b1 || b2) ∧ m1 = m :=
  wt_val (we_cb (wa_cons (we_var hi (wa_cons (we_tupV (wa_cons (we_cls (wa_cons (we_cls (wa_nil ⟨[.adr c1, .adr c2], by repeat constructor, by show 2 ≤ 1000; decide, wa_nil ⟨[.exc C fs, .tup [.adr c1, .adr c2]], _, rfl, .many (cs := [c1, c2]) (b := b1 || b2) e (by
    cases b1 <;> cases b2 <;> simp [PySem.W.kitAny, h1, h2]), _, rfl, rfl, rfl⟩⟩))))))))))
theorem we_told {C : Addr} {d : D} {i : Nat} {k z : Str} {Q : Sv → Sto → Prop} (hi : r[i]? = some (some (.val (.exc C [("value", d)])))) (e : ErrI K C) (hr : RRepr [d] (.v (.str z))) (q : Q (.val (.lst [.str k, .str z])) m) : WE K r m (tLst (tCons (tC (.str k)) (tCons (tCB (rDN K RRepr) (tCons (tXval K (tVar i)) tNil)) tNil))) Q :=
  we_lstV (wa_cons (we_str (wa_cons (we_cb (wa_cons (we_xval (we_var hi ⟨C, _, d, rfl, e, rfl, wa_nil ⟨[d], _, rfl, hr, wa_nil ⟨[.str k, .str z], by repeat constructor, by show 2 ≤ 1000; decide, q⟩⟩⟩)))))))
end
theorem rng_get {n i : Nat} {j : Int} {d : D} (h : (rngD j n)[i]? = some d) : d = .int (j + (i : Int)) ∧ i < n := by
  unfold rngD at h
  rw [List.getElem?_map] at h
  cases e : (List.range n)[i]? with
  | none => rw [e] at h; cases h
  | some k =>
    rw [e] at h
    obtain ⟨hi, e2⟩ := List.getElem?_eq_some_iff.mp e
    rw [List.getElem_range] at e2
    rw [List.length_range] at hi
    subst e2
    exact ⟨(Option.some.inj h).symm, hi⟩
theorem rng_get0 {n i : Nat} {d : D} (h : (rngD 0 n)[i]? = some d) : d = .int (i : Int) ∧ i < n := by
  obtain ⟨h1, h2⟩ := rng_get h
  rw [Int.zero_add] at h1
  exact ⟨h1, h2⟩
end Ge

/-! CrZ2: an owned list within a tuple, lent for a call. -/
namespace Cr
open PySem PySem.Spec PyProof.Rows L2
def borT (p : Addr) (ds : List D) : Sv → Sv
  | .adr a => if a = p then .val (.lst ds) else .adr a
  | .val (.tup es) => .val (.tup (es.map (frzD p ds)))
  | s => s
section
variable {K : PySem.W.Frag} {r : Ro} {m : Sto}
theorem rpSs_borT {H : Hp} {m1 : Sto} {p : Addr} {ds : List D} (so : StoOk K H m1) (hp : m1 p = some ds) : ∀ {vs : List V} {ss : List Sv}, RpSs K (dom m1) H vs ss → RpSs K (dom (stD m1 p)) H vs (ss.map (borT p ds))
  | _, _, .nil => .nil
  | _, _, .cons (b := s) h t => by
    refine .cons ?_ (rpSs_borT so hp t)
    have ex : Evl.Ex (hid (dom m1) H) (hid (dom (stD m1 p)) H) := hid_sub stD_sub
    cases s with
    | val d =>
      have h' : Rp K (hid (dom m1) H) _ d := h
      cases d with
      | tup es =>
        cases h' with
        | tup h1 h2 => exact (show Rp _ _ _ _ from .tup (Evl.ex_t ex h1) (rpA_frz ex (so.frz hp).2 h2))
      | _ => exact Rp.mono ex h'
    | adr a =>
      obtain ⟨rfl, h2⟩ := h
      show RpS K _ H (.ref a) (if a = p then .val (.lst ds) else .adr a)
      by_cases z : a = p
      · rw [if_pos z, z]
        exact (so.frz hp).2
      · rw [if_neg z]
        refine ⟨rfl, ?_⟩
        obtain ⟨es, e⟩ := dom_true h2
        exact dom_some (show stD m1 p a = some es by unfold stD; rw [if_neg z]; exact e)
theorem we_callT {T : Tr} {E : XK} {ta : TA} {Q : Sv → Sto → Prop} (h : WA K r m ta fun ss m1 => ∃ p ds, m1 p = some ds ∧ T (ss.map (borT p ds)) (stD m1 p) fun s m2 => m2 p = none → svNo s = true ∧ (∀ q es, m2 q = some es → D.nolstA es = true) ∧ Q s (stS m2 p ds)) :
    WE K r m (tCall (SpD K T) [] E ta) Q := fun σ H QV e st k =>
  h σ H _ e st fun vs H1 ss m1 x1 so1 rs ⟨p, ds, hp, q⟩ => ⟨stD m1 p, ss.map (borT p ds), _, (so1.frz hp).1, by rw [List.append_nil]; exact rpSs_borT so1 hp rs, q, fun v H' s m' x so rp q' => by
    have a1 := bor_nw so1 hp x
    obtain ⟨a2, a3, q'⟩ := q' a1
    obtain ⟨b1, b2, b3⟩ := bor_back so1 hp x so rp a1 a2 a3
    exact k v H' s _ (x1.trans b1) b2 b3 q'⟩
/-- repr of a tuple with an owned list -/
theorem we_reprT {te : TE} {Q : Sv → Sto → Prop} (hes : ∀ q es, m q = some es → D.nolstA es = true) (h : WE K r m te fun s m1 => m1 = m ∧ ∃ p ds es z, m p = some ds ∧ s = .val (.tup es) ∧ RRepr [.tup (es.map (frzD p ds))] (.v (.str z)) ∧ Q (.val (.str z)) m) : WE K r m (tCB (rDN K RRepr) (tCons te tNil)) Q := by
  intro σ H QV e st k
  refine h σ H _ e st fun v H1 s m1 x1 so1 rs ⟨em, p, ds, es, z, hp, hs, hf, q⟩ => ?_
  subst em hs
  have hb := rpSs_borT (ss := [.val (.tup es)]) so1 hp (.cons rs .nil)
  have rw1 : RpWs K (dom (stD m1 p)) H1 [v] [.tup (es.map (frzD p ds))] := by
    cases hb with
    | cons hb1 _ => exact .cons (.inl hb1) .nil
  refine ⟨dom (stD m1 p), _, _, (so1.frz hp).1.live, rw1, hf, kR.of (Q := fun s' m' => s' = Sv.val (.str z) ∧ m' = stD m1 p) (so1.frz hp).1 (fun v' H' s' m' x so rp qq => ?_) ⟨rfl, rfl⟩⟩
  obtain ⟨rfl, rfl⟩ := qq
  obtain ⟨b1, b2, b3⟩ := bor_back so1 hp x so rp (by unfold stD; rw [if_pos rfl]) rfl (fun q2 es2 e2 => by
    unfold stD at e2
    by_cases z2 : q2 = p
    · rw [if_pos z2] at e2; cases e2
    · rw [if_neg z2] at e2; exact hes q2 es2 e2)
  have em : stS (stD m1 p) p ds = m1 := by
    funext a
    unfold stS stD
    by_cases z2 : a = p
    · rw [if_pos z2, z2, hp]
    · rw [if_neg z2, if_neg z2]
  rw [em] at b1 b2 b3
  exact k v' H' _ m1 (x1.trans b1) b2 b3 q
end
section
variable {K : PySem.W.Frag} {M : Dm} {r : Ro} {m : Sto} {P : Eds}
theorem ws_asgX {T : Tr2} {ta : TA} {i : Nat} (h : WA K r m ta fun ss m1 => T ss m1 (fun s m2 => P.nx (r.set i (some s)) m2) fun C fs m2 => P.xc C fs r m2) : WS K M r m (tAsg (tCallX P.W (SpX K T) ta) (gName i)) P := fun σ H H0 D' e st x d =>
  h σ H _ e st fun vs H1 ss m1 x1 so1 rs q => ⟨m1, ss, _, _, so1, rs, q, fun v H' s m' x2 so rp q' => d.nx _ H' _ m' (x.trans (x1.trans x2)) so ((e.mono (x1.trans x2)).set rp) q',
    fun H' m' C dd vs fs x2 so hd rf q' => d.xc σ H' r m' C dd vs fs (x.trans (x1.trans x2)) so (e.mono (x1.trans x2)) hd rf q'⟩
end
end Cr

/-! CrN: where two runs meet. -/
namespace Me
open PySem PySem.Spec PyProof.Rows L2 Cr
open Ru (Wo Rn valR)
def eqV (a b : Rn) (n : Nat) : Bool := decide (valR a n = valR b n)
def endN (a b : Rn) : Nat := max a.f.length b.f.length
def sinc (a b : Rn) : Nat → Nat
  | 0 => 0
  | k + 1 => if valR a k = valR b k then sinc a b k else k + 1
def cnt (a b : Rn) (n : Nat) : List Nat := (List.range n).filter (eqV a b)
/-- the count behind the ends at which the lines cross -/
def crossN (a b : Rn) : Option Nat := match valR a (endN a b), valR b (endN a b) with
  | some lo, some hi => if a.l ≠ b.l ∧ (hi - lo).fmod (a.l - b.l) = 0 ∧ 0 ≤ (hi - lo).fdiv (a.l - b.l) then some (endN a b + ((hi - lo).fdiv (a.l - b.l)).toNat) else none
  | _, _ => none
abbrev Alike (a b : Rn) : Prop := valR a (endN a b) = valR b (endN a b) ∧ a.l = b.l
def meetC (a b : Rn) : List Nat := if Alike a b then cnt a b (sinc a b (endN a b)) else cnt a b (endN a b) ++ (crossN a b).toList
def meetS (a b : Rn) : Wo := if Alike a b then some ((sinc a b (endN a b) : Nat) : Int) else none
theorem sinc_spec (a b : Rn) : ∀ k, sinc a b k ≤ k ∧ (∀ i, sinc a b k ≤ i → i < k → valR a i = valR b i) ∧ (sinc a b k = 0 ∨ valR a (sinc a b k - 1) ≠ valR b (sinc a b k - 1))
  | 0 => ⟨Nat.le_refl _, fun i _ h => by omega, .inl rfl⟩
  | k + 1 => by
    unfold sinc
    by_cases h : valR a k = valR b k
    · rw [if_pos h]
      obtain ⟨h1, h2, h3⟩ := sinc_spec a b k
      refine ⟨by omega, fun i hi hk => ?_, h3⟩
      by_cases c : i = k
      · rw [c]; exact h
      · exact h2 i hi (by omega)
    · rw [if_neg h]
      exact ⟨Nat.le_refl _, fun i _ h => by omega, .inr h⟩
theorem mem_cnt {a b : Rn} {n i : Nat} : i ∈ cnt a b n ↔ i < n ∧ valR a i = valR b i := by
  unfold cnt eqV
  rw [List.mem_filter, List.mem_range, decide_eq_true_eq]
theorem val_far {r : Rn} {e n : Nat} (h : r.f.length ≤ e) (hn : e ≤ n) : valR r n = (valR r e).map fun s => s + r.l * ((n : Int) - e) := by
  rw [Ru.valR_ge r h, Ru.valR_ge r (by omega)]
  cases r.s with
  | none => rfl
  | some a =>
    simp only [Option.map_some]
    congr 1
    have : ((n : Int) - r.f.length) = ((e : Int) - r.f.length) + ((n : Int) - e) := by omega
    rw [this, Int.mul_add, Int.add_assoc]
theorem end_l (a b : Rn) : a.f.length ≤ endN a b := Nat.le_max_left _ _
theorem end_r (a b : Rn) : b.f.length ≤ endN a b := Nat.le_max_right _ _
def NonOk (r : Rn) : Prop := r.s.isSome = true ∨ r.l = 0
theorem val_none {r : Rn} (h : NonOk r) {e : Nat} (he : r.f.length ≤ e) (hv : valR r e = none) : r.l = 0 := by
  rw [Ru.valR_ge r he] at hv
  rcases h with h | h
  · cases hs : r.s with
    | none => rw [hs] at h; cases h
    | some a => rw [hs] at hv; cases hv
  · exact h
theorem cross_iff {lo hi l k : Int} {j : Nat} (hl : l ≠ k) : lo + l * (j : Int) = hi + k * (j : Int) ↔ (hi - lo).fmod (l - k) = 0 ∧ 0 ≤ (hi - lo).fdiv (l - k) ∧ ((hi - lo).fdiv (l - k)).toNat = j := by
  have hd : l - k ≠ 0 := by omega
  have e : lo + l * (j : Int) = hi + k * (j : Int) ↔ (l - k) * (j : Int) = hi - lo := by
    rw [Int.sub_mul]; omega
  rw [e]
  have hm := Int.mul_fdiv_add_fmod (hi - lo) (l - k)
  constructor
  · intro h
    rw [← h]
    have h1 : ((l - k) * (j : Int)).fdiv (l - k) = j := Int.mul_fdiv_cancel_left _ hd
    refine ⟨Int.mul_fmod_right _ _, by rw [h1]; omega, by rw [h1]; rfl⟩
  · rintro ⟨h1, h2, h3⟩
    rw [h1, Int.add_zero] at hm
    have : ((hi - lo).fdiv (l - k)) = (j : Int) := by omega
    rw [this] at hm
    exact hm
theorem meet_iff {a b : Rn} (ha : NonOk a) (hb : NonOk b) (n : Nat) : valR a n = valR b n ↔ n ∈ meetC a b ∨ ∃ s : Nat, meetS a b = some (s : Int) ∧ s ≤ n := by
  unfold meetC meetS
  obtain ⟨s1, s2, s3⟩ := sinc_spec a b (endN a b)
  by_cases hA : Alike a b
  · rw [if_pos hA, if_pos hA, mem_cnt]
    constructor
    · intro h
      by_cases c : n < sinc a b (endN a b)
      · exact .inl ⟨c, h⟩
      · exact .inr ⟨_, rfl, by omega⟩
    · rintro (⟨_, h⟩ | ⟨s, e, h⟩)
      · exact h
      · have e2 := Option.some.inj e
        have e3 : sinc a b (endN a b) = s := by omega
        by_cases c : n < endN a b
        · exact s2 n (by omega) c
        · rw [val_far (end_l a b) (by omega : endN a b ≤ n), val_far (end_r a b) (by omega : endN a b ≤ n), hA.1, hA.2]
  · rw [if_neg hA, if_neg hA, List.mem_append, mem_cnt]
    have noS : ¬ ∃ s : Nat, (none : Wo) = some (s : Int) ∧ s ≤ n := fun ⟨s, e, _⟩ => by cases e
    by_cases c : n < endN a b
    · constructor
      · intro h
        exact .inl (.inl ⟨c, h⟩)
      · rintro ((⟨_, h⟩ | h) | h)
        · exact h
        · exfalso
          unfold crossN at h
          split at h
          · split at h
            · have := List.mem_singleton.mp (show n ∈ [_] from h)
              omega
            · cases h
          · cases h
        · exact absurd h noS
    · have cn : endN a b ≤ n := by omega
      rw [val_far (end_l a b) cn, val_far (end_r a b) cn]
      unfold crossN
      cases ea : valR a (endN a b) with
      | none =>
        cases eb : valR b (endN a b) with
        | none =>
          exact absurd ⟨by rw [ea, eb], by rw [val_none ha (end_l a b) ea, val_none hb (end_r a b) eb]⟩ hA
        | some hi =>
          constructor
          · intro h; cases h
          · rintro ((⟨h, _⟩ | h) | h)
            · exact absurd h c
            · cases h
            · exact absurd h noS
      | some lo =>
        cases eb : valR b (endN a b) with
        | none =>
          constructor
          · intro h; cases h
          · rintro ((⟨h, _⟩ | h) | h)
            · exact absurd h c
            · cases h
            · exact absurd h noS
        | some hi =>
          simp only [Option.map_some]
          obtain ⟨j, rfl⟩ : ∃ j, n = endN a b + j := ⟨n - endN a b, by omega⟩
          have ej : (((endN a b + j : Nat) : Int) - (endN a b : Nat)) = (j : Int) := by omega
          rw [ej]
          by_cases hl : a.l = b.l
          · have hne : lo ≠ hi := fun e => hA ⟨by rw [ea, eb, e], hl⟩
            rw [if_neg (fun z => z.1 hl)]
            constructor
            · intro h
              have h := Option.some.inj h
              rw [hl] at h
              exact absurd (by omega : lo = hi) hne
            · rintro ((⟨h, _⟩ | h) | h)
              · exact absurd h c
              · cases h
              · exact absurd h noS
          · have ci := cross_iff (lo := lo) (hi := hi) (j := j) hl
            constructor
            · intro h
              obtain ⟨h1, h2, h3⟩ := ci.mp (Option.some.inj h)
              rw [if_pos ⟨hl, h1, h2⟩, h3]
              exact .inl (.inr List.mem_cons_self)
            · rintro ((⟨h, _⟩ | h) | h)
              · exact absurd h c
              · congr 1
                split at h
                · rename_i hc
                  have := List.mem_singleton.mp (show _ ∈ [_] from h)
                  exact ci.mpr ⟨hc.2.1, hc.2.2, by omega⟩
                · cases h
              · exact absurd h noS
/-- strictly rising -/
def Ris (l : List Nat) : Prop := ∀ i j : Nat, i < j → ∀ x y : Nat, l[i]? = some x → l[j]? = some y → x < y
theorem meet_pair (a b : Rn) : (meetC a b).Pairwise (fun x y : Nat => x < y) := by
  have hr : ∀ n, (cnt a b n).Pairwise (fun x y : Nat => x < y) := fun n => List.Pairwise.filter _ List.pairwise_lt_range
  unfold meetC
  by_cases hA : Alike a b
  · rw [if_pos hA]; exact hr _
  · rw [if_neg hA, List.pairwise_append]
    refine ⟨hr _, ?_, fun x hx y hy => ?_⟩
    · cases crossN a b with
      | none => exact List.Pairwise.nil
      | some c => exact List.pairwise_singleton _ _
    · have h1 := (mem_cnt.mp hx).1
      unfold crossN at hy
      split at hy
      · split at hy
        · have := List.mem_singleton.mp (show y ∈ [_] from hy)
          omega
        · cases hy
      · cases hy
theorem ris (a b : Rn) : Ris (meetC a b) := fun i j hij x y hx hy => by
  obtain ⟨h1, e1⟩ := List.getElem?_eq_some_iff.mp hx
  obtain ⟨h2, e2⟩ := List.getElem?_eq_some_iff.mp hy
  rw [← e1, ← e2]
  exact List.pairwise_iff_getElem.mp (meet_pair a b) i j h1 h2 hij
theorem end_symm (a b : Rn) : endN a b = endN b a := Nat.max_comm _ _
theorem sinc_symm (a b : Rn) : ∀ k, sinc a b k = sinc b a k
  | 0 => rfl
  | k + 1 => by
    unfold sinc
    rw [sinc_symm a b k]
    by_cases h : valR a k = valR b k
    · rw [if_pos h, if_pos h.symm]
    · rw [if_neg h, if_neg (fun z => h z.symm)]
theorem cnt_symm (a b : Rn) (n : Nat) : cnt a b n = cnt b a n := by
  unfold cnt
  congr 1
  funext i
  unfold eqV
  exact decide_eq_decide.mpr ⟨Eq.symm, Eq.symm⟩
theorem alike_symm (a b : Rn) : Alike a b ↔ Alike b a := by
  unfold Alike
  rw [end_symm b a]
  exact ⟨fun h => ⟨h.1.symm, h.2.symm⟩, fun h => ⟨h.1.symm, h.2.symm⟩⟩
theorem cross_symm (a b : Rn) : crossN a b = crossN b a := by
  unfold crossN
  rw [end_symm b a]
  cases ea : valR a (endN a b) with
  | none =>
    cases eb : valR b (endN a b) <;> rfl
  | some lo =>
    cases eb : valR b (endN a b) with
    | none => rfl
    | some hi =>
      dsimp only
      have e1 : hi - lo = -(lo - hi) := by omega
      have e2 : a.l - b.l = -(b.l - a.l) := by omega
      by_cases hl : a.l = b.l
      · rw [if_neg (fun z => z.1 hl), if_neg (fun z => z.1 hl.symm)]
      · have f1 : (hi - lo).fdiv (a.l - b.l) = (lo - hi).fdiv (b.l - a.l) := by rw [e1, e2, Int.neg_fdiv_neg]
        have f2 : (hi - lo).fmod (a.l - b.l) = 0 ↔ (lo - hi).fmod (b.l - a.l) = 0 := by
          have m1 := Int.mul_fdiv_add_fmod (hi - lo) (a.l - b.l)
          have m2 := Int.mul_fdiv_add_fmod (lo - hi) (b.l - a.l)
          rw [f1, e2, Int.neg_mul] at m1
          rw [← e2] at m1
          omega
        rw [f1]
        by_cases hc : (hi - lo).fmod (a.l - b.l) = 0 ∧ 0 ≤ (lo - hi).fdiv (b.l - a.l)
        · rw [if_pos ⟨hl, hc.1, hc.2⟩, if_pos ⟨fun z => hl z.symm, f2.mp hc.1, hc.2⟩]
        · rw [if_neg (fun z => hc z.2), if_neg (fun z => hc ⟨f2.mpr z.2.1, z.2.2⟩)]
theorem meetC_symm (a b : Rn) : meetC a b = meetC b a := by
  unfold meetC
  by_cases h : Alike a b
  · rw [if_pos h, if_pos ((alike_symm a b).mp h), end_symm b a, sinc_symm b a, cnt_symm b a]
  · rw [if_neg h, if_neg (fun z => h ((alike_symm a b).mpr z)), end_symm b a, cnt_symm b a, cross_symm b a]
theorem meetS_symm (a b : Rn) : meetS a b = meetS b a := by
  unfold meetS
  by_cases h : Alike a b
  · rw [if_pos h, if_pos ((alike_symm a b).mp h), end_symm b a, sinc_symm b a]
  · rw [if_neg h, if_neg (fun z => h ((alike_symm a b).mpr z))]
end Me

/-! CrN: run_meetings. -/
namespace Me
open PySem PySem.Spec PyProof.Rows L2 Cr
local macro_rules | `(tactic| walk_at "w") => `(tactic| first
  | with_reducible refine ws_seq ?_ | with_reducible refine ws_asg ?_ | with_reducible refine ws_ret ?_ | with_reducible refine ws_retN ?_ | with_reducible refine ws_drop ?_ | with_reducible refine ws_if ?_
  | with_reducible refine ws_next ?_ | with_reducible refine ws_par ?_ | with_reducible refine ws_par3 ?_
  | with_reducible refine we_int ?_ | with_reducible refine we_str ?_ | with_reducible refine we_bl ?_ | with_reducible refine we_non ?_ | with_reducible refine we_op ?_ | with_reducible refine we_un ?_
  | with_reducible refine we_cb ?_ | with_reducible refine we_if ?_ | with_reducible refine we_tup ?_ | with_reducible refine we_call ?_ | with_reducible refine wa_cons ?_ | with_reducible refine wa_nil ?_
  | with_reducible refine wt_val ?_ | with_reducible refine wt_test ?_ | with_reducible refine wt_and ?_ | with_reducible refine wt_or ?_ | with_reducible refine wt_not ?_ | with_reducible refine wt_yes ?_
  | with_reducible refine we_andV ?_ | with_reducible refine we_orV ?_ | with_reducible refine we_notV ?_ | with_reducible refine we_chain ?_ | with_reducible refine we_slice ?_ | with_reducible refine wo_none ?_ | with_reducible refine wo_some ?_
  | with_reducible refine we_bits ?_ | refine we_var (by rfl) ?_)
local macro_rules | `(tactic| walk_at "i2") => `(tactic| refine ⟨_, _, _, rfl, rfl, .int _ _, ?_⟩)
local macro_rules | `(tactic| walk_at "in") => `(tactic| refine ⟨_, _, rfl, .int _, ?_⟩)

open Ru (Wo Rn fD rD valR runB RunQ sml)
abbrev nD (n : Nat) : D := .int (n : Int)
theorem we_lcPF {K : PySem.W.Frag} {r : Ro} {m : Sto} {wi : TI} {g : TG} {tt : TT} {te : TE} {vs js : List Nat} {Q : Sv → Sto → Prop} (hjs : ∀ j ∈ js, j ∈ vs)
    (h : WI K r m wi fun ds m1 => ds.length ≤ 100000 ∧ ∃ (f : D → Bool) (v : D → D), (∀ d ∈ ds, ∀ p acc, m1 p = none → WG K g js (.val d) (wipeR r vs) (stS m1 p acc) fun r2 => WT K r2 (stS m1 p acc) tt fun b m2 => b = f d ∧ m2 = stS m1 p acc ∧ (b = true → WE K r2 (stS m1 p acc) te fun s m3 => s = .val (v d) ∧ m3 = stS m1 p acc)) ∧ ∀ p, m1 p = none → Q (.adr p) (stS m1 p ((ds.filter f).map v))) :
    WE K r m (tLc wi g tt te vs) Q := by
  refine we_lcO hjs fun σ H R e st k => h σ H R e st fun J H' ds mz x so io ⟨hl, f, v, turn, q⟩ => k J H' ds mz x so io ⟨hl, fun p hp => ?_⟩
  refine ⟨fun i acc m' => m' = stS mz p acc ∧ acc = ((ds.take i).filter f).map v, ⟨rfl, rfl⟩, ?_, ?_⟩
  · rintro i d acc m' hd _ hm ⟨rfl, rfl⟩
    have hmem : d ∈ ds := List.mem_of_getElem? hd
    have tk : ds.take (i + 1) = ds.take i ++ [d] := by rw [List.take_add_one, hd]; rfl
    refine fun v1 σ1 H1 QV1 e1 st1 rs1 k1 => turn d hmem p _ hp v1 σ1 H1 QV1 e1 st1 rs1 fun σ2 r2 e2 l2 n2 q2 => k1 σ2 r2 e2 l2 n2 (q2.imp fun b m2 ⟨hb, hm2, q3⟩ => ?_)
    subst hm2
    cases b with
    | true =>
      refine (q3 rfl).imp fun s m3 ⟨hs, hm3⟩ => ⟨v d, hs, by rw [hm3]; exact stS_same, ?_, ?_⟩
      · rw [hm3, stS_stS]
      · rw [tk, List.filter_append, List.map_append]
        have : [d].filter f = [d] := by rw [List.filter_cons, if_pos hb.symm]; rfl
        rw [this]; rfl
    | false =>
      refine ⟨stS_same, rfl, ?_⟩
      rw [tk, List.filter_append, List.map_append]
      have : [d].filter f = [] := by rw [List.filter_cons, if_neg (by rw [← hb]; exact Bool.false_ne_true)]; rfl
      rw [this]
      simp
  · rintro acc m' hm ⟨rfl, rfl⟩
    have := q p hp
    rw [List.take_length]
    exact this
structure LeO (r : Rn) : Prop where
  len : r.f.length ≤ 1000
  ok : runB (rD r) = true
  l : r.l.natAbs ≤ 10 ^ 100
theorem LeO.non {r : Rn} (h : LeO r) : NonOk r := by
  have := h.ok
  rw [Ru.runB_r, Bool.and_eq_true, Bool.or_eq_true] at this
  rcases this.1 with h | h
  · exact .inl h
  · exact .inr (of_decide_eq_true h)
theorem LeO.sml {r : Rn} (h : LeO r) : Ru.sml r.l := Nat.le_trans h.l (by decide +kernel)
theorem LeO.q {r : Rn} (h : LeO r) : RunQ (rD r) := Ru.runQ_r (Nat.le_trans h.len (by decide))
inductive MeetQ (K : PySem.W.Frag) (m : Sto) (Q : Sv → Sto → Prop) (X : Addr → List (Str × D) → Sto → Prop) : D → D → Prop
  | ok (a b : Rn) : LeO a → LeO b → (∀ p, m p = none → Q (.val (.tup [.adr p, hiD (meetS a b)])) (stS m p ((meetC a b).map nD))) → MeetQ K m Q X (rD a) (rD b)
  | one {d e : D} : RunQ d → runB d = false → X (He.ga K "InvalidRun") [("value", d)] m → MeetQ K m Q X d e
  | other {a : Rn} {e : D} : LeO a → RunQ e → runB e = false → X (He.ga K "InvalidRun") [("value", e)] m → MeetQ K m Q X (rD a) e
abbrev T_check_run (K : PySem.W.Frag) : Tr2 := Ru.T_check_run K
abbrev T_value_of : Tr := Ru.T_value_of
def T_run_meetings (K : PySem.W.Frag) : Tr2 := fun ss m Q X => ∃ d e : D, ss = [.val d, .val e] ∧ MeetQ K m Q X d e
def t_run_meetings (K : PySem.W.Frag) (W : WX) : TS := (tSeq (tDrop (tCallX W (SpX K (T_check_run K)) (tCons (tVar 0) tNil))) (tSeq (tDrop (tCallX W (SpX K (T_check_run K)) (tCons (tVar 1) tNil))) (tSeq (tAsg (tCB (rDN K RMax) (tCons (tCB (rDN K RLen) (tCons (tOp (rD2 K RIx) (tVar 0) (tC (.int 0))) tNil)) (tCons (tCB (rDN K RLen) (tCons (tOp (rD2 K RIx) (tVar 1) (tC (.int 0))) tNil)) tNil))) (gName 2)) (tSeq (tAsg (tLc (iRng1 (tCons (tVar 2) tNil)) (gName 9) (tTest (tOp (rD2 K REqR) (tCall (SpD K T_value_of) [] E0 (tCons (tVar 0) (tCons (tVar 9) tNil))) (tCall (SpD K T_value_of) [] E0 (tCons (tVar 1) (tCons (tVar 9) tNil))))) (tVar 9) [9]) (gName 3)) (tSeq (tPar 4 5 (tCons (tCall (SpD K T_value_of) [] E0 (tCons (tVar 0) (tCons (tVar 2) tNil))) (tCons (tCall (SpD K T_value_of) [] E0 (tCons (tVar 1) (tCons (tVar 2) tNil))) tNil))) (tSeq (tIfS (tAnd (tTest (tOp (rD2 K REqR) (tVar 4) (tVar 5))) (tTest (tOp (rD2 K REqR) (tOp (rD2 K RIx) (tVar 0) (tC (.int 2))) (tOp (rD2 K RIx) (tVar 1) (tC (.int 2)))))) (tSeq (tAsg (tVar 2) (gName 6)) (tSeq (tWhile (tAnd (tTest (tOp (rD2 K RNeR) (tVar 3) (tLst tNil))) (tTest (tOp (rD2 K REqR) (tOp (rD2 K RIx) (tVar 3) (tUn (rD1 K RNeg) (tC (.int 1)))) (tOp (rD2 K RSub) (tVar 6) (tC (.int 1)))))) (tAsg (tBM0 K "list" rPop (tVar 3)) (gName 6))) (tRet (tTup (tCons (tVar 3) (tCons (tVar 6) tNil)))))) tNext) (tSeq (tIfS (tAnd (tTest (tOp (rD2 K RIsN) (tVar 4) (tC .non))) (tAnd (tTest (tOp (rD2 K RIsN) (tVar 5) (tC .non))) (tTest (tOp (rD2 K RNeR) (tOp (rD2 K RIx) (tVar 0) (tC (.int 2))) (tOp (rD2 K RIx) (tVar 1) (tC (.int 2))))))) (tSeq (tPar 7 8 (tCons (tOp (rD2 K RSub) (tVar 5) (tVar 4)) (tCons (tOp (rD2 K RSub) (tOp (rD2 K RIx) (tVar 0) (tC (.int 2))) (tOp (rD2 K RIx) (tVar 1) (tC (.int 2)))) tNil))) (tIfS (tAnd (tTest (tOp (rD2 K REqR) (tOp (rD2 K RMod) (tVar 7) (tVar 8)) (tC (.int 0)))) (tTest (tOp (rD2 K RGe) (tOp (rD2 K RFdiv) (tVar 7) (tVar 8)) (tC (.int 0))))) (tDrop (tBM K "list" rAppend (tVar 3) (tCons (tOp (rD2 K RAdd) (tVar 2) (tOp (rD2 K RFdiv) (tVar 7) (tVar 8))) tNil))) tNext)) tNext) (tRet (tTup (tCons (tVar 3) (tCons (tC .non) tNil)))))))))))
section
variable {K : PySem.W.Frag} {ro : Ro} {m : Sto} {x : Rn} {i : Nat} {Q : Sv → Sto → Prop}
theorem we_r0 (hi : ro[i]? = some (some (.val (rD x)))) (q : Q (.val (fD x.f)) m) : WE K ro m (tOp (rD2 K RIx) (tVar i) (tC (.int 0))) Q := we_op (we_var hi (we_int ⟨_, _, _, rfl, rfl, .tup (d := fD x.f) rfl, q⟩))
theorem we_r2 (hi : ro[i]? = some (some (.val (rD x)))) (q : Q (.val (.int x.l)) m) : WE K ro m (tOp (rD2 K RIx) (tVar i) (tC (.int 2))) Q := we_op (we_var hi (we_int ⟨_, _, _, rfl, rfl, .tup (d := .int x.l) rfl, q⟩))
theorem we_len0 (hi : ro[i]? = some (some (.val (rD x)))) (q : Q (.val (.int (x.f.length : Nat))) m) : WE K ro m (tCB (rDN K RLen) (tCons (tOp (rD2 K RIx) (tVar i) (tC (.int 0))) tNil)) Q :=
  we_cb (wa_cons (we_r0 hi (wa_nil ⟨_, _, rfl, .lst _, by rw [List.length_map]; exact q⟩)))
theorem we_end {a b : Rn} {j : Nat} (hi : ro[i]? = some (some (.val (rD a)))) (hj : ro[j]? = some (some (.val (rD b)))) (q : Q (.val (nD (endN a b))) m) :
    WE K ro m (tCB (rDN K RMax) (tCons (tCB (rDN K RLen) (tCons (tOp (rD2 K RIx) (tVar i) (tC (.int 0))) tNil)) (tCons (tCB (rDN K RLen) (tCons (tOp (rD2 K RIx) (tVar j) (tC (.int 0))) tNil)) tNil))) Q := by
  refine we_cb (wa_cons (we_len0 hi (wa_cons (we_len0 hj (wa_nil ⟨_, _, rfl, .int _ _, ?_⟩)))))
  have : (if ((b.f.length : Nat) : Int) > ((a.f.length : Nat) : Int) then ((b.f.length : Nat) : Int) else ((a.f.length : Nat) : Int)) = ((endN a b : Nat) : Int) := by unfold endN; split <;> omega
  show Q (.val (.int (if ((b.f.length : Nat) : Int) > ((a.f.length : Nat) : Int) then ((b.f.length : Nat) : Int) else ((a.f.length : Nat) : Int)))) m
  rw [this]
  exact q
theorem we_val {n : Nat} {te : TE} (hi : ro[i]? = some (some (.val (rD x)))) (hl : Ru.sml x.l) (hn : n ≤ 10 ^ 400) (ht : ∀ {Q : Sv → Sto → Prop}, Q (.val (nD n)) m → WE K ro m te Q) (q : Q (.val (hiD (valR x n))) m) : WE K ro m (tCall (SpD K T_value_of) [] E0 (tCons (tVar i) (tCons te tNil))) Q :=
  we_call (wa_cons (we_var hi (wa_cons (ht (wa_nil ⟨x, n, rfl, hl, hn, q⟩)))))
end
theorem cnt_succ (a b : Rn) (k : Nat) : cnt a b (k + 1) = if valR a k = valR b k then cnt a b k ++ [k] else cnt a b k := by
  unfold cnt
  rw [List.range_succ, List.filter_append]
  by_cases h : valR a k = valR b k
  · rw [if_pos h]
    have : [k].filter (eqV a b) = [k] := by rw [List.filter_cons, if_pos (show eqV a b k = true from decide_eq_true h)]; rfl
    rw [this]
  · rw [if_neg h]
    have : [k].filter (eqV a b) = [] := by rw [List.filter_cons, if_neg (by unfold eqV; rw [decide_eq_false h]; exact Bool.false_ne_true)]; rfl
    rw [this, List.append_nil]
theorem plain_n {l : List Nat} : ∀ d ∈ l.map nD, Plain d := fun d hd => by
  obtain ⟨n, _, rfl⟩ := List.mem_map.mp hd
  exact plain_int _
theorem req_nl (l : List Nat) : REq (.lst (l.map nD)) (.lst []) (decide (l = [])) := by
  have := reqL_nil (plain_n (l := l))
  have e : (l.map nD).isEmpty = decide (l = []) := by cases l <;> rfl
  rw [e] at this
  exact this
theorem last_n {l : List Nat} {c : Nat} (h : l.getLast? = some c) : atI (l.map nD) (-1) = some (nD c) := by
  have hl : 0 < l.length := by
    cases l with
    | nil => cases h
    | cons => simp
  unfold atI ixN
  rw [List.length_map, if_neg (by decide), if_pos (by omega)]
  show (l.map nD)[((-1 : Int) + (l.length : Int)).toNat]? = _
  rw [show ((-1 : Int) + (l.length : Int)).toNat = l.length - 1 by omega, List.getElem?_map, ← List.getLast?_eq_getElem?, h]
  rfl
theorem m_run_meetings {K : PySem.W.Frag} : OkX K ["one", "other", "end", "counts", "low", "high", "since", "gap", "by", "at"] (T_run_meetings K) (t_run_meetings K) := by
  rintro W ss m Q X ⟨d, e, rfl, h⟩
  unfold t_run_meetings
  cases h with
  | one h1 h2 q =>
    refine ws_seq (ws_dropX (wa_cons (we_var rfl (wa_nil ⟨_, rfl, h1, ?_⟩))))
    rw [h2, if_neg Bool.false_ne_true]
    exact q
  | other h0 h1 h2 q =>
    refine ws_seq (ws_dropX (wa_cons (we_var rfl (wa_nil ⟨_, rfl, h0.q, ?_⟩))))
    rw [h0.ok, if_pos rfl]
    refine ws_seq (ws_dropX (wa_cons (we_var rfl (wa_nil ⟨_, rfl, h1, ?_⟩))))
    rw [h2, if_neg Bool.false_ne_true]
    exact q
  | ok a b ha hb q =>
    refine ws_seq (ws_dropX (wa_cons (we_var rfl (wa_nil ⟨_, rfl, ha.q, ?_⟩))))
    rw [ha.ok, if_pos rfl]
    refine ws_seq (ws_dropX (wa_cons (we_var rfl (wa_nil ⟨_, rfl, hb.q, ?_⟩))))
    rw [hb.ok, if_pos rfl]
    have hel : endN a b ≤ 1000 := by unfold endN; have := ha.len; have := hb.len; omega
    have small : ∀ {n : Nat}, n ≤ 1000 → n ≤ 10 ^ 400 := fun h => Nat.le_trans h (by decide +kernel)
    refine ws_seq (ws_asg (we_end (a := a) (b := b) rfl rfl ?_))
    show WS K _ [some (.val (rD a)), some (.val (rD b)), some (.val (nD (endN a b))), none, none, none, none, none, none, none] m _ _
    refine ws_seq (ws_asg (we_lcPF (js := [9]) (by decide) (wi_rng1 (wa_cons (we_var rfl (wa_nil ⟨_, rfl, by omega, by omega, by rw [rng_len]; omega, fun d => match d with | .int i => eqV a b i.toNat | _ => false, fun d => d, ?_, fun p hp => ?_⟩))))))
    · intro d hd p acc hp
      unfold rngD at hd
      obtain ⟨n, hn, rfl⟩ := List.mem_map.mp hd
      have hn2 := List.mem_range.mp hn
      rw [Int.zero_add]
      refine wg_name ?_
      refine wt_test (we_op (we_val (x := a) (n := n) rfl ha.sml (small (by omega)) (fun q => we_var rfl q) (we_val (x := b) (n := n) rfl hb.sml (small (by omega)) (fun q => we_var rfl q) ⟨_, _, _, rfl, rfl, .mk (Ru.req_w _ _), _, rfl, rfl, rfl, fun _ => we_var rfl ⟨rfl, rfl⟩⟩)))
    have ec : ((rngD 0 ((endN a b : Nat) : Int).toNat).filter (fun d => match d with | .int i => eqV a b i.toNat | _ => false)).map (fun d => d) = (cnt a b (endN a b)).map nD := by
      rw [List.map_id', Int.toNat_natCast]
      unfold rngD cnt
      rw [List.filter_map]
      have : ((fun d : D => match d with | .int i => eqV a b i.toNat | _ => false) ∘ fun i : Nat => D.int (0 + (i : Int))) = eqV a b := by
        funext n
        show eqV a b ((0 : Int) + (n : Int)).toNat = _
        rw [Int.zero_add, Int.toNat_natCast]
      rw [this]
      refine List.map_congr_left fun n _ => ?_
      show D.int (0 + (n : Int)) = D.int (n : Int)
      rw [Int.zero_add]
    rw [ec]
    show WS K _ [some (.val (rD a)), some (.val (rD b)), some (.val (nD (endN a b))), some (.adr p), none, none, none, none, none, none] (stS m p ((cnt a b (endN a b)).map nD)) _ _
    refine ws_seq (ws_par (wa_cons (we_val (x := a) (n := endN a b) rfl ha.sml (small hel) (fun q => we_var rfl q) (wa_cons (we_val (x := b) (n := endN a b) rfl hb.sml (small hel) (fun q => we_var rfl q) (wa_nil ⟨_, _, rfl, ?_⟩))))))
    show WS K _ [some (.val (rD a)), some (.val (rD b)), some (.val (nD (endN a b))), some (.adr p), some (.val (hiD (valR a (endN a b)))), some (.val (hiD (valR b (endN a b)))), none, none, none, none] (stS m p ((cnt a b (endN a b)).map nD)) _ _
    have q1 := q p hp
    refine ws_seq (wsIf (b := decide (Alike a b)) ((wtA (a := decide (valR a (endN a b) = valR b (endN a b))) (b := decide (a.l = b.l)) (wt_test (we_op (we_var rfl (we_var rfl ⟨_, _, _, rfl, rfl, .mk (Ru.req_w _ _), _, rfl, rfl, rfl⟩)))) fun _ => wt_test (we_op (we_r2 (x := a) rfl (we_r2 (x := b) rfl ⟨_, _, _, rfl, rfl, .mk (.int _ _), _, rfl, rfl, rfl⟩)))).imp fun y m1 ⟨e1, e2⟩ => ⟨by rw [e1]; unfold Alike; exact (Bool.decide_and _ _).symm, e2⟩) (fun hA => ?_) fun hA => ws_next ?_)
    · have hA' := of_decide_eq_true hA
      unfold meetC meetS at q1
      rw [if_pos hA', if_pos hA'] at q1
      refine ws_seq (ws_asg (we_var rfl ?_))
      show WS K _ [some (.val (rD a)), some (.val (rD b)), some (.val (nD (endN a b))), some (.adr p), some (.val (hiD (valR a (endN a b)))), some (.val (hiD (valR b (endN a b)))), some (.val (nD (endN a b))), none, none, none] (stS m p ((cnt a b (endN a b)).map nD)) _ _
      refine ws_seq (ws_while (fun n r' m' => m' = stS m p ((cnt a b n).map nD) ∧ n ≤ endN a b ∧ r' = [some (.val (rD a)), some (.val (rD b)), some (.val (nD (endN a b))), some (.adr p), some (.val (hiD (valR a (endN a b)))), some (.val (hiD (valR b (endN a b)))), some (.val (nD n)), none, none, none] ∧ sinc a b n = sinc a b (endN a b)) (endN a b) ⟨rfl, Nat.le_refl _, rfl, rfl⟩ ?_)
      rintro n r' m' ⟨rfl, hn, rfl, hs⟩
      have fin : ∀ {P : Eds}, P.rt = Q → sinc a b (endN a b) = n → WS K (dom m) [some (.val (rD a)), some (.val (rD b)), some (.val (nD (endN a b))), some (.adr p), some (.val (hiD (valR a (endN a b)))), some (.val (hiD (valR b (endN a b)))), some (.val (nD n)), none, none, none] (stS m p ((cnt a b n).map nD)) (tRet (tTup (tCons (tVar 3) (tCons (tVar 6) tNil)))) P := fun {P} hP hstop => by
        rw [hstop] at q1
        exact ws_ret (we_tupA (wa_cons (we_var rfl (wa_cons (we_var rfl (wa_nil ⟨by show 2 ≤ 100000; decide, by rw [hP]; exact q1⟩))))))
      have hp1 : (stS m p ((cnt a b n).map nD)) p = some ((cnt a b n).map nD) := stS_same
      have vwp : vw (stS m p ((cnt a b n).map nD)) (.adr p) = some (.lst ((cnt a b n).map nD)) := by show (stS m p _ p).map D.lst = _; rw [hp1]; rfl
      have stop : ∀ {P : Eds} {tb : TS}, (cnt a b n = [] ∨ ∃ c, (cnt a b n).getLast? = some c ∧ c + 1 ≠ n) → WT K [some (.val (rD a)), some (.val (rD b)), some (.val (nD (endN a b))), some (.adr p), some (.val (hiD (valR a (endN a b)))), some (.val (hiD (valR b (endN a b)))), some (.val (nD n)), none, none, none] (stS m p ((cnt a b n).map nD)) (tAnd (tTest (tOp (rD2 K RNeR) (tVar 3) (tLst tNil))) (tTest (tOp (rD2 K REqR) (tOp (rD2 K RIx) (tVar 3) (tUn (rD1 K RNeg) (tC (.int 1)))) (tOp (rD2 K RSub) (tVar 6) (tC (.int 1)))))) fun y m1 => y = false ∧ m1 = stS m p ((cnt a b n).map nD) := fun h => by
        rcases h with h | ⟨c, h1, h2⟩
        · exact wtA (a := false) (b := false) (wt_test (we_op (we_var rfl (we_lst (wa_nil ⟨[], rfl, by decide, _, _, _, vwp, rfl, .mk (req_nl _), _, rfl, by rw [decide_eq_true h]; rfl, rfl⟩))))) fun h => by cases h
        · refine wtA (a := true) (b := false) (wt_test (we_op (we_var rfl (we_lst (wa_nil ⟨[], rfl, by decide, _, _, _, vwp, rfl, .mk (req_nl _), _, rfl, ?_, rfl⟩))))) fun _ => wt_test (we_op (we_op (we_var rfl (we_un (we_int ⟨_, _, rfl, .int _, _, _, _, vwp, rfl, .lst (last_n h1), we_op (we_var rfl (we_int ⟨_, _, _, rfl, rfl, .int _ _, _, _, _, rfl, rfl, .mk (.int _ _), _, rfl, decide_eq_false (by omega), rfl⟩))⟩)))))
          rw [decide_eq_false (fun z => by rw [z] at h1; cases h1)]
          rfl
      by_cases h0 : 0 < n
      · obtain ⟨k, rfl⟩ : ∃ k, n = k + 1 := ⟨n - 1, by omega⟩
        rw [show sinc a b (k + 1) = if valR a k = valR b k then sinc a b k else k + 1 from rfl] at hs
        by_cases h1 : valR a k = valR b k
        · rw [if_pos h1] at hs
          have ecn : cnt a b (k + 1) = cnt a b k ++ [k] := by rw [cnt_succ, if_pos h1]
          have hlast : (cnt a b (k + 1)).getLast? = some k := by rw [ecn]; simp
          refine (wtA (a := true) (b := true) (wt_test (we_op (we_var rfl (we_lst (wa_nil ⟨[], rfl, by decide, _, _, _, vwp, rfl, .mk (req_nl _), _, rfl, by rw [ecn, decide_eq_false (by simp)]; rfl, rfl⟩))))) fun _ => wt_test (we_op (we_op (we_var rfl (we_un (we_int ⟨_, _, rfl, .int _, _, _, _, vwp, rfl, .lst (last_n hlast), we_op (we_var rfl (we_int ⟨_, _, _, rfl, rfl, .int _ _, _, _, _, rfl, rfl, .mk (.int _ _), _, rfl, decide_eq_true (by omega), rfl⟩))⟩)))))).imp fun y m1 ⟨e1, e2⟩ => ?_
          subst e1 e2
          refine (if_pos rfl).mpr (ws_asg (we_pop (we_var rfl ⟨p, (cnt a b k).map nD, nD k, rfl, by rw [hp1, ecn, List.map_append]; rfl, k, Nat.lt_succ_self _, ?_, by omega, rfl, hs⟩)))
          rw [stS_stS]
        · rw [if_neg h1] at hs
          refine (stop (P := { nx := fun _ m' => Q (.val .non) m', rt := Q }) (tb := tNext) ?_).imp fun y m1 ⟨e1, e2⟩ => ?_
          · have ecn : cnt a b (k + 1) = cnt a b k := by rw [cnt_succ, if_neg h1]
            rw [ecn]
            cases hl : (cnt a b k).getLast? with
            | none => exact .inl (List.getLast?_eq_none_iff.mp hl)
            | some c =>
              refine .inr ⟨c, rfl, ?_⟩
              have := (mem_cnt.mp (List.mem_of_getLast? hl)).1
              omega
          · subst e1 e2
            exact (if_neg Bool.false_ne_true).mpr (fin rfl hs.symm)
      · have hn0 : n = 0 := by omega
        refine (stop (P := { nx := fun _ m' => Q (.val .non) m', rt := Q }) (tb := tNext) (.inl (by rw [hn0]; rfl))).imp fun y m1 ⟨e1, e2⟩ => ?_
        subst e1 e2
        refine (if_neg Bool.false_ne_true).mpr (fin rfl ?_)
        rw [← hs, hn0]
        rfl
    · have hA' : ¬ Alike a b := of_decide_eq_false hA
      unfold meetC meetS at q1
      rw [if_neg hA', if_neg hA'] at q1
      have hp1 : (stS m p ((cnt a b (endN a b)).map nD)) p = some ((cnt a b (endN a b)).map nD) := stS_same
      have hcl : ((cnt a b (endN a b)).map nD).length < 100000 := by
        rw [List.length_map]
        have : (cnt a b (endN a b)).length ≤ (List.range (endN a b)).length := List.length_filter_le _ _
        rw [List.length_range] at this
        omega
      have fin : ∀ (g y : Option Sv) (l : List D), Q (.val (.tup [.adr p, .non])) (stS m p l) → WS K (dom m) [some (.val (rD a)), some (.val (rD b)), some (.val (nD (endN a b))), some (.adr p), some (.val (hiD (valR a (endN a b)))), some (.val (hiD (valR b (endN a b)))), none, g, y, none] (stS m p l) (tRet (tTup (tCons (tVar 3) (tCons (tC .non) tNil)))) { nx := fun _ m' => Q (.val .non) m', rt := Q, W := W, xc := fun C fs _ m' => X C fs m' } := fun g y l h =>
        ws_ret (we_tupA (wa_cons (we_var rfl (wa_cons (we_non (wa_nil ⟨by show 2 ≤ 100000; decide, h⟩))))))
      unfold crossN at q1
      cases ea : valR a (endN a b) with
      | none =>
        have q2 : Q (.val (.tup [.adr p, .non])) (stS m p ((cnt a b (endN a b)).map nD)) := by
          rw [ea] at q1
          cases eb : valR b (endN a b) with
          | none =>
            rw [eb] at q1
            dsimp only at q1
            rw [Option.toList_none, List.append_nil] at q1
            exact q1
          | some hi =>
            rw [eb] at q1
            dsimp only at q1
            rw [Option.toList_none, List.append_nil] at q1
            exact q1
        rw [ea] at fin
        refine ws_seq (wsIf (b := false) (wtA (a := false) (b := false) (wt_test (we_op (we_var rfl (we_non ⟨_, _, _, rfl, rfl, .mk (.non _), _, rfl, rfl, rfl⟩)))) fun h => by cases h) (fun h => by cases h) fun _ => ws_next ?_)
        exact fin none none _ q2
      | some lo =>
        cases eb : valR b (endN a b) with
        | none =>
          rw [ea, eb] at q1 fin
          refine ws_seq (wsIf (b := false) (wtA (a := true) (b := false) (wt_test (we_op (we_var rfl (we_non ⟨_, _, _, rfl, rfl, .mk (.non _), _, rfl, rfl, rfl⟩)))) fun _ => wtA (a := false) (b := false) (wt_test (we_op (we_var rfl (we_non ⟨_, _, _, rfl, rfl, .mk (.non _), _, rfl, rfl, rfl⟩)))) fun h => by cases h) (fun h => by cases h) fun _ => ws_next ?_)
          rw [Option.toList_none, List.append_nil] at q1
          exact fin none none _ q1
        | some hi =>
          rw [ea, eb] at q1 fin
          dsimp only at q1
          refine ws_seq (wsIf (b := decide (a.l ≠ b.l)) ((wtA (a := true) (b := decide (a.l ≠ b.l)) (wt_test (we_op (we_var rfl (we_non ⟨_, _, _, rfl, rfl, .mk (.non _), _, rfl, rfl, rfl⟩)))) fun _ => (wtA (a := true) (b := decide (a.l ≠ b.l)) (wt_test (we_op (we_var rfl (we_non ⟨_, _, _, rfl, rfl, .mk (.non _), _, rfl, rfl, rfl⟩)))) fun _ => wt_test (we_op (we_r2 (x := a) rfl (we_r2 (x := b) rfl ⟨_, _, _, rfl, rfl, .mk (.int _ _), _, rfl, by simp, rfl⟩))))).imp fun y m1 h => h) (fun hd => ?_) fun hd => ws_next ?_)
          · have hd' : a.l ≠ b.l := of_decide_eq_true hd
            have hdz : a.l - b.l ≠ 0 := by omega
            have hdl : (a.l - b.l).natAbs.log2 < 9000 := by
              have h1 := Int.natAbs_sub_le a.l b.l
              have h2 := ha.l
              have h3 := hb.l
              exact Nat.lt_of_le_of_lt (log2_mono (by omega : (a.l - b.l).natAbs ≤ 2 * 10 ^ 100)) (by decide +kernel)
            refine ws_seq (ws_par (wa_cons (we_op (we_var rfl (we_var rfl ⟨.int hi, .int lo, _, rfl, rfl, .int _ _, wa_cons (we_op (we_r2 (x := a) rfl (we_r2 (x := b) rfl ⟨_, _, _, rfl, rfl, .int _ _, wa_nil ⟨_, _, rfl, ?_⟩⟩)))⟩)))))
            show WS K _ [some (.val (rD a)), some (.val (rD b)), some (.val (nD (endN a b))), some (.adr p), some (.val (.int lo)), some (.val (.int hi)), none, some (.val (.int (hi - lo))), some (.val (.int (a.l - b.l))), none] (stS m p ((cnt a b (endN a b)).map nD)) _ _
            refine wsIf (b := decide ((hi - lo).fmod (a.l - b.l) = 0) && decide (0 ≤ (hi - lo).fdiv (a.l - b.l))) (wtA (wt_test (we_op (we_op (we_var rfl (we_var rfl ⟨_, _, _, rfl, rfl, .any hdz, we_int ⟨_, _, _, rfl, rfl, .mk (.int _ _), _, rfl, rfl, rfl⟩⟩))))) fun _ => wt_test (we_op (we_op (we_var rfl (we_var rfl ⟨_, _, _, rfl, rfl, .any hdz hdl, we_int ⟨_, _, _, rfl, rfl, .int _ _, _, rfl, rfl, rfl⟩⟩))))) (fun hc => ?_) fun hc => ws_next ?_
            · rw [Bool.and_eq_true, decide_eq_true_eq, decide_eq_true_eq] at hc
              rw [if_pos ⟨hd', hc.1, hc.2⟩] at q1
              refine ws_app (we_var rfl ⟨p, _, rfl, hp1, we_op (we_var rfl (we_op (we_var rfl (we_var rfl ⟨_, _, _, rfl, rfl, .any hdz hdl, _, _, _, rfl, rfl, .int _ _, _, _, rfl, hp1, hcl, ?_⟩))))⟩)
              have e5 : ((endN a b : Nat) : Int) + (hi - lo).fdiv (a.l - b.l) = ((endN a b + ((hi - lo).fdiv (a.l - b.l)).toNat : Nat) : Int) := by omega
              rw [e5, stS_stS]
              refine fin _ _ _ ?_
              rw [Option.toList_some, List.map_append] at q1
              exact q1
            · have hc' : ¬ (a.l ≠ b.l ∧ (hi - lo).fmod (a.l - b.l) = 0 ∧ 0 ≤ (hi - lo).fdiv (a.l - b.l)) := fun z => by
                rw [decide_eq_true z.2.1, decide_eq_true z.2.2] at hc
                cases hc
              rw [if_neg hc', Option.toList_none, List.append_nil] at q1
              exact fin _ _ _ q1
          · have hd' : a.l = b.l := by simpa using hd
            rw [if_neg (fun z => z.1 hd'), Option.toList_none, List.append_nil] at q1
            exact fin none none _ q1
end Me

/-! CrL1: sums and lesser ones of runs, in plain Lean. -/
namespace Le
open PySem PySem.Spec PyProof.Rows L2 Cr
open Ru (Wo Rn valR short shortG back lastOk)
open Me (endN NonOk val_far end_l end_r end_symm)
def sumW : Wo → Wo → Wo
  | some x, some y => some (x + y)
  | _, _ => none
def lesW : Wo → Wo → Wo
  | none, o => o
  | o, none => o
  | some x, some y => some (if y < x then y else x)
theorem sumW_comm (a b : Wo) : sumW a b = sumW b a := by
  cases a <;> cases b <;> first | rfl | (show some _ = some _; congr 1; omega)
theorem lesW_comm (a b : Wo) : lesW a b = lesW b a := by
  cases a with
  | none => cases b <;> rfl
  | some x =>
    cases b with
    | none => rfl
    | some y =>
      show some (if y < x then y else x) = some (if x < y then x else y)
      congr 1
      split <;> split <;> omega
def sumN (a b : Rn) (n : Nat) : Wo := sumW (valR a n) (valR b n)
def les (a b : Rn) (n : Nat) : Wo := lesW (valR a n) (valR b n)
def sumR (a b : Rn) : Rn := ⟨(List.range (endN a b)).map (sumN a b), sumN a b (endN a b), if sumN a b (endN a b) = none then 0 else a.l + b.l⟩
def cr (g d : Int) : Int := if -((-g) / d) > 0 then -((-g) / d) else 0
def crossI (a b : Rn) (e : Nat) : Int := match valR a e, valR b e with
  | some lo, some hi => if a.l = b.l then 0 else if b.l - a.l < 0 then cr (-(lo - hi)) (-(b.l - a.l)) else cr (lo - hi) (b.l - a.l)
  | _, _ => 0
def moreN (a b : Rn) : Nat := (crossI a b (endN a b)).toNat
def slopeE (a b : Rn) : Int := if a.s = none then b.l else if b.s = none then a.l else if b.l < a.l then b.l else a.l
def topN (a b : Rn) : Nat := endN a b + moreN a b
def lesR (a b : Rn) : Rn := ⟨(List.range (topN a b)).map (les a b), les a b (topN a b), slopeE a b⟩
theorem cr_nn (g d : Int) : 0 ≤ cr g d := by unfold cr; split <;> omega
theorem cr_ge {g d k : Int} (hd : 0 < d) (h : cr g d ≤ k) : g ≤ d * k := by
  have h1 : -((-g) / d) ≤ k := by unfold cr at h; split at h <;> omega
  have h2 := Int.mul_ediv_self_le (x := -g) (k := d) (by omega)
  have h3 : d * (-((-g) / d)) ≤ d * k := Int.mul_le_mul_of_nonneg_left h1 (by omega)
  rw [Int.mul_neg] at h3
  omega
theorem cr_lt {g d : Int} (hd : 0 < d) (h : 0 < cr g d) : d * (cr g d - 1) < g := by
  have e : cr g d = -((-g) / d) := by unfold cr at h ⊢; split <;> first | rfl | (split at h <;> omega)
  rw [e]
  have h2 := Int.lt_mul_ediv_self_add (x := -g) (k := d) hd
  have h3 : d * (-((-g) / d) - 1) = -(d * ((-g) / d)) - d := by rw [Int.mul_sub, Int.mul_neg, Int.mul_one]
  omega
theorem cr_le {g d : Int} (hd : 0 < d) : cr g d ≤ g.natAbs + 1 := by
  by_cases h : 0 < cr g d
  · have h1 := cr_lt hd h
    have h2 : 1 * (cr g d - 1) ≤ d * (cr g d - 1) := Int.mul_le_mul_of_nonneg_right (by omega) (by omega)
    omega
  · have := cr_nn g d
    omega
theorem crossI_nn (a b : Rn) (e : Nat) : 0 ≤ crossI a b e := by
  unfold crossI
  split
  · split
    · exact Int.le_refl _
    · split <;> exact cr_nn _ _
  · exact Int.le_refl _
theorem more_int (a b : Rn) : ((moreN a b : Nat) : Int) = crossI a b (endN a b) := Int.toNat_of_nonneg (crossI_nn _ _ _)
theorem s_none {r : Rn} {e : Nat} (h : r.f.length ≤ e) : (valR r e = none) ↔ r.s = none := by
  rw [Ru.valR_ge r h]
  cases r.s <;> simp
/-- far out the lesser one is a line -/
theorem les_far (a b : Rn) {n : Nat} (hn : topN a b ≤ n) : les a b n = (les a b (topN a b)).map fun s => s + slopeE a b * ((n : Int) - (topN a b : Nat)) := by
  have hea := end_l a b
  have heb := end_r a b
  have ht : endN a b ≤ topN a b := Nat.le_add_right _ _
  have hat : a.f.length ≤ topN a b := by omega
  have hbt : b.f.length ≤ topN a b := by omega
  unfold les
  rw [val_far hat hn, val_far hbt hn]
  by_cases ha : a.s = none
  · have e1 : valR a (topN a b) = none := (s_none hat).mpr ha
    rw [e1]
    have e2 : slopeE a b = b.l := by unfold slopeE; rw [if_pos ha]
    rw [e2]
    cases valR b (topN a b) <;> rfl
  · by_cases hb : b.s = none
    · have e1 : valR b (topN a b) = none := (s_none hbt).mpr hb
      rw [e1]
      have e2 : slopeE a b = a.l := by unfold slopeE; rw [if_neg ha, if_pos hb]
      rw [e2]
      cases valR a (topN a b) <;> rfl
    · obtain ⟨lo, el⟩ : ∃ lo, valR a (endN a b) = some lo := by
        cases h : valR a (endN a b) with
        | none => exact absurd ((s_none hea).mp h) ha
        | some x => exact ⟨x, rfl⟩
      obtain ⟨hi, eh⟩ : ∃ hi, valR b (endN a b) = some hi := by
        cases h : valR b (endN a b) with
        | none => exact absurd ((s_none heb).mp h) hb
        | some x => exact ⟨x, rfl⟩
      have va : valR a (topN a b) = some (lo + a.l * (moreN a b : Int)) := by
        rw [val_far hea ht, el]
        show some (lo + a.l * (((topN a b : Nat) : Int) - (endN a b : Nat))) = _
        rw [show ((topN a b : Nat) : Int) - (endN a b : Nat) = (moreN a b : Int) by unfold topN; omega]
      have vb : valR b (topN a b) = some (hi + b.l * (moreN a b : Int)) := by
        rw [val_far heb ht, eh]
        show some (hi + b.l * (((topN a b : Nat) : Int) - (endN a b : Nat))) = _
        rw [show ((topN a b : Nat) : Int) - (endN a b : Nat) = (moreN a b : Int) by unfold topN; omega]
      rw [va, vb]
      obtain ⟨k, rfl⟩ : ∃ k, n = topN a b + k := ⟨n - topN a b, by omega⟩
      have ek : (((topN a b + k : Nat) : Int) - (topN a b : Nat)) = (k : Int) := by omega
      rw [ek]
      have e2 : slopeE a b = if b.l < a.l then b.l else a.l := by unfold slopeE; rw [if_neg ha, if_neg hb]
      rw [e2]
      have hm := more_int a b
      unfold crossI at hm
      rw [el, eh] at hm
      dsimp only at hm
      generalize hmm : (moreN a b : Int) = mm at *
      have key : (b.l < a.l → hi + b.l * mm + b.l * k ≤ lo + a.l * mm + a.l * k ∧ hi + b.l * mm ≤ lo + a.l * mm) ∧ (a.l < b.l → lo + a.l * mm + a.l * k ≤ hi + b.l * mm + b.l * k ∧ lo + a.l * mm ≤ hi + b.l * mm) := by
        constructor
        · intro hl
          rw [if_neg (by omega), if_pos (by omega)] at hm
          have c1 := cr_ge (g := -(lo - hi)) (d := -(b.l - a.l)) (k := mm) (by omega) (by omega)
          have c2 := cr_ge (g := -(lo - hi)) (d := -(b.l - a.l)) (k := mm + k) (by omega) (by omega)
          rw [show -(b.l - a.l) = a.l - b.l by omega, Int.sub_mul] at c1 c2
          rw [Int.mul_add, Int.mul_add] at c2
          omega
        · intro hl
          rw [if_neg (by omega), if_neg (by omega)] at hm
          have c1 := cr_ge (g := lo - hi) (d := b.l - a.l) (k := mm) (by omega) (by omega)
          have c2 := cr_ge (g := lo - hi) (d := b.l - a.l) (k := mm + k) (by omega) (by omega)
          rw [Int.sub_mul] at c1 c2
          rw [Int.mul_add, Int.mul_add] at c2
          omega
      show some (if hi + b.l * mm + b.l * k < lo + a.l * mm + a.l * k then hi + b.l * mm + b.l * k else lo + a.l * mm + a.l * k) = some ((if hi + b.l * mm < lo + a.l * mm then hi + b.l * mm else lo + a.l * mm) + (if b.l < a.l then b.l else a.l) * k)
      congr 1
      rcases Int.lt_trichotomy a.l b.l with h | h | h
      · obtain ⟨k1, k2⟩ := key.2 h
        rw [if_neg (by omega : ¬ b.l < a.l)]
        split <;> split <;> omega
      · rw [if_neg (by omega : ¬ b.l < a.l), h]
        split <;> split <;> omega
      · obtain ⟨k1, k2⟩ := key.1 h
        rw [if_pos h]
        split <;> split <;> omega
/-- no shorter list would do -/
theorem les_tight (a b : Rn) (h : 0 < moreN a b) : les a b (topN a b - 1) ≠ back (les a b (topN a b)) (slopeE a b) := by
  have hea := end_l a b
  have heb := end_r a b
  have hm := more_int a b
  unfold crossI at hm
  cases el : valR a (endN a b) with
  | none => rw [el] at hm; cases eh : valR b (endN a b) <;> rw [eh] at hm <;> dsimp only at hm <;> omega
  | some lo =>
    cases eh : valR b (endN a b) with
    | none => rw [el, eh] at hm; dsimp only at hm; omega
    | some hi =>
      rw [el, eh] at hm
      dsimp only at hm
      have ha : ¬ a.s = none := fun z => by rw [(s_none hea).mpr z] at el; cases el
      have hb : ¬ b.s = none := fun z => by rw [(s_none heb).mpr z] at eh; cases eh
      have hne : ¬ a.l = b.l := fun z => by rw [if_pos z] at hm; omega
      rw [if_neg hne] at hm
      have va : ∀ k : Nat, valR a (endN a b + k) = some (lo + a.l * (k : Int)) := fun k => by
        rw [val_far hea (Nat.le_add_right _ _), el]
        show some (lo + a.l * (((endN a b + k : Nat) : Int) - (endN a b : Nat))) = _
        rw [show ((endN a b + k : Nat) : Int) - (endN a b : Nat) = (k : Int) by omega]
      have vb : ∀ k : Nat, valR b (endN a b + k) = some (hi + b.l * (k : Int)) := fun k => by
        rw [val_far heb (Nat.le_add_right _ _), eh]
        show some (hi + b.l * (((endN a b + k : Nat) : Int) - (endN a b : Nat))) = _
        rw [show ((endN a b + k : Nat) : Int) - (endN a b : Nat) = (k : Int) by omega]
      have e2 : slopeE a b = if b.l < a.l then b.l else a.l := by unfold slopeE; rw [if_neg ha, if_neg hb]
      have et : topN a b - 1 = endN a b + (moreN a b - 1) := by unfold topN; omega
      unfold les
      rw [et, va, vb, show topN a b = endN a b + moreN a b from rfl, va, vb, e2]
      have ek : ((moreN a b - 1 : Nat) : Int) = (moreN a b : Int) - 1 := by omega
      rw [ek]
      generalize hmm : (moreN a b : Int) = mm at *
      show some (if hi + b.l * (mm - 1) < lo + a.l * (mm - 1) then hi + b.l * (mm - 1) else lo + a.l * (mm - 1)) ≠ some ((if hi + b.l * mm < lo + a.l * mm then hi + b.l * mm else lo + a.l * mm) - (if b.l < a.l then b.l else a.l))
      intro z
      have z := Option.some.inj z
      rw [Int.mul_sub, Int.mul_sub, Int.mul_one, Int.mul_one] at z
      rcases Int.lt_or_gt_of_ne hne with hl | hl
      · rw [if_neg (by omega : ¬ b.l - a.l < 0)] at hm
        have c1 := cr_ge (g := lo - hi) (d := b.l - a.l) (k := mm) (by omega) (by omega)
        have c2 := cr_lt (g := lo - hi) (d := b.l - a.l) (by omega) (by omega)
        rw [← hm, Int.sub_mul, Int.mul_sub, Int.mul_sub, Int.mul_one, Int.mul_one] at c2
        rw [Int.sub_mul] at c1
        rw [if_neg (by omega : ¬ b.l < a.l)] at z
        split at z <;> split at z <;> omega
      · rw [if_pos (by omega : b.l - a.l < 0)] at hm
        have c1 := cr_ge (g := -(lo - hi)) (d := -(b.l - a.l)) (k := mm) (by omega) (by omega)
        have c2 := cr_lt (g := -(lo - hi)) (d := -(b.l - a.l)) (by omega) (by omega)
        rw [← hm, show -(b.l - a.l) = a.l - b.l by omega, Int.sub_mul, Int.mul_sub, Int.mul_sub, Int.mul_one, Int.mul_one] at c2
        rw [show -(b.l - a.l) = a.l - b.l by omega, Int.sub_mul] at c1
        rw [if_pos (by omega : b.l < a.l)] at z
        split at z <;> split at z <;> omega
theorem get_range {f : Nat → Wo} {n k : Nat} (h : n < k) : ((List.range k).map f)[n]? = some (f n) := by
  rw [List.getElem?_map, List.getElem?_range h]
  rfl
theorem val_mk {f : Nat → Wo} {k : Nat} {l : Int} (hf : ∀ n, k ≤ n → f n = (f k).map fun s => s + l * ((n : Int) - (k : Nat))) (n : Nat) : valR ⟨(List.range k).map f, f k, l⟩ n = f n := by
  by_cases h : n < k
  · unfold valR
    rw [show (⟨(List.range k).map f, f k, l⟩ : Rn).f = (List.range k).map f from rfl, get_range h]
  · have hl : (⟨(List.range k).map f, f k, l⟩ : Rn).f.length = k := by show ((List.range k).map f).length = k; rw [List.length_map, List.length_range]
    rw [Ru.valR_ge _ (by rw [hl]; omega), hl]
    exact (hf n (by omega)).symm
theorem val_les (a b : Rn) (n : Nat) : valR (lesR a b) n = les a b n := val_mk (fun n hn => les_far a b hn) n
theorem sum_far (a b : Rn) (n : Nat) (hn : endN a b ≤ n) : sumN a b n = (sumN a b (endN a b)).map fun s => s + (if sumN a b (endN a b) = none then 0 else a.l + b.l) * ((n : Int) - (endN a b : Nat)) := by
  unfold sumN
  rw [val_far (end_l a b) hn, val_far (end_r a b) hn]
  cases valR a (endN a b) with
  | none => cases valR b (endN a b) <;> rfl
  | some x =>
    cases valR b (endN a b) with
    | none => rfl
    | some y =>
      show some ((x + a.l * ((n : Int) - (endN a b : Nat))) + (y + b.l * ((n : Int) - (endN a b : Nat)))) = some (x + y + (if (some (x + y) : Wo) = none then 0 else a.l + b.l) * ((n : Int) - (endN a b : Nat)))
      rw [if_neg (by intro z; cases z), Int.add_mul]
      congr 1
      omega
theorem val_sum (a b : Rn) (n : Nat) : valR (sumR a b) n = sumN a b n := val_mk (fun n hn => sum_far a b n hn) n
theorem non_sum (a b : Rn) : NonOk (sumR a b) := by
  unfold NonOk sumR
  cases h : sumN a b (endN a b) with
  | none => exact .inr (show (if (none : Wo) = none then (0 : Int) else a.l + b.l) = 0 from if_pos rfl)
  | some x => exact .inl rfl
theorem non_les {a b : Rn} (ha : NonOk a) (hb : NonOk b) : NonOk (lesR a b) := by
  unfold NonOk lesR
  cases h : les a b (topN a b) with
  | some x => exact .inl rfl
  | none =>
    right
    show slopeE a b = 0
    have hat : a.f.length ≤ topN a b := Nat.le_trans (end_l a b) (Nat.le_add_right _ _)
    have hbt : b.f.length ≤ topN a b := Nat.le_trans (end_r a b) (Nat.le_add_right _ _)
    unfold les at h
    cases e1 : valR a (topN a b) with
    | none =>
      rw [e1] at h
      have e2 : valR b (topN a b) = none := h
      have h1 := Me.val_none hb hbt e2
      unfold slopeE
      rw [if_pos ((s_none hat).mp e1), h1]
    | some x =>
      rw [e1] at h
      cases e2 : valR b (topN a b) <;> rw [e2] at h <;> cases h
theorem sumN_symm (a b : Rn) : sumN a b = sumN b a := funext fun n => sumW_comm _ _
theorem les_symm (a b : Rn) : les a b = les b a := funext fun n => lesW_comm _ _
theorem sumR_symm (a b : Rn) : sumR a b = sumR b a := by
  unfold sumR
  rw [sumN_symm b a, end_symm b a, Int.add_comm b.l a.l]
theorem crossI_symm (a b : Rn) (e : Nat) : crossI a b e = crossI b a e := by
  unfold crossI
  cases valR a e with
  | none => cases valR b e <;> rfl
  | some lo =>
    cases valR b e with
    | none => rfl
    | some hi =>
      dsimp only
      by_cases h : a.l = b.l
      · rw [if_pos h, if_pos h.symm]
      · rw [if_neg h, if_neg (show ¬ b.l = a.l from fun z => h z.symm)]
        by_cases h2 : b.l - a.l < 0
        · rw [if_pos h2, if_neg (by omega : ¬ a.l - b.l < 0)]
          congr 1 <;> omega
        · rw [if_neg h2, if_pos (by omega : a.l - b.l < 0)]
          congr 1 <;> omega
theorem top_symm (a b : Rn) : topN a b = topN b a := by
  unfold topN moreN
  rw [end_symm b a, crossI_symm b a]
theorem slope_symm {a b : Rn} (ha : NonOk a) (hb : NonOk b) : slopeE a b = slopeE b a := by
  unfold slopeE
  by_cases h1 : a.s = none
  · by_cases h2 : b.s = none
    · rw [if_pos h1, if_pos h2]
      have e1 : a.l = 0 := by
        rcases ha with h | h
        · rw [h1] at h; cases h
        · exact h
      have e2 : b.l = 0 := by
        rcases hb with h | h
        · rw [h2] at h; cases h
        · exact h
      rw [e1, e2]
    · rw [if_pos h1, if_neg h2, if_pos h1]
  · by_cases h2 : b.s = none
    · rw [if_neg h1, if_pos h2, if_pos h2]
    · rw [if_neg h1, if_neg h2, if_neg h2, if_neg h1]
      split <;> split <;> omega
theorem lesR_symm {a b : Rn} (ha : NonOk a) (hb : NonOk b) : lesR a b = lesR b a := by
  unfold lesR
  rw [les_symm b a, top_symm b a, slope_symm hb ha]
theorem short_lastOk {r : Rn} (h : lastOk r = true) : short r = r := by
  have key : shortG r.l r.f.reverse r.s = (r.f.reverse, r.s) := by
    cases e : r.f.reverse with
    | nil => rfl
    | cons x g =>
      unfold shortG
      rw [if_neg]
      intro z
      unfold lastOk at h
      have hl : r.f.getLast? = some x := by rw [List.getLast?_eq_head?_reverse, e]; rfl
      rw [hl, z] at h
      have h0 : ¬ r.f = [] := fun y => by rw [y] at e; cases e
      rw [decide_eq_false h0] at h
      simp at h
  unfold short
  rw [key, List.reverse_reverse]
theorem les_more {a b : Rn} (h : 0 < moreN a b) : short (lesR a b) = lesR a b := by
  refine short_lastOk ?_
  unfold lastOk
  have hl : (lesR a b).f.getLast? = some (les a b (topN a b - 1)) := by
    show ((List.range (topN a b)).map (les a b)).getLast? = _
    have : 0 < topN a b := by unfold topN; omega
    rw [List.getLast?_eq_getElem?, List.length_map, List.length_range, get_range (by omega)]
  rw [hl]
  have : ¬ some (les a b (topN a b - 1)) = some (back (lesR a b).s (lesR a b).l) := fun z => les_tight a b h (Option.some.inj z)
  rw [decide_eq_false this]
  simp
/-- from the end of a least list on it is a line, and from no count ahead of it -/
theorem end_line {r : Rn} {k : Nat} : valR r (r.f.length + k) = r.s.map fun s => s + r.l * (k : Int) := by
  rw [Ru.valR_ge r (Nat.le_add_right _ _)]
  congr 1
  funext s
  congr 2
  omega
theorem end_tight {r : Rn} (h : lastOk r = true) (h0 : 0 < r.f.length) : valR r (r.f.length - 1) ≠ back r.s r.l := fun z => by
  unfold lastOk at h
  have e : r.f[r.f.length - 1]? = some r.f[r.f.length - 1] := List.getElem?_eq_getElem (by omega)
  have e2 : valR r (r.f.length - 1) = r.f[r.f.length - 1] := by unfold valR; rw [e]
  have hl : r.f.getLast? = some (back r.s r.l) := by rw [List.getLast?_eq_getElem?, e, ← z, e2]
  rw [hl] at h
  have h1 : ¬ r.f = [] := fun y => by rw [y] at h0; simp at h0
  rw [decide_eq_false h1] at h
  simp at h
end Le

/-! CrL: run_sum, run_lesser. -/
namespace Le
open PySem PySem.Spec PyProof.Rows L2 Cr
local macro_rules | `(tactic| walk_at "w") => `(tactic| first
  | with_reducible refine ws_seq ?_ | with_reducible refine ws_asg ?_ | with_reducible refine ws_ret ?_ | with_reducible refine ws_retN ?_ | with_reducible refine ws_drop ?_ | with_reducible refine ws_if ?_
  | with_reducible refine ws_next ?_ | with_reducible refine ws_par ?_ | with_reducible refine ws_par3 ?_
  | with_reducible refine we_int ?_ | with_reducible refine we_str ?_ | with_reducible refine we_bl ?_ | with_reducible refine we_non ?_ | with_reducible refine we_op ?_ | with_reducible refine we_un ?_
  | with_reducible refine we_cb ?_ | with_reducible refine we_if ?_ | with_reducible refine we_tup ?_ | with_reducible refine we_call ?_ | with_reducible refine wa_cons ?_ | with_reducible refine wa_nil ?_
  | with_reducible refine wt_val ?_ | with_reducible refine wt_test ?_ | with_reducible refine wt_and ?_ | with_reducible refine wt_or ?_ | with_reducible refine wt_not ?_ | with_reducible refine wt_yes ?_
  | with_reducible refine we_andV ?_ | with_reducible refine we_orV ?_ | with_reducible refine we_notV ?_ | with_reducible refine we_chain ?_ | with_reducible refine we_slice ?_ | with_reducible refine wo_none ?_ | with_reducible refine wo_some ?_
  | with_reducible refine we_bits ?_ | refine we_var (by rfl) ?_)
local macro_rules | `(tactic| walk_at "i2") => `(tactic| refine ⟨_, _, _, rfl, rfl, .int _ _, ?_⟩)
local macro_rules | `(tactic| walk_at "in") => `(tactic| refine ⟨_, _, rfl, .int _, ?_⟩)

open Ru (Wo Rn fD rD valR runB RunQ sml short)
open Me (LeO nD endN we_r0 we_r2 we_len0 we_end we_val)
theorem we_r1 {K : PySem.W.Frag} {ro : Ro} {m : Sto} {x : Rn} {i : Nat} {Q : Sv → Sto → Prop} (hi : ro[i]? = some (some (.val (rD x)))) (q : Q (.val (hiD x.s)) m) : WE K ro m (tOp (rD2 K RIx) (tVar i) (tC (.int 1))) Q := we_op (we_var hi (we_int ⟨_, _, _, rfl, rfl, .tup (d := hiD x.s) rfl, q⟩))
theorem wt_non {K : PySem.W.Frag} {ro : Ro} {m : Sto} {i : Nat} {d : D} (hi : ro[i]? = some (some (.val d))) : WT K ro m (tTest (tOp (rD2 K RIsR) (tVar i) (tC .non))) fun y m1 => y = d.isNon ∧ m1 = m :=
  wt_test (we_op (we_var hi (we_non ⟨_, _, _, rfl, rfl, .mk (.non _), _, rfl, rfl, rfl⟩)))
theorem wt_nonB {K : PySem.W.Frag} {ro : Ro} {m : Sto} {i : Nat} {d : D} {b : Bool} (hi : ro[i]? = some (some (.val d))) (h : d.isNon = b) : WT K ro m (tTest (tOp (rD2 K RIsR) (tVar i) (tC .non))) fun y m1 => y = b ∧ m1 = m := by
  subst h
  exact wt_non hi
def T_sum_of : Tr := fun ss m Q => ∃ a b : Wo, ss = [.val (hiD a), .val (hiD b)] ∧ Q (.val (hiD (sumW a b))) m
def t_sum_of (K : PySem.W.Frag) : TS := (tSeq (tIfS (tOr (tTest (tOp (rD2 K RIsR) (tVar 0) (tC .non))) (tTest (tOp (rD2 K RIsR) (tVar 1) (tC .non)))) (tRet (tC .non)) tNext) (tRet (tOp (rD2 K RAdd) (tVar 0) (tVar 1))))
theorem m_sum_of {K : PySem.W.Frag} : Ok K ["one", "other"] T_sum_of (t_sum_of K) := by
  rintro ss m Q ⟨a, b, rfl, q⟩
  unfold t_sum_of
  cases a with
  | none =>
    have e : sumW none b = none := by cases b <;> rfl
    rw [e] at q
    exact ws_seq (wsIf (b := true) (wtO (a := true) (b := true) (wt_nonB rfl rfl) fun h => by cases h) (fun _ => ws_ret (we_non q)) (fun h => by cases h))
  | some x =>
    cases b with
    | none => exact ws_seq (wsIf (b := true) (wtO (a := false) (b := true) (wt_nonB rfl rfl) fun _ => wt_nonB rfl rfl) (fun _ => ws_ret (we_non q)) (fun h => by cases h))
    | some y => exact ws_seq (wsIf (b := false) (wtO (a := false) (b := false) (wt_nonB rfl rfl) fun _ => wt_nonB rfl rfl) (fun h => by cases h) fun _ => ws_next (ws_ret (we_op (we_var rfl (we_var rfl ⟨.int x, .int y, _, rfl, rfl, .int _ _, q⟩)))))
def T_lesser_of : Tr := fun ss m Q => ∃ a b : Wo, ss = [.val (hiD a), .val (hiD b)] ∧ Q (.val (hiD (lesW a b))) m
def t_lesser_of (K : PySem.W.Frag) : TS := (tSeq (tIfS (tTest (tOp (rD2 K RIsR) (tVar 0) (tC .non))) (tRet (tVar 1)) tNext) (tSeq (tIfS (tTest (tOp (rD2 K RIsR) (tVar 1) (tC .non))) (tRet (tVar 0)) tNext) (tRet (tCB (rDN K RMin) (tCons (tVar 0) (tCons (tVar 1) tNil))))))
theorem m_lesser_of {K : PySem.W.Frag} : Ok K ["one", "other"] T_lesser_of (t_lesser_of K) := by
  rintro ss m Q ⟨a, b, rfl, q⟩
  unfold t_lesser_of
  cases a with
  | none => exact ws_seq (wsIf (b := true) (wt_nonB rfl rfl) (fun _ => ws_ret (we_var rfl q)) (fun h => by cases h))
  | some x =>
    refine ws_seq (wsIf (b := false) (wt_nonB rfl rfl) (fun h => by cases h) fun _ => ws_next ?_)
    cases b with
    | none => exact ws_seq (wsIf (b := true) (wt_nonB rfl rfl) (fun _ => ws_ret (we_var rfl q)) (fun h => by cases h))
    | some y => exact ws_seq (wsIf (b := false) (wt_nonB rfl rfl) (fun h => by cases h) fun _ => ws_next (ws_ret (we_cb (wa_cons (we_var rfl (wa_cons (we_var rfl (wa_nil ⟨[.int x, .int y], _, rfl, .int _ _, q⟩))))))))
def T_ending_slope : Tr := fun ss m Q => ∃ a b : Rn, ss = [.val (rD a), .val (rD b)] ∧ Q (.val (.int (slopeE a b))) m
def t_ending_slope (K : PySem.W.Frag) : TS := (tSeq (tIfS (tTest (tOp (rD2 K RIsR) (tOp (rD2 K RIx) (tVar 0) (tC (.int 1))) (tC .non))) (tRet (tOp (rD2 K RIx) (tVar 1) (tC (.int 2)))) tNext) (tSeq (tIfS (tTest (tOp (rD2 K RIsR) (tOp (rD2 K RIx) (tVar 1) (tC (.int 1))) (tC .non))) (tRet (tOp (rD2 K RIx) (tVar 0) (tC (.int 2)))) tNext) (tRet (tCB (rDN K RMin) (tCons (tOp (rD2 K RIx) (tVar 0) (tC (.int 2))) (tCons (tOp (rD2 K RIx) (tVar 1) (tC (.int 2))) tNil))))))
theorem wt_non1 {K : PySem.W.Frag} {ro : Ro} {m : Sto} {i : Nat} {x : Rn} (hi : ro[i]? = some (some (.val (rD x)))) : WT K ro m (tTest (tOp (rD2 K RIsR) (tOp (rD2 K RIx) (tVar i) (tC (.int 1))) (tC .non))) fun y m1 => y = decide (x.s = none) ∧ m1 = m :=
  wt_test (we_op (we_r1 (x := x) hi (we_non ⟨_, _, _, rfl, rfl, .mk (.non _), _, rfl, by cases x.s <;> rfl, rfl⟩)))
theorem m_ending_slope {K : PySem.W.Frag} : Ok K ["one", "other"] T_ending_slope (t_ending_slope K) := by
  rintro ss m Q ⟨a, b, rfl, q⟩
  unfold t_ending_slope
  unfold slopeE at q
  refine ws_seq (wsIf (wt_non1 (x := a) rfl) (fun h => ?_) fun h => ws_next ?_)
  · rw [if_pos (of_decide_eq_true h)] at q
    exact ws_ret (we_r2 (x := b) rfl q)
  · rw [if_neg (of_decide_eq_false h)] at q
    refine ws_seq (wsIf (wt_non1 (x := b) rfl) (fun h => ?_) fun h => ws_next ?_)
    · rw [if_pos (of_decide_eq_true h)] at q
      exact ws_ret (we_r2 (x := a) rfl q)
    · rw [if_neg (of_decide_eq_false h)] at q
      exact ws_ret (we_cb (wa_cons (we_r2 (x := a) rfl (wa_cons (we_r2 (x := b) rfl (wa_nil ⟨_, _, rfl, .int _ _, q⟩))))))
abbrev T_value_of : Tr := Ru.T_value_of
abbrev T_check_run (K : PySem.W.Frag) : Tr2 := Ru.T_check_run K
abbrev T_shortened : Tr := Ru.T_shortened
def T_crossing : Tr := fun ss m Q => ∃ (a b : Rn) (e : Nat), ss = [.val (rD a), .val (rD b), .val (nD e)] ∧ sml a.l ∧ sml b.l ∧ e ≤ 10 ^ 400 ∧ Q (.val (.int (crossI a b e))) m
def t_crossing (K : PySem.W.Frag) : TS := (tSeq (tPar 3 4 (tCons (tCall (SpD K T_value_of) [] E0 (tCons (tVar 0) (tCons (tVar 2) tNil))) (tCons (tCall (SpD K T_value_of) [] E0 (tCons (tVar 1) (tCons (tVar 2) tNil))) tNil))) (tSeq (tIfS (tOr (tTest (tOp (rD2 K RIsR) (tVar 3) (tC .non))) (tOr (tTest (tOp (rD2 K RIsR) (tVar 4) (tC .non))) (tTest (tOp (rD2 K REqR) (tOp (rD2 K RIx) (tVar 0) (tC (.int 2))) (tOp (rD2 K RIx) (tVar 1) (tC (.int 2))))))) (tRet (tC (.int 0))) tNext) (tSeq (tPar 5 6 (tCons (tOp (rD2 K RSub) (tVar 3) (tVar 4)) (tCons (tOp (rD2 K RSub) (tOp (rD2 K RIx) (tVar 1) (tC (.int 2))) (tOp (rD2 K RIx) (tVar 0) (tC (.int 2)))) tNil))) (tSeq (tIfS (tTest (tOp (rD2 K RLt) (tVar 6) (tC (.int 0)))) (tPar 5 6 (tCons (tUn (rD1 K RNeg) (tVar 5)) (tCons (tUn (rD1 K RNeg) (tVar 6)) tNil))) tNext) (tRet (tCB (rDN K RMax) (tCons (tC (.int 0)) (tCons (tUn (rD1 K RNeg) (tOp (rD2 K RFdiv) (tUn (rD1 K RNeg) (tVar 5)) (tVar 6))) tNil))))))))
theorem m_crossing {K : PySem.W.Frag} : Ok K ["one", "other", "at", "low", "high", "gap", "by"] T_crossing (t_crossing K) := by
  rintro ss m Q ⟨a, b, e, rfl, ha, hb, he, q⟩
  unfold t_crossing
  refine ws_seq (ws_par (wa_cons (we_val (x := a) rfl ha he (fun q => we_var rfl q) (wa_cons (we_val (x := b) rfl hb he (fun q => we_var rfl q) (wa_nil ⟨_, _, rfl, ?_⟩))))))
  show WS K _ [some (.val (rD a)), some (.val (rD b)), some (.val (nD e)), some (.val (hiD (valR a e))), some (.val (hiD (valR b e))), none, none] m _ _
  unfold crossI at q
  have t0 : WT K [some (.val (rD a)), some (.val (rD b)), some (.val (nD e)), some (.val (hiD (valR a e))), some (.val (hiD (valR b e))), none, none] m (tOr (tTest (tOp (rD2 K RIsR) (tVar 3) (tC .non))) (tOr (tTest (tOp (rD2 K RIsR) (tVar 4) (tC .non))) (tTest (tOp (rD2 K REqR) (tOp (rD2 K RIx) (tVar 0) (tC (.int 2))) (tOp (rD2 K RIx) (tVar 1) (tC (.int 2))))))) fun y m1 => y = ((hiD (valR a e)).isNon || ((hiD (valR b e)).isNon || decide (a.l = b.l))) ∧ m1 = m :=
    wtO (wt_non rfl) fun _ => wtO (wt_non rfl) fun _ => wt_test (we_op (we_r2 (x := a) rfl (we_r2 (x := b) rfl ⟨_, _, _, rfl, rfl, .mk (.int _ _), _, rfl, rfl, rfl⟩)))
  cases ea : valR a e with
  | none =>
    rw [ea] at q t0
    have q2 : Q (.val (.int 0)) m := by cases eb : valR b e <;> rw [eb] at q <;> exact q
    exact ws_seq (wsIf (b := true) (t0.imp fun y m1 h => h) (fun _ => ws_ret (we_int q2)) (fun h => by cases h))
  | some lo =>
    cases eb : valR b e with
    | none =>
      rw [ea, eb] at q t0
      exact ws_seq (wsIf (b := true) (t0.imp fun y m1 h => h) (fun _ => ws_ret (we_int q)) (fun h => by cases h))
    | some hi =>
      rw [ea, eb] at q t0
      dsimp only at q
      by_cases hl : a.l = b.l
      · rw [if_pos hl] at q
        exact ws_seq (wsIf (b := true) (t0.imp fun y m1 h => ⟨by rw [h.1, decide_eq_true hl]; rfl, h.2⟩) (fun _ => ws_ret (we_int q)) (fun h => by cases h))
      · rw [if_neg hl] at q
        refine ws_seq (wsIf (b := false) (t0.imp fun y m1 h => ⟨by rw [h.1, decide_eq_false hl]; rfl, h.2⟩) (fun h => by cases h) fun _ => ws_next ?_)
        refine ws_seq (ws_par (wa_cons (we_op (we_var rfl (we_var rfl ⟨.int lo, .int hi, _, rfl, rfl, .int _ _, wa_cons (we_op (we_r2 (x := b) rfl (we_r2 (x := a) rfl ⟨_, _, _, rfl, rfl, .int _ _, wa_nil ⟨_, _, rfl, ?_⟩⟩)))⟩)))))
        show WS K _ [some (.val (rD a)), some (.val (rD b)), some (.val (nD e)), some (.val (.int lo)), some (.val (.int hi)), some (.val (.int (lo - hi))), some (.val (.int (b.l - a.l)))] m _ _
        have last : ∀ g d : Int, 0 < d → d.natAbs ≤ 2 * 10 ^ 400 → Q (.val (.int (cr g d))) m → WS K (dom m) [some (.val (rD a)), some (.val (rD b)), some (.val (nD e)), some (.val (.int lo)), some (.val (.int hi)), some (.val (.int g)), some (.val (.int d))] m (tRet (tCB (rDN K RMax) (tCons (tC (.int 0)) (tCons (tUn (rD1 K RNeg) (tOp (rD2 K RFdiv) (tUn (rD1 K RNeg) (tVar 5)) (tVar 6))) tNil)))) { nx := fun _ m' => Q (.val .non) m', rt := Q } := fun g d h1 h2 h3 =>
          ws_ret (we_cb (wa_cons (we_int (wa_cons (we_un (we_op (we_un (we_var rfl ⟨_, _, rfl, .int _, we_var rfl ⟨_, _, _, rfl, rfl, .int h1 (Nat.lt_of_le_of_lt (log2_mono h2) (by decide +kernel)), _, _, rfl, .int _, wa_nil ⟨_, _, rfl, .int _ _, h3⟩⟩⟩)))))))) 
        have hd2 : (b.l - a.l).natAbs ≤ 2 * 10 ^ 400 := by
          have h1 := Int.natAbs_sub_le b.l a.l
          have h2 : a.l.natAbs ≤ 10 ^ 400 := ha
          have h3 : b.l.natAbs ≤ 10 ^ 400 := hb
          omega
        refine ws_seq (wsIf (b := decide (b.l - a.l < 0)) (wt_test (we_op (we_var rfl (we_int ⟨_, _, _, rfl, rfl, .int _ _, _, rfl, rfl, rfl⟩)))) (fun h => ?_) fun h => ws_next ?_)
        · have h' := of_decide_eq_true h
          rw [if_pos h'] at q
          refine ws_par (wa_cons (we_un (we_var rfl ⟨_, _, rfl, .int _, wa_cons (we_un (we_var rfl ⟨_, _, rfl, .int _, wa_nil ⟨_, _, rfl, ?_⟩⟩))⟩)))
          exact last (-(lo - hi)) (-(b.l - a.l)) (by omega) (by omega) q
        · have h' := of_decide_eq_false h
          rw [if_neg h'] at q
          exact last (lo - hi) (b.l - a.l) (by omega) hd2 q
inductive SumQ (K : PySem.W.Frag) (m : Sto) (Q : Sv → Sto → Prop) (X : Addr → List (Str × D) → Sto → Prop) : D → D → Prop
  | ok (a b : Rn) : LeO a → LeO b → (∀ p, m p = none → Q (.val (.tup [.adr p, hiD (short (sumR a b)).s, .int (sumR a b).l])) (stS m p ((short (sumR a b)).f.map hiD))) → SumQ K m Q X (rD a) (rD b)
  | one {d e : D} : RunQ d → runB d = false → X (He.ga K "InvalidRun") [("value", d)] m → SumQ K m Q X d e
  | other {a : Rn} {e : D} : LeO a → RunQ e → runB e = false → X (He.ga K "InvalidRun") [("value", e)] m → SumQ K m Q X (rD a) e
theorem take_range (f : Nat → Wo) (k : Nat) : cutD (((List.range (k + 1)).map f).map hiD) none (some (k : Int)) = ((List.range k).map f).map hiD := by
  rw [Ru.cut_take _ _ (by rw [List.length_map, List.length_map, List.length_range]; omega), ← List.map_take, ← List.map_take, List.take_range]
  congr 3
  omega
theorem at_range (f : Nat → Wo) {n k : Nat} (h : n < k) : atI (((List.range k).map f).map hiD) (n : Int) = some (hiD (f n)) := Ru.atI_natE (by rw [List.getElem?_map, get_range h]; rfl)
theorem rng_map (f : Nat → Wo) (k : Nat) (g : D → D) (hg : ∀ n : Nat, g (nD n) = hiD (f n)) : ((rngD 0 k).filter (fun _ => true)).map g = ((List.range k).map f).map hiD := by
  rw [List.filter_eq_self.mpr (fun _ _ => rfl)]
  unfold rngD
  rw [List.map_map, List.map_map]
  refine List.map_congr_left fun n _ => ?_
  show g (.int (0 + (n : Int))) = hiD (f n)
  rw [Int.zero_add]
  exact hg n
def T_run_sum (K : PySem.W.Frag) : Tr2 := fun ss m Q X => ∃ d e : D, ss = [.val d, .val e] ∧ SumQ K m Q X d e
def t_run_sum (K : PySem.W.Frag) (W : WX) : TS := (tSeq (tDrop (tCallX W (SpX K (T_check_run K)) (tCons (tVar 0) tNil))) (tSeq (tDrop (tCallX W (SpX K (T_check_run K)) (tCons (tVar 1) tNil))) (tSeq (tAsg (tCB (rDN K RMax) (tCons (tCB (rDN K RLen) (tCons (tOp (rD2 K RIx) (tVar 0) (tC (.int 0))) tNil)) (tCons (tCB (rDN K RLen) (tCons (tOp (rD2 K RIx) (tVar 1) (tC (.int 0))) tNil)) tNil))) (gName 2)) (tSeq (tAsg (tLc (iRng1 (tCons (tOp (rD2 K RAdd) (tVar 2) (tC (.int 1))) tNil)) (gName 5) tYes (tCall (SpD K T_sum_of) [] E0 (tCons (tCall (SpD K T_value_of) [] E0 (tCons (tVar 0) (tCons (tVar 5) tNil))) (tCons (tCall (SpD K T_value_of) [] E0 (tCons (tVar 1) (tCons (tVar 5) tNil))) tNil))) [5]) (gName 3)) (tSeq (tAsg (tOp (rD2 K RAdd) (tOp (rD2 K RIx) (tVar 0) (tC (.int 2))) (tOp (rD2 K RIx) (tVar 1) (tC (.int 2)))) (gName 4)) (tSeq (tIfS (tTest (tOp (rD2 K RIsR) (tOp (rD2 K RIx) (tVar 3) (tVar 2)) (tC .non))) (tAsg (tC (.int 0)) (gName 4)) tNext) (tRet (tCall (SpD K T_shortened) [] E0 (tCons (tSl (rSlD K) (tVar 3) tNoPart (tPart (tVar 2))) (tCons (tOp (rD2 K RIx) (tVar 3) (tVar 2)) (tCons (tVar 4) tNil)))))))))))
theorem m_run_sum {K : PySem.W.Frag} : OkX K ["one", "other", "end", "found", "slope", "at"] (T_run_sum K) (t_run_sum K) := by
  rintro W ss m Q X ⟨d, e, rfl, h⟩
  unfold t_run_sum
  cases h with
  | one h1 h2 q =>
    refine ws_seq (ws_dropX (wa_cons (we_var rfl (wa_nil ⟨_, rfl, h1, ?_⟩))))
    rw [h2, if_neg Bool.false_ne_true]
    exact q
  | other h0 h1 h2 q =>
    refine ws_seq (ws_dropX (wa_cons (we_var rfl (wa_nil ⟨_, rfl, h0.q, ?_⟩))))
    rw [h0.ok, if_pos rfl]
    refine ws_seq (ws_dropX (wa_cons (we_var rfl (wa_nil ⟨_, rfl, h1, ?_⟩))))
    rw [h2, if_neg Bool.false_ne_true]
    exact q
  | ok a b ha hb q =>
    refine ws_seq (ws_dropX (wa_cons (we_var rfl (wa_nil ⟨_, rfl, ha.q, ?_⟩))))
    rw [ha.ok, if_pos rfl]
    refine ws_seq (ws_dropX (wa_cons (we_var rfl (wa_nil ⟨_, rfl, hb.q, ?_⟩))))
    rw [hb.ok, if_pos rfl]
    have hel : endN a b ≤ 1000 := by unfold endN; have := ha.len; have := hb.len; omega
    have small : ∀ {n : Nat}, n ≤ 1001 → n ≤ 10 ^ 400 := fun h => Nat.le_trans h (by decide +kernel)
    refine ws_seq (ws_asg (we_end (a := a) (b := b) rfl rfl ?_))
    show WS K _ [some (.val (rD a)), some (.val (rD b)), some (.val (nD (endN a b))), none, none, none] m _ _
    refine ws_seq (ws_asg (we_lc (js := [5]) (by decide) (wi_rng1 (wa_cons (we_op (we_var rfl (we_int ⟨_, _, _, rfl, rfl, .int _ _, wa_nil ⟨_, rfl, by omega, by omega, by rw [rng_len]; omega, rfl, fun _ => true, fun d => match d with | .int i => hiD (sumN a b i.toNat) | _ => .non, ?_, ?_⟩⟩)))))))
    · intro d hd m'
      unfold rngD at hd
      obtain ⟨n, hn, rfl⟩ := List.mem_map.mp hd
      have hn2 := List.mem_range.mp hn
      rw [Int.zero_add]
      refine wg_name (wt_yes ⟨rfl, rfl, fun _ => we_call (wa_cons (we_val (x := a) (n := n) rfl ha.sml (small (by omega)) (fun q => we_var rfl q) (wa_cons (we_val (x := b) (n := n) rfl hb.sml (small (by omega)) (fun q => we_var rfl q) (wa_nil ⟨_, _, rfl, rfl, rfl⟩)))))⟩)
    have er : (((endN a b : Nat) : Int) + 1).toNat = endN a b + 1 := by omega
    rw [er, rng_map (sumN a b) _ _ (fun n => rfl)]
    show WS K _ [some (.val (rD a)), some (.val (rD b)), some (.val (nD (endN a b))), some (.val (.lst (((List.range (endN a b + 1)).map (sumN a b)).map hiD))), none, none] m _ _
    refine ws_seq (ws_asg (we_op (we_r2 (x := a) rfl (we_r2 (x := b) rfl ⟨_, _, _, rfl, rfl, .int _ _, ?_⟩))))
    show WS K _ [some (.val (rD a)), some (.val (rD b)), some (.val (nD (endN a b))), some (.val (.lst (((List.range (endN a b + 1)).map (sumN a b)).map hiD))), some (.val (.int (a.l + b.l))), none] m _ _
    have hat : atI (((List.range (endN a b + 1)).map (sumN a b)).map hiD) ((endN a b : Nat) : Int) = some (hiD (sumN a b (endN a b))) := at_range _ (Nat.lt_succ_self _)
    have fin : (sumR a b).l = (sumR a b).l → WS K (dom m) [some (.val (rD a)), some (.val (rD b)), some (.val (nD (endN a b))), some (.val (.lst (((List.range (endN a b + 1)).map (sumN a b)).map hiD))), some (.val (.int (sumR a b).l)), none] m (tRet (tCall (SpD K T_shortened) [] E0 (tCons (tSl (rSlD K) (tVar 3) tNoPart (tPart (tVar 2))) (tCons (tOp (rD2 K RIx) (tVar 3) (tVar 2)) (tCons (tVar 4) tNil))))) { nx := fun _ m' => Q (.val .non) m', rt := Q, W := W, xc := fun C fs _ m' => X C fs m' } := fun _ => by
      refine ws_ret (we_call (wa_cons (we_slice (we_var rfl (wo_none (wo_some (we_var rfl ⟨_, rfl, _, _, rfl, .lst _ _ _, wa_cons (we_op (we_var rfl (we_var rfl ⟨_, _, _, rfl, rfl, .lst hat, wa_cons (we_var rfl (wa_nil ⟨sumR a b, ?_, ?_, q⟩))⟩)))⟩)))))))
      · show [Sv.val (.lst (cutD (((List.range (endN a b + 1)).map (sumN a b)).map hiD) none (some ((endN a b : Nat) : Int)))), _, _] = _
        rw [take_range]
        rfl
      · show ((List.range (endN a b)).map (sumN a b)).length ≤ 100000
        rw [List.length_map, List.length_range]
        omega
    refine ws_seq (ws_if (wt_test (we_op (we_op (we_var rfl (we_var rfl ⟨_, _, _, rfl, rfl, .lst hat, we_non ⟨_, _, _, rfl, rfl, .mk (.non _), _, rfl, ?_⟩⟩))))))
    cases hs : sumN a b (endN a b) with
    | none =>
      refine (if_pos rfl).mpr (ws_asg (we_int ?_))
      have : (sumR a b).l = 0 := by show (if sumN a b (endN a b) = none then (0 : Int) else a.l + b.l) = 0; rw [if_pos hs]
      have f := fin rfl
      rw [this] at f
      exact f
    | some z =>
      refine (if_neg Bool.false_ne_true).mpr (ws_next ?_)
      have : (sumR a b).l = a.l + b.l := by show (if sumN a b (endN a b) = none then (0 : Int) else a.l + b.l) = _; rw [if_neg (by rw [hs]; intro z; cases z)]
      have f := fin rfl
      rw [this] at f
      exact f
inductive LesQ (K : PySem.W.Frag) (m : Sto) (Q : Sv → Sto → Prop) (X : Addr → List (Str × D) → Sto → Prop) : D → D → Prop
  | ok (a b : Rn) : LeO a → LeO b → (short (lesR a b)).f.length ≤ 600 → (∀ p, m p = none → Q (.val (.tup [.adr p, hiD (short (lesR a b)).s, .int (lesR a b).l])) (stS m p ((short (lesR a b)).f.map hiD))) → LesQ K m Q X (rD a) (rD b)
  | many (a b : Rn) : LeO a → LeO b → 600 < (short (lesR a b)).f.length → X (He.ga K "TooMany") [("value", nD (short (lesR a b)).f.length)] m → (∀ p, m p = none → X (He.ga K "TooMany") [("value", nD (short (lesR a b)).f.length)] (stS m p ((short (lesR a b)).f.map hiD))) → LesQ K m Q X (rD a) (rD b)
  | one {d e : D} : RunQ d → runB d = false → X (He.ga K "InvalidRun") [("value", d)] m → LesQ K m Q X d e
  | other {a : Rn} {e : D} : LeO a → RunQ e → runB e = false → X (He.ga K "InvalidRun") [("value", e)] m → LesQ K m Q X (rD a) e
def T_run_lesser (K : PySem.W.Frag) : Tr2 := fun ss m Q X => ∃ d e : D, ss = [.val d, .val e] ∧ LesQ K m Q X d e
def t_run_lesser (K : PySem.W.Frag) (W : WX) : TS := (tSeq (tDrop (tCallX W (SpX K (T_check_run K)) (tCons (tVar 0) tNil))) (tSeq (tDrop (tCallX W (SpX K (T_check_run K)) (tCons (tVar 1) tNil))) (tSeq (tAsg (tCB (rDN K RMax) (tCons (tCB (rDN K RLen) (tCons (tOp (rD2 K RIx) (tVar 0) (tC (.int 0))) tNil)) (tCons (tCB (rDN K RLen) (tCons (tOp (rD2 K RIx) (tVar 1) (tC (.int 0))) tNil)) tNil))) (gName 2)) (tSeq (tAsg (tCall (SpD K T_crossing) [] E0 (tCons (tVar 0) (tCons (tVar 1) (tCons (tVar 2) tNil)))) (gName 3)) (tSeq (tIfS (tAnd (tTest (tOp (rD2 K RGt) (tVar 3) (tC (.int 0)))) (tTest (tOp (rD2 K RGt) (tOp (rD2 K RAdd) (tVar 2) (tVar 3)) (tC (.int 600))))) (tRaise W (He.ga K "TooMany") (tOp (rD2 K RAdd) (tVar 2) (tVar 3))) tNext) (tSeq (tAsg (tLc (iRng1 (tCons (tOp (rD2 K RAdd) (tOp (rD2 K RAdd) (tVar 2) (tVar 3)) (tC (.int 1))) tNil)) (gName 6) tYes (tCall (SpD K T_lesser_of) [] E0 (tCons (tCall (SpD K T_value_of) [] E0 (tCons (tVar 0) (tCons (tVar 6) tNil))) (tCons (tCall (SpD K T_value_of) [] E0 (tCons (tVar 1) (tCons (tVar 6) tNil))) tNil))) [6]) (gName 4)) (tSeq (tAsg (tCall (SpD K T_shortened) [] E0 (tCons (tSl (rSlD K) (tVar 4) tNoPart (tPart (tOp (rD2 K RAdd) (tVar 2) (tVar 3)))) (tCons (tOp (rD2 K RIx) (tVar 4) (tOp (rD2 K RAdd) (tVar 2) (tVar 3))) (tCons (tCall (SpD K T_ending_slope) [] E0 (tCons (tVar 0) (tCons (tVar 1) tNil))) tNil)))) (gName 5)) (tSeq (tIfS (tTest (tOp (rD2 K RGt) (tCB (rDN K RLen) (tCons (tOp (rD2 K RIx) (tVar 5) (tC (.int 0))) tNil)) (tC (.int 600)))) (tRaise W (He.ga K "TooMany") (tCB (rDN K RLen) (tCons (tOp (rD2 K RIx) (tVar 5) (tC (.int 0))) tNil))) tNext) (tRet (tVar 5))))))))))
theorem m_run_lesser {K : PySem.W.Frag} : OkX K ["one", "other", "end", "more", "found", "run", "at"] (T_run_lesser K) (t_run_lesser K) := by
  rintro W ss m Q X ⟨d, e, rfl, h⟩
  unfold t_run_lesser
  -- both kinds of two runs
  have main : ∀ a b : Rn, LeO a → LeO b → ((short (lesR a b)).f.length ≤ 600 → ∀ p, m p = none → Q (.val (.tup [.adr p, hiD (short (lesR a b)).s, .int (lesR a b).l])) (stS m p ((short (lesR a b)).f.map hiD))) →
      (600 < (short (lesR a b)).f.length → X (He.ga K "TooMany") [("value", nD (short (lesR a b)).f.length)] m ∧ ∀ p, m p = none → X (He.ga K "TooMany") [("value", nD (short (lesR a b)).f.length)] (stS m p ((short (lesR a b)).f.map hiD))) →
      WS K (dom m) [some (.val (rD a)), some (.val (rD b)), none, none, none, none, none] m (t_run_lesser K W) { nx := fun _ m' => Q (.val .non) m', rt := Q, W := W, xc := fun C fs _ m' => X C fs m' } := fun a b ha hb q1 q2 => by
    unfold t_run_lesser
    refine ws_seq (ws_dropX (wa_cons (we_var rfl (wa_nil ⟨_, rfl, ha.q, ?_⟩))))
    rw [ha.ok, if_pos rfl]
    refine ws_seq (ws_dropX (wa_cons (we_var rfl (wa_nil ⟨_, rfl, hb.q, ?_⟩))))
    rw [hb.ok, if_pos rfl]
    have hel : endN a b ≤ 1000 := by unfold endN; have := ha.len; have := hb.len; omega
    have small : ∀ {n : Nat}, n ≤ 2001 → n ≤ 10 ^ 400 := fun h => Nat.le_trans h (by decide +kernel)
    refine ws_seq (ws_asg (we_end (a := a) (b := b) rfl rfl ?_))
    refine ws_seq (ws_asg (we_call (wa_cons (we_var rfl (wa_cons (we_var rfl (wa_cons (we_var rfl (wa_nil ⟨a, b, endN a b, rfl, ha.sml, hb.sml, small (by omega), ?_⟩)))))))))
    rw [← more_int a b]
    show WS K _ [some (.val (rD a)), some (.val (rD b)), some (.val (nD (endN a b))), some (.val (nD (moreN a b))), none, none, none] m _ _
    have et : ((endN a b : Nat) : Int) + ((moreN a b : Nat) : Int) = ((topN a b : Nat) : Int) := by unfold topN; omega
    have tadd : ∀ {r : Ro} {Q : Sv → Sto → Prop}, r[2]? = some (some (.val (nD (endN a b)))) → r[3]? = some (some (.val (nD (moreN a b)))) → Q (.val (nD (topN a b))) m → WE K r m (tOp (rD2 K RAdd) (tVar 2) (tVar 3)) Q := fun {r Q'} h2 h3 q => we_op (we_var h2 (we_var h3 ⟨_, _, _, rfl, rfl, .int _ _, by show Q' (.val (.int (((endN a b : Nat) : Int) + ((moreN a b : Nat) : Int)))) m; rw [et]; exact q⟩))
    refine ws_seq (wsIf (b := decide (0 < moreN a b) && decide (600 < topN a b)) (wtA (wt_test (we_op (we_var rfl (we_int ⟨_, _, _, rfl, rfl, .int _ _, _, rfl, by simp, rfl⟩)))) fun _ => wt_test (we_op (tadd rfl rfl (we_int ⟨_, _, _, rfl, rfl, .int _ _, _, rfl, decide_eq_decide.mpr (by omega), rfl⟩)))) (fun h => ?_) fun h => ws_next ?_)
    · rw [Bool.and_eq_true, decide_eq_true_eq, decide_eq_true_eq] at h
      have hl : (short (lesR a b)).f.length = topN a b := by
        rw [les_more h.1]
        show ((List.range (topN a b)).map (les a b)).length = _
        rw [List.length_map, List.length_range]
      have q3 := (q2 (by rw [hl]; exact h.2)).1
      rw [hl] at q3
      exact ws_raise (tadd rfl rfl ⟨_, rfl, q3⟩)
    · have htop : topN a b ≤ 1000 := by
        by_cases h0 : 0 < moreN a b
        · by_cases h1 : 600 < topN a b
          · rw [decide_eq_true h0, decide_eq_true h1] at h
            cases h
          · omega
        · unfold topN; omega
      refine ws_seq (ws_asg (we_lc (js := [6]) (by decide) (wi_rng1 (wa_cons (we_op (tadd rfl rfl (we_int ⟨_, _, _, rfl, rfl, .int _ _, wa_nil ⟨_, rfl, by omega, by omega, by rw [rng_len]; omega, rfl, fun _ => true, fun d => match d with | .int i => hiD (les a b i.toNat) | _ => .non, ?_, ?_⟩⟩)))))))
      · intro d hd m'
        unfold rngD at hd
        obtain ⟨n, hn, rfl⟩ := List.mem_map.mp hd
        have hn2 := List.mem_range.mp hn
        rw [Int.zero_add]
        refine wg_name (wt_yes ⟨rfl, rfl, fun _ => we_call (wa_cons (we_val (x := a) (n := n) rfl ha.sml (small (by omega)) (fun q => we_var rfl q) (wa_cons (we_val (x := b) (n := n) rfl hb.sml (small (by omega)) (fun q => we_var rfl q) (wa_nil ⟨_, _, rfl, rfl, rfl⟩)))))⟩)
      have er : (((topN a b : Nat) : Int) + 1).toNat = topN a b + 1 := by omega
      rw [er, rng_map (les a b) _ _ (fun n => rfl)]
      show WS K _ [some (.val (rD a)), some (.val (rD b)), some (.val (nD (endN a b))), some (.val (nD (moreN a b))), some (.val (.lst (((List.range (topN a b + 1)).map (les a b)).map hiD))), none, none] m _ _
      have hat : atI (((List.range (topN a b + 1)).map (les a b)).map hiD) ((topN a b : Nat) : Int) = some (hiD (les a b (topN a b))) := at_range _ (Nat.lt_succ_self _)
      refine ws_seq (ws_asg (we_call (wa_cons (we_slice (we_var rfl (wo_none (wo_some (tadd rfl rfl ⟨_, rfl, _, _, rfl, .lst _ _ _, wa_cons (we_op (we_var rfl (tadd rfl rfl ⟨_, _, _, rfl, rfl, .lst hat, wa_cons (we_call (wa_cons (we_var rfl (wa_cons (we_var rfl (wa_nil ⟨a, b, rfl, wa_nil ⟨lesR a b, ?_, ?_, fun p hp => ?_⟩⟩))))))⟩)))⟩))))))))
      · show [Sv.val (.lst (cutD (((List.range (topN a b + 1)).map (les a b)).map hiD) none (some ((topN a b : Nat) : Int)))), _, _] = _
        rw [take_range]
        rfl
      · show ((List.range (topN a b)).map (les a b)).length ≤ 100000
        rw [List.length_map, List.length_range]
        omega
      show WS K _ [some (.val (rD a)), some (.val (rD b)), some (.val (nD (endN a b))), some (.val (nD (moreN a b))), some (.val (.lst (((List.range (topN a b + 1)).map (les a b)).map hiD))), some (.val (.tup [.adr p, hiD (short (lesR a b)).s, .int (lesR a b).l])), none] (stS m p ((short (lesR a b)).f.map hiD)) _ _
      have hpp : (stS m p ((short (lesR a b)).f.map hiD)) p = some ((short (lesR a b)).f.map hiD) := stS_same
      have lenr : ∀ {r : Ro} {Q : Sv → Sto → Prop}, r[5]? = some (some (.val (.tup [.adr p, hiD (short (lesR a b)).s, .int (lesR a b).l]))) → Q (.val (nD (short (lesR a b)).f.length)) (stS m p ((short (lesR a b)).f.map hiD)) → WE K r (stS m p ((short (lesR a b)).f.map hiD)) (tCB (rDN K RLen) (tCons (tOp (rD2 K RIx) (tVar 5) (tC (.int 0))) tNil)) Q := fun {r Q'} h5 q =>
        we_cb (wa_cons (we_unA (we_op (we_var h5 (we_int ⟨_, _, _, rfl, rfl, .tup (d := .adr p) rfl, p, _, rfl, hpp, wa_nil ⟨_, _, by show [(stS m p _ p).map D.lst] = _; rw [hpp]; rfl, .lst _, by show Q' (.val (.int (((short (lesR a b)).f.map hiD).length : Nat))) _; rw [List.length_map]; exact q⟩⟩)))))
      refine ws_seq (wsIf (b := decide (600 < (short (lesR a b)).f.length)) (wt_test (we_op (lenr rfl (we_int ⟨_, _, _, rfl, rfl, .int _ _, _, rfl, decide_eq_decide.mpr (by omega), rfl⟩)))) (fun h => ?_) fun h => ws_next ?_)
      · exact ws_raise (lenr rfl ⟨_, rfl, (q2 (of_decide_eq_true h)).2 p hp⟩)
      · have h' := of_decide_eq_false h
        exact ws_ret (we_var rfl (q1 (by omega) p hp))
  cases h with
  | one h1 h2 q =>
    refine ws_seq (ws_dropX (wa_cons (we_var rfl (wa_nil ⟨_, rfl, h1, ?_⟩))))
    rw [h2, if_neg Bool.false_ne_true]
    exact q
  | other h0 h1 h2 q =>
    refine ws_seq (ws_dropX (wa_cons (we_var rfl (wa_nil ⟨_, rfl, h0.q, ?_⟩))))
    rw [h0.ok, if_pos rfl]
    refine ws_seq (ws_dropX (wa_cons (we_var rfl (wa_nil ⟨_, rfl, h1, ?_⟩))))
    rw [h2, if_neg Bool.false_ne_true]
    exact q
  | ok a b ha hb hl q => exact main a b ha hb (fun _ => q) (fun h => by omega)
  | many a b ha hb hl q1 q2 => exact main a b ha hb (fun h => by omega) (fun _ => ⟨q1, q2⟩)
end Le

namespace L29
open PySem PySem.Spec PyProof.Rows L2 Cr
open Ru (Wo Rn rD runB RunQ short)
open Me (LeO endN nD)
open Le (les sumN lesW sumW slopeE lesR sumR)
abbrev T_is_worth : Tr := Ru.T_is_worth
abbrev T_are_worths : Tr := Ru.T_are_worths
abbrev T_is_slope : Tr := Ru.T_is_slope
abbrev T_step_back : Tr := Ru.T_step_back
abbrev T_shortened : Tr := Ru.T_shortened
abbrev T_is_run : Tr := Ru.T_is_run
abbrev T_value_of : Tr := Ru.T_value_of
abbrev T_check_run (K : PySem.W.Frag) : Tr2 := Ru.T_check_run K
abbrev T_sum_of : Tr := Le.T_sum_of
abbrev T_lesser_of : Tr := Le.T_lesser_of
abbrev T_ending_slope : Tr := Le.T_ending_slope
abbrev T_crossing : Tr := Le.T_crossing
abbrev T_run_sum (K : PySem.W.Frag) : Tr2 := Le.T_run_sum K
abbrev T_run_lesser (K : PySem.W.Frag) : Tr2 := Le.T_run_lesser K
def wsm (o : Ru.Wo) : Prop := ∀ i, o = some i → i.natAbs ≤ 10 ^ 30
def wsM (o : Ru.Wo) : Prop := ∀ i, o = some i → i.natAbs ≤ 10 ^ 40
def T_law_worth : Tr := fun ss m Q => ∃ (g : Addr) (n : Nat), ss = [.adr g] ∧ GenI m g (n + 2) ∧ ∀ (o : Ru.Wo) (m' : Sto), (∀ i, o = some i → i.natAbs ≤ 10 ^ 29) → GenI m' g n → Fr m m' g → Q (.val (hiD o)) m'
abbrev T_law_back : Tr := Ru.T_step_back
structure RawOk (r : Ru.Rn) : Prop where
  len : r.f.length ≤ 8
  vals : ∀ o ∈ r.f, wsm o
  start : wsm r.s
  slope : r.l.natAbs ≤ 10 ^ 21
  none : r.s.isSome = true ∨ r.l = 0
structure RawM (r : Ru.Rn) : Prop where
  len : r.f.length ≤ 20
  vals : ∀ o ∈ r.f, wsM o
  start : wsM r.s
  slope : r.l.natAbs ≤ 10 ^ 21
  none : r.s.isSome = true ∨ r.l = 0
structure LeM (r : Rn) : Prop where
  o : LeO r
  m : RawM r
def T_law_raw_run : Tr := fun ss m Q => ∃ (g : Addr) (n : Nat) (k : Int), ss = [.adr g, .val (.int k)] ∧ 0 < k ∧ k ≤ 6 ∧ GenI m g (n + 40) ∧ ∀ (r : Ru.Rn) (m' : Sto), RawOk r → GenI m' g n → Fr m m' g → Q (.val (Ru.rD r)) m'
abbrev T_law_whole : Tr := T_is_whole
abbrev T_law_value : Tr := Ru.T_value_of
def T_law_is_least : Tr := fun ss m Q => ∃ r : Ru.Rn, ss = [.val (Ru.rD r)] ∧ r.f.length ≤ 100000 ∧ Q (.val (.bl (Ru.runB (Ru.rD r)))) m
def T_law_crossing : Tr := fun ss m Q => ∃ (g : Addr) (n : Nat), ss = [.adr g] ∧ GenI m g (n + 40) ∧ ∀ (a b : Rn) (m' : Sto), RawM a → RawM b → GenI m' g n → Fr m m' g → Q (.val (.lst [rD a, rD b])) m'
def T_law_made_least : Tr := fun ss m Q => ∃ r : Rn, ss = [.val (rD r)] ∧ RawM r ∧ ∀ p, m p = none → Q (.val (.tup [.adr p, hiD (Ru.short r).s, .int r.l])) (stS m p ((Ru.short r).f.map hiD))
def T_law_lesser : Tr := fun ss m Q => ∃ a b : Wo, ss = [.val (hiD a), .val (hiD b)] ∧ Q (.val (hiD (lesW a b))) m
def T_law_sum : Tr := fun ss m Q => ∃ a b : Wo, ss = [.val (hiD a), .val (hiD b)] ∧ Q (.val (hiD (sumW a b))) m
def T_law_lesser_at : Tr := fun ss m Q => ∃ (a b : Rn) (n : Nat), ss = [.val (rD a), .val (rD b), .val (nD n)] ∧ LeM a ∧ LeM b ∧ n ≤ 10 ^ 70 ∧ Q (.val (hiD (les a b n))) m
def T_law_slope : Tr := fun ss m Q => ∃ a b : Rn, ss = [.val (rD a), .val (rD b)] ∧ Q (.val (.int (slopeE a b))) m
def T_law_ending_good : Tr := fun ss m Q => ∃ (a b : Rn) (gr : Nat), ss = [.val (rD a), .val (rD b), .val (nD (short (lesR a b)).f.length), .val (nD gr)] ∧ LeM a ∧ LeM b ∧ gr ≤ 10 ^ 31 ∧ Q (.val (.bl true)) m
def T_law_lesser_good : Tr := fun ss m Q => ∃ (a b : Rn) (gr : Nat), ss = [.val (rD a), .val (rD b), .val (nD gr)] ∧ LeM a ∧ LeM b ∧ gr ≤ 10 ^ 31 ∧ Ge.NoL m ∧ ∀ m', Ge.NoL m' → Q (.val (.bl true)) m'
def T_law_sum_good : Tr := fun ss m Q => ∃ (a b : Rn) (gr : Nat), ss = [.val (rD a), .val (rD b), .val (nD gr)] ∧ LeM a ∧ LeM b ∧ gr ≤ 10 ^ 31 ∧ Ge.NoL m ∧ ∀ m', Ge.NoL m' → Q (.val (.bl true)) m'
inductive Caught : List D → D → Prop
  | one {d e : D} : RunQ d → runB d = false → Caught [d, e] d
  | other {a : Rn} {e : D} : LeO a → RunQ e → runB e = false → Caught [rD a, e] e
def T_law_caught : Tr := fun ss m Q => ∃ (w : Int) (gs : List D) (d : D) (z : Str), ss = [.val (.int w), .val (.lst gs)] ∧ (w = 0 ∨ w = 1) ∧ Caught gs d ∧ RRepr [d] (.v (.str z)) ∧ Q (.val (.str z)) m
def T_law : Tr := LawT 63
end L29

namespace L29
open PySem PySem.Spec PyProof.Rows L2 Cr
abbrev N_law_generator : List Str := ["script", "index", "seed"]
abbrev P_law_generator : List Str := ["script", "index"]
def t_law_generator (K : PySem.W.Frag) : TS := (tSeq (tAsg (tIf (tTest (tOp (rD2 K RLt) (tVar 1) (tCB (rDN K RLen) (tCons (tVar 0) tNil)))) (tOp (rD2 K RIx) (tVar 0) (tVar 1)) (tOp (rD2 K RMod) (tCB (rDN K RSum) (tCons (tSl (rSlD K) (tVar 0) tNoPart (tPart (tC (.int 1)))) tNil)) (tC (.int 1000003)))) (gName 2)) (tRet (tLst (tCons (tOp (rD2 K RMod) (tCB (rDN K RInt) (tCons (tCB (rDN K RMax) (tCons (tOp (rD2 K RSub) (tVar 2) (tOp (rD2 K RPow) (tC (.int 10)) (tC (.int 18)))) (tCons (tC (.int 0)) tNil))) tNil)) (tOp (rD2 K RPow) (tOp (rD2 K RPow) (tC (.int 10)) (tC (.int 60))) (tC (.int 10)))) (tCons (tOp (rD2 K RMod) (tCB (rDN K RInt) (tCons (tVar 2) tNil)) (tC (.int 2147483647))) (tCons (tOp (rD2 K RMul) (tC (.int 1000)) (tVar 1)) tNil))))))
abbrev N_law_hash : List Str := ["seed", "index", "mixed"]
abbrev P_law_hash : List Str := ["seed", "index"]
def t_law_hash (K : PySem.W.Frag) : TS := (tSeq (tAsg (tOp (rD2 K RMod) (tCB (rDN K RInt) (tCons (tOp (rD2 K RAdd) (tOp (rD2 K RAdd) (tOp (rD2 K RAdd) (tOp (rD2 K RMul) (tVar 0) (tC (.int 1299709))) (tOp (rD2 K RMul) (tOp (rD2 K RMul) (tC (.int 104729)) (tVar 1)) (tVar 1))) (tOp (rD2 K RMul) (tC (.int 31)) (tVar 1))) (tC (.int 7))) tNil)) (tC (.int 2147483629))) (gName 2)) (tSeq (tAsg (tOp (rD2 K RMod) (tCB (rDN K RInt) (tCons (tOp (rD2 K RAdd) (tOp (rD2 K RAdd) (tOp (rD2 K RMul) (tVar 2) (tVar 2)) (tOp (rD2 K RMul) (tC (.int 48271)) (tVar 1))) (tC (.int 15485863))) tNil)) (tC (.int 2147483587))) (gName 2)) (tRet (tOp (rD2 K RMod) (tCB (rDN K RInt) (tCons (tOp (rD2 K RMul) (tVar 2) (tC (.int 69621))) tNil)) (tC (.int 2147483647))))))
abbrev N_law_random : List Str := ["generator", "bound", "drawn", "turn"]
abbrev P_law_random : List Str := ["generator", "bound"]
def t_law_random (K : PySem.W.Frag) : TS := (tSeq (tIfS (tTest (tOp (rD2 K RGt) (tOp (rD2 K RIx) (tVar 0) (tC (.int 0))) (tC (.int 0)))) (tSeq (tAsg (tOp (rD2 K RMod) (tCB (rDN K RInt) (tCons (tOp (rD2 K RIx) (tVar 0) (tC (.int 0))) tNil)) (tVar 1)) (gName 2)) (tSeq (tAsg (tOp (rD2 K RFdiv) (tOp (rD2 K RIx) (tVar 0) (tC (.int 0))) (tVar 1)) (gSub (tVar 0) (tC (.int 0)) rSetL)) (tRet (tVar 2)))) tNext) (tSeq (tAsg (tC (.int 0)) (gName 2)) (tSeq (tFor (iRng1 (tCons (tOp (rD2 K RAdd) (tC (.int 1)) (tOp (rD2 K RFdiv) (tBits (tVar 1)) (tC (.int 30)))) tNil)) (gName 3) (tSeq (tAsg (tOp (rD2 K RAdd) (tOp (rD2 K RIx) (tVar 0) (tC (.int 2))) (tC (.int 1))) (gSub (tVar 0) (tC (.int 2)) rSetL)) (tAsg (tOp (rD2 K RAdd) (tOp (rD2 K RMul) (tVar 2) (tC (.int 2147483587))) (tCall (SpD K T_law_hash) [] E0 (tCons (tOp (rD2 K RIx) (tVar 0) (tC (.int 1))) (tCons (tOp (rD2 K RIx) (tVar 0) (tC (.int 2))) tNil)))) (gName 2)))) (tRet (tOp (rD2 K RMod) (tCB (rDN K RInt) (tCons (tVar 2) tNil)) (tVar 1))))))
abbrev N_law_worth : List Str := ["generator", "kind"]
abbrev P_law_worth : List Str := ["generator"]
def t_law_worth (K : PySem.W.Frag) : TS := (tSeq (tAsg (tCall (SpD K T_law_random) [] E0 (tCons (tVar 0) (tCons (tC (.int 6)) tNil))) (gName 1)) (tSeq (tIfS (tTest (tOp (rD2 K REqR) (tVar 1) (tC (.int 0)))) (tRet (tC .non)) tNext) (tRet (tIf (tTest (tOp (rD2 K RLt) (tVar 1) (tC (.int 5)))) (tOp (rD2 K RSub) (tCall (SpD K T_law_random) [] E0 (tCons (tVar 0) (tCons (tC (.int 7)) tNil))) (tC (.int 3))) (tOp (rD2 K RSub) (tCall (SpD K T_law_random) [] E0 (tCons (tVar 0) (tCons (tOp (rD2 K RMul) (tC (.int 2)) (tOp (rD2 K RPow) (tC (.int 10)) (tC (.int 29)))) tNil))) (tOp (rD2 K RPow) (tC (.int 10)) (tC (.int 29))))))))
abbrev N_law_back : List Str := ["start", "slope"]
abbrev P_law_back : List Str := ["start", "slope"]
def t_law_back (K : PySem.W.Frag) : TS := (tRet (tIf (tTest (tOp (rD2 K RIsR) (tVar 0) (tC .non))) (tC .non) (tOp (rD2 K RSub) (tVar 0) (tVar 1))))
abbrev N_law_raw_run : List Str := ["generator", "most", "start", "slope", "first", "line", "turn"]
abbrev P_law_raw_run : List Str := ["generator", "most"]
def t_law_raw_run (K : PySem.W.Frag) : TS := (tSeq (tPar 2 3 (tCons (tCall (SpD K T_law_worth) [] E0 (tCons (tVar 0) tNil)) (tCons (tOp (rD2 K RSub) (tCall (SpD K T_law_random) [] E0 (tCons (tVar 0) (tCons (tC (.int 7)) tNil))) (tC (.int 3))) tNil))) (tSeq (tIfS (tTest (tOp (rD2 K REqR) (tCall (SpD K T_law_random) [] E0 (tCons (tVar 0) (tCons (tC (.int 5)) tNil))) (tC (.int 0)))) (tAsg (tOp (rD2 K RMul) (tVar 3) (tOp (rD2 K RAdd) (tCall (SpD K T_law_random) [] E0 (tCons (tVar 0) (tCons (tOp (rD2 K RPow) (tC (.int 10)) (tC (.int 20))) tNil))) (tC (.int 1)))) (gName 3)) tNext) (tSeq (tIfS (tTest (tOp (rD2 K RIsR) (tVar 2) (tC .non))) (tAsg (tC (.int 0)) (gName 3)) tNext) (tSeq (tPar 4 5 (tCons (tLst tNil) (tCons (tLst (tCons (tVar 2) tNil)) tNil))) (tSeq (tFor (iRng1 (tCons (tCall (SpD K T_law_random) [] E0 (tCons (tVar 0) (tCons (tC (.int 4)) tNil))) tNil)) (gName 6) (tAsg (tOp (rD2 K RAdd) (tLst (tCons (tCall (SpD K T_law_back) [] E0 (tCons (tOp (rD2 K RIx) (tVar 5) (tC (.int 0))) (tCons (tVar 3) tNil))) tNil)) (tVar 5)) (gName 5))) (tSeq (tFor (iRng1 (tCons (tCall (SpD K T_law_random) [] E0 (tCons (tVar 0) (tCons (tVar 1) tNil))) tNil)) (gName 6) (tDrop (tBM K "list" rAppend (tVar 4) (tCons (tCall (SpD K T_law_worth) [] E0 (tCons (tVar 0) tNil)) tNil)))) (tRet (tTup (tCons (tOp (rD2 K RAdd) (tVar 4) (tSl (rSlD K) (tVar 5) tNoPart (tPart (tUn (rD1 K RNeg) (tC (.int 1)))))) (tCons (tVar 2) (tCons (tVar 3) tNil)))))))))))
abbrev N_law_crossing : List Str := ["generator", "flat", "steep", "far", "one", "other", "turn"]
abbrev P_law_crossing : List Str := ["generator"]
def t_law_crossing (K : PySem.W.Frag) : TS := (tSeq (tPar 1 2 (tCons (tOp (rD2 K RSub) (tCall (SpD K T_law_random) [] E0 (tCons (tVar 0) (tCons (tC (.int 5)) tNil))) (tC (.int 2))) (tCons (tOp (rD2 K RAdd) (tCall (SpD K T_law_random) [] E0 (tCons (tVar 0) (tCons (tC (.int 4)) tNil))) (tC (.int 1))) tNil))) (tSeq (tAsg (tCall (SpD K T_law_random) [] E0 (tCons (tVar 0) (tCons (tC (.int 700)) tNil))) (gName 3)) (tSeq (tAsg (tTup (tCons (tLc (iRng1 (tCons (tCall (SpD K T_law_random) [] E0 (tCons (tVar 0) (tCons (tC (.int 3)) tNil))) tNil)) (gName 6) tYes (tCall (SpD K T_law_worth) [] E0 (tCons (tVar 0) tNil)) [6]) (tCons (tC (.int 5)) (tCons (tVar 1) tNil)))) (gName 4)) (tSeq (tAsg (tTup (tCons (tLc (iRng1 (tCons (tCall (SpD K T_law_random) [] E0 (tCons (tVar 0) (tCons (tC (.int 3)) tNil))) tNil)) (gName 6) tYes (tCall (SpD K T_law_worth) [] E0 (tCons (tVar 0) tNil)) [6]) (tCons (tOp (rD2 K RSub) (tC (.int 5)) (tOp (rD2 K RMul) (tVar 3) (tVar 2))) (tCons (tOp (rD2 K RAdd) (tVar 1) (tVar 2)) tNil)))) (gName 5)) (tRet (tLst (tCons (tVar 4) (tCons (tVar 5) tNil))))))))
abbrev N_law_made_least : List Str := ["raw", "first", "start", "turn"]
abbrev P_law_made_least : List Str := ["raw"]
def t_law_made_least (K : PySem.W.Frag) : TS := (tSeq (tPar 1 2 (tCons (tCB (rDN K RLst) (tCons (tOp (rD2 K RIx) (tVar 0) (tC (.int 0))) tNil)) (tCons (tOp (rD2 K RIx) (tVar 0) (tC (.int 1))) tNil))) (tSeq (tFor (iRng1 (tCons (tCB (rDN K RLen) (tCons (tOp (rD2 K RIx) (tVar 0) (tC (.int 0))) tNil)) tNil)) (gName 3) (tIfS (tAnd (tTest (tOp (rD2 K RNeR) (tVar 1) (tLst tNil))) (tTest (tOp (rD2 K REqR) (tCB (rDN K RRepr) (tCons (tOp (rD2 K RIx) (tVar 1) (tUn (rD1 K RNeg) (tC (.int 1)))) tNil)) (tCB (rDN K RRepr) (tCons (tCall (SpD K T_law_back) [] E0 (tCons (tVar 2) (tCons (tOp (rD2 K RIx) (tVar 0) (tC (.int 2))) tNil))) tNil))))) (tAsg (tBM0 K "list" rPop (tVar 1)) (gName 2)) tNext)) (tRet (tTup (tCons (tVar 1) (tCons (tVar 2) (tCons (tOp (rD2 K RIx) (tVar 0) (tC (.int 2))) tNil)))))))
abbrev N_is_whole : List Str := ["value"]
abbrev P_is_whole : List Str := ["value"]
def t_is_whole (K : PySem.W.Frag) : TS := (tRet (tAndV (tCB (rDN K RIsi) (tCons (tVar 0) (tCons (tC (.ty "int")) tNil))) (tNotV (tCB (rDN K RIsi) (tCons (tVar 0) (tCons (tC (.ty "bool")) tNil))))))
abbrev N_is_worth : List Str := ["value"]
abbrev P_is_worth : List Str := ["value"]
def t_is_worth (K : PySem.W.Frag) : TS := (tRet (tOrV (tOp (rD2 K RIsR) (tVar 0) (tC .non)) (tCall (SpD K T_is_whole) [] E0 (tCons (tVar 0) tNil))))
abbrev N_are_worths : List Str := ["value", "item"]
abbrev P_are_worths : List Str := ["value"]
def t_are_worths (K : PySem.W.Frag) : TS := (tRet (tAndV (tCB (rDN K RIsi) (tCons (tVar 0) (tCons (tC (.ty "list")) tNil))) (tOp (rD2 K REqR) (tLc (iD K (tVar 0)) (gName 1) (tNot (tB (tCall (SpD K T_is_worth) [] E0 (tCons (tVar 1) tNil)))) (tVar 1) [1]) (tLst tNil))))
abbrev N_is_slope : List Str := ["start", "slope"]
abbrev P_is_slope : List Str := ["start", "slope"]
def t_is_slope (K : PySem.W.Frag) : TS := (tRet (tAndV (tCall (SpD K T_is_whole) [] E0 (tCons (tVar 1) tNil)) (tOrV (tOp (rD2 K RIsN) (tVar 0) (tC .non)) (tOp (rD2 K REqR) (tVar 1) (tC (.int 0))))))
abbrev N_step_back : List Str := ["start", "slope"]
abbrev P_step_back : List Str := ["start", "slope"]
def t_step_back (K : PySem.W.Frag) : TS := (tSeq (tIfS (tTest (tOp (rD2 K RIsR) (tVar 0) (tC .non))) (tRet (tC .non)) tNext) (tRet (tOp (rD2 K RSub) (tVar 0) (tVar 1))))
abbrev N_is_run : List Str := ["value", "first", "start", "slope"]
abbrev P_is_run : List Str := ["value"]
def t_is_run (K : PySem.W.Frag) : TS := (tSeq (tIfS (tOr (tNot (tB (tCB (rDN K RIsi) (tCons (tVar 0) (tCons (tC (.ty "tuple")) tNil))))) (tTest (tOp (rD2 K RNeR) (tCB (rDN K RLen) (tCons (tVar 0) tNil)) (tC (.int 3))))) (tRet (tC (.bl false))) tNext) (tSeq (tAsg (tVar 0) (gTup K 3 (gCons (gName 1) (gCons (gName 2) (gCons (gName 3) gNil))))) (tSeq (tIfS (tOr (tNot (tB (tCall (SpD K T_are_worths) [] E0 (tCons (tVar 1) tNil)))) (tOr (tNot (tB (tCall (SpD K T_is_worth) [] E0 (tCons (tVar 2) tNil)))) (tNot (tB (tCall (SpD K T_is_slope) [] E0 (tCons (tVar 2) (tCons (tVar 3) tNil))))))) (tRet (tC (.bl false))) tNext) (tRet (tOrV (tOp (rD2 K REqR) (tVar 1) (tLst tNil)) (tOp (rD2 K RNeR) (tOp (rD2 K RIx) (tVar 1) (tUn (rD1 K RNeg) (tC (.int 1)))) (tCall (SpD K T_step_back) [] E0 (tCons (tVar 2) (tCons (tVar 3) tNil)))))))))
abbrev N_check_run : List Str := ["run"]
abbrev P_check_run : List Str := ["run"]
def t_check_run (K : PySem.W.Frag) (W : WX) : TS := (tIfS (tNot (tB (tCall (SpD K T_is_run) [] E0 (tCons (tVar 0) tNil)))) (tRaise W (He.ga K "InvalidRun") (tVar 0)) tNext)
abbrev N_value_of : List Str := ["run", "number", "first", "start", "slope"]
abbrev P_value_of : List Str := ["run", "number"]
def t_value_of (K : PySem.W.Frag) : TS := (tSeq (tAsg (tVar 0) (gTup K 3 (gCons (gName 2) (gCons (gName 3) (gCons (gName 4) gNil))))) (tSeq (tIfS (tTest (tOp (rD2 K RLt) (tVar 1) (tCB (rDN K RLen) (tCons (tVar 2) tNil)))) (tRet (tOp (rD2 K RIx) (tVar 2) (tVar 1))) tNext) (tSeq (tIfS (tTest (tOp (rD2 K RIsR) (tVar 3) (tC .non))) (tRet (tC .non)) tNext) (tRet (tOp (rD2 K RAdd) (tVar 3) (tOp (rD2 K RMul) (tVar 4) (tOp (rD2 K RSub) (tVar 1) (tCB (rDN K RLen) (tCons (tVar 2) tNil)))))))))
abbrev N_crossing : List Str := ["one", "other", "at", "low", "high", "gap", "by"]
abbrev P_crossing : List Str := ["one", "other", "at"]
def t_crossing (K : PySem.W.Frag) : TS := (tSeq (tPar 3 4 (tCons (tCall (SpD K T_value_of) [] E0 (tCons (tVar 0) (tCons (tVar 2) tNil))) (tCons (tCall (SpD K T_value_of) [] E0 (tCons (tVar 1) (tCons (tVar 2) tNil))) tNil))) (tSeq (tIfS (tOr (tTest (tOp (rD2 K RIsR) (tVar 3) (tC .non))) (tOr (tTest (tOp (rD2 K RIsR) (tVar 4) (tC .non))) (tTest (tOp (rD2 K REqR) (tOp (rD2 K RIx) (tVar 0) (tC (.int 2))) (tOp (rD2 K RIx) (tVar 1) (tC (.int 2))))))) (tRet (tC (.int 0))) tNext) (tSeq (tPar 5 6 (tCons (tOp (rD2 K RSub) (tVar 3) (tVar 4)) (tCons (tOp (rD2 K RSub) (tOp (rD2 K RIx) (tVar 1) (tC (.int 2))) (tOp (rD2 K RIx) (tVar 0) (tC (.int 2)))) tNil))) (tSeq (tIfS (tTest (tOp (rD2 K RLt) (tVar 6) (tC (.int 0)))) (tPar 5 6 (tCons (tUn (rD1 K RNeg) (tVar 5)) (tCons (tUn (rD1 K RNeg) (tVar 6)) tNil))) tNext) (tRet (tCB (rDN K RMax) (tCons (tC (.int 0)) (tCons (tUn (rD1 K RNeg) (tOp (rD2 K RFdiv) (tUn (rD1 K RNeg) (tVar 5)) (tVar 6))) tNil))))))))
abbrev N_lesser_of : List Str := ["one", "other"]
abbrev P_lesser_of : List Str := ["one", "other"]
def t_lesser_of (K : PySem.W.Frag) : TS := (tSeq (tIfS (tTest (tOp (rD2 K RIsR) (tVar 0) (tC .non))) (tRet (tVar 1)) tNext) (tSeq (tIfS (tTest (tOp (rD2 K RIsR) (tVar 1) (tC .non))) (tRet (tVar 0)) tNext) (tRet (tCB (rDN K RMin) (tCons (tVar 0) (tCons (tVar 1) tNil))))))
abbrev N_ending_slope : List Str := ["one", "other"]
abbrev P_ending_slope : List Str := ["one", "other"]
def t_ending_slope (K : PySem.W.Frag) : TS := (tSeq (tIfS (tTest (tOp (rD2 K RIsR) (tOp (rD2 K RIx) (tVar 0) (tC (.int 1))) (tC .non))) (tRet (tOp (rD2 K RIx) (tVar 1) (tC (.int 2)))) tNext) (tSeq (tIfS (tTest (tOp (rD2 K RIsR) (tOp (rD2 K RIx) (tVar 1) (tC (.int 1))) (tC .non))) (tRet (tOp (rD2 K RIx) (tVar 0) (tC (.int 2)))) tNext) (tRet (tCB (rDN K RMin) (tCons (tOp (rD2 K RIx) (tVar 0) (tC (.int 2))) (tCons (tOp (rD2 K RIx) (tVar 1) (tC (.int 2))) tNil))))))
abbrev N_shortened : List Str := ["first", "start", "slope", "end"]
abbrev P_shortened : List Str := ["first", "start", "slope"]
def t_shortened (K : PySem.W.Frag) : TS := (tSeq (tAsg (tCB (rDN K RLen) (tCons (tVar 0) tNil)) (gName 3)) (tSeq (tWhile (tAnd (tTest (tOp (rD2 K RGt) (tVar 3) (tC (.int 0)))) (tTest (tOp (rD2 K REqR) (tOp (rD2 K RIx) (tVar 0) (tOp (rD2 K RSub) (tVar 3) (tC (.int 1)))) (tCall (SpD K T_step_back) [] E0 (tCons (tVar 1) (tCons (tVar 2) tNil)))))) (tSeq (tAsg (tOp (rD2 K RSub) (tVar 3) (tC (.int 1))) (gName 3)) (tAsg (tOp (rD2 K RIx) (tVar 0) (tVar 3)) (gName 1)))) (tRet (tTup (tCons (tSl (rSlD K) (tVar 0) tNoPart (tPart (tVar 3))) (tCons (tVar 1) (tCons (tVar 2) tNil)))))))
abbrev N_run_lesser : List Str := ["one", "other", "end", "more", "found", "run", "at"]
abbrev P_run_lesser : List Str := ["one", "other"]
def t_run_lesser (K : PySem.W.Frag) (W : WX) : TS := (tSeq (tDrop (tCallX W (SpX K (T_check_run K)) (tCons (tVar 0) tNil))) (tSeq (tDrop (tCallX W (SpX K (T_check_run K)) (tCons (tVar 1) tNil))) (tSeq (tAsg (tCB (rDN K RMax) (tCons (tCB (rDN K RLen) (tCons (tOp (rD2 K RIx) (tVar 0) (tC (.int 0))) tNil)) (tCons (tCB (rDN K RLen) (tCons (tOp (rD2 K RIx) (tVar 1) (tC (.int 0))) tNil)) tNil))) (gName 2)) (tSeq (tAsg (tCall (SpD K T_crossing) [] E0 (tCons (tVar 0) (tCons (tVar 1) (tCons (tVar 2) tNil)))) (gName 3)) (tSeq (tIfS (tAnd (tTest (tOp (rD2 K RGt) (tVar 3) (tC (.int 0)))) (tTest (tOp (rD2 K RGt) (tOp (rD2 K RAdd) (tVar 2) (tVar 3)) (tC (.int 600))))) (tRaise W (He.ga K "TooMany") (tOp (rD2 K RAdd) (tVar 2) (tVar 3))) tNext) (tSeq (tAsg (tLc (iRng1 (tCons (tOp (rD2 K RAdd) (tOp (rD2 K RAdd) (tVar 2) (tVar 3)) (tC (.int 1))) tNil)) (gName 6) tYes (tCall (SpD K T_lesser_of) [] E0 (tCons (tCall (SpD K T_value_of) [] E0 (tCons (tVar 0) (tCons (tVar 6) tNil))) (tCons (tCall (SpD K T_value_of) [] E0 (tCons (tVar 1) (tCons (tVar 6) tNil))) tNil))) [6]) (gName 4)) (tSeq (tAsg (tCall (SpD K T_shortened) [] E0 (tCons (tSl (rSlD K) (tVar 4) tNoPart (tPart (tOp (rD2 K RAdd) (tVar 2) (tVar 3)))) (tCons (tOp (rD2 K RIx) (tVar 4) (tOp (rD2 K RAdd) (tVar 2) (tVar 3))) (tCons (tCall (SpD K T_ending_slope) [] E0 (tCons (tVar 0) (tCons (tVar 1) tNil))) tNil)))) (gName 5)) (tSeq (tIfS (tTest (tOp (rD2 K RGt) (tCB (rDN K RLen) (tCons (tOp (rD2 K RIx) (tVar 5) (tC (.int 0))) tNil)) (tC (.int 600)))) (tRaise W (He.ga K "TooMany") (tCB (rDN K RLen) (tCons (tOp (rD2 K RIx) (tVar 5) (tC (.int 0))) tNil))) tNext) (tRet (tVar 5))))))))))
abbrev N_law_whole : List Str := ["value"]
abbrev P_law_whole : List Str := ["value"]
def t_law_whole (K : PySem.W.Frag) : TS := (tRet (tAndV (tCB (rDN K RIsi) (tCons (tVar 0) (tCons (tC (.ty "int")) tNil))) (tNotV (tCB (rDN K RIsi) (tCons (tVar 0) (tCons (tC (.ty "bool")) tNil))))))
abbrev N_law_value : List Str := ["run", "number"]
abbrev P_law_value : List Str := ["run", "number"]
def t_law_value (K : PySem.W.Frag) : TS := (tSeq (tIfS (tTest (tOp (rD2 K RLt) (tVar 1) (tCB (rDN K RLen) (tCons (tOp (rD2 K RIx) (tVar 0) (tC (.int 0))) tNil)))) (tRet (tOp (rD2 K RIx) (tOp (rD2 K RIx) (tVar 0) (tC (.int 0))) (tVar 1))) tNext) (tRet (tIf (tTest (tOp (rD2 K RIsR) (tOp (rD2 K RIx) (tVar 0) (tC (.int 1))) (tC .non))) (tC .non) (tOp (rD2 K RAdd) (tOp (rD2 K RIx) (tVar 0) (tC (.int 1))) (tOp (rD2 K RMul) (tOp (rD2 K RIx) (tVar 0) (tC (.int 2))) (tOp (rD2 K RSub) (tVar 1) (tCB (rDN K RLen) (tCons (tOp (rD2 K RIx) (tVar 0) (tC (.int 0))) tNil))))))))
abbrev N_law_lesser : List Str := ["one", "other"]
abbrev P_law_lesser : List Str := ["one", "other"]
def t_law_lesser (K : PySem.W.Frag) : TS := (tSeq (tIfS (tOr (tTest (tOp (rD2 K RIsR) (tVar 0) (tC .non))) (tTest (tOp (rD2 K RIsR) (tVar 1) (tC .non)))) (tRet (tIf (tTest (tOp (rD2 K RIsR) (tVar 0) (tC .non))) (tVar 1) (tVar 0))) tNext) (tRet (tCB (rDN K RMin) (tCons (tVar 0) (tCons (tVar 1) tNil)))))
abbrev N_law_lesser_at : List Str := ["one", "other", "number"]
abbrev P_law_lesser_at : List Str := ["one", "other", "number"]
def t_law_lesser_at (K : PySem.W.Frag) : TS := (tRet (tCall (SpD K T_law_lesser) [] E0 (tCons (tCall (SpD K T_law_value) [] E0 (tCons (tVar 0) (tCons (tVar 2) tNil))) (tCons (tCall (SpD K T_law_value) [] E0 (tCons (tVar 1) (tCons (tVar 2) tNil))) tNil))))
abbrev N_law_slope : List Str := ["one", "other"]
abbrev P_law_slope : List Str := ["one", "other"]
def t_law_slope (K : PySem.W.Frag) : TS := (tSeq (tIfS (tOr (tTest (tOp (rD2 K RIsR) (tOp (rD2 K RIx) (tVar 0) (tC (.int 1))) (tC .non))) (tTest (tOp (rD2 K RIsR) (tOp (rD2 K RIx) (tVar 1) (tC (.int 1))) (tC .non)))) (tRet (tIf (tTest (tOp (rD2 K RIsR) (tOp (rD2 K RIx) (tVar 0) (tC (.int 1))) (tC .non))) (tOp (rD2 K RIx) (tVar 1) (tC (.int 2))) (tOp (rD2 K RIx) (tVar 0) (tC (.int 2))))) tNext) (tRet (tCB (rDN K RMin) (tCons (tOp (rD2 K RIx) (tVar 0) (tC (.int 2))) (tCons (tOp (rD2 K RIx) (tVar 1) (tC (.int 2))) tNil)))))
abbrev N_law_ending_good : List Str := ["one", "other", "end", "great", "slope", "low", "more", "due"]
abbrev P_law_ending_good : List Str := ["one", "other", "end", "great"]
def t_law_ending_good (K : PySem.W.Frag) : TS := (tSeq (tPar 4 5 (tCons (tCall (SpD K T_law_slope) [] E0 (tCons (tVar 0) (tCons (tVar 1) tNil))) (tCons (tCall (SpD K T_law_lesser_at) [] E0 (tCons (tVar 0) (tCons (tVar 1) (tCons (tVar 2) tNil)))) tNil))) (tSeq (tFor (iD K (tLst (tCons (tC (.int 1)) (tCons (tC (.int 2)) (tCons (tVar 3) tNil))))) (gName 6) (tSeq (tAsg (tIf (tTest (tOp (rD2 K RIsR) (tVar 5) (tC .non))) (tC .non) (tOp (rD2 K RAdd) (tVar 5) (tOp (rD2 K RMul) (tVar 4) (tVar 6)))) (gName 7)) (tIfS (tTest (tOp (rD2 K RNeR) (tCB (rDN K RRepr) (tCons (tCall (SpD K T_law_lesser_at) [] E0 (tCons (tVar 0) (tCons (tVar 1) (tCons (tOp (rD2 K RAdd) (tVar 2) (tVar 6)) tNil)))) tNil)) (tCB (rDN K RRepr) (tCons (tVar 7) tNil)))) (tRet (tC (.bl false))) tNext))) (tSeq (tIfS (tTest (tOp (rD2 K REqR) (tVar 2) (tC (.int 0)))) (tRet (tC (.bl true))) tNext) (tRet (tOp (rD2 K RNeR) (tCB (rDN K RRepr) (tCons (tCall (SpD K T_law_lesser_at) [] E0 (tCons (tVar 0) (tCons (tVar 1) (tCons (tOp (rD2 K RSub) (tVar 2) (tC (.int 1))) tNil)))) tNil)) (tCB (rDN K RRepr) (tCons (tCall (SpD K T_law_back) [] E0 (tCons (tVar 5) (tCons (tVar 4) tNil))) tNil)))))))
abbrev N_law_is_least : List Str := ["run", "item"]
abbrev P_law_is_least : List Str := ["run"]
def t_law_is_least (K : PySem.W.Frag) : TS := (tSeq (tIfS (tOr (tNot (tB (tCB (rDN K RIsi) (tCons (tVar 0) (tCons (tC (.ty "tuple")) tNil))))) (tOr (tTest (tOp (rD2 K RNeR) (tCB (rDN K RLen) (tCons (tVar 0) tNil)) (tC (.int 3)))) (tNot (tB (tCB (rDN K RIsi) (tCons (tOp (rD2 K RIx) (tVar 0) (tC (.int 0))) (tCons (tC (.ty "list")) tNil))))))) (tRet (tC (.bl false))) tNext) (tSeq (tIfS (tOr (tTest (tOp (rD2 K RNeR) (tLc (iD K (tOp (rD2 K RIx) (tVar 0) (tC (.int 0)))) (gName 1) (tAnd (tTest (tOp (rD2 K RIsN) (tVar 1) (tC .non))) (tNot (tB (tCall (SpD K T_law_whole) [] E0 (tCons (tVar 1) tNil))))) (tVar 1) [1]) (tLst tNil))) (tNot (tB (tCall (SpD K T_law_whole) [] E0 (tCons (tOp (rD2 K RIx) (tVar 0) (tC (.int 2))) tNil))))) (tRet (tC (.bl false))) tNext) (tSeq (tIfS (tTest (tOp (rD2 K RIsR) (tOp (rD2 K RIx) (tVar 0) (tC (.int 1))) (tC .non))) (tRet (tAndV (tOp (rD2 K REqR) (tOp (rD2 K RIx) (tVar 0) (tC (.int 2))) (tC (.int 0))) (tOp (rD2 K RNeR) (tSl (rSlD K) (tOp (rD2 K RIx) (tVar 0) (tC (.int 0))) (tPart (tUn (rD1 K RNeg) (tC (.int 1)))) tNoPart) (tLst (tCons (tC .non) tNil))))) tNext) (tRet (tAndV (tCall (SpD K T_law_whole) [] E0 (tCons (tOp (rD2 K RIx) (tVar 0) (tC (.int 1))) tNil)) (tOp (rD2 K RNeR) (tSl (rSlD K) (tOp (rD2 K RIx) (tVar 0) (tC (.int 0))) (tPart (tUn (rD1 K RNeg) (tC (.int 1)))) tNoPart) (tLst (tCons (tOp (rD2 K RSub) (tOp (rD2 K RIx) (tVar 0) (tC (.int 1))) (tOp (rD2 K RIx) (tVar 0) (tC (.int 2)))) tNil))))))))
abbrev N_law_lesser_good : List Str := ["one", "other", "great", "given", "many", "found", "e", "counts", "number"]
abbrev P_law_lesser_good : List Str := ["one", "other", "great"]
def t_law_lesser_good (K : PySem.W.Frag) : TS := (tSeq (tPar3 3 4 5 (tCons (tLst (tCons (tCB (rDN K RRepr) (tCons (tVar 0) tNil)) (tCons (tCB (rDN K RRepr) (tCons (tVar 1) tNil)) tNil))) (tCons (tC .non) (tCons (tC .non) tNil)))) (tSeq (tTryV K (.ref (He.ga K "TooMany")) 6 4 (fun W => (tAsg (tCallX W (SpX K (T_run_lesser K)) (tCons (tVar 0) (tCons (tVar 1) tNil))) (gName 5))) wF) (tSeq (tIfS (tTest (tOp (rD2 K RNeR) (tLst (tCons (tCB (rDN K RRepr) (tCons (tVar 0) tNil)) (tCons (tCB (rDN K RRepr) (tCons (tVar 1) tNil)) tNil))) (tVar 3))) (tRet (tC (.bl false))) tNext) (tSeq (tIfS (tTest (tOp (rD2 K RIsR) (tVar 5) (tC .non))) (tRet (tAndV (tCall (SpD K T_law_whole) [] E0 (tCons (tVar 4) tNil)) (tAndV (tOp (rD2 K RGt) (tVar 4) (tC (.int 600))) (tCall (SpD K T_law_ending_good) [] E0 (tCons (tVar 0) (tCons (tVar 1) (tCons (tVar 4) (tCons (tVar 2) tNil)))))))) tNext) (tSeq (tIfS (tOr (tNot (tB (tCall (SpD K T_law_is_least) [] E0 (tCons (tVar 5) tNil)))) (tOr (tTest (tOp (rD2 K RGt) (tCB (rDN K RLen) (tCons (tOp (rD2 K RIx) (tVar 5) (tC (.int 0))) tNil)) (tC (.int 600)))) (tNot (tB (tCall (SpD K T_law_ending_good) [] E0 (tCons (tVar 0) (tCons (tVar 1) (tCons (tCB (rDN K RLen) (tCons (tOp (rD2 K RIx) (tVar 5) (tC (.int 0))) tNil)) (tCons (tVar 2) tNil))))))))) (tRet (tC (.bl false))) tNext) (tSeq (tIfS (tTest (tOp (rD2 K RNeR) (tCB (rDN K RRepr) (tCons (tCallXKw 2 [1, 0] wF (SpX K (T_run_lesser K)) (tCons (tVar 0) (tCons (tVar 1) tNil))) tNil)) (tCB (rDN K RRepr) (tCons (tVar 5) tNil)))) (tRet (tC (.bl false))) tNext) (tSeq (tAsg (tOp (rD2 K RAdd) (tLstRg (tRg1 (tOp (rD2 K RAdd) (tCB (rDN K RMax) (tCons (tCB (rDN K RLen) (tCons (tOp (rD2 K RIx) (tVar 0) (tC (.int 0))) tNil)) (tCons (tCB (rDN K RLen) (tCons (tOp (rD2 K RIx) (tVar 1) (tC (.int 0))) tNil)) tNil))) (tC (.int 5))))) (tLst (tCons (tCB (rDN K RMax) (tCons (tOp (rD2 K RSub) (tCB (rDN K RLen) (tCons (tOp (rD2 K RIx) (tVar 5) (tC (.int 0))) tNil)) (tC (.int 1))) (tCons (tC (.int 0)) tNil))) (tCons (tOp (rD2 K RAdd) (tCB (rDN K RLen) (tCons (tOp (rD2 K RIx) (tVar 5) (tC (.int 0))) tNil)) (tC (.int 1))) (tCons (tVar 2) tNil))))) (gName 7)) (tSeq (tFor (iD K (tVar 7)) (gName 8) (tIfS (tTest (tOp (rD2 K RNeR) (tCB (rDN K RRepr) (tCons (tCall (SpD K T_law_value) [] E0 (tCons (tVar 5) (tCons (tVar 8) tNil))) tNil)) (tCB (rDN K RRepr) (tCons (tCall (SpD K T_law_lesser_at) [] E0 (tCons (tVar 0) (tCons (tVar 1) (tCons (tVar 8) tNil)))) tNil)))) (tRet (tC (.bl false))) tNext)) (tSeq (tDrop (tBM K "list" rAppend (tOp (rD2 K RIx) (tVar 5) (tC (.int 0))) (tCons (tC (.int 7)) tNil))) (tRet (tOp (rD2 K REqR) (tLst (tCons (tCB (rDN K RRepr) (tCons (tVar 0) tNil)) (tCons (tCB (rDN K RRepr) (tCons (tVar 1) tNil)) tNil))) (tVar 3))))))))))))
abbrev N_sum_of : List Str := ["one", "other"]
abbrev P_sum_of : List Str := ["one", "other"]
def t_sum_of (K : PySem.W.Frag) : TS := (tSeq (tIfS (tOr (tTest (tOp (rD2 K RIsR) (tVar 0) (tC .non))) (tTest (tOp (rD2 K RIsR) (tVar 1) (tC .non)))) (tRet (tC .non)) tNext) (tRet (tOp (rD2 K RAdd) (tVar 0) (tVar 1))))
abbrev N_run_sum : List Str := ["one", "other", "end", "found", "slope", "at"]
abbrev P_run_sum : List Str := ["one", "other"]
def t_run_sum (K : PySem.W.Frag) (W : WX) : TS := (tSeq (tDrop (tCallX W (SpX K (T_check_run K)) (tCons (tVar 0) tNil))) (tSeq (tDrop (tCallX W (SpX K (T_check_run K)) (tCons (tVar 1) tNil))) (tSeq (tAsg (tCB (rDN K RMax) (tCons (tCB (rDN K RLen) (tCons (tOp (rD2 K RIx) (tVar 0) (tC (.int 0))) tNil)) (tCons (tCB (rDN K RLen) (tCons (tOp (rD2 K RIx) (tVar 1) (tC (.int 0))) tNil)) tNil))) (gName 2)) (tSeq (tAsg (tLc (iRng1 (tCons (tOp (rD2 K RAdd) (tVar 2) (tC (.int 1))) tNil)) (gName 5) tYes (tCall (SpD K T_sum_of) [] E0 (tCons (tCall (SpD K T_value_of) [] E0 (tCons (tVar 0) (tCons (tVar 5) tNil))) (tCons (tCall (SpD K T_value_of) [] E0 (tCons (tVar 1) (tCons (tVar 5) tNil))) tNil))) [5]) (gName 3)) (tSeq (tAsg (tOp (rD2 K RAdd) (tOp (rD2 K RIx) (tVar 0) (tC (.int 2))) (tOp (rD2 K RIx) (tVar 1) (tC (.int 2)))) (gName 4)) (tSeq (tIfS (tTest (tOp (rD2 K RIsR) (tOp (rD2 K RIx) (tVar 3) (tVar 2)) (tC .non))) (tAsg (tC (.int 0)) (gName 4)) tNext) (tRet (tCall (SpD K T_shortened) [] E0 (tCons (tSl (rSlD K) (tVar 3) tNoPart (tPart (tVar 2))) (tCons (tOp (rD2 K RIx) (tVar 3) (tVar 2)) (tCons (tVar 4) tNil)))))))))))
abbrev N_law_sum : List Str := ["one", "other"]
abbrev P_law_sum : List Str := ["one", "other"]
def t_law_sum (K : PySem.W.Frag) : TS := (tRet (tIf (tOr (tTest (tOp (rD2 K RIsR) (tVar 0) (tC .non))) (tTest (tOp (rD2 K RIsR) (tVar 1) (tC .non)))) (tC .non) (tOp (rD2 K RAdd) (tVar 0) (tVar 1))))
abbrev N_law_sum_good : List Str := ["one", "other", "great", "given", "found", "end", "number", "due"]
abbrev P_law_sum_good : List Str := ["one", "other", "great"]
def t_law_sum_good (K : PySem.W.Frag) : TS := (tSeq (tAsg (tLst (tCons (tCB (rDN K RRepr) (tCons (tVar 0) tNil)) (tCons (tCB (rDN K RRepr) (tCons (tVar 1) tNil)) tNil))) (gName 3)) (tSeq (tAsg (tCallX wF (SpX K (T_run_sum K)) (tCons (tVar 0) (tCons (tVar 1) tNil))) (gName 4)) (tSeq (tIfS (tOr (tTest (tOp (rD2 K RNeR) (tLst (tCons (tCB (rDN K RRepr) (tCons (tVar 0) tNil)) (tCons (tCB (rDN K RRepr) (tCons (tVar 1) tNil)) tNil))) (tVar 3))) (tOr (tNot (tB (tCall (SpD K T_law_is_least) [] E0 (tCons (tVar 4) tNil)))) (tTest (tOp (rD2 K RNeR) (tCB (rDN K RRepr) (tCons (tCallX wF (SpX K (T_run_sum K)) (tCons (tVar 1) (tCons (tVar 0) tNil))) tNil)) (tCB (rDN K RRepr) (tCons (tVar 4) tNil)))))) (tRet (tC (.bl false))) tNext) (tSeq (tAsg (tCB (rDN K RMax) (tCons (tCB (rDN K RLen) (tCons (tOp (rD2 K RIx) (tVar 0) (tC (.int 0))) tNil)) (tCons (tCB (rDN K RLen) (tCons (tOp (rD2 K RIx) (tVar 1) (tC (.int 0))) tNil)) tNil))) (gName 5)) (tSeq (tFor (iD K (tOp (rD2 K RAdd) (tLstRg (tRg1 (tOp (rD2 K RAdd) (tVar 5) (tC (.int 5))))) (tLst (tCons (tVar 2) tNil)))) (gName 6) (tSeq (tAsg (tCall (SpD K T_law_sum) [] E0 (tCons (tCall (SpD K T_law_value) [] E0 (tCons (tVar 0) (tCons (tVar 6) tNil))) (tCons (tCall (SpD K T_law_value) [] E0 (tCons (tVar 1) (tCons (tVar 6) tNil))) tNil))) (gName 7)) (tIfS (tTest (tOp (rD2 K RNeR) (tCB (rDN K RRepr) (tCons (tCall (SpD K T_law_value) [] E0 (tCons (tVar 4) (tCons (tVar 6) tNil))) tNil)) (tCB (rDN K RRepr) (tCons (tVar 7) tNil)))) (tRet (tC (.bl false))) tNext))) (tSeq (tDrop (tBM K "list" rAppend (tOp (rD2 K RIx) (tVar 4) (tC (.int 0))) (tCons (tC (.int 7)) tNil))) (tRet (tAndV (tOp (rD2 K RLe) (tCB (rDN K RLen) (tCons (tOp (rD2 K RIx) (tVar 4) (tC (.int 0))) tNil)) (tOp (rD2 K RAdd) (tVar 5) (tC (.int 1)))) (tOp (rD2 K REqR) (tLst (tCons (tCB (rDN K RRepr) (tCons (tVar 0) tNil)) (tCons (tCB (rDN K RRepr) (tCons (tVar 1) tNil)) tNil))) (tVar 3))))))))))
abbrev N_law_caught : List Str := ["which", "given", "error", "e"]
abbrev P_law_caught : List Str := ["which", "given"]
def t_law_caught (K : PySem.W.Frag) : TS := (tSeq (tAsg (tC .non) (gName 2)) (tSeq (tTryK K (.ref (He.ga K "CountError")) 3 2 (fun W => (tIfS (tTest (tOp (rD2 K REqR) (tVar 0) (tC (.int 0)))) (tDrop (tCallX W (SpX K (T_run_sum K)) (tCons (tOp (rD2 K RIx) (tVar 1) (tC (.int 0))) (tCons (tOp (rD2 K RIx) (tVar 1) (tC (.int 1))) tNil)))) (tDrop (tCallX W (SpX K (T_run_lesser K)) (tCons (tOp (rD2 K RIx) (tVar 1) (tC (.int 0))) (tCons (tOp (rD2 K RIx) (tVar 1) (tC (.int 1))) tNil)))))) wF) (tRet (tIf (tB (tCB (rDN K (RIsx K)) (tCons (tVar 2) (tCons (tC (.ref (He.ga K "InvalidRun"))) tNil)))) (tCB (rDN K RRepr) (tCons (tXval K (tVar 2)) tNil)) (tC (.str ("none" : Str)))))))
abbrev N_law : List Str := ["script", "index", "generator", "pair", "one", "other", "great", "bad", "which", "told"]
abbrev P_law : List Str := ["script"]
def t_law (K : PySem.W.Frag) : TS := (tSeq (tFor (iRng1 (tCons (tC (.int 4)) tNil)) (gName 1) (tSeq (tAsg (tCall (SpD K T_law_generator) [] E0 (tCons (tVar 0) (tCons (tVar 1) tNil))) (gName 2)) (tSeq (tAsg (tLst (tCons (tCall (SpD K T_law_raw_run) [] E0 (tCons (tVar 2) (tCons (tC (.int 5)) tNil))) (tCons (tCall (SpD K T_law_raw_run) [] E0 (tCons (tVar 2) (tCons (tC (.int 5)) tNil))) tNil))) (gName 3)) (tSeq (tIfS (tTest (tOp (rD2 K REqR) (tCall (SpD K T_law_random) [] E0 (tCons (tVar 2) (tCons (tC (.int 3)) tNil))) (tC (.int 0)))) (tAsg (tCall (SpD K T_law_crossing) [] E0 (tCons (tVar 2) tNil)) (gName 3)) tNext) (tSeq (tPar 4 5 (tCons (tCall (SpD K T_law_made_least) [] E0 (tCons (tOp (rD2 K RIx) (tVar 3) (tC (.int 0))) tNil)) (tCons (tCall (SpD K T_law_made_least) [] E0 (tCons (tOp (rD2 K RIx) (tVar 3) (tC (.int 1))) tNil)) tNil))) (tSeq (tAsg (tOp (rD2 K RAdd) (tOp (rD2 K RPow) (tC (.int 10)) (tC (.int 24))) (tCall (SpD K T_law_random) [] E0 (tCons (tVar 2) (tCons (tOp (rD2 K RPow) (tC (.int 10)) (tC (.int 30))) tNil)))) (gName 6)) (tSeq (tIfS (tOr (tNot (tB (tCall (SpD K T_law_lesser_good) [] E0 (tCons (tVar 4) (tCons (tVar 5) (tCons (tVar 6) tNil)))))) (tNot (tB (tCall (SpD K T_law_sum_good) [] E0 (tCons (tVar 4) (tCons (tVar 5) (tCons (tVar 6) tNil))))))) (tRet (tC (.bl false))) tNext) (tSeq (tIfS (tOr (tNot (tB (tCall (SpD K T_law_lesser_good) [] E0 (tCons (tVar 4) (tCons (tVar 4) (tCons (tVar 6) tNil)))))) (tNot (tB (tCall (SpD K T_law_lesser_good) [] E0 (tCons (tVar 4) (tCons (tTup (tCons (tLst tNil) (tCons (tC .non) (tCons (tC (.int 0)) tNil)))) (tCons (tVar 6) tNil))))))) (tRet (tC (.bl false))) tNext) (tIfS (tNot (tB (tCall (SpD K T_law_sum_good) [] E0 (tCons (tVar 4) (tCons (tTup (tCons (tLst tNil) (tCons (tC (.int 0)) (tCons (tC (.int 0)) tNil)))) (tCons (tVar 6) tNil)))))) (tRet (tC (.bl false))) tNext))))))))) (tSeq (tFor (iD K (tLst (tCons (tC .non) (tCons (tC (.int 3)) (tCons (tTup (tCons (tLst (tCons (tC (.int 1)) tNil)) (tCons (tC (.int 1)) (tCons (tC (.int 0)) tNil)))) (tCons (tTup (tCons (tLst tNil) (tCons (tC .non) (tCons (tC (.int 2)) tNil)))) (tCons (tLst (tCons (tLst tNil) (tCons (tC (.int 1)) (tCons (tC (.int 1)) tNil)))) (tCons (tTup (tCons (tLst (tCons (tC (.bl true)) tNil)) (tCons (tC (.int 0)) (tCons (tC (.int 0)) tNil)))) (tCons (tTup (tCons (tLst tNil) (tCons (tC (.int 1)) tNil))) tNil))))))))) (gName 7) (tFor (iRng1 (tCons (tC (.int 2)) tNil)) (gName 8) (tIfS (tOr (tTest (tOp (rD2 K RNeR) (tCall (SpD K T_law_caught) [] E0 (tCons (tVar 8) (tCons (tLst (tCons (tVar 7) (tCons (tC .non) tNil))) tNil))) (tCB (rDN K RRepr) (tCons (tVar 7) tNil)))) (tTest (tOp (rD2 K RNeR) (tCall (SpD K T_law_caught) [] E0 (tCons (tVar 8) (tCons (tLst (tCons (tTup (tCons (tLst tNil) (tCons (tC (.int 1)) (tCons (tC (.int 1)) tNil)))) (tCons (tVar 7) tNil))) tNil))) (tCB (rDN K RRepr) (tCons (tVar 7) tNil))))) (tRet (tC (.bl false))) tNext))) (tSeq (tIfS (tNot (tB (tCall (SpD K T_law_lesser_good) [] E0 (tCons (tTup (tCons (tLst (tCons (tC (.int 9)) tNil)) (tCons (tC (.int 0)) (tCons (tC (.int 2)) tNil)))) (tCons (tTup (tCons (tLst tNil) (tCons (tC (.int 700)) (tCons (tC (.int 1)) tNil)))) (tCons (tOp (rD2 K RPow) (tC (.int 10)) (tC (.int 24))) tNil)))))) (tRet (tC (.bl false))) tNext) (tSeq (tIfS (tOr (tNot (tB (tCall (SpD K T_law_lesser_good) [] E0 (tCons (tTup (tCons (tLst tNil) (tCons (tC (.int 0)) (tCons (tC (.int 2)) tNil)))) (tCons (tTup (tCons (tLst tNil) (tCons (tC (.int 601)) (tCons (tC (.int 1)) tNil)))) (tCons (tOp (rD2 K RPow) (tC (.int 10)) (tC (.int 24))) tNil)))))) (tNot (tB (tCall (SpD K T_law_lesser_good) [] E0 (tCons (tTup (tCons (tLst tNil) (tCons (tC (.int 0)) (tCons (tC (.int 2)) tNil)))) (tCons (tTup (tCons (tLst tNil) (tCons (tC (.int 600)) (tCons (tC (.int 1)) tNil)))) (tCons (tOp (rD2 K RPow) (tC (.int 10)) (tC (.int 24))) tNil))))))) (tRet (tC (.bl false))) tNext) (tSeq (tAsg (tLst (tCons (tCallX wF (SpX K (T_run_sum K)) (tCons (tTup (tCons (tLst (tCons (tC (.int 1)) tNil)) (tCons (tC (.int 2)) (tCons (tC (.int 2)) tNil)))) (tCons (tTup (tCons (tLst tNil) (tCons (tC (.int 1)) (tCons (tC (.int 0)) tNil)))) tNil))) (tCons (tCallXKw 2 [1, 0] wF (SpX K (T_run_sum K)) (tCons (tTup (tCons (tLst (tCons (tC .non) tNil)) (tCons (tC (.int 1)) (tCons (tC (.int 2)) tNil)))) (tCons (tTup (tCons (tLst tNil) (tCons (tC .non) (tCons (tC (.int 0)) tNil)))) tNil))) (tCons (tCallX wF (SpX K (T_run_lesser K)) (tCons (tTup (tCons (tLst tNil) (tCons (tC (.int 0)) (tCons (tC (.int 2)) tNil)))) (tCons (tTup (tCons (tLst tNil) (tCons (tC (.int 3)) (tCons (tC (.int 1)) tNil)))) tNil))) tNil)))) (gName 9)) (tRet (tOp (rD2 K REqR) (tCB (rDN K RRepr) (tCons (tVar 9) tNil)) (tCB (rDN K RRepr) (tCons (tLst (tCons (tTup (tCons (tLst (tCons (tC (.int 2)) tNil)) (tCons (tC (.int 3)) (tCons (tC (.int 2)) tNil)))) (tCons (tTup (tCons (tLst tNil) (tCons (tC .non) (tCons (tC (.int 0)) tNil)))) (tCons (tTup (tCons (tLst (tCons (tC (.int 0)) (tCons (tC (.int 2)) (tCons (tC (.int 4)) tNil)))) (tCons (tC (.int 6)) (tCons (tC (.int 1)) tNil)))) tNil)))) tNil)))))))))
structure Fx (K : PySem.W.Frag) : Prop where
  i_InvalidRun : ErrI K (He.ga K "InvalidRun")
  i_TooMany : ErrI K (He.ga K "TooMany")
  o_InvalidRun_InvalidRun : PySem.W.kitOne K (.ref (He.ga K "InvalidRun")) (.ref (He.ga K "InvalidRun")) = some true
  e_InvalidRun_InvalidRun : PySem.W.exmOne K (.ref (He.ga K "InvalidRun")) (.ref (He.ga K "InvalidRun")) = some true
  o_InvalidRun_TooMany : PySem.W.kitOne K (.ref (He.ga K "InvalidRun")) (.ref (He.ga K "TooMany")) = some false
  e_InvalidRun_TooMany : PySem.W.exmOne K (.ref (He.ga K "InvalidRun")) (.ref (He.ga K "TooMany")) = some false
  o_InvalidRun_CountError : PySem.W.kitOne K (.ref (He.ga K "InvalidRun")) (.ref (He.ga K "CountError")) = some true
  e_InvalidRun_CountError : PySem.W.exmOne K (.ref (He.ga K "InvalidRun")) (.ref (He.ga K "CountError")) = some true
  o_TooMany_InvalidRun : PySem.W.kitOne K (.ref (He.ga K "TooMany")) (.ref (He.ga K "InvalidRun")) = some false
  e_TooMany_InvalidRun : PySem.W.exmOne K (.ref (He.ga K "TooMany")) (.ref (He.ga K "InvalidRun")) = some false
  o_TooMany_TooMany : PySem.W.kitOne K (.ref (He.ga K "TooMany")) (.ref (He.ga K "TooMany")) = some true
  e_TooMany_TooMany : PySem.W.exmOne K (.ref (He.ga K "TooMany")) (.ref (He.ga K "TooMany")) = some true
  o_TooMany_CountError : PySem.W.kitOne K (.ref (He.ga K "TooMany")) (.ref (He.ga K "CountError")) = some true
  e_TooMany_CountError : PySem.W.exmOne K (.ref (He.ga K "TooMany")) (.ref (He.ga K "CountError")) = some true
end L29

namespace L29
open PySem PySem.Spec PyProof.Rows L2 Cr
def top (i : Nat) : Stmt := PySem.Challenge.pw_countreaders_k29_sums_and_lessers.main.body.getD i (.Pass ⟨0, 0, 0, 0⟩)
structure Bl (mg : Str → Option Value) : Prop where
  len : mg "len" = none
  sum : mg "sum" = none
  int : mg "int" = none
  max : mg "max" = none
  range : mg "range" = none
  list : mg "list" = none
  repr : mg "repr" = none
  isinstance : mg "isinstance" = none
  bool : mg "bool" = none
  tuple : mg "tuple" = none
  min : mg "min" = none
abbrev s_law_generator : Stmt := top 24
theorem sc_law_generator : FnScope N_law_generator P_law_generator (defScope s_law_generator) := ⟨rfl, rfl, rfl, by decide +kernel, rfl, by decide +kernel, by decide +kernel⟩
abbrev s_law_hash : Stmt := top 23
theorem sc_law_hash : FnScope N_law_hash P_law_hash (defScope s_law_hash) := ⟨rfl, rfl, rfl, by decide +kernel, rfl, by decide +kernel, by decide +kernel⟩
abbrev s_law_random : Stmt := top 25
theorem sc_law_random : FnScope N_law_random P_law_random (defScope s_law_random) := ⟨rfl, rfl, rfl, by decide +kernel, rfl, by decide +kernel, by decide +kernel⟩
abbrev s_law_worth : Stmt := top 28
theorem sc_law_worth : FnScope N_law_worth P_law_worth (defScope s_law_worth) := ⟨rfl, rfl, rfl, by decide +kernel, rfl, by decide +kernel, by decide +kernel⟩
abbrev s_law_back : Stmt := top 26
theorem sc_law_back : FnScope N_law_back P_law_back (defScope s_law_back) := ⟨rfl, rfl, rfl, by decide +kernel, rfl, by decide +kernel, by decide +kernel⟩
abbrev s_law_raw_run : Stmt := top 29
theorem sc_law_raw_run : FnScope N_law_raw_run P_law_raw_run (defScope s_law_raw_run) := ⟨rfl, rfl, rfl, by decide +kernel, rfl, by decide +kernel, by decide +kernel⟩
abbrev s_law_crossing : Stmt := top 40
theorem sc_law_crossing : FnScope N_law_crossing P_law_crossing (defScope s_law_crossing) := ⟨rfl, rfl, rfl, by decide +kernel, rfl, by decide +kernel, by decide +kernel⟩
abbrev s_law_made_least : Stmt := top 32
theorem sc_law_made_least : FnScope N_law_made_least P_law_made_least (defScope s_law_made_least) := ⟨rfl, rfl, rfl, by decide +kernel, rfl, by decide +kernel, by decide +kernel⟩
abbrev s_is_whole : Stmt := top 5
theorem sc_is_whole : FnScope N_is_whole P_is_whole (defScope s_is_whole) := ⟨rfl, rfl, rfl, by decide +kernel, rfl, by decide +kernel, by decide +kernel⟩
abbrev s_is_worth : Stmt := top 8
theorem sc_is_worth : FnScope N_is_worth P_is_worth (defScope s_is_worth) := ⟨rfl, rfl, rfl, by decide +kernel, rfl, by decide +kernel, by decide +kernel⟩
abbrev s_are_worths : Stmt := top 9
theorem sc_are_worths : FnScope N_are_worths P_are_worths (defScope s_are_worths) := ⟨rfl, rfl, rfl, by decide +kernel, rfl, by decide +kernel, by decide +kernel⟩
abbrev s_is_slope : Stmt := top 10
theorem sc_is_slope : FnScope N_is_slope P_is_slope (defScope s_is_slope) := ⟨rfl, rfl, rfl, by decide +kernel, rfl, by decide +kernel, by decide +kernel⟩
abbrev s_step_back : Stmt := top 11
theorem sc_step_back : FnScope N_step_back P_step_back (defScope s_step_back) := ⟨rfl, rfl, rfl, by decide +kernel, rfl, by decide +kernel, by decide +kernel⟩
abbrev s_is_run : Stmt := top 13
theorem sc_is_run : FnScope N_is_run P_is_run (defScope s_is_run) := ⟨rfl, rfl, rfl, by decide +kernel, rfl, by decide +kernel, by decide +kernel⟩
abbrev s_check_run : Stmt := top 14
theorem sc_check_run : FnScope N_check_run P_check_run (defScope s_check_run) := ⟨rfl, rfl, rfl, by decide +kernel, rfl, by decide +kernel, by decide +kernel⟩
abbrev s_value_of : Stmt := top 15
theorem sc_value_of : FnScope N_value_of P_value_of (defScope s_value_of) := ⟨rfl, rfl, rfl, by decide +kernel, rfl, by decide +kernel, by decide +kernel⟩
abbrev s_crossing : Stmt := top 19
theorem sc_crossing : FnScope N_crossing P_crossing (defScope s_crossing) := ⟨rfl, rfl, rfl, by decide +kernel, rfl, by decide +kernel, by decide +kernel⟩
abbrev s_lesser_of : Stmt := top 17
theorem sc_lesser_of : FnScope N_lesser_of P_lesser_of (defScope s_lesser_of) := ⟨rfl, rfl, rfl, by decide +kernel, rfl, by decide +kernel, by decide +kernel⟩
abbrev s_ending_slope : Stmt := top 20
theorem sc_ending_slope : FnScope N_ending_slope P_ending_slope (defScope s_ending_slope) := ⟨rfl, rfl, rfl, by decide +kernel, rfl, by decide +kernel, by decide +kernel⟩
abbrev s_shortened : Stmt := top 12
theorem sc_shortened : FnScope N_shortened P_shortened (defScope s_shortened) := ⟨rfl, rfl, rfl, by decide +kernel, rfl, by decide +kernel, by decide +kernel⟩
abbrev s_run_lesser : Stmt := top 21
theorem sc_run_lesser : FnScope N_run_lesser P_run_lesser (defScope s_run_lesser) := ⟨rfl, rfl, rfl, by decide +kernel, rfl, by decide +kernel, by decide +kernel⟩
abbrev s_law_whole : Stmt := top 30
theorem sc_law_whole : FnScope N_law_whole P_law_whole (defScope s_law_whole) := ⟨rfl, rfl, rfl, by decide +kernel, rfl, by decide +kernel, by decide +kernel⟩
abbrev s_law_value : Stmt := top 27
theorem sc_law_value : FnScope N_law_value P_law_value (defScope s_law_value) := ⟨rfl, rfl, rfl, by decide +kernel, rfl, by decide +kernel, by decide +kernel⟩
abbrev s_law_lesser : Stmt := top 34
theorem sc_law_lesser : FnScope N_law_lesser P_law_lesser (defScope s_law_lesser) := ⟨rfl, rfl, rfl, by decide +kernel, rfl, by decide +kernel, by decide +kernel⟩
abbrev s_law_lesser_at : Stmt := top 35
theorem sc_law_lesser_at : FnScope N_law_lesser_at P_law_lesser_at (defScope s_law_lesser_at) := ⟨rfl, rfl, rfl, by decide +kernel, rfl, by decide +kernel, by decide +kernel⟩
abbrev s_law_slope : Stmt := top 36
theorem sc_law_slope : FnScope N_law_slope P_law_slope (defScope s_law_slope) := ⟨rfl, rfl, rfl, by decide +kernel, rfl, by decide +kernel, by decide +kernel⟩
abbrev s_law_ending_good : Stmt := top 37
theorem sc_law_ending_good : FnScope N_law_ending_good P_law_ending_good (defScope s_law_ending_good) := ⟨rfl, rfl, rfl, by decide +kernel, rfl, by decide +kernel, by decide +kernel⟩
abbrev s_law_is_least : Stmt := top 31
theorem sc_law_is_least : FnScope N_law_is_least P_law_is_least (defScope s_law_is_least) := ⟨rfl, rfl, rfl, by decide +kernel, rfl, by decide +kernel, by decide +kernel⟩
abbrev s_law_lesser_good : Stmt := top 38
theorem sc_law_lesser_good : FnScope N_law_lesser_good P_law_lesser_good (defScope s_law_lesser_good) := ⟨rfl, rfl, rfl, by decide +kernel, rfl, by decide +kernel, by decide +kernel⟩
abbrev s_sum_of : Stmt := top 16
theorem sc_sum_of : FnScope N_sum_of P_sum_of (defScope s_sum_of) := ⟨rfl, rfl, rfl, by decide +kernel, rfl, by decide +kernel, by decide +kernel⟩
abbrev s_run_sum : Stmt := top 18
theorem sc_run_sum : FnScope N_run_sum P_run_sum (defScope s_run_sum) := ⟨rfl, rfl, rfl, by decide +kernel, rfl, by decide +kernel, by decide +kernel⟩
abbrev s_law_sum : Stmt := top 33
theorem sc_law_sum : FnScope N_law_sum P_law_sum (defScope s_law_sum) := ⟨rfl, rfl, rfl, by decide +kernel, rfl, by decide +kernel, by decide +kernel⟩
abbrev s_law_sum_good : Stmt := top 39
theorem sc_law_sum_good : FnScope N_law_sum_good P_law_sum_good (defScope s_law_sum_good) := ⟨rfl, rfl, rfl, by decide +kernel, rfl, by decide +kernel, by decide +kernel⟩
abbrev s_law_caught : Stmt := top 41
theorem sc_law_caught : FnScope N_law_caught P_law_caught (defScope s_law_caught) := ⟨rfl, rfl, rfl, by decide +kernel, rfl, by decide +kernel, by decide +kernel⟩
abbrev s_law : Stmt := top 42
theorem sc_law : FnScope N_law P_law (defScope s_law) := ⟨rfl, rfl, rfl, by decide +kernel, rfl, by decide +kernel, by decide +kernel⟩
section
variable {P : Program} {w : World} {K : PySem.W.Frag} {mg : Str → Option Value} {base : Heap} {f : Addr} {fd : FuncData}
theorem ok_law_generator (B : Bl mg) (F : FunD K "_law_generator" "_law_generator" (defArgs s_law_generator) (defBody s_law_generator) (defScope s_law_generator) [] [] f fd) (gF : mg "_law_generator" = some (.ref f)) (m : Ok K N_law_generator T_law_generator (t_law_generator K)) : Has P w K mg base "_law_generator" 1 P_law_generator T_law_generator := by
  have len : ∀ ss m Q, T_law_generator ss m Q → ss.length = (P_law_generator).length := by
    intro ss m Q h
    repeat (obtain ⟨_, h⟩ := h)
    all_goals (subst_vars; rfl)
  refine has_ok F gF sc_law_generator len (fun _ _ _ _ _ _ us hl => match us, hl with | [_, _], _ => rfl) m fun cdv A outer s H hg hr => ?_
  exact (pss_cons (ps_set (i := 2) sc_law_generator.nd rfl (by first | exact Or.inl rfl | exact Or.inr rfl) (pe_ifExp (pt_cmpR op_ltD (pv 1) (pe_callB Cr.call_lenD (by rfl) B.len (by decide +kernel) (pa_cons (pv 0) pa_nil)) (nomark _)) (pe_ix ix_D (pv 0) (pv 1) (fun _ _ => rfl)) (pe_op op_modD (pe_callB (Cr.call_sumD rfl) (by rfl) B.sum (by decide +kernel) (pa_cons (pe_slice sl_D (pv 0) po_none (po_some pe_int)) pa_nil)) pe_int)))
      (pss_one (ps_ret (pe_lst (pa_cons (pe_op op_modD (pe_callTy Cr.call_intD (by rfl) B.int (by decide +kernel) (pa_cons (pe_callB (Cr.call_maxD rfl) (by rfl) B.max (by decide +kernel) (pa_cons (pe_op op_subD (pv 2) (pe_op op_powD pe_int pe_int)) (pa_cons pe_int pa_nil))) pa_nil)) (pe_op op_powD (pe_op op_powD pe_int pe_int) pe_int)) (pa_cons (pe_op op_modD (pe_callTy Cr.call_intD (by rfl) B.int (by decide +kernel) (pa_cons (pv 2) pa_nil)) pe_int) (pa_cons (pe_op op_mulD pe_int (pv 1)) pa_nil)))))))
theorem ok_law_hash (B : Bl mg) (F : FunD K "_law_hash" "_law_hash" (defArgs s_law_hash) (defBody s_law_hash) (defScope s_law_hash) [] [] f fd) (gF : mg "_law_hash" = some (.ref f)) (m : Ok K N_law_hash T_law_hash (t_law_hash K)) : Has P w K mg base "_law_hash" 1 P_law_hash T_law_hash := by
  have len : ∀ ss m Q, T_law_hash ss m Q → ss.length = (P_law_hash).length := by
    intro ss m Q h
    repeat (obtain ⟨_, h⟩ := h)
    all_goals (subst_vars; rfl)
  refine has_ok F gF sc_law_hash len (fun _ _ _ _ _ _ us hl => match us, hl with | [_, _], _ => rfl) m fun cdv A outer s H hg hr => ?_
  exact (pss_cons (ps_set (i := 2) sc_law_hash.nd rfl (by first | exact Or.inl rfl | exact Or.inr rfl) (pe_op op_modD (pe_callTy Cr.call_intD (by rfl) B.int (by decide +kernel) (pa_cons (pe_op op_addD (pe_op op_addD (pe_op op_addD (pe_op op_mulD (pv 0) pe_int) (pe_op op_mulD (pe_op op_mulD pe_int (pv 1)) (pv 1))) (pe_op op_mulD pe_int (pv 1))) pe_int) pa_nil)) pe_int))
      (pss_cons (ps_set (i := 2) sc_law_hash.nd rfl (by first | exact Or.inl rfl | exact Or.inr rfl) (pe_op op_modD (pe_callTy Cr.call_intD (by rfl) B.int (by decide +kernel) (pa_cons (pe_op op_addD (pe_op op_addD (pe_op op_mulD (pv 2) (pv 2)) (pe_op op_mulD pe_int (pv 1))) pe_int) pa_nil)) pe_int))
      (pss_one (ps_ret (pe_op op_modD (pe_callTy Cr.call_intD (by rfl) B.int (by decide +kernel) (pa_cons (pe_op op_mulD (pv 2) pe_int) pa_nil)) pe_int)))))
theorem ok_law_random (B : Bl mg) (g_law_hash : Has P w K mg base "_law_hash" 1 P_law_hash T_law_hash) (F : FunD K "_law_random" "_law_random" (defArgs s_law_random) (defBody s_law_random) (defScope s_law_random) [] [] f fd) (gF : mg "_law_random" = some (.ref f)) (m : Ok K N_law_random T_law_random (t_law_random K)) : Has P w K mg base "_law_random" 2 P_law_random T_law_random := by
  have len : ∀ ss m Q, T_law_random ss m Q → ss.length = (P_law_random).length := by
    intro ss m Q h
    repeat (obtain ⟨_, h⟩ := h)
    all_goals (subst_vars; rfl)
  refine has_ok F gF sc_law_random len (fun _ _ _ _ _ _ us hl => match us, hl with | [_, _], _ => rfl) m fun cdv A outer s H hg hr => ?_
  exact (pss_cons (ps_if (pt_cmpR op_gtD (pe_ix ix_D (pv 0) pe_int (fun _ _ => rfl)) pe_int (nomark _)) (pss_cons (ps_set (i := 2) sc_law_random.nd rfl (by first | exact Or.inl rfl | exact Or.inr rfl) (pe_op op_modD (pe_callTy Cr.call_intD (by rfl) B.int (by decide +kernel) (pa_cons (pe_ix ix_D (pv 0) pe_int (fun _ _ => rfl)) pa_nil)) (pv 1)))
      (pss_cons (ps_asg (pe_op op_fdivD (pe_ix ix_D (pv 0) pe_int (fun _ _ => rfl)) (pv 1)) (pg_sub (pv 0) pe_int set_list))
      (pss_one (ps_ret (pv 2))))) pss_nil)
      (pss_cons (ps_set (i := 2) sc_law_random.nd rfl (by first | exact Or.inl rfl | exact Or.inr rfl) pe_int)
      (pss_cons (ps_for PassesOwn.never rfl (pi_range1 (by rfl) B.range (pa_cons (pe_op op_addD pe_int (pe_op op_fdivD (pe_bits (pv 1)) pe_int)) pa_nil)) (pg_name (i := 3) sc_law_random.nd rfl (by first | exact Or.inl rfl | exact Or.inr rfl)) (pss_cons (ps_asg (pe_op op_addD (pe_ix ix_D (pv 0) pe_int (fun _ _ => rfl)) pe_int) (pg_sub (pv 0) pe_int set_list))
      (pss_one (ps_set (i := 2) sc_law_random.nd rfl (by first | exact Or.inl rfl | exact Or.inr rfl) (pe_op op_addD (pe_op op_mulD (pv 2) pe_int) (pe_U g_law_hash hg (hr.mono (by decide)) (by rfl) (pa_cons (pe_ix ix_D (pv 0) pe_int (fun _ _ => rfl)) (pa_cons (pe_ix ix_D (pv 0) pe_int (fun _ _ => rfl)) pa_nil))))))))
      (pss_one (ps_ret (pe_op op_modD (pe_callTy Cr.call_intD (by rfl) B.int (by decide +kernel) (pa_cons (pv 2) pa_nil)) (pv 1)))))))
theorem ok_law_worth (B : Bl mg) (g_law_random : Has P w K mg base "_law_random" 2 P_law_random T_law_random) (F : FunD K "_law_worth" "_law_worth" (defArgs s_law_worth) (defBody s_law_worth) (defScope s_law_worth) [] [] f fd) (gF : mg "_law_worth" = some (.ref f)) (m : Ok K N_law_worth T_law_worth (t_law_worth K)) : Has P w K mg base "_law_worth" 3 P_law_worth T_law_worth := by
  have len : ∀ ss m Q, T_law_worth ss m Q → ss.length = (P_law_worth).length := by
    intro ss m Q h
    repeat (obtain ⟨_, h⟩ := h)
    all_goals (subst_vars; rfl)
  refine has_ok F gF sc_law_worth len (fun _ _ _ _ _ _ us hl => match us, hl with | [_], _ => rfl) m fun cdv A outer s H hg hr => ?_
  exact (pss_cons (ps_set (i := 1) sc_law_worth.nd rfl (by first | exact Or.inl rfl | exact Or.inr rfl) (pe_U g_law_random hg (hr.mono (by decide)) (by rfl) (pa_cons (pv 0) (pa_cons pe_int pa_nil))))
      (pss_cons (ps_if (pt_cmpR (op_eqDD hr.units) (pv 1) pe_int (nomark _)) (pss_one (ps_ret pe_non)) pss_nil)
      (pss_one (ps_ret (pe_ifExp (pt_cmpR op_ltD (pv 1) pe_int (nomark _)) (pe_op op_subD (pe_U g_law_random hg (hr.mono (by decide)) (by rfl) (pa_cons (pv 0) (pa_cons pe_int pa_nil))) pe_int) (pe_op op_subD (pe_U g_law_random hg (hr.mono (by decide)) (by rfl) (pa_cons (pv 0) (pa_cons (pe_op op_mulD pe_int (pe_op op_powD pe_int pe_int)) pa_nil))) (pe_op op_powD pe_int pe_int)))))))
theorem ok_law_back (B : Bl mg) (F : FunD K "_law_back" "_law_back" (defArgs s_law_back) (defBody s_law_back) (defScope s_law_back) [] [] f fd) (gF : mg "_law_back" = some (.ref f)) (m : Ok K N_law_back T_law_back (t_law_back K)) : Has P w K mg base "_law_back" 1 P_law_back T_law_back := by
  have len : ∀ ss m Q, T_law_back ss m Q → ss.length = (P_law_back).length := by
    intro ss m Q h
    repeat (obtain ⟨_, h⟩ := h)
    all_goals (subst_vars; rfl)
  refine has_ok F gF sc_law_back len (fun _ _ _ _ _ _ us hl => match us, hl with | [_, _], _ => rfl) m fun cdv A outer s H hg hr => ?_
  exact (pss_one (ps_ret (pe_ifExp (pt_cmpR op_isD (pv 0) pe_non (nomark _)) pe_non (pe_op op_subD (pv 0) (pv 1)))))
theorem ok_law_raw_run (B : Bl mg) (g_law_random : Has P w K mg base "_law_random" 2 P_law_random T_law_random) (g_law_worth : Has P w K mg base "_law_worth" 3 P_law_worth T_law_worth) (g_law_back : Has P w K mg base "_law_back" 1 P_law_back T_law_back) (F : FunD K "_law_raw_run" "_law_raw_run" (defArgs s_law_raw_run) (defBody s_law_raw_run) (defScope s_law_raw_run) [] [] f fd) (gF : mg "_law_raw_run" = some (.ref f)) (m : Ok K N_law_raw_run T_law_raw_run (t_law_raw_run K)) : Has P w K mg base "_law_raw_run" 4 P_law_raw_run T_law_raw_run := by
  have len : ∀ ss m Q, T_law_raw_run ss m Q → ss.length = (P_law_raw_run).length := by
    intro ss m Q h
    repeat (obtain ⟨_, h⟩ := h)
    all_goals (subst_vars; rfl)
  refine has_ok F gF sc_law_raw_run len (fun _ _ _ _ _ _ us hl => match us, hl with | [_, _], _ => rfl) m fun cdv A outer s H hg hr => ?_
  exact (pss_cons (ps_par (i := 2) (j := 3) rfl sc_law_raw_run.nd rfl rfl (by decide) rfl rfl (pa_cons (pe_U g_law_worth hg (hr.mono (by decide)) (by rfl) (pa_cons (pv 0) pa_nil)) (pa_cons (pe_op op_subD (pe_U g_law_random hg (hr.mono (by decide)) (by rfl) (pa_cons (pv 0) (pa_cons pe_int pa_nil))) pe_int) pa_nil)) rfl)
      (pss_cons (ps_if (pt_cmpR (op_eqDD hr.units) (pe_U g_law_random hg (hr.mono (by decide)) (by rfl) (pa_cons (pv 0) (pa_cons pe_int pa_nil))) pe_int (nomark _)) (pss_one (ps_set (i := 3) sc_law_raw_run.nd rfl (by first | exact Or.inl rfl | exact Or.inr rfl) (pe_op op_mulD (pv 3) (pe_op op_addD (pe_U g_law_random hg (hr.mono (by decide)) (by rfl) (pa_cons (pv 0) (pa_cons (pe_op op_powD pe_int pe_int) pa_nil))) pe_int)))) pss_nil)
      (pss_cons (ps_if (pt_cmpR op_isD (pv 2) pe_non (nomark _)) (pss_one (ps_set (i := 3) sc_law_raw_run.nd rfl (by first | exact Or.inl rfl | exact Or.inr rfl) pe_int)) pss_nil)
      (pss_cons (ps_par (i := 4) (j := 5) rfl sc_law_raw_run.nd rfl rfl (by decide) rfl rfl (pa_cons (pe_lst pa_nil) (pa_cons (pe_lst (pa_cons (pv 2) pa_nil)) pa_nil)) rfl)
      (pss_cons (ps_for PassesOwn.never rfl (pi_range1 (by rfl) B.range (pa_cons (pe_U g_law_random hg (hr.mono (by decide)) (by rfl) (pa_cons (pv 0) (pa_cons pe_int pa_nil))) pa_nil)) (pg_name (i := 6) sc_law_raw_run.nd rfl (by first | exact Or.inl rfl | exact Or.inr rfl)) (pss_one (ps_set (i := 5) sc_law_raw_run.nd rfl (by first | exact Or.inl rfl | exact Or.inr rfl) (pe_op op_addD (pe_lst (pa_cons (pe_U g_law_back hg (hr.mono (by decide)) (by rfl) (pa_cons (pe_ix ix_D (pv 5) pe_int (fun _ _ => rfl)) (pa_cons (pv 3) pa_nil))) pa_nil)) (pv 5)))))
      (pss_cons (ps_for PassesOwn.never rfl (pi_range1 (by rfl) B.range (pa_cons (pe_U g_law_random hg (hr.mono (by decide)) (by rfl) (pa_cons (pv 0) (pa_cons (pv 1) pa_nil))) pa_nil)) (pg_name (i := 6) sc_law_raw_run.nd rfl (by first | exact Or.inl rfl | exact Or.inr rfl)) (pss_one (ps_expr (pe_bm PySem.F.plainAttrs_list PySem.F.slot_list_append PySem.F.type_list_append mt_append (pv 4) (pa_cons (pe_U g_law_worth hg (hr.mono (by decide)) (by rfl) (pa_cons (pv 0) pa_nil)) pa_nil)))))
      (pss_one (ps_ret (pe_tup (pa_cons (pe_op op_addD (pv 4) (pe_slice sl_D (pv 5) po_none (po_some (pe_un un_negD pe_int)))) (pa_cons (pv 2) (pa_cons (pv 3) pa_nil))))))))))))
theorem ok_law_crossing (B : Bl mg) (g_law_random : Has P w K mg base "_law_random" 2 P_law_random T_law_random) (g_law_worth : Has P w K mg base "_law_worth" 3 P_law_worth T_law_worth) (F : FunD K "_law_crossing" "_law_crossing" (defArgs s_law_crossing) (defBody s_law_crossing) (defScope s_law_crossing) [] [] f fd) (gF : mg "_law_crossing" = some (.ref f)) (m : Ok K N_law_crossing T_law_crossing (t_law_crossing K)) : Has P w K mg base "_law_crossing" 4 P_law_crossing T_law_crossing := by
  have len : ∀ ss m Q, T_law_crossing ss m Q → ss.length = (P_law_crossing).length := by
    intro ss m Q h
    repeat (obtain ⟨_, h⟩ := h)
    all_goals (subst_vars; rfl)
  refine has_ok F gF sc_law_crossing len (fun _ _ _ _ _ _ us hl => match us, hl with | [_], _ => rfl) m fun cdv A outer s H hg hr => ?_
  exact (pss_cons (ps_par (i := 1) (j := 2) rfl sc_law_crossing.nd rfl rfl (by decide) rfl rfl (pa_cons (pe_op op_subD (pe_U g_law_random hg (hr.mono (by decide)) (by rfl) (pa_cons (pv 0) (pa_cons pe_int pa_nil))) pe_int) (pa_cons (pe_op op_addD (pe_U g_law_random hg (hr.mono (by decide)) (by rfl) (pa_cons (pv 0) (pa_cons pe_int pa_nil))) pe_int) pa_nil)) rfl)
      (pss_cons (ps_set (i := 3) sc_law_crossing.nd rfl (by first | exact Or.inl rfl | exact Or.inr rfl) (pe_U g_law_random hg (hr.mono (by decide)) (by rfl) (pa_cons (pv 0) (pa_cons pe_int pa_nil))))
      (pss_cons (ps_set (i := 4) sc_law_crossing.nd rfl (by first | exact Or.inl rfl | exact Or.inr rfl) (pe_tup (pa_cons (pe_lc (own := [("turn", 6)]) rfl sc_law_crossing.nd (pi_range1 (by rfl) B.range (pa_cons (pe_U g_law_random hg (hr.mono (by decide)) (by rfl) (pa_cons (pv 0) (pa_cons pe_int pa_nil))) pa_nil)) (blkOk_by (own := [("turn", 6)]) (N := N_law_crossing) (sc := defScope s_law_crossing) (by decide +kernel)) (fun _ _ _ _ _ => (pg_name (i := 6) sc_law_crossing.nd rfl (by first | exact Or.inl rfl | exact Or.inr rfl))) (fun _ _ _ _ _ => pts_nil) (fun _ _ _ _ _ => (pe_U g_law_worth hg (hr.mono (by decide)) (by rfl) (pa_cons (pv 0) pa_nil)))) (pa_cons pe_int (pa_cons (pv 1) pa_nil)))))
      (pss_cons (ps_set (i := 5) sc_law_crossing.nd rfl (by first | exact Or.inl rfl | exact Or.inr rfl) (pe_tup (pa_cons (pe_lc (own := [("turn", 6)]) rfl sc_law_crossing.nd (pi_range1 (by rfl) B.range (pa_cons (pe_U g_law_random hg (hr.mono (by decide)) (by rfl) (pa_cons (pv 0) (pa_cons pe_int pa_nil))) pa_nil)) (blkOk_by (own := [("turn", 6)]) (N := N_law_crossing) (sc := defScope s_law_crossing) (by decide +kernel)) (fun _ _ _ _ _ => (pg_name (i := 6) sc_law_crossing.nd rfl (by first | exact Or.inl rfl | exact Or.inr rfl))) (fun _ _ _ _ _ => pts_nil) (fun _ _ _ _ _ => (pe_U g_law_worth hg (hr.mono (by decide)) (by rfl) (pa_cons (pv 0) pa_nil)))) (pa_cons (pe_op op_subD pe_int (pe_op op_mulD (pv 3) (pv 2))) (pa_cons (pe_op op_addD (pv 1) (pv 2)) pa_nil)))))
      (pss_one (ps_ret (pe_lst (pa_cons (pv 4) (pa_cons (pv 5) pa_nil)))))))))
theorem ok_law_made_least (B : Bl mg) (g_law_back : Has P w K mg base "_law_back" 1 P_law_back T_law_back) (F : FunD K "_law_made_least" "_law_made_least" (defArgs s_law_made_least) (defBody s_law_made_least) (defScope s_law_made_least) [] [] f fd) (gF : mg "_law_made_least" = some (.ref f)) (m : Ok K N_law_made_least T_law_made_least (t_law_made_least K)) : Has P w K mg base "_law_made_least" 2 P_law_made_least T_law_made_least := by
  have len : ∀ ss m Q, T_law_made_least ss m Q → ss.length = (P_law_made_least).length := by
    intro ss m Q h
    repeat (obtain ⟨_, h⟩ := h)
    all_goals (subst_vars; rfl)
  refine has_ok F gF sc_law_made_least len (fun _ _ _ _ _ _ us hl => match us, hl with | [_], _ => rfl) m fun cdv A outer s H hg hr => ?_
  exact (pss_cons (ps_par (i := 1) (j := 2) rfl sc_law_made_least.nd rfl rfl (by decide) rfl rfl (pa_cons (pe_callTy (Cr.call_lstD rfl) (by rfl) B.list (by decide +kernel) (pa_cons (pe_ix ix_D (pv 0) pe_int (fun _ _ => rfl)) pa_nil)) (pa_cons (pe_ix ix_D (pv 0) pe_int (fun _ _ => rfl)) pa_nil)) rfl)
      (pss_cons (ps_for PassesOwn.never rfl (pi_range1 (by rfl) B.range (pa_cons (pe_callB Cr.call_lenD (by rfl) B.len (by decide +kernel) (pa_cons (pe_ix ix_D (pv 0) pe_int (fun _ _ => rfl)) pa_nil)) pa_nil)) (pg_name (i := 3) sc_law_made_least.nd rfl (by first | exact Or.inl rfl | exact Or.inr rfl)) (pss_one (ps_if (PW.pt (pw_and (pt_cmpR (op_neDD hr.units) (pv 1) (pe_lst pa_nil) (nomark _)) (pw_and1 (pt_cmpR (op_eqDD hr.units) (pe_callB (Cr.call_reprD hg hr.units) (by rfl) B.repr (by decide +kernel) (pa_cons (pe_ix ix_D (pv 1) (pe_un un_negD pe_int) (fun _ _ => rfl)) pa_nil)) (pe_callB (Cr.call_reprD hg hr.units) (by rfl) B.repr (by decide +kernel) (pa_cons (pe_U g_law_back hg (hr.mono (by decide)) (by rfl) (pa_cons (pv 2) (pa_cons (pe_ix ix_D (pv 0) pe_int (fun _ _ => rfl)) pa_nil))) pa_nil)) (nomark _))))) (pss_one (ps_set (i := 2) sc_law_made_least.nd rfl (by first | exact Or.inl rfl | exact Or.inr rfl) (pe_bm0 PySem.F.plainAttrs_list PySem.F.slot_list_pop PySem.F.type_list_pop mt_pop (pv 1)))) pss_nil)))
      (pss_one (ps_ret (pe_tup (pa_cons (pv 1) (pa_cons (pv 2) (pa_cons (pe_ix ix_D (pv 0) pe_int (fun _ _ => rfl)) pa_nil))))))))
theorem ok_is_whole (B : Bl mg) (F : FunD K "is_whole" "is_whole" (defArgs s_is_whole) (defBody s_is_whole) (defScope s_is_whole) [] [] f fd) (gF : mg "is_whole" = some (.ref f)) (m : Ok K N_is_whole T_is_whole (t_is_whole K)) : Has P w K mg base "is_whole" 1 P_is_whole T_is_whole := by
  have len : ∀ ss m Q, T_is_whole ss m Q → ss.length = (P_is_whole).length := by
    intro ss m Q h
    repeat (obtain ⟨_, h⟩ := h)
    all_goals (subst_vars; rfl)
  refine has_ok F gF sc_is_whole len (fun _ _ _ _ _ _ us hl => match us, hl with | [_], _ => rfl) m fun cdv A outer s H hg hr => ?_
  exact (pss_one (ps_ret (pe_and (pe_callB Cr.call_isiD (by rfl) B.isinstance (by decide +kernel) (pa_cons (pv 0) (pa_cons (pe_bltn rfl B.int (by decide +kernel) rfl) pa_nil))) (pe_one (pe_not (pe_callB Cr.call_isiD (by rfl) B.isinstance (by decide +kernel) (pa_cons (pv 0) (pa_cons (pe_bltn rfl B.bool (by decide +kernel) rfl) pa_nil))))))))
theorem ok_is_worth (B : Bl mg) (g_is_whole : Has P w K mg base "is_whole" 1 P_is_whole T_is_whole) (F : FunD K "is_worth" "is_worth" (defArgs s_is_worth) (defBody s_is_worth) (defScope s_is_worth) [] [] f fd) (gF : mg "is_worth" = some (.ref f)) (m : Ok K N_is_worth T_is_worth (t_is_worth K)) : Has P w K mg base "is_worth" 2 P_is_worth T_is_worth := by
  have len : ∀ ss m Q, T_is_worth ss m Q → ss.length = (P_is_worth).length := by
    intro ss m Q h
    repeat (obtain ⟨_, h⟩ := h)
    all_goals (subst_vars; rfl)
  refine has_ok F gF sc_is_worth len (fun _ _ _ _ _ _ us hl => match us, hl with | [_], _ => rfl) m fun cdv A outer s H hg hr => ?_
  exact (pss_one (ps_ret (pe_or (pe_cmpR op_isD (pv 0) pe_non (nomark _)) (pe_one (pe_U g_is_whole hg (hr.mono (by decide)) (by rfl) (pa_cons (pv 0) pa_nil))))))
theorem ok_are_worths (B : Bl mg) (g_is_worth : Has P w K mg base "is_worth" 2 P_is_worth T_is_worth) (F : FunD K "are_worths" "are_worths" (defArgs s_are_worths) (defBody s_are_worths) (defScope s_are_worths) [] [] f fd) (gF : mg "are_worths" = some (.ref f)) (m : Ok K N_are_worths T_are_worths (t_are_worths K)) : Has P w K mg base "are_worths" 3 P_are_worths T_are_worths := by
  have len : ∀ ss m Q, T_are_worths ss m Q → ss.length = (P_are_worths).length := by
    intro ss m Q h
    repeat (obtain ⟨_, h⟩ := h)
    all_goals (subst_vars; rfl)
  refine has_ok F gF sc_are_worths len (fun _ _ _ _ _ _ us hl => match us, hl with | [_], _ => rfl) m fun cdv A outer s H hg hr => ?_
  exact (pss_one (ps_ret (pe_and (pe_callB Cr.call_isiD (by rfl) B.isinstance (by decide +kernel) (pa_cons (pv 0) (pa_cons (pe_bltn rfl B.list (by decide +kernel) rfl) pa_nil))) (pe_one (pe_cmpR (op_eqDD hr.units) (pe_lc (own := [("item", 1)]) rfl sc_are_worths.nd (pi_D (pv 0)) (blkOk_by (own := [("item", 1)]) (N := N_are_worths) (sc := defScope s_are_worths) (by decide +kernel)) (fun _ _ _ _ _ => (pg_name (i := 1) sc_are_worths.nd rfl (by first | exact Or.inl rfl | exact Or.inr rfl))) (fun _ _ _ _ _ => (pts_one (pt_not (pt_val (pe_U g_is_worth hg (hr.mono (by decide)) (by rfl) (pa_cons (pv 1) pa_nil)))))) (fun _ _ _ _ _ => (pv 1))) (pe_lst pa_nil) (nomark _))))))
theorem ok_is_slope (B : Bl mg) (g_is_whole : Has P w K mg base "is_whole" 1 P_is_whole T_is_whole) (F : FunD K "is_slope" "is_slope" (defArgs s_is_slope) (defBody s_is_slope) (defScope s_is_slope) [] [] f fd) (gF : mg "is_slope" = some (.ref f)) (m : Ok K N_is_slope T_is_slope (t_is_slope K)) : Has P w K mg base "is_slope" 2 P_is_slope T_is_slope := by
  have len : ∀ ss m Q, T_is_slope ss m Q → ss.length = (P_is_slope).length := by
    intro ss m Q h
    repeat (obtain ⟨_, h⟩ := h)
    all_goals (subst_vars; rfl)
  refine has_ok F gF sc_is_slope len (fun _ _ _ _ _ _ us hl => match us, hl with | [_, _], _ => rfl) m fun cdv A outer s H hg hr => ?_
  exact (pss_one (ps_ret (pe_and (pe_U g_is_whole hg (hr.mono (by decide)) (by rfl) (pa_cons (pv 1) pa_nil)) (pe_one (pe_or (pe_cmpR op_isnotD (pv 0) pe_non (nomark _)) (pe_one (pe_cmpR (op_eqDD hr.units) (pv 1) pe_int (nomark _))))))))
theorem ok_step_back (B : Bl mg) (F : FunD K "step_back" "step_back" (defArgs s_step_back) (defBody s_step_back) (defScope s_step_back) [] [] f fd) (gF : mg "step_back" = some (.ref f)) (m : Ok K N_step_back T_step_back (t_step_back K)) : Has P w K mg base "step_back" 1 P_step_back T_step_back := by
  have len : ∀ ss m Q, T_step_back ss m Q → ss.length = (P_step_back).length := by
    intro ss m Q h
    repeat (obtain ⟨_, h⟩ := h)
    all_goals (subst_vars; rfl)
  refine has_ok F gF sc_step_back len (fun _ _ _ _ _ _ us hl => match us, hl with | [_, _], _ => rfl) m fun cdv A outer s H hg hr => ?_
  exact (pss_cons (ps_if (pt_cmpR op_isD (pv 0) pe_non (nomark _)) (pss_one (ps_ret pe_non)) pss_nil)
      (pss_one (ps_ret (pe_op op_subD (pv 0) (pv 1)))))
theorem ok_is_run (B : Bl mg) (g_are_worths : Has P w K mg base "are_worths" 3 P_are_worths T_are_worths) (g_is_worth : Has P w K mg base "is_worth" 2 P_is_worth T_is_worth) (g_is_slope : Has P w K mg base "is_slope" 2 P_is_slope T_is_slope) (g_step_back : Has P w K mg base "step_back" 1 P_step_back T_step_back) (F : FunD K "is_run" "is_run" (defArgs s_is_run) (defBody s_is_run) (defScope s_is_run) [] [] f fd) (gF : mg "is_run" = some (.ref f)) (m : Ok K N_is_run T_is_run (t_is_run K)) : Has P w K mg base "is_run" 4 P_is_run T_is_run := by
  have len : ∀ ss m Q, T_is_run ss m Q → ss.length = (P_is_run).length := by
    intro ss m Q h
    repeat (obtain ⟨_, h⟩ := h)
    all_goals (subst_vars; rfl)
  refine has_ok F gF sc_is_run len (fun _ _ _ _ _ _ us hl => match us, hl with | [_], _ => rfl) m fun cdv A outer s H hg hr => ?_
  exact (pss_cons (ps_if (PW.pt (pw_or (pt_not (pt_val (pe_callB Cr.call_isiD (by rfl) B.isinstance (by decide +kernel) (pa_cons (pv 0) (pa_cons (pe_bltn rfl B.tuple (by decide +kernel) rfl) pa_nil))))) (pw_or1 (pt_cmpR (op_neDD hr.units) (pe_callB Cr.call_lenD (by rfl) B.len (by decide +kernel) (pa_cons (pv 0) pa_nil)) pe_int (nomark _))))) (pss_one (ps_ret pe_bl)) pss_nil)
      (pss_cons (ps_asg (pv 0) (pg_tup rfl (pgs_cons (pg_name (i := 1) sc_is_run.nd rfl (by first | exact Or.inl rfl | exact Or.inr rfl)) (pgs_cons (pg_name (i := 2) sc_is_run.nd rfl (by first | exact Or.inl rfl | exact Or.inr rfl)) (pgs_cons (pg_name (i := 3) sc_is_run.nd rfl (by first | exact Or.inl rfl | exact Or.inr rfl)) pgs_nil)))))
      (pss_cons (ps_if (PW.pt (pw_or (pt_not (pt_val (pe_U g_are_worths hg (hr.mono (by decide)) (by rfl) (pa_cons (pv 1) pa_nil)))) (pw_or (pt_not (pt_val (pe_U g_is_worth hg (hr.mono (by decide)) (by rfl) (pa_cons (pv 2) pa_nil)))) (pw_or1 (pt_not (pt_val (pe_U g_is_slope hg (hr.mono (by decide)) (by rfl) (pa_cons (pv 2) (pa_cons (pv 3) pa_nil))))))))) (pss_one (ps_ret pe_bl)) pss_nil)
      (pss_one (ps_ret (pe_or (pe_cmpR (op_eqDD hr.units) (pv 1) (pe_lst pa_nil) (nomark _)) (pe_one (pe_cmpR (op_neDD hr.units) (pe_ix ix_D (pv 1) (pe_un un_negD pe_int) (fun _ _ => rfl)) (pe_U g_step_back hg (hr.mono (by decide)) (by rfl) (pa_cons (pv 2) (pa_cons (pv 3) pa_nil))) (nomark _)))))))))
theorem ok_check_run (B : Bl mg) (kInvalidRun : mg "InvalidRun" = some (.ref (He.ga K "InvalidRun"))) (xInvalidRun : ErrC P K (He.ga K "InvalidRun")) (hsup : mg "super" = none) (g_is_run : Has P w K mg base "is_run" 4 P_is_run T_is_run) (F : FunD K "check_run" "check_run" (defArgs s_check_run) (defBody s_check_run) (defScope s_check_run) [] [] f fd) (gF : mg "check_run" = some (.ref f)) (m : OkX K N_check_run (T_check_run K) (t_check_run K)) : HasX P w K mg base "check_run" 5 P_check_run (T_check_run K) := by
  have len : ∀ ss m Q X, T_check_run K ss m Q X → ss.length = (P_check_run).length := by
    intro ss m Q X h
    repeat (obtain ⟨_, h⟩ := h)
    all_goals (subst_vars; rfl)
  refine hasX_ok F gF sc_check_run len (fun _ _ _ _ _ _ us hl => match us, hl with | [_], _ => rfl) m fun cdv A outer s H E hg hr tk => ?_
  exact (pss_one (ps_if (pt_not (pt_val (pe_U g_is_run hg (hr.mono (by decide)) (by rfl) (pa_cons (pv 0) pa_nil)))) (pss_one (ps_raiseE (k := 0) rfl tk xInvalidRun (hr.mono (by decide)) (by rfl) kInvalidRun hsup (pv 0))) pss_nil))
theorem ok_value_of (B : Bl mg) (F : FunD K "value_of" "value_of" (defArgs s_value_of) (defBody s_value_of) (defScope s_value_of) [] [] f fd) (gF : mg "value_of" = some (.ref f)) (m : Ok K N_value_of T_value_of (t_value_of K)) : Has P w K mg base "value_of" 1 P_value_of T_value_of := by
  have len : ∀ ss m Q, T_value_of ss m Q → ss.length = (P_value_of).length := by
    intro ss m Q h
    repeat (obtain ⟨_, h⟩ := h)
    all_goals (subst_vars; rfl)
  refine has_ok F gF sc_value_of len (fun _ _ _ _ _ _ us hl => match us, hl with | [_, _], _ => rfl) m fun cdv A outer s H hg hr => ?_
  exact (pss_cons (ps_asg (pv 0) (pg_tup rfl (pgs_cons (pg_name (i := 2) sc_value_of.nd rfl (by first | exact Or.inl rfl | exact Or.inr rfl)) (pgs_cons (pg_name (i := 3) sc_value_of.nd rfl (by first | exact Or.inl rfl | exact Or.inr rfl)) (pgs_cons (pg_name (i := 4) sc_value_of.nd rfl (by first | exact Or.inl rfl | exact Or.inr rfl)) pgs_nil)))))
      (pss_cons (ps_if (pt_cmpR op_ltD (pv 1) (pe_callB Cr.call_lenD (by rfl) B.len (by decide +kernel) (pa_cons (pv 2) pa_nil)) (nomark _)) (pss_one (ps_ret (pe_ix ix_D (pv 2) (pv 1) (fun _ _ => rfl)))) pss_nil)
      (pss_cons (ps_if (pt_cmpR op_isD (pv 3) pe_non (nomark _)) (pss_one (ps_ret pe_non)) pss_nil)
      (pss_one (ps_ret (pe_op op_addD (pv 3) (pe_op op_mulD (pv 4) (pe_op op_subD (pv 1) (pe_callB Cr.call_lenD (by rfl) B.len (by decide +kernel) (pa_cons (pv 2) pa_nil))))))))))
theorem ok_crossing (B : Bl mg) (g_value_of : Has P w K mg base "value_of" 1 P_value_of T_value_of) (F : FunD K "crossing" "crossing" (defArgs s_crossing) (defBody s_crossing) (defScope s_crossing) [] [] f fd) (gF : mg "crossing" = some (.ref f)) (m : Ok K N_crossing T_crossing (t_crossing K)) : Has P w K mg base "crossing" 2 P_crossing T_crossing := by
  have len : ∀ ss m Q, T_crossing ss m Q → ss.length = (P_crossing).length := by
    intro ss m Q h
    repeat (obtain ⟨_, h⟩ := h)
    all_goals (subst_vars; rfl)
  refine has_ok F gF sc_crossing len (fun _ _ _ _ _ _ us hl => match us, hl with | [_, _, _], _ => rfl) m fun cdv A outer s H hg hr => ?_
  exact (pss_cons (ps_par (i := 3) (j := 4) rfl sc_crossing.nd rfl rfl (by decide) rfl rfl (pa_cons (pe_U g_value_of hg (hr.mono (by decide)) (by rfl) (pa_cons (pv 0) (pa_cons (pv 2) pa_nil))) (pa_cons (pe_U g_value_of hg (hr.mono (by decide)) (by rfl) (pa_cons (pv 1) (pa_cons (pv 2) pa_nil))) pa_nil)) rfl)
      (pss_cons (ps_if (PW.pt (pw_or (pt_cmpR op_isD (pv 3) pe_non (nomark _)) (pw_or (pt_cmpR op_isD (pv 4) pe_non (nomark _)) (pw_or1 (pt_cmpR (op_eqDD hr.units) (pe_ix ix_D (pv 0) pe_int (fun _ _ => rfl)) (pe_ix ix_D (pv 1) pe_int (fun _ _ => rfl)) (nomark _)))))) (pss_one (ps_ret pe_int)) pss_nil)
      (pss_cons (ps_par (i := 5) (j := 6) rfl sc_crossing.nd rfl rfl (by decide) rfl rfl (pa_cons (pe_op op_subD (pv 3) (pv 4)) (pa_cons (pe_op op_subD (pe_ix ix_D (pv 1) pe_int (fun _ _ => rfl)) (pe_ix ix_D (pv 0) pe_int (fun _ _ => rfl))) pa_nil)) rfl)
      (pss_cons (ps_if (pt_cmpR op_ltD (pv 6) pe_int (nomark _)) (pss_one (ps_par (i := 5) (j := 6) rfl sc_crossing.nd rfl rfl (by decide) rfl rfl (pa_cons (pe_un un_negD (pv 5)) (pa_cons (pe_un un_negD (pv 6)) pa_nil)) rfl)) pss_nil)
      (pss_one (ps_ret (pe_callB (Cr.call_maxD rfl) (by rfl) B.max (by decide +kernel) (pa_cons pe_int (pa_cons (pe_un un_negD (pe_op op_fdivD (pe_un un_negD (pv 5)) (pv 6))) pa_nil)))))))))
theorem ok_lesser_of (B : Bl mg) (F : FunD K "lesser_of" "lesser_of" (defArgs s_lesser_of) (defBody s_lesser_of) (defScope s_lesser_of) [] [] f fd) (gF : mg "lesser_of" = some (.ref f)) (m : Ok K N_lesser_of T_lesser_of (t_lesser_of K)) : Has P w K mg base "lesser_of" 1 P_lesser_of T_lesser_of := by
  have len : ∀ ss m Q, T_lesser_of ss m Q → ss.length = (P_lesser_of).length := by
    intro ss m Q h
    repeat (obtain ⟨_, h⟩ := h)
    all_goals (subst_vars; rfl)
  refine has_ok F gF sc_lesser_of len (fun _ _ _ _ _ _ us hl => match us, hl with | [_, _], _ => rfl) m fun cdv A outer s H hg hr => ?_
  exact (pss_cons (ps_if (pt_cmpR op_isD (pv 0) pe_non (nomark _)) (pss_one (ps_ret (pv 1))) pss_nil)
      (pss_cons (ps_if (pt_cmpR op_isD (pv 1) pe_non (nomark _)) (pss_one (ps_ret (pv 0))) pss_nil)
      (pss_one (ps_ret (pe_callB (Cr.call_minD rfl) (by rfl) B.min (by decide +kernel) (pa_cons (pv 0) (pa_cons (pv 1) pa_nil)))))))
theorem ok_ending_slope (B : Bl mg) (F : FunD K "ending_slope" "ending_slope" (defArgs s_ending_slope) (defBody s_ending_slope) (defScope s_ending_slope) [] [] f fd) (gF : mg "ending_slope" = some (.ref f)) (m : Ok K N_ending_slope T_ending_slope (t_ending_slope K)) : Has P w K mg base "ending_slope" 1 P_ending_slope T_ending_slope := by
  have len : ∀ ss m Q, T_ending_slope ss m Q → ss.length = (P_ending_slope).length := by
    intro ss m Q h
    repeat (obtain ⟨_, h⟩ := h)
    all_goals (subst_vars; rfl)
  refine has_ok F gF sc_ending_slope len (fun _ _ _ _ _ _ us hl => match us, hl with | [_, _], _ => rfl) m fun cdv A outer s H hg hr => ?_
  exact (pss_cons (ps_if (pt_cmpR op_isD (pe_ix ix_D (pv 0) pe_int (fun _ _ => rfl)) pe_non (nomark _)) (pss_one (ps_ret (pe_ix ix_D (pv 1) pe_int (fun _ _ => rfl)))) pss_nil)
      (pss_cons (ps_if (pt_cmpR op_isD (pe_ix ix_D (pv 1) pe_int (fun _ _ => rfl)) pe_non (nomark _)) (pss_one (ps_ret (pe_ix ix_D (pv 0) pe_int (fun _ _ => rfl)))) pss_nil)
      (pss_one (ps_ret (pe_callB (Cr.call_minD rfl) (by rfl) B.min (by decide +kernel) (pa_cons (pe_ix ix_D (pv 0) pe_int (fun _ _ => rfl)) (pa_cons (pe_ix ix_D (pv 1) pe_int (fun _ _ => rfl)) pa_nil)))))))
theorem ok_shortened (B : Bl mg) (g_step_back : Has P w K mg base "step_back" 1 P_step_back T_step_back) (F : FunD K "shortened" "shortened" (defArgs s_shortened) (defBody s_shortened) (defScope s_shortened) [] [] f fd) (gF : mg "shortened" = some (.ref f)) (m : Ok K N_shortened T_shortened (t_shortened K)) : Has P w K mg base "shortened" 2 P_shortened T_shortened := by
  have len : ∀ ss m Q, T_shortened ss m Q → ss.length = (P_shortened).length := by
    intro ss m Q h
    repeat (obtain ⟨_, h⟩ := h)
    all_goals (subst_vars; rfl)
  refine has_ok F gF sc_shortened len (fun _ _ _ _ _ _ us hl => match us, hl with | [_, _, _], _ => rfl) m fun cdv A outer s H hg hr => ?_
  exact (pss_cons (ps_set (i := 3) sc_shortened.nd rfl (by first | exact Or.inl rfl | exact Or.inr rfl) (pe_callB Cr.call_lenD (by rfl) B.len (by decide +kernel) (pa_cons (pv 0) pa_nil)))
      (pss_cons (ps_while PassesOwn.never (PW.pt (pw_and (pt_cmpR op_gtD (pv 3) pe_int (nomark _)) (pw_and1 (pt_cmpR (op_eqDD hr.units) (pe_ix ix_D (pv 0) (pe_op op_subD (pv 3) pe_int) (fun _ _ => rfl)) (pe_U g_step_back hg (hr.mono (by decide)) (by rfl) (pa_cons (pv 1) (pa_cons (pv 2) pa_nil))) (nomark _))))) (pss_cons (ps_set (i := 3) sc_shortened.nd rfl (by first | exact Or.inl rfl | exact Or.inr rfl) (pe_op op_subD (pv 3) pe_int))
      (pss_one (ps_set (i := 1) sc_shortened.nd rfl (by first | exact Or.inl rfl | exact Or.inr rfl) (pe_ix ix_D (pv 0) (pv 3) (fun _ _ => rfl))))))
      (pss_one (ps_ret (pe_tup (pa_cons (pe_slice sl_D (pv 0) po_none (po_some (pv 3))) (pa_cons (pv 1) (pa_cons (pv 2) pa_nil))))))))
theorem ok_run_lesser (B : Bl mg) (cMOST_FIRST0 : ∃ t, mg "MOST_FIRST" = some (.int 600 t)) (kTooMany : mg "TooMany" = some (.ref (He.ga K "TooMany"))) (xTooMany : ErrC P K (He.ga K "TooMany")) (hsup : mg "super" = none) (g_check_run : HasX P w K mg base "check_run" 5 P_check_run (T_check_run K)) (g_crossing : Has P w K mg base "crossing" 2 P_crossing T_crossing) (g_value_of : Has P w K mg base "value_of" 1 P_value_of T_value_of) (g_lesser_of : Has P w K mg base "lesser_of" 1 P_lesser_of T_lesser_of) (g_ending_slope : Has P w K mg base "ending_slope" 1 P_ending_slope T_ending_slope) (g_shortened : Has P w K mg base "shortened" 2 P_shortened T_shortened) (F : FunD K "run_lesser" "run_lesser" (defArgs s_run_lesser) (defBody s_run_lesser) (defScope s_run_lesser) [] [] f fd) (gF : mg "run_lesser" = some (.ref f)) (m : OkX K N_run_lesser (T_run_lesser K) (t_run_lesser K)) : FnX P w K mg base 6 f fd P_run_lesser (SpX K (T_run_lesser K)) := by
  obtain ⟨tMOST_FIRST, cMOST_FIRST⟩ := cMOST_FIRST0
  have len : ∀ ss m Q X, T_run_lesser K ss m Q X → ss.length = (P_run_lesser).length := by
    intro ss m Q X h
    repeat (obtain ⟨_, h⟩ := h)
    all_goals (subst_vars; rfl)
  refine fnX_ok F sc_run_lesser len m fun cdv A outer s H E hg hr tk => ?_
  exact (pss_cons (ps_expr (pe_X g_check_run tk hg (hr.mono (by decide)) (by rfl) (pa_cons (pv 0) pa_nil)))
      (pss_cons (ps_expr (pe_X g_check_run tk hg (hr.mono (by decide)) (by rfl) (pa_cons (pv 1) pa_nil)))
      (pss_cons (ps_set (i := 2) sc_run_lesser.nd rfl (by first | exact Or.inl rfl | exact Or.inr rfl) (pe_callB (Cr.call_maxD rfl) (by rfl) B.max (by decide +kernel) (pa_cons (pe_callB Cr.call_lenD (by rfl) B.len (by decide +kernel) (pa_cons (pe_ix ix_D (pv 0) pe_int (fun _ _ => rfl)) pa_nil)) (pa_cons (pe_callB Cr.call_lenD (by rfl) B.len (by decide +kernel) (pa_cons (pe_ix ix_D (pv 1) pe_int (fun _ _ => rfl)) pa_nil)) pa_nil))))
      (pss_cons (ps_set (i := 3) sc_run_lesser.nd rfl (by first | exact Or.inl rfl | exact Or.inr rfl) (pe_U g_crossing hg (hr.mono (by decide)) (by rfl) (pa_cons (pv 0) (pa_cons (pv 1) (pa_cons (pv 2) pa_nil)))))
      (pss_cons (ps_if (PW.pt (pw_and (pt_cmpR op_gtD (pv 3) pe_int (nomark _)) (pw_and1 (pt_cmpR op_gtD (pe_op op_addD (pv 2) (pv 3)) (pe_glob rfl cMOST_FIRST ⟨_, rfl⟩) (nomark _))))) (pss_one (ps_raiseE (k := 0) rfl tk xTooMany (hr.mono (by decide)) (by rfl) kTooMany hsup (pe_op op_addD (pv 2) (pv 3)))) pss_nil)
      (pss_cons (ps_setLc (i := 4) (own := [("at", 6)]) rfl sc_run_lesser.nd rfl rfl (sw_true rfl rfl rfl (by decide +kernel)) (pi_range1 (by rfl) B.range (pa_cons (pe_op op_addD (pe_op op_addD (pv 2) (pv 3)) pe_int) pa_nil)) (blkOk_by (own := [("at", 6)]) (N := N_run_lesser) (sc := defScope s_run_lesser) (by decide +kernel)) (fun _ _ _ _ _ => (pg_name (i := 6) sc_run_lesser.nd rfl (by first | exact Or.inl rfl | exact Or.inr rfl))) (fun _ _ _ _ _ => pts_nil) (fun _ _ _ _ _ => (pe_U g_lesser_of hg (hr.mono (by decide)) (by rfl) (pa_cons (pe_U g_value_of hg (hr.mono (by decide)) (by rfl) (pa_cons (pv 0) (pa_cons (pv 6) pa_nil))) (pa_cons (pe_U g_value_of hg (hr.mono (by decide)) (by rfl) (pa_cons (pv 1) (pa_cons (pv 6) pa_nil))) pa_nil)))))
      (pss_cons (ps_set (i := 5) sc_run_lesser.nd rfl (by first | exact Or.inl rfl | exact Or.inr rfl) (pe_U g_shortened hg (hr.mono (by decide)) (by rfl) (pa_cons (pe_slice sl_D (pv 4) po_none (po_some (pe_op op_addD (pv 2) (pv 3)))) (pa_cons (pe_ix ix_D (pv 4) (pe_op op_addD (pv 2) (pv 3)) (fun _ _ => rfl)) (pa_cons (pe_U g_ending_slope hg (hr.mono (by decide)) (by rfl) (pa_cons (pv 0) (pa_cons (pv 1) pa_nil))) pa_nil)))))
      (pss_cons (ps_if (pt_cmpR op_gtD (pe_callB Cr.call_lenD (by rfl) B.len (by decide +kernel) (pa_cons (pe_ix ix_D (pv 5) pe_int (fun _ _ => rfl)) pa_nil)) (pe_glob rfl cMOST_FIRST ⟨_, rfl⟩) (nomark _)) (pss_one (ps_raiseE (k := 0) rfl tk xTooMany (hr.mono (by decide)) (by rfl) kTooMany hsup (pe_callB Cr.call_lenD (by rfl) B.len (by decide +kernel) (pa_cons (pe_ix ix_D (pv 5) pe_int (fun _ _ => rfl)) pa_nil)))) pss_nil)
      (pss_one (ps_ret (pv 5)))))))))))
theorem ok_law_whole (B : Bl mg) (F : FunD K "_law_whole" "_law_whole" (defArgs s_law_whole) (defBody s_law_whole) (defScope s_law_whole) [] [] f fd) (gF : mg "_law_whole" = some (.ref f)) (m : Ok K N_law_whole T_law_whole (t_law_whole K)) : Has P w K mg base "_law_whole" 1 P_law_whole T_law_whole := by
  have len : ∀ ss m Q, T_law_whole ss m Q → ss.length = (P_law_whole).length := by
    intro ss m Q h
    repeat (obtain ⟨_, h⟩ := h)
    all_goals (subst_vars; rfl)
  refine has_ok F gF sc_law_whole len (fun _ _ _ _ _ _ us hl => match us, hl with | [_], _ => rfl) m fun cdv A outer s H hg hr => ?_
  exact (pss_one (ps_ret (pe_and (pe_callB Cr.call_isiD (by rfl) B.isinstance (by decide +kernel) (pa_cons (pv 0) (pa_cons (pe_bltn rfl B.int (by decide +kernel) rfl) pa_nil))) (pe_one (pe_not (pe_callB Cr.call_isiD (by rfl) B.isinstance (by decide +kernel) (pa_cons (pv 0) (pa_cons (pe_bltn rfl B.bool (by decide +kernel) rfl) pa_nil))))))))
theorem ok_law_value (B : Bl mg) (F : FunD K "_law_value" "_law_value" (defArgs s_law_value) (defBody s_law_value) (defScope s_law_value) [] [] f fd) (gF : mg "_law_value" = some (.ref f)) (m : Ok K N_law_value T_law_value (t_law_value K)) : Has P w K mg base "_law_value" 1 P_law_value T_law_value := by
  have len : ∀ ss m Q, T_law_value ss m Q → ss.length = (P_law_value).length := by
    intro ss m Q h
    repeat (obtain ⟨_, h⟩ := h)
    all_goals (subst_vars; rfl)
  refine has_ok F gF sc_law_value len (fun _ _ _ _ _ _ us hl => match us, hl with | [_, _], _ => rfl) m fun cdv A outer s H hg hr => ?_
  exact (pss_cons (ps_if (pt_cmpR op_ltD (pv 1) (pe_callB Cr.call_lenD (by rfl) B.len (by decide +kernel) (pa_cons (pe_ix ix_D (pv 0) pe_int (fun _ _ => rfl)) pa_nil)) (nomark _)) (pss_one (ps_ret (pe_ix ix_D (pe_ix ix_D (pv 0) pe_int (fun _ _ => rfl)) (pv 1) (fun _ _ => rfl)))) pss_nil)
      (pss_one (ps_ret (pe_ifExp (pt_cmpR op_isD (pe_ix ix_D (pv 0) pe_int (fun _ _ => rfl)) pe_non (nomark _)) pe_non (pe_op op_addD (pe_ix ix_D (pv 0) pe_int (fun _ _ => rfl)) (pe_op op_mulD (pe_ix ix_D (pv 0) pe_int (fun _ _ => rfl)) (pe_op op_subD (pv 1) (pe_callB Cr.call_lenD (by rfl) B.len (by decide +kernel) (pa_cons (pe_ix ix_D (pv 0) pe_int (fun _ _ => rfl)) pa_nil)))))))))
theorem ok_law_lesser (B : Bl mg) (F : FunD K "_law_lesser" "_law_lesser" (defArgs s_law_lesser) (defBody s_law_lesser) (defScope s_law_lesser) [] [] f fd) (gF : mg "_law_lesser" = some (.ref f)) (m : Ok K N_law_lesser T_law_lesser (t_law_lesser K)) : Has P w K mg base "_law_lesser" 1 P_law_lesser T_law_lesser := by
  have len : ∀ ss m Q, T_law_lesser ss m Q → ss.length = (P_law_lesser).length := by
    intro ss m Q h
    repeat (obtain ⟨_, h⟩ := h)
    all_goals (subst_vars; rfl)
  refine has_ok F gF sc_law_lesser len (fun _ _ _ _ _ _ us hl => match us, hl with | [_, _], _ => rfl) m fun cdv A outer s H hg hr => ?_
  exact (pss_cons (ps_if (PW.pt (pw_or (pt_cmpR op_isD (pv 0) pe_non (nomark _)) (pw_or1 (pt_cmpR op_isD (pv 1) pe_non (nomark _))))) (pss_one (ps_ret (pe_ifExp (pt_cmpR op_isD (pv 0) pe_non (nomark _)) (pv 1) (pv 0)))) pss_nil)
      (pss_one (ps_ret (pe_callB (Cr.call_minD rfl) (by rfl) B.min (by decide +kernel) (pa_cons (pv 0) (pa_cons (pv 1) pa_nil))))))
theorem ok_law_lesser_at (B : Bl mg) (g_law_value : Has P w K mg base "_law_value" 1 P_law_value T_law_value) (g_law_lesser : Has P w K mg base "_law_lesser" 1 P_law_lesser T_law_lesser) (F : FunD K "_law_lesser_at" "_law_lesser_at" (defArgs s_law_lesser_at) (defBody s_law_lesser_at) (defScope s_law_lesser_at) [] [] f fd) (gF : mg "_law_lesser_at" = some (.ref f)) (m : Ok K N_law_lesser_at T_law_lesser_at (t_law_lesser_at K)) : Has P w K mg base "_law_lesser_at" 2 P_law_lesser_at T_law_lesser_at := by
  have len : ∀ ss m Q, T_law_lesser_at ss m Q → ss.length = (P_law_lesser_at).length := by
    intro ss m Q h
    repeat (obtain ⟨_, h⟩ := h)
    all_goals (subst_vars; rfl)
  refine has_ok F gF sc_law_lesser_at len (fun _ _ _ _ _ _ us hl => match us, hl with | [_, _, _], _ => rfl) m fun cdv A outer s H hg hr => ?_
  exact (pss_one (ps_ret (pe_U g_law_lesser hg (hr.mono (by decide)) (by rfl) (pa_cons (pe_U g_law_value hg (hr.mono (by decide)) (by rfl) (pa_cons (pv 0) (pa_cons (pv 2) pa_nil))) (pa_cons (pe_U g_law_value hg (hr.mono (by decide)) (by rfl) (pa_cons (pv 1) (pa_cons (pv 2) pa_nil))) pa_nil)))))
theorem ok_law_slope (B : Bl mg) (F : FunD K "_law_slope" "_law_slope" (defArgs s_law_slope) (defBody s_law_slope) (defScope s_law_slope) [] [] f fd) (gF : mg "_law_slope" = some (.ref f)) (m : Ok K N_law_slope T_law_slope (t_law_slope K)) : Has P w K mg base "_law_slope" 1 P_law_slope T_law_slope := by
  have len : ∀ ss m Q, T_law_slope ss m Q → ss.length = (P_law_slope).length := by
    intro ss m Q h
    repeat (obtain ⟨_, h⟩ := h)
    all_goals (subst_vars; rfl)
  refine has_ok F gF sc_law_slope len (fun _ _ _ _ _ _ us hl => match us, hl with | [_, _], _ => rfl) m fun cdv A outer s H hg hr => ?_
  exact (pss_cons (ps_if (PW.pt (pw_or (pt_cmpR op_isD (pe_ix ix_D (pv 0) pe_int (fun _ _ => rfl)) pe_non (nomark _)) (pw_or1 (pt_cmpR op_isD (pe_ix ix_D (pv 1) pe_int (fun _ _ => rfl)) pe_non (nomark _))))) (pss_one (ps_ret (pe_ifExp (pt_cmpR op_isD (pe_ix ix_D (pv 0) pe_int (fun _ _ => rfl)) pe_non (nomark _)) (pe_ix ix_D (pv 1) pe_int (fun _ _ => rfl)) (pe_ix ix_D (pv 0) pe_int (fun _ _ => rfl))))) pss_nil)
      (pss_one (ps_ret (pe_callB (Cr.call_minD rfl) (by rfl) B.min (by decide +kernel) (pa_cons (pe_ix ix_D (pv 0) pe_int (fun _ _ => rfl)) (pa_cons (pe_ix ix_D (pv 1) pe_int (fun _ _ => rfl)) pa_nil))))))
theorem ok_law_ending_good (B : Bl mg) (g_law_lesser_at : Has P w K mg base "_law_lesser_at" 2 P_law_lesser_at T_law_lesser_at) (g_law_slope : Has P w K mg base "_law_slope" 1 P_law_slope T_law_slope) (g_law_back : Has P w K mg base "_law_back" 1 P_law_back T_law_back) (F : FunD K "_law_ending_good" "_law_ending_good" (defArgs s_law_ending_good) (defBody s_law_ending_good) (defScope s_law_ending_good) [] [] f fd) (gF : mg "_law_ending_good" = some (.ref f)) (m : Ok K N_law_ending_good T_law_ending_good (t_law_ending_good K)) : Has P w K mg base "_law_ending_good" 3 P_law_ending_good T_law_ending_good := by
  have len : ∀ ss m Q, T_law_ending_good ss m Q → ss.length = (P_law_ending_good).length := by
    intro ss m Q h
    repeat (obtain ⟨_, h⟩ := h)
    all_goals (subst_vars; rfl)
  refine has_ok F gF sc_law_ending_good len (fun _ _ _ _ _ _ us hl => match us, hl with | [_, _, _, _], _ => rfl) m fun cdv A outer s H hg hr => ?_
  exact (pss_cons (ps_par (i := 4) (j := 5) rfl sc_law_ending_good.nd rfl rfl (by decide) rfl rfl (pa_cons (pe_U g_law_slope hg (hr.mono (by decide)) (by rfl) (pa_cons (pv 0) (pa_cons (pv 1) pa_nil))) (pa_cons (pe_U g_law_lesser_at hg (hr.mono (by decide)) (by rfl) (pa_cons (pv 0) (pa_cons (pv 1) (pa_cons (pv 2) pa_nil)))) pa_nil)) rfl)
      (pss_cons (ps_for PassesOwn.never rfl (pi_D (pe_lst (pa_cons pe_int (pa_cons pe_int (pa_cons (pv 3) pa_nil))))) (pg_name (i := 6) sc_law_ending_good.nd rfl (by first | exact Or.inl rfl | exact Or.inr rfl)) (pss_cons (ps_set (i := 7) sc_law_ending_good.nd rfl (by first | exact Or.inl rfl | exact Or.inr rfl) (pe_ifExp (pt_cmpR op_isD (pv 5) pe_non (nomark _)) pe_non (pe_op op_addD (pv 5) (pe_op op_mulD (pv 4) (pv 6)))))
      (pss_one (ps_if (pt_cmpR (op_neDD hr.units) (pe_callB (Cr.call_reprD hg hr.units) (by rfl) B.repr (by decide +kernel) (pa_cons (pe_U g_law_lesser_at hg (hr.mono (by decide)) (by rfl) (pa_cons (pv 0) (pa_cons (pv 1) (pa_cons (pe_op op_addD (pv 2) (pv 6)) pa_nil)))) pa_nil)) (pe_callB (Cr.call_reprD hg hr.units) (by rfl) B.repr (by decide +kernel) (pa_cons (pv 7) pa_nil)) (nomark _)) (pss_one (ps_ret pe_bl)) pss_nil))))
      (pss_cons (ps_if (pt_cmpR (op_eqDD hr.units) (pv 2) pe_int (nomark _)) (pss_one (ps_ret pe_bl)) pss_nil)
      (pss_one (ps_ret (pe_cmpR (op_neDD hr.units) (pe_callB (Cr.call_reprD hg hr.units) (by rfl) B.repr (by decide +kernel) (pa_cons (pe_U g_law_lesser_at hg (hr.mono (by decide)) (by rfl) (pa_cons (pv 0) (pa_cons (pv 1) (pa_cons (pe_op op_subD (pv 2) pe_int) pa_nil)))) pa_nil)) (pe_callB (Cr.call_reprD hg hr.units) (by rfl) B.repr (by decide +kernel) (pa_cons (pe_U g_law_back hg (hr.mono (by decide)) (by rfl) (pa_cons (pv 5) (pa_cons (pv 4) pa_nil))) pa_nil)) (nomark _)))))))
theorem ok_law_is_least (B : Bl mg) (g_law_whole : Has P w K mg base "_law_whole" 1 P_law_whole T_law_whole) (F : FunD K "_law_is_least" "_law_is_least" (defArgs s_law_is_least) (defBody s_law_is_least) (defScope s_law_is_least) [] [] f fd) (gF : mg "_law_is_least" = some (.ref f)) (m : Ok K N_law_is_least T_law_is_least (t_law_is_least K)) : Has P w K mg base "_law_is_least" 2 P_law_is_least T_law_is_least := by
  have len : ∀ ss m Q, T_law_is_least ss m Q → ss.length = (P_law_is_least).length := by
    intro ss m Q h
    repeat (obtain ⟨_, h⟩ := h)
    all_goals (subst_vars; rfl)
  refine has_ok F gF sc_law_is_least len (fun _ _ _ _ _ _ us hl => match us, hl with | [_], _ => rfl) m fun cdv A outer s H hg hr => ?_
  exact (pss_cons (ps_if (PW.pt (pw_or (pt_not (pt_val (pe_callB Cr.call_isiD (by rfl) B.isinstance (by decide +kernel) (pa_cons (pv 0) (pa_cons (pe_bltn rfl B.tuple (by decide +kernel) rfl) pa_nil))))) (pw_or (pt_cmpR (op_neDD hr.units) (pe_callB Cr.call_lenD (by rfl) B.len (by decide +kernel) (pa_cons (pv 0) pa_nil)) pe_int (nomark _)) (pw_or1 (pt_not (pt_val (pe_callB Cr.call_isiD (by rfl) B.isinstance (by decide +kernel) (pa_cons (pe_ix ix_D (pv 0) pe_int (fun _ _ => rfl)) (pa_cons (pe_bltn rfl B.list (by decide +kernel) rfl) pa_nil))))))))) (pss_one (ps_ret pe_bl)) pss_nil)
      (pss_cons (ps_if (PW.pt (pw_or (pt_cmpR (op_neDD hr.units) (pe_lc (own := [("item", 1)]) rfl sc_law_is_least.nd (pi_D (pe_ix ix_D (pv 0) pe_int (fun _ _ => rfl))) (blkOk_by (own := [("item", 1)]) (N := N_law_is_least) (sc := defScope s_law_is_least) (by decide +kernel)) (fun _ _ _ _ _ => (pg_name (i := 1) sc_law_is_least.nd rfl (by first | exact Or.inl rfl | exact Or.inr rfl))) (fun _ _ _ _ _ => (pts_one (PW.pt (pw_and (pt_cmpR op_isnotD (pv 1) pe_non (nomark _)) (pw_and1 (pt_not (pt_val (pe_U g_law_whole hg (hr.mono (by decide)) (by rfl) (pa_cons (pv 1) pa_nil))))))))) (fun _ _ _ _ _ => (pv 1))) (pe_lst pa_nil) (nomark _)) (pw_or1 (pt_not (pt_val (pe_U g_law_whole hg (hr.mono (by decide)) (by rfl) (pa_cons (pe_ix ix_D (pv 0) pe_int (fun _ _ => rfl)) pa_nil))))))) (pss_one (ps_ret pe_bl)) pss_nil)
      (pss_cons (ps_if (pt_cmpR op_isD (pe_ix ix_D (pv 0) pe_int (fun _ _ => rfl)) pe_non (nomark _)) (pss_one (ps_ret (pe_and (pe_cmpR (op_eqDD hr.units) (pe_ix ix_D (pv 0) pe_int (fun _ _ => rfl)) pe_int (nomark _)) (pe_one (pe_cmpR (op_neDD hr.units) (pe_slice sl_D (pe_ix ix_D (pv 0) pe_int (fun _ _ => rfl)) (po_some (pe_un un_negD pe_int)) po_none) (pe_lst (pa_cons pe_non pa_nil)) (nomark _)))))) pss_nil)
      (pss_one (ps_ret (pe_and (pe_U g_law_whole hg (hr.mono (by decide)) (by rfl) (pa_cons (pe_ix ix_D (pv 0) pe_int (fun _ _ => rfl)) pa_nil)) (pe_one (pe_cmpR (op_neDD hr.units) (pe_slice sl_D (pe_ix ix_D (pv 0) pe_int (fun _ _ => rfl)) (po_some (pe_un un_negD pe_int)) po_none) (pe_lst (pa_cons (pe_op op_subD (pe_ix ix_D (pv 0) pe_int (fun _ _ => rfl)) (pe_ix ix_D (pv 0) pe_int (fun _ _ => rfl))) pa_nil)) (nomark _)))))))))
theorem ok_law_lesser_good (B : Bl mg) (kTooMany : mg "TooMany" = some (.ref (He.ga K "TooMany"))) (g_run_lesser : HasX P w K mg base "run_lesser" 6 P_run_lesser (T_run_lesser K)) (g_law_whole : Has P w K mg base "_law_whole" 1 P_law_whole T_law_whole) (g_law_ending_good : Has P w K mg base "_law_ending_good" 3 P_law_ending_good T_law_ending_good) (g_law_is_least : Has P w K mg base "_law_is_least" 2 P_law_is_least T_law_is_least) (g_law_value : Has P w K mg base "_law_value" 1 P_law_value T_law_value) (g_law_lesser_at : Has P w K mg base "_law_lesser_at" 2 P_law_lesser_at T_law_lesser_at) (gk_run_lesser_other_one : HasXK P w K mg base "run_lesser" 6 P_run_lesser ["other", "one"] [1, 0] (T_run_lesser K)) (F : FunD K "_law_lesser_good" "_law_lesser_good" (defArgs s_law_lesser_good) (defBody s_law_lesser_good) (defScope s_law_lesser_good) [] [] f fd) (gF : mg "_law_lesser_good" = some (.ref f)) (m : Ok K N_law_lesser_good T_law_lesser_good (t_law_lesser_good K)) : Has P w K mg base "_law_lesser_good" 7 P_law_lesser_good T_law_lesser_good := by
  have len : ∀ ss m Q, T_law_lesser_good ss m Q → ss.length = (P_law_lesser_good).length := by
    intro ss m Q h
    repeat (obtain ⟨_, h⟩ := h)
    all_goals (subst_vars; rfl)
  refine has_ok F gF sc_law_lesser_good len (fun _ _ _ _ _ _ us hl => match us, hl with | [_, _, _], _ => rfl) m fun cdv A outer s H hg hr => ?_
  exact (pss_cons (ps_par3 (i := 3) (j := 4) (l := 5) rfl sc_law_lesser_good.nd rfl rfl rfl (by decide) (by decide) (by decide) rfl rfl rfl (pa_cons (pe_lst (pa_cons (pe_callB (Cr.call_reprD hg hr.units) (by rfl) B.repr (by decide +kernel) (pa_cons (pv 0) pa_nil)) (pa_cons (pe_callB (Cr.call_reprD hg hr.units) (by rfl) B.repr (by decide +kernel) (pa_cons (pv 1) pa_nil)) pa_nil))) (pa_cons pe_non (pa_cons pe_non pa_nil))) rfl)
      (pss_cons (ps_try_val (i := 6) (j := 4) (tb := fun W => (tAsg (tCallX W (SpX K (T_run_lesser K)) (tCons (tVar 0) (tCons (tVar 1) tNil))) (gName 5))) rfl rfl rfl sc_law_lesser_good.nd rfl rfl ⟨by rfl, by decide, .inl kTooMany⟩ takes_no (fun W pn xe tk po => (pss_one (ps_set (i := 5) sc_law_lesser_good.nd rfl (by first | exact Or.inl rfl | exact Or.inr rfl) (pe_X g_run_lesser tk hg (hr.mono (by decide)) (by rfl) (pa_cons (pv 0) (pa_cons (pv 1) pa_nil)))))) (fun a oe pn => pss_one (ps_set (i := 4) sc_law_lesser_good.nd rfl (by first | exact Or.inl rfl | exact Or.inr rfl) (pe_rawV (pv 6)))))
      (pss_cons (ps_if (pt_cmpR (op_neDD hr.units) (pe_lst (pa_cons (pe_callB (Cr.call_reprD hg hr.units) (by rfl) B.repr (by decide +kernel) (pa_cons (pv 0) pa_nil)) (pa_cons (pe_callB (Cr.call_reprD hg hr.units) (by rfl) B.repr (by decide +kernel) (pa_cons (pv 1) pa_nil)) pa_nil))) (pv 3) (nomark _)) (pss_one (ps_ret pe_bl)) pss_nil)
      (pss_cons (ps_if (pt_cmpR op_isD (pv 5) pe_non (nomark _)) (pss_one (ps_ret (pe_and (pe_U g_law_whole hg (hr.mono (by decide)) (by rfl) (pa_cons (pv 4) pa_nil)) (pe_and (pe_cmpR op_gtD (pv 4) pe_int (nomark _)) (pe_one (pe_U g_law_ending_good hg (hr.mono (by decide)) (by rfl) (pa_cons (pv 0) (pa_cons (pv 1) (pa_cons (pv 4) (pa_cons (pv 2) pa_nil)))))))))) pss_nil)
      (pss_cons (ps_if (PW.pt (pw_or (pt_not (pt_val (pe_U g_law_is_least hg (hr.mono (by decide)) (by rfl) (pa_cons (pv 5) pa_nil)))) (pw_or (pt_cmpR op_gtD (pe_callB Cr.call_lenD (by rfl) B.len (by decide +kernel) (pa_cons (pe_ix ix_D (pv 5) pe_int (fun _ _ => rfl)) pa_nil)) pe_int (nomark _)) (pw_or1 (pt_not (pt_val (pe_U g_law_ending_good hg (hr.mono (by decide)) (by rfl) (pa_cons (pv 0) (pa_cons (pv 1) (pa_cons (pe_callB Cr.call_lenD (by rfl) B.len (by decide +kernel) (pa_cons (pe_ix ix_D (pv 5) pe_int (fun _ _ => rfl)) pa_nil)) (pa_cons (pv 2) pa_nil))))))))))) (pss_one (ps_ret pe_bl)) pss_nil)
      (pss_cons (ps_if (pt_cmpR (op_neDD hr.units) (pe_callB (Cr.call_reprD hg hr.units) (by rfl) B.repr (by decide +kernel) (pa_cons (pe_XK gk_run_lesser_other_one takes_no hg (hr.mono (by decide)) (by rfl) (pk_cons (pv 0) (pk_cons (pv 1) pk_nil))) pa_nil)) (pe_callB (Cr.call_reprD hg hr.units) (by rfl) B.repr (by decide +kernel) (pa_cons (pv 5) pa_nil)) (nomark _)) (pss_one (ps_ret pe_bl)) pss_nil)
      (pss_cons (ps_set (i := 7) sc_law_lesser_good.nd rfl (by first | exact Or.inl rfl | exact Or.inr rfl) (pe_op op_addD (pe_listRg rfl (by rfl) B.list (prg_1 (by rfl) B.range (pe_op op_addD (pe_callB (Cr.call_maxD rfl) (by rfl) B.max (by decide +kernel) (pa_cons (pe_callB Cr.call_lenD (by rfl) B.len (by decide +kernel) (pa_cons (pe_ix ix_D (pv 0) pe_int (fun _ _ => rfl)) pa_nil)) (pa_cons (pe_callB Cr.call_lenD (by rfl) B.len (by decide +kernel) (pa_cons (pe_ix ix_D (pv 1) pe_int (fun _ _ => rfl)) pa_nil)) pa_nil))) pe_int))) (pe_lst (pa_cons (pe_callB (Cr.call_maxD rfl) (by rfl) B.max (by decide +kernel) (pa_cons (pe_op op_subD (pe_callB Cr.call_lenD (by rfl) B.len (by decide +kernel) (pa_cons (pe_ix ix_D (pv 5) pe_int (fun _ _ => rfl)) pa_nil)) pe_int) (pa_cons pe_int pa_nil))) (pa_cons (pe_op op_addD (pe_callB Cr.call_lenD (by rfl) B.len (by decide +kernel) (pa_cons (pe_ix ix_D (pv 5) pe_int (fun _ _ => rfl)) pa_nil)) pe_int) (pa_cons (pv 2) pa_nil))))))
      (pss_cons (ps_for PassesOwn.never rfl (pi_D (pv 7)) (pg_name (i := 8) sc_law_lesser_good.nd rfl (by first | exact Or.inl rfl | exact Or.inr rfl)) (pss_one (ps_if (pt_cmpR (op_neDD hr.units) (pe_callB (Cr.call_reprD hg hr.units) (by rfl) B.repr (by decide +kernel) (pa_cons (pe_U g_law_value hg (hr.mono (by decide)) (by rfl) (pa_cons (pv 5) (pa_cons (pv 8) pa_nil))) pa_nil)) (pe_callB (Cr.call_reprD hg hr.units) (by rfl) B.repr (by decide +kernel) (pa_cons (pe_U g_law_lesser_at hg (hr.mono (by decide)) (by rfl) (pa_cons (pv 0) (pa_cons (pv 1) (pa_cons (pv 8) pa_nil)))) pa_nil)) (nomark _)) (pss_one (ps_ret pe_bl)) pss_nil)))
      (pss_cons (ps_expr (pe_bm PySem.F.plainAttrs_list PySem.F.slot_list_append PySem.F.type_list_append mt_append (pe_ix ix_D (pv 5) pe_int (fun _ _ => rfl)) (pa_cons pe_int pa_nil)))
      (pss_one (ps_ret (pe_cmpR (op_eqDD hr.units) (pe_lst (pa_cons (pe_callB (Cr.call_reprD hg hr.units) (by rfl) B.repr (by decide +kernel) (pa_cons (pv 0) pa_nil)) (pa_cons (pe_callB (Cr.call_reprD hg hr.units) (by rfl) B.repr (by decide +kernel) (pa_cons (pv 1) pa_nil)) pa_nil))) (pv 3) (nomark _)))))))))))))
theorem ok_sum_of (B : Bl mg) (F : FunD K "sum_of" "sum_of" (defArgs s_sum_of) (defBody s_sum_of) (defScope s_sum_of) [] [] f fd) (gF : mg "sum_of" = some (.ref f)) (m : Ok K N_sum_of T_sum_of (t_sum_of K)) : Has P w K mg base "sum_of" 1 P_sum_of T_sum_of := by
  have len : ∀ ss m Q, T_sum_of ss m Q → ss.length = (P_sum_of).length := by
    intro ss m Q h
    repeat (obtain ⟨_, h⟩ := h)
    all_goals (subst_vars; rfl)
  refine has_ok F gF sc_sum_of len (fun _ _ _ _ _ _ us hl => match us, hl with | [_, _], _ => rfl) m fun cdv A outer s H hg hr => ?_
  exact (pss_cons (ps_if (PW.pt (pw_or (pt_cmpR op_isD (pv 0) pe_non (nomark _)) (pw_or1 (pt_cmpR op_isD (pv 1) pe_non (nomark _))))) (pss_one (ps_ret pe_non)) pss_nil)
      (pss_one (ps_ret (pe_op op_addD (pv 0) (pv 1)))))
theorem ok_run_sum (B : Bl mg) (g_check_run : HasX P w K mg base "check_run" 5 P_check_run (T_check_run K)) (g_value_of : Has P w K mg base "value_of" 1 P_value_of T_value_of) (g_sum_of : Has P w K mg base "sum_of" 1 P_sum_of T_sum_of) (g_shortened : Has P w K mg base "shortened" 2 P_shortened T_shortened) (F : FunD K "run_sum" "run_sum" (defArgs s_run_sum) (defBody s_run_sum) (defScope s_run_sum) [] [] f fd) (gF : mg "run_sum" = some (.ref f)) (m : OkX K N_run_sum (T_run_sum K) (t_run_sum K)) : FnX P w K mg base 6 f fd P_run_sum (SpX K (T_run_sum K)) := by
  have len : ∀ ss m Q X, T_run_sum K ss m Q X → ss.length = (P_run_sum).length := by
    intro ss m Q X h
    repeat (obtain ⟨_, h⟩ := h)
    all_goals (subst_vars; rfl)
  refine fnX_ok F sc_run_sum len m fun cdv A outer s H E hg hr tk => ?_
  exact (pss_cons (ps_expr (pe_X g_check_run tk hg (hr.mono (by decide)) (by rfl) (pa_cons (pv 0) pa_nil)))
      (pss_cons (ps_expr (pe_X g_check_run tk hg (hr.mono (by decide)) (by rfl) (pa_cons (pv 1) pa_nil)))
      (pss_cons (ps_set (i := 2) sc_run_sum.nd rfl (by first | exact Or.inl rfl | exact Or.inr rfl) (pe_callB (Cr.call_maxD rfl) (by rfl) B.max (by decide +kernel) (pa_cons (pe_callB Cr.call_lenD (by rfl) B.len (by decide +kernel) (pa_cons (pe_ix ix_D (pv 0) pe_int (fun _ _ => rfl)) pa_nil)) (pa_cons (pe_callB Cr.call_lenD (by rfl) B.len (by decide +kernel) (pa_cons (pe_ix ix_D (pv 1) pe_int (fun _ _ => rfl)) pa_nil)) pa_nil))))
      (pss_cons (ps_setLc (i := 3) (own := [("at", 5)]) rfl sc_run_sum.nd rfl rfl (sw_true rfl rfl rfl (by decide +kernel)) (pi_range1 (by rfl) B.range (pa_cons (pe_op op_addD (pv 2) pe_int) pa_nil)) (blkOk_by (own := [("at", 5)]) (N := N_run_sum) (sc := defScope s_run_sum) (by decide +kernel)) (fun _ _ _ _ _ => (pg_name (i := 5) sc_run_sum.nd rfl (by first | exact Or.inl rfl | exact Or.inr rfl))) (fun _ _ _ _ _ => pts_nil) (fun _ _ _ _ _ => (pe_U g_sum_of hg (hr.mono (by decide)) (by rfl) (pa_cons (pe_U g_value_of hg (hr.mono (by decide)) (by rfl) (pa_cons (pv 0) (pa_cons (pv 5) pa_nil))) (pa_cons (pe_U g_value_of hg (hr.mono (by decide)) (by rfl) (pa_cons (pv 1) (pa_cons (pv 5) pa_nil))) pa_nil)))))
      (pss_cons (ps_set (i := 4) sc_run_sum.nd rfl (by first | exact Or.inl rfl | exact Or.inr rfl) (pe_op op_addD (pe_ix ix_D (pv 0) pe_int (fun _ _ => rfl)) (pe_ix ix_D (pv 1) pe_int (fun _ _ => rfl))))
      (pss_cons (ps_if (pt_cmpR op_isD (pe_ix ix_D (pv 3) (pv 2) (fun _ _ => rfl)) pe_non (nomark _)) (pss_one (ps_set (i := 4) sc_run_sum.nd rfl (by first | exact Or.inl rfl | exact Or.inr rfl) pe_int)) pss_nil)
      (pss_one (ps_ret (pe_U g_shortened hg (hr.mono (by decide)) (by rfl) (pa_cons (pe_slice sl_D (pv 3) po_none (po_some (pv 2))) (pa_cons (pe_ix ix_D (pv 3) (pv 2) (fun _ _ => rfl)) (pa_cons (pv 4) pa_nil))))))))))))
theorem ok_law_sum (B : Bl mg) (F : FunD K "_law_sum" "_law_sum" (defArgs s_law_sum) (defBody s_law_sum) (defScope s_law_sum) [] [] f fd) (gF : mg "_law_sum" = some (.ref f)) (m : Ok K N_law_sum T_law_sum (t_law_sum K)) : Has P w K mg base "_law_sum" 1 P_law_sum T_law_sum := by
  have len : ∀ ss m Q, T_law_sum ss m Q → ss.length = (P_law_sum).length := by
    intro ss m Q h
    repeat (obtain ⟨_, h⟩ := h)
    all_goals (subst_vars; rfl)
  refine has_ok F gF sc_law_sum len (fun _ _ _ _ _ _ us hl => match us, hl with | [_, _], _ => rfl) m fun cdv A outer s H hg hr => ?_
  exact (pss_one (ps_ret (pe_ifExp (PW.pt (pw_or (pt_cmpR op_isD (pv 0) pe_non (nomark _)) (pw_or1 (pt_cmpR op_isD (pv 1) pe_non (nomark _))))) pe_non (pe_op op_addD (pv 0) (pv 1)))))
theorem ok_law_sum_good (B : Bl mg) (g_run_sum : HasX P w K mg base "run_sum" 6 P_run_sum (T_run_sum K)) (g_law_is_least : Has P w K mg base "_law_is_least" 2 P_law_is_least T_law_is_least) (g_law_value : Has P w K mg base "_law_value" 1 P_law_value T_law_value) (g_law_sum : Has P w K mg base "_law_sum" 1 P_law_sum T_law_sum) (F : FunD K "_law_sum_good" "_law_sum_good" (defArgs s_law_sum_good) (defBody s_law_sum_good) (defScope s_law_sum_good) [] [] f fd) (gF : mg "_law_sum_good" = some (.ref f)) (m : Ok K N_law_sum_good T_law_sum_good (t_law_sum_good K)) : Has P w K mg base "_law_sum_good" 7 P_law_sum_good T_law_sum_good := by
  have len : ∀ ss m Q, T_law_sum_good ss m Q → ss.length = (P_law_sum_good).length := by
    intro ss m Q h
    repeat (obtain ⟨_, h⟩ := h)
    all_goals (subst_vars; rfl)
  refine has_ok F gF sc_law_sum_good len (fun _ _ _ _ _ _ us hl => match us, hl with | [_, _, _], _ => rfl) m fun cdv A outer s H hg hr => ?_
  exact (pss_cons (ps_set (i := 3) sc_law_sum_good.nd rfl (by first | exact Or.inl rfl | exact Or.inr rfl) (pe_lst (pa_cons (pe_callB (Cr.call_reprD hg hr.units) (by rfl) B.repr (by decide +kernel) (pa_cons (pv 0) pa_nil)) (pa_cons (pe_callB (Cr.call_reprD hg hr.units) (by rfl) B.repr (by decide +kernel) (pa_cons (pv 1) pa_nil)) pa_nil))))
      (pss_cons (ps_set (i := 4) sc_law_sum_good.nd rfl (by first | exact Or.inl rfl | exact Or.inr rfl) (pe_X g_run_sum takes_no hg (hr.mono (by decide)) (by rfl) (pa_cons (pv 0) (pa_cons (pv 1) pa_nil))))
      (pss_cons (ps_if (PW.pt (pw_or (pt_cmpR (op_neDD hr.units) (pe_lst (pa_cons (pe_callB (Cr.call_reprD hg hr.units) (by rfl) B.repr (by decide +kernel) (pa_cons (pv 0) pa_nil)) (pa_cons (pe_callB (Cr.call_reprD hg hr.units) (by rfl) B.repr (by decide +kernel) (pa_cons (pv 1) pa_nil)) pa_nil))) (pv 3) (nomark _)) (pw_or (pt_not (pt_val (pe_U g_law_is_least hg (hr.mono (by decide)) (by rfl) (pa_cons (pv 4) pa_nil)))) (pw_or1 (pt_cmpR (op_neDD hr.units) (pe_callB (Cr.call_reprD hg hr.units) (by rfl) B.repr (by decide +kernel) (pa_cons (pe_X g_run_sum takes_no hg (hr.mono (by decide)) (by rfl) (pa_cons (pv 1) (pa_cons (pv 0) pa_nil))) pa_nil)) (pe_callB (Cr.call_reprD hg hr.units) (by rfl) B.repr (by decide +kernel) (pa_cons (pv 4) pa_nil)) (nomark _)))))) (pss_one (ps_ret pe_bl)) pss_nil)
      (pss_cons (ps_set (i := 5) sc_law_sum_good.nd rfl (by first | exact Or.inl rfl | exact Or.inr rfl) (pe_callB (Cr.call_maxD rfl) (by rfl) B.max (by decide +kernel) (pa_cons (pe_callB Cr.call_lenD (by rfl) B.len (by decide +kernel) (pa_cons (pe_ix ix_D (pv 0) pe_int (fun _ _ => rfl)) pa_nil)) (pa_cons (pe_callB Cr.call_lenD (by rfl) B.len (by decide +kernel) (pa_cons (pe_ix ix_D (pv 1) pe_int (fun _ _ => rfl)) pa_nil)) pa_nil))))
      (pss_cons (ps_for PassesOwn.never rfl (pi_D (pe_op op_addD (pe_listRg rfl (by rfl) B.list (prg_1 (by rfl) B.range (pe_op op_addD (pv 5) pe_int))) (pe_lst (pa_cons (pv 2) pa_nil)))) (pg_name (i := 6) sc_law_sum_good.nd rfl (by first | exact Or.inl rfl | exact Or.inr rfl)) (pss_cons (ps_set (i := 7) sc_law_sum_good.nd rfl (by first | exact Or.inl rfl | exact Or.inr rfl) (pe_U g_law_sum hg (hr.mono (by decide)) (by rfl) (pa_cons (pe_U g_law_value hg (hr.mono (by decide)) (by rfl) (pa_cons (pv 0) (pa_cons (pv 6) pa_nil))) (pa_cons (pe_U g_law_value hg (hr.mono (by decide)) (by rfl) (pa_cons (pv 1) (pa_cons (pv 6) pa_nil))) pa_nil))))
      (pss_one (ps_if (pt_cmpR (op_neDD hr.units) (pe_callB (Cr.call_reprD hg hr.units) (by rfl) B.repr (by decide +kernel) (pa_cons (pe_U g_law_value hg (hr.mono (by decide)) (by rfl) (pa_cons (pv 4) (pa_cons (pv 6) pa_nil))) pa_nil)) (pe_callB (Cr.call_reprD hg hr.units) (by rfl) B.repr (by decide +kernel) (pa_cons (pv 7) pa_nil)) (nomark _)) (pss_one (ps_ret pe_bl)) pss_nil))))
      (pss_cons (ps_expr (pe_bm PySem.F.plainAttrs_list PySem.F.slot_list_append PySem.F.type_list_append mt_append (pe_ix ix_D (pv 4) pe_int (fun _ _ => rfl)) (pa_cons pe_int pa_nil)))
      (pss_one (ps_ret (pe_and (pe_cmpR op_leD (pe_callB Cr.call_lenD (by rfl) B.len (by decide +kernel) (pa_cons (pe_ix ix_D (pv 4) pe_int (fun _ _ => rfl)) pa_nil)) (pe_op op_addD (pv 5) pe_int) (nomark _)) (pe_one (pe_cmpR (op_eqDD hr.units) (pe_lst (pa_cons (pe_callB (Cr.call_reprD hg hr.units) (by rfl) B.repr (by decide +kernel) (pa_cons (pv 0) pa_nil)) (pa_cons (pe_callB (Cr.call_reprD hg hr.units) (by rfl) B.repr (by decide +kernel) (pa_cons (pv 1) pa_nil)) pa_nil))) (pv 3) (nomark _))))))))))))
theorem ok_law_caught (B : Bl mg) (kCountError : mg "CountError" = some (.ref (He.ga K "CountError"))) (kInvalidRun : mg "InvalidRun" = some (.ref (He.ga K "InvalidRun"))) (g_run_sum : HasX P w K mg base "run_sum" 6 P_run_sum (T_run_sum K)) (g_run_lesser : HasX P w K mg base "run_lesser" 6 P_run_lesser (T_run_lesser K)) (F : FunD K "_law_caught" "_law_caught" (defArgs s_law_caught) (defBody s_law_caught) (defScope s_law_caught) [] [] f fd) (gF : mg "_law_caught" = some (.ref f)) (m : Ok K N_law_caught T_law_caught (t_law_caught K)) : Has P w K mg base "_law_caught" 7 P_law_caught T_law_caught := by
  have len : ∀ ss m Q, T_law_caught ss m Q → ss.length = (P_law_caught).length := by
    intro ss m Q h
    repeat (obtain ⟨_, h⟩ := h)
    all_goals (subst_vars; rfl)
  refine has_ok F gF sc_law_caught len (fun _ _ _ _ _ _ us hl => match us, hl with | [_, _], _ => rfl) m fun cdv A outer s H hg hr => ?_
  exact (pss_cons (ps_set (i := 2) sc_law_caught.nd rfl (by first | exact Or.inl rfl | exact Or.inr rfl) pe_non)
      (pss_cons (ps_try_keep (i := 3) (j := 2) (tb := fun W => (tIfS (tTest (tOp (rD2 K REqR) (tVar 0) (tC (.int 0)))) (tDrop (tCallX W (SpX K (T_run_sum K)) (tCons (tOp (rD2 K RIx) (tVar 1) (tC (.int 0))) (tCons (tOp (rD2 K RIx) (tVar 1) (tC (.int 1))) tNil)))) (tDrop (tCallX W (SpX K (T_run_lesser K)) (tCons (tOp (rD2 K RIx) (tVar 1) (tC (.int 0))) (tCons (tOp (rD2 K RIx) (tVar 1) (tC (.int 1))) tNil)))))) rfl rfl rfl sc_law_caught.nd rfl rfl ⟨by rfl, by decide, .inl kCountError⟩ takes_no (fun W pn xe tk po => (pss_one (ps_if (pt_cmpR (op_eqDD hr.units) (pv 0) pe_int (nomark _)) (pss_one (ps_expr (pe_X g_run_sum tk hg (hr.mono (by decide)) (by rfl) (pa_cons (pe_ix ix_D (pv 1) pe_int (fun _ _ => rfl)) (pa_cons (pe_ix ix_D (pv 1) pe_int (fun _ _ => rfl)) pa_nil))))) (pss_one (ps_expr (pe_X g_run_lesser tk hg (hr.mono (by decide)) (by rfl) (pa_cons (pe_ix ix_D (pv 1) pe_int (fun _ _ => rfl)) (pa_cons (pe_ix ix_D (pv 1) pe_int (fun _ _ => rfl)) pa_nil)))))))) (fun a oe pn => pss_one (ps_set (i := 2) sc_law_caught.nd rfl (by first | exact Or.inl rfl | exact Or.inr rfl) (pv 3))))
      (pss_one (ps_ret (pe_ifExp (pt_val (pe_callB Cr.call_isxD (by rfl) B.isinstance (by decide +kernel) (pa_cons (pv 2) (pa_cons (pe_glob rfl kInvalidRun rfl) pa_nil)))) (pe_callB (Cr.call_reprD hg hr.units) (by rfl) B.repr (by decide +kernel) (pa_cons (pe_xval (pv 2)) pa_nil)) pe_str)))))
theorem ok_law (B : Bl mg) (g_law_generator : Has P w K mg base "_law_generator" 1 P_law_generator T_law_generator) (g_law_raw_run : Has P w K mg base "_law_raw_run" 4 P_law_raw_run T_law_raw_run) (g_law_random : Has P w K mg base "_law_random" 2 P_law_random T_law_random) (g_law_crossing : Has P w K mg base "_law_crossing" 4 P_law_crossing T_law_crossing) (g_law_made_least : Has P w K mg base "_law_made_least" 2 P_law_made_least T_law_made_least) (g_law_lesser_good : Has P w K mg base "_law_lesser_good" 7 P_law_lesser_good T_law_lesser_good) (g_law_sum_good : Has P w K mg base "_law_sum_good" 7 P_law_sum_good T_law_sum_good) (g_law_caught : Has P w K mg base "_law_caught" 7 P_law_caught T_law_caught) (g_run_lesser : HasX P w K mg base "run_lesser" 6 P_run_lesser (T_run_lesser K)) (g_run_sum : HasX P w K mg base "run_sum" 6 P_run_sum (T_run_sum K)) (gk_run_sum_other_one : HasXK P w K mg base "run_sum" 6 P_run_sum ["other", "one"] [1, 0] (T_run_sum K)) (F : FunD K "law" "law" (defArgs s_law) (defBody s_law) (defScope s_law) [] [] f fd) (gF : mg "law" = some (.ref f)) (m : Ok K N_law T_law (t_law K)) : FnG P w K mg base 8 f fd P_law (SpD K T_law) := by
  have len : ∀ ss m Q, T_law ss m Q → ss.length = (P_law).length := by
    intro ss m Q h
    repeat (obtain ⟨_, h⟩ := h)
    all_goals (subst_vars; rfl)
  refine fnG_ok F sc_law len m fun cdv A outer s H hg hr => ?_
  exact (pss_cons (ps_for PassesOwn.never rfl (pi_range1 (by rfl) B.range (pa_cons pe_int pa_nil)) (pg_name (i := 1) sc_law.nd rfl (by first | exact Or.inl rfl | exact Or.inr rfl)) (pss_cons (ps_set (i := 2) sc_law.nd rfl (by first | exact Or.inl rfl | exact Or.inr rfl) (pe_U g_law_generator hg (hr.mono (by decide)) (by rfl) (pa_cons (pv 0) (pa_cons (pv 1) pa_nil))))
      (pss_cons (ps_set (i := 3) sc_law.nd rfl (by first | exact Or.inl rfl | exact Or.inr rfl) (pe_lst (pa_cons (pe_U g_law_raw_run hg (hr.mono (by decide)) (by rfl) (pa_cons (pv 2) (pa_cons pe_int pa_nil))) (pa_cons (pe_U g_law_raw_run hg (hr.mono (by decide)) (by rfl) (pa_cons (pv 2) (pa_cons pe_int pa_nil))) pa_nil))))
      (pss_cons (ps_if (pt_cmpR (op_eqDD hr.units) (pe_U g_law_random hg (hr.mono (by decide)) (by rfl) (pa_cons (pv 2) (pa_cons pe_int pa_nil))) pe_int (nomark _)) (pss_one (ps_set (i := 3) sc_law.nd rfl (by first | exact Or.inl rfl | exact Or.inr rfl) (pe_U g_law_crossing hg (hr.mono (by decide)) (by rfl) (pa_cons (pv 2) pa_nil)))) pss_nil)
      (pss_cons (ps_par (i := 4) (j := 5) rfl sc_law.nd rfl rfl (by decide) rfl rfl (pa_cons (pe_U g_law_made_least hg (hr.mono (by decide)) (by rfl) (pa_cons (pe_ix ix_D (pv 3) pe_int (fun _ _ => rfl)) pa_nil)) (pa_cons (pe_U g_law_made_least hg (hr.mono (by decide)) (by rfl) (pa_cons (pe_ix ix_D (pv 3) pe_int (fun _ _ => rfl)) pa_nil)) pa_nil)) rfl)
      (pss_cons (ps_set (i := 6) sc_law.nd rfl (by first | exact Or.inl rfl | exact Or.inr rfl) (pe_op op_addD (pe_op op_powD pe_int pe_int) (pe_U g_law_random hg (hr.mono (by decide)) (by rfl) (pa_cons (pv 2) (pa_cons (pe_op op_powD pe_int pe_int) pa_nil)))))
      (pss_cons (ps_if (PW.pt (pw_or (pt_not (pt_val (pe_U g_law_lesser_good hg (hr.mono (by decide)) (by rfl) (pa_cons (pv 4) (pa_cons (pv 5) (pa_cons (pv 6) pa_nil)))))) (pw_or1 (pt_not (pt_val (pe_U g_law_sum_good hg (hr.mono (by decide)) (by rfl) (pa_cons (pv 4) (pa_cons (pv 5) (pa_cons (pv 6) pa_nil))))))))) (pss_one (ps_ret pe_bl)) pss_nil)
      (pss_cons (ps_if (PW.pt (pw_or (pt_not (pt_val (pe_U g_law_lesser_good hg (hr.mono (by decide)) (by rfl) (pa_cons (pv 4) (pa_cons (pv 4) (pa_cons (pv 6) pa_nil)))))) (pw_or1 (pt_not (pt_val (pe_U g_law_lesser_good hg (hr.mono (by decide)) (by rfl) (pa_cons (pv 4) (pa_cons (pe_tup (pa_cons (pe_lst pa_nil) (pa_cons pe_non (pa_cons pe_int pa_nil)))) (pa_cons (pv 6) pa_nil))))))))) (pss_one (ps_ret pe_bl)) pss_nil)
      (pss_one (ps_if (pt_not (pt_val (pe_U g_law_sum_good hg (hr.mono (by decide)) (by rfl) (pa_cons (pv 4) (pa_cons (pe_tup (pa_cons (pe_lst pa_nil) (pa_cons pe_int (pa_cons pe_int pa_nil)))) (pa_cons (pv 6) pa_nil)))))) (pss_one (ps_ret pe_bl)) pss_nil))))))))))
      (pss_cons (ps_for PassesOwn.never rfl (pi_D (pe_lst (pa_cons pe_non (pa_cons pe_int (pa_cons (pe_tup (pa_cons (pe_lst (pa_cons pe_int pa_nil)) (pa_cons pe_int (pa_cons pe_int pa_nil)))) (pa_cons (pe_tup (pa_cons (pe_lst pa_nil) (pa_cons pe_non (pa_cons pe_int pa_nil)))) (pa_cons (pe_lst (pa_cons (pe_lst pa_nil) (pa_cons pe_int (pa_cons pe_int pa_nil)))) (pa_cons (pe_tup (pa_cons (pe_lst (pa_cons pe_bl pa_nil)) (pa_cons pe_int (pa_cons pe_int pa_nil)))) (pa_cons (pe_tup (pa_cons (pe_lst pa_nil) (pa_cons pe_int pa_nil))) pa_nil))))))))) (pg_name (i := 7) sc_law.nd rfl (by first | exact Or.inl rfl | exact Or.inr rfl)) (pss_one (ps_for PassesOwn.never rfl (pi_range1 (by rfl) B.range (pa_cons pe_int pa_nil)) (pg_name (i := 8) sc_law.nd rfl (by first | exact Or.inl rfl | exact Or.inr rfl)) (pss_one (ps_if (PW.pt (pw_or (pt_cmpR (op_neDD hr.units) (pe_U g_law_caught hg (hr.mono (by decide)) (by rfl) (pa_cons (pv 8) (pa_cons (pe_lst (pa_cons (pv 7) (pa_cons pe_non pa_nil))) pa_nil))) (pe_callB (Cr.call_reprD hg hr.units) (by rfl) B.repr (by decide +kernel) (pa_cons (pv 7) pa_nil)) (nomark _)) (pw_or1 (pt_cmpR (op_neDD hr.units) (pe_U g_law_caught hg (hr.mono (by decide)) (by rfl) (pa_cons (pv 8) (pa_cons (pe_lst (pa_cons (pe_tup (pa_cons (pe_lst pa_nil) (pa_cons pe_int (pa_cons pe_int pa_nil)))) (pa_cons (pv 7) pa_nil))) pa_nil))) (pe_callB (Cr.call_reprD hg hr.units) (by rfl) B.repr (by decide +kernel) (pa_cons (pv 7) pa_nil)) (nomark _))))) (pss_one (ps_ret pe_bl)) pss_nil)))))
      (pss_cons (ps_if (pt_not (pt_val (pe_U g_law_lesser_good hg (hr.mono (by decide)) (by rfl) (pa_cons (pe_tup (pa_cons (pe_lst (pa_cons pe_int pa_nil)) (pa_cons pe_int (pa_cons pe_int pa_nil)))) (pa_cons (pe_tup (pa_cons (pe_lst pa_nil) (pa_cons pe_int (pa_cons pe_int pa_nil)))) (pa_cons (pe_op op_powD pe_int pe_int) pa_nil)))))) (pss_one (ps_ret pe_bl)) pss_nil)
      (pss_cons (ps_if (PW.pt (pw_or (pt_not (pt_val (pe_U g_law_lesser_good hg (hr.mono (by decide)) (by rfl) (pa_cons (pe_tup (pa_cons (pe_lst pa_nil) (pa_cons pe_int (pa_cons pe_int pa_nil)))) (pa_cons (pe_tup (pa_cons (pe_lst pa_nil) (pa_cons pe_int (pa_cons pe_int pa_nil)))) (pa_cons (pe_op op_powD pe_int pe_int) pa_nil)))))) (pw_or1 (pt_not (pt_val (pe_U g_law_lesser_good hg (hr.mono (by decide)) (by rfl) (pa_cons (pe_tup (pa_cons (pe_lst pa_nil) (pa_cons pe_int (pa_cons pe_int pa_nil)))) (pa_cons (pe_tup (pa_cons (pe_lst pa_nil) (pa_cons pe_int (pa_cons pe_int pa_nil)))) (pa_cons (pe_op op_powD pe_int pe_int) pa_nil))))))))) (pss_one (ps_ret pe_bl)) pss_nil)
      (pss_cons (ps_set (i := 9) sc_law.nd rfl (by first | exact Or.inl rfl | exact Or.inr rfl) (pe_lst (pa_cons (pe_X g_run_sum takes_no hg (hr.mono (by decide)) (by rfl) (pa_cons (pe_tup (pa_cons (pe_lst (pa_cons pe_int pa_nil)) (pa_cons pe_int (pa_cons pe_int pa_nil)))) (pa_cons (pe_tup (pa_cons (pe_lst pa_nil) (pa_cons pe_int (pa_cons pe_int pa_nil)))) pa_nil))) (pa_cons (pe_XK gk_run_sum_other_one takes_no hg (hr.mono (by decide)) (by rfl) (pk_cons (pe_tup (pa_cons (pe_lst (pa_cons pe_non pa_nil)) (pa_cons pe_int (pa_cons pe_int pa_nil)))) (pk_cons (pe_tup (pa_cons (pe_lst pa_nil) (pa_cons pe_non (pa_cons pe_int pa_nil)))) pk_nil))) (pa_cons (pe_X g_run_lesser takes_no hg (hr.mono (by decide)) (by rfl) (pa_cons (pe_tup (pa_cons (pe_lst pa_nil) (pa_cons pe_int (pa_cons pe_int pa_nil)))) (pa_cons (pe_tup (pa_cons (pe_lst pa_nil) (pa_cons pe_int (pa_cons pe_int pa_nil)))) pa_nil))) pa_nil)))))
      (pss_one (ps_ret (pe_cmpR (op_eqDD hr.units) (pe_callB (Cr.call_reprD hg hr.units) (by rfl) B.repr (by decide +kernel) (pa_cons (pv 9) pa_nil)) (pe_callB (Cr.call_reprD hg hr.units) (by rfl) B.repr (by decide +kernel) (pa_cons (pe_lst (pa_cons (pe_tup (pa_cons (pe_lst (pa_cons pe_int pa_nil)) (pa_cons pe_int (pa_cons pe_int pa_nil)))) (pa_cons (pe_tup (pa_cons (pe_lst pa_nil) (pa_cons pe_non (pa_cons pe_int pa_nil)))) (pa_cons (pe_tup (pa_cons (pe_lst (pa_cons pe_int (pa_cons pe_int (pa_cons pe_int pa_nil)))) (pa_cons pe_int (pa_cons pe_int pa_nil)))) pa_nil)))) pa_nil)) (nomark _)))))))))
end
end L29

namespace L29
open PySem PySem.Spec PyProof.Rows L2 Cr
local macro_rules | `(tactic| walk_at "w") => `(tactic| first
  | with_reducible refine ws_seq ?_ | with_reducible refine ws_asg ?_ | with_reducible refine ws_ret ?_ | with_reducible refine ws_retN ?_ | with_reducible refine ws_drop ?_ | with_reducible refine ws_if ?_
  | with_reducible refine ws_next ?_ | with_reducible refine ws_par ?_ | with_reducible refine ws_par3 ?_
  | with_reducible refine we_int ?_ | with_reducible refine we_str ?_ | with_reducible refine we_bl ?_ | with_reducible refine we_non ?_ | with_reducible refine we_op ?_ | with_reducible refine we_un ?_
  | with_reducible refine we_cb ?_ | with_reducible refine we_if ?_ | with_reducible refine we_tup ?_ | with_reducible refine we_call ?_ | with_reducible refine wa_cons ?_ | with_reducible refine wa_nil ?_
  | with_reducible refine wt_val ?_ | with_reducible refine wt_test ?_ | with_reducible refine wt_and ?_ | with_reducible refine wt_or ?_ | with_reducible refine wt_not ?_ | with_reducible refine wt_yes ?_
  | with_reducible refine we_andV ?_ | with_reducible refine we_orV ?_ | with_reducible refine we_notV ?_ | with_reducible refine we_chain ?_ | with_reducible refine we_slice ?_ | with_reducible refine wo_none ?_ | with_reducible refine wo_some ?_
  | with_reducible refine we_bits ?_ | refine we_var (by rfl) ?_)
local macro_rules | `(tactic| walk_at "i2") => `(tactic| refine ⟨_, _, _, rfl, rfl, .int _ _, ?_⟩)
local macro_rules | `(tactic| walk_at "in") => `(tactic| refine ⟨_, _, rfl, .int _, ?_⟩)
local macro_rules | `(tactic| walk_at "n") => `(tactic| simp only [List.set_cons_succ, List.set_cons_zero])

open Ru (Wo Rn fD rD back worthD areD slopeD runB lastOk valR short shortG pw RunQ)
open Ge
open Me (LeO endN nD)
open Le (les sumN lesW sumW slopeE lesR sumR)
theorem m_law_hash {K : PySem.W.Frag} : Ok K N_law_hash T_law_hash (t_law_hash K) := Ge.m_law_hash
theorem m_law_random {K : PySem.W.Frag} : Ok K N_law_random T_law_random (t_law_random K) := Cr.m_law_random
theorem m_law_generator {K : PySem.W.Frag} : Ok K N_law_generator T_law_generator (t_law_generator K) := Ge.m_law_generator
theorem m_is_worth {K : PySem.W.Frag} : Ok K N_is_worth T_is_worth (t_is_worth K) := Ru.m_is_worth
theorem m_are_worths {K : PySem.W.Frag} : Ok K N_are_worths T_are_worths (t_are_worths K) := Ru.m_are_worths
theorem m_is_slope {K : PySem.W.Frag} : Ok K N_is_slope T_is_slope (t_is_slope K) := Ru.m_is_slope
theorem m_step_back {K : PySem.W.Frag} : Ok K N_step_back T_step_back (t_step_back K) := Ru.m_step_back
theorem m_is_run {K : PySem.W.Frag} : Ok K N_is_run T_is_run (t_is_run K) := Ru.m_is_run
theorem m_value_of {K : PySem.W.Frag} : Ok K N_value_of T_value_of (t_value_of K) := Ru.m_value_of
theorem m_check_run {K : PySem.W.Frag} : OkX K N_check_run (T_check_run K) (t_check_run K) := Ru.m_check_run
theorem m_shortened {K : PySem.W.Frag} : Ok K N_shortened T_shortened (t_shortened K) := Ru.m_shortened
theorem m_sum_of {K : PySem.W.Frag} : Ok K N_sum_of T_sum_of (t_sum_of K) := Le.m_sum_of
theorem m_lesser_of {K : PySem.W.Frag} : Ok K N_lesser_of T_lesser_of (t_lesser_of K) := Le.m_lesser_of
theorem m_ending_slope {K : PySem.W.Frag} : Ok K N_ending_slope T_ending_slope (t_ending_slope K) := Le.m_ending_slope
theorem m_crossing {K : PySem.W.Frag} : Ok K N_crossing T_crossing (t_crossing K) := Le.m_crossing
theorem m_run_sum {K : PySem.W.Frag} : OkX K N_run_sum (T_run_sum K) (t_run_sum K) := Le.m_run_sum
theorem m_run_lesser {K : PySem.W.Frag} : OkX K N_run_lesser (T_run_lesser K) (t_run_lesser K) := Le.m_run_lesser
theorem m_law_worth {K : PySem.W.Frag} : Ok K N_law_worth T_law_worth (t_law_worth K) := by
  rintro ss m Q ⟨g, n, rfl, hG, q⟩
  unfold t_law_worth
  refine ws_seq (ws_asg (we_rndC (n + 1) rfl hG (by decide) (by decide) fun v m1 v0 v1 hG1 hF1 => ?_))
  refine ws_seq (wsIf (wt_eqI rfl) (fun _ => ws_ret (we_non (q none m1 (fun i e => by cases e) (hG1.mono (by omega)) hF1))) fun _ => ws_next (ws_ret ?_))
  refine weIf (b := decide (v < 5)) (wt_test (we_op (we_var rfl (we_int ⟨_, _, _, rfl, rfl, .int _ _, _, rfl, rfl, rfl⟩)))) (fun _ => ?_) fun _ => ?_
  · refine we_op (we_rndC n rfl hG1 (by decide) (by decide) fun u m2 u0 u1 hG2 hF2 => we_int ⟨_, _, _, rfl, rfl, .int _ _, ?_⟩)
    exact q (some (u - 3)) m2 (fun i e => by cases e; exact Nat.le_trans (show (u - 3).natAbs ≤ 10 by omega) (by decide +kernel)) hG2 (hF1.trans hF2)
  · refine we_op (we_rnd (b := 2 * 10 ^ 29) n rfl ?_ hG1 (by decide) (by decide) fun u m2 u0 u1 hG2 hF2 => we_op (we_int (we_int ⟨_, _, _, rfl, rfl, .int (by decide) (by decide), _, _, _, rfl, rfl, .int _ _, ?_⟩)))
    · exact we_op (we_int (we_op (we_int (we_int ⟨_, _, _, rfl, rfl, .int (by decide) (by decide), _, _, _, rfl, rfl, .int (by decide +kernel), rfl, rfl⟩))))
    · refine q (some (u - 10 ^ 29)) m2 (fun i e => ?_) hG2 (hF1.trans hF2)
      cases e
      omega
def bk (s : Wo) (l : Int) (j : Nat) : Wo := s.map fun a => a - (j : Int) * l
def ln (s : Wo) (l : Int) : Nat → List Wo
  | 0 => [s]
  | j + 1 => bk s l (j + 1) :: ln s l j
theorem ln_head (s : Wo) (l : Int) (j : Nat) : (ln s l j)[0]? = some (bk s l j) := by
  cases j with
  | zero => cases s <;> simp [ln, bk]
  | succ j => rfl
theorem ln_len (s : Wo) (l : Int) : ∀ j, (ln s l j).length = j + 1
  | 0 => rfl
  | j + 1 => by show (ln s l j).length + 1 = _; rw [ln_len s l j]
theorem bk_back (s : Wo) (l : Int) (j : Nat) : back (bk s l j) l = bk s l (j + 1) := by
  cases s with
  | none => rfl
  | some a =>
    show some (a - (j : Int) * l - l) = some (a - ((j + 1 : Nat) : Int) * l)
    congr 1
    rw [Int.natCast_add, Int.add_mul]
    simp
    omega
theorem ln_mem {s : Wo} {l : Int} : ∀ {j : Nat} {o : Wo}, o ∈ ln s l j → ∃ i, i ≤ j ∧ o = bk s l i
  | 0, o, h => by
    rw [List.mem_singleton.mp h]
    exact ⟨0, Nat.le_refl _, by cases s <;> simp [bk]⟩
  | j + 1, o, h => by
    rcases List.mem_cons.mp h with e | e
    · exact ⟨j + 1, Nat.le_refl _, e⟩
    · obtain ⟨i, h1, h2⟩ := ln_mem e
      exact ⟨i, by omega, h2⟩
theorem cut_last (ds : List D) : cutD ds none (some (-1)) = ds.dropLast := by
  unfold Cr.cutD
  have e : HT.sIx ds.length ds.length (some (-1)) = ds.length - 1 := by
    show (if (-1 : Int) < 0 then ((-1 : Int) + (ds.length : Int)).toNat else min (-1 : Int).toNat ds.length) = _
    rw [if_pos (by decide)]
    omega
  rw [e, HT.sIx_none, List.drop_zero, Nat.sub_zero, List.dropLast_eq_take]
theorem bk_sm {s : Wo} {l : Int} {i : Nat} (hs : ∀ a, s = some a → a.natAbs ≤ 10 ^ 29) (hl : l.natAbs ≤ 10 ^ 21) (hi : i ≤ 3) : wsm (bk s l i) := fun x e => by
  cases s with
  | none => cases e
  | some a =>
    cases e
    have h1 := hs a rfl
    have h2 : ((i : Int) * l).natAbs ≤ 3 * 10 ^ 21 := by rw [Int.natAbs_mul]; exact Nat.mul_le_mul (by omega) hl
    show (a - (i : Int) * l).natAbs ≤ 10 ^ 30
    omega
def rawRest (K : PySem.W.Frag) : TS := (tSeq (tPar 4 5 (tCons (tLst tNil) (tCons (tLst (tCons (tVar 2) tNil)) tNil))) (tSeq (tFor (iRng1 (tCons (tCall (SpD K T_law_random) [] E0 (tCons (tVar 0) (tCons (tC (.int 4)) tNil))) tNil)) (gName 6) (tAsg (tOp (rD2 K RAdd) (tLst (tCons (tCall (SpD K T_law_back) [] E0 (tCons (tOp (rD2 K RIx) (tVar 5) (tC (.int 0))) (tCons (tVar 3) tNil))) tNil)) (tVar 5)) (gName 5))) (tSeq (tFor (iRng1 (tCons (tCall (SpD K T_law_random) [] E0 (tCons (tVar 0) (tCons (tVar 1) tNil))) tNil)) (gName 6) (tDrop (tBM K "list" rAppend (tVar 4) (tCons (tCall (SpD K T_law_worth) [] E0 (tCons (tVar 0) tNil)) tNil)))) (tRet (tTup (tCons (tOp (rD2 K RAdd) (tVar 4) (tSl (rSlD K) (tVar 5) tNoPart (tPart (tUn (rD1 K RNeg) (tC (.int 1)))))) (tCons (tVar 2) (tCons (tVar 3) tNil))))))))
theorem m_law_raw_run {K : PySem.W.Frag} : Ok K N_law_raw_run T_law_raw_run (t_law_raw_run K) := by
  rintro ss m Q ⟨g, n, k, rfl, k0, k6, hG, q⟩
  unfold t_law_raw_run
  refine ws_seq (ws_par (wa_cons (we_call (wa_cons (we_var rfl (wa_nil ⟨g, n + 38, rfl, hG, fun s m1 hs hG1 hF1 => wa_cons (we_op (we_rndC (n + 37) rfl hG1 (by decide) (by decide) fun v m2 v0 v1 hG2 hF2 => we_int ⟨_, _, _, rfl, rfl, .int _ _, wa_nil ⟨_, _, rfl, ?_⟩⟩))⟩))))))
  show WS K _ [some (.adr g), some (.val (.int k)), some (.val (hiD s)), some (.val (.int (v - 3))), none, none, none] m2 _ _
  have main : ∀ (l : Int) (m3 : Sto), l.natAbs ≤ 10 ^ 21 → (s.isSome = true ∨ l = 0) → GenI m3 g (n + 30) → Fr m m3 g → WS K (dom m) [some (.adr g), some (.val (.int k)), some (.val (hiD s)), some (.val (.int l)), none, none, none] m3
      (rawRest K) { nx := fun _ m' => Q (.val .non) m', rt := Q } := by
    intro l m3 hl hls hG3 hF3
    unfold rawRest
    refine ws_seq (ws_par (wa_cons (we_lstO (wa_nil ⟨[], rfl, by decide, fun p hp => wa_cons (we_lst (wa_cons (we_var rfl (wa_nil ⟨[hiD s], rfl, by show 1 ≤ 100000; decide, wa_nil ⟨_, _, rfl, ?_⟩⟩))))⟩))))
    show WS K _ [some (.adr g), some (.val (.int k)), some (.val (hiD s)), some (.val (.int l)), some (.adr p), some (.val (fD (ln s l 0))), none] _ _ _
    have gp := hG3.ne hp
    have hp0 : m p = none := by rw [← hF3 p gp.symm]; exact hp
    -- the line
    refine ws_seq (ws_for [6] (wi_rng1 (wa_cons (we_rndC (n + 29) rfl (hG3.other gp) (by decide) (by decide) fun u m4 u0 u1 hG4 hF4 => wa_nil ⟨u, rfl, by omega, by omega, fun i r' m' => m' = m4 ∧ ∃ z, r' = [some (.adr g), some (.val (.int k)), some (.val (hiD s)), some (.val (.int l)), some (.adr p), some (.val (fD (ln s l i))), z], ⟨rfl, _, rfl⟩, ?_, ?_⟩))))
    · rintro i d r' m' hd ⟨rfl, z, rfl⟩
      have hi := (List.getElem?_eq_some_iff.mp hd).1
      rw [rng_len] at hi
      refine wg_name ?_
      refine ws_asg (we_op (we_lst (wa_cons (we_call (wa_cons (we_op (we_var rfl (we_int ⟨_, _, _, rfl, rfl, .lst (d := hiD (bk s l i)) (atI_nat0 (by rw [List.getElem?_map, ln_head]; rfl)), wa_cons (we_var rfl (wa_nil ⟨bk s l i, l, rfl, wa_nil ⟨[hiD (back (bk s l i) l)], rfl, by show 1 ≤ 100000; decide, ?_⟩⟩))⟩))))))))
      refine we_var rfl ⟨_, _, _, rfl, rfl, .lst (by rw [List.length_map, ln_len]; show 1 + (i + 1) ≤ 100000; omega), rfl, some (.val d), ?_⟩
      rw [bk_back]
      rfl
    rintro r' m' ⟨rfl, z, rfl⟩
    rw [rng_len]
    have hu : u.toNat ≤ 3 := by omega
    generalize u.toNat = ku at hu
    -- the rest
    have hm4p : m' p = some [] := by rw [hF4 p gp.symm, stS_same]
    have hF04 : ∀ q, q ≠ g → q ≠ p → m' q = m q := fun q h1 h2 => by rw [hF4 q h1, stS_ne h2, hF3 q h1]
    refine ws_seq (ws_for [6] (wi_rng1 (wa_cons (we_rnd (b := k) (n + 28) rfl (we_var rfl ⟨rfl, rfl⟩) hG4 (by omega) (by omega) fun u2 m5 w0 w1 hG5 hF5 => wa_nil ⟨u2, rfl, by omega, by omega, fun i r' m' => ∃ (fs : List Wo) (z : Option Sv), r' = [some (.adr g), some (.val (.int k)), some (.val (hiD s)), some (.val (.int l)), some (.adr p), some (.val (fD (ln s l ku))), z] ∧
      m' p = some (fs.map hiD) ∧ fs.length = i ∧ (∀ o ∈ fs, wsm o) ∧ GenI m' g (n + 2 * (6 - i)) ∧ ∀ q, q ≠ g → q ≠ p → m' q = m q, ?_, ?_, ?_⟩))))
    · exact ⟨[], z, rfl, by rw [hF5 p gp.symm, hm4p]; rfl, rfl, (fun o ho => by cases ho), hG5.mono (by omega), fun q h1 h2 => by rw [hF5 q h1, hF04 q h1 h2]⟩
    · rintro i d r' m6 hd ⟨fs, z, rfl, hmp, hfl, hfs, hGi, hFi⟩
      have hi := (List.getElem?_eq_some_iff.mp hd).1
      rw [rng_len] at hi
      have hi6 : i < 6 := by omega
      refine wg_name ?_
      have e6 : n + 2 * (6 - i) = (n + 2 * (6 - (i + 1))) + 2 := by omega
      rw [e6] at hGi
      refine ws_app (we_var rfl ⟨p, _, rfl, hmp, we_call (wa_cons (we_var rfl (wa_nil ⟨g, n + 2 * (6 - (i + 1)), rfl, hGi, fun o m7 ho hG7 hF7 => ⟨hiD o, fs.map hiD, rfl, by rw [hF7 p gp.symm]; exact hmp, by rw [List.length_map]; omega, ?_⟩⟩)))⟩)
      have e4 : fs.map hiD ++ [hiD o] = (fs ++ [o]).map hiD := by rw [List.map_append]; rfl
      rw [e4]
      refine ⟨fs ++ [o], _, rfl, stS_same, by rw [List.length_append, hfl]; rfl, fun x hx => ?_, hG7.other gp, fun q h1 h2 => by rw [stS_ne h2, hF7 q h1, hFi q h1 h2]⟩
      rcases List.mem_append.mp hx with h | h
      · exact hfs x h
      · rw [List.mem_singleton.mp h]
        exact fun j e => Nat.le_trans (ho j e) (by decide +kernel)
    · rintro r' m6 ⟨fs, z, rfl, hmp, hfl, hfs, hGi, hFi⟩
      rw [rng_len] at hfl hGi
      refine ws_frz (p := p) hmp (dom_none.mpr hp0) ?_
      have er : ([some (.adr g), some (.val (.int k)), some (.val (hiD s)), some (.val (.int l)), some (.adr p), some (.val (fD (ln s l ku))), z] : Ro).map (frzS p (fs.map hiD)) = [some (.adr g), some (.val (.int k)), some (.val (hiD s)), some (.val (.int l)), some (.val (fD fs)), some (.val (fD (ln s l ku))), frzS p (fs.map hiD) z] := by
        simp only [List.map_cons, List.map_nil, frzS, if_pos, if_neg gp]
      rw [er]
      refine ws_ret (we_tup (wa_cons (we_op (we_var rfl (we_slice (we_var rfl (wo_none (wo_some (we_un (we_int ⟨_, _, rfl, .int _, _, rfl, _, _, rfl, .lst _ _ _, ?_⟩)))))))))) 
      refine ⟨_, _, _, rfl, rfl, .lst ?_, wa_cons (we_var rfl (wa_cons (we_var rfl (wa_nil ⟨[.lst (fs.map hiD ++ cutD ((ln s l ku).map hiD) none (some (-1))), hiD s, .int l], rfl, by show 3 ≤ 100000; decide, ?_⟩))))⟩
      · rw [cut_last, List.length_map, List.length_dropLast, List.length_map, ln_len]
        show _ ≤ 100000
        omega
      · have e5 : fs.map hiD ++ cutD ((ln s l ku).map hiD) none (some (-1)) = (fs ++ (ln s l ku).dropLast).map hiD := by rw [cut_last, List.map_append, List.map_dropLast]
        rw [e5]
        refine q ⟨fs ++ (ln s l ku).dropLast, s, l⟩ _ ⟨?_, fun o ho => ?_, fun i e => Nat.le_trans (hs i e) (by decide +kernel), hl, hls⟩ ((hGi.mono (by omega)).del gp) fun q hq => ?_
        · show (fs ++ (ln s l ku).dropLast).length ≤ 8
          rw [List.length_append, List.length_dropLast, ln_len]
          omega
        · rcases List.mem_append.mp ho with h | h
          · exact hfs o h
          · obtain ⟨i, h1, rfl⟩ := ln_mem ((List.dropLast_sublist _).subset h)
            exact bk_sm hs hl (by omega)
        · unfold stD
          by_cases h : q = p
          · rw [if_pos h, h, hp0]
          · rw [if_neg h, hFi q hq h]
  -- the slope
  have stepN : ∀ (l : Int) (m3 : Sto), l.natAbs ≤ 10 ^ 21 → GenI m3 g (n + 30) → Fr m m3 g → WS K (dom m) [some (.adr g), some (.val (.int k)), some (.val (hiD s)), some (.val (.int l)), none, none, none] m3 (tSeq (tIfS (tTest (tOp (rD2 K RIsR) (tVar 2) (tC .non))) (tAsg (tC (.int 0)) (gName 3)) tNext) (rawRest K)) { nx := fun _ m' => Q (.val .non) m', rt := Q } := fun l m3 hl hG3 hF3 => by
    cases hs2 : s with
    | none =>
      refine ws_seq (wsIf (b := true) (wt_test (we_op (we_var rfl (we_non ⟨_, _, _, rfl, rfl, .mk (.non _), _, rfl, rfl, rfl⟩)))) (fun _ => ws_asg (we_int ?_)) (fun h => by cases h))
      have := main 0 m3 (by decide) (.inr rfl) hG3 hF3
      rw [hs2] at this
      exact this
    | some a =>
      refine ws_seq (wsIf (b := false) (wt_test (we_op (we_var rfl (we_non ⟨_, _, _, rfl, rfl, .mk (.non _), _, rfl, rfl, rfl⟩)))) (fun h => by cases h) fun _ => ws_next ?_)
      have := main l m3 hl (.inl (by rw [hs2]; rfl)) hG3 hF3
      rw [hs2] at this
      exact this
  refine ws_seq (ws_if (wt_test (we_op (we_rndC (n + 36) rfl hG2 (by decide) (by decide) fun u m3 u0 u1 hG3 hF3 => we_int ⟨_, _, _, rfl, rfl, .mk (.int _ _), _, rfl, ite_dec (fun _ => ?_) fun _ => ?_⟩))))
  · refine ws_asg (we_op (we_var rfl (we_op (we_rnd (b := 10 ^ 20) (n + 35) rfl (we_op (we_int (we_int ⟨_, _, _, rfl, rfl, .int (by decide) (by decide), rfl, rfl⟩))) hG3 (by decide) (by decide) fun w m4 w0 w1 hG4 hF4 => we_int ⟨_, _, _, rfl, rfl, .int _ _, _, _, _, rfl, rfl, .int (mulOk (B := 10 ^ 30) (C := 10 ^ 30) ?_ ?_ (by decide +kernel)), ?_⟩))))
    · exact Nat.le_trans (show (v - 3).natAbs ≤ 10 by omega) (by decide +kernel)
    · omega
    · refine stepN ((v - 3) * (w + 1)) m4 ?_ (hG4.mono (by omega)) (((hF1.trans hF2).trans hF3).trans hF4)
      rw [Int.natAbs_mul]
      have h1 : (v - 3).natAbs ≤ 3 := by omega
      have h2 : (w + 1).natAbs ≤ 10 ^ 20 := by omega
      have := Nat.mul_le_mul h1 h2
      omega
  · exact ws_next (stepN (v - 3) m3 (Nat.le_trans (show (v - 3).natAbs ≤ 10 by omega) (by decide +kernel)) (hG3.mono (by omega)) ((hF1.trans hF2).trans hF3))
theorem m_law_whole {K : PySem.W.Frag} : Ok K N_law_whole T_law_whole (t_law_whole K) := m_is_whole
theorem m_law_back {K : PySem.W.Frag} : Ok K N_law_back T_law_back (t_law_back K) := by
  rintro ss m Q ⟨s, l, rfl, q⟩
  unfold t_law_back
  cases s with
  | none => exact ws_ret (weIf (b := true) (wt_test (we_op (we_var rfl (we_non ⟨_, _, _, rfl, rfl, .mk (.non _), _, rfl, rfl, rfl⟩)))) (fun _ => we_non q) (fun h => by cases h))
  | some a => exact ws_ret (weIf (b := false) (wt_test (we_op (we_var rfl (we_non ⟨_, _, _, rfl, rfl, .mk (.non _), _, rfl, rfl, rfl⟩)))) (fun h => by cases h) fun _ => we_op (we_var rfl (we_var rfl ⟨_, _, _, rfl, rfl, .int _ _, q⟩)))
section
variable {K : PySem.W.Frag} {r : Ro} {m : Sto} {x : Rn} {i : Nat} {Q : Sv → Sto → Prop}
theorem we_r0 (hi : r[i]? = some (some (.val (rD x)))) (q : Q (.val (fD x.f)) m) : WE K r m (tOp (rD2 K RIx) (tVar i) (tC (.int 0))) Q := we_op (we_var hi (we_int ⟨_, _, _, rfl, rfl, .tup (d := fD x.f) rfl, q⟩))
theorem we_r1 (hi : r[i]? = some (some (.val (rD x)))) (q : Q (.val (hiD x.s)) m) : WE K r m (tOp (rD2 K RIx) (tVar i) (tC (.int 1))) Q := we_op (we_var hi (we_int ⟨_, _, _, rfl, rfl, .tup (d := hiD x.s) rfl, q⟩))
theorem we_r2 (hi : r[i]? = some (some (.val (rD x)))) (q : Q (.val (.int x.l)) m) : WE K r m (tOp (rD2 K RIx) (tVar i) (tC (.int 2))) Q := we_op (we_var hi (we_int ⟨_, _, _, rfl, rfl, .tup (d := .int x.l) rfl, q⟩))
end
theorem m_law_value {K : PySem.W.Frag} : Ok K N_law_value T_law_value (t_law_value K) := by
  rintro ss m Q ⟨x, n, rfl, hl, hn, q⟩
  unfold t_law_value
  refine ws_seq (wsIf (b := decide (n < x.f.length)) (wt_test (we_op (we_var rfl (we_cb (wa_cons (we_r0 (x := x) rfl (wa_nil ⟨_, _, rfl, .lst _, _, _, _, rfl, rfl, .int _ _, _, rfl, by simp, rfl⟩))))))) (fun h => ?_) fun h => ws_next ?_)
  · have h' : n < x.f.length := of_decide_eq_true h
    have e : x.f[n]? = some x.f[n] := List.getElem?_eq_getElem h'
    refine ws_ret (we_op (we_r0 (x := x) rfl (we_var rfl ⟨_, _, _, rfl, rfl, .lst (d := hiD x.f[n]) (Ru.atI_natE (by rw [List.getElem?_map, e]; rfl)), ?_⟩)))
    have e2 : valR x n = x.f[n] := by unfold valR; simp only [e]
    rw [e2] at q
    exact q
  · have h' : x.f.length ≤ n := by simpa using h
    have e2 : valR x n = x.s.map fun s => s + x.l * ((n : Int) - x.f.length) := by unfold valR; simp only [List.getElem?_eq_none h']
    rw [e2] at q
    cases hs : x.s with
    | none =>
      rw [hs] at q
      exact ws_ret (weIf (b := true) (wt_test (we_op (we_r1 (x := x) rfl (we_non ⟨_, _, _, rfl, rfl, .mk (.non _), _, rfl, by rw [hs]; rfl, rfl⟩)))) (fun _ => we_non q) (fun h => by cases h))
    | some a =>
      rw [hs] at q
      refine ws_ret (weIf (b := false) (wt_test (we_op (we_r1 (x := x) rfl (we_non ⟨_, _, _, rfl, rfl, .mk (.non _), _, rfl, by rw [hs]; rfl, rfl⟩)))) (fun h => by cases h) fun _ => ?_)
      refine we_op (we_r1 (x := x) rfl (we_op (we_r2 (x := x) rfl (we_op (we_var rfl (we_cb (wa_cons (we_r0 (x := x) rfl (wa_nil ⟨_, _, rfl, .lst _, _, _, _, rfl, rfl, .int _ _, _, _, _, rfl, rfl, .int (Ru.mul_sml hl ?_), .int a, _, _, by rw [hs]; rfl, rfl, .int _ _, ?_⟩)))))))))
      · rw [List.length_map]
        show ((n : Int) - (x.f.length : Int)).natAbs ≤ 10 ^ 400
        have : ((n : Int) - (x.f.length : Int)).natAbs ≤ n := by omega
        exact Nat.le_trans this hn
      · rw [List.length_map]
        exact q
theorem eqv_pw (a b : Wo) : PyData.eqv (pw a) (pw b) = decide (a = b) := by
  cases a <;> cases b <;> simp [pw, PyData.eqv] <;> rfl
theorem eqvAll_pw : ∀ f g : List Wo, PyData.eqvAll (f.map pw) (g.map pw) = decide (f = g)
  | [], [] => by simp [PyData.eqvAll]
  | [], _ :: _ => by simp [PyData.eqvAll]
  | _ :: _, [] => by simp [PyData.eqvAll]
  | a :: f, b :: g => by
    simp only [List.map_cons, PyData.eqvAll, eqv_pw, eqvAll_pw f g]
    by_cases h : a = b
    · by_cases h2 : f = g
      · simp [h, h2]
      · simp [h, h2]
    · simp [h]
theorem shaped_f (f : List Wo) : SeqAt.shaped (.list (f.map pw)) = true := by
  obtain ⟨h1, h2⟩ := Ru.canLay_f f
  unfold SeqAt.shaped
  rw [Bool.and_eq_true]
  exact ⟨by simpa only [PyData.canLay0] using h1, decide_eq_true (by simp only [PyData.depth]; omega)⟩
theorem reqL_w (f g : List Wo) : REq (fD f) (fD g) (decide (f = g)) := by
  have h := REq.deep (Ru.py_f f) (Ru.py_f g) (shaped_f f) (shaped_f g)
  rw [show PyData.eqv (.list (f.map pw)) (.list (g.map pw)) = decide (f = g) by simp only [PyData.eqv, eqvAll_pw]] at h
  exact h
theorem cut_lastf (ds : List D) : cutD ds (some (-1)) none = ds.drop (ds.length - 1) := by
  unfold Cr.cutD
  have e : HT.sIx ds.length 0 (some (-1)) = ds.length - 1 := by
    show (if (-1 : Int) < 0 then ((-1 : Int) + (ds.length : Int)).toNat else min (-1 : Int).toNat ds.length) = _
    rw [if_pos (by decide)]
    omega
  rw [e, HT.sIx_none, List.take_of_length_le (by rw [List.length_drop]; omega)]
theorem last_ok (f : List Wo) (b : Wo) : (!decide (f.drop (f.length - 1) = [b])) = (decide (f = []) || !decide (f.getLast? = some b)) := by
  rcases List.eq_nil_or_concat f with rfl | ⟨g, a, rfl⟩
  · rfl
  · rw [List.concat_eq_append]
    have h1 : (g ++ [a]).drop ((g ++ [a]).length - 1) = [a] := by
      rw [List.length_append, List.length_singleton, Nat.add_sub_cancel, List.drop_append_of_le_length (Nat.le_refl _), List.drop_length]
      rfl
    rw [h1, List.getLast?_concat]
    by_cases h : a = b
    · simp [h]
    · simp [h]
section
variable {K : PySem.W.Frag} {r : Ro} {m : Sto} {x : Rn} {i : Nat} {Q : Sv → Sto → Prop}
/-- run[0][-1:] -/
theorem we_rl (hi : r[i]? = some (some (.val (rD x)))) (q : Q (.val (fD (x.f.drop (x.f.length - 1)))) m) : WE K r m (tSl (rSlD K) (tOp (rD2 K RIx) (tVar i) (tC (.int 0))) (tPart (tUn (rD1 K RNeg) (tC (.int 1)))) tNoPart) Q := by
  refine we_slice (we_r0 hi (wo_some (we_un (we_int ⟨_, _, rfl, .int _, _, rfl, wo_none ⟨_, _, rfl, .lst _ _ _, ?_⟩⟩))))
  have : Rs.d (.l (cutD (x.f.map hiD) (some (-1)) none)) = fD (x.f.drop (x.f.length - 1)) := by
    show D.lst _ = D.lst _
    rw [cut_lastf, List.length_map, List.map_drop]
  rw [this]
  exact q
end
theorem m_law_is_least {K : PySem.W.Frag} : Ok K N_law_is_least T_law_is_least (t_law_is_least K) := by
  rintro ss m Q ⟨x, rfl, hl, q⟩
  unfold t_law_is_least
  have wh : ∀ {e : D} {te : TE}, (∀ {Q : Sv → Sto → Prop}, Q (.val e) m → WE K [some (.val (rD x)), none] m te Q) → Plain e → WT K [some (.val (rD x)), none] m (tNot (tB (tCall (SpD K T_law_whole) [] E0 (tCons te tNil)))) fun y m1 => y = (!wholeD e) ∧ m1 = m := fun h hp =>
    wtN (wt_val (we_call (wa_cons (h (wa_nil ⟨_, rfl, hp, _, rfl, rfl, rfl⟩)))))
  refine ws_seq (wsIf (b := false) (wtO (a := false) (b := false) (wtN (a := true) (wt_val (we_cb (wa_cons (we_var rfl (wa_cons (we_ty (wa_nil ⟨[rD x, .ty "tuple"], _, rfl, isi_tup rfl, true, rfl, rfl, rfl⟩)))))))) fun _ =>
    wtO (a := false) (b := false) (wt_test (we_op (we_cb (wa_cons (we_var rfl (wa_nil ⟨_, _, rfl, .tup _, we_int ⟨_, _, _, rfl, rfl, .mk (.int _ _), _, rfl, rfl, rfl⟩⟩)))))) fun _ =>
      wtN (a := true) (wt_val (we_cb (wa_cons (we_r0 (x := x) rfl (wa_cons (we_ty (wa_nil ⟨[fD x.f, .ty "list"], _, rfl, isi_lst rfl, true, rfl, rfl, rfl⟩)))))))) (fun h => by cases h) fun _ => ws_next ?_)
  refine ws_seq (wsIf (b := false) (wtO (a := false) (b := false) (wt_test (we_op (we_lc (js := [1]) (by decide) (wi_D (we_r0 (x := x) rfl ⟨false, x.f.map hiD, rfl, by rw [List.length_map]; exact hl, rfl, fun _ => false, fun d => d, fun d hd m' => ?_, ?_⟩))))) fun _ => (wh (fun q => we_r2 (x := x) rfl q) (plain_int _))) (fun h => by cases h) fun _ => ws_next ?_)
  · obtain ⟨o, _, rfl⟩ := List.mem_map.mp hd
    refine wg_name ?_
    have : WT K [some (.val (rD x)), some (.val (hiD o))] m' (tAnd (tTest (tOp (rD2 K RIsN) (tVar 1) (tC .non))) (tNot (tB (tCall (SpD K T_law_whole) [] E0 (tCons (tVar 1) tNil))))) fun y m1 => y = ((!(hiD o).isNon) && !wholeD (hiD o)) ∧ m1 = m' :=
      wtA (wt_test (we_op (we_var rfl (we_non ⟨_, _, _, rfl, rfl, .mk (.non _), _, rfl, rfl, rfl⟩)))) fun _ => wtN (wt_val (we_call (wa_cons (we_var rfl (wa_nil ⟨_, rfl, Ru.plain_w o, _, rfl, rfl, rfl⟩)))))
    refine this.imp fun y m1 ⟨h1, h2⟩ => ?_
    have e : ((!(hiD o).isNon) && !wholeD (hiD o)) = false := by cases o <;> rfl
    rw [e] at h1
    exact ⟨h1, h2, fun h => by rw [h1] at h; cases h⟩
  · rw [List.filter_eq_nil_iff.mpr (fun _ _ => Bool.false_ne_true)]
    exact we_lst (wa_nil ⟨[], rfl, by decide, _, _, _, rfl, rfl, .mk (req_nil []), _, rfl, rfl, rfl⟩)
  have eb := Ru.runB_r x
  cases hs : x.s with
  | none =>
    have h1 : ∀ {Q : Bool → Sto → Prop}, Q true m → WT K [some (.val (rD x)), none] m (tTest (tOp (rD2 K RIsR) (tOp (rD2 K RIx) (tVar 0) (tC (.int 1))) (tC .non))) Q := fun h => wt_test (we_op (we_r1 (x := x) rfl (we_non ⟨_, _, _, rfl, rfl, .mk (.non _), _, rfl, by rw [hs]; exact h⟩)))
    refine ws_seq (wsIf (b := true) (h1 ⟨rfl, rfl⟩) (fun _ => ws_ret (we_andV (we_op (we_r2 (x := x) rfl (we_int ⟨_, _, _, rfl, rfl, .mk (.int _ _), _, rfl, ite_dec (fun h => ?_) fun h => ?_⟩))))) (fun h => by cases h))
    · refine we_op (we_rl (x := x) rfl (we_lst (wa_cons (we_non (wa_nil ⟨[.non], rfl, by show 1 ≤ 100000; decide, _, _, _, rfl, rfl, .mk (reqL_w _ [none]), ?_⟩)))))
      have e : (!decide (x.f.drop (x.f.length - 1) = [none])) = runB (rD x) := by
        rw [eb, last_ok]
        unfold lastOk
        rw [hs, decide_eq_true h]
        rfl
      show Q (.val (.bl (!decide (x.f.drop (x.f.length - 1) = [none])))) m
      rw [e]
      exact q
    · have e : runB (rD x) = false := by rw [eb, hs, decide_eq_false h]; rfl
      rw [e] at q
      exact q
  | some a =>
    have h1 : ∀ {Q : Bool → Sto → Prop}, Q false m → WT K [some (.val (rD x)), none] m (tTest (tOp (rD2 K RIsR) (tOp (rD2 K RIx) (tVar 0) (tC (.int 1))) (tC .non))) Q := fun h => wt_test (we_op (we_r1 (x := x) rfl (we_non ⟨_, _, _, rfl, rfl, .mk (.non _), _, rfl, by rw [hs]; exact h⟩)))
    refine ws_seq (wsIf (b := false) (h1 ⟨rfl, rfl⟩) (fun h => by cases h) fun _ => ws_next (ws_ret (we_andV (we_call (wa_cons (we_r1 (x := x) rfl (wa_nil ⟨_, rfl, Ru.plain_w _, true, by rw [hs]; rfl, ?_⟩)))))))
    refine (if_pos rfl).mpr (we_op (we_rl (x := x) rfl (we_lst (wa_cons (we_op (we_r1 (x := x) rfl (we_r2 (x := x) rfl ⟨.int a, .int x.l, _, by rw [hs]; rfl, rfl, .int _ _, wa_nil ⟨[.int (a - x.l)], rfl, by show 1 ≤ 100000; decide, _, _, _, rfl, rfl, .mk (reqL_w _ [some (a - x.l)]), ?_⟩⟩)))))))
    have e : (!decide (x.f.drop (x.f.length - 1) = [some (a - x.l)])) = runB (rD x) := by
      rw [eb, last_ok]
      unfold lastOk
      rw [hs]
      rfl
    show Q (.val (.bl (!decide (x.f.drop (x.f.length - 1) = [some (a - x.l)])))) m
    rw [e]
    exact q
end L29

namespace L29
open PySem PySem.Spec PyProof.Rows L2 Cr
local macro_rules | `(tactic| walk_at "w") => `(tactic| first
  | with_reducible refine ws_seq ?_ | with_reducible refine ws_asg ?_ | with_reducible refine ws_ret ?_ | with_reducible refine ws_retN ?_ | with_reducible refine ws_drop ?_ | with_reducible refine ws_if ?_
  | with_reducible refine ws_next ?_ | with_reducible refine ws_par ?_ | with_reducible refine ws_par3 ?_
  | with_reducible refine we_int ?_ | with_reducible refine we_str ?_ | with_reducible refine we_bl ?_ | with_reducible refine we_non ?_ | with_reducible refine we_op ?_ | with_reducible refine we_un ?_
  | with_reducible refine we_cb ?_ | with_reducible refine we_if ?_ | with_reducible refine we_tup ?_ | with_reducible refine we_call ?_ | with_reducible refine wa_cons ?_ | with_reducible refine wa_nil ?_
  | with_reducible refine wt_val ?_ | with_reducible refine wt_test ?_ | with_reducible refine wt_and ?_ | with_reducible refine wt_or ?_ | with_reducible refine wt_not ?_ | with_reducible refine wt_yes ?_
  | with_reducible refine we_andV ?_ | with_reducible refine we_orV ?_ | with_reducible refine we_notV ?_ | with_reducible refine we_chain ?_ | with_reducible refine we_slice ?_ | with_reducible refine wo_none ?_ | with_reducible refine wo_some ?_
  | with_reducible refine we_bits ?_ | refine we_var (by rfl) ?_)
local macro_rules | `(tactic| walk_at "i2") => `(tactic| refine ⟨_, _, _, rfl, rfl, .int _ _, ?_⟩)
local macro_rules | `(tactic| walk_at "in") => `(tactic| refine ⟨_, _, rfl, .int _, ?_⟩)
local macro_rules | `(tactic| walk_at "n") => `(tactic| simp only [List.set_cons_succ, List.set_cons_zero])

open Ru (Wo Rn fD rD back worthD areD slopeD runB lastOk valR short shortG pw RunQ)
open Ge
open Me (LeO endN nD)
open Le (les sumN lesW sumW slopeE lesR sumR)
/-! ### texts of values -/
theorem ofS_inj {a b : String} (h : (Str.ofString a) = Str.ofString b) : a = b := by
  rw [Str.ofString_eq_toList, Str.ofString_eq_toList] at h
  injection h with h
  have h1 : a.toList.map Char.toNat = b.toList.map Char.toNat := by simpa using h
  have inj : ∀ x y : Char, x.toNat = y.toNat → x = y := fun x y e => Char.ext (UInt32.toNat_inj.mp e)
  have h2 : a.toList = b.toList := by
    generalize a.toList = l at h1
    generalize b.toList = k at h1
    induction l generalizing k with
    | nil => cases k with
      | nil => rfl
      | cons y k => cases h1
    | cons x l ih =>
      cases k with
      | nil => cases h1
      | cons y k =>
        simp only [List.map_cons, List.cons.injEq] at h1
        rw [inj x y h1.1, ih k h1.2]
  exact String.toList_inj.mp h2
theorem no_none (i : Int) : "None" ≠ toString i := fun e => by
  have e : "None" = Int.repr i := e
  have h : 'N' ∈ (Int.repr i).toList := by rw [← e]; decide
  cases i with
  | ofNat n =>
    have h : 'N' ∈ (Nat.repr n).toList := h
    rw [Nat.toList_repr] at h
    have := Nat.isDigit_of_mem_toDigits (by decide) (by decide) h
    revert this
    decide
  | negSucc n =>
    have h : 'N' ∈ ("-" ++ Nat.repr (n + 1)).toList := h
    rw [String.toList_append, List.mem_append] at h
    rcases h with h | h
    · revert h; decide
    · rw [Nat.toList_repr] at h
      have := Nat.isDigit_of_mem_toDigits (by decide) (by decide) h
      revert this
      decide
theorem sh_inj {a b : Wo} (h : (Ru.pw a).shown = (Ru.pw b).shown) : a = b := by
  have no : ∀ i : Int, ("None" : Str) ≠ Str.ofString (toString i) := fun i e => by
    exact no_none i (ofS_inj e)
  cases a with
  | none =>
    cases b with
    | none => rfl
    | some i =>
      rw [show Ru.pw none = PyData.none from rfl, show Ru.pw (some i) = PyData.int i from rfl, PyData.shown_none, PyData.shown_int] at h
      exact absurd h (no i)
  | some i =>
    cases b with
    | none =>
      rw [show Ru.pw none = PyData.none from rfl, show Ru.pw (some i) = PyData.int i from rfl, PyData.shown_none, PyData.shown_int] at h
      exact absurd h.symm (no i)
    | some j =>
      rw [show Ru.pw (some j) = PyData.int j from rfl, show Ru.pw (some i) = PyData.int i from rfl, PyData.shown_int, PyData.shown_int] at h
      have : toString i = toString j := ofS_inj h
      rw [Int.repr_inj.mp this]
def big (o : Wo) : Prop := ∀ i, o = some i → i.natAbs ≤ 10 ^ 400
theorem rrW {o : Wo} (h : big o) : RRepr [hiD o] (.v (.str (Ru.pw o).shown)) := by
  obtain ⟨p, h1, h2, h3, h4⟩ := (sh_w h).ex
  have e : p = Ru.pw o := by
    have : (hiD o).py = some (Ru.pw o) := by cases o <;> rfl
    rw [this] at h1
    exact (Option.some.inj h1).symm
  subst e
  exact .mk h1 h2 (by omega) (by rw [sizeLine_eq]; omega)
theorem dec_sh (a b : Wo) : decide ((Ru.pw a).shown = (Ru.pw b).shown) = decide (a = b) := by
  by_cases h : a = b
  · rw [decide_eq_true h, h, decide_eq_true rfl]
  · rw [decide_eq_false h, decide_eq_false fun z => h (sh_inj z)]
section
variable {K : PySem.W.Frag} {r : Ro} {m : Sto}
theorem we_reprEq {a b : Wo} {ta tb : TE} {Q : Sv → Sto → Prop} (ha : big a) (hb : big b) (h1 : ∀ {Q : Sv → Sto → Prop}, (∀ s, vw m s = some (hiD a) → Q s m) → WE K r m ta Q) (h2 : ∀ {Q : Sv → Sto → Prop}, (∀ s, vw m s = some (hiD b) → Q s m) → WE K r m tb Q) (q : Q (.val (.bl (decide (a = b)))) m) :
    WE K r m (tOp (rD2 K REqR) (tCB (rDN K RRepr) (tCons ta tNil)) (tCB (rDN K RRepr) (tCons tb tNil))) Q :=
  we_op (we_cb (wa_cons (h1 fun s hs => wa_nil ⟨[hiD a], _, by show [vw m s] = [some _]; rw [hs], rrW ha, we_cb (wa_cons (h2 fun s hs => wa_nil ⟨[hiD b], _, by show [vw m s] = [some _]; rw [hs], rrW hb, _, _, _, rfl, rfl, .mk (.str _ _), by rw [← dec_sh] at q; exact q⟩))⟩)))
theorem we_reprNe {a b : Wo} {ta tb : TE} {Q : Sv → Sto → Prop} (ha : big a) (hb : big b) (h1 : ∀ {Q : Sv → Sto → Prop}, (∀ s, vw m s = some (hiD a) → Q s m) → WE K r m ta Q) (h2 : ∀ {Q : Sv → Sto → Prop}, (∀ s, vw m s = some (hiD b) → Q s m) → WE K r m tb Q) (q : Q (.val (.bl (!decide (a = b)))) m) :
    WE K r m (tOp (rD2 K RNeR) (tCB (rDN K RRepr) (tCons ta tNil)) (tCB (rDN K RRepr) (tCons tb tNil))) Q :=
  we_op (we_cb (wa_cons (h1 fun s hs => wa_nil ⟨[hiD a], _, by show [vw m s] = [some _]; rw [hs], rrW ha, we_cb (wa_cons (h2 fun s hs => wa_nil ⟨[hiD b], _, by show [vw m s] = [some _]; rw [hs], rrW hb, _, _, _, rfl, rfl, .mk (.str _ _), by rw [← dec_sh] at q; exact q⟩))⟩)))
theorem we_lval {x : Rn} {n : Nat} {i : Nat} {te : TE} {Q : Sv → Sto → Prop} (hi : r[i]? = some (some (.val (rD x)))) (hl : x.l.natAbs ≤ 10 ^ 21) (hn : n ≤ 10 ^ 70) (ht : ∀ {Q : Sv → Sto → Prop}, Q (.val (nD n)) m → WE K r m te Q) (q : Q (.val (hiD (valR x n))) m) : WE K r m (tCall (SpD K T_law_value) [] E0 (tCons (tVar i) (tCons te tNil))) Q :=
  we_call (wa_cons (we_var hi (wa_cons (ht (wa_nil ⟨x, n, rfl, Nat.le_trans hl (by decide +kernel), Nat.le_trans hn (by decide +kernel), q⟩)))))
/-- a drawn row of values -/
theorem we_worths {g : Addr} {j : Nat} {wi : TI} {Q : Sv → Sto → Prop} (n : Nat) (hw : wipeR r [j] = r.set j none)
    (h : WI K r m wi fun ds m1 => ds.length ≤ 20 ∧ GenI m1 g (n + 2 * ds.length) ∧ (∀ x : Option Sv, ((r.set j none).set j x)[0]? = some (some (.adr g))) ∧ ∀ (l : List Wo) (m' : Sto), l.length = ds.length → (∀ o ∈ l, wsm o) → GenI m' g n → Fr m1 m' g → Q (.val (fD l)) m') :
    WE K r m (tLc wi (gName j) tYes (tCall (SpD K T_law_worth) [] E0 (tCons (tVar 0) tNil)) [j]) Q := by
  refine we_drawnR (ge := g) (js := [j]) 2 n (fun i acc => ∃ l : List Wo, acc = l.map hiD ∧ l.length = i ∧ ∀ o ∈ l, wsm o) (fun _ h => h) fun σ H R e st k => h σ H R e st fun J H' ds mz x so io ⟨hl, hG, h0, q⟩ => k J H' ds mz x so io ⟨by omega, hG, ⟨[], rfl, rfl, fun o ho => by cases ho⟩, ?_, ?_⟩
  · rintro i d acc m' hd ⟨l, rfl, hi, hl2⟩ hG2
    have hlt := (List.getElem?_eq_some_iff.mp hd).1
    rw [hw]
    refine wg_name (we_call (wa_cons (we_var (h0 _) (wa_nil ⟨g, n + 2 * (ds.length - i - 1), rfl, hG2.mono (by omega), fun o m3 ho hG3 hF3 => ⟨hiD o, rfl, ⟨l ++ [o], by rw [List.map_append]; rfl, by rw [List.length_append, hi]; rfl, fun x hx => ?_⟩, hG3, hF3⟩⟩))))
    rcases List.mem_append.mp hx with h | h
    · exact hl2 x h
    · rw [List.mem_singleton.mp h]
      exact fun z e => Nat.le_trans (ho z e) (by decide +kernel)
  · rintro acc m' ⟨l, rfl, hi, hl2⟩ hG2 hF2
    exact q l m' hi hl2 hG2 hF2
end
theorem RawOk.m {r : Rn} (h : RawOk r) : RawM r := ⟨Nat.le_trans h.len (by decide), fun o ho i e => Nat.le_trans (h.vals o ho i e) (by decide +kernel), fun i e => Nat.le_trans (h.start i e) (by decide +kernel), h.slope, h.none⟩
theorem val_big {r : Rn} (h : RawM r) {n : Nat} (hn : n ≤ 10 ^ 70) : ∀ i, valR r n = some i → i.natAbs ≤ 10 ^ 92 := fun i e => by
  by_cases z : n < r.f.length
  · have e1 : r.f[n]? = some r.f[n] := List.getElem?_eq_getElem z
    have : valR r n = r.f[n] := by unfold valR; simp only [e1]
    rw [this] at e
    exact Nat.le_trans (h.vals _ (List.getElem_mem z) i e) (by decide +kernel)
  · rw [Ru.valR_ge r (by omega)] at e
    cases hs : r.s with
    | none => rw [hs] at e; cases e
    | some a =>
      rw [hs] at e
      cases e
      have h1 := h.start a hs
      have h2 : (r.l * ((n : Int) - r.f.length)).natAbs ≤ 10 ^ 21 * 10 ^ 70 := by
        rw [Int.natAbs_mul]
        exact Nat.mul_le_mul h.slope (by omega)
      have h3 := Int.natAbs_add_le a (r.l * ((n : Int) - r.f.length))
      exact Nat.le_trans h3 (Nat.le_trans (Nat.add_le_add h1 h2) (by decide +kernel))
theorem val_bigW {r : Rn} (h : RawM r) {n : Nat} (hn : n ≤ 10 ^ 70) : big (valR r n) := fun i e => Nat.le_trans (val_big h hn i e) (by decide +kernel)
theorem plain_f (l : List Wo) : ∀ d ∈ l.map hiD, Plain d := fun d hd => by
  obtain ⟨o, _, rfl⟩ := List.mem_map.mp hd
  exact Ru.plain_w o
theorem back_big {s : Wo} {l : Int} (hs : ∀ i, s = some i → i.natAbs ≤ 10 ^ 40) (hl : l.natAbs ≤ 10 ^ 21) : big (back s l) := fun i e => by
  cases s with
  | none => cases e
  | some a =>
    cases e
    have h1 := hs a rfl
    have : (a - l).natAbs ≤ a.natAbs + l.natAbs := by omega
    exact Nat.le_trans this (Nat.le_trans (Nat.add_le_add h1 hl) (by decide +kernel))
theorem m_law_made_least {K : PySem.W.Frag} : Ok K N_law_made_least T_law_made_least (t_law_made_least K) := by
  rintro ss m Q ⟨r, rfl, hr, q⟩
  unfold t_law_made_least
  refine ws_seq (ws_par (wa_cons (we_cbO (wa_cons (we_r0 (x := r) rfl (wa_nil ⟨_, _, rfl, .lst _, fun p hp => wa_cons (we_r1 (x := r) rfl (wa_nil ⟨_, _, rfl, ?_⟩))⟩))))))
  have q1 := q p hp
  show WS K _ [some (.val (rD r)), some (.adr p), some (.val (hiD r.s)), none] (stS m p (r.f.map hiD)) _ _
  have e0 : (short r).f = (shortG r.l r.f.reverse r.s).1.reverse := rfl
  have e1 : (short r).s = (shortG r.l r.f.reverse r.s).2 := rfl
  refine ws_seq (ws_for [3] (wi_rng1 (wa_cons (Me.we_len0 (x := r) rfl (wa_nil ⟨_, rfl, by omega, by have := hr.len; omega, ?_⟩)))))
  rw [Int.toNat_natCast]
  refine ⟨fun i r' m' => ∃ (gl : List Wo) (s : Wo) (z : Option Sv), m' = stS m p (gl.map hiD) ∧ r' = [some (.val (rD r)), some (.adr p), some (.val (hiD s)), z] ∧ shortG r.l gl.reverse s = shortG r.l r.f.reverse r.s ∧ (∀ o ∈ gl, wsM o) ∧ wsM s ∧ gl.length ≤ 20 ∧ (shortG r.l gl.reverse s = (gl.reverse, s) ∨ gl.length + i = r.f.length), ⟨r.f, r.s, _, rfl, rfl, rfl, hr.vals, hr.start, hr.len, .inr rfl⟩, ?_, ?_⟩
  · rintro i d r' m' hd ⟨gl, s, z, rfl, rfl, hsh, hgl, hs, hgn, hst⟩
    refine wg_name ?_
    show WS K _ [some (.val (rD r)), some (.adr p), some (.val (hiD s)), some (.val d)] (stS m p (gl.map hiD)) _ _
    have hp1 : (stS m p (gl.map hiD)) p = some (gl.map hiD) := stS_same
    have vwp : vw (stS m p (gl.map hiD)) (.adr p) = some (.lst (gl.map hiD)) := by show (stS m p _ p).map D.lst = _; rw [hp1]; rfl
    have ne : WT K [some (.val (rD r)), some (.adr p), some (.val (hiD s)), some (.val d)] (stS m p (gl.map hiD)) (tTest (tOp (rD2 K RNeR) (tVar 1) (tLst tNil))) fun y m1 => y = (!(gl.map hiD).isEmpty) ∧ m1 = stS m p (gl.map hiD) :=
      wt_test (we_op (we_var rfl (we_lst (wa_nil ⟨[], rfl, by decide, _, _, _, vwp, rfl, .mk (reqL_nil (plain_f gl)), _, rfl, rfl, rfl⟩))))
    rcases List.eq_nil_or_concat gl with rfl | ⟨g, x, rfl⟩
    · exact wsIf (b := false) (wtA (a := false) (b := false) ne fun h => by cases h) (fun h => by cases h) fun _ => ws_next ⟨[], s, _, rfl, rfl, hsh, hgl, hs, hgn, .inl rfl⟩
    · rw [List.concat_eq_append] at *
      have hx : wsM x := hgl x (by simp)
      have hgr : (g ++ [x]).reverse = x :: g.reverse := by simp
      have hat : atI ((g ++ [x]).map hiD) (-1) = some (hiD x) := by
        unfold atI ixN
        rw [List.length_map, if_neg (by decide), if_pos (by rw [List.length_append]; show -(((g.length + 1 : Nat) : Int)) ≤ -1; omega)]
        rw [List.length_append]
        show ((g ++ [x]).map hiD)[((-1 : Int) + ((g.length + 1 : Nat) : Int)).toNat]? = _
        rw [show ((-1 : Int) + ((g.length + 1 : Nat) : Int)).toNat = g.length by omega, List.getElem?_map]
        simp
      have tt : WT K [some (.val (rD r)), some (.adr p), some (.val (hiD s)), some (.val d)] (stS m p ((g ++ [x]).map hiD)) (tTest (tOp (rD2 K REqR) (tCB (rDN K RRepr) (tCons (tOp (rD2 K RIx) (tVar 1) (tUn (rD1 K RNeg) (tC (.int 1)))) tNil)) (tCB (rDN K RRepr) (tCons (tCall (SpD K T_law_back) [] E0 (tCons (tVar 2) (tCons (tOp (rD2 K RIx) (tVar 0) (tC (.int 2))) tNil))) tNil)))) fun y m1 => y = decide (x = back s r.l) ∧ m1 = stS m p ((g ++ [x]).map hiD) :=
        wt_test (we_reprEq (a := x) (b := back s r.l) (fun i e => Nat.le_trans (hx i e) (by decide +kernel)) (back_big hs hr.slope) (fun h => we_op (we_var rfl (we_un (we_int ⟨_, _, rfl, .int _, _, _, _, vwp, rfl, .lst hat, h _ rfl⟩)))) (fun h => we_call (wa_cons (we_var rfl (wa_cons (we_r2 (x := r) rfl (wa_nil ⟨s, r.l, rfl, h _ rfl⟩)))))) ⟨_, rfl, rfl, rfl⟩)
      rw [hgr] at hsh hst
      refine wsIf (b := decide (x = back s r.l)) ((wtA (a := true) (b := decide (x = back s r.l)) (ne.imp fun y m1 ⟨h1, h2⟩ => ⟨by rw [h1]; cases g <;> rfl, h2⟩) fun _ => tt).imp fun y m1 h => h) (fun h => ?_) fun h => ws_next ?_
      · have h' := of_decide_eq_true h
        refine ws_asg (we_pop (we_var rfl ⟨p, g.map hiD, hiD x, rfl, by rw [hp1, List.map_append]; rfl, ?_⟩))
        rw [stS_stS]
        have es : shortG r.l (x :: g.reverse) s = shortG r.l g.reverse x := by rw [shortG, if_pos h']
        refine ⟨g, x, _, rfl, rfl, by rw [← hsh, es], fun o ho => hgl o (by simp [ho]), hx, by rw [List.length_append] at hgn; omega, ?_⟩
        rcases hst with e | e
        · exfalso
          have h1 := (Ru.shortG_len r.l g.reverse x).1
          rw [es] at e
          rw [e] at h1
          simp at h1
          omega
        · right
          rw [List.length_append] at e
          simp at e
          omega
      · have h' : ¬ x = back s r.l := of_decide_eq_false h
        refine ⟨g ++ [x], s, _, rfl, rfl, by rw [hgr]; exact hsh, hgl, hs, hgn, .inl ?_⟩
        rw [hgr, shortG, if_neg h']
  · rintro r' m' ⟨gl, s, z, rfl, rfl, hsh, hgl, hs, hgn, hst⟩
    rw [rng_len] at hst
    have hfin : shortG r.l gl.reverse s = (gl.reverse, s) := by
      rcases hst with e | e
      · exact e
      · have : gl = [] := List.eq_nil_of_length_eq_zero (by omega)
        rw [this]
        rfl
    rw [hfin] at hsh
    have f1 : (short r).f = gl := by rw [e0, ← hsh]; exact List.reverse_reverse _
    have f2 : (short r).s = s := by rw [e1, ← hsh]
    rw [f1, f2] at q1
    exact ws_ret (we_tupA (wa_cons (we_var rfl (wa_cons (we_var rfl (wa_cons (we_r2 (x := r) rfl (wa_nil ⟨by show 3 ≤ 100000; decide, q1⟩))))))))
/-! ### texts whose letters are letters -/
theorem ok_ofS (s : String) : PyData.strOk (Str.ofString s) = true := by
  unfold PyData.strOk
  rw [Str.ofString_eq_toList]
  show ((s.toList.map Char.toNat).toArray).all (· < 0x110000) = true
  rw [List.all_toArray, List.all_eq_true]
  intro n hn
  obtain ⟨c, _, rfl⟩ := List.mem_map.mp hn
  rw [decide_eq_true_eq]
  have := c.valid
  rcases this with h | ⟨_, h⟩
  · exact Nat.lt_trans h (by decide)
  · exact h
theorem ok_app {a b : Str} (ha : PyData.strOk a = true) (hb : PyData.strOk b = true) : PyData.strOk (a ++ b) = true := by
  unfold PyData.strOk at *
  show (a.cps ++ b.cps).all (· < 0x110000) = true
  rw [Array.all_append, ha, hb]
  rfl
theorem ok_join : ∀ {ts : List Str}, (∀ t ∈ ts, PyData.strOk t = true) → PyData.strOk (Str.join ", " ts) = true
  | [], _ => by decide +kernel
  | [x], h => h x List.mem_cons_self
  | x :: y :: r, h => by
    show PyData.strOk (x ++ ", " ++ Str.join ", " (y :: r)) = true
    exact ok_app (ok_app (h x List.mem_cons_self) (ok_ofS _)) (ok_join fun t ht => h t (List.mem_cons_of_mem _ ht))
structure Sk (d : D) : Prop where
  ex : ∃ p, d.py = some p ∧ PyData.strOk p.shown = true
structure SkA (ds : List D) : Prop where
  ex : ∃ ps, D.pyA ds = some ps ∧ ∀ t ∈ PyData.shownAll ps, PyData.strOk t = true
theorem sk_w (o : Wo) : Sk (hiD o) := by
  cases o with
  | none => exact ⟨.none, rfl, by rw [PyData.shown_none]; exact ok_ofS _⟩
  | some i => exact ⟨.int i, rfl, by rw [PyData.shown_int]; exact ok_ofS _⟩
theorem skA_nil : SkA [] := ⟨[], by simp only [D.pyA], by simp [PyData.shownAll]⟩
theorem skA_cons {d : D} {ds : List D} (h : Sk d) (t : SkA ds) : SkA (d :: ds) := by
  obtain ⟨p, h1, h2⟩ := h.ex
  obtain ⟨ps, t1, t2⟩ := t.ex
  refine ⟨p :: ps, by simp only [D.pyA, h1, t1], fun x hx => ?_⟩
  rw [PyData.shownAll_cons] at hx
  rcases List.mem_cons.mp hx with e | e
  · rw [e]; exact h2
  · exact t2 x e
theorem skA_map {α : Type} {f : α → D} : ∀ {l : List α}, (∀ x ∈ l, Sk (f x)) → SkA (l.map f)
  | [], _ => skA_nil
  | x :: l, h => skA_cons (h x List.mem_cons_self) (skA_map fun y hy => h y (List.mem_cons_of_mem _ hy))
theorem sk_lst {ds : List D} (h : SkA ds) : Sk (.lst ds) := by
  obtain ⟨ps, t1, t2⟩ := h.ex
  refine ⟨.list ps, by simp only [D.py, t1]; rfl, ?_⟩
  rw [PyData.shown_list]
  exact ok_app (ok_app (ok_ofS _) (ok_join t2)) (ok_ofS _)
theorem sk_tup {ds : List D} (h : SkA ds) : Sk (.tup ds) := by
  obtain ⟨ps, t1, t2⟩ := h.ex
  refine ⟨.tuple ps, by simp only [D.py, t1]; rfl, ?_⟩
  rw [PyData.shown_tuple]
  exact ok_app (ok_app (ok_ofS _) (ok_join t2)) (ok_ofS _)
theorem sk_run (r : Rn) : Sk (rD r) := sk_tup (skA_cons (sk_lst (skA_map fun o _ => sk_w o)) (skA_cons (sk_w _) (skA_cons (sk_w (some r.l)) skA_nil)))
theorem ok_repr {d : D} {z : Str} (h : RRepr [d] (.v (.str z))) (k : Sk d) : PyData.strOk z = true := by
  obtain ⟨p, h1, h2⟩ := k.ex
  cases h with
  | mk e _ _ _ =>
    rw [h1] at e
    cases e
    exact h2
theorem repr_run {r : Rn} (h : RawM r) : ∃ z, RRepr [rD r] (.v (.str z)) :=
  sh_repr (Ru.sh_run h.len (fun o ho i e => Nat.le_trans (h.vals o ho i e) (by decide +kernel)) (fun i e => Nat.le_trans (h.start i e) (by decide +kernel)) (Nat.le_trans h.slope (by decide +kernel))) (by decide) (by decide)
theorem short_leM {r : Rn} (h : RawM r) : LeM (short r) := by
  obtain ⟨h1, h2⟩ := Ru.short_mem r
  have hm : RawM (short r) := by
    refine ⟨Nat.le_trans (Ru.short_len r) h.len, fun o ho => h.vals o (h1 o ho), ?_, h.slope, Ru.short_none r h.none⟩
    rcases h2 with e | e
    · rw [e]; exact h.start
    · exact h.vals _ e
  refine ⟨⟨Nat.le_trans hm.len (by decide), ?_, Nat.le_trans h.slope (by decide +kernel)⟩, hm⟩
  rw [Ru.runB_r, Ru.short_last, Bool.and_true]
  rcases Ru.short_none r h.none with e | e
  · rw [e]; rfl
  · rw [decide_eq_true e, Bool.or_true]
/-- what is made least, let free -/
theorem we_made {K : PySem.W.Frag} {ro : Ro} {m : Sto} {te : TA} {Q : Sv → Sto → Prop} (r : Rn) (hr : RawM r) (ht : ∀ {R : List Sv → Sto → Prop}, R [.val (rD r)] m → WA K ro m te R) (q : Q (.val (rD (short r))) m) : WE K ro m (tCall (SpD K T_law_made_least) [] E0 te) Q := by
  refine we_freeT (we_call (ht ⟨r, rfl, hr, fun p hp => ⟨p, (short r).f.map hiD, _, rfl, hp, stS_same, ?_⟩⟩))
  rw [stD_stS hp]
  have : ([D.adr p, hiD (short r).s, .int r.l].map (frzD p ((short r).f.map hiD))) = [fD (short r).f, hiD (short r).s, .int (short r).l] := by
    show [if p = p then _ else _, frzD _ _ (hiD (short r).s), _] = _
    rw [if_pos rfl]
    cases (short r).s <;> rfl
  rw [this]
  exact q
def lenB : D → Bool
  | .lst ds => decide (ds.length ≤ 1000) && ds.all plainB
  | _ => true
theorem lenB_ok {d : D} (h : lenB d = true) : Ru.LenOk d := fun ds e => by
  subst e
  obtain ⟨h1, h2⟩ := He.ba h
  have := of_decide_eq_true h1
  exact ⟨by omega, fun x hx => plainB_ok (List.all_eq_true.mp h2 x hx)⟩
def runQB : D → Bool
  | .tup [a, b, c] => plainB a && (lenB a && (plainB b && plainB c))
  | .tup ds => decide (ds.length ≤ 1000)
  | d => d.tn.isSome
theorem runQB_ok {d : D} (h : runQB d = true) : RunQ d := by
  cases d with
  | tup ds =>
    refine ⟨rfl, fun es e => ?_, fun a b c e => ?_⟩
    · cases e
      match ds, h with
      | [], _ => exact Nat.zero_le _
      | [_], _ => show 1 ≤ _; decide
      | [_, _], _ => show 2 ≤ _; decide
      | [_, _, _], _ => show 3 ≤ _; decide
      | a :: b :: c :: d :: l, h => exact Nat.le_trans (of_decide_eq_true h) (by decide)
    · cases e
      obtain ⟨h1, h⟩ := He.ba h
      obtain ⟨h2, h⟩ := He.ba h
      obtain ⟨h3, h4⟩ := He.ba h
      exact ⟨⟨plainB_ok h1, lenB_ok h2⟩, plainB_ok h3, plainB_ok h4⟩
  | _ => exact ⟨h, (fun ds e => by cases e), fun a b c e => by cases e⟩
end L29

namespace L29
open PySem PySem.Spec PyProof.Rows L2 Cr
local macro_rules | `(tactic| walk_at "w") => `(tactic| first
  | with_reducible refine ws_seq ?_ | with_reducible refine ws_asg ?_ | with_reducible refine ws_ret ?_ | with_reducible refine ws_retN ?_ | with_reducible refine ws_drop ?_ | with_reducible refine ws_if ?_
  | with_reducible refine ws_next ?_ | with_reducible refine ws_par ?_ | with_reducible refine ws_par3 ?_
  | with_reducible refine we_int ?_ | with_reducible refine we_str ?_ | with_reducible refine we_bl ?_ | with_reducible refine we_non ?_ | with_reducible refine we_op ?_ | with_reducible refine we_un ?_
  | with_reducible refine we_cb ?_ | with_reducible refine we_if ?_ | with_reducible refine we_tup ?_ | with_reducible refine we_call ?_ | with_reducible refine wa_cons ?_ | with_reducible refine wa_nil ?_
  | with_reducible refine wt_val ?_ | with_reducible refine wt_test ?_ | with_reducible refine wt_and ?_ | with_reducible refine wt_or ?_ | with_reducible refine wt_not ?_ | with_reducible refine wt_yes ?_
  | with_reducible refine we_andV ?_ | with_reducible refine we_orV ?_ | with_reducible refine we_notV ?_ | with_reducible refine we_chain ?_ | with_reducible refine we_slice ?_ | with_reducible refine wo_none ?_ | with_reducible refine wo_some ?_
  | with_reducible refine we_bits ?_ | refine we_var (by rfl) ?_)
local macro_rules | `(tactic| walk_at "i2") => `(tactic| refine ⟨_, _, _, rfl, rfl, .int _ _, ?_⟩)
local macro_rules | `(tactic| walk_at "in") => `(tactic| refine ⟨_, _, rfl, .int _, ?_⟩)
local macro_rules | `(tactic| walk_at "n") => `(tactic| simp only [List.set_cons_succ, List.set_cons_zero])

open Ru (Wo Rn fD rD back worthD areD slopeD runB lastOk valR short shortG pw RunQ)
open Ge
open Me (LeO endN nD)
open Le (les sumN lesW sumW slopeE lesR sumR topN moreN crossI cr)
theorem e70 {n : Nat} (h : n ≤ 1000) : n ≤ 10 ^ 70 := Nat.le_trans h (by decide +kernel)
theorem end20 {a b : Rn} (ha : LeM a) (hb : LeM b) : endN a b ≤ 20 := by unfold endN; have := ha.m.len; have := hb.m.len; omega
theorem val_small {r : Rn} (h : RawM r) {n : Nat} (hn : n ≤ 20) : ∀ i, valR r n = some i → i.natAbs ≤ 10 ^ 41 := fun i e => by
  by_cases z : n < r.f.length
  · have e1 : r.f[n]? = some r.f[n] := List.getElem?_eq_getElem z
    have : valR r n = r.f[n] := by unfold valR; simp only [e1]
    rw [this] at e
    exact Nat.le_trans (h.vals _ (List.getElem_mem z) i e) (by decide +kernel)
  · rw [Ru.valR_ge r (by omega)] at e
    cases hs : r.s with
    | none => rw [hs] at e; cases e
    | some a =>
      rw [hs] at e
      cases e
      have h1 := h.start a hs
      have h2 : (r.l * ((n : Int) - r.f.length)).natAbs ≤ 10 ^ 21 * 20 := by
        rw [Int.natAbs_mul]
        exact Nat.mul_le_mul h.slope (by omega)
      have h3 := Int.natAbs_add_le a (r.l * ((n : Int) - r.f.length))
      exact Nat.le_trans h3 (Nat.le_trans (Nat.add_le_add h1 h2) (by decide +kernel))
theorem top_le {a b : Rn} (ha : LeM a) (hb : LeM b) : topN a b ≤ 10 ^ 50 := by
  have he := end20 ha hb
  have h1 := Le.more_int a b
  have h2 : crossI a b (endN a b) ≤ 2 * 10 ^ 41 + 1 := by
    unfold crossI
    cases ea : valR a (endN a b) with
    | none => cases eb : valR b (endN a b) <;> exact (by decide +kernel : (0 : Int) ≤ 2 * 10 ^ 41 + 1)
    | some lo =>
      cases eb : valR b (endN a b) with
      | none => exact (by decide +kernel : (0 : Int) ≤ 2 * 10 ^ 41 + 1)
      | some hi =>
        have h4 := val_small ha.m he lo ea
        have h5 := val_small hb.m he hi eb
        dsimp only
        by_cases hl : a.l = b.l
        · rw [if_pos hl]; omega
        · rw [if_neg hl]
          by_cases h6 : b.l - a.l < 0
          · rw [if_pos h6]
            have := Le.cr_le (g := -(lo - hi)) (d := -(b.l - a.l)) (by omega)
            omega
          · rw [if_neg h6]
            have := Le.cr_le (g := lo - hi) (d := b.l - a.l) (by omega)
            omega
  unfold topN
  have : endN a b + moreN a b ≤ 30 + 2 * 10 ^ 41 := by omega
  exact Nat.le_trans this (by decide +kernel)
theorem e_le {a b : Rn} (ha : LeM a) (hb : LeM b) : (short (lesR a b)).f.length ≤ 10 ^ 50 := by
  refine Nat.le_trans (Ru.short_len _) ?_
  show ((List.range (topN a b)).map (les a b)).length ≤ _
  rw [List.length_map, List.length_range]
  exact top_le ha hb
theorem m_law_lesser {K : PySem.W.Frag} : Ok K N_law_lesser T_law_lesser (t_law_lesser K) := by
  rintro ss m Q ⟨a, b, rfl, q⟩
  unfold t_law_lesser
  cases a with
  | none => exact ws_seq (wsIf (b := true) (wtO (a := true) (b := true) (Le.wt_nonB rfl rfl) fun h => by cases h) (fun _ => ws_ret (weIf (b := true) (Le.wt_nonB rfl rfl) (fun _ => we_var rfl q) (fun h => by cases h))) (fun h => by cases h))
  | some x =>
    cases b with
    | none => exact ws_seq (wsIf (b := true) (wtO (a := false) (b := true) (Le.wt_nonB rfl rfl) fun _ => Le.wt_nonB rfl rfl) (fun _ => ws_ret (weIf (b := false) (Le.wt_nonB rfl rfl) (fun h => by cases h) fun _ => we_var rfl q)) (fun h => by cases h))
    | some y => exact ws_seq (wsIf (b := false) (wtO (a := false) (b := false) (Le.wt_nonB rfl rfl) fun _ => Le.wt_nonB rfl rfl) (fun h => by cases h) fun _ => ws_next (ws_ret (we_cb (wa_cons (we_var rfl (wa_cons (we_var rfl (wa_nil ⟨[.int x, .int y], _, rfl, .int _ _, q⟩))))))))
theorem m_law_sum {K : PySem.W.Frag} : Ok K N_law_sum T_law_sum (t_law_sum K) := by
  rintro ss m Q ⟨a, b, rfl, q⟩
  unfold t_law_sum
  cases a with
  | none =>
    have e : sumW none b = none := by cases b <;> rfl
    rw [e] at q
    exact ws_ret (weIf (b := true) (wtO (a := true) (b := true) (Le.wt_nonB rfl rfl) fun h => by cases h) (fun _ => we_non q) (fun h => by cases h))
  | some x =>
    cases b with
    | none => exact ws_ret (weIf (b := true) (wtO (a := false) (b := true) (Le.wt_nonB rfl rfl) fun _ => Le.wt_nonB rfl rfl) (fun _ => we_non q) (fun h => by cases h))
    | some y => exact ws_ret (weIf (b := false) (wtO (a := false) (b := false) (Le.wt_nonB rfl rfl) fun _ => Le.wt_nonB rfl rfl) (fun h => by cases h) fun _ => we_op (we_var rfl (we_var rfl ⟨.int x, .int y, _, rfl, rfl, .int _ _, q⟩)))
theorem m_law_lesser_at {K : PySem.W.Frag} : Ok K N_law_lesser_at T_law_lesser_at (t_law_lesser_at K) := by
  rintro ss m Q ⟨a, b, n, rfl, ha, hb, hn, q⟩
  unfold t_law_lesser_at
  exact ws_ret (we_call (wa_cons (we_lval (x := a) rfl ha.m.slope hn (fun q => we_var rfl q) (wa_cons (we_lval (x := b) rfl hb.m.slope hn (fun q => we_var rfl q) (wa_nil ⟨_, _, rfl, q⟩))))))
theorem m_law_slope {K : PySem.W.Frag} : Ok K N_law_slope T_law_slope (t_law_slope K) := by
  rintro ss m Q ⟨a, b, rfl, q⟩
  unfold t_law_slope
  unfold slopeE at q
  refine ws_seq (wsIf (wtO (Le.wt_non1 (x := a) rfl) fun _ => Le.wt_non1 (x := b) rfl) (fun h => ?_) fun h => ws_next ?_)
  · refine ws_ret (weIf (Le.wt_non1 (x := a) rfl) (fun h1 => ?_) fun h1 => ?_)
    · rw [if_pos (of_decide_eq_true h1)] at q
      exact we_r2 (x := b) rfl q
    · have h2 : decide (b.s = none) = true := by rw [h1] at h; exact h
      rw [if_neg (of_decide_eq_false h1), if_pos (of_decide_eq_true h2)] at q
      exact we_r2 (x := a) rfl q
  · rw [Bool.or_eq_false_iff] at h
    rw [if_neg (of_decide_eq_false h.1), if_neg (of_decide_eq_false h.2)] at q
    exact ws_ret (we_cb (wa_cons (we_r2 (x := a) rfl (wa_cons (we_r2 (x := b) rfl (wa_nil ⟨_, _, rfl, .int _ _, q⟩))))))
theorem m_law_crossing {K : PySem.W.Frag} : Ok K N_law_crossing T_law_crossing (t_law_crossing K) := by
  rintro ss m Q ⟨g, n, rfl, hG, q⟩
  unfold t_law_crossing
  refine ws_seq (ws_par (wa_cons (we_op (we_rndC (n + 39) rfl hG (by decide) (by decide) fun v m1 v0 v1 hG1 hF1 => we_int ⟨_, _, _, rfl, rfl, .int _ _, wa_cons (we_op (we_rndC (n + 38) rfl hG1 (by decide) (by decide) fun w m2 w0 w1 hG2 hF2 => we_int ⟨_, _, _, rfl, rfl, .int _ _, wa_nil ⟨_, _, rfl, ?_⟩⟩))⟩))))
  show WS K _ [some (.adr g), some (.val (.int (v - 2))), some (.val (.int (w + 1))), none, none, none, none] m2 _ _
  refine ws_seq (ws_asg (we_rndC (n + 37) rfl hG2 (by decide) (by decide) fun far m3 f0 f1 hG3 hF3 => ?_))
  show WS K _ [some (.adr g), some (.val (.int (v - 2))), some (.val (.int (w + 1))), some (.val (.int far)), none, none, none] m3 _ _
  refine ws_seq (ws_asg (we_tupV (wa_cons (we_worths (g := g) (n + 30) rfl (wi_rng1 (wa_cons (we_rndC (n + 36) rfl hG3 (by decide) (by decide) fun u m5 u0 u1 hG5 hF5 => wa_nil ⟨_, rfl, by omega, by omega, by rw [rng_len]; omega, by rw [rng_len]; exact hG5.mono (by omega), fun x => rfl, fun f1 m6 hfl hfm hG6 hF6 => wa_cons (we_int (wa_cons (we_var rfl (wa_nil ⟨_, by repeat constructor, Nat.le_of_ble_eq_true rfl, ?_⟩))))⟩)))))))
  rw [rng_len] at hfl
  show WS K _ [some (.adr g), some (.val (.int (v - 2))), some (.val (.int (w + 1))), some (.val (.int far)), some (.val (rD ⟨f1, some 5, v - 2⟩)), none, none] m6 _ _
  refine ws_seq (ws_asg (we_tupV (wa_cons (we_worths (g := g) (n + 20) rfl (wi_rng1 (wa_cons (we_rndC (n + 29) rfl hG6 (by decide) (by decide) fun u2 m7 u20 u21 hG7 hF7 => wa_nil ⟨_, rfl, by omega, by omega, by rw [rng_len]; omega, by rw [rng_len]; exact hG7.mono (by omega), fun x => rfl, fun f2 m8 hfl2 hfm2 hG8 hF8 => wa_cons (we_op (we_int (we_op (we_var rfl (we_var rfl ⟨_, _, _, rfl, rfl, .int (mulOk (B := 1000) (C := 1000) (by omega) (by omega) (by decide +kernel)), _, _, _, rfl, rfl, .int _ _, wa_cons (we_op (we_var rfl (we_var rfl ⟨_, _, _, rfl, rfl, .int _ _, wa_nil ⟨_, by repeat constructor, Nat.le_of_ble_eq_true rfl, ?_⟩⟩)))⟩)))))⟩)))))))
  rw [rng_len] at hfl2
  show WS K _ [some (.adr g), some (.val (.int (v - 2))), some (.val (.int (w + 1))), some (.val (.int far)), some (.val (rD ⟨f1, some 5, v - 2⟩)), some (.val (rD ⟨f2, some (5 - far * (w + 1)), v - 2 + (w + 1)⟩)), none] m8 _ _
  refine ws_ret (we_lstV (wa_cons (we_var rfl (wa_cons (we_var rfl (wa_nil ⟨_, by repeat constructor, Nat.le_of_ble_eq_true rfl, ?_⟩))))))
  have hm : (far * (w + 1)).natAbs ≤ 1000 * 1000 := by
    rw [Int.natAbs_mul]
    exact Nat.mul_le_mul (by omega) (by omega)
  refine q ⟨f1, some 5, v - 2⟩ ⟨f2, some (5 - far * (w + 1)), v - 2 + (w + 1)⟩ m8 ⟨?_, fun o ho i e => Nat.le_trans (hfm o ho i e) (by decide +kernel), fun i e => ?_, ?_, .inl rfl⟩ ⟨?_, fun o ho i e => Nat.le_trans (hfm2 o ho i e) (by decide +kernel), fun i e => ?_, ?_, .inl rfl⟩ (hG8.mono (by omega)) (((((((hF1.trans hF2).trans hF3).trans hF5).trans hF6).trans hF7).trans hF8))
  · show f1.length ≤ 20; omega
  · cases e; decide +kernel
  · show (v - 2).natAbs ≤ 10 ^ 21; exact Nat.le_trans (by omega : (v - 2).natAbs ≤ 10) (by decide +kernel)
  · show f2.length ≤ 20; omega
  · cases e
    exact Nat.le_trans (by omega : (5 - far * (w + 1)).natAbs ≤ 2000000) (by decide +kernel)
  · show (v - 2 + (w + 1)).natAbs ≤ 10 ^ 21; exact Nat.le_trans (by omega : (v - 2 + (w + 1)).natAbs ≤ 10) (by decide +kernel)
theorem les_short (a b : Rn) (n : Nat) : les a b n = valR (short (lesR a b)) n := by rw [Ru.val_short, Le.val_les]
theorem les_end (a b : Rn) (k : Nat) : les a b ((short (lesR a b)).f.length + k) = (short (lesR a b)).s.map fun s => s + slopeE a b * (k : Int) := by
  rw [les_short]
  exact Le.end_line
theorem les_end0 (a b : Rn) : les a b (short (lesR a b)).f.length = (short (lesR a b)).s := by
  have := les_end a b 0
  rw [Nat.add_zero] at this
  rw [this]
  cases (short (lesR a b)).s with
  | none => rfl
  | some x => show some (x + slopeE a b * 0) = some x; rw [Int.mul_zero, Int.add_zero]
theorem slope_small {a b : Rn} (ha : LeM a) (hb : LeM b) : (slopeE a b).natAbs ≤ 10 ^ 21 := by
  unfold slopeE
  have := ha.m.slope
  have := hb.m.slope
  split
  · assumption
  · split
    · assumption
    · split <;> assumption
theorem lesW_big {x y : Wo} (hx : big x) (hy : big y) : big (lesW x y) := fun i e => by
  cases x with
  | none => exact hy i e
  | some u =>
    cases y with
    | none => exact hx i e
    | some v =>
      have e : some (if v < u then v else u) = some i := e
      cases e
      split
      · exact hy v rfl
      · exact hx u rfl
theorem les_big {a b : Rn} (ha : LeM a) (hb : LeM b) {n : Nat} (hn : n ≤ 10 ^ 70) : big (les a b n) := lesW_big (val_bigW ha.m hn) (val_bigW hb.m hn)
theorem les_sm {a b : Rn} (ha : LeM a) (hb : LeM b) {n : Nat} (hn : n ≤ 10 ^ 70) : ∀ i, les a b n = some i → i.natAbs ≤ 10 ^ 92 := fun i e => by
  have e : lesW (valR a n) (valR b n) = some i := e
  have h1 := val_big ha.m hn
  have h2 := val_big hb.m hn
  generalize valR a n = x at *
  generalize valR b n = y at *
  cases x with
  | none => exact h2 i e
  | some u =>
    cases y with
    | none => exact h1 i e
    | some v =>
      have e : some (if v < u then v else u) = some i := e
      cases e
      split
      · exact h2 v rfl
      · exact h1 u rfl
section
variable {K : PySem.W.Frag} {ro : Ro} {m : Sto}
theorem we_les {a b : Rn} {n i j : Nat} {te : TE} {Q : Sv → Sto → Prop} (ha : LeM a) (hb : LeM b) (hi : ro[i]? = some (some (.val (rD a)))) (hj : ro[j]? = some (some (.val (rD b)))) (hn : n ≤ 10 ^ 70) (ht : ∀ {Q : Sv → Sto → Prop}, Q (.val (nD n)) m → WE K ro m te Q) (q : Q (.val (hiD (les a b n))) m) : WE K ro m (tCall (SpD K T_law_lesser_at) [] E0 (tCons (tVar i) (tCons (tVar j) (tCons te tNil)))) Q :=
  we_call (wa_cons (we_var hi (wa_cons (we_var hj (wa_cons (ht (wa_nil ⟨a, b, n, rfl, ha, hb, hn, q⟩)))))))
end
theorem m_law_ending_good {K : PySem.W.Frag} : Ok K N_law_ending_good T_law_ending_good (t_law_ending_good K) := by
  rintro ss m Q ⟨a, b, gr, rfl, ha, hb, hg, q⟩
  unfold t_law_ending_good
  have he := e_le ha hb
  have hend := les_end a b
  have h0 := les_end0 a b
  have tight : (short (lesR a b)).f.length ≠ 0 → les a b ((short (lesR a b)).f.length - 1) ≠ back (short (lesR a b)).s (slopeE a b) := fun h => by
    rw [les_short]
    exact Le.end_tight (Ru.short_last _) (by omega)
  have hs := slope_small ha hb
  generalize (short (lesR a b)).f.length = e at *
  generalize hlow : (short (lesR a b)).s = low at *
  have he7 : e ≤ 10 ^ 70 := Nat.le_trans he (by decide +kernel)
  have hlw : ∀ i, low = some i → i.natAbs ≤ 10 ^ 92 := by rw [← h0]; exact les_sm ha hb he7
  refine ws_seq (ws_par (wa_cons (we_call (wa_cons (we_var rfl (wa_cons (we_var rfl (wa_nil ⟨a, b, rfl, wa_cons (we_les (a := a) (b := b) (n := e) ha hb rfl rfl he7 (fun q => we_var rfl q) (wa_nil ⟨_, _, rfl, ?_⟩))⟩))))))))
  rw [h0]
  show WS K _ [some (.val (rD a)), some (.val (rD b)), some (.val (nD e)), some (.val (nD gr)), some (.val (.int (slopeE a b))), some (.val (hiD low)), none, none] m _ _
  refine ws_seq (ws_for [6] (wi_D (we_lstV (wa_cons (we_int (wa_cons (we_int (wa_cons (we_var rfl (wa_nil ⟨_, by repeat constructor, Nat.le_of_ble_eq_true rfl, ?_⟩))))))))))
  refine ⟨false, [.int 1, .int 2, nD gr], rfl, fun _ r' m' => m' = m ∧ ∃ x y, r' = [some (.val (rD a)), some (.val (rD b)), some (.val (nD e)), some (.val (nD gr)), some (.val (.int (slopeE a b))), some (.val (hiD low)), x, y], ⟨rfl, _, _, rfl⟩, ?_, ?_⟩
  · rintro i d r' m' hd ⟨rfl, x, y, rfl⟩
    obtain ⟨k, rfl, hk⟩ : ∃ k : Nat, d = nD k ∧ k ≤ 10 ^ 31 := by
      have hm := List.mem_of_getElem? hd
      rcases List.mem_cons.mp hm with e | hm
      · exact ⟨1, e, by decide +kernel⟩
      · rcases List.mem_cons.mp hm with e | hm
        · exact ⟨2, e, by decide +kernel⟩
        · exact ⟨gr, List.mem_singleton.mp hm, hg⟩
    have hn7 : e + k ≤ 10 ^ 70 := Nat.le_trans (Nat.add_le_add he hk) (by decide +kernel)
    refine wg_name ?_
    show WS K _ [some (.val (rD a)), some (.val (rD b)), some (.val (nD e)), some (.val (nD gr)), some (.val (.int (slopeE a b))), some (.val (hiD low)), some (.val (nD k)), y] m' _ _
    have due : ∀ {P : Eds}, P.nx [some (.val (rD a)), some (.val (rD b)), some (.val (nD e)), some (.val (nD gr)), some (.val (.int (slopeE a b))), some (.val (hiD low)), some (.val (nD k)), some (.val (hiD (les a b (e + k))))] m' → WS K (dom m') [some (.val (rD a)), some (.val (rD b)), some (.val (nD e)), some (.val (nD gr)), some (.val (.int (slopeE a b))), some (.val (hiD low)), some (.val (nD k)), y] m' (tAsg (tIf (tTest (tOp (rD2 K RIsR) (tVar 5) (tC .non))) (tC .non) (tOp (rD2 K RAdd) (tVar 5) (tOp (rD2 K RMul) (tVar 4) (tVar 6)))) (gName 7)) P := fun {P} q => by
      rw [hend k] at q
      cases low with
      | none => exact ws_asg (weIf (b := true) (Le.wt_nonB rfl rfl) (fun _ => we_non q) (fun h => by cases h))
      | some u => exact ws_asg (weIf (b := false) (Le.wt_nonB rfl rfl) (fun h => by cases h) fun _ => we_op (we_var rfl (we_op (we_var rfl (we_var rfl ⟨_, _, _, rfl, rfl, .int (mulOk (B := 10 ^ 21) (C := 10 ^ 31) hs (by rw [Int.natAbs_natCast]; exact hk) (by decide +kernel)), .int u, _, _, rfl, rfl, .int _ _, q⟩)))))
    refine ws_seq (due ?_)
    refine wsIf (b := false) (wt_test (we_reprNe (a := les a b (e + k)) (b := les a b (e + k)) (les_big ha hb hn7) (les_big ha hb hn7) (fun h => we_les (a := a) (b := b) ha hb rfl rfl hn7 (fun {Q'} q => we_op (we_var rfl (we_var rfl ⟨_, _, _, rfl, rfl, .int _ _, by show Q' (.val (.int ((e : Int) + (k : Int)))) m'; exact q⟩))) (h _ rfl)) (fun h => we_var rfl (h _ rfl)) ⟨_, rfl, by rw [decide_eq_true rfl]; rfl, rfl⟩)) (fun h => by cases h) fun _ => ws_next ⟨rfl, _, _, rfl⟩
  · rintro r' m' ⟨rfl, x, y, rfl⟩
    refine ws_seq (wsIf (wt_test (we_op (we_var rfl (we_int ⟨_, _, _, rfl, rfl, .mk (.int _ _), _, rfl, rfl, rfl⟩)))) (fun _ => ws_ret (we_bl q)) fun h => ws_next ?_)
    have h1 : e ≠ 0 := fun z => by rw [z] at h; cases h
    have hn7 : e - 1 ≤ 10 ^ 70 := by omega
    have hb2 : big (back low (slopeE a b)) := fun i e2 => by
      cases low with
      | none => cases e2
      | some u =>
        cases e2
        have h2 := hlw u rfl
        have : (u - slopeE a b).natAbs ≤ u.natAbs + (slopeE a b).natAbs := by omega
        exact Nat.le_trans this (Nat.le_trans (Nat.add_le_add h2 hs) (by decide +kernel))
    refine ws_ret (we_reprNe (a := les a b (e - 1)) (b := back low (slopeE a b)) (les_big ha hb hn7) hb2 (fun h => we_les (a := a) (b := b) ha hb rfl rfl hn7 (fun {Q'} q => we_op (we_var rfl (we_int ⟨_, _, _, rfl, rfl, .int _ _, by show Q' (.val (.int ((e : Int) - 1))) m'; rw [show (e : Int) - 1 = ((e - 1 : Nat) : Int) by omega]; exact q⟩))) (h _ rfl)) (fun h => we_call (wa_cons (we_var rfl (wa_cons (we_var rfl (wa_nil ⟨low, slopeE a b, rfl, h _ rfl⟩)))))) ?_)
    rw [decide_eq_false (tight h1)]
    exact q
end L29

namespace L29
open PySem PySem.Spec PyProof.Rows L2 Cr
local macro_rules | `(tactic| walk_at "w") => `(tactic| first
  | with_reducible refine ws_seq ?_ | with_reducible refine ws_asg ?_ | with_reducible refine ws_ret ?_ | with_reducible refine ws_retN ?_ | with_reducible refine ws_drop ?_ | with_reducible refine ws_if ?_
  | with_reducible refine ws_next ?_ | with_reducible refine ws_par ?_ | with_reducible refine ws_par3 ?_
  | with_reducible refine we_int ?_ | with_reducible refine we_str ?_ | with_reducible refine we_bl ?_ | with_reducible refine we_non ?_ | with_reducible refine we_op ?_ | with_reducible refine we_un ?_
  | with_reducible refine we_cb ?_ | with_reducible refine we_if ?_ | with_reducible refine we_tup ?_ | with_reducible refine we_call ?_ | with_reducible refine wa_cons ?_ | with_reducible refine wa_nil ?_
  | with_reducible refine wt_val ?_ | with_reducible refine wt_test ?_ | with_reducible refine wt_and ?_ | with_reducible refine wt_or ?_ | with_reducible refine wt_not ?_ | with_reducible refine wt_yes ?_
  | with_reducible refine we_andV ?_ | with_reducible refine we_orV ?_ | with_reducible refine we_notV ?_ | with_reducible refine we_chain ?_ | with_reducible refine we_slice ?_ | with_reducible refine wo_none ?_ | with_reducible refine wo_some ?_
  | with_reducible refine we_bits ?_ | refine we_var (by rfl) ?_)
local macro_rules | `(tactic| walk_at "i2") => `(tactic| refine ⟨_, _, _, rfl, rfl, .int _ _, ?_⟩)
local macro_rules | `(tactic| walk_at "in") => `(tactic| refine ⟨_, _, rfl, .int _, ?_⟩)
local macro_rules | `(tactic| walk_at "n") => `(tactic| simp only [List.set_cons_succ, List.set_cons_zero])

open Ru (Wo Rn fD rD back worthD areD slopeD runB lastOk valR short shortG pw RunQ)
open Ge
open Me (LeO endN nD)
open Le (les sumN lesW sumW slopeE lesR sumR topN moreN crossI cr)
theorem nolst_f : ∀ l : List Wo, D.nolstA (l.map hiD) = true
  | [] => rfl
  | o :: l => by
    show (D.nolst (hiD o) && D.nolstA (l.map hiD)) = true
    rw [nolst_f l, Bool.and_true]
    cases o <;> rfl
theorem stS_stD {m : Sto} {p : Addr} {ds : List D} (hp : m p = some ds) : stS (stD m p) p ds = m := by
  funext a
  unfold stS stD
  by_cases z : a = p
  · rw [if_pos z, z, hp]
  · rw [if_neg z, if_neg z]
theorem lent {m : Sto} {p : Addr} {ds : List D} {s : Sv} {Q : Sv → Sto → Prop} (hp : m p = some ds) (hn : NoL m) (hs : svNo s = true) (q : Q s m) : stD m p p = none → svNo s = true ∧ (∀ q es, stD m p q = some es → D.nolstA es = true) ∧ Q s (stS (stD m p) p ds) := fun _ => ⟨hs, hn.sd, by rw [stS_stD hp]; exact q⟩
theorem frz_r {p : Addr} {ds : List D} (o : Wo) (l : Int) : ([D.adr p, hiD o, .int l].map (frzD p ds)) = [.lst ds, hiD o, .int l] := by
  show [if p = p then _ else _, frzD _ _ (hiD o), _] = _
  rw [if_pos rfl]
  cases o <;> rfl
theorem svNo_w (o : Wo) : svNo (.val (hiD o)) = true := by cases o <;> rfl
theorem mem_val {r : Rn} {o : Wo} (h : o ∈ r.f) : ∃ n, n < r.f.length ∧ valR r n = o := by
  obtain ⟨n, hn, e⟩ := List.mem_iff_getElem.mp h
  refine ⟨n, hn, ?_⟩
  have e1 : r.f[n]? = some r.f[n] := List.getElem?_eq_getElem hn
  rw [e] at e1
  unfold valR
  simp only [e1]
theorem s_val (r : Rn) : valR r r.f.length = r.s := by
  have := Le.end_line (r := r) (k := 0)
  rw [Nat.add_zero] at this
  rw [this]
  cases r.s with
  | none => rfl
  | some x => show some (x + r.l * 0) = some x; rw [Int.mul_zero, Int.add_zero]
theorem run_z {r : Rn} (h : ∀ n, n ≤ r.f.length → ∀ i, valR r n = some i → i.natAbs ≤ 10 ^ 400) (hl : r.l.natAbs ≤ 10 ^ 400) (hn : r.f.length ≤ 700) : ∃ z, RRepr [rD r] (.v (.str z)) := by
  have h1 : ∀ o ∈ r.f, ∀ i, o = some i → i.natAbs ≤ 10 ^ 400 := fun o ho i e => by
    obtain ⟨n, h1, h2⟩ := mem_val ho
    exact h n (by omega) i (by rw [h2, e])
  exact sh_repr (Ru.sh_run hn h1 (fun i e => h r.f.length (Nat.le_refl _) i (by rw [s_val, e])) hl) (by decide) (by decide)
theorem runB_short {r : Rn} (h : Me.NonOk r) : runB (rD (short r)) = true := by
  rw [Ru.runB_r, Ru.short_last, Bool.and_true]
  rcases Ru.short_none r h with e | e
  · rw [e]; rfl
  · rw [decide_eq_true e, Bool.or_true]
section
variable {K : PySem.W.Frag} {ro : Ro} {m : Sto}
/-- len(found[0]) -/
theorem we_lenF {i : Nat} {p : Addr} {f : List Wo} {s : Wo} {l : Int} {Q : Sv → Sto → Prop} (hi : ro[i]? = some (some (.val (.tup [.adr p, hiD s, .int l])))) (hp : m p = some (f.map hiD)) (q : Q (.val (nD f.length)) m) : WE K ro m (tCB (rDN K RLen) (tCons (tOp (rD2 K RIx) (tVar i) (tC (.int 0))) tNil)) Q :=
  we_cb (wa_cons (we_unA (we_op (we_var hi (we_int ⟨_, _, _, rfl, rfl, .tup (d := .adr p) rfl, p, _, rfl, hp, wa_nil ⟨[.lst (f.map hiD)], _, by show [(m p).map D.lst] = _; rw [hp]; rfl, .lst _, by show Q (.val (.int ((f.map hiD).length : Nat))) _; rw [List.length_map]; exact q⟩⟩)))))
/-- the value of what was found -/
theorem we_valF {i : Nat} {p : Addr} {x : Rn} {n : Nat} {te : TE} {Q : Sv → Sto → Prop} (hi : ro[i]? = some (some (.val (.tup [.adr p, hiD x.s, .int x.l])))) (hp : m p = some (x.f.map hiD)) (hn : NoL m) (hl : x.l.natAbs ≤ 10 ^ 400) (hk : n ≤ 10 ^ 400) (ht : ∀ {Q : Sv → Sto → Prop}, Q (.val (nD n)) m → WE K ro m te Q) (q : Q (.val (hiD (valR x n))) m) :
    WE K ro m (tCall (SpD K T_law_value) [] E0 (tCons (tVar i) (tCons te tNil))) Q :=
  we_callT (wa_cons (we_var hi (wa_cons (ht (wa_nil ⟨p, _, hp, x, n, by show [Sv.val (.tup _), _] = _; rw [frz_r]; rfl, hl, hk, lent hp hn (svNo_w _) q⟩)))))
theorem wt_leastF {i : Nat} {p : Addr} {x : Rn} (hi : ro[i]? = some (some (.val (.tup [.adr p, hiD x.s, .int x.l])))) (hp : m p = some (x.f.map hiD)) (hn : NoL m) (hk : x.f.length ≤ 100000) (hb : runB (rD x) = true) :
    WT K ro m (tNot (tB (tCall (SpD K T_law_is_least) [] E0 (tCons (tVar i) tNil)))) fun y m1 => y = false ∧ m1 = m := by
  refine wtN (a := true) (wt_val (we_callT (wa_cons (we_var hi (wa_nil ⟨p, _, hp, x, ?_, hk, ?_⟩)))))
  · show [Sv.val (.tup _)] = _
    rw [frz_r]
  · exact fun _ => ⟨rfl, hn.sd, true, by rw [hb], rfl, stS_stD hp⟩
theorem we_reprF {i : Nat} {p : Addr} {x : Rn} {z : Str} {Q : Sv → Sto → Prop} (hi : ro[i]? = some (some (.val (.tup [.adr p, hiD x.s, .int x.l])))) (hp : m p = some (x.f.map hiD)) (hn : NoL m) (hz : RRepr [rD x] (.v (.str z))) (q : Q (.val (.str z)) m) :
    WE K ro m (tCB (rDN K RRepr) (tCons (tVar i) tNil)) Q :=
  we_reprT hn (we_var hi ⟨rfl, p, _, _, z, hp, rfl, by rw [frz_r]; exact hz, q⟩)
theorem we_sumR {i j : Nat} {a b : Rn} {Q : Sv → Sto → Prop} (hi : ro[i]? = some (some (.val (rD a)))) (hj : ro[j]? = some (some (.val (rD b)))) (ha : LeO a) (hb : LeO b) (q : Q (.val (rD (short (sumR a b)))) m) :
    WE K ro m (tCallX wF (SpX K (T_run_sum K)) (tCons (tVar i) (tCons (tVar j) tNil))) Q := by
  refine we_freeT (we_callX (wa_cons (we_var hi (wa_cons (we_var hj (wa_nil ⟨rD a, rD b, rfl, .ok a b ha hb fun p hp => ⟨p, _, _, rfl, hp, stS_same, ?_⟩⟩))))))
  rw [stD_stS hp, frz_r]
  exact q
theorem we_lesR {i j : Nat} {a b : Rn} {Q : Sv → Sto → Prop} (hi : ro[i]? = some (some (.val (rD a)))) (hj : ro[j]? = some (some (.val (rD b)))) (ha : LeO a) (hb : LeO b) (hl : (short (lesR b a)).f.length ≤ 600) (q : Q (.val (rD (short (lesR b a)))) m) :
    WE K ro m (tCallXKw 2 [1, 0] wF (SpX K (T_run_lesser K)) (tCons (tVar i) (tCons (tVar j) tNil))) Q := by
  refine we_freeT (we_callXK (wa_cons (we_var hi (wa_cons (we_var hj (wa_nil ⟨rfl, rD b, rD a, rfl, .ok b a hb ha hl fun p hp => ⟨p, _, _, rfl, hp, stS_same, ?_⟩⟩))))))
  rw [stD_stS hp, frz_r]
  exact q
end
theorem m_law_lesser_good {K : PySem.W.Frag} (fx : Fx K) : Ok K N_law_lesser_good T_law_lesser_good (t_law_lesser_good K) := by
  rintro ss m Q ⟨a, b, gr, rfl, ha, hb, hg, hn, q⟩
  unfold t_law_lesser_good
  have he := end20 ha hb
  obtain ⟨za, hza⟩ := repr_run ha.m
  obtain ⟨zb, hzb⟩ := repr_run hb.m
  have oka := ok_repr hza (sk_run a)
  have okb := ok_repr hzb (sk_run b)
  have hsh : REq (.lst [.str za, .str zb]) (.lst [.str za, .str zb]) true := req_txt2 oka okb
  have dsp : ∀ {m : Sto} {r : Ro} {Q : Sv → Sto → Prop}, r[0]? = some (some (.val (rD a))) → r[1]? = some (some (.val (rD b))) → Q (.val (.lst [.str za, .str zb])) m → WE K r m (tLst (tCons (tCB (rDN K RRepr) (tCons (tVar 0) tNil)) (tCons (tCB (rDN K RRepr) (tCons (tVar 1) tNil)) tNil))) Q := fun h1 h2 q =>
    we_lstV (wa_cons (we_cb (wa_cons (we_var h1 (wa_nil ⟨[rD a], _, rfl, hza, wa_cons (we_cb (wa_cons (we_var h2 (wa_nil ⟨[rD b], _, rfl, hzb, wa_nil ⟨_, by repeat constructor, Nat.le_of_ble_eq_true rfl, q⟩⟩))))⟩)))))
  refine ws_seq (ws_par3 (wa_cons (dsp rfl rfl (wa_cons (we_non (wa_cons (we_non (wa_nil ⟨_, _, _, rfl, ?_⟩))))))))
  show WS K _ [some (.val (rD a)), some (.val (rD b)), some (.val (nD gr)), some (.val (.lst [.str za, .str zb])), some (.val .non), some (.val .non), none, none, none] m _ _
  refine ws_seq (ws_tryV fun W => ws_asgX (wa_cons (we_var rfl (wa_cons (we_var rfl (wa_nil ⟨rD a, rD b, rfl, ?_⟩))))))
  by_cases hl : (short (lesR a b)).f.length ≤ 600
  · refine .ok a b ha.o hb.o hl fun p hp => ?_
    have hv : ∀ n, les a b n = valR (short (lesR a b)) n := les_short a b
    have hrb : runB (rD (short (lesR a b))) = true := runB_short (Le.non_les ha.o.non hb.o.non)
    have hsl : (short (lesR a b)).l.natAbs ≤ 10 ^ 400 := Nat.le_trans (slope_small ha hb) (by decide +kernel)
    obtain ⟨z, hz⟩ := run_z (r := short (lesR a b)) (fun n hn i e => by rw [← hv] at e; exact Nat.le_trans (les_sm ha hb (e70 (by omega)) i e) (by decide +kernel)) hsl (by omega)
    have hp1 : (stS m p ((short (lesR a b)).f.map hiD)) p = some ((short (lesR a b)).f.map hiD) := stS_same
    have hn1 : NoL (stS m p ((short (lesR a b)).f.map hiD)) := hn.st (nolst_f _)
    have hsy : short (lesR b a) = short (lesR a b) := by rw [Le.lesR_symm hb.o.non ha.o.non]
    show WS K _ [some (.val (rD a)), some (.val (rD b)), some (.val (nD gr)), some (.val (.lst [.str za, .str zb])), some (.val .non), some (.val (.tup [.adr p, hiD (short (lesR a b)).s, .int (short (lesR a b)).l])), none, none, none] (stS m p ((short (lesR a b)).f.map hiD)) _ _
    generalize hm1 : stS m p ((short (lesR a b)).f.map hiD) = m1 at *
    refine ws_seq (wsIf (b := false) (wt_test (we_op (dsp rfl rfl (we_var rfl ⟨_, _, _, rfl, rfl, .mk hsh, _, rfl, rfl, rfl⟩)))) (fun h => by cases h) fun _ => ws_next ?_)
    refine ws_seq (wsIf (b := false) (Le.wt_nonB rfl rfl) (fun h => by cases h) fun _ => ws_next ?_)
    refine ws_seq (wsIf (b := false) (wtO (a := false) (b := false) (wt_leastF (x := short (lesR a b)) rfl hp1 hn1 (by omega) hrb) fun _ => wtO (a := false) (b := false) (wt_test (we_op (we_lenF (f := (short (lesR a b)).f) rfl hp1 (we_int ⟨_, _, _, rfl, rfl, .int _ _, _, rfl, decide_eq_false (by omega), rfl⟩)))) fun _ => wtN (a := true) (wt_val (we_call (wa_cons (we_var rfl (wa_cons (we_var rfl (wa_cons (we_lenF (f := (short (lesR a b)).f) rfl hp1 (wa_cons (we_var rfl (wa_nil ⟨a, b, gr, rfl, ha, hb, hg, true, rfl, rfl, rfl⟩)))))))))))) (fun h => by cases h) fun _ => ws_next ?_)
    refine ws_seq (wsIf (b := false) (wt_test (we_op (we_cb (wa_cons (we_lesR (a := a) (b := b) rfl rfl ha.o hb.o (by rw [hsy]; exact hl) (by rw [hsy]; exact wa_nil ⟨[rD (short (lesR a b))], _, rfl, hz, we_reprF (x := short (lesR a b)) rfl hp1 hn1 hz ⟨_, _, _, rfl, rfl, .mk (.str z z), _, rfl, by rw [decide_eq_true rfl]; rfl, rfl⟩⟩)))))) (fun h => by cases h) fun _ => ws_next ?_)
    refine ws_seq (ws_asg (we_op (we_listRg (we_op (Me.we_end (a := a) (b := b) rfl rfl (we_int ⟨_, _, _, rfl, rfl, .int _ _, _, rfl, by omega, by omega, we_lstV (wa_cons (we_cb (wa_cons (we_op (we_lenF (f := (short (lesR a b)).f) rfl hp1 (we_int ⟨_, _, _, rfl, rfl, .int _ _, wa_cons (we_int (wa_nil ⟨_, _, rfl, .int _ _, wa_cons (we_op (we_lenF (f := (short (lesR a b)).f) rfl hp1 (we_int ⟨_, _, _, rfl, rfl, .int _ _, wa_cons (we_var rfl (wa_nil ⟨_, by repeat constructor, Nat.le_of_ble_eq_true rfl, ?_⟩))⟩)))⟩))⟩))))))⟩))))))
    have hc : ∀ d ∈ rngD 0 (((endN a b : Nat) : Int) + 5).toNat ++ [D.int (if (0 : Int) > (((short (lesR a b)).f.length : Nat) : Int) - 1 then 0 else (((short (lesR a b)).f.length : Nat) : Int) - 1), D.int ((((short (lesR a b)).f.length : Nat) : Int) + 1), nD gr], ∃ n : Nat, d = nD n ∧ n ≤ 10 ^ 70 := fun d hd => by
      rcases List.mem_append.mp hd with h | h
      · unfold rngD at h
        obtain ⟨n, hn, rfl⟩ := List.mem_map.mp h
        have := List.mem_range.mp hn
        exact ⟨n, by rw [Int.zero_add], e70 (by omega)⟩
      · rcases List.mem_cons.mp h with e | h
        · refine ⟨(short (lesR a b)).f.length - 1, ?_, e70 (by omega)⟩
          rw [e]
          show D.int _ = D.int _
          congr 1
          split <;> omega
        · rcases List.mem_cons.mp h with e | h
          · exact ⟨(short (lesR a b)).f.length + 1, e, e70 (by omega)⟩
          · exact ⟨gr, List.mem_singleton.mp h, Nat.le_trans hg (by decide +kernel)⟩
    refine ⟨_, _, _, rfl, rfl, .lst ?_, ?_⟩
    · rw [rng_len]
      show _ + 3 ≤ 100000
      omega
    show WS K _ [some (.val (rD a)), some (.val (rD b)), some (.val (nD gr)), some (.val (.lst [.str za, .str zb])), some (.val .non), some (.val (.tup [.adr p, hiD (short (lesR a b)).s, .int (short (lesR a b)).l])), none, some (.val (.lst (rngD 0 (((endN a b : Nat) : Int) + 5).toNat ++ [D.int (if (0 : Int) > (((short (lesR a b)).f.length : Nat) : Int) - 1 then 0 else (((short (lesR a b)).f.length : Nat) : Int) - 1), D.int ((((short (lesR a b)).f.length : Nat) : Int) + 1), nD gr]))), none] m1 _ _
    generalize rngD 0 (((endN a b : Nat) : Int) + 5).toNat ++ [D.int (if (0 : Int) > (((short (lesR a b)).f.length : Nat) : Int) - 1 then 0 else (((short (lesR a b)).f.length : Nat) : Int) - 1), D.int ((((short (lesR a b)).f.length : Nat) : Int) + 1), nD gr] = cs at hc
    refine ws_seq (ws_for [8] (wi_D (we_var rfl ⟨false, cs, rfl, fun _ r' m' => m' = m1 ∧ ∃ x, r' = [some (.val (rD a)), some (.val (rD b)), some (.val (nD gr)), some (.val (.lst [.str za, .str zb])), some (.val .non), some (.val (.tup [.adr p, hiD (short (lesR a b)).s, .int (short (lesR a b)).l])), none, some (.val (.lst cs)), x], ⟨rfl, _, rfl⟩, ?_, ?_⟩)))
    · rintro i d r' m' hd ⟨rfl, x, rfl⟩
      obtain ⟨n, rfl, hn7⟩ := hc d (List.mem_of_getElem? hd)
      refine wg_name ?_
      exact wsIf (b := false) (wt_test (we_reprNe (a := les a b n) (b := les a b n) (les_big ha hb hn7) (les_big ha hb hn7) (fun h => we_valF (x := short (lesR a b)) (n := n) rfl hp1 hn1 hsl (Nat.le_trans hn7 (by decide +kernel)) (fun q => we_var rfl q) (h _ (by rw [hv]; rfl))) (fun h => we_les (a := a) (b := b) ha hb rfl rfl hn7 (fun q => we_var rfl q) (h _ rfl)) ⟨_, rfl, by rw [decide_eq_true rfl]; rfl, rfl⟩)) (fun h => by cases h) fun _ => ws_next ⟨rfl, _, rfl⟩
    · rintro r' m' ⟨rfl, x, rfl⟩
      refine ws_seq (ws_app (we_unA (we_op (we_var rfl (we_int ⟨_, _, _, rfl, rfl, .tup (d := .adr p) rfl, p, _, rfl, hp1, p, _, rfl, hp1, we_int ⟨_, _, rfl, hp1, by rw [List.length_map]; omega, ?_⟩⟩)))))
      refine ws_ret (we_op (dsp rfl rfl (we_var rfl ⟨_, _, _, rfl, rfl, .mk hsh, ?_⟩)))
      exact q _ (hn1.st (nolst_app (nolst_f _) rfl))
  · refine .many a b ha.o hb.o (by omega) ?_ fun p hp => ?_
    all_goals refine ⟨fx.e_TooMany_TooMany, fx.i_TooMany, _, rfl, ?_⟩
    all_goals show WS K _ [some (.val (rD a)), some (.val (rD b)), some (.val (nD gr)), some (.val (.lst [.str za, .str zb])), some (.val (nD (short (lesR a b)).f.length)), some (.val .non), none, none, none] _ _ _
    all_goals refine ws_seq (wsIf (b := false) (wt_test (we_op (dsp rfl rfl (we_var rfl ⟨_, _, _, rfl, rfl, .mk hsh, _, rfl, rfl, rfl⟩)))) (fun h => by cases h) fun _ => ws_next ?_)
    all_goals refine ws_seq (wsIf (b := true) (Le.wt_nonB rfl rfl) (fun _ => ?_) (fun h => by cases h))
    all_goals refine ws_ret (we_andV (we_call (wa_cons (we_var rfl (wa_nil ⟨_, rfl, plain_int _, true, rfl, (if_pos rfl).mpr (we_andV (we_op (we_var rfl (we_int ⟨_, _, _, rfl, rfl, .int _ _, true, ?_, (if_pos rfl).mpr (we_call (wa_cons (we_var rfl (wa_cons (we_var rfl (wa_cons (we_var rfl (wa_cons (we_var rfl (wa_nil ⟨a, b, gr, rfl, ha, hb, hg, q _ ?_⟩))))))))))⟩))))⟩)))))
    · show Sv.val (.bl (decide _)) = _
      rw [decide_eq_true (by omega)]
    · exact hn
    · show Sv.val (.bl (decide _)) = _
      rw [decide_eq_true (by omega)]
    · exact hn.st (nolst_f _)
theorem sum_sm {a b : Rn} (ha : LeM a) (hb : LeM b) {n : Nat} (hn : n ≤ 10 ^ 70) : ∀ i, sumN a b n = some i → i.natAbs ≤ 10 ^ 93 := fun i e => by
  have e : sumW (valR a n) (valR b n) = some i := e
  have h1 := val_big ha.m hn
  have h2 := val_big hb.m hn
  generalize valR a n = x at *
  generalize valR b n = y at *
  cases x with
  | none => cases y <;> cases e
  | some u =>
    cases y with
    | none => cases e
    | some v =>
      cases e
      have h3 := h1 u rfl
      have h4 := h2 v rfl
      have : (u + v).natAbs ≤ u.natAbs + v.natAbs := by omega
      exact Nat.le_trans this (Nat.le_trans (Nat.add_le_add h3 h4) (by decide +kernel))
theorem m_law_sum_good {K : PySem.W.Frag} : Ok K N_law_sum_good T_law_sum_good (t_law_sum_good K) := by
  rintro ss m Q ⟨a, b, gr, rfl, ha, hb, hg, hn, q⟩
  unfold t_law_sum_good
  have he := end20 ha hb
  obtain ⟨za, hza⟩ := repr_run ha.m
  obtain ⟨zb, hzb⟩ := repr_run hb.m
  have oka := ok_repr hza (sk_run a)
  have okb := ok_repr hzb (sk_run b)
  have hsh : REq (.lst [.str za, .str zb]) (.lst [.str za, .str zb]) true := req_txt2 oka okb
  have dsp : ∀ {m : Sto} {r : Ro} {Q : Sv → Sto → Prop}, r[0]? = some (some (.val (rD a))) → r[1]? = some (some (.val (rD b))) → Q (.val (.lst [.str za, .str zb])) m → WE K r m (tLst (tCons (tCB (rDN K RRepr) (tCons (tVar 0) tNil)) (tCons (tCB (rDN K RRepr) (tCons (tVar 1) tNil)) tNil))) Q := fun h1 h2 q =>
    we_lstV (wa_cons (we_cb (wa_cons (we_var h1 (wa_nil ⟨[rD a], _, rfl, hza, wa_cons (we_cb (wa_cons (we_var h2 (wa_nil ⟨[rD b], _, rfl, hzb, wa_nil ⟨_, by repeat constructor, Nat.le_of_ble_eq_true rfl, q⟩⟩))))⟩)))))
  refine ws_seq (ws_asg (dsp rfl rfl ?_))
  refine ws_seq (ws_asg (we_callX (wa_cons (we_var rfl (wa_cons (we_var rfl (wa_nil ⟨rD a, rD b, rfl, .ok a b ha.o hb.o fun p hp => ?_⟩)))))))
  have hv : ∀ n, sumN a b n = valR (short (sumR a b)) n := fun n => by rw [Ru.val_short, Le.val_sum]
  have hrb : runB (rD (short (sumR a b))) = true := runB_short (Le.non_sum a b)
  have hsl : (short (sumR a b)).l.natAbs ≤ 10 ^ 400 := by
    have h1 := ha.m.slope
    have h2 := hb.m.slope
    show (if sumN a b (endN a b) = none then (0 : Int) else a.l + b.l).natAbs ≤ _
    split
    · exact Nat.zero_le _
    · have : (a.l + b.l).natAbs ≤ a.l.natAbs + b.l.natAbs := by omega
      exact Nat.le_trans this (Nat.le_trans (Nat.add_le_add h1 h2) (by decide +kernel))
  have hl : (short (sumR a b)).f.length ≤ endN a b := by
    have := Ru.short_len (sumR a b)
    have e : (sumR a b).f.length = endN a b := by show ((List.range (endN a b)).map _).length = _; rw [List.length_map, List.length_range]
    omega
  obtain ⟨z, hz⟩ := run_z (r := short (sumR a b)) (fun n hn i e => by rw [← hv] at e; exact Nat.le_trans (sum_sm ha hb (e70 (by omega)) i e) (by decide +kernel)) hsl (by omega)
  have hp1 : (stS m p ((short (sumR a b)).f.map hiD)) p = some ((short (sumR a b)).f.map hiD) := stS_same
  have hn1 : NoL (stS m p ((short (sumR a b)).f.map hiD)) := hn.st (nolst_f _)
  have hsy : short (sumR b a) = short (sumR a b) := by rw [Le.sumR_symm]
  show WS K _ [some (.val (rD a)), some (.val (rD b)), some (.val (nD gr)), some (.val (.lst [.str za, .str zb])), some (.val (.tup [.adr p, hiD (short (sumR a b)).s, .int (short (sumR a b)).l])), none, none, none] (stS m p ((short (sumR a b)).f.map hiD)) _ _
  generalize hm1 : stS m p ((short (sumR a b)).f.map hiD) = m1 at *
  refine ws_seq (wsIf (b := false) (wtO (a := false) (b := false) (wt_test (we_op (dsp rfl rfl (we_var rfl ⟨_, _, _, rfl, rfl, .mk hsh, _, rfl, rfl, rfl⟩)))) fun _ => wtO (a := false) (b := false) (wt_leastF (x := short (sumR a b)) rfl hp1 hn1 (by omega) hrb) fun _ => wt_test (we_op (we_cb (wa_cons (we_sumR (a := b) (b := a) rfl rfl hb.o ha.o (by rw [hsy]; exact wa_nil ⟨[rD (short (sumR a b))], _, rfl, hz, we_reprF (x := short (sumR a b)) rfl hp1 hn1 hz ⟨_, _, _, rfl, rfl, .mk (.str z z), _, rfl, by rw [decide_eq_true rfl]; rfl, rfl⟩⟩)))))) (fun h => by cases h) fun _ => ws_next ?_)
  refine ws_seq (ws_asg (Me.we_end (a := a) (b := b) rfl rfl ?_))
  show WS K _ [some (.val (rD a)), some (.val (rD b)), some (.val (nD gr)), some (.val (.lst [.str za, .str zb])), some (.val (.tup [.adr p, hiD (short (sumR a b)).s, .int (short (sumR a b)).l])), some (.val (nD (endN a b))), none, none] m1 _ _
  refine ws_seq (ws_for [6] (wi_D (we_op (we_listRg (we_op (we_var rfl (we_int ⟨_, _, _, rfl, rfl, .int _ _, _, rfl, by omega, by omega, we_lstV (wa_cons (we_var rfl (wa_nil ⟨_, by repeat constructor, Nat.le_of_ble_eq_true rfl, ?_⟩)))⟩)))))))
  have hc : ∀ d ∈ rngD 0 (((endN a b : Nat) : Int) + 5).toNat ++ [nD gr], ∃ n : Nat, d = nD n ∧ n ≤ 10 ^ 70 := fun d hd => by
    rcases List.mem_append.mp hd with h | h
    · unfold rngD at h
      obtain ⟨n, hn, rfl⟩ := List.mem_map.mp h
      have := List.mem_range.mp hn
      exact ⟨n, by rw [Int.zero_add], e70 (by omega)⟩
    · exact ⟨gr, List.mem_singleton.mp h, Nat.le_trans hg (by decide +kernel)⟩
  refine ⟨_, _, _, rfl, rfl, .lst ?_, ?_⟩
  · rw [rng_len]
    show _ + 1 ≤ 100000
    omega
  generalize rngD 0 (((endN a b : Nat) : Int) + 5).toNat ++ [nD gr] = cs at hc
  refine ⟨false, cs, rfl, fun _ r' m' => m' = m1 ∧ ∃ x y, r' = [some (.val (rD a)), some (.val (rD b)), some (.val (nD gr)), some (.val (.lst [.str za, .str zb])), some (.val (.tup [.adr p, hiD (short (sumR a b)).s, .int (short (sumR a b)).l])), some (.val (nD (endN a b))), x, y], ⟨rfl, _, _, rfl⟩, ?_, ?_⟩
  · rintro i d r' m' hd ⟨rfl, x, y, rfl⟩
    obtain ⟨n, rfl, hn7⟩ := hc d (List.mem_of_getElem? hd)
    refine wg_name ?_
    have bg : big (sumN a b n) := fun i e => Nat.le_trans (sum_sm ha hb hn7 i e) (by decide +kernel)
    refine ws_seq (ws_asg (we_call (wa_cons (we_lval (x := a) (n := n) rfl ha.m.slope hn7 (fun q => we_var rfl q) (wa_cons (we_lval (x := b) (n := n) rfl hb.m.slope hn7 (fun q => we_var rfl q) (wa_nil ⟨_, _, rfl, ?_⟩)))))))
    show WS K _ [some (.val (rD a)), some (.val (rD b)), some (.val (nD gr)), some (.val (.lst [.str za, .str zb])), some (.val (.tup [.adr p, hiD (short (sumR a b)).s, .int (short (sumR a b)).l])), some (.val (nD (endN a b))), some (.val (nD n)), some (.val (hiD (sumN a b n)))] m' _ _
    exact wsIf (b := false) (wt_test (we_reprNe (a := sumN a b n) (b := sumN a b n) bg bg (fun h => we_valF (x := short (sumR a b)) (n := n) rfl hp1 hn1 hsl (Nat.le_trans hn7 (by decide +kernel)) (fun q => we_var rfl q) (h _ (by rw [hv]; rfl))) (fun h => we_var rfl (h _ rfl)) ⟨_, rfl, by rw [decide_eq_true rfl]; rfl, rfl⟩)) (fun h => by cases h) fun _ => ws_next ⟨rfl, _, _, rfl⟩
  · rintro r' m' ⟨rfl, x, y, rfl⟩
    refine ws_seq (ws_app (we_unA (we_op (we_var rfl (we_int ⟨_, _, _, rfl, rfl, .tup (d := .adr p) rfl, p, _, rfl, hp1, p, _, rfl, hp1, we_int ⟨_, _, rfl, hp1, by rw [List.length_map]; omega, ?_⟩⟩)))))
    have e7 : (short (sumR a b)).f.map hiD ++ [D.int 7] = ((short (sumR a b)).f ++ [some 7]).map hiD := by rw [List.map_append]; rfl
    rw [e7]
    have hp2 : (stS m' p (((short (sumR a b)).f ++ [some 7]).map hiD)) p = some (((short (sumR a b)).f ++ [some 7]).map hiD) := stS_same
    refine ws_ret (we_andV (we_op (we_lenF (f := (short (sumR a b)).f ++ [some 7]) rfl hp2 (we_op (we_var rfl (we_int ⟨_, _, _, rfl, rfl, .int _ _, _, _, _, rfl, rfl, .int _ _, true, ?_, (if_pos rfl).mpr (we_op (dsp rfl rfl (we_var rfl ⟨_, _, _, rfl, rfl, .mk hsh, ?_⟩)))⟩))))))
    · show Sv.val (.bl (decide _)) = _
      rw [decide_eq_true (by rw [List.length_append]; show ((((short (sumR a b)).f.length + 1 : Nat)) : Int) ≤ ((endN a b : Nat) : Int) + 1; omega)]
    · exact q _ (hn1.st (nolst_f _))
theorem m_law_caught {K : PySem.W.Frag} (fx : Fx K) : Ok K N_law_caught T_law_caught (t_law_caught K) := by
  rintro ss m Q ⟨w, gs, d, z, rfl, hw, hc, hr, q⟩
  unfold t_law_caught
  refine ws_seq (ws_asg (we_non ?_))
  refine ws_seq (ws_tryK fun W => ?_)
  have rest : ∀ {P : Eds} {C : Addr}, P.rt = Q → C = He.ga K "InvalidRun" → WS K (dom m) [some (.val (.int w)), some (.val (.lst gs)), some (.val (.exc C [("value", d)])), none] m (tRet (tIf (tB (tCB (rDN K (RIsx K)) (tCons (tVar 2) (tCons (tC (.ref (He.ga K "InvalidRun"))) tNil)))) (tCB (rDN K RRepr) (tCons (tXval K (tVar 2)) tNil)) (tC (.str ("none" : Str))))) P := fun {P C} hP hC => by
    subst hC
    refine ws_ret (weIf (b := true) (wt_one rfl fx.i_InvalidRun fx.o_InvalidRun_InvalidRun) (fun _ => we_cb (wa_cons (we_xval (we_var rfl ⟨_, _, d, rfl, fx.i_InvalidRun, rfl, wa_nil ⟨[d], _, rfl, hr, by rw [hP]; exact q⟩⟩)))) (fun h => by cases h))
  have args : ∀ {d1 d2 : D} {R : List Sv → Sto → Prop} {s3 : Option Sv}, gs = [d1, d2] → R [.val d1, .val d2] m → WA K [some (.val (.int w)), some (.val (.lst gs)), some (.val .non), s3] m (tCons (tOp (rD2 K RIx) (tVar 1) (tC (.int 0))) (tCons (tOp (rD2 K RIx) (tVar 1) (tC (.int 1))) tNil)) R := fun {d1 d2 R s3} hg h => by
    subst hg
    exact wa_cons (we_op (we_var rfl (we_int ⟨_, _, _, rfl, rfl, .lst (d := d1) rfl, wa_cons (we_op (we_var rfl (we_int ⟨_, _, _, rfl, rfl, .lst (d := d2) rfl, wa_nil h⟩)))⟩)))
  refine wsIf (wt_eqI rfl) (fun _ => ?_) fun _ => ?_
  · cases hc with
    | one h1 h2 =>
      refine ws_dropX (args rfl ⟨_, _, rfl, .one h1 h2 ⟨fx.e_InvalidRun_CountError, ?_⟩⟩)
      exact rest rfl rfl
    | other h0 h1 h2 =>
      refine ws_dropX (args rfl ⟨_, _, rfl, .other h0 h1 h2 ⟨fx.e_InvalidRun_CountError, ?_⟩⟩)
      exact rest rfl rfl
  · cases hc with
    | one h1 h2 =>
      refine ws_dropX (args rfl ⟨_, _, rfl, .one h1 h2 ⟨fx.e_InvalidRun_CountError, ?_⟩⟩)
      exact rest rfl rfl
    | other h0 h1 h2 =>
      refine ws_dropX (args rfl ⟨_, _, rfl, .other h0 h1 h2 ⟨fx.e_InvalidRun_CountError, ?_⟩⟩)
      exact rest rfl rfl
end L29

namespace L29
open PySem PySem.Spec PyProof.Rows L2 Cr
local macro_rules | `(tactic| walk_at "w") => `(tactic| first
  | with_reducible refine ws_seq ?_ | with_reducible refine ws_asg ?_ | with_reducible refine ws_ret ?_ | with_reducible refine ws_retN ?_ | with_reducible refine ws_drop ?_ | with_reducible refine ws_if ?_
  | with_reducible refine ws_next ?_ | with_reducible refine ws_par ?_ | with_reducible refine ws_par3 ?_
  | with_reducible refine we_int ?_ | with_reducible refine we_str ?_ | with_reducible refine we_bl ?_ | with_reducible refine we_non ?_ | with_reducible refine we_op ?_ | with_reducible refine we_un ?_
  | with_reducible refine we_cb ?_ | with_reducible refine we_if ?_ | with_reducible refine we_tup ?_ | with_reducible refine we_call ?_ | with_reducible refine wa_cons ?_ | with_reducible refine wa_nil ?_
  | with_reducible refine wt_val ?_ | with_reducible refine wt_test ?_ | with_reducible refine wt_and ?_ | with_reducible refine wt_or ?_ | with_reducible refine wt_not ?_ | with_reducible refine wt_yes ?_
  | with_reducible refine we_andV ?_ | with_reducible refine we_orV ?_ | with_reducible refine we_notV ?_ | with_reducible refine we_chain ?_ | with_reducible refine we_slice ?_ | with_reducible refine wo_none ?_ | with_reducible refine wo_some ?_
  | with_reducible refine we_bits ?_ | refine we_var (by rfl) ?_)
local macro_rules | `(tactic| walk_at "i2") => `(tactic| refine ⟨_, _, _, rfl, rfl, .int _ _, ?_⟩)
local macro_rules | `(tactic| walk_at "in") => `(tactic| refine ⟨_, _, rfl, .int _, ?_⟩)
local macro_rules | `(tactic| walk_at "n") => `(tactic| simp only [List.set_cons_succ, List.set_cons_zero])

open Ru (Wo Rn fD rD back worthD areD slopeD runB lastOk valR short shortG RunQ)
open Ge
open Me (LeO endN nD)
open Le (les sumN lesW sumW slopeE lesR sumR)
local macro_rules | `(tactic| walk_at "lits") => `(tactic| repeat (first | refine we_lstV ?_ | refine we_tupV ?_ | refine wa_cons ?_ | refine we_non ?_ | refine we_str ?_ | refine we_bl ?_ | refine we_int ?_ | refine we_un (we_int ⟨_, _, rfl, .int _, ?_⟩) | refine we_var (by rfl) ?_ | refine wa_nil ⟨_, by repeat constructor, Nat.le_of_ble_eq_true (by rfl), ?_⟩ ))
section
variable {K : PySem.W.Frag} {ro : Ro} {m : Sto}
theorem wt_lg {a b : Rn} {gr : Nat} {ta tb tg : TE} {R : Bool → Sto → Prop} (ha : LeM a) (hb : LeM b) (hg : gr ≤ 10 ^ 31) (hn : NoL m) (h1 : ∀ {Q : Sv → Sto → Prop}, Q (.val (rD a)) m → WE K ro m ta Q) (h2 : ∀ {Q : Sv → Sto → Prop}, Q (.val (rD b)) m → WE K ro m tb Q) (h3 : ∀ {Q : Sv → Sto → Prop}, Q (.val (nD gr)) m → WE K ro m tg Q) (q : ∀ m', NoL m' → R false m') :
    WT K ro m (tNot (tB (tCall (SpD K T_law_lesser_good) [] E0 (tCons ta (tCons tb (tCons tg tNil)))))) R :=
  wt_not (wt_val (we_call (wa_cons (h1 (wa_cons (h2 (wa_cons (h3 (wa_nil ⟨a, b, gr, rfl, ha, hb, hg, hn, fun m' hn' => ⟨true, rfl, q m' hn'⟩⟩)))))))))
theorem wt_sg {a b : Rn} {gr : Nat} {ta tb tg : TE} {R : Bool → Sto → Prop} (ha : LeM a) (hb : LeM b) (hg : gr ≤ 10 ^ 31) (hn : NoL m) (h1 : ∀ {Q : Sv → Sto → Prop}, Q (.val (rD a)) m → WE K ro m ta Q) (h2 : ∀ {Q : Sv → Sto → Prop}, Q (.val (rD b)) m → WE K ro m tb Q) (h3 : ∀ {Q : Sv → Sto → Prop}, Q (.val (nD gr)) m → WE K ro m tg Q) (q : ∀ m', NoL m' → R false m') :
    WT K ro m (tNot (tB (tCall (SpD K T_law_sum_good) [] E0 (tCons ta (tCons tb (tCons tg tNil)))))) R :=
  wt_not (wt_val (we_call (wa_cons (h1 (wa_cons (h2 (wa_cons (h3 (wa_nil ⟨a, b, gr, rfl, ha, hb, hg, hn, fun m' hn' => ⟨true, rfl, q m' hn'⟩⟩)))))))))
theorem we_sumT {ta tb : TE} {Q : Sv → Sto → Prop} (a b c : Rn) (e : short (sumR a b) = c) (ha : LeO a) (hb : LeO b) (h1 : ∀ {Q : Sv → Sto → Prop}, Q (.val (rD a)) m → WE K ro m ta Q) (h2 : ∀ {Q : Sv → Sto → Prop}, Q (.val (rD b)) m → WE K ro m tb Q) (q : Q (.val (rD c)) m) :
    WE K ro m (tCallX wF (SpX K (T_run_sum K)) (tCons ta (tCons tb tNil))) Q := by
  refine we_freeT (we_callX (wa_cons (h1 (wa_cons (h2 (wa_nil ⟨rD a, rD b, rfl, .ok a b ha hb fun p hp => ⟨p, _, _, rfl, hp, stS_same, ?_⟩⟩))))))
  rw [stD_stS hp, frz_r]
  subst e
  exact q
theorem we_sumK {ta tb : TE} {Q : Sv → Sto → Prop} (a b c : Rn) (e : short (sumR b a) = c) (ha : LeO a) (hb : LeO b) (h1 : ∀ {Q : Sv → Sto → Prop}, Q (.val (rD a)) m → WE K ro m ta Q) (h2 : ∀ {Q : Sv → Sto → Prop}, Q (.val (rD b)) m → WE K ro m tb Q) (q : Q (.val (rD c)) m) :
    WE K ro m (tCallXKw 2 [1, 0] wF (SpX K (T_run_sum K)) (tCons ta (tCons tb tNil))) Q := by
  refine we_freeT (we_callXK (wa_cons (h1 (wa_cons (h2 (wa_nil ⟨rfl, rD b, rD a, rfl, .ok b a hb ha fun p hp => ⟨p, _, _, rfl, hp, stS_same, ?_⟩⟩))))))
  rw [stD_stS hp, frz_r]
  subst e
  exact q
theorem we_lesT {ta tb : TE} {Q : Sv → Sto → Prop} (a b c : Rn) (e : short (lesR a b) = c) (hl : c.f.length ≤ 600) (ha : LeO a) (hb : LeO b) (h1 : ∀ {Q : Sv → Sto → Prop}, Q (.val (rD a)) m → WE K ro m ta Q) (h2 : ∀ {Q : Sv → Sto → Prop}, Q (.val (rD b)) m → WE K ro m tb Q) (q : Q (.val (rD c)) m) :
    WE K ro m (tCallX wF (SpX K (T_run_lesser K)) (tCons ta (tCons tb tNil))) Q := by
  subst e
  refine we_freeT (we_callX (wa_cons (h1 (wa_cons (h2 (wa_nil ⟨rD a, rD b, rfl, .ok a b ha hb hl fun p hp => ⟨p, _, _, rfl, hp, stS_same, ?_⟩⟩))))))
  rw [stD_stS hp, frz_r]
  exact q
end
theorem leO_c {r : Rn} (h1 : decide (r.f.length ≤ 1000) = true) (h2 : runB (rD r) = true) (h3 : decide (r.l.natAbs ≤ 1000) = true) : LeO r := ⟨of_decide_eq_true h1, h2, Nat.le_trans (of_decide_eq_true h3) (by decide +kernel)⟩
def wB (o : Wo) : Bool := match o with
  | none => true
  | some i => decide (i.natAbs ≤ 1000)
theorem wB_ok {o : Wo} (h : wB o = true) : wsM o := fun i e => by
  subst e
  exact Nat.le_trans (of_decide_eq_true h) (by decide +kernel)
def leB (r : Rn) : Bool := decide (r.f.length ≤ 20) && (runB (rD r) && (decide (r.l.natAbs ≤ 1000) && (r.f.all wB && (wB r.s && (r.s.isSome || decide (r.l = 0))))))
theorem leM_c {r : Rn} (h : leB r = true) : LeM r := by
  obtain ⟨h1, h⟩ := He.ba h
  obtain ⟨h2, h⟩ := He.ba h
  obtain ⟨h3, h⟩ := He.ba h
  obtain ⟨h4, h⟩ := He.ba h
  obtain ⟨h5, h6⟩ := He.ba h
  have h1' := of_decide_eq_true h1
  have h3' := of_decide_eq_true h3
  refine ⟨⟨by omega, h2, Nat.le_trans h3' (by decide +kernel)⟩, ⟨h1', fun o ho => wB_ok (List.all_eq_true.mp h4 o ho), wB_ok h5, Nat.le_trans h3' (by decide +kernel), ?_⟩⟩
  rw [Bool.or_eq_true, decide_eq_true_eq] at h6
  exact h6
abbrev bads : List D := [.non, .int 3, .tup [.lst [.int 1], .int 1, .int 0], .tup [.lst [], .non, .int 2], .lst [.lst [], .int 1, .int 1], .tup [.lst [.bl true], .int 0, .int 0], .tup [.lst [], .int 1]]
def b4 (d : D) : Bool := runQB d && (!runB d && reprB d)
theorem a4 : bads.all b4 = true := by decide +kernel
theorem nb {b : Bool} (h : (!b) = true) : b = false := by simpa using h
abbrev dTold : D := .lst [rD ⟨[some 2], some 3, 2⟩, rD ⟨[], none, 0⟩, rD ⟨[some 0, some 2, some 4], some 6, 1⟩]
def lawRest (K : PySem.W.Frag) : TS := (tSeq (tPar 4 5 (tCons (tCall (SpD K T_law_made_least) [] E0 (tCons (tOp (rD2 K RIx) (tVar 3) (tC (.int 0))) tNil)) (tCons (tCall (SpD K T_law_made_least) [] E0 (tCons (tOp (rD2 K RIx) (tVar 3) (tC (.int 1))) tNil)) tNil))) (tSeq (tAsg (tOp (rD2 K RAdd) (tOp (rD2 K RPow) (tC (.int 10)) (tC (.int 24))) (tCall (SpD K T_law_random) [] E0 (tCons (tVar 2) (tCons (tOp (rD2 K RPow) (tC (.int 10)) (tC (.int 30))) tNil)))) (gName 6)) (tSeq (tIfS (tOr (tNot (tB (tCall (SpD K T_law_lesser_good) [] E0 (tCons (tVar 4) (tCons (tVar 5) (tCons (tVar 6) tNil)))))) (tNot (tB (tCall (SpD K T_law_sum_good) [] E0 (tCons (tVar 4) (tCons (tVar 5) (tCons (tVar 6) tNil))))))) (tRet (tC (.bl false))) tNext) (tSeq (tIfS (tOr (tNot (tB (tCall (SpD K T_law_lesser_good) [] E0 (tCons (tVar 4) (tCons (tVar 4) (tCons (tVar 6) tNil)))))) (tNot (tB (tCall (SpD K T_law_lesser_good) [] E0 (tCons (tVar 4) (tCons (tTup (tCons (tLst tNil) (tCons (tC .non) (tCons (tC (.int 0)) tNil)))) (tCons (tVar 6) tNil))))))) (tRet (tC (.bl false))) tNext) (tIfS (tNot (tB (tCall (SpD K T_law_sum_good) [] E0 (tCons (tVar 4) (tCons (tTup (tCons (tLst tNil) (tCons (tC (.int 0)) (tCons (tC (.int 0)) tNil)))) (tCons (tVar 6) tNil)))))) (tRet (tC (.bl false))) tNext)))))
theorem m_law {K : PySem.W.Frag} : Ok K N_law T_law (t_law K) := by
  rintro ss m Q ⟨ns, rfl, hl, hb, hm, q⟩
  unfold t_law
  have hN : NoL m := fun p es e => by rw [hm p] at e; cases e
  have ten : ∀ {ro : Ro} {m : Sto} {Q : Sv → Sto → Prop}, Q (.val (nD (10 ^ 24))) m → WE K ro m (tOp (rD2 K RPow) (tC (.int 10)) (tC (.int 24))) Q := fun {ro m Q'} q => we_op (we_int (we_int ⟨_, _, _, rfl, rfl, .int (by decide) (by decide), by show Q' (.val (.int ((10 : Int) ^ 24))) _; exact q⟩))
  have n24 : 10 ^ 24 ≤ 10 ^ 31 := by decide +kernel
  refine ws_seq (ws_for [1] (wi_rng1 (wa_cons (we_int (wa_nil ⟨4, rfl, by decide, by decide, fun _ r' m' => NoL m' ∧ ∃ x y z u v w, r' = [some (.val (.scr ns)), x, y, z, u, v, w, none, none, none], ⟨hN, _, _, _, _, _, _, rfl⟩, ?_, ?_⟩)))))
  · rintro i d r' m' hd ⟨hN1, x, y, z, u, v, w, rfl⟩
    obtain ⟨rfl, hi⟩ := rng_get0 hd
    have hi2 : i < 4 := hi
    refine wg_name ?_
    show WS K _ [some (.val (.scr ns)), some (.val (.int (i : Int))), y, z, u, v, w, none, none, none] m' _ _
    refine ws_seq (ws_asg (we_call (wa_cons (we_var rfl (wa_cons (we_var rfl (wa_nil ⟨ns, _, rfl, by omega, by omega, hb, fun p m2 hp hG hF => ?_⟩)))))))
    have hN2 := hN1.fr hF hG
    refine ws_seq (ws_asg (we_lstV (wa_cons (we_call (wa_cons (we_var rfl (wa_cons (we_int (wa_nil ⟨p, 1000, 5, rfl, by decide, by decide, hG.mono (by decide), fun a m3 ha hG3 hF3 => wa_cons (we_call (wa_cons (we_var rfl (wa_cons (we_int (wa_nil ⟨p, 900, 5, rfl, by decide, by decide, hG3.mono (by decide), fun b m4 hb2 hG4 hF4 => wa_nil ⟨_, by repeat constructor, Nat.le_of_ble_eq_true rfl, ?_⟩⟩))))))⟩)))))))))
    have hN4 := (hN2.fr hF3 hG3).fr hF4 hG4
    show WS K _ [some (.val (.scr ns)), some (.val (.int (i : Int))), some (.adr p), some (.val (.lst [rD a, rD b])), u, v, w, none, none, none] m4 _ _
    have main : ∀ {M : Dm} {P : Eds} (a b : Rn) (m5 : Sto), RawM a → RawM b → GenI m5 p 10 → NoL m5 → (∀ m6, NoL m6 → ∀ u v w, P.nx [some (.val (.scr ns)), some (.val (.int (i : Int))), some (.adr p), some (.val (.lst [rD a, rD b])), u, v, w, none, none, none] m6) → WS K M [some (.val (.scr ns)), some (.val (.int (i : Int))), some (.adr p), some (.val (.lst [rD a, rD b])), u, v, w, none, none, none] m5 (lawRest K) P := fun {M P} a b m5 ha hb hG5 hN5 qq => by
      unfold lawRest
      have la := short_leM ha
      have lb := short_leM hb
      refine ws_seq (ws_par (wa_cons (we_made a ha (fun h => wa_cons (we_op (we_var rfl (we_int ⟨_, _, _, rfl, rfl, .lst (d := rD a) rfl, wa_nil h⟩)))) (wa_cons (we_made b hb (fun h => wa_cons (we_op (we_var rfl (we_int ⟨_, _, _, rfl, rfl, .lst (d := rD b) rfl, wa_nil h⟩)))) (wa_nil ⟨_, _, rfl, ?_⟩))))))
      show WS K _ [some (.val (.scr ns)), some (.val (.int (i : Int))), some (.adr p), some (.val (.lst [rD a, rD b])), some (.val (rD (short a))), some (.val (rD (short b))), w, none, none, none] m5 _ _
      refine ws_seq (ws_asg (we_op (ten (we_rnd (b := 10 ^ 30) 9 rfl (we_op (we_int (we_int ⟨_, _, _, rfl, rfl, .int (by decide) (by decide), rfl, rfl⟩))) hG5 (by decide) (Int.le_refl _) fun t m6 t0 t1 hG6 hF6 => ⟨_, _, _, rfl, rfl, .int _ _, ?_⟩))))
      have hN6 := hN5.fr hF6 hG6
      obtain ⟨t, rfl⟩ := Int.eq_ofNat_of_zero_le t0
      have hgr : 10 ^ 24 + t ≤ 10 ^ 31 := by omega
      show WS K _ [some (.val (.scr ns)), some (.val (.int (i : Int))), some (.adr p), some (.val (.lst [rD a, rD b])), some (.val (rD (short a))), some (.val (rD (short b))), some (.val (.int (((10 ^ 24 : Nat) : Int) + (t : Int)))), none, none, none] m6 _ _
      rw [show ((10 ^ 24 : Nat) : Int) + (t : Int) = ((10 ^ 24 + t : Nat) : Int) from (Int.natCast_add _ _).symm]
      generalize 10 ^ 24 + t = gr at hgr
      show WS K _ [some (.val (.scr ns)), some (.val (.int (i : Int))), some (.adr p), some (.val (.lst [rD a, rD b])), some (.val (rD (short a))), some (.val (rD (short b))), some (.val (nD gr)), none, none, none] m6 _ _
      refine ws_seq (ws_if (wt_or (wt_lg (a := short a) (b := short b) (gr := gr) la lb hgr hN6 (fun q => we_var rfl q) (fun q => we_var rfl q) (fun q => we_var rfl q) fun m7 hN7 => (if_neg Bool.false_ne_true).mpr (wt_sg (a := short a) (b := short b) (gr := gr) la lb hgr hN7 (fun q => we_var rfl q) (fun q => we_var rfl q) (fun q => we_var rfl q) fun m8 hN8 => (if_neg Bool.false_ne_true).mpr (ws_next ?_)))))
      refine ws_seq (ws_if (wt_or (wt_lg (a := short a) (b := short a) (gr := gr) la la hgr hN8 (fun q => we_var rfl q) (fun q => we_var rfl q) (fun q => we_var rfl q) fun m9 hN9 => (if_neg Bool.false_ne_true).mpr (wt_lg (a := short a) (b := ⟨[], none, 0⟩) (gr := gr) la (leM_c (by decide +kernel)) hgr hN9 (fun q => we_var rfl q) (fun q => ?_) (fun q => we_var rfl q) fun m10 hN10 => (if_neg Bool.false_ne_true).mpr (ws_next ?_)))))
      · walk_at "lits"; exact q
      refine ws_if (wt_sg (a := short a) (b := ⟨[], some 0, 0⟩) (gr := gr) la (leM_c (by decide +kernel)) hgr hN10 (fun q => we_var rfl q) (fun q => ?_) (fun q => we_var rfl q) fun m11 hN11 => (if_neg Bool.false_ne_true).mpr (ws_next (qq m11 hN11 _ _ _)))
      walk_at "lits"; exact q
    refine ws_seq (ws_if (wt_test (we_op (we_rndC 800 rfl (hG4.mono (by decide)) (by decide) (by decide) fun t m5 t0 t1 hG5 hF5 => we_int ⟨_, _, _, rfl, rfl, .mk (.int _ _), _, rfl, ite_dec (fun _ => ?_) fun _ => ?_⟩))))
    · have hN5 := hN4.fr hF5 hG5
      refine ws_asg (we_call (wa_cons (we_var rfl (wa_nil ⟨p, 500, rfl, hG5.mono (by decide), fun a b m6 ha hb hG6 hF6 => ?_⟩))))
      refine main a b m6 ha hb (hG6.mono (by decide)) (hN5.fr hF6 hG6) ?_
      exact fun m7 hN7 u v w => ⟨hN7, _, _, _, _, _, _, rfl⟩
    · refine ws_next (main a b m5 ha.m hb2.m (hG5.mono (by decide)) (hN4.fr hF5 hG5) ?_)
      exact fun m7 hN7 u v w => ⟨hN7, _, _, _, _, _, _, rfl⟩
  · rintro r' m' ⟨hN1, x, y, z, u, v, w, rfl⟩
    refine ws_seq (ws_for [7] (wi_D ?_))
    have lb : ∀ {Q : Sv → Sto → Prop}, Q (.val (.lst bads)) m' → WE K [some (.val (.scr ns)), x, y, z, u, v, w, none, none, none] m' (tLst (tCons (tC .non) (tCons (tC (.int 3)) (tCons (tTup (tCons (tLst (tCons (tC (.int 1)) tNil)) (tCons (tC (.int 1)) (tCons (tC (.int 0)) tNil)))) (tCons (tTup (tCons (tLst tNil) (tCons (tC .non) (tCons (tC (.int 2)) tNil)))) (tCons (tLst (tCons (tLst tNil) (tCons (tC (.int 1)) (tCons (tC (.int 1)) tNil)))) (tCons (tTup (tCons (tLst (tCons (tC (.bl true)) tNil)) (tCons (tC (.int 0)) (tCons (tC (.int 0)) tNil)))) (tCons (tTup (tCons (tLst tNil) (tCons (tC (.int 1)) tNil))) tNil)))))))) Q := fun q => by walk_at "lits"; exact q
    refine lb ⟨false, bads, rfl, fun _ r' m2 => m2 = m' ∧ ∃ s t, r' = [some (.val (.scr ns)), x, y, z, u, v, w, s, t, none], ⟨rfl, _, _, rfl⟩, ?_, ?_⟩
    · rintro i d r' m2 hd ⟨rfl, s, t, rfl⟩
      obtain ⟨h1, h⟩ := He.ba (List.all_eq_true.mp a4 d (List.mem_of_getElem? hd))
      obtain ⟨h3, h4⟩ := He.ba h
      have hq := runQB_ok h1
      have hn := nb h3
      obtain ⟨zz, hz, _⟩ := reprB_ok h4
      refine wg_name ?_
      show WS K _ [some (.val (.scr ns)), x, y, z, u, v, w, some (.val d), t, none] m2 _ _
      refine ws_for [8] (wi_rng1 (wa_cons (we_int (wa_nil ⟨2, rfl, by decide, by decide, fun _ r' m3 => m3 = m2 ∧ ∃ t, r' = [some (.val (.scr ns)), x, y, z, u, v, w, some (.val d), t, none], ⟨rfl, _, rfl⟩, ?_, ?_⟩))))
      · rintro j d2 r' m3 hd2 ⟨rfl, t, rfl⟩
        obtain ⟨rfl, hj⟩ := rng_get0 hd2
        have hj2 : j < 2 := hj
        have hw : (j : Int) = 0 ∨ (j : Int) = 1 := by omega
        refine wg_name ?_
        show WS K _ [some (.val (.scr ns)), x, y, z, u, v, w, some (.val d), some (.val (.int (j : Int))), none] m3 _ _
        have t1 : ∀ {gs : List D} {tgs : TE}, (∀ {Q : Sv → Sto → Prop}, Q (.val (.lst gs)) m3 → WE K [some (.val (.scr ns)), x, y, z, u, v, w, some (.val d), some (.val (.int (j : Int))), none] m3 tgs Q) → Caught gs d → WT K [some (.val (.scr ns)), x, y, z, u, v, w, some (.val d), some (.val (.int (j : Int))), none] m3 (tTest (tOp (rD2 K RNeR) (tCall (SpD K T_law_caught) [] E0 (tCons (tVar 8) (tCons tgs tNil))) (tCB (rDN K RRepr) (tCons (tVar 7) tNil)))) fun y m1 => y = false ∧ m1 = m3 := fun {gs tgs} hg hc =>
          wt_test (we_op (we_call (wa_cons (we_var rfl (wa_cons (hg (wa_nil ⟨j, gs, d, zz, rfl, hw, hc, hz, we_cb (wa_cons (we_var rfl (wa_nil ⟨[d], _, rfl, hz, _, _, _, rfl, rfl, .mk (.str zz zz), _, rfl, by rw [decide_eq_true rfl]; rfl, rfl⟩)))⟩)))))))
        refine wsIf (b := false) (wtO (a := false) (b := false) (t1 (gs := [d, .non]) (fun q => ?_) (.one hq hn)) fun _ => t1 (gs := [rD ⟨[], some 1, 1⟩, d]) (fun q => ?_) (.other (leO_c (by decide) (by decide +kernel) (by decide)) hq hn)) (fun h => by cases h) fun _ => ws_next ⟨rfl, _, rfl⟩
        · walk_at "lits"; exact q
        · walk_at "lits"; exact q
      · rintro r' m3 ⟨rfl, t, rfl⟩
        exact ⟨rfl, _, _, rfl⟩
    rintro r' m2 ⟨rfl, s, t, rfl⟩
    refine ws_seq (ws_if (wt_lg (a := ⟨[some 9], some 0, 2⟩) (b := ⟨[], some 700, 1⟩) (gr := 10 ^ 24) (leM_c (by decide +kernel)) (leM_c (by decide +kernel)) n24 hN1 (fun q => ?_) (fun q => ?_) (fun q => ten q) fun m3 hN3 => (if_neg Bool.false_ne_true).mpr (ws_next ?_)))
    · walk_at "lits"; exact q
    · walk_at "lits"; exact q
    refine ws_seq (ws_if (wt_or (wt_lg (a := ⟨[], some 0, 2⟩) (b := ⟨[], some 601, 1⟩) (gr := 10 ^ 24) (leM_c (by decide +kernel)) (leM_c (by decide +kernel)) n24 hN3 (fun q => ?_) (fun q => ?_) (fun q => ten q) fun m4 hN4 => (if_neg Bool.false_ne_true).mpr (wt_lg (a := ⟨[], some 0, 2⟩) (b := ⟨[], some 600, 1⟩) (gr := 10 ^ 24) (leM_c (by decide +kernel)) (leM_c (by decide +kernel)) n24 hN4 (fun q => ?_) (fun q => ?_) (fun q => ten q) fun m5 hN5 => (if_neg Bool.false_ne_true).mpr (ws_next ?_)))))
    · walk_at "lits"; exact q
    · walk_at "lits"; exact q
    · walk_at "lits"; exact q
    · walk_at "lits"; exact q
    refine ws_seq (ws_asg ?_)
    refine we_lstV (wa_cons (we_sumT ⟨[some 1], some 2, 2⟩ ⟨[], some 1, 0⟩ ⟨[some 2], some 3, 2⟩ (by rfl) (leO_c (by decide) (by decide +kernel) (by decide)) (leO_c (by decide) (by decide +kernel) (by decide)) (fun q => ?_) (fun q => ?_) (wa_cons (we_sumK ⟨[none], some 1, 2⟩ ⟨[], none, 0⟩ ⟨[], none, 0⟩ (by rfl) (leO_c (by decide) (by decide +kernel) (by decide)) (leO_c (by decide) (by decide +kernel) (by decide)) (fun q => ?_) (fun q => ?_) (wa_cons (we_lesT ⟨[], some 0, 2⟩ ⟨[], some 3, 1⟩ ⟨[some 0, some 2, some 4], some 6, 1⟩ (by rfl) (by decide) (leO_c (by decide) (by decide +kernel) (by decide)) (leO_c (by decide) (by decide +kernel) (by decide)) (fun q => ?_) (fun q => ?_) (wa_nil ⟨_, by repeat constructor, Nat.le_of_ble_eq_true rfl, ?_⟩)))))))
    · walk_at "lits"; exact q
    · walk_at "lits"; exact q
    · walk_at "lits"; exact q
    · walk_at "lits"; exact q
    · walk_at "lits"; exact q
    · walk_at "lits"; exact q
    show WS K _ [some (.val (.scr ns)), x, y, z, u, v, w, s, t, some (.val dTold)] m5 _ _
    obtain ⟨zt, hzt, _⟩ := reprB_ok (d := dTold) (by decide +kernel)
    have lt : ∀ {Q : Sv → Sto → Prop}, Q (.val dTold) m5 → WE K [some (.val (.scr ns)), x, y, z, u, v, w, s, t, some (.val dTold)] m5 (tLst (tCons (tTup (tCons (tLst (tCons (tC (.int 2)) tNil)) (tCons (tC (.int 3)) (tCons (tC (.int 2)) tNil)))) (tCons (tTup (tCons (tLst tNil) (tCons (tC .non) (tCons (tC (.int 0)) tNil)))) (tCons (tTup (tCons (tLst (tCons (tC (.int 0)) (tCons (tC (.int 2)) (tCons (tC (.int 4)) tNil)))) (tCons (tC (.int 6)) (tCons (tC (.int 1)) tNil)))) tNil)))) Q := fun q => by walk_at "lits"; exact q
    refine ws_ret (we_op (we_cb (wa_cons (we_var rfl (wa_nil ⟨[dTold], _, rfl, hzt, we_cb (wa_cons (lt (wa_nil ⟨[dTold], _, rfl, hzt, _, _, _, rfl, rfl, .mk (.str zt zt), ?_⟩)))⟩)))))
    show Q (.val (.bl (decide (zt = zt)))) m5
    rw [decide_eq_true rfl]
    exact q m5
end L29

namespace L29
open PySem PySem.Spec PyProof.Rows L2 Cr
def d_law_generator : He.DefD := ⟨("_law_generator", none), "_law_generator", "_law_generator", defArgs s_law_generator, defBody s_law_generator, defScope s_law_generator, [], []⟩
def d_law_hash : He.DefD := ⟨("_law_hash", none), "_law_hash", "_law_hash", defArgs s_law_hash, defBody s_law_hash, defScope s_law_hash, [], []⟩
def d_law_random : He.DefD := ⟨("_law_random", none), "_law_random", "_law_random", defArgs s_law_random, defBody s_law_random, defScope s_law_random, [], []⟩
def d_law_worth : He.DefD := ⟨("_law_worth", none), "_law_worth", "_law_worth", defArgs s_law_worth, defBody s_law_worth, defScope s_law_worth, [], []⟩
def d_law_back : He.DefD := ⟨("_law_back", none), "_law_back", "_law_back", defArgs s_law_back, defBody s_law_back, defScope s_law_back, [], []⟩
def d_law_raw_run : He.DefD := ⟨("_law_raw_run", none), "_law_raw_run", "_law_raw_run", defArgs s_law_raw_run, defBody s_law_raw_run, defScope s_law_raw_run, [], []⟩
def d_law_crossing : He.DefD := ⟨("_law_crossing", none), "_law_crossing", "_law_crossing", defArgs s_law_crossing, defBody s_law_crossing, defScope s_law_crossing, [], []⟩
def d_law_made_least : He.DefD := ⟨("_law_made_least", none), "_law_made_least", "_law_made_least", defArgs s_law_made_least, defBody s_law_made_least, defScope s_law_made_least, [], []⟩
def d_is_whole : He.DefD := ⟨("is_whole", none), "is_whole", "is_whole", defArgs s_is_whole, defBody s_is_whole, defScope s_is_whole, [], []⟩
def d_is_worth : He.DefD := ⟨("is_worth", none), "is_worth", "is_worth", defArgs s_is_worth, defBody s_is_worth, defScope s_is_worth, [], []⟩
def d_are_worths : He.DefD := ⟨("are_worths", none), "are_worths", "are_worths", defArgs s_are_worths, defBody s_are_worths, defScope s_are_worths, [], []⟩
def d_is_slope : He.DefD := ⟨("is_slope", none), "is_slope", "is_slope", defArgs s_is_slope, defBody s_is_slope, defScope s_is_slope, [], []⟩
def d_step_back : He.DefD := ⟨("step_back", none), "step_back", "step_back", defArgs s_step_back, defBody s_step_back, defScope s_step_back, [], []⟩
def d_is_run : He.DefD := ⟨("is_run", none), "is_run", "is_run", defArgs s_is_run, defBody s_is_run, defScope s_is_run, [], []⟩
def d_check_run : He.DefD := ⟨("check_run", none), "check_run", "check_run", defArgs s_check_run, defBody s_check_run, defScope s_check_run, [], []⟩
def d_value_of : He.DefD := ⟨("value_of", none), "value_of", "value_of", defArgs s_value_of, defBody s_value_of, defScope s_value_of, [], []⟩
def d_crossing : He.DefD := ⟨("crossing", none), "crossing", "crossing", defArgs s_crossing, defBody s_crossing, defScope s_crossing, [], []⟩
def d_lesser_of : He.DefD := ⟨("lesser_of", none), "lesser_of", "lesser_of", defArgs s_lesser_of, defBody s_lesser_of, defScope s_lesser_of, [], []⟩
def d_ending_slope : He.DefD := ⟨("ending_slope", none), "ending_slope", "ending_slope", defArgs s_ending_slope, defBody s_ending_slope, defScope s_ending_slope, [], []⟩
def d_shortened : He.DefD := ⟨("shortened", none), "shortened", "shortened", defArgs s_shortened, defBody s_shortened, defScope s_shortened, [], []⟩
def d_run_lesser : He.DefD := ⟨("run_lesser", none), "run_lesser", "run_lesser", defArgs s_run_lesser, defBody s_run_lesser, defScope s_run_lesser, [], []⟩
def d_law_whole : He.DefD := ⟨("_law_whole", none), "_law_whole", "_law_whole", defArgs s_law_whole, defBody s_law_whole, defScope s_law_whole, [], []⟩
def d_law_value : He.DefD := ⟨("_law_value", none), "_law_value", "_law_value", defArgs s_law_value, defBody s_law_value, defScope s_law_value, [], []⟩
def d_law_lesser : He.DefD := ⟨("_law_lesser", none), "_law_lesser", "_law_lesser", defArgs s_law_lesser, defBody s_law_lesser, defScope s_law_lesser, [], []⟩
def d_law_lesser_at : He.DefD := ⟨("_law_lesser_at", none), "_law_lesser_at", "_law_lesser_at", defArgs s_law_lesser_at, defBody s_law_lesser_at, defScope s_law_lesser_at, [], []⟩
def d_law_slope : He.DefD := ⟨("_law_slope", none), "_law_slope", "_law_slope", defArgs s_law_slope, defBody s_law_slope, defScope s_law_slope, [], []⟩
def d_law_ending_good : He.DefD := ⟨("_law_ending_good", none), "_law_ending_good", "_law_ending_good", defArgs s_law_ending_good, defBody s_law_ending_good, defScope s_law_ending_good, [], []⟩
def d_law_is_least : He.DefD := ⟨("_law_is_least", none), "_law_is_least", "_law_is_least", defArgs s_law_is_least, defBody s_law_is_least, defScope s_law_is_least, [], []⟩
def d_law_lesser_good : He.DefD := ⟨("_law_lesser_good", none), "_law_lesser_good", "_law_lesser_good", defArgs s_law_lesser_good, defBody s_law_lesser_good, defScope s_law_lesser_good, [], []⟩
def d_sum_of : He.DefD := ⟨("sum_of", none), "sum_of", "sum_of", defArgs s_sum_of, defBody s_sum_of, defScope s_sum_of, [], []⟩
def d_run_sum : He.DefD := ⟨("run_sum", none), "run_sum", "run_sum", defArgs s_run_sum, defBody s_run_sum, defScope s_run_sum, [], []⟩
def d_law_sum : He.DefD := ⟨("_law_sum", none), "_law_sum", "_law_sum", defArgs s_law_sum, defBody s_law_sum, defScope s_law_sum, [], []⟩
def d_law_sum_good : He.DefD := ⟨("_law_sum_good", none), "_law_sum_good", "_law_sum_good", defArgs s_law_sum_good, defBody s_law_sum_good, defScope s_law_sum_good, [], []⟩
def d_law_caught : He.DefD := ⟨("_law_caught", none), "_law_caught", "_law_caught", defArgs s_law_caught, defBody s_law_caught, defScope s_law_caught, [], []⟩
def d_law : He.DefD := ⟨("law", none), "law", "law", defArgs s_law, defBody s_law, defScope s_law, [], []⟩
def fn : List He.DefD := [d_law_generator, d_law_hash, d_law_random, d_law_worth, d_law_back, d_law_raw_run, d_law_crossing, d_law_made_least, d_is_whole, d_is_worth, d_are_worths, d_is_slope, d_step_back, d_is_run, d_check_run, d_value_of, d_crossing, d_lesser_of, d_ending_slope, d_shortened, d_run_lesser, d_law_whole, d_law_value, d_law_lesser, d_law_lesser_at, d_law_slope, d_law_ending_good, d_law_is_least, d_law_lesser_good, d_sum_of, d_run_sum, d_law_sum, d_law_sum_good, d_law_caught, d_law]
def fa : List He.Fa := [.glo "_law_generator", .glo "_law_hash", .glo "_law_random", .glo "_law_worth", .glo "_law_back", .glo "_law_raw_run", .glo "_law_crossing", .glo "_law_made_least", .glo "is_whole", .glo "is_worth", .glo "are_worths", .glo "is_slope", .glo "step_back", .glo "is_run", .glo "check_run", .glo "value_of", .glo "crossing", .glo "lesser_of", .glo "ending_slope", .glo "shortened", .glo "run_lesser", .glo "_law_whole", .glo "_law_value", .glo "_law_lesser", .glo "_law_lesser_at", .glo "_law_slope", .glo "_law_ending_good", .glo "_law_is_least", .glo "_law_lesser_good", .glo "sum_of", .glo "run_sum", .glo "_law_sum", .glo "_law_sum_good", .glo "_law_caught", .glo "law", .free "len", .free "sum", .free "int", .free "max", .free "range", .free "list", .free "repr", .free "isinstance", .free "bool", .free "tuple", .free "min", .glo "InvalidRun", .glo "TooMany", .glo "CountError", .free "super", .int "MOST_FIRST" 600]
def exL (K : PySem.W.Frag) : List Bool := [erriB K "InvalidRun", erriB K "TooMany", decide (PySem.W.kitOne K (.ref (He.ga K "InvalidRun")) (.ref (He.ga K "InvalidRun")) = some true), decide (PySem.W.exmOne K (.ref (He.ga K "InvalidRun")) (.ref (He.ga K "InvalidRun")) = some true), decide (PySem.W.kitOne K (.ref (He.ga K "InvalidRun")) (.ref (He.ga K "TooMany")) = some false), decide (PySem.W.exmOne K (.ref (He.ga K "InvalidRun")) (.ref (He.ga K "TooMany")) = some false), decide (PySem.W.kitOne K (.ref (He.ga K "InvalidRun")) (.ref (He.ga K "CountError")) = some true), decide (PySem.W.exmOne K (.ref (He.ga K "InvalidRun")) (.ref (He.ga K "CountError")) = some true), decide (PySem.W.kitOne K (.ref (He.ga K "TooMany")) (.ref (He.ga K "InvalidRun")) = some false), decide (PySem.W.exmOne K (.ref (He.ga K "TooMany")) (.ref (He.ga K "InvalidRun")) = some false), decide (PySem.W.kitOne K (.ref (He.ga K "TooMany")) (.ref (He.ga K "TooMany")) = some true), decide (PySem.W.exmOne K (.ref (He.ga K "TooMany")) (.ref (He.ga K "TooMany")) = some true), decide (PySem.W.kitOne K (.ref (He.ga K "TooMany")) (.ref (He.ga K "CountError")) = some true), decide (PySem.W.exmOne K (.ref (He.ga K "TooMany")) (.ref (He.ga K "CountError")) = some true), errB PySem.Challenge.pw_countreaders_k29_sums_and_lessers.main.file K "InvalidRun", errB PySem.Challenge.pw_countreaders_k29_sums_and_lessers.main.file K "TooMany"]
def ex (K : PySem.W.Frag) : Bool := (exL K).all id
abbrev k_InvalidRun : Stmt := (match top 2 with | .ClassDef (body := b) .. => b.getD 0 (.Pass ⟨0, 0, 0, 0⟩) | _ => .Pass ⟨0, 0, 0, 0⟩)
abbrev k_TooMany : Stmt := (match top 3 with | .ClassDef (body := b) .. => b.getD 0 (.Pass ⟨0, 0, 0, 0⟩) | _ => .Pass ⟨0, 0, 0, 0⟩)
def ei : List Str := ["InvalidRun", "TooMany"]
def ev : List FnC := [iniC "InvalidRun.__init__" k_InvalidRun, iniC "TooMany.__init__" k_TooMany]
theorem is_InvalidRun : IniScope "InvalidRun.__init__" (defArgs k_InvalidRun) (defScope k_InvalidRun) := ⟨rfl, rfl, rfl, rfl, rfl, rfl, rfl, by decide +kernel, ⟨_, rfl, rfl⟩, fun _ _ _ _ => rfl, fun _ _ _ _ _ _ _ _ _ _ => rfl, fun _ _ _ _ _ _ _ _ => rfl, fun _ _ _ _ _ => rfl⟩
theorem is_TooMany : IniScope "TooMany.__init__" (defArgs k_TooMany) (defScope k_TooMany) := ⟨rfl, rfl, rfl, rfl, rfl, rfl, rfl, by decide +kernel, ⟨_, rfl, rfl⟩, fun _ _ _ _ => rfl, fun _ _ _ _ _ _ _ _ _ _ => rfl, fun _ _ _ _ _ _ _ _ => rfl, fun _ _ _ _ _ => rfl⟩
def loose : List Str := [("CountError" : Str), ("InvalidRun" : Str), ("TooMany" : Str), ("is_whole" : Str), ("MOST_FIRST" : Str), ("is_worth" : Str), ("are_worths" : Str), ("is_slope" : Str), ("step_back" : Str), ("shortened" : Str), ("is_run" : Str), ("check_run" : Str), ("value_of" : Str), ("sum_of" : Str), ("lesser_of" : Str), ("run_sum" : Str), ("crossing" : Str), ("ending_slope" : Str), ("run_lesser" : Str), ("_law_hash" : Str), ("_law_generator" : Str), ("_law_random" : Str), ("_law_back" : Str), ("_law_value" : Str), ("_law_worth" : Str), ("_law_raw_run" : Str), ("_law_whole" : Str), ("_law_is_least" : Str), ("_law_made_least" : Str), ("_law_sum" : Str), ("_law_lesser" : Str), ("_law_lesser_at" : Str), ("_law_slope" : Str), ("_law_ending_good" : Str), ("_law_lesser_good" : Str), ("_law_sum_good" : Str), ("_law_crossing" : Str), ("_law_caught" : Str)]
abbrev R : PySem.W.OpenRow := PySem.W.OpenLaw.row PySem.Challenge.rw_countreaders_k29_sums_and_lessers
abbrev hk : PySem.W.Hook := hookE 4 fa fn ex ei ev
def ob (s : PySem.W.SharedT) : (He.AlD × Bool) × List FnC := obsE 4 fa fn ex ei (HandSHeadRun.getT s)
theorem ob_eq (s : PySem.W.SharedT) : ob s = hk.obs s.abs := obsE_eq (HandSHeadRun.getT_eq s)
theorem run (w : World) : HandSHeadRun.RunEq R (PySem.W.view R.prog [42]) hk ob 8000 loose w := by
  intro os
  kernel_rfl
theorem facts {w : World} {K : PySem.W.Frag} {h : Heap} {mg : Str → Option Value} {f : Addr} (X : K.In h) (G : h.Ns mainGlobals mg) (hfa : mg ("law" : Str) = some (.ref f)) (c : He.SaysD fa fn K) (hex : ex K = true) (hini : (ei.map fun x => fnC K (x, some "__init__")) = ev) :
    ∃ fd : FuncData, (∀ (s : Shared) (v : Value), BindsTo s fd ⟨[v], []⟩ [("script", v)]) ∧ ∀ base : Heap, K.In base → base.Ns mainGlobals mg → FnG PySem.Challenge.pw_countreaders_k29_sums_and_lessers w K mg base 8 f fd P_law (SpD K T_law) := by
  obtain ⟨fd_law_generator, F_law_generator⟩ := c.def_ 0 (d := d_law_generator) rfl
  have e_law_generator := He.glo_ok X G (c.fact 0 (f := .glo "_law_generator") rfl)
  obtain ⟨fd_law_hash, F_law_hash⟩ := c.def_ 1 (d := d_law_hash) rfl
  have e_law_hash := He.glo_ok X G (c.fact 1 (f := .glo "_law_hash") rfl)
  obtain ⟨fd_law_random, F_law_random⟩ := c.def_ 2 (d := d_law_random) rfl
  have e_law_random := He.glo_ok X G (c.fact 2 (f := .glo "_law_random") rfl)
  obtain ⟨fd_law_worth, F_law_worth⟩ := c.def_ 3 (d := d_law_worth) rfl
  have e_law_worth := He.glo_ok X G (c.fact 3 (f := .glo "_law_worth") rfl)
  obtain ⟨fd_law_back, F_law_back⟩ := c.def_ 4 (d := d_law_back) rfl
  have e_law_back := He.glo_ok X G (c.fact 4 (f := .glo "_law_back") rfl)
  obtain ⟨fd_law_raw_run, F_law_raw_run⟩ := c.def_ 5 (d := d_law_raw_run) rfl
  have e_law_raw_run := He.glo_ok X G (c.fact 5 (f := .glo "_law_raw_run") rfl)
  obtain ⟨fd_law_crossing, F_law_crossing⟩ := c.def_ 6 (d := d_law_crossing) rfl
  have e_law_crossing := He.glo_ok X G (c.fact 6 (f := .glo "_law_crossing") rfl)
  obtain ⟨fd_law_made_least, F_law_made_least⟩ := c.def_ 7 (d := d_law_made_least) rfl
  have e_law_made_least := He.glo_ok X G (c.fact 7 (f := .glo "_law_made_least") rfl)
  obtain ⟨fd_is_whole, F_is_whole⟩ := c.def_ 8 (d := d_is_whole) rfl
  have e_is_whole := He.glo_ok X G (c.fact 8 (f := .glo "is_whole") rfl)
  obtain ⟨fd_is_worth, F_is_worth⟩ := c.def_ 9 (d := d_is_worth) rfl
  have e_is_worth := He.glo_ok X G (c.fact 9 (f := .glo "is_worth") rfl)
  obtain ⟨fd_are_worths, F_are_worths⟩ := c.def_ 10 (d := d_are_worths) rfl
  have e_are_worths := He.glo_ok X G (c.fact 10 (f := .glo "are_worths") rfl)
  obtain ⟨fd_is_slope, F_is_slope⟩ := c.def_ 11 (d := d_is_slope) rfl
  have e_is_slope := He.glo_ok X G (c.fact 11 (f := .glo "is_slope") rfl)
  obtain ⟨fd_step_back, F_step_back⟩ := c.def_ 12 (d := d_step_back) rfl
  have e_step_back := He.glo_ok X G (c.fact 12 (f := .glo "step_back") rfl)
  obtain ⟨fd_is_run, F_is_run⟩ := c.def_ 13 (d := d_is_run) rfl
  have e_is_run := He.glo_ok X G (c.fact 13 (f := .glo "is_run") rfl)
  obtain ⟨fd_check_run, F_check_run⟩ := c.def_ 14 (d := d_check_run) rfl
  have e_check_run := He.glo_ok X G (c.fact 14 (f := .glo "check_run") rfl)
  obtain ⟨fd_value_of, F_value_of⟩ := c.def_ 15 (d := d_value_of) rfl
  have e_value_of := He.glo_ok X G (c.fact 15 (f := .glo "value_of") rfl)
  obtain ⟨fd_crossing, F_crossing⟩ := c.def_ 16 (d := d_crossing) rfl
  have e_crossing := He.glo_ok X G (c.fact 16 (f := .glo "crossing") rfl)
  obtain ⟨fd_lesser_of, F_lesser_of⟩ := c.def_ 17 (d := d_lesser_of) rfl
  have e_lesser_of := He.glo_ok X G (c.fact 17 (f := .glo "lesser_of") rfl)
  obtain ⟨fd_ending_slope, F_ending_slope⟩ := c.def_ 18 (d := d_ending_slope) rfl
  have e_ending_slope := He.glo_ok X G (c.fact 18 (f := .glo "ending_slope") rfl)
  obtain ⟨fd_shortened, F_shortened⟩ := c.def_ 19 (d := d_shortened) rfl
  have e_shortened := He.glo_ok X G (c.fact 19 (f := .glo "shortened") rfl)
  obtain ⟨fd_run_lesser, F_run_lesser⟩ := c.def_ 20 (d := d_run_lesser) rfl
  have e_run_lesser := He.glo_ok X G (c.fact 20 (f := .glo "run_lesser") rfl)
  obtain ⟨fd_law_whole, F_law_whole⟩ := c.def_ 21 (d := d_law_whole) rfl
  have e_law_whole := He.glo_ok X G (c.fact 21 (f := .glo "_law_whole") rfl)
  obtain ⟨fd_law_value, F_law_value⟩ := c.def_ 22 (d := d_law_value) rfl
  have e_law_value := He.glo_ok X G (c.fact 22 (f := .glo "_law_value") rfl)
  obtain ⟨fd_law_lesser, F_law_lesser⟩ := c.def_ 23 (d := d_law_lesser) rfl
  have e_law_lesser := He.glo_ok X G (c.fact 23 (f := .glo "_law_lesser") rfl)
  obtain ⟨fd_law_lesser_at, F_law_lesser_at⟩ := c.def_ 24 (d := d_law_lesser_at) rfl
  have e_law_lesser_at := He.glo_ok X G (c.fact 24 (f := .glo "_law_lesser_at") rfl)
  obtain ⟨fd_law_slope, F_law_slope⟩ := c.def_ 25 (d := d_law_slope) rfl
  have e_law_slope := He.glo_ok X G (c.fact 25 (f := .glo "_law_slope") rfl)
  obtain ⟨fd_law_ending_good, F_law_ending_good⟩ := c.def_ 26 (d := d_law_ending_good) rfl
  have e_law_ending_good := He.glo_ok X G (c.fact 26 (f := .glo "_law_ending_good") rfl)
  obtain ⟨fd_law_is_least, F_law_is_least⟩ := c.def_ 27 (d := d_law_is_least) rfl
  have e_law_is_least := He.glo_ok X G (c.fact 27 (f := .glo "_law_is_least") rfl)
  obtain ⟨fd_law_lesser_good, F_law_lesser_good⟩ := c.def_ 28 (d := d_law_lesser_good) rfl
  have e_law_lesser_good := He.glo_ok X G (c.fact 28 (f := .glo "_law_lesser_good") rfl)
  obtain ⟨fd_sum_of, F_sum_of⟩ := c.def_ 29 (d := d_sum_of) rfl
  have e_sum_of := He.glo_ok X G (c.fact 29 (f := .glo "sum_of") rfl)
  obtain ⟨fd_run_sum, F_run_sum⟩ := c.def_ 30 (d := d_run_sum) rfl
  have e_run_sum := He.glo_ok X G (c.fact 30 (f := .glo "run_sum") rfl)
  obtain ⟨fd_law_sum, F_law_sum⟩ := c.def_ 31 (d := d_law_sum) rfl
  have e_law_sum := He.glo_ok X G (c.fact 31 (f := .glo "_law_sum") rfl)
  obtain ⟨fd_law_sum_good, F_law_sum_good⟩ := c.def_ 32 (d := d_law_sum_good) rfl
  have e_law_sum_good := He.glo_ok X G (c.fact 32 (f := .glo "_law_sum_good") rfl)
  obtain ⟨fd_law_caught, F_law_caught⟩ := c.def_ 33 (d := d_law_caught) rfl
  have e_law_caught := He.glo_ok X G (c.fact 33 (f := .glo "_law_caught") rfl)
  obtain ⟨fd_law, F_law⟩ := c.def_ 34 (d := d_law) rfl
  have e_law := He.glo_ok X G (c.fact 34 (f := .glo "law") rfl)
  have B : Bl mg := ⟨He.free_ok X G (c.fact 35 (f := .free "len") rfl), He.free_ok X G (c.fact 36 (f := .free "sum") rfl), He.free_ok X G (c.fact 37 (f := .free "int") rfl), He.free_ok X G (c.fact 38 (f := .free "max") rfl), He.free_ok X G (c.fact 39 (f := .free "range") rfl), He.free_ok X G (c.fact 40 (f := .free "list") rfl), He.free_ok X G (c.fact 41 (f := .free "repr") rfl), He.free_ok X G (c.fact 42 (f := .free "isinstance") rfl), He.free_ok X G (c.fact 43 (f := .free "bool") rfl), He.free_ok X G (c.fact 44 (f := .free "tuple") rfl), He.free_ok X G (c.fact 45 (f := .free "min") rfl)⟩
  have cMOST_FIRST0 := He.int_ok X G (c.fact 50 (f := .int "MOST_FIRST" 600) rfl)
  have kInvalidRun := He.glo_ok X G (c.fact 46 (f := .glo "InvalidRun") rfl)
  have kTooMany := He.glo_ok X G (c.fact 47 (f := .glo "TooMany") rfl)
  have kCountError := He.glo_ok X G (c.fact 48 (f := .glo "CountError") rfl)
  have hsup := He.free_ok X G (c.fact 49 (f := .free "super") rfl)
  have fx : Fx K := ⟨erriB_ok (ex_ix hex 0 rfl), erriB_ok (ex_ix hex 1 rfl), of_decide_eq_true (ex_ix hex 2 rfl), of_decide_eq_true (ex_ix hex 3 rfl), of_decide_eq_true (ex_ix hex 4 rfl), of_decide_eq_true (ex_ix hex 5 rfl), of_decide_eq_true (ex_ix hex 6 rfl), of_decide_eq_true (ex_ix hex 7 rfl), of_decide_eq_true (ex_ix hex 8 rfl), of_decide_eq_true (ex_ix hex 9 rfl), of_decide_eq_true (ex_ix hex 10 rfl), of_decide_eq_true (ex_ix hex 11 rfl), of_decide_eq_true (ex_ix hex 12 rfl), of_decide_eq_true (ex_ix hex 13 rfl)⟩
  have xInvalidRun : ErrC PySem.Challenge.pw_countreaders_k29_sums_and_lessers K (He.ga K "InvalidRun") := errB_ok (st := k_InvalidRun) (qual := "InvalidRun.__init__") (ex_ix hex 14 rfl) (by have := congrArg (fun l : List FnC => l[0]?) hini; exact Option.some.inj this) ⟨_, _, _, _, _, _, _, _, _, _, rfl, rfl⟩ is_InvalidRun (fun _ _ _ _ _ _ _ _ _ _ _ => ⟨_, rfl, rfl⟩) rfl
  have xTooMany : ErrC PySem.Challenge.pw_countreaders_k29_sums_and_lessers K (He.ga K "TooMany") := errB_ok (st := k_TooMany) (qual := "TooMany.__init__") (ex_ix hex 15 rfl) (by have := congrArg (fun l : List FnC => l[1]?) hini; exact Option.some.inj this) ⟨_, _, _, _, _, _, _, _, _, _, rfl, rfl⟩ is_TooMany (fun _ _ _ _ _ _ _ _ _ _ _ => ⟨_, rfl, rfl⟩) rfl
  cases hfa.symm.trans e_law
  have b := FunD.bindsA (ps := P_law) F_law fun _ _ _ _ _ _ us hl => match us, hl with | [_], _ => rfl
  refine ⟨fd_law, fun s v => b s [v] rfl, fun base _ _ => ?_⟩
  have G_law_generator : Has PySem.Challenge.pw_countreaders_k29_sums_and_lessers w K mg base "_law_generator" 1 P_law_generator T_law_generator := ok_law_generator B  F_law_generator e_law_generator (m_law_generator)
  have G_law_hash : Has PySem.Challenge.pw_countreaders_k29_sums_and_lessers w K mg base "_law_hash" 1 P_law_hash T_law_hash := ok_law_hash B  F_law_hash e_law_hash (m_law_hash)
  have G_law_random : Has PySem.Challenge.pw_countreaders_k29_sums_and_lessers w K mg base "_law_random" 2 P_law_random T_law_random := ok_law_random B G_law_hash F_law_random e_law_random (m_law_random)
  have G_law_worth : Has PySem.Challenge.pw_countreaders_k29_sums_and_lessers w K mg base "_law_worth" 3 P_law_worth T_law_worth := ok_law_worth B G_law_random F_law_worth e_law_worth (m_law_worth)
  have G_law_back : Has PySem.Challenge.pw_countreaders_k29_sums_and_lessers w K mg base "_law_back" 1 P_law_back T_law_back := ok_law_back B  F_law_back e_law_back (m_law_back)
  have G_law_raw_run : Has PySem.Challenge.pw_countreaders_k29_sums_and_lessers w K mg base "_law_raw_run" 4 P_law_raw_run T_law_raw_run := ok_law_raw_run B G_law_random G_law_worth G_law_back F_law_raw_run e_law_raw_run (m_law_raw_run)
  have G_law_crossing : Has PySem.Challenge.pw_countreaders_k29_sums_and_lessers w K mg base "_law_crossing" 4 P_law_crossing T_law_crossing := ok_law_crossing B G_law_random G_law_worth F_law_crossing e_law_crossing (m_law_crossing)
  have G_law_made_least : Has PySem.Challenge.pw_countreaders_k29_sums_and_lessers w K mg base "_law_made_least" 2 P_law_made_least T_law_made_least := ok_law_made_least B G_law_back F_law_made_least e_law_made_least (m_law_made_least)
  have G_is_whole : Has PySem.Challenge.pw_countreaders_k29_sums_and_lessers w K mg base "is_whole" 1 P_is_whole T_is_whole := ok_is_whole B  F_is_whole e_is_whole (m_is_whole)
  have G_is_worth : Has PySem.Challenge.pw_countreaders_k29_sums_and_lessers w K mg base "is_worth" 2 P_is_worth T_is_worth := ok_is_worth B G_is_whole F_is_worth e_is_worth (m_is_worth)
  have G_are_worths : Has PySem.Challenge.pw_countreaders_k29_sums_and_lessers w K mg base "are_worths" 3 P_are_worths T_are_worths := ok_are_worths B G_is_worth F_are_worths e_are_worths (m_are_worths)
  have G_is_slope : Has PySem.Challenge.pw_countreaders_k29_sums_and_lessers w K mg base "is_slope" 2 P_is_slope T_is_slope := ok_is_slope B G_is_whole F_is_slope e_is_slope (m_is_slope)
  have G_step_back : Has PySem.Challenge.pw_countreaders_k29_sums_and_lessers w K mg base "step_back" 1 P_step_back T_step_back := ok_step_back B  F_step_back e_step_back (m_step_back)
  have G_is_run : Has PySem.Challenge.pw_countreaders_k29_sums_and_lessers w K mg base "is_run" 4 P_is_run T_is_run := ok_is_run B G_are_worths G_is_worth G_is_slope G_step_back F_is_run e_is_run (m_is_run)
  have G_check_run : HasX PySem.Challenge.pw_countreaders_k29_sums_and_lessers w K mg base "check_run" 5 P_check_run (T_check_run K) := ok_check_run B kInvalidRun xInvalidRun hsup G_is_run F_check_run e_check_run (m_check_run)
  have G_value_of : Has PySem.Challenge.pw_countreaders_k29_sums_and_lessers w K mg base "value_of" 1 P_value_of T_value_of := ok_value_of B  F_value_of e_value_of (m_value_of)
  have G_crossing : Has PySem.Challenge.pw_countreaders_k29_sums_and_lessers w K mg base "crossing" 2 P_crossing T_crossing := ok_crossing B G_value_of F_crossing e_crossing (m_crossing)
  have G_lesser_of : Has PySem.Challenge.pw_countreaders_k29_sums_and_lessers w K mg base "lesser_of" 1 P_lesser_of T_lesser_of := ok_lesser_of B  F_lesser_of e_lesser_of (m_lesser_of)
  have G_ending_slope : Has PySem.Challenge.pw_countreaders_k29_sums_and_lessers w K mg base "ending_slope" 1 P_ending_slope T_ending_slope := ok_ending_slope B  F_ending_slope e_ending_slope (m_ending_slope)
  have G_shortened : Has PySem.Challenge.pw_countreaders_k29_sums_and_lessers w K mg base "shortened" 2 P_shortened T_shortened := ok_shortened B G_step_back F_shortened e_shortened (m_shortened)
  have n_run_lesser := ok_run_lesser (P := PySem.Challenge.pw_countreaders_k29_sums_and_lessers) (w := w) (base := base) B cMOST_FIRST0 kTooMany xTooMany hsup G_check_run G_crossing G_value_of G_lesser_of G_ending_slope G_shortened F_run_lesser e_run_lesser (m_run_lesser)
  have G_run_lesser : HasX PySem.Challenge.pw_countreaders_k29_sums_and_lessers w K mg base "run_lesser" 6 P_run_lesser (T_run_lesser K) := ⟨_, fd_run_lesser, e_run_lesser, F_run_lesser.kp, F_run_lesser.bindsN (fun _ _ _ _ _ _ us hl => match us, hl with | [_, _], _ => rfl), n_run_lesser⟩
  have GK_run_lesser_other_one : HasXK PySem.Challenge.pw_countreaders_k29_sums_and_lessers w K mg base "run_lesser" 6 P_run_lesser ["other", "one"] [1, 0] (T_run_lesser K) := ⟨_, fd_run_lesser, e_run_lesser, F_run_lesser.kp, bindsK F_run_lesser (fun _ _ _ _ _ _ ws hl => match ws, hl with | [_, _], _ => rfl), n_run_lesser⟩
  have G_law_whole : Has PySem.Challenge.pw_countreaders_k29_sums_and_lessers w K mg base "_law_whole" 1 P_law_whole T_law_whole := ok_law_whole B  F_law_whole e_law_whole (m_law_whole)
  have G_law_value : Has PySem.Challenge.pw_countreaders_k29_sums_and_lessers w K mg base "_law_value" 1 P_law_value T_law_value := ok_law_value B  F_law_value e_law_value (m_law_value)
  have G_law_lesser : Has PySem.Challenge.pw_countreaders_k29_sums_and_lessers w K mg base "_law_lesser" 1 P_law_lesser T_law_lesser := ok_law_lesser B  F_law_lesser e_law_lesser (m_law_lesser)
  have G_law_lesser_at : Has PySem.Challenge.pw_countreaders_k29_sums_and_lessers w K mg base "_law_lesser_at" 2 P_law_lesser_at T_law_lesser_at := ok_law_lesser_at B G_law_value G_law_lesser F_law_lesser_at e_law_lesser_at (m_law_lesser_at)
  have G_law_slope : Has PySem.Challenge.pw_countreaders_k29_sums_and_lessers w K mg base "_law_slope" 1 P_law_slope T_law_slope := ok_law_slope B  F_law_slope e_law_slope (m_law_slope)
  have G_law_ending_good : Has PySem.Challenge.pw_countreaders_k29_sums_and_lessers w K mg base "_law_ending_good" 3 P_law_ending_good T_law_ending_good := ok_law_ending_good B G_law_lesser_at G_law_slope G_law_back F_law_ending_good e_law_ending_good (m_law_ending_good)
  have G_law_is_least : Has PySem.Challenge.pw_countreaders_k29_sums_and_lessers w K mg base "_law_is_least" 2 P_law_is_least T_law_is_least := ok_law_is_least B G_law_whole F_law_is_least e_law_is_least (m_law_is_least)
  have G_law_lesser_good : Has PySem.Challenge.pw_countreaders_k29_sums_and_lessers w K mg base "_law_lesser_good" 7 P_law_lesser_good T_law_lesser_good := ok_law_lesser_good B kTooMany G_run_lesser G_law_whole G_law_ending_good G_law_is_least G_law_value G_law_lesser_at GK_run_lesser_other_one F_law_lesser_good e_law_lesser_good (m_law_lesser_good fx)
  have G_sum_of : Has PySem.Challenge.pw_countreaders_k29_sums_and_lessers w K mg base "sum_of" 1 P_sum_of T_sum_of := ok_sum_of B  F_sum_of e_sum_of (m_sum_of)
  have n_run_sum := ok_run_sum (P := PySem.Challenge.pw_countreaders_k29_sums_and_lessers) (w := w) (base := base) B G_check_run G_value_of G_sum_of G_shortened F_run_sum e_run_sum (m_run_sum)
  have G_run_sum : HasX PySem.Challenge.pw_countreaders_k29_sums_and_lessers w K mg base "run_sum" 6 P_run_sum (T_run_sum K) := ⟨_, fd_run_sum, e_run_sum, F_run_sum.kp, F_run_sum.bindsN (fun _ _ _ _ _ _ us hl => match us, hl with | [_, _], _ => rfl), n_run_sum⟩
  have GK_run_sum_other_one : HasXK PySem.Challenge.pw_countreaders_k29_sums_and_lessers w K mg base "run_sum" 6 P_run_sum ["other", "one"] [1, 0] (T_run_sum K) := ⟨_, fd_run_sum, e_run_sum, F_run_sum.kp, bindsK F_run_sum (fun _ _ _ _ _ _ ws hl => match ws, hl with | [_, _], _ => rfl), n_run_sum⟩
  have G_law_sum : Has PySem.Challenge.pw_countreaders_k29_sums_and_lessers w K mg base "_law_sum" 1 P_law_sum T_law_sum := ok_law_sum B  F_law_sum e_law_sum (m_law_sum)
  have G_law_sum_good : Has PySem.Challenge.pw_countreaders_k29_sums_and_lessers w K mg base "_law_sum_good" 7 P_law_sum_good T_law_sum_good := ok_law_sum_good B G_run_sum G_law_is_least G_law_value G_law_sum F_law_sum_good e_law_sum_good (m_law_sum_good)
  have G_law_caught : Has PySem.Challenge.pw_countreaders_k29_sums_and_lessers w K mg base "_law_caught" 7 P_law_caught T_law_caught := ok_law_caught B kCountError kInvalidRun G_run_sum G_run_lesser F_law_caught e_law_caught (m_law_caught fx)
  exact ok_law B G_law_generator G_law_raw_run G_law_random G_law_crossing G_law_made_least G_law_lesser_good G_law_sum_good G_law_caught G_run_lesser G_run_sum GK_run_sum_other_one F_law e_law (m_law)
end L29
open PySem PySem.W PySem.Calls PyProof.Rows
theorem PySem.Challenge.cw_countreaders_k29_sums_and_lessers_holds : PySem.Challenge.rw_countreaders_k29_sums_and_lessers.Holds := by
  w_on; o_law
  refine HandSHeadRun.head_any (r := OpenLaw.row PySem.Challenge.rw_countreaders_k29_sums_and_lessers) (q := view (OpenLaw.row PySem.Challenge.rw_countreaders_k29_sums_and_lessers).prog [42]) (H := L29.hk) (ob := L29.ob) (M := 8000) (loose := L29.loose) (d := HandSHeadRun.topDef (OpenLaw.row PySem.Challenge.rw_countreaders_k29_sums_and_lessers).prog 42) (kwd := []) L29.ob_eq
    (by kernel_rfl) (fun s => by kernel_rfl) L29.run (by kernel_rfl) (by kernel_rfl) (by kernel_rfl) (by rfl) (by first | assumption | decide +kernel) (by decide +kernel) ⟨rfl, rfl, rfl, rfl, rfl, by decide +kernel⟩ ?hw ?hc
  case hw => w_witness2
  case hc =>
    refine Cr.walk_G (l := PySem.Challenge.rw_countreaders_k29_sums_and_lessers) (n := 63) (k := 8) (x := "script") rfl (by decide) (by kernel_rfl) ⟨rfl, by decide, by decide⟩ ?F
    intro w mg fa h Y G hmg0
    obtain ⟨K, KX, c, hex, hini⟩ := Y
    have hmg : mg ("law" : PySem.Str) = some (.ref fa) := by
      have e : (HandSHeadRun.topDef (OpenLaw.row PySem.Challenge.rw_countreaders_k29_sums_and_lessers).prog 42).name = ("law" : PySem.Str) := by kernel_rfl
      rw [← e]
      exact hmg0
    obtain ⟨fd, hb, hF⟩ := L29.facts (w := w) KX G hmg c hex hini
    exact ⟨K, fd, Cr.SpD K L29.T_law, KX, hb, fun H a ns hl h2 hS => Cr.law_sp hl h2 hS, hF⟩
