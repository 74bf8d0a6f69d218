import PyProof.Rows.All
import Wide.All
import OpenK.AllK
import Wide.FinOn
import HandS.ForMost
import HandS.Evl
import PyProof.ListMulRoad
import PyProof.FactsAll.tuple_2
import HandS.Base
import HandS.Call
import HandS.List
import HandS.TupMul
import HandS.Wide
import HandS.WideBits
import HandS.TupAny
import HandS.Style
import HandS.IsInst
import HandS.Flow
import KE.GoesEnumKw
import HandS.RaiseMore
import HandS.Defaults
import HandS.EndBits
import PyProof.ReprRoads
import HandS.Deep
import HandS.Head0
import HandS.Head1
import HandS.Head2
import HandS.HeadEnd
import HandS.HeadHook1
import HandS.HeadHook2
import KE.IntBitsLaws
import PyProof.FitsInt
import PyProof.ReprLoop
import KE.KStateDown
import Lean
import HandS.Ends
import HandS.More
import HandS.Words
import HandS.WordsExc
import PySem.Challenge.RW_countreaders_k11_forms
set_option Elab.async false
set_option linter.all false
set_option maxRecDepth 100000
set_option maxHeartbeats 0
/-! Cr1: data D, how values stand for data (Rp), owned lists (stores), weakest preconditions over data (WE, WA, WT, WS, WI). -/
namespace Cr
open PySem PySem.Spec PyProof.Rows L2

inductive D where
  | non | bl (b : Bool) | int (i : Int) | str (x : Str) | lst (xs : List D) | tup (xs : List D) | ins (C : Addr) (fs : List (Str × D)) | scr (ns : List Int) | ty (n : String)

mutual
inductive Rp (K : PySem.W.Frag) (H : Hp) : V → D → Prop
  | non : Rp K H .non .non
  | bl (b : Bool) : Rp K H (.bl b) (.bl b)
  | int (i : Int) : Rp K H (.int i) (.int i)
  | str (x : Str) : Rp K H (.str x) (.str x)
  | ty (n : String) : Rp K H (.ty n) (.ty n)
  | lst {a : Addr} {xs : List V} {ds : List D} : H a = some (.lst xs) → RpA K H xs ds → Rp K H (.ref a) (.lst ds)
  | tup {a : Addr} {xs : List V} {ds : List D} : SqT K H a xs → RpA K H xs ds → Rp K H (.ref a) (.tup ds)
  | scr {a : Addr} {ns : List Int} : SqL K H a (ns.map V.int) → Rp K H (.ref a) (.scr ns)
  | ins {a C dx : Addr} {fs : List (Str × V)} {ds : List (Str × D)} : H a = some (.ins C dx fs) → RpF K H fs ds → Rp K H (.ref a) (.ins C ds)
inductive RpA (K : PySem.W.Frag) (H : Hp) : List V → List D → Prop
  | nil : RpA K H [] []
  | cons {v : V} {vs : List V} {d : D} {ds : List D} : Rp K H v d → RpA K H vs ds → RpA K H (v :: vs) (d :: ds)
inductive RpF (K : PySem.W.Frag) (H : Hp) : List (Str × V) → List (Str × D) → Prop
  | nil : RpF K H [] []
  | cons {x : Str} {v : V} {vs : List (Str × V)} {d : D} {ds : List (Str × D)} : Rp K H v d → RpF K H vs ds → RpF K H ((x, v) :: vs) ((x, d) :: ds)
end

section
variable {K : PySem.W.Frag} {H H' : Hp}
mutual
theorem Rp.mono (e : Evl.Ex H H') : ∀ {v : V} {d : D}, Rp K H v d → Rp K H' v d
  | _, _, .non => .non
  | _, _, .bl b => .bl b
  | _, _, .int i => .int i
  | _, _, .str x => .str x
  | _, _, .ty n => .ty n
  | _, _, .lst h a => .lst (e _ _ h) (RpA.mono e a)
  | _, _, .scr h => .scr (Evl.ex_l e h)
  | _, _, .tup h a => .tup (Evl.ex_t e h) (RpA.mono e a)
  | _, _, .ins h a => .ins (e _ _ h) (RpF.mono e a)
theorem RpA.mono (e : Evl.Ex H H') : ∀ {vs : List V} {ds : List D}, RpA K H vs ds → RpA K H' vs ds
  | _, _, .nil => .nil
  | _, _, .cons h t => .cons (Rp.mono e h) (RpA.mono e t)
theorem RpF.mono (e : Evl.Ex H H') : ∀ {vs : List (Str × V)} {ds : List (Str × D)}, RpF K H vs ds → RpF K H' vs ds
  | _, _, .nil => .nil
  | _, _, .cons h t => .cons (Rp.mono e h) (RpF.mono e t)
end
theorem RpA.length : ∀ {vs : List V} {ds : List D}, RpA K H vs ds → vs.length = ds.length
  | _, _, .nil => rfl
  | _, _, .cons _ t => congrArg (· + 1) (RpA.length t)
theorem RpA.append : ∀ {vs ws : List V} {ds es : List D}, RpA K H vs ds → RpA K H ws es → RpA K H (vs ++ ws) (ds ++ es)
  | _, _, _, _, .nil, s => s
  | _, _, _, _, .cons h t, s => .cons h (RpA.append t s)
theorem RpA.get : ∀ {vs : List V} {ds : List D} {i : Nat} {d : D}, RpA K H vs ds → ds[i]? = some d → ∃ v, vs[i]? = some v ∧ Rp K H v d
  | _, _, _, _, .nil, e => by simp at e
  | _, _, 0, _, .cons h _, e => by simp at e; subst e; exact ⟨_, rfl, h⟩
  | _, _, i + 1, d, .cons _ t, e => by
    obtain ⟨v, h1, h2⟩ := RpA.get (i := i) (d := d) t (by simpa using e)
    exact ⟨v, by simpa using h1, h2⟩
theorem RpA.get2 : ∀ {vs : List V} {ds : List D} {i : Nat} {v : V}, RpA K H vs ds → vs[i]? = some v → ∃ d, ds[i]? = some d ∧ Rp K H v d
  | _, _, _, _, .nil, e => by simp at e
  | _, _, 0, _, .cons h _, e => by simp at e; subst e; exact ⟨_, rfl, h⟩
  | _, _, i + 1, d, .cons _ t, e => by
    obtain ⟨v, h1, h2⟩ := RpA.get2 (i := i) t (by simpa using e)
    exact ⟨v, by simpa using h1, h2⟩
theorem RpA.take : ∀ {vs : List V} {ds : List D} (n : Nat), RpA K H vs ds → RpA K H (vs.take n) (ds.take n)
  | _, _, 0, _ => .nil
  | _, _, _ + 1, .nil => .nil
  | _, _, n + 1, .cons h t => .cons h (RpA.take n t)
theorem RpA.drop : ∀ {vs : List V} {ds : List D} (n : Nat), RpA K H vs ds → RpA K H (vs.drop n) (ds.drop n)
  | _, _, 0, r => r
  | _, _, _ + 1, .nil => .nil
  | _, _, n + 1, .cons _ t => RpA.drop n t
theorem RpA.set {v : V} {d : D} (r : Rp K H v d) : ∀ {vs : List V} {ds : List D} (i : Nat), RpA K H vs ds → RpA K H (vs.set i v) (ds.set i d)
  | _, _, _, .nil => .nil
  | _, _, 0, .cons _ t => .cons r t
  | _, _, i + 1, .cons q t => .cons q (RpA.set r i t)
theorem RpA.ints : ∀ {vs : List V} {ns : List Int}, RpA K H vs (ns.map D.int) → vs = ns.map V.int
  | _, [], .nil => rfl
  | _, n :: ns, .cons h t => by
    cases h
    rw [RpA.ints t]
    rfl
theorem RpA.of_ints : ∀ (ns : List Int), RpA K H (ns.map V.int) (ns.map D.int)
  | [] => .nil
  | n :: ns => .cons (.int n) (RpA.of_ints ns)
end

/-! ### owned lists: a store tells which lists are owned and what they hold -/
abbrev Sto := Addr → Option (List D)
abbrev Dm := Addr → Bool
def dom (m : Sto) : Dm := fun a => (m a).isSome
def stS (m : Sto) (p : Addr) (ds : List D) : Sto := fun a => if a = p then some ds else m a
def stD (m : Sto) (p : Addr) : Sto := fun a => if a = p then none else m a
def hid (M : Dm) (H : Hp) : Hp := fun a => if M a = true then none else H a
theorem stS_same {m : Sto} {p : Addr} {ds : List D} : stS m p ds p = some ds := if_pos rfl
theorem stS_ne {m : Sto} {p a : Addr} {ds : List D} (h : a ≠ p) : stS m p ds a = m a := if_neg h
theorem stS_stS {m : Sto} {p : Addr} {ds es : List D} : stS (stS m p ds) p es = stS m p es := by
  funext a; unfold stS; split <;> rfl
theorem stS_comm {m : Sto} {p q : Addr} {ds es : List D} (h : p ≠ q) : stS (stS m p ds) q es = stS (stS m q es) p ds := by
  funext a; unfold stS
  by_cases h1 : a = q
  · rw [if_pos h1, if_neg (fun e => h (e.symm.trans h1)), if_pos h1]
  · rw [if_neg h1]
    by_cases h2 : a = p
    · rw [if_pos h2, if_pos h2]
    · rw [if_neg h2, if_neg h2, if_neg h1]
theorem stD_stS {m : Sto} {p : Addr} {ds : List D} (h : m p = none) : stD (stS m p ds) p = m := by
  funext a; unfold stD stS
  by_cases q : a = p
  · rw [if_pos q, q, h]
  · rw [if_neg q, if_neg q]
theorem stS_self {m : Sto} {p : Addr} {ds : List D} (h : m p = some ds) : stS m p ds = m := by
  funext a; unfold stS
  by_cases q : a = p
  · rw [if_pos q, q, h]
  · rw [if_neg q]
theorem dom_some {m : Sto} {a : Addr} {ds : List D} (h : m a = some ds) : dom m a = true := by unfold dom; rw [h]; rfl
theorem dom_none {m : Sto} {a : Addr} : dom m a = false ↔ m a = none := by
  unfold dom
  cases m a <;> simp
theorem dom_true {m : Sto} {a : Addr} (h : dom m a = true) : ∃ ds, m a = some ds := by
  unfold dom at h
  cases e : m a with
  | none => rw [e] at h; cases h
  | some ds => exact ⟨ds, rfl⟩
theorem dom_stS {m : Sto} {p : Addr} {ds es : List D} (h : m p = some es) : dom (stS m p ds) = dom m := by
  funext a; unfold dom stS
  by_cases q : a = p
  · rw [if_pos q, q, h]; rfl
  · rw [if_neg q]
theorem hid_out {M : Dm} {H : Hp} {a : Addr} (h : M a = false) : hid M H a = H a := if_neg (by rw [h]; exact Bool.false_ne_true)
theorem hid_some {M : Dm} {H : Hp} {a : Addr} {o : HO} (h : hid M H a = some o) : M a = false ∧ H a = some o := by
  unfold hid at h
  cases q : M a with
  | true => rw [q, if_pos rfl] at h; cases h
  | false => rw [q, if_neg Bool.false_ne_true] at h; exact ⟨rfl, h⟩
theorem hid_ex {M : Dm} {H : Hp} : Evl.Ex (hid M H) H := fun a o h => (hid_some h).2
theorem hid_sub {M N : Dm} {H : Hp} (s : ∀ a, M a = true → N a = true) : Evl.Ex (hid N H) (hid M H) := fun a o h => by
  obtain ⟨h1, h2⟩ := hid_some h
  have h3 : M a = false := by
    cases q : M a with
    | false => rfl
    | true => rw [s a q] at h1; cases h1
  rw [hid_out h3]
  exact h2

inductive Sv where
  | val (d : D) | adr (a : Addr)
abbrev Ro := List (Option Sv)

def RpS (K : PySem.W.Frag) (M : Dm) (H : Hp) : V → Sv → Prop
  | v, .val d => Rp K (hid M H) v d
  | v, .adr a => v = .ref a ∧ M a = true
def EnvOk (K : PySem.W.Frag) (M : Dm) (H : Hp) (σ : L2.St) (r : Ro) : Prop :=
  σ.length = r.length ∧ ∀ (i : Nat) (s : Sv), r[i]? = some (some s) → ∃ v, σ[i]? = some (some v) ∧ RpS K M H v s
def StoOk (K : PySem.W.Frag) (H : Hp) (m : Sto) : Prop :=
  ∀ a ds, m a = some ds → ∃ xs, H a = some (.lst xs) ∧ RpA K (hid (dom m) H) xs ds
/-- how the heap and the owned lists may move on -/
structure Xt (M : Dm) (H : Hp) (M' : Dm) (H' : Hp) : Prop where
  ex : Evl.Ex (hid M H) (hid M' H')
  al : ∀ a, H a ≠ none → H' a ≠ none
  dm : ∀ a, M a = true → M' a = true
  nw : ∀ a, M' a = true → M a = true ∨ H a = none

section
variable {K : PySem.W.Frag} {M M' M2 : Dm} {H H' H2 : Hp} {σ : L2.St} {r : Ro} {m m' : Sto}
theorem Xt.refl : Xt M H M H := ⟨fun _ _ h => h, fun _ h => h, fun _ h => h, fun _ h => .inl h⟩
theorem Xt.trans (a : Xt M H M' H') (b : Xt M' H' M2 H2) : Xt M H M2 H2 :=
  ⟨a.ex.trans b.ex, fun x h => b.al x (a.al x h), fun x h => b.dm x (a.dm x h), fun x h => by
    rcases b.nw x h with q | q
    · exact a.nw x q
    · right
      cases e : H x with
      | none => rfl
      | some o => exact absurd q (a.al x (by rw [e]; simp))⟩
theorem RpS.mono {v : V} {s : Sv} (x : Xt M H M' H') (h : RpS K M H v s) : RpS K M' H' v s := by
  cases s with
  | val d => exact Rp.mono x.ex h
  | adr a => exact ⟨h.1, x.dm _ h.2⟩
theorem EnvOk.mono (x : Xt M H M' H') (h : EnvOk K M H σ r) : EnvOk K M' H' σ r :=
  ⟨h.1, fun i s e => by
    obtain ⟨v, h1, h2⟩ := h.2 i s e
    exact ⟨v, h1, h2.mono x⟩⟩
theorem upd_al {p : Addr} {o : HO} : ∀ a, H a ≠ none → upd H p o a ≠ none := fun a e => by
  by_cases q : a = p
  · rw [q, upd_same]; simp
  · rw [upd_ne q]; exact e
/-- a new object, untouched by what is owned -/
theorem Xt.new {p : Addr} {o : HO} (h : H p = none) : Xt M H M (upd H p o) :=
  ⟨fun a u e => by
    obtain ⟨h1, h2⟩ := hid_some e
    rw [hid_out h1, upd_ne (ne_of_none h2 h)]
    exact h2, upd_al, fun _ q => q, fun _ q => .inl q⟩
/-- a new object that becomes owned -/
theorem Xt.own {p : Addr} {o : HO} {ds : List D} (h : H p = none) : Xt (dom m) H (dom (stS m p ds)) (upd H p o) :=
  ⟨fun a u e => by
    obtain ⟨h1, h2⟩ := hid_some e
    have np : a ≠ p := ne_of_none h2 h
    rw [hid_out (by rw [dom_none, stS_ne np]; exact dom_none.mp h1), upd_ne np]
    exact h2, upd_al, fun a q => by
    by_cases z : a = p
    · rw [z]; exact dom_some stS_same
    · obtain ⟨es, e⟩ := dom_true q
      exact dom_some (by rw [stS_ne z]; exact e), fun a q => by
    by_cases z : a = p
    · right; rw [z]; exact h
    · left
      obtain ⟨es, e⟩ := dom_true q
      rw [stS_ne z] at e
      exact dom_some e⟩
/-- an owned list is written -/
theorem Xt.wr {p : Addr} {o : HO} (hM : M p = true) : Xt M H M (upd H p o) :=
  ⟨fun a u e => by
    obtain ⟨h1, h2⟩ := hid_some e
    rw [hid_out h1, upd_ne (fun q => by rw [q, hM] at h1; cases h1)]
    exact h2, upd_al, fun _ q => q, fun _ q => .inl q⟩
/-- an owned list is let free -/
theorem Xt.frz {p : Addr} (hp : M p = false) (x : Xt M H (dom m) H') : Xt M H (dom (stD m p)) H' :=
  ⟨x.ex.trans (hid_sub fun a q => by
    obtain ⟨es, e⟩ := dom_true q
    unfold stD at e
    by_cases z : a = p
    · rw [if_pos z] at e; cases e
    · rw [if_neg z] at e; exact dom_some e), x.al, fun a q => by
    have z : a ≠ p := fun e => by rw [e, hp] at q; cases q
    obtain ⟨es, e⟩ := dom_true (x.dm a q)
    exact dom_some (show stD m p a = some es by unfold stD; rw [if_neg z]; exact e), fun a q => by
    obtain ⟨es, e⟩ := dom_true q
    unfold stD at e
    by_cases z : a = p
    · rw [if_pos z] at e; cases e
    · rw [if_neg z] at e; exact x.nw a (dom_some e)⟩
theorem StoOk.notin {p : Addr} (h : StoOk K H m) (e : H p = none) : m p = none := by
  cases q : m p with
  | none => rfl
  | some ds =>
    obtain ⟨xs, h1, _⟩ := h p ds q
    rw [e] at h1; cases h1
theorem StoOk.some {p : Addr} (h : StoOk K H m) (e : dom m p = true) : ∃ xs, H p = some (.lst xs) := by
  obtain ⟨ds, q⟩ := dom_true e
  obtain ⟨xs, h1, _⟩ := h p ds q
  exact ⟨xs, h1⟩
theorem StoOk.keep (h : StoOk K H m) (x : Xt (dom m) H (dom m) H') (k : ∀ a, dom m a = true → H' a = H a) : StoOk K H' m :=
  fun a ds e => by
    obtain ⟨xs, h1, h2⟩ := h a ds e
    exact ⟨xs, by rw [k a (dom_some e)]; exact h1, h2.mono x.ex⟩
theorem StoOk.new {p : Addr} {o : HO} (h : StoOk K H m) (e : H p = none) : StoOk K (upd H p o) m :=
  h.keep (Xt.new e) fun a ha => by
    obtain ⟨xs, q⟩ := h.some ha
    rw [upd_ne (ne_of_none q e)]
theorem StoOk.own {p : Addr} {xs : List V} {ds : List D} (h : StoOk K H m) (e : H p = none) (ra : RpA K (hid (dom m) H) xs ds) : StoOk K (upd H p (.lst xs)) (stS m p ds) := by
  have x : Xt (dom m) H (dom (stS m p ds)) (upd H p (.lst xs)) := Xt.own e
  intro a es q
  by_cases z : a = p
  · rw [z, stS_same] at q
    cases q
    exact ⟨xs, by rw [z]; exact upd_same, ra.mono x.ex⟩
  · rw [stS_ne z] at q
    obtain ⟨ys, h1, h2⟩ := h a es q
    exact ⟨ys, by rw [upd_ne z]; exact h1, h2.mono x.ex⟩
/-- an owned list is written -/
theorem StoOk.wr {p : Addr} {xs : List V} {ds es : List D} (h : StoOk K H m) (e : m p = .some es) (ra : RpA K (hid (dom m) H) xs ds) : StoOk K (upd H p (.lst xs)) (stS m p ds) := by
  have x : Xt (dom m) H (dom m) (upd H p (.lst xs)) := Xt.wr (dom_some e)
  intro a fs q
  rw [dom_stS e]
  by_cases z : a = p
  · rw [z, stS_same] at q
    cases q
    exact ⟨xs, by rw [z]; exact upd_same, ra.mono x.ex⟩
  · rw [stS_ne z] at q
    obtain ⟨ys, h1, h2⟩ := h a fs q
    exact ⟨ys, by rw [upd_ne z]; exact h1, h2.mono x.ex⟩
theorem stD_sub {p : Addr} : ∀ a, dom (stD m p) a = true → dom m a = true := fun a q => by
  obtain ⟨es, e⟩ := dom_true q
  unfold stD at e
  by_cases z : a = p
  · rw [if_pos z] at e; cases e
  · rw [if_neg z] at e; exact dom_some e
theorem StoOk.frz {p : Addr} {ds : List D} (h : StoOk K H m) (e : m p = .some ds) : StoOk K H (stD m p) ∧ Rp K (hid (dom (stD m p)) H) (.ref p) (.lst ds) := by
  have s : Evl.Ex (hid (dom m) H) (hid (dom (stD m p)) H) := hid_sub stD_sub
  refine ⟨fun a es q => ?_, ?_⟩
  · have q' : (if a = p then none else m a) = .some es := q
    by_cases z : a = p
    · rw [if_pos z] at q'; cases q'
    · rw [if_neg z] at q'
      obtain ⟨xs, h1, h2⟩ := h a es q'
      exact ⟨xs, h1, h2.mono s⟩
  · obtain ⟨xs, h1, h2⟩ := h p ds e
    exact .lst (by rw [hid_out (dom_none.mpr (if_pos rfl))]; exact h1) (h2.mono s)
end

/-! ### what is read -/
def vw (m : Sto) : Sv → Option D
  | .val d => some d
  | .adr a => (m a).map D.lst
def RpW (K : PySem.W.Frag) (M : Dm) (H : Hp) (v : V) (d : D) : Prop :=
  Rp K (hid M H) v d ∨ ∃ a xs ds, v = .ref a ∧ d = .lst ds ∧ H a = some (.lst xs) ∧ RpA K (hid M H) xs ds
theorem RpW.of {K : PySem.W.Frag} {H : Hp} {m : Sto} {v : V} {s : Sv} {d : D} (h : RpS K (dom m) H v s) (st : StoOk K H m) (e : vw m s = some d) : RpW K (dom m) H v d := by
  cases s with
  | val d' =>
    cases e
    exact .inl h
  | adr a =>
    obtain ⟨rfl, _⟩ := h
    have e : (m a).map D.lst = some d := e
    cases q : m a with
    | none => rw [q] at e; cases e
    | some ds =>
      rw [q] at e
      obtain ⟨xs, h1, h2⟩ := st a ds q
      exact .inr ⟨a, xs, ds, rfl, (Option.some.inj e).symm, h1, h2⟩
theorem RpW.lst {K : PySem.W.Frag} {M : Dm} {H : Hp} {v : V} {ds : List D} (h : RpW K M H v (.lst ds)) : ∃ a xs, v = .ref a ∧ H a = some (.lst xs) ∧ RpA K (hid M H) xs ds := by
  rcases h with h | ⟨a, xs, ds', rfl, e, h1, h2⟩
  · cases h with
    | lst q ra => exact ⟨_, _, rfl, (hid_some q).2, ra⟩
  · cases e
    exact ⟨a, xs, rfl, h1, h2⟩
theorem RpW.tup {K : PySem.W.Frag} {M : Dm} {H : Hp} {v : V} {ds : List D} (h : RpW K M H v (.tup ds)) : ∃ a xs, v = .ref a ∧ SqT K (hid M H) a xs ∧ RpA K (hid M H) xs ds := by
  rcases h with h | ⟨a, xs, ds', rfl, e, h1, h2⟩
  · cases h with
    | tup q ra => exact ⟨_, _, rfl, q, ra⟩
  · cases e
theorem RpW.rp {K : PySem.W.Frag} {M : Dm} {H : Hp} {v : V} {d : D} (h : RpW K M H v d) : Rp K H v d := by
  rcases h with h | ⟨a, xs, ds', rfl, rfl, h1, h2⟩
  · exact Rp.mono hid_ex h
  · exact .lst h1 (h2.mono hid_ex)
theorem RpW.int {K : PySem.W.Frag} {M : Dm} {H : Hp} {v : V} {i : Int} (h : RpW K M H v (.int i)) : v = .int i := by
  cases h.rp; rfl
theorem RpW.bl {K : PySem.W.Frag} {M : Dm} {H : Hp} {v : V} {i : Bool} (h : RpW K M H v (.bl i)) : v = .bl i := by
  cases h.rp; rfl
theorem RpW.str {K : PySem.W.Frag} {M : Dm} {H : Hp} {v : V} {i : Str} (h : RpW K M H v (.str i)) : v = .str i := by
  cases h.rp; rfl
theorem RpW.non {K : PySem.W.Frag} {M : Dm} {H : Hp} {v : V} (h : RpW K M H v .non) : v = .non := by
  cases h.rp; rfl

/-! ### weakest preconditions over data -/
def WE (K : PySem.W.Frag) (r : Ro) (m : Sto) (te : TE) (Q : Sv → Sto → Prop) : Prop :=
  ∀ (σ : L2.St) (H : Hp) (QV : VK), EnvOk K (dom m) H σ r → StoOk K H m →
    (∀ v H' s m', Xt (dom m) H (dom m') H' → StoOk K H' m' → RpS K (dom m') H' v s → Q s m' → QV v H') → te σ H QV
def RpSs (K : PySem.W.Frag) (M : Dm) (H : Hp) : List V → List Sv → Prop := Paired (RpS K M H)
def WA (K : PySem.W.Frag) (r : Ro) (m : Sto) (ta : TA) (Q : List Sv → Sto → Prop) : Prop :=
  ∀ (σ : L2.St) (H : Hp) (QV : List V → Hp → Prop), EnvOk K (dom m) H σ r → StoOk K H m →
    (∀ vs H' ss m', Xt (dom m) H (dom m') H' → StoOk K H' m' → RpSs K (dom m') H' vs ss → Q ss m' → QV vs H') → ta σ H QV
def WT (K : PySem.W.Frag) (r : Ro) (m : Sto) (tt : TT) (Q : Bool → Sto → Prop) : Prop :=
  ∀ (σ : L2.St) (H : Hp) (QV : Bool → Hp → Prop), EnvOk K (dom m) H σ r → StoOk K H m →
    (∀ b H' m', Xt (dom m) H (dom m') H' → StoOk K H' m' → Q b m' → QV b H') → tt σ H QV
structure Eds where
  nx : Ro → Sto → Prop
  rt : Sv → Sto → Prop
  bk : Ro → Sto → Prop := fun _ _ => False
  ct : Ro → Sto → Prop := fun _ _ => False
structure EdOk (K : PySem.W.Frag) (M : Dm) (H : Hp) (D' : Ends) (P : Eds) : Prop where
  nx : ∀ σ' H' r' m', Xt M H (dom m') H' → StoOk K H' m' → EnvOk K (dom m') H' σ' r' → P.nx r' m' → D'.nx σ' H'
  rt : ∀ v H' s m', Xt M H (dom m') H' → StoOk K H' m' → RpS K (dom m') H' v s → P.rt s m' → D'.rt v H'
  bk : ∀ σ' H' r' m', Xt M H (dom m') H' → StoOk K H' m' → EnvOk K (dom m') H' σ' r' → P.bk r' m' → D'.bk σ' H'
  ct : ∀ σ' H' r' m', Xt M H (dom m') H' → StoOk K H' m' → EnvOk K (dom m') H' σ' r' → P.ct r' m' → D'.ct σ' H'
/-- M: the domain at the entry of the def, of the loop's turn -/
def WS (K : PySem.W.Frag) (M : Dm) (r : Ro) (m : Sto) (ts : TS) (P : Eds) : Prop :=
  ∀ (σ : L2.St) (H H0 : Hp) (D' : Ends), EnvOk K (dom m) H σ r → StoOk K H m → Xt M H0 (dom m) H → EdOk K M H0 D' P → ts D' σ H
/-- a target that writes the slots js alone -/
def WG (K : PySem.W.Frag) (g : TG) (js : List Nat) (s : Sv) (r : Ro) (m : Sto) (Q : Ro → Prop) : Prop :=
  ∀ (v : V) (σ : L2.St) (H : Hp) (QV : L2.St → Hp → Prop), EnvOk K (dom m) H σ r → StoOk K H m → RpS K (dom m) H v s →
    (∀ σ' r', EnvOk K (dom m) H σ' r' → σ'.length = σ.length → (∀ j, j ∉ js → σ'[j]? = σ[j]?) → Q r' → QV σ' H) → g v σ H QV
/-- what is walked yields the data ds -/
structure ItOk (K : PySem.W.Frag) (M : Dm) (J : It) (H0 : Hp) (ds : List D) : Prop where
  go : ∀ i M' H, Xt M H0 M' H → i < ds.length → J.go i H
  yl : ∀ i M' H v H' d, (∀ a, M' a = true → H a ≠ none) → Xt M H0 M' H → ds[i]? = some d → J.yld i H v H' → Xt M' H M' H' ∧ (∀ a, M' a = true → H' a = H a) ∧ Rp K (hid M' H') v d
  st : ∀ M' H, Xt M H0 M' H → J.stop ds.length H
def WI (K : PySem.W.Frag) (r : Ro) (m : Sto) (wi : TI) (Q : List D → Sto → Prop) : Prop :=
  ∀ (σ : L2.St) (H : Hp) (R : It → Hp → Prop), EnvOk K (dom m) H σ r → StoOk K H m →
    (∀ J H' ds m', Xt (dom m) H (dom m') H' → StoOk K H' m' → ItOk K (dom m') J H' ds → Q ds m' → R J H') → wi σ H R

section
variable {K : PySem.W.Frag} {r : Ro} {m : Sto}
theorem EdOk.mono {M M' : Dm} {H H' : Hp} {D' : Ends} {P : Eds} (x : Xt M H M' H') (h : EdOk K M H D' P) : EdOk K M' H' D' P :=
  ⟨fun σ' H2 r' m2 y => h.nx σ' H2 r' m2 (x.trans y), fun v H2 s m2 y => h.rt v H2 s m2 (x.trans y), fun σ' H2 r' m2 y => h.bk σ' H2 r' m2 (x.trans y), fun σ' H2 r' m2 y => h.ct σ' H2 r' m2 (x.trans y)⟩
theorem WE.imp {te : TE} {Q Q' : Sv → Sto → Prop} (h : WE K r m te Q) (i : ∀ s m', Q s m' → Q' s m') : WE K r m te Q' :=
  fun σ H QV e st k => h σ H QV e st fun v H' s m' x so rs q => k v H' s m' x so rs (i s m' q)
theorem WT.imp {te : TT} {Q Q' : Bool → Sto → Prop} (h : WT K r m te Q) (i : ∀ s m', Q s m' → Q' s m') : WT K r m te Q' :=
  fun σ H QV e st k => h σ H QV e st fun v H' m' x so q => k v H' m' x so (i v m' q)

/-! expressions -/
theorem we_var {i : Nat} {s : Sv} {Q : Sv → Sto → Prop} (h : r[i]? = some (some s)) (q : Q s m) : WE K r m (tVar i) Q := fun σ H QV e st k => by
  obtain ⟨v, h1, h2⟩ := e.2 i s h
  exact ⟨v, h1, k v H s m Xt.refl st h2 q⟩
theorem we_c {v : V} {d : D} {Q : Sv → Sto → Prop} (h : ∀ H, Rp K H v d) (q : Q (.val d) m) : WE K r m (tC v) Q := fun σ H QV e st k => k v H (.val d) m Xt.refl st (h _) q
theorem we_int {i : Int} {Q : Sv → Sto → Prop} (q : Q (.val (.int i)) m) : WE K r m (tC (.int i)) Q := we_c (fun _ => .int i) q
theorem we_str {i : Str} {Q : Sv → Sto → Prop} (q : Q (.val (.str i)) m) : WE K r m (tC (.str i)) Q := we_c (fun _ => .str i) q
theorem we_bl {i : Bool} {Q : Sv → Sto → Prop} (q : Q (.val (.bl i)) m) : WE K r m (tC (.bl i)) Q := we_c (fun _ => .bl i) q
theorem we_non {Q : Sv → Sto → Prop} (q : Q (.val .non) m) : WE K r m (tC .non) Q := we_c (fun _ => .non) q

theorem wa_nil {Q : List Sv → Sto → Prop} (q : Q [] m) : WA K r m tNil Q := fun σ H QV e st k => k [] H [] m Xt.refl st .nil q
theorem RpSs.mono {M M' : Dm} {H H' : Hp} (x : Xt M H M' H') : ∀ {vs : List V} {ss : List Sv}, RpSs K M H vs ss → RpSs K M' H' vs ss
  | _, _, .nil => .nil
  | _, _, .cons h t => .cons (h.mono x) (RpSs.mono x t)
theorem wa_cons {ta : TE} {tr : TA} {Q : List Sv → Sto → Prop} (h : WE K r m ta fun s m1 => WA K r m1 tr fun ss m2 => Q (s :: ss) m2) : WA K r m (tCons ta tr) Q := fun σ H QV e st k =>
  h σ H _ e st fun v H1 s m1 x1 so1 rs1 q1 => q1 σ H1 _ (e.mono x1) so1 fun vs H2 ss m2 x2 so2 rs2 q2 =>
    k (v :: vs) H2 (s :: ss) m2 (x1.trans x2) so2 (.cons (rs1.mono x2) rs2) q2

/-! tests -/
theorem wt_val {te : TE} {Q : Bool → Sto → Prop} (h : WE K r m te fun s m1 => ∃ b, s = .val (.bl b) ∧ Q b m1) : WT K r m (tB te) Q := fun σ H QV e st k =>
  h σ H _ e st fun v H1 s m1 x1 so1 rs1 ⟨b, es, q⟩ => by
    subst es
    have rs2 : Rp K (hid (dom m1) H1) v (.bl b) := rs1
    cases rs2
    exact ⟨b, rfl, k b H1 m1 x1 so1 q⟩
theorem wt_test {te : TE} {Q : Bool → Sto → Prop} (h : WE K r m te fun s m1 => ∃ b, s = .val (.bl b) ∧ Q b m1) : WT K r m (tTest te) Q := wt_val h
theorem wt_and {t u : TT} {Q : Bool → Sto → Prop} (h : WT K r m t fun b m1 => if b = true then WT K r m1 u Q else Q false m1) : WT K r m (tAnd t u) Q := fun σ H QV e st k =>
  h σ H _ e st fun b H1 m1 x1 so1 q => by
    cases b with
    | true => exact (if_pos rfl).mpr ((show WT K r m1 u Q from q) σ H1 QV (e.mono x1) so1 fun b H2 m2 x2 so2 q2 => k b H2 m2 (x1.trans x2) so2 q2)
    | false => exact k false H1 m1 x1 so1 q
theorem wt_or {t u : TT} {Q : Bool → Sto → Prop} (h : WT K r m t fun b m1 => if b = true then Q true m1 else WT K r m1 u Q) : WT K r m (tOr t u) Q := fun σ H QV e st k =>
  h σ H _ e st fun b H1 m1 x1 so1 q => by
    cases b with
    | true => exact k true H1 m1 x1 so1 q
    | false => exact (show WT K r m1 u Q from q) σ H1 QV (e.mono x1) so1 fun b H2 m2 x2 so2 q2 => k b H2 m2 (x1.trans x2) so2 q2
theorem wt_not {t : TT} {Q : Bool → Sto → Prop} (h : WT K r m t fun b m1 => Q (!b) m1) : WT K r m (tNot t) Q := fun σ H QV e st k =>
  h σ H _ e st fun b H1 m1 x1 so1 q => k _ H1 m1 x1 so1 q
theorem we_andV {ta tb : TE} {Q : Sv → Sto → Prop} (h : WE K r m ta fun s m1 => ∃ b, s = .val (.bl b) ∧ if b = true then WE K r m1 tb Q else Q (.val (.bl false)) m1) : WE K r m (tAndV ta tb) Q := fun σ H QV e st k =>
  h σ H _ e st fun v H1 s m1 x1 so1 rs1 ⟨b, es, q⟩ => by
    subst es
    have rs2 : Rp K (hid (dom m1) H1) v (.bl b) := rs1
    cases rs2
    refine ⟨b, rfl, ?_⟩
    cases b with
    | true => exact (show WE K r m1 tb Q from q) σ H1 QV (e.mono x1) so1 fun v H2 s m2 x2 so2 r2 q2 => k v H2 s m2 (x1.trans x2) so2 r2 q2
    | false => exact k _ H1 (.val (.bl false)) m1 x1 so1 (show Rp _ _ _ _ from .bl false) q
theorem we_orV {ta tb : TE} {Q : Sv → Sto → Prop} (h : WE K r m ta fun s m1 => ∃ b, s = .val (.bl b) ∧ if b = true then Q (.val (.bl true)) m1 else WE K r m1 tb Q) : WE K r m (tOrV ta tb) Q := fun σ H QV e st k =>
  h σ H _ e st fun v H1 s m1 x1 so1 rs1 ⟨b, es, q⟩ => by
    subst es
    have rs2 : Rp K (hid (dom m1) H1) v (.bl b) := rs1
    cases rs2
    refine ⟨b, rfl, ?_⟩
    cases b with
    | true => exact k _ H1 (.val (.bl true)) m1 x1 so1 (show Rp _ _ _ _ from .bl true) q
    | false => exact (show WE K r m1 tb Q from q) σ H1 QV (e.mono x1) so1 fun v H2 s m2 x2 so2 r2 q2 => k v H2 s m2 (x1.trans x2) so2 r2 q2
theorem we_notV {ta : TE} {Q : Sv → Sto → Prop} (h : WE K r m ta fun s m1 => ∃ b, s = .val (.bl b) ∧ Q (.val (.bl !b)) m1) : WE K r m (tNotV ta) Q := fun σ H QV e st k =>
  h σ H _ e st fun v H1 s m1 x1 so1 rs1 ⟨b, es, q⟩ => by
    subst es
    have rs2 : Rp K (hid (dom m1) H1) v (.bl b) := rs1
    cases rs2
    exact ⟨b, rfl, k _ H1 (.val (.bl !b)) m1 x1 so1 (show Rp _ _ _ _ from .bl _) q⟩
theorem we_if {t : TT} {ta tb : TE} {Q : Sv → Sto → Prop} (h : WT K r m t fun b m1 => if b = true then WE K r m1 ta Q else WE K r m1 tb Q) : WE K r m (tIf t ta tb) Q := fun σ H QV e st k =>
  h σ H _ e st fun b H1 m1 x1 so1 q => by
    cases b with
    | true => exact (show WE K r m1 ta Q from q) σ H1 QV (e.mono x1) so1 fun v H2 s m2 x2 so2 r2 q2 => k v H2 s m2 (x1.trans x2) so2 r2 q2
    | false => exact (show WE K r m1 tb Q from q) σ H1 QV (e.mono x1) so1 fun v H2 s m2 x2 so2 r2 q2 => k v H2 s m2 (x1.trans x2) so2 r2 q2

/-! displays -/
theorem vals_of {M : Dm} {H : Hp} : ∀ {vs : List V} {ss : List Sv} {ds : List D}, RpSs K M H vs ss → ss = ds.map Sv.val → RpA K (hid M H) vs ds
  | _, _, [], .nil, _ => .nil
  | _, _, [], .cons _ _, e => by cases e
  | _, _, _ :: _, .nil, e => by cases e
  | _, _, d :: ds, .cons h t, e => by
    injection e with e1 e2
    subst e1
    exact .cons h (vals_of t e2)
theorem we_tup {t : TA} {Q : Sv → Sto → Prop} (h : WA K r m t fun ss m1 => ∃ ds : List D, ss = ds.map Sv.val ∧ ds.length ≤ 100000 ∧ Q (.val (.tup ds)) m1) : WE K r m (tTup t) Q := fun σ H QV e st k =>
  h σ H _ e st fun vs H1 ss m1 x1 so1 rs1 ⟨ds, es, hl, q⟩ => by
    have ra := vals_of rs1 es
    refine ⟨by rw [ra.length]; exact Evl.sz_of hl, fun p hp => ?_⟩
    have x2 : Xt (dom m1) H1 (dom m1) (upd H1 p (.tup vs)) := Xt.new hp
    exact k _ _ (.val (.tup ds)) m1 (x1.trans x2) (so1.new hp) (show Rp _ _ _ _ from .tup (.inl (.inl (by rw [hid_out (dom_none.mpr (so1.notin hp))]; exact upd_same))) (ra.mono x2.ex)) q
/-- a new list, owned -/
theorem we_lstO {t : TA} {Q : Sv → Sto → Prop} (h : WA K r m t fun ss m1 => ∃ ds : List D, ss = ds.map Sv.val ∧ ds.length ≤ 100000 ∧ ∀ p, m1 p = none → Q (.adr p) (stS m1 p ds)) : WE K r m (tLst t) Q := fun σ H QV e st k =>
  h σ H _ e st fun vs H1 ss m1 x1 so1 rs1 ⟨ds, es, hl, q⟩ => by
    have ra := vals_of rs1 es
    refine ⟨by rw [ra.length]; exact Evl.sz_of hl, fun p hp => ?_⟩
    exact k _ _ (.adr p) (stS m1 p ds) (x1.trans (Xt.own hp)) (so1.own hp ra) ⟨rfl, dom_some stS_same⟩ (q p (so1.notin hp))
theorem we_lst {t : TA} {Q : Sv → Sto → Prop} (h : WA K r m t fun ss m1 => ∃ ds : List D, ss = ds.map Sv.val ∧ ds.length ≤ 100000 ∧ Q (.val (.lst ds)) m1) : WE K r m (tLst t) Q := fun σ H QV e st k =>
  h σ H _ e st fun vs H1 ss m1 x1 so1 rs1 ⟨ds, es, hl, q⟩ => by
    have ra := vals_of rs1 es
    refine ⟨by rw [ra.length]; exact Evl.sz_of hl, fun p hp => ?_⟩
    have x2 : Xt (dom m1) H1 (dom m1) (upd H1 p (.lst vs)) := Xt.new hp
    exact k _ _ (.val (.lst ds)) m1 (x1.trans x2) (so1.new hp) (show Rp _ _ _ _ from .lst (by rw [hid_out (dom_none.mpr (so1.notin hp))]; exact upd_same) (ra.mono x2.ex)) q

/-! operators by values -/
inductive Rs where
  | v (d : D) | l (ds : List D)
def Rs.d : Rs → D
  | .v d => d
  | .l ds => .lst ds
def kR (K : PySem.W.Frag) (M : Dm) (H : Hp) (Q : VK) : Rs → Prop
  | .v d => ∀ v H', Xt M H M H' → (∀ a, M a = true → H' a = H a) → Rp K (hid M H') v d → Q v H'
  | .l ds => ∀ p xs, H p = none → RpA K (hid M H) xs ds → Q (.ref p) (upd H p (.lst xs))
def rD2 (K : PySem.W.Frag) (f : D → D → Rs → Prop) : R2 := fun x y H Q => ∃ M a b c, (∀ z, M z = true → H z ≠ none) ∧ RpW K M H x a ∧ RpW K M H y b ∧ f a b c ∧ kR K M H Q c
def rD1 (K : PySem.W.Frag) (f : D → Rs → Prop) : V → Hp → VK → Prop := fun x H Q => ∃ M a c, (∀ z, M z = true → H z ≠ none) ∧ RpW K M H x a ∧ f a c ∧ kR K M H Q c
def RpWs (K : PySem.W.Frag) (M : Dm) (H : Hp) : List V → List D → Prop := Paired (RpW K M H)
def rDN (K : PySem.W.Frag) (f : List D → Rs → Prop) : List V → Hp → VK → Prop := fun xs H Q => ∃ M ds c, (∀ z, M z = true → H z ≠ none) ∧ RpWs K M H xs ds ∧ f ds c ∧ kR K M H Q c
theorem StoOk.live {H : Hp} (h : StoOk K H m) : ∀ z, dom m z = true → H z ≠ none := fun z hz => by
  obtain ⟨xs, e⟩ := h.some hz
  rw [e]; simp
theorem kR.of {H : Hp} {Q : Sv → Sto → Prop} {QV : VK} {c : Rs} (so : StoOk K H m)
    (k : ∀ v H' s m', Xt (dom m) H (dom m') H' → StoOk K H' m' → RpS K (dom m') H' v s → Q s m' → QV v H') (q : Q (.val c.d) m) : kR K (dom m) H QV c := by
  cases c with
  | v d => exact fun v H' x kp rp => k v H' (.val d) m x (so.keep x kp) rp q
  | l ds => exact fun p xs hp ra => k _ _ (.val (.lst ds)) m (Xt.new hp) (so.new hp) (show Rp _ _ _ _ from .lst (by rw [hid_out (dom_none.mpr (so.notin hp))]; exact upd_same) (ra.mono (Xt.new hp).ex)) q
theorem kR.ofO {H : Hp} {Q : Sv → Sto → Prop} {QV : VK} {ds : List D} (so : StoOk K H m)
    (k : ∀ v H' s m', Xt (dom m) H (dom m') H' → StoOk K H' m' → RpS K (dom m') H' v s → Q s m' → QV v H') (q : ∀ p, m p = none → Q (.adr p) (stS m p ds)) : kR K (dom m) H QV (.l ds) :=
  fun p xs hp ra => k _ _ (.adr p) (stS m p ds) (Xt.own hp) (so.own hp ra) ⟨rfl, dom_some stS_same⟩ (q p (so.notin hp))
theorem we_op {f : D → D → Rs → Prop} {ta tb : TE} {Q : Sv → Sto → Prop} (h : WE K r m ta fun s m1 => WE K r m1 tb fun t m2 => ∃ a b c, vw m2 s = some a ∧ vw m2 t = some b ∧ f a b c ∧ Q (.val c.d) m2) : WE K r m (tOp (rD2 K f) ta tb) Q := fun σ H QV e st k =>
  h σ H _ e st fun v H1 s m1 x1 so1 rs1 q1 => q1 σ H1 _ (e.mono x1) so1 fun u H2 t m2 x2 so2 rs2 ⟨a, b, c, ha, hb, hf, q⟩ =>
    ⟨dom m2, a, b, c, so2.live, RpW.of (rs1.mono x2) so2 ha, RpW.of rs2 so2 hb, hf, kR.of so2 (fun v H' s m' x => k v H' s m' ((x1.trans x2).trans x)) q⟩
theorem we_opO {f : D → D → Rs → Prop} {ta tb : TE} {Q : Sv → Sto → Prop} (h : WE K r m ta fun s m1 => WE K r m1 tb fun t m2 => ∃ a b ds, vw m2 s = some a ∧ vw m2 t = some b ∧ f a b (.l ds) ∧ ∀ p, m2 p = none → Q (.adr p) (stS m2 p ds)) : WE K r m (tOp (rD2 K f) ta tb) Q := fun σ H QV e st k =>
  h σ H _ e st fun v H1 s m1 x1 so1 rs1 q1 => q1 σ H1 _ (e.mono x1) so1 fun u H2 t m2 x2 so2 rs2 ⟨a, b, c, ha, hb, hf, q⟩ =>
    ⟨dom m2, a, b, .l c, so2.live, RpW.of (rs1.mono x2) so2 ha, RpW.of rs2 so2 hb, hf, kR.ofO so2 (fun v H' s m' x => k v H' s m' ((x1.trans x2).trans x)) q⟩
theorem we_un {f : D → Rs → Prop} {ta : TE} {Q : Sv → Sto → Prop} (h : WE K r m ta fun s m1 => ∃ a c, vw m1 s = some a ∧ f a c ∧ Q (.val c.d) m1) : WE K r m (tUn (rD1 K f) ta) Q := fun σ H QV e st k =>
  h σ H _ e st fun v H1 s m1 x1 so1 rs1 ⟨a, c, ha, hf, q⟩ => ⟨dom m1, a, c, so1.live, RpW.of rs1 so1 ha, hf, kR.of so1 (fun v H' s m' x => k v H' s m' (x1.trans x)) q⟩
theorem RpWs.of {H : Hp} (st : StoOk K H m) : ∀ {vs : List V} {ss : List Sv} {ds : List D}, RpSs K (dom m) H vs ss → ss.map (vw m) = ds.map some → RpWs K (dom m) H vs ds
  | _, _, [], .nil, _ => .nil
  | _, _, [], .cons _ _, e => by cases e
  | _, _, _ :: _, .nil, e => by cases e
  | _, _, d :: ds, .cons h t, e => by
    injection e with e1 e2
    exact .cons (RpW.of h st e1) (RpWs.of st t e2)
theorem we_cb {f : List D → Rs → Prop} {ta : TA} {Q : Sv → Sto → Prop} (h : WA K r m ta fun ss m1 => ∃ ds c, ss.map (vw m1) = ds.map some ∧ f ds c ∧ Q (.val c.d) m1) : WE K r m (tCB (rDN K f) ta) Q := fun σ H QV e st k =>
  h σ H _ e st fun vs H1 ss m1 x1 so1 rs1 ⟨ds, c, hs, hf, q⟩ => ⟨dom m1, ds, c, so1.live, RpWs.of so1 rs1 hs, hf, kR.of so1 (fun v H' s m' x => k v H' s m' (x1.trans x)) q⟩
theorem we_cbO {f : List D → Rs → Prop} {ta : TA} {Q : Sv → Sto → Prop} (h : WA K r m ta fun ss m1 => ∃ ds es, ss.map (vw m1) = ds.map some ∧ f ds (.l es) ∧ ∀ p, m1 p = none → Q (.adr p) (stS m1 p es)) : WE K r m (tCB (rDN K f) ta) Q := fun σ H QV e st k =>
  h σ H _ e st fun vs H1 ss m1 x1 so1 rs1 ⟨ds, c, hs, hf, q⟩ => ⟨dom m1, ds, .l c, so1.live, RpWs.of so1 rs1 hs, hf, kR.ofO so1 (fun v H' s m' x => k v H' s m' (x1.trans x)) q⟩
end
end Cr

/-! Cr2: statements, loops, comprehensions, promises over data. -/
namespace Cr
open PySem PySem.Spec PyProof.Rows L2
section
variable {K : PySem.W.Frag} {M : Dm} {r : Ro} {m : Sto} {P : Eds}
/-! ### statements -/
theorem ws_next (q : P.nx r m) : WS K M r m tNext P := fun σ H H0 D' e st x d => d.nx σ H r m x st e q
theorem ws_seq {t u : TS} (h : WS K M r m t { P with nx := fun r' m' => WS K M r' m' u P }) : WS K M r m (tSeq t u) P := fun σ H H0 D' e st x d =>
  h σ H H0 { D' with nx := u D' } e st x ⟨fun σ' H' r' m' x' s' e' q => q σ' H' H0 D' e' s' x' d, d.rt, d.bk, d.ct⟩
theorem ws_asg {te : TE} {i : Nat} (h : WE K r m te fun s m1 => P.nx (r.set i (some s)) m1) : WS K M r m (tAsg te (gName i)) P := fun σ H H0 D' e st x d =>
  h σ H _ e st fun v H1 s m1 x1 so1 rs q => by
    have e1 := e.mono x1
    refine d.nx (σ.set i (some v)) H1 _ m1 (x.trans x1) so1 ⟨by rw [List.length_set, List.length_set]; exact e1.1, fun j t ht => ?_⟩ q
    by_cases hj : i = j
    · subst hj
      rw [List.getElem?_set] at ht
      by_cases hl : i < r.length
      · rw [if_pos rfl, if_pos hl] at ht
        cases ht
        refine ⟨v, ?_, rs⟩
        rw [List.getElem?_set, if_pos rfl, if_pos (by rw [e1.1]; exact hl)]
      · rw [if_pos rfl, if_neg hl] at ht
        cases ht
    · rw [List.getElem?_set_ne hj] at ht
      obtain ⟨u, h1, h2⟩ := e1.2 j t ht
      exact ⟨u, by rw [List.getElem?_set_ne hj]; exact h1, h2⟩
theorem ws_asgG {te : TE} {g : TG} (js : List Nat) (h : WE K r m te fun s m1 => WG K g js s r m1 fun r' => P.nx r' m1) : WS K M r m (tAsg te g) P := fun σ H H0 D' e st x d =>
  h σ H _ e st fun v H1 s m1 x1 so1 rs q => q v σ H1 _ (e.mono x1) so1 rs fun σ' r' e' _ _ q' => d.nx σ' H1 r' m1 (x.trans x1) so1 e' q'
theorem ws_ret {te : TE} (h : WE K r m te P.rt) : WS K M r m (tRet te) P := fun σ H H0 D' e st x d =>
  h σ H _ e st fun v H1 s m1 x1 so1 rs q => d.rt v H1 s m1 (x.trans x1) so1 rs q
theorem ws_retN (q : P.rt (.val .non) m) : WS K M r m tRetN P := fun σ H H0 D' e st x d => d.rt .non H (.val .non) m x st (show Rp _ _ _ _ from .non) q
theorem ws_drop {te : TE} (h : WE K r m te fun _ m1 => P.nx r m1) : WS K M r m (tDrop te) P := fun σ H H0 D' e st x d =>
  h σ H _ e st fun v H1 s m1 x1 so1 rs q => d.nx σ H1 r m1 (x.trans x1) so1 (e.mono x1) q
theorem ws_if {c : TT} {t u : TS} (h : WT K r m c fun b m1 => if b = true then WS K M r m1 t P else WS K M r m1 u P) : WS K M r m (tIfS c t u) P := fun σ H H0 D' e st x d =>
  h σ H _ e st fun b H1 m1 x1 so1 q => by
    cases b with
    | true => exact (show WS K M r m1 t P from q) σ H1 H0 D' (e.mono x1) so1 (x.trans x1) d
    | false => exact (show WS K M r m1 u P from q) σ H1 H0 D' (e.mono x1) so1 (x.trans x1) d
theorem ws_cont (q : P.ct r m) : WS K M r m tCont P := fun σ H H0 D' e st x d => d.ct σ H r m x st e q
theorem ws_break (q : P.bk r m) : WS K M r m tBreak P := fun σ H H0 D' e st x d => d.bk σ H r m x st e q
theorem WS.imp {ts : TS} {P' : Eds} (h : WS K M r m ts P) (h1 : ∀ r' m', P.nx r' m' → P'.nx r' m') (h2 : ∀ s m', P.rt s m' → P'.rt s m') (h3 : ∀ r' m', P.bk r' m' → P'.bk r' m') (h4 : ∀ r' m', P.ct r' m' → P'.ct r' m') : WS K M r m ts P' := fun σ H H0 D' e st x d =>
  h σ H H0 D' e st x ⟨fun σ' H' r' m' a b c q => d.nx σ' H' r' m' a b c (h1 _ _ q), fun v H' s m' a b c q => d.rt v H' s m' a b c (h2 _ _ q), fun σ' H' r' m' a b c q => d.bk σ' H' r' m' a b c (h3 _ _ q), fun σ' H' r' m' a b c q => d.ct σ' H' r' m' a b c (h4 _ _ q)⟩
/-- less is known of the slots -/
theorem WS.env {r2 : Ro} {ts : TS} (hl : r2.length = r.length) (hr : ∀ (i : Nat) (s : Sv), r2[i]? = some (some s) → r[i]? = some (some s)) (h : WS K M r2 m ts P) : WS K M r m ts P := fun σ H H0 D' e st x d =>
  h σ H H0 D' ⟨e.1.trans hl.symm, fun i s q => e.2 i s (hr i s q)⟩ st x d
/-- an owned list is let free -/
def frzS (p : Addr) (ds : List D) : Option Sv → Option Sv
  | some (.adr a) => if a = p then some (.val (.lst ds)) else some (.adr a)
  | s => s
theorem ws_frz {ts : TS} {p : Addr} {ds : List D} (hp : m p = some ds) (hM : M p = false) (h : WS K M (r.map (frzS p ds)) (stD m p) ts P) : WS K M r m ts P := fun σ H H0 D' e st x d => by
  obtain ⟨s1, s2⟩ := st.frz hp
  refine h σ H H0 D' ⟨by rw [List.length_map]; exact e.1, fun i s q => ?_⟩ s1 (x.frz hM) d
  rw [List.getElem?_map] at q
  cases ei : r[i]? with
  | none => rw [ei] at q; cases q
  | some o =>
    rw [ei] at q
    cases o with
    | none => cases q
    | some z =>
      obtain ⟨v, h1, h2⟩ := e.2 i z ei
      cases z with
      | val dd =>
        have q2 : some (some (Sv.val dd)) = some (some s) := q
        cases q2
        exact ⟨v, h1, Rp.mono (hid_sub stD_sub) h2⟩
      | adr a =>
        have q2 : some (if a = p then some (Sv.val (.lst ds)) else some (.adr a)) = some (some s) := q
        obtain ⟨rfl, h3⟩ := h2
        by_cases z : a = p
        · rw [if_pos z] at q2
          cases q2
          exact ⟨_, h1, by rw [z]; exact s2⟩
        · rw [if_neg z] at q2
          cases q2
          obtain ⟨es, ee⟩ := dom_true h3
          exact ⟨_, h1, rfl, dom_some (show stD m p a = some es by unfold stD; rw [if_neg z]; exact ee)⟩
theorem ws_aug {te : TE} {i : Nat} {f : Int → Int → Int} {a : Int} (ha : r[i]? = some (some (.val (.int a)))) (h : WE K r m te fun s m1 => ∃ b, s = .val (.int b) ∧ P.nx (r.set i (some (.val (.int (f a b))))) m1) : WS K M r m (tAug i te (ipI f)) P := fun σ H H0 D' e st x d => by
  obtain ⟨v, h1, h2⟩ := e.2 i _ ha
  have h2' : Rp K (hid (dom m) H) v (.int a) := h2
  cases h2'
  refine ⟨_, h1, h σ H _ e st fun u H1 s m1 x1 so1 rs ⟨b, es, q⟩ => ?_⟩
  subst es
  have rs' : Rp K (hid (dom m1) H1) u (.int b) := rs
  cases rs'
  exact ⟨a, b, rfl, rfl, (ws_asg (te := tC (.int (f a b))) (i := i) (M := M) (we_int q)) σ H1 H0 D' (e.mono x1) so1 (x.trans x1) d⟩
/-- two names at once -/
theorem ws_par {ta : TA} {i j : Nat} (h : WA K r m ta fun ss m1 => ∃ s t, ss = [s, t] ∧ P.nx ((r.set i (some s)).set j (some t)) m1) : WS K M r m (tPar i j ta) P := fun σ H H0 D' e st x d =>
  h σ H _ e st fun vs H1 ss m1 x1 so1 rs ⟨s, t, es, q⟩ => by
    subst es
    cases rs with
    | cons r1 rs =>
      cases rs with
      | cons r2 rs =>
        cases rs
        refine ⟨_, _, rfl, ?_⟩
        have e1 := e.mono x1
        have key : ∀ {σ : L2.St} {r : Ro} {v : V} {s : Sv} {i : Nat}, EnvOk K (dom m1) H1 σ r → RpS K (dom m1) H1 v s → EnvOk K (dom m1) H1 (σ.set i (some v)) (r.set i (some s)) := fun {σ r v s i} e rs => by
          refine ⟨by rw [List.length_set, List.length_set]; exact e.1, fun j t ht => ?_⟩
          by_cases hj : i = j
          · subst hj
            rw [List.getElem?_set] at ht
            by_cases hl : i < r.length
            · rw [if_pos rfl, if_pos hl] at ht
              cases ht
              exact ⟨v, by rw [List.getElem?_set, if_pos rfl, if_pos (by rw [e.1]; exact hl)], rs⟩
            · rw [if_pos rfl, if_neg hl] at ht
              cases ht
          · rw [List.getElem?_set_ne hj] at ht
            obtain ⟨u, h1, h2⟩ := e.2 j t ht
            exact ⟨u, by rw [List.getElem?_set_ne hj]; exact h1, h2⟩
        exact d.nx _ H1 _ m1 (x.trans x1) so1 (key (key e1 r1) r2) q

/-! ### targets -/
theorem EnvOk.set {M : Dm} {H : Hp} {σ : L2.St} {r : Ro} {v : V} {s : Sv} {i : Nat} (e : EnvOk K M H σ r) (rs : RpS K M H v s) : EnvOk K M H (σ.set i (some v)) (r.set i (some s)) := by
  refine ⟨by rw [List.length_set, List.length_set]; exact e.1, fun j t ht => ?_⟩
  by_cases hj : i = j
  · subst hj
    rw [List.getElem?_set] at ht
    by_cases hl : i < r.length
    · rw [if_pos rfl, if_pos hl] at ht
      cases ht
      exact ⟨v, by rw [List.getElem?_set, if_pos rfl, if_pos (by rw [e.1]; exact hl)], rs⟩
    · rw [if_pos rfl, if_neg hl] at ht
      cases ht
  · rw [List.getElem?_set_ne hj] at ht
    obtain ⟨u, h1, h2⟩ := e.2 j t ht
    exact ⟨u, by rw [List.getElem?_set_ne hj]; exact h1, h2⟩
theorem wg_name {i : Nat} {s : Sv} {Q : Ro → Prop} (q : Q (r.set i (some s))) : WG K (gName i) [i] s r m Q := fun v σ H QV e st rs k =>
  k (σ.set i (some v)) (r.set i (some s)) (e.set rs) List.length_set (fun j hj => List.getElem?_set_ne (fun z => hj (by rw [z]; exact List.mem_cons_self))) q
/-- a row of targets -/
def WGs (K : PySem.W.Frag) (g : TGs) (js : List Nat) (ds : List D) (r : Ro) (m : Sto) (Q : Ro → Prop) : Prop :=
  ∀ (vs : List V) (σ : L2.St) (H : Hp) (QV : L2.St → Hp → Prop), EnvOk K (dom m) H σ r → StoOk K H m → RpA K (hid (dom m) H) vs ds →
    (∀ σ' r', EnvOk K (dom m) H σ' r' → σ'.length = σ.length → (∀ j, j ∉ js → σ'[j]? = σ[j]?) → Q r' → QV σ' H) → g vs σ H QV
theorem wgs_nil {Q : Ro → Prop} (q : Q r) : WGs K gNil [] [] r m Q := fun vs σ H QV e st rs k => by
  cases rs
  exact ⟨rfl, k σ r e rfl (fun _ _ => rfl) q⟩
theorem wgs_cons {t : TG} {u : TGs} {js ks : List Nat} {d : D} {ds : List D} {Q : Ro → Prop} (h : WG K t js (.val d) r m fun r1 => WGs K u ks ds r1 m Q) : WGs K (gCons t u) (js ++ ks) (d :: ds) r m Q := fun vs σ H QV e st rs k => by
  cases rs with
  | cons r1 r2 =>
    refine ⟨_, _, rfl, h _ σ H _ e st r1 fun σ1 r1' e1 l1 n1 q1 => q1 _ σ1 H _ e1 st r2 fun σ2 r2' e2 l2 n2 q2 => ?_⟩
    exact k σ2 r2' e2 (l2.trans l1) (fun j hj => (n2 j fun z => hj (List.mem_append_right _ z)).trans (n1 j fun z => hj (List.mem_append_left _ z))) q2
theorem wg_tup {n : Nat} {t : TGs} {js : List Nat} {ds : List D} {Q : Ro → Prop} (hn : ds.length = n) (h : WGs K t js ds r m Q) : WG K (gTup K n t) js (.val (.tup ds)) r m Q := fun v σ H QV e st rs k => by
  have rs' : Rp K (hid (dom m) H) v (.tup ds) := rs
  cases rs' with
  | tup hs ha => exact ⟨_, _, rfl, Evl.ex_t hid_ex hs, by rw [ha.length]; exact hn, h _ σ H QV e st ha k⟩

/-! ### loops -/
theorem StoOk.liveM {H : Hp} (st : StoOk K H m) : ∀ a, dom m a = true → H a ≠ none := st.live
theorem ws_for {wi : TI} {g : TG} {tb : TS} (js : List Nat) (h : WI K r m wi fun ds m1 => ∃ I : Nat → Ro → Sto → Prop, I 0 r m1 ∧
      (∀ i d r' m', ds[i]? = some d → I i r' m' → WG K g js (.val d) r' m' fun r2 => WS K (dom m1) r2 m' tb { nx := I (i + 1), ct := I (i + 1), bk := P.nx, rt := P.rt }) ∧
      (∀ r' m', I ds.length r' m' → P.nx r' m')) : WS K M r m (tFor wi g tb) P := fun σ H H0 D' e st x d =>
  h σ H _ e st fun J H1 ds m1 x1 so1 io ⟨I, i0, turn, fin⟩ => by
    refine ⟨fun i n σ' H' => ∃ r' m', i + n = ds.length ∧ Xt (dom m1) H1 (dom m') H' ∧ StoOk K H' m' ∧ EnvOk K (dom m') H' σ' r' ∧ I i r' m', ⟨ds.length, r, m1, by omega, Xt.refl, so1, e.mono x1, i0⟩, ?_⟩
    rintro i n σ' H' ⟨r', m', hn, x2, so2, e2, hI⟩
    by_cases hi : i < ds.length
    · right
      refine ⟨io.go i _ _ x2 hi, fun σ3 H3 => ∃ r' m', Xt (dom m1) H1 (dom m') H3 ∧ StoOk K H3 m' ∧ EnvOk K (dom m') H3 σ3 r' ∧ I (i + 1) r' m', ?_, fun v H3 hy => ?_⟩
      · rintro σ3 H3 ⟨r3, m3, a, b, c, q⟩
        exact ⟨n - 1, by omega, r3, m3, by omega, a, b, c, q⟩
      · obtain ⟨x3, kp, rp⟩ := io.yl i _ _ v H3 ds[i] so2.live x2 (List.getElem?_eq_getElem hi) hy
        have so3 := so2.keep x3 kp
        refine turn i ds[i] r' m' (List.getElem?_eq_getElem hi) hI v σ' H3 _ (e2.mono x3) so3 rp fun σ4 r4 e4 _ _ q4 => ?_
        refine q4 σ4 H3 H1 _ e4 so3 (x2.trans x3) ⟨fun σ5 H5 r5 m5 a b c q => ⟨r5, m5, a, b, c, q⟩, fun v5 H5 s5 m5 a b c q => d.rt v5 H5 s5 m5 ((x.trans x1).trans a) b c q, fun σ5 H5 r5 m5 a b c q => d.nx σ5 H5 r5 m5 ((x.trans x1).trans a) b c q, fun σ5 H5 r5 m5 a b c q => ⟨r5, m5, a, b, c, q⟩⟩
    · left
      have hl : i = ds.length := by omega
      subst hl
      exact ⟨io.st _ _ x2, d.nx σ' H' r' m' ((x.trans x1).trans x2) so2 e2 (fin r' m' hI)⟩
theorem ws_while {c : TT} {tb : TS} (I : Nat → Ro → Sto → Prop) (n0 : Nat) (i0 : I n0 r m)
    (turn : ∀ n r' m', I n r' m' → WT K r' m' c fun b m1 => if b = true then WS K (dom m) r' m1 tb { nx := fun r2 m2 => ∃ n', n' < n ∧ I n' r2 m2, ct := fun r2 m2 => ∃ n', n' < n ∧ I n' r2 m2, bk := P.nx, rt := P.rt } else P.nx r' m1) : WS K M r m (tWhile c tb) P := fun σ H H0 D' e st x d => by
  refine ⟨fun n σ' H' => ∃ r' m', Xt (dom m) H (dom m') H' ∧ StoOk K H' m' ∧ EnvOk K (dom m') H' σ' r' ∧ I n r' m', ⟨n0, r, m, Xt.refl, st, e, i0⟩, ?_⟩
  rintro n σ' H' ⟨r', m', x2, so2, e2, hI⟩
  refine turn n r' m' hI σ' H' _ e2 so2 fun b H3 m3 x3 so3 q => ?_
  cases b with
  | true =>
    refine ⟨fun σ4 H4 => ∃ n', n' < n ∧ ∃ r4 m4, Xt (dom m) H (dom m4) H4 ∧ StoOk K H4 m4 ∧ EnvOk K (dom m4) H4 σ4 r4 ∧ I n' r4 m4, fun σ4 H4 z => z, ?_⟩
    refine (show WS K (dom m) r' m3 tb _ from q) σ' H3 H _ (e2.mono x3) so3 (x2.trans x3) ⟨fun σ5 H5 r5 m5 a b c ⟨n', hn, q⟩ => ⟨n', hn, r5, m5, a, b, c, q⟩, fun v5 H5 s5 m5 a b c q => d.rt v5 H5 s5 m5 (x.trans a) b c q, fun σ5 H5 r5 m5 a b c q => d.nx σ5 H5 r5 m5 (x.trans a) b c q, fun σ5 H5 r5 m5 a b c ⟨n', hn, q⟩ => ⟨n', hn, r5, m5, a, b, c, q⟩⟩
  | false => exact d.nx σ' H3 r' m3 (x.trans (x2.trans x3)) so3 (e2.mono x3) q
end

/-! ### comprehensions -/
def wipeR (r : Ro) : List Nat → Ro
  | [] => r
  | v :: vs => (wipeR r vs).set v none
theorem wipe_env {K : PySem.W.Frag} {M : Dm} {H : Hp} {σ : L2.St} {r : Ro} (e : EnvOk K M H σ r) : ∀ vs : List Nat, EnvOk K M H (wipe σ vs) (wipeR r vs)
  | [] => e
  | v :: vs => by
    have ih := wipe_env e vs
    refine ⟨by show ((wipe σ vs).set v none).length = ((wipeR r vs).set v none).length; rw [List.length_set, List.length_set]; exact ih.1, fun j t ht => ?_⟩
    have ht2 : ((wipeR r vs).set v none)[j]? = some (some t) := ht
    by_cases hj : v = j
    · subst hj
      rw [List.getElem?_set] at ht2
      by_cases hl : v < (wipeR r vs).length
      · rw [if_pos rfl, if_pos hl] at ht2; cases ht2
      · rw [if_pos rfl, if_neg hl] at ht2; cases ht2
    · rw [List.getElem?_set_ne hj] at ht2
      obtain ⟨u, h1, h2⟩ := ih.2 j t ht2
      exact ⟨u, by show ((wipe σ vs).set v none)[j]? = _; rw [List.getElem?_set_ne hj]; exact h1, h2⟩
theorem wipe_get {σ : L2.St} {j : Nat} : ∀ {vs : List Nat}, j ∈ vs → (wipe σ vs)[j]? = if j < σ.length then some none else none
  | [], h => by cases h
  | v :: vs, h => by
    show ((wipe σ vs).set v none)[j]? = _
    by_cases hj : v = j
    · subst hj
      rw [List.getElem?_set, if_pos rfl, wipe_length]
    · rw [List.getElem?_set_ne hj]
      rcases List.mem_cons.mp h with q | q
      · exact absurd q.symm hj
      · exact wipe_get q
theorem wipe_eq {σ σ' : L2.St} {vs : List Nat} (hl : σ'.length = σ.length) (hj : ∀ j, j ∉ vs → σ'[j]? = σ[j]?) : wipe σ' vs = wipe σ vs := by
  refine List.ext_getElem? fun j => ?_
  by_cases q : j ∈ vs
  · rw [wipe_get q, wipe_get q, hl]
  · rw [wipe_out q, wipe_out q, hj j q]
theorem wipe_wipe {σ : L2.St} {vs : List Nat} : wipe (wipe σ vs) vs = wipe σ vs := wipe_eq (wipe_length σ vs) fun j q => wipe_out q

section
variable {K : PySem.W.Frag} {r : Ro} {m : Sto}
/-- the general comprehension; the new list is owned while it grows, and stays so -/
theorem we_lcO {wi : TI} {g : TG} {tt : TT} {te : TE} {vs js : List Nat} {Q : Sv → Sto → Prop} (hjs : ∀ j ∈ js, j ∈ vs)
    (h : WI K r m wi fun ds m1 => ds.length ≤ 100000 ∧ ∀ p, m1 p = none → ∃ I : Nat → List D → Sto → Prop, I 0 [] (stS m1 p []) ∧
      (∀ i d acc m', ds[i]? = some d → acc.length ≤ i → m' p = some acc → I i acc m' → WG K g js (.val d) (wipeR r vs) m' fun r2 => WT K r2 m' tt fun b m2 => if b = true then WE K r2 m2 te fun s m3 => ∃ x, s = .val x ∧ m3 p = some acc ∧ I (i + 1) (acc ++ [x]) (stS m3 p (acc ++ [x])) else m2 p = some acc ∧ I (i + 1) acc m2) ∧
      (∀ acc m', m' p = some acc → I ds.length acc m' → Q (.adr p) m')) : WE K r m (tLc wi g tt te vs) Q := fun σ H QV e st k =>
  h σ H _ e st fun J H1 ds m1 x1 so1 io ⟨hsz, q1⟩ D hD => by
    obtain ⟨I, i0, turn, fin⟩ := q1 D (so1.notin hD)
    refine ⟨fun i n H' => ∃ acc m', i + n = ds.length ∧ acc.length ≤ i ∧ Xt (dom m1) H1 (dom m') H' ∧ StoOk K H' m' ∧ m' D = some acc ∧ I i acc m', ⟨ds.length, [], stS m1 D [], by omega, Nat.le_refl _, Xt.own hD, so1.own hD .nil, stS_same, i0⟩, ?_⟩
    rintro i n H' ⟨acc, m', hn, hacc, x2, so2, hm, hI⟩
    by_cases hi : i < ds.length
    · right
      refine ⟨io.go i _ _ x2 hi, fun H3 => ∃ acc' m3, acc'.length ≤ i + 1 ∧ Xt (dom m1) H1 (dom m3) H3 ∧ StoOk K H3 m3 ∧ m3 D = some acc' ∧ I (i + 1) acc' m3, ?_, fun v H3 hy => ?_⟩
      · rintro H3 ⟨acc', m3, hl, a, b, c, q⟩
        exact ⟨n - 1, by omega, acc', m3, by omega, hl, a, b, c, q⟩
      · obtain ⟨x3, kp, rp⟩ := io.yl i _ _ v H3 ds[i] so2.live x2 (List.getElem?_eq_getElem hi) hy
        have so3 := so2.keep x3 kp
        have e3 : EnvOk K (dom m') H3 (wipe σ vs) (wipeR r vs) := wipe_env ((e.mono x1).mono (x2.trans x3)) vs
        refine turn i ds[i] acc m' (List.getElem?_eq_getElem hi) hacc hm hI v (wipe σ vs) H3 _ e3 so3 rp fun σ4 r4 e4 l4 n4 q4 => ⟨?_, ?_⟩
        · exact (wipe_eq l4 fun j hj => n4 j fun z => hj (hjs j z)).trans wipe_wipe
        · refine q4 σ4 H3 _ e4 so3 fun b H4 m4 x4 so4 q5 => ?_
          cases b with
          | false =>
            obtain ⟨c1, c2⟩ := q5
            exact ⟨acc, m4, by omega, (x2.trans x3).trans x4, so4, c1, c2⟩
          | true =>
            refine (show WE K r4 m4 te _ from q5) σ4 H4 _ (e4.mono x4) so4 fun y H5 s m5 x5 so5 rs ⟨x, es, c1, c2⟩ => ?_
            subst es
            obtain ⟨xs, hx, ra⟩ := so5 D acc c1
            have rs' : Rp K (hid (dom m5) H5) y x := rs
            have hlen : acc.length < sizeLine := Evl.sz_lt (by omega)
            refine ⟨xs, hx, by rw [ra.length]; exact hlen, acc ++ [x], stS m5 D (acc ++ [x]), by rw [List.length_append]; show acc.length + 1 ≤ i + 1; omega, ?_, so5.wr c1 (ra.append (.cons rs' .nil)), stS_same, c2⟩
            have w : Xt (dom m5) H5 (dom m5) (upd H5 D (.lst (xs ++ [y]))) := Xt.wr (dom_some c1)
            rw [dom_stS c1]
            exact (((x2.trans x3).trans x4).trans x5).trans w
    · left
      have hl : i = ds.length := by omega
      subst hl
      exact ⟨io.st _ _ x2, k (.ref D) H' (.adr D) m' (x1.trans x2) so2 ⟨rfl, dom_some hm⟩ (fin acc m' hm hI)⟩
/-- an owned fresh result is let free -/
theorem we_free {te : TE} {Q : Sv → Sto → Prop} (h : WE K r m te fun s m1 => ∃ p ds, s = .adr p ∧ m p = none ∧ m1 p = some ds ∧ Q (.val (.lst ds)) (stD m1 p)) : WE K r m te Q := fun σ H QV e st k =>
  h σ H QV e st fun v H1 s m1 x1 so1 rs ⟨p, ds, es, hp, hm, q⟩ => by
    subst es
    obtain ⟨rfl, _⟩ := rs
    obtain ⟨s1, s2⟩ := so1.frz hm
    exact k _ H1 (.val (.lst ds)) (stD m1 p) (x1.frz (dom_none.mpr hp)) s1 s2 q
/-- a comprehension whose tests and element leave the store as it is -/
theorem we_lc {wi : TI} {g : TG} {tt : TT} {te : TE} {vs js : List Nat} {Q : Sv → Sto → Prop} (hjs : ∀ j ∈ js, j ∈ vs)
    (h : WI K r m wi fun ds m1 => ds.length ≤ 100000 ∧ m1 = m ∧ ∃ (f : D → Bool) (v : D → D), (∀ d ∈ ds, ∀ m', WG K g js (.val d) (wipeR r vs) m' fun r2 => WT K r2 m' tt fun b m2 => b = f d ∧ m2 = m' ∧ (b = true → WE K r2 m' te fun s m3 => s = .val (v d) ∧ m3 = m')) ∧
      Q (.val (.lst ((ds.filter f).map v))) m) : WE K r m (tLc wi g tt te vs) Q := by
  refine we_free (we_lcO hjs fun σ H R e st k => h σ H R e st fun J H' ds mz x so io ⟨hl, em, f, v, turn, q⟩ => k J H' ds mz x so io ⟨hl, fun p hp => ?_⟩)
  subst em
  refine ⟨fun i acc m' => m' = stS mz p acc ∧ acc = ((ds.take i).filter f).map v, ⟨rfl, rfl⟩, ?_, ?_⟩
  · rintro i d acc m' hd _ hm ⟨rfl, rfl⟩
    have hmem : d ∈ ds := List.mem_of_getElem? hd
    have tk : ds.take (i + 1) = ds.take i ++ [d] := by rw [List.take_add_one, hd]; rfl
    refine fun v1 σ1 H1 QV1 e1 st1 rs1 k1 => turn d hmem _ v1 σ1 H1 QV1 e1 st1 rs1 fun σ2 r2 e2 l2 n2 q2 => k1 σ2 r2 e2 l2 n2 (q2.imp fun b m2 ⟨hb, hm2, q3⟩ => ?_)
    subst hm2
    cases b with
    | true =>
      refine (q3 rfl).imp fun s m3 ⟨hs, hm3⟩ => ⟨v d, hs, by rw [hm3]; exact stS_same, ?_, ?_⟩
      · rw [hm3, stS_stS]
      · rw [tk, List.filter_append, List.map_append]
        have : [d].filter f = [d] := by rw [List.filter_cons, if_pos hb.symm]; rfl
        rw [this]; rfl
    | false =>
      refine ⟨stS_same, rfl, ?_⟩
      rw [tk, List.filter_append, List.map_append]
      have : [d].filter f = [] := by rw [List.filter_cons, if_neg (by rw [← hb]; exact Bool.false_ne_true)]; rfl
      rw [this]
      simp
  · rintro acc m' hm ⟨rfl, rfl⟩
    refine ⟨p, _, rfl, hp, stS_same, ?_⟩
    rw [stD_stS hp, List.take_length]
    exact q

/-! ### promises over data -/
abbrev Tr := List Sv → Sto → (Sv → Sto → Prop) → Prop
def SpD (K : PySem.W.Frag) (T : Tr) : Sp := fun vs H QV _ => ∃ m ss Q, StoOk K H m ∧ RpSs K (dom m) H vs ss ∧ T ss m Q ∧
  ∀ v H' s m', Xt (dom m) H (dom m') H' → StoOk K H' m' → RpS K (dom m') H' v s → Q s m' → QV v H'
theorem we_call {T : Tr} {E : XK} {ta : TA} {Q : Sv → Sto → Prop} (h : WA K r m ta fun ss m1 => T ss m1 Q) : WE K r m (tCall (SpD K T) [] E ta) Q := fun σ H QV e st k =>
  h σ H _ e st fun vs H1 ss m1 x1 so1 rs q => ⟨m1, ss, Q, so1, by rw [List.append_nil]; exact rs, q, fun v H' s m' x so rp q' => k v H' s m' (x1.trans x) so rp q'⟩
def startR (N : List Str) (ss : List Sv) : Ro := ss.map some ++ List.replicate (N.length - ss.length) none
theorem RpSs.length {M : Dm} {H : Hp} {vs : List V} {ss : List Sv} (h : RpSs K M H vs ss) : vs.length = ss.length := Paired.length h
theorem RpSs.get {M : Dm} {H : Hp} : ∀ {vs : List V} {ss : List Sv} {i : Nat} {s : Sv}, RpSs K M H vs ss → ss[i]? = some s → ∃ v, vs[i]? = some v ∧ RpS K M H v s
  | _, _, _, _, .nil, e => by simp at e
  | _, _, 0, _, .cons h _, e => by simp at e; subst e; exact ⟨_, rfl, h⟩
  | _, _, i + 1, d, .cons _ t, e => by
    obtain ⟨v, h1, h2⟩ := RpSs.get (i := i) (s := d) t (by simpa using e)
    exact ⟨v, by simpa using h1, h2⟩
theorem start_env {N : List Str} {H : Hp} {vs : List V} {ss : List Sv} (h : RpSs K (dom m) H vs ss) : EnvOk K (dom m) H (L2.start N vs) (startR N ss) := by
  have hl := h.length
  refine ⟨by unfold L2.start startR; rw [List.length_append, List.length_append, List.length_map, List.length_map, List.length_replicate, List.length_replicate, hl], fun i s e => ?_⟩
  unfold startR at e
  by_cases hi : i < ss.length
  · rw [List.getElem?_append_left (by rw [List.length_map]; exact hi), List.getElem?_map] at e
    cases q : ss[i]? with
    | none => rw [q] at e; cases e
    | some t =>
      rw [q] at e
      have e' : some (some t) = some (some s) := e
      cases e'
      obtain ⟨v, h1, h2⟩ := h.get q
      refine ⟨v, ?_, h2⟩
      unfold L2.start
      rw [List.getElem?_append_left (by rw [List.length_map, hl]; exact hi), List.getElem?_map, h1]
      rfl
  · rw [List.getElem?_append_right (by rw [List.length_map]; omega), List.getElem?_replicate] at e
    split at e <;> cases e
theorem body_ok {T : Tr} {t : TS} {N : List Str} (h : ∀ ss m Q, T ss m Q → WS K (dom m) (startR N ss) m t { nx := fun _ m' => Q (.val .non) m', rt := Q }) {vs : List V} {H : Hp} {QV : VK} {E : XK} (q : SpD K T vs H QV E) :
    t { nx := fun _ H' => QV .non H', rt := QV } (L2.start N vs) H := by
  obtain ⟨m, ss, Q, so, rs, ht, k⟩ := q
  refine h ss m Q ht (L2.start N vs) H H _ (start_env rs) so Xt.refl ⟨fun σ' H' r' m' x so' e' q => k .non H' (.val .non) m' x so' (show Rp _ _ _ _ from .non) q, fun v H' s m' x so' rs' q => k v H' s m' x so' rs' q, fun _ _ _ _ _ _ _ q => q, fun _ _ _ _ _ _ _ q => q⟩
theorem len_ok {T : Tr} {n : Nat} (h : ∀ ss m Q, T ss m Q → ss.length = n) : ∀ vs H Q E, SpD K T vs H Q E → vs.length = n := fun vs H Q E ⟨m, ss, Q', so, rs, ht, _⟩ => by
  rw [rs.length]; exact h _ _ _ ht
/-- a def that computes, from data alone -/
def Pu (F : List D → Option D) : Tr := fun ss m Q => ∃ ds d, ss.map (vw m) = ds.map some ∧ F ds = some d ∧ Q (.val d) m
end
end Cr

/-! CrM: a tuple taken once, or not at all. -/
namespace Cr
open PySem PySem.Spec PyProof.Rows L2
theorem tuple_mul1 (l : Addr) (items : Array Value) (n : Nat) (dd : Option Addr) (sl : Array (Option Value)) (x : Int) (u : Tok) (c0 : (decide (x < -(2 ^ 63)) || decide (x ≥ 2 ^ 63)) = false) (c1 : (items.isEmpty || x == 1) = true) :
    Meets (Builtin.«tuple.__mul__» ⟨[.ref l, .int x u], []⟩) (fun _ R s => s.heap.get? l = some { cls := .type "tuple", dict := dd, data := .seq items n, slots := sl } ∧
      R (.ok (.ret (Value.ref l))) s) :=
  .of_wp fun prog w A R s h => by
    obtain ⟨hp, g, d, tk, os⟩ := s
    obtain ⟨hl, h⟩ := h
    have f1 := AutoSeq1.idx_int
    wp_walk using wpAny_loadPart' hl
    repeat (first
      | (refine wpAny_ite_false (decide_eq_false (by rw [c0]; exact Bool.false_ne_true)) ?_; wp_walk using wpAny_loadPart' hl)
      | (refine wpAny_ite_true (decide_eq_true (by rw [c1])) ?_; wp_walk using wpAny_loadPart' hl))
    exact ⟨_, rfl, h⟩
theorem tuple_mul0 (l : Addr) (items : Array Value) (n : Nat) (dd : Option Addr) (sl : Array (Option Value)) (x : Int) (u : Tok) (c0 : (decide (x < -(2 ^ 63)) || decide (x ≥ 2 ^ 63)) = false) (c1 : (items.isEmpty || x == 1) = false) (c2 : (decide (x ≤ 0) || items.isEmpty) = true) :
    Meets (Builtin.«tuple.__mul__» ⟨[.ref l, .int x u], []⟩) (fun _ R s => s.heap.get? l = some { cls := .type "tuple", dict := dd, data := .seq items n, slots := sl } ∧
      R (.ok (.ret (Value.ref s.heap.objs.size))) { s with heap := s.heap.push { cls := Value.type "tuple", data := Data.seq #[] }, toks := s.toks }) :=
  .of_wp fun prog w A R s h => by
    obtain ⟨hp, g, d, tk, os⟩ := s
    obtain ⟨hl, h⟩ := h
    have f1 := AutoSeq1.idx_int
    wp_walk using wpAny_loadPart' hl
    repeat (first
      | (refine wpAny_ite_false (decide_eq_false (by rw [c0]; exact Bool.false_ne_true)) ?_; wp_walk using wpAny_loadPart' hl)
      | (refine wpAny_ite_false (decide_eq_false (by rw [c1]; exact Bool.false_ne_true)) ?_; wp_walk using wpAny_loadPart' hl)
      | (refine wpAny_ite_true (decide_eq_true (by rw [c2])) ?_; wp_walk using wpAny_loadPart' hl))
    exact ⟨_, rfl, h⟩
/-- t * k, for few items and small numbers -/
def rRepS (K : PySem.W.Frag) : R2 := fun x y H Q => ∃ l k xs, x = .ref l ∧ y = .int k ∧ SqT K H l xs ∧ -1000 ≤ k ∧ k ≤ 1000 ∧ xs.length ≤ 1000 ∧
  (k = 1 ∨ xs = [] → Q (.ref l) H) ∧ ∀ p, H p = none → Q (.ref p) (upd H p (.tup (List.replicate k.toNat xs).flatten))
section
variable {X : Cx}
theorem op_repS : OpR X (binaryOp .Mult) (rRepS X.K) := by
  intro pins s σ H x y v u Q I rx ry h
  obtain ⟨l, k, xs, rfl, rfl, hT, h1, h2, hz, q1, q⟩ := h
  by_cases hk : 2 ≤ k ∧ xs ≠ []
  · exact op_repT pins s σ H _ _ v u Q I rx ry ⟨l, k, xs, rfl, rfl, hT, hk.2, hk.1, h2, hz, q⟩
  cases rx
  obtain ⟨t, rfl⟩ := ry
  obtain ⟨its, r, ⟨⟨cls, dd, data, sl⟩, ho, hc, n, hd⟩, hs⟩ := I.tuple hT
  simp only at hc hd
  subst hc hd
  have hle : its.length = xs.length := r.length.symm
  have c0 : (decide (k < -(2 ^ 63)) || decide (k ≥ 2 ^ 63)) = false := by
    rw [decide_eq_false (by omega), decide_eq_false (by omega)] <;> rfl
  by_cases e1 : k = 1 ∨ xs = []
  · have c1 : (its.toArray.isEmpty || k == 1) = true := by
      rcases e1 with e | e
      · subst e; simp
      · rw [e] at hle
        have : its = [] := List.eq_nil_of_length_eq_zero hle
        subst this
        rfl
    refine wpAny_binaryOp_repeat_ref (T := "tuple") (U := "int") (by decide) ⟨_, ho, rfl⟩ (fun s' => typeIs_int s' k t) noFill_tuple_mul F.fills_int_mul F.slot_int_rmul repeat_tuple F.slot_int_index.lookup
      (call_meets F.slot_int_rmul (typeIs_int s k t) F.entry_int_rmul (F.args_int_rmul_2 _ _) (int_rmul_tuple k t l its.toArray n dd sl)
        ⟨ho, rfl, ⟨_, ho, rfl⟩, call_meets F.slot_tuple_mul ⟨_, ho, rfl⟩ F.entry_tuple_mul (F.args_tuple_mul_2 _ _) (tuple_mul1 l its.toArray n dd sl k t c0 c1) ⟨ho, ?_⟩⟩)
    exact ⟨.ref l, H, I, rfl, q1 e1⟩
  · have hk1 : k ≠ 1 := fun e => e1 (.inl e)
    have hx : xs ≠ [] := fun e => e1 (.inr e)
    have hk0 : k ≤ 0 := by
      have : ¬ 2 ≤ k := fun z => hk ⟨z, hx⟩
      omega
    have c1 : (its.toArray.isEmpty || k == 1) = false := by
      cases its with
      | nil => exact absurd (List.eq_nil_of_length_eq_zero hle.symm) hx
      | cons a b => simpa using hk1
    have c2 : (decide (k ≤ 0) || its.toArray.isEmpty) = true := by
      rw [decide_eq_true hk0]; rfl
    refine wpAny_binaryOp_repeat_ref (T := "tuple") (U := "int") (by decide) ⟨_, ho, rfl⟩ (fun s' => typeIs_int s' k t) noFill_tuple_mul F.fills_int_mul F.slot_int_rmul repeat_tuple F.slot_int_index.lookup
      (call_meets F.slot_int_rmul (typeIs_int s k t) F.entry_int_rmul (F.args_int_rmul_2 _ _) (int_rmul_tuple k t l its.toArray n dd sl)
        ⟨ho, rfl, ⟨_, ho, rfl⟩, call_meets F.slot_tuple_mul ⟨_, ho, rfl⟩ F.entry_tuple_mul (F.args_tuple_mul_2 _ _) (tuple_mul0 l its.toArray n dd sl k t c0 c1 c2) ⟨ho, ?_⟩⟩)
    have e0 : (List.replicate k.toNat xs).flatten = [] := by
      have : k.toNat = 0 := by omega
      rw [this]; rfl
    rw [e0] at q
    refine ⟨.ref s.heap.objs.size, _, I.laid (t' := s.toks) (o := .tup []) (fun b ob q => Heap.get?_push_of_some _ q) (Nat.le_refl _) ?_, rfl, q _ (I.hok.fresh (Nat.le_refl _))⟩
    exact ⟨by decide, [], .nil, IsTup.new _ _⟩
end
end Cr

/-! Cr3: operators, subscripts, calls of built-ins, by data. -/
namespace Cr
open PySem PySem.Spec PyProof.Rows L2

section
variable {K : PySem.W.Frag} {M : Dm} {H : Hp} {Q : VK}
theorem kR.v {d : D} {v : V} (k : kR K M H Q (.v d)) (r : Rp K (hid M H) v d) : Q v H := k v H Xt.refl (fun _ _ => rfl) r
theorem dm_fresh {p : Addr} (lv : ∀ z, M z = true → H z ≠ none) (hp : H p = none) : M p = false := by
  cases e : M p with
  | false => rfl
  | true => exact absurd hp (lv p e)
theorem kR.tup {ds : List D} {p : Addr} {xs : List V} (lv : ∀ z, M z = true → H z ≠ none) (k : kR K M H Q (.v (.tup ds))) (hp : H p = none) (ra : RpA K (hid M H) xs ds) : Q (.ref p) (upd H p (.tup xs)) := by
  have x : Xt M H M (upd H p (.tup xs)) := Xt.new hp
  refine k _ _ x (fun a ha => upd_ne (fun e => by rw [e, dm_fresh lv hp] at ha; cases ha)) (.tup (.inl (.inl ?_)) (ra.mono x.ex))
  rw [hid_out (dm_fresh lv hp)]
  exact upd_same
end

/-! ### arithmetic: relations between data -/
def szD : Nat := 100000
theorem szD_line {n : Nat} (h : n ≤ szD) : n ≤ sizeLine := Evl.sz_of h
inductive RAdd : D → D → Rs → Prop
  | int (i j : Int) : RAdd (.int i) (.int j) (.v (.int (i + j)))
  | str {a b : Str} (h : a.length + b.length ≤ szD) : RAdd (.str a) (.str b) (.v (.str (a ++ b)))
  | lst {a b : List D} (h : a.length + b.length ≤ szD) : RAdd (.lst a) (.lst b) (.l (a ++ b))
  | tup {a b : List D} (h : a.length + b.length ≤ szD) : RAdd (.tup a) (.tup b) (.v (.tup (a ++ b)))
inductive RSub : D → D → Rs → Prop
  | int (i j : Int) : RSub (.int i) (.int j) (.v (.int (i - j)))
inductive RMul : D → D → Rs → Prop
  | int {i j : Int} (h : i.natAbs.log2 + j.natAbs.log2 < 1000000) : RMul (.int i) (.int j) (.v (.int (i * j)))
  | lst {a : List D} {k : Int} (h1 : -(2 ^ 63) ≤ k) (h2 : k < 2 ^ 63) (h3 : a.length * k.toNat ≤ szD) : RMul (.lst a) (.int k) (.l (List.replicate k.toNat a).flatten)
  | tup {a : List D} {k : Int} (h1 : -1000 ≤ k) (h2 : k ≤ 1000) (h3 : a.length ≤ 1000) : RMul (.tup a) (.int k) (.v (.tup (List.replicate k.toNat a).flatten))
inductive RFdiv : D → D → Rs → Prop
  | int {i j : Int} (h : 0 < j) (h2 : j.natAbs.log2 < 9000) : RFdiv (.int i) (.int j) (.v (.int (i / j)))
inductive RMod : D → D → Rs → Prop
  | int {i j : Int} (h : 0 < j) : RMod (.int i) (.int j) (.v (.int (i % j)))
inductive RPow : D → D → Rs → Prop
  | int {i j : Int} (h : 0 ≤ j) (h2 : (Builtin.Int.intBits i : Int) * j ≤ 2 ^ 27) : RPow (.int i) (.int j) (.v (.int (i ^ j.toNat)))
inductive RNeg : D → Rs → Prop
  | int (i : Int) : RNeg (.int i) (.v (.int (-i)))
inductive RCmp (p : Int → Int → Bool) : D → D → Rs → Prop
  | int (i j : Int) : RCmp p (.int i) (.int j) (.v (.bl (p i j)))
abbrev RLt := RCmp fun i j => decide (i < j)
abbrev RLe := RCmp fun i j => decide (i ≤ j)
abbrev RGt := RCmp fun i j => decide (j < i)
abbrev RGe := RCmp fun i j => decide (j ≤ i)

section
variable {X : Cx}
theorem RpW.lstX {pins : List (Addr × Obj)} {σ : L2.St} {s : Shared} {M : Dm} {H : Hp} {v : V} {ds : List D} (I : L2.Inv X pins σ H s) (h : RpW X.K M H v (.lst ds)) :
    ∃ a xs its n, v = .ref a ∧ H a = some (.lst xs) ∧ RpA X.K (hid M H) xs ds ∧ Vals xs its ∧ xs.length = its.length ∧ s.heap.get? a = some { cls := .type "list", data := .seq its.toArray n } := by
  obtain ⟨a, xs, rfl, h1, h2⟩ := h.lst
  obtain ⟨z, its, n, r, l, e⟩ := I.lstM h1
  exact ⟨a, xs, its, n, rfl, h1, h2, r, l, e⟩
theorem sqT_hid {K : PySem.W.Frag} {M : Dm} {H : Hp} {a : Addr} {xs : List V} (h : SqT K (hid M H) a xs) : SqT K H a xs := Evl.ex_t hid_ex h
theorem op_addD : OpR X (binaryOp .Add) (rD2 X.K RAdd) := by
  intro pins s σ H x y v u Q I rx ry h
  obtain ⟨M, a, b, c, lv, ha, hb, hf, k⟩ := h
  cases hf with
  | int i j =>
    cases ha.int
    cases hb.int
    exact op_add pins s σ H _ _ v u Q I rx ry ⟨i, j, rfl, rfl, k.v (.int _)⟩
  | @str i j z =>
    cases ha.str
    cases hb.str
    exact op_add_str pins s σ H _ _ v u Q I rx ry ⟨i, j, rfl, rfl, szD_line z, k.v (.str _)⟩
  | lst z =>
    obtain ⟨p, xs, rfl, h1, ra⟩ := ha.lst
    obtain ⟨p2, xs2, rfl, h2, ra2⟩ := hb.lst
    have z' := szD_line z
    have la := ra.length
    have lb := ra2.length
    exact op_cat pins s σ H _ _ v u Q I rx ry ⟨p, p2, xs, xs2, rfl, rfl, h1, h2, by omega, fun q hq => k q _ hq (ra.append ra2)⟩
  | tup z =>
    obtain ⟨p, xs, rfl, h1, ra⟩ := ha.tup
    obtain ⟨p2, xs2, rfl, h2, ra2⟩ := hb.tup
    have z' := szD_line z
    have la := ra.length
    have lb := ra2.length
    refine op_catA pins s σ H _ _ v u Q I rx ry ⟨p, p2, xs, xs2, rfl, rfl, sqT_hid h1, sqT_hid h2, by omega, fun e => ?_, fun _ e => ?_, fun _ _ q hq => k.tup lv hq (ra.append ra2)⟩
    · subst e
      cases ra
      exact k.v (.tup h2 ra2)
    · subst e
      cases ra2
      rw [List.append_nil] at k
      exact k.v (.tup h1 ra)
theorem op_subD : OpR X (binaryOp .Sub) (rD2 X.K RSub) := by
  intro pins s σ H x y v u Q I rx ry ⟨M, a, b, c, lv, ha, hb, hf, k⟩
  cases hf with
  | int i j =>
    cases ha.int
    cases hb.int
    exact op_sub pins s σ H _ _ v u Q I rx ry ⟨i, j, rfl, rfl, k.v (.int _)⟩
theorem op_fdivD : OpR X (binaryOp .FloorDiv) (rD2 X.K RFdiv) := by
  intro pins s σ H x y v u Q I rx ry ⟨M, a, b, c, lv, ha, hb, hf, k⟩
  cases hf with
  | int z z2 =>
    cases ha.int
    cases hb.int
    exact op_fdivW pins s σ H _ _ v u Q I rx ry ⟨_, _, rfl, rfl, ⟨z, z2⟩, k.v (.int _)⟩
theorem op_modD : OpR X (binaryOp .Mod) (rD2 X.K RMod) := by
  intro pins s σ H x y v u Q I rx ry ⟨M, a, b, c, lv, ha, hb, hf, k⟩
  cases hf with
  | int z =>
    cases ha.int
    cases hb.int
    exact op_mod pins s σ H _ _ v u Q I rx ry ⟨_, _, rfl, rfl, z, k.v (.int _)⟩
theorem op_powX : OpR X (binaryOp .Pow) (rI (fun i j => 0 ≤ j ∧ (Builtin.Int.intBits i : Int) * j ≤ 2 ^ 27) fun i j => .int (i ^ j.toNat)) := opI fun _ _ _ _ _ _ _ hc q => pow_int hc.1 hc.2 q
theorem op_powD : OpR X (binaryOp .Pow) (rD2 X.K RPow) := by
  intro pins s σ H x y v u Q I rx ry ⟨M, a, b, c, lv, ha, hb, hf, k⟩
  cases hf with
  | int z z2 =>
    cases ha.int
    cases hb.int
    exact op_powX pins s σ H _ _ v u Q I rx ry ⟨_, _, rfl, rfl, ⟨z, z2⟩, k.v (.int _)⟩
theorem rpA_rep {K : PySem.W.Frag} {H : Hp} {xs : List V} {ds : List D} (ra : RpA K H xs ds) : ∀ n, RpA K H (List.replicate n xs).flatten (List.replicate n ds).flatten
  | 0 => .nil
  | n + 1 => by
    rw [List.replicate_succ, List.replicate_succ, List.flatten_cons, List.flatten_cons]
    exact ra.append (rpA_rep ra n)
theorem op_mulD : OpR X (binaryOp .Mult) (rD2 X.K RMul) := by
  intro pins s σ H x y v u Q I rx ry ⟨M, a, b, c, lv, ha, hb, hf, k⟩
  cases hf with
  | int z =>
    cases ha.int
    cases hb.int
    exact op_mulW pins s σ H _ _ v u Q I rx ry ⟨_, _, rfl, rfl, z, k.v (.int _)⟩
  | lst z1 z2 z3 =>
    obtain ⟨p, xs, rfl, h1, ra⟩ := ha.lst
    cases hb.int
    exact op_rep pins s σ H _ _ v u Q I rx ry ⟨p, _, xs, rfl, rfl, h1, z1, z2, by rw [ra.length]; exact szD_line z3, fun q hq => k q _ hq (rpA_rep ra _)⟩
  | @tup a i z1 z2 z3 =>
    obtain ⟨p, xs, rfl, h1, ra⟩ := ha.tup
    cases hb.int
    refine op_repS pins s σ H _ _ v u Q I rx ry ⟨p, _, xs, rfl, rfl, sqT_hid h1, z1, z2, by rw [ra.length]; exact z3, fun e => ?_, fun q hq => k.tup lv hq (rpA_rep ra _)⟩
    refine k.v ?_
    rcases e with e | e
    · subst e
      have : (List.replicate (1 : Int).toNat a).flatten = a := by show (List.replicate 1 a).flatten = a; simp
      rw [this]
      exact .tup h1 ra
    · subst e
      cases ra
      have : (List.replicate i.toNat ([] : List D)).flatten = [] := by simp
      rw [this]
      exact .tup h1 .nil
theorem un_negD : UnR X (unaryOp .USub) (rD1 X.K RNeg) := by
  intro pins s σ H x v Q I rx ⟨M, a, c, lv, ha, hf, k⟩
  cases hf with
  | int i =>
    cases ha.int
    exact un_neg pins s σ H _ v Q I rx ⟨i, rfl, k.v (.int _)⟩
theorem cmpD {op : CmpOp} {p : Int → Int → Bool} (h : OpR X (compareOp op) (rI0 fun i j => .bl (p i j))) : OpR X (compareOp op) (rD2 X.K (RCmp p)) := by
  intro pins s σ H x y v u Q I rx ry ⟨M, a, b, c, lv, ha, hb, hf, k⟩
  cases hf with
  | int i j =>
    cases ha.int
    cases hb.int
    exact h pins s σ H _ _ v u Q I rx ry ⟨i, j, rfl, rfl, k.v (.bl _)⟩
theorem op_ltD : OpR X (compareOp .Lt) (rD2 X.K RLt) := cmpD op_lt
theorem op_leD : OpR X (compareOp .LtE) (rD2 X.K RLe) := cmpD op_le
theorem op_gtD : OpR X (compareOp .Gt) (rD2 X.K RGt) := cmpD op_gt
theorem op_geD : OpR X (compareOp .GtE) (rD2 X.K RGe) := cmpD op_ge
end

/-! ### == and != -/
def D.flat : D → Bool
  | .non => true | .bl _ => true | .int _ => true | .str _ => true | _ => false
mutual
def D.py : D → Option PyData
  | .non => some .none
  | .bl b => some (.bool b)
  | .int i => some (.int i)
  | .str x => some (.str x)
  | .lst xs => (D.pyA xs).map .list
  | .tup xs => (D.pyA xs).map .tuple
  | .ins _ _ => none
  | .scr _ => none
  | .ty _ => none
def D.pyA : List D → Option (List PyData)
  | [] => some []
  | x :: xs => match D.py x, D.pyA xs with
    | some p, some ps => some (p :: ps)
    | _, _ => none
end
mutual
theorem Rp.dp {K : PySem.W.Frag} {H : Hp} : ∀ {d : D} {v : V} {p : PyData}, Rp K H v d → d.py = some p → Dp K H v p
  | .non, _, _, h, e => by cases h; cases e; exact .non
  | .bl b, _, _, h, e => by cases h; cases e; exact .bl b
  | .int i, _, _, h, e => by cases h; cases e; exact .int i
  | .str x, _, _, h, e => by cases h; cases e; exact .str x
  | .lst xs, _, p, h, e => by
    cases h with
    | lst q ra =>
      have e2 : (D.pyA xs).map PyData.list = some p := by simpa only [D.py] using e
      cases z : D.pyA xs with
      | none => rw [z] at e2; cases e2
      | some ps =>
        rw [z] at e2
        cases e2
        exact .lst (.inl (.inl q)) (RpA.dp ra z)
  | .tup xs, _, p, h, e => by
    cases h with
    | tup q ra =>
      have e2 : (D.pyA xs).map PyData.tuple = some p := by simpa only [D.py] using e
      cases z : D.pyA xs with
      | none => rw [z] at e2; cases e2
      | some ps =>
        rw [z] at e2
        cases e2
        exact .tup q (RpA.dp ra z)
  | .ins _ _, _, _, _, e => by simp [D.py] at e
  | .scr _, _, _, _, e => by simp [D.py] at e
  | .ty _, _, _, _, e => by simp [D.py] at e
theorem RpA.dp {K : PySem.W.Frag} {H : Hp} : ∀ {ds : List D} {vs : List V} {ps : List PyData}, RpA K H vs ds → D.pyA ds = some ps → DpAll K H vs ps
  | [], _, _, .nil, e => by simp [D.pyA] at e; subst e; exact .nil
  | d :: ds, _, _, .cons h t, e => by
    cases z : D.py d with
    | none => simp [D.pyA, z] at e
    | some p =>
      cases z2 : D.pyA ds with
      | none => simp [D.pyA, z, z2] at e
      | some ps =>
        simp [D.pyA, z, z2] at e
        subst e
        exact .cons (Rp.dp h z) (RpA.dp t z2)
end
/-- equality of flat data of one kind, and with None; of data at any depth -/
inductive REq : D → D → Bool → Prop
  | int (i j : Int) : REq (.int i) (.int j) (decide (i = j))
  | bl (i j : Bool) : REq (.bl i) (.bl j) (decide (i = j))
  | str (i j : Str) : REq (.str i) (.str j) (decide (i = j))
  | nn : REq .non .non true
  | deep {a b : D} {p q : PyData} (h1 : a.py = some p) (h2 : b.py = some q) (s1 : SeqAt.shaped p = true) (s2 : SeqAt.shaped q = true) : REq a b (PyData.eqv p q)
inductive REqR : D → D → Rs → Prop
  | mk {a b : D} {r : Bool} (h : REq a b r) : REqR a b (.v (.bl r))
inductive RNeR : D → D → Rs → Prop
  | mk {a b : D} {r : Bool} (h : REq a b r) : RNeR a b (.v (.bl (!r)))
section
variable {X : Cx}
theorem op_eqDD (hu : X.A.units + 64 < cLine) : OpR X (compareOp .Eq) (rD2 X.K REqR) := by
  intro pins s σ H x y v u Q I rx ry ⟨M, a, b, c, lv, ha, hb, hf, k⟩
  cases hf with
  | mk h =>
    cases h with
    | int i j =>
      cases ha.int
      cases hb.int
      refine op_eq pins s σ H _ _ v u Q I rx ry ⟨rfl, ?_⟩
      rw [show decide (V.int i = V.int j) = decide (i = j) by rw [dec_int]; rfl]
      exact k.v (.bl _)
    | bl i j =>
      cases ha.bl
      cases hb.bl
      refine op_eq pins s σ H _ _ v u Q I rx ry ⟨rfl, ?_⟩
      rw [show decide (V.bl i = V.bl j) = decide (i = j) by cases i <;> cases j <;> rfl]
      exact k.v (.bl _)
    | str i j =>
      cases ha.str
      cases hb.str
      refine op_eq pins s σ H _ _ v u Q I rx ry ⟨rfl, ?_⟩
      rw [show decide (V.str i = V.str j) = decide (i = j) by simp]
      exact k.v (.bl _)
    | nn =>
      cases ha.non
      cases hb.non
      exact op_eq pins s σ H _ _ v u Q I rx ry ⟨rfl, k.v (.bl _)⟩
    | deep h1 h2 s1 s2 => exact op_eqD hu pins s σ H _ _ v u Q I rx ry ⟨_, _, ha.rp.dp h1, hb.rp.dp h2, s1, s2, k.v (.bl _)⟩
theorem op_neDD (hu : X.A.units + 64 < cLine) : OpR X (compareOp .NotEq) (rD2 X.K RNeR) := by
  intro pins s σ H x y v u Q I rx ry ⟨M, a, b, c, lv, ha, hb, hf, k⟩
  cases hf with
  | mk h =>
    cases h with
    | int i j =>
      cases ha.int
      cases hb.int
      refine op_ne pins s σ H _ _ v u Q I rx ry ⟨rfl, ?_⟩
      rw [show decide (V.int i = V.int j) = decide (i = j) by rw [dec_int]; rfl]
      exact k.v (.bl _)
    | bl i j =>
      cases ha.bl
      cases hb.bl
      refine op_ne pins s σ H _ _ v u Q I rx ry ⟨rfl, ?_⟩
      rw [show decide (V.bl i = V.bl j) = decide (i = j) by cases i <;> cases j <;> rfl]
      exact k.v (.bl _)
    | str i j =>
      cases ha.str
      cases hb.str
      refine op_ne pins s σ H _ _ v u Q I rx ry ⟨rfl, ?_⟩
      rw [show decide (V.str i = V.str j) = decide (i = j) by simp]
      exact k.v (.bl _)
    | nn =>
      cases ha.non
      cases hb.non
      exact op_ne pins s σ H _ _ v u Q I rx ry ⟨rfl, k.v (.bl _)⟩
    | deep h1 h2 s1 s2 => exact op_neD hu pins s σ H _ _ v u Q I rx ry ⟨_, _, ha.rp.dp h1, hb.rp.dp h2, s1, s2, k.v (.bl _)⟩
end
/-! ### is -/
def D.isNon : D → Bool
  | .non => true
  | _ => false
inductive RIs : D → D → Bool → Prop
  | non (a : D) : RIs a .non a.isNon
  | bl (i j : Bool) : RIs (.bl i) (.bl j) (decide (i = j))
inductive RIsR : D → D → Rs → Prop
  | mk {a b : D} {r : Bool} (h : RIs a b r) : RIsR a b (.v (.bl r))
inductive RIsN : D → D → Rs → Prop
  | mk {a b : D} {r : Bool} (h : RIs a b r) : RIsN a b (.v (.bl (!r)))
theorem isNon_eq {K : PySem.W.Frag} {M : Dm} {H : Hp} {v : V} {d : D} (h : RpW K M H v d) : decide (v = V.non) = d.isNon := by
  cases h.rp <;> simp [D.isNon]
section
variable {X : Cx}
theorem op_isD : OpR X (compareOp .Is) (rD2 X.K RIsR) := by
  intro pins s σ H x y v u Q I rx ry ⟨M, a, b, c, lv, ha, hb, hf, k⟩
  cases hf with
  | mk h =>
    cases h with
    | non =>
      cases hb.non
      refine op_isN pins s σ H _ _ v u Q I rx ry ⟨rfl, ?_⟩
      rw [isNon_eq ha]
      exact k.v (.bl _)
    | bl i j =>
      cases ha.bl
      cases hb.bl
      exact op_isBl pins s σ H _ _ v u Q I rx ry ⟨i, j, rfl, rfl, k.v (.bl _)⟩
theorem op_isnotD : OpR X (compareOp .IsNot) (rD2 X.K RIsN) := by
  intro pins s σ H x y v u Q I rx ry ⟨M, a, b, c, lv, ha, hb, hf, k⟩
  cases hf with
  | mk h =>
    cases h with
    | non =>
      cases hb.non
      refine op_notN pins s σ H _ _ v u Q I rx ry ⟨rfl, ?_⟩
      rw [isNon_eq ha]
      exact k.v (.bl _)
    | bl i j =>
      cases ha.bl
      cases hb.bl
      exact op_notBl pins s σ H _ _ v u Q I rx ry ⟨i, j, rfl, rfl, k.v (.bl _)⟩
end
/-! ### subscripts -/
inductive RIx : D → D → Rs → Prop
  | lst {ds : List D} {i : Int} {d : D} (h : atI ds i = some d) : RIx (.lst ds) (.int i) (.v d)
  | tup {ds : List D} {i : Int} {d : D} (h : atI ds i = some d) : RIx (.tup ds) (.int i) (.v d)
  | scr {ns : List Int} {i : Int} {n : Int} (h : atI ns i = some n) : RIx (.scr ns) (.int i) (.v (.int n))
  | str {z : Str} {i : Int} {c : Nat} (hz : z.length ≤ szD) (h : atI z.cps.toList i = some c) : RIx (.str z) (.int i) (.v (.str ⟨#[c]⟩))
theorem atI_rp {K : PySem.W.Frag} {H : Hp} {xs : List V} {ds : List D} {i : Int} {d : D} (ra : RpA K H xs ds) (h : atI ds i = some d) : ∃ v, atI xs i = some v ∧ Rp K H v d := by
  unfold atI at h ⊢
  rw [ra.length]
  cases e : ixN ds.length i with
  | none => rw [e] at h; cases h
  | some j =>
    rw [e] at h
    exact ra.get h
section
variable {X : Cx}
theorem ix_D : IxR X (rD2 X.K RIx) := by
  intro value slice pins s σ H x y v u Q I rx ry ⟨M, a, b, c, lv, ha, hb, hf, k⟩ hs
  cases hf with
  | lst h =>
    obtain ⟨p, xs, rfl, h1, ra⟩ := ha.lst
    cases hb.int
    obtain ⟨z, e, rz⟩ := atI_rp ra h
    exact ix_list value slice pins s σ H _ _ v u Q I rx ry ⟨p, xs, _, z, rfl, rfl, .inl (.inl h1), e, k.v rz⟩ hs
  | tup h =>
    obtain ⟨p, xs, rfl, h1, ra⟩ := ha.tup
    cases hb.int
    obtain ⟨z, e, rz⟩ := atI_rp ra h
    exact ix_tup value slice pins s σ H _ _ v u Q I rx ry ⟨p, xs, _, z, rfl, rfl, sqT_hid h1, e, k.v rz⟩ hs
  | @scr ns i n h =>
    cases ha.rp with
    | scr q =>
      cases hb.int
      refine ix_list value slice pins s σ H _ _ v u Q I rx ry ⟨_, ns.map V.int, _, .int n, rfl, rfl, q, ?_, k.v (.int _)⟩ hs
      unfold atI at h ⊢
      rw [List.length_map]
      cases e : ixN ns.length i with
      | none => rw [e] at h; cases h
      | some j =>
        rw [e] at h
        have h' : ns[j]? = some n := h
        show (ns.map V.int)[j]? = some (V.int n)
        rw [List.getElem?_map, h']
        rfl
  | str hz h =>
    cases ha.str
    cases hb.int
    exact ix_str value slice pins s σ H _ _ v u Q I rx ry ⟨_, _, _, rfl, rfl, szD_line hz, h, k.v (.str _)⟩ hs
end
/-! slices -/
def cutD (ds : List D) (lo hi : Option Int) : List D := (ds.drop (HT.sIx ds.length 0 lo)).take (HT.sIx ds.length ds.length hi - HT.sIx ds.length 0 lo)
inductive RSl : D → Option Int → Option Int → Rs → Prop
  | lst (ds : List D) (lo hi : Option Int) : RSl (.lst ds) lo hi (.l (cutD ds lo hi))
  | tup (ds : List D) (lo hi : Option Int) : RSl (.tup ds) lo hi (.v (.tup (cutD ds lo hi)))
  | scr (ns : List Int) (lo hi : Option Int) : RSl (.scr ns) lo hi (.l (cutD (ns.map D.int) lo hi))
  | str {z : Str} (hz : z.length ≤ szD) (lo hi : Option Int) : RSl (.str z) lo hi (.v (.str (cutS z lo hi)))
def rSlD (K : PySem.W.Frag) : V → Option Int → Option Int → Hp → VK → Prop := fun x lo hi H Q => ∃ M a c, (∀ z, M z = true → H z ≠ none) ∧ RpW K M H x a ∧ RSl a lo hi c ∧ kR K M H Q c
theorem cut_rp {K : PySem.W.Frag} {H : Hp} {xs : List V} {ds : List D} (ra : RpA K H xs ds) (lo hi : Option Int) : RpA K H (cutV xs lo hi) (cutD ds lo hi) := by
  unfold cutV cutD
  rw [ra.length]
  exact (ra.drop _).take _
section
variable {X : Cx}
theorem sl_D : SlR X (rSlD X.K) := by
  intro pins s σ H x v vl vu lo hi sl Q I rx hs pl pu ⟨M, a, c, lv, ha, hf, k⟩
  cases hf with
  | lst ds =>
    obtain ⟨p, xs, rfl, h1, ra⟩ := ha.lst
    exact sl_list pins s σ H _ v vl vu lo hi sl Q I rx hs pl pu ⟨p, xs, rfl, .inl (.inl h1), fun q hq => k q _ hq (cut_rp ra lo hi)⟩
  | tup ds =>
    obtain ⟨p, xs, rfl, h1, ra⟩ := ha.tup
    refine sl_tupA pins s σ H _ v vl vu lo hi sl Q I rx hs pl pu ⟨p, xs, rfl, sqT_hid h1, fun hw => ?_, fun _ q hq => k.tup lv hq (cut_rp ra lo hi)⟩
    have e : cutD ds lo hi = ds := by
      unfold cutD
      rw [← ra.length, hw.1, hw.2, ra.length]
      simp
    rw [e] at k
    exact k.v (.tup h1 ra)
  | scr ns =>
    cases ha.rp with
    | scr q => exact sl_list pins s σ H _ v vl vu lo hi sl Q I rx hs pl pu ⟨_, ns.map V.int, rfl, q, fun p hp => k p _ hp (cut_rp (RpA.of_ints ns) lo hi)⟩
  | str hz =>
    cases ha.str
    exact sl_str pins s σ H _ v vl vu lo hi sl Q I rx hs pl pu ⟨_, rfl, szD_line hz, k.v (.str _)⟩
end
/-- the parts of a slice -/
def WO (K : PySem.W.Frag) (r : Ro) (m : Sto) (to : TO) (Q : Option Int → Sto → Prop) : Prop :=
  ∀ (σ : L2.St) (H : Hp) (QV : Option Int → Hp → Prop), EnvOk K (dom m) H σ r → StoOk K H m →
    (∀ o H' m', Xt (dom m) H (dom m') H' → StoOk K H' m' → Q o m' → QV o H') → to σ H QV
section
variable {K : PySem.W.Frag} {r : Ro} {m : Sto}
theorem wo_none {Q : Option Int → Sto → Prop} (q : Q none m) : WO K r m tNoPart Q := fun σ H QV e st k => k none H m Xt.refl st q
theorem wo_some {te : TE} {Q : Option Int → Sto → Prop} (h : WE K r m te fun s m1 => ∃ i, s = .val (.int i) ∧ Q (some i) m1) : WO K r m (tPart te) Q := fun σ H QV e st k =>
  h σ H _ e st fun v H1 s m1 x1 so1 rs ⟨i, es, q⟩ => by
    subst es
    have rs' : Rp K (hid (dom m1) H1) v (.int i) := rs
    cases rs'
    exact ⟨i, rfl, k (some i) H1 m1 x1 so1 q⟩
theorem we_slice {te : TE} {tl th : TO} {Q : Sv → Sto → Prop} (h : WE K r m te fun s m1 => WO K r m1 tl fun lo m2 => WO K r m2 th fun hi m3 => ∃ a c, vw m3 s = some a ∧ RSl a lo hi c ∧ Q (.val c.d) m3) : WE K r m (tSl (rSlD K) te tl th) Q := fun σ H QV e st k =>
  h σ H _ e st fun v H1 s m1 x1 so1 rs1 q1 => q1 σ H1 _ (e.mono x1) so1 fun lo H2 m2 x2 so2 q2 => q2 σ H2 _ (e.mono (x1.trans x2)) so2 fun hi H3 m3 x3 so3 ⟨a, c, ha, hf, q⟩ =>
    ⟨dom m3, a, c, so3.live, RpW.of ((rs1.mono x2).mono x3) so3 ha, hf, kR.of so3 (fun v H' s m' x => k v H' s m' (((x1.trans x2).trans x3).trans x)) q⟩
theorem we_sliceO {te : TE} {tl th : TO} {Q : Sv → Sto → Prop} (h : WE K r m te fun s m1 => WO K r m1 tl fun lo m2 => WO K r m2 th fun hi m3 => ∃ a ds, vw m3 s = some a ∧ RSl a lo hi (.l ds) ∧ ∀ p, m3 p = none → Q (.adr p) (stS m3 p ds)) : WE K r m (tSl (rSlD K) te tl th) Q := fun σ H QV e st k =>
  h σ H _ e st fun v H1 s m1 x1 so1 rs1 q1 => q1 σ H1 _ (e.mono x1) so1 fun lo H2 m2 x2 so2 q2 => q2 σ H2 _ (e.mono (x1.trans x2)) so2 fun hi H3 m3 x3 so3 ⟨a, c, ha, hf, q⟩ =>
    ⟨dom m3, a, .l c, so3.live, RpW.of ((rs1.mono x2).mono x3) so3 ha, hf, kR.ofO so3 (fun v H' s m' x => k v H' s m' (((x1.trans x2).trans x3).trans x)) q⟩
end
end Cr

/-! Cr4: what is walked, by data: lists, tuples, ranges; zip of lists and tuples in any mix, strict too. -/
namespace Cr
open PySem PySem.Spec PyProof.Rows L2

/-! ### strict zip, at the library's level -/
section
variable {prog : Program} {w : World} {A : Around} {E : Value → Shared → Prop} {s : Shared} {z TI TO i1 i2 : Addr} {fp1 fp2 : List Addr} {n1 n2 i : Nat} {P1 P2 : Nat → Value → Prop} {St1 St2 : Nat → Heap → Prop} {a1 a2 : Value}
/-- a zip's record; st: strict -/
abbrev IsZipB (st : Bool) (h : Heap) (z TI TO : Addr) (f0 : Value) : Prop :=
  h.get? z = some { cls := .type "zip", dict := none, data := .fields #[f0, .bool false, .bool st, .ref TI, .ref TO], slots := #[] }
theorem noe_item {it : Addr} {fp : List Addr} {n : Nat} {P : Nat → Value → Prop} {St : Nat → Heap → Prop} (D1 : Draws prog w A it fp n P St) {i : Nat} (hlt : i < n) (st : St i s.heap) {Q : Option Value → Shared → Prop}
    (h : ∀ x h' tk, P i x → St (i + 1) h' → Heap.SameBut it s.heap h' → Q (some x) { s with heap := h', toks := tk }) : wpAny (model prog w) A (Builtin.SmallTypes.nextOrEnd (.ref it)) Q E s := by
  unfold Builtin.SmallTypes.nextOrEnd
  exact wpAny_bind (wpAny_attempt (D1.item i s _ _ hlt st fun x h' tk p st' sb => wpAny_pure (h x h' tk p st' sb)))
theorem noe_end {it : Addr} {fp : List Addr} {n : Nat} {P : Nat → Value → Prop} {St : Nat → Heap → Prop} (D1 : Draws prog w A it fp n P St) (st : St n s.heap) {Q : Option Value → Shared → Prop}
    (h : ∀ h', Heap.ExtBut it s.heap h' → Q none { s with heap := h' }) : wpAny (model prog w) A (Builtin.SmallTypes.nextOrEnd (.ref it)) Q E s := by
  unfold Builtin.SmallTypes.nextOrEnd
  refine wpAny_bind (wpAny_attempt (D1.done s _ _ st fun h' e ex ⟨o, ho, hc⟩ => ?_))
  exact wpAny_bind (wpAny_isInstance (T := "StopIteration") (b := true) ⟨o, ho, hc⟩ isSubtype_stop (wpAny_pure (h h' ex)))
theorem stopIt {T : Type} {Q : T → Shared → Prop} (hh : A.handled = none)
    (h : ∀ h' e, (∀ c o, s.heap.get? c = some o → h'.get? c = some o) → (∃ o, h'.get? e = some o ∧ o.cls = .type "StopIteration") → E (.ref e) { s with heap := h' }) : wpAny (model prog w) A (Builtin.SmallTypes.stopIteration : Sem T) Q E s := by
  unfold Builtin.SmallTypes.stopIteration
  refine wpAny_bind ?_
  simp only [newExc, newTuple]
  refine wpAny_bind (wpAny_newObj_type ?_ (by size_fits))
  refine wpAny_bind (m := firstArgMember _ _) (wpAny_of_eq (a := Value.none) (by first | rfl | (simp only [firstArgMember]; rfl)) ?_)
  refine wpAny_newObj_type ?_ (by size_fits)
  simp only [raiseNew]
  refine wpAny_bind (wpAny_handled ?_)
  rw [hh]
  refine wpAny_bind (wpAny_pure (wpAny_throw ?_))
  exact h _ _ (fun c o e => Heap.get?_push_of_some _ (Heap.get?_push_of_some _ e)) ⟨_, Heap.get?_push_size _ rfl, rfl⟩
theorem zipS_item {Q : Value → Shared → Prop} (S : ZipSep2 z TI TO i1 i2 fp1 fp2) (D1 : Draws prog w A i1 fp1 n1 P1 St1) (D2 : Draws prog w A i2 fp2 n2 P2 St2)
    (hz : IsZipB true s.heap z TI TO .none) (hTI : IsTupOf2 s.heap TI (.ref i1) (.ref i2)) (hTO : IsTupOf2 s.heap TO a1 a2) (st1 : St1 i s.heap) (st2 : St2 i s.heap) (hlt1 : i < n1) (hlt2 : i < n2)
    (hQ : ∀ x1 x2 h' tk, P1 i x1 → P2 i x2 → IsZipB true h' z TI TO (rawInt s.heap.objs.size) → IsTupOf2 h' TO x1 x2 → St1 (i + 1) h' → St2 (i + 1) h' → IsTupOf2 h' s.heap.objs.size x1 x2 → h'.objs.size = s.heap.objs.size + 1 →
      (∀ c o, c ≠ z → c ≠ TO → c ≠ i1 → c ≠ i2 → s.heap.get? c = some o → h'.get? c = some o) → Q (.ref s.heap.objs.size) { s with heap := h', toks := tk }) :
    wpAny (model prog w) A (Builtin.«zip.__next__» ⟨[.ref z], []⟩) (fun fin s' => ∃ v, fin = .done (.ret v) ∧ Q v s') E s := by
  obtain ⟨hp, g, d, tk0, os⟩ := s
  show wpAny _ _ (field (.ref z) 2 >>= _) _ _ _
  refine wpAny_bind (wpAny_field hz rfl (x := .bool true) rfl ?_)
  show wpAny _ _ (field (.ref z) 3 >>= _) _ _ _
  refine wpAny_bind (wpAny_field hz rfl (x := .ref TI) rfl ?_)
  refine wpAny_bind (wpAny_seqItems hTI rfl ?_)
  show wpAny _ _ (Builtin.SmallTypes.ownedTupleIsFree (.ref z) >>= _) _ _ _
  refine wpAny_bind ?_
  unfold Builtin.SmallTypes.ownedTupleIsFree
  refine wpAny_bind (wpAny_field hz rfl (x := .none) rfl (wpAny_pure ?_))
  simp only [if_true]
  refine wpAny_bind (wpAny_rule ?_)
  refine wpAny_bind (wpAny_field hz rfl (x := .ref TO) rfl ?_)
  refine wpAny_bind (wpAny_setField_rec hz (by simp) fun g0 hz0 hs0 => ?_)
  replace hz0 : IsZipB true g0 z TI TO .ellipsis := hz0
  replace hs0 : Heap.SameBut z hp g0 := hs0
  refine wpAny_bind ?_
  simp only [List.zipIdx_cons, List.zipIdx_nil, List.forIn_cons, List.forIn_nil]
  -- the first one
  refine wpAny_bind (wpAny_bind (wpAny_onRaise ?_))
  show wpAny _ _ (Builtin.SmallTypes.nextOrEnd (.ref i1)) _ _ ⟨g0, g, d, tk0, os⟩
  refine noe_item (s := ⟨g0, g, d, tk0, os⟩) D1 hlt1 (D1.over st1 hs0 S.zf1) fun x1 p1 tk1 hx1 sn1 hp1 => ?_
  replace hp1 : Heap.SameBut i1 g0 p1 := hp1
  have hU1 : IsTupOf2 p1 TO a1 a2 := hp1.extBut _ _ S.Ti1 (hs0.extBut _ _ S.TOz hTO)
  refine wpAny_bind (wpAny_seqItems (s := ⟨p1, g, d, tk1, os⟩) hU1 rfl ?_)
  refine wpAny_bind (updateSeq_IsTupOf2 (s := ⟨p1, g, d, tk1, os⟩) hU1 fun g1 hT1 hs1 => ?_)
  replace hT1 : IsTupOf2 g1 TO x1 a2 := hT1
  replace hs1 : Heap.SameBut TO p1 g1 := hs1
  refine wpAny_bind (wpAny_letGo (wpAny_pure ?_))
  -- the second one
  refine wpAny_bind (wpAny_bind (wpAny_onRaise ?_))
  show wpAny _ _ (Builtin.SmallTypes.nextOrEnd (.ref i2)) _ _ ⟨g1, g, d, tk1, os⟩
  refine noe_item (s := ⟨g1, g, d, tk1, os⟩) D2 hlt2 (D2.over (D2.over (D2.over st2 hs0 S.zf2) hp1 S.sep1_2) hs1 S.Tf2) fun x2 p2 tk2 hx2 sn2 hp2 => ?_
  replace hp2 : Heap.SameBut i2 g1 p2 := hp2
  have hU2 : IsTupOf2 p2 TO x1 a2 := hp2.extBut _ _ S.Ti2 hT1
  refine wpAny_bind (wpAny_seqItems (s := ⟨p2, g, d, tk2, os⟩) hU2 rfl ?_)
  refine wpAny_bind (updateSeq_IsTupOf2 (s := ⟨p2, g, d, tk2, os⟩) hU2 fun g2 hT2 hs2 => ?_)
  replace hT2 : IsTupOf2 g2 TO x1 x2 := hT2
  replace hs2 : Heap.SameBut TO p2 g2 := hs2
  refine wpAny_bind (wpAny_letGo (wpAny_pure (wpAny_pure ?_)))
  -- the pair is handed out
  refine wpAny_bind (wpAny_seqItems (s := ⟨g2, g, d, tk2, os⟩) hT2 rfl ?_)
  refine wpAny_bind (wpAny_newTuple ?_)
  have hsz : g2.objs.size = hp.objs.size := by rw [hs2.1, hp2.1, hs1.1, hp1.1, hs0.1]
  have hzz : IsZipB true g2 z TI TO .ellipsis := hs2.extBut _ _ S.TOz.symm (hp2.extBut _ _ S.zi2 (hs1.extBut _ _ S.TOz.symm (hp1.extBut _ _ S.zi1 hz0)))
  have hkk : ∀ c o, c ≠ z → c ≠ TO → c ≠ i1 → c ≠ i2 → hp.get? c = some o → g2.get? c = some o := fun c o cz cT c1 c2 e =>
    hs2.extBut _ _ cT (hp2.extBut _ _ c2 (hs1.extBut _ _ cT (hp1.extBut _ _ c1 (hs0.extBut _ _ cz e))))
  have hj1 : St1 (i + 1) g2 := D1.over (D1.over (D1.over sn1 hs1 S.Tf1) hp2 S.sep2_1) hs2 S.Tf1
  have hj2 : St2 (i + 1) g2 := D2.over sn2 hs2 S.Tf2
  have hzlt : z < g2.objs.size := Heap.lt_size hzz
  show wpAny _ _ (Builtin.SmallTypes.ownedTupleHandOut (.ref z) (.ref g2.objs.size) >>= _) _ _ ⟨g2.push { cls := .type "tuple", data := .seq #[x1, x2] }, g, d, tk2, os⟩
  refine wpAny_bind ?_
  unfold Builtin.SmallTypes.ownedTupleHandOut
  have hz6 : IsZipB true (g2.push { cls := .type "tuple", data := .seq #[x1, x2] }) z TI TO .ellipsis := Heap.get?_push_of_some _ hzz
  refine wpAny_bind (wpAny_setField_rec hz6 (by simp) fun h7 hz7 hs7 => ?_)
  replace hz7 : IsZipB true h7 z TI TO (rawInt g2.objs.size) := hz7
  refine wpAny_setField_rec hz7 (by simp) fun h8 hz8 hs8 => ?_
  replace hz8 : IsZipB true h8 z TI TO (rawInt g2.objs.size) := hz8
  replace hs7 : Heap.SameBut z (g2.push { cls := .type "tuple", data := .seq #[x1, x2] }) h7 := hs7
  replace hs8 : Heap.SameBut z h7 h8 := hs8
  have up : ∀ c o, c ≠ z → g2.get? c = some o → h8.get? c = some o := fun c o c1 e => hs8.extBut _ _ c1 (hs7.extBut _ _ c1 (Heap.get?_push_of_some _ e))
  have hT8 : IsTupOf2 h8 g2.objs.size x1 x2 := hs8.extBut _ _ (Nat.ne_of_gt hzlt) (hs7.extBut _ _ (Nat.ne_of_gt hzlt) (Heap.get?_push_size _ rfl))
  have hn8 : h8.objs.size = g2.objs.size + 1 := by rw [hs8.1, hs7.1, Heap.size_push]
  rw [hsz] at hz8 hT8 hn8
  refine wpAny_pure ⟨_, rfl, ?_⟩
  show Q (.ref g2.objs.size) ⟨h8, g, d, tk2, os⟩
  rw [hsz]
  exact hQ x1 x2 h8 tk2 hx1 hx2 hz8 (up _ _ S.TOz hT2) (D1.frame _ _ _ hj1 fun b hb o e => up b o (fun q => S.zf1 (q ▸ hb)) e) (D2.frame _ _ _ hj2 fun b hb o e => up b o (fun q => S.zf2 (q ▸ hb)) e) hT8 hn8 fun c o cz cT c1 c2 e => up c o cz (hkk c o cz cT c1 c2 e)
theorem zipS_end {Q : Fin → Shared → Prop} (hh : A.handled = none) (S : ZipSep2 z TI TO i1 i2 fp1 fp2) (D1 : Draws prog w A i1 fp1 n1 P1 St1) (D2 : Draws prog w A i2 fp2 n1 P2 St2)
    (hz : IsZipB true s.heap z TI TO .none) (hTI : IsTupOf2 s.heap TI (.ref i1) (.ref i2)) (hTO : IsTupOf2 s.heap TO a1 a2) (st1 : St1 n1 s.heap) (st2 : St2 n1 s.heap)
    (hE : ∀ h' e, (∀ c o, c ≠ z → c ≠ TO → c ≠ i1 → c ≠ i2 → s.heap.get? c = some o → h'.get? c = some o) → (∃ o, h'.get? e = some o ∧ o.cls = .type "StopIteration") → E (.ref e) { s with heap := h' }) :
    wpAny (model prog w) A (Builtin.«zip.__next__» ⟨[.ref z], []⟩) Q E s := by
  obtain ⟨hp, g, d, tk0, os⟩ := s
  show wpAny _ _ (field (.ref z) 2 >>= _) _ _ _
  refine wpAny_bind (wpAny_field hz rfl (x := .bool true) rfl ?_)
  show wpAny _ _ (field (.ref z) 3 >>= _) _ _ _
  refine wpAny_bind (wpAny_field hz rfl (x := .ref TI) rfl ?_)
  refine wpAny_bind (wpAny_seqItems hTI rfl ?_)
  show wpAny _ _ (Builtin.SmallTypes.ownedTupleIsFree (.ref z) >>= _) _ _ _
  refine wpAny_bind ?_
  unfold Builtin.SmallTypes.ownedTupleIsFree
  refine wpAny_bind (wpAny_field hz rfl (x := .none) rfl (wpAny_pure ?_))
  simp only [if_true]
  refine wpAny_bind (wpAny_rule ?_)
  refine wpAny_bind (wpAny_field hz rfl (x := .ref TO) rfl ?_)
  refine wpAny_bind (wpAny_setField_rec hz (by simp) fun g0 hz0 hs0 => ?_)
  replace hz0 : IsZipB true g0 z TI TO .ellipsis := hz0
  replace hs0 : Heap.SameBut z hp g0 := hs0
  refine wpAny_bind ?_
  simp only [List.zipIdx_cons, List.zipIdx_nil, List.forIn_cons, List.forIn_nil]
  refine wpAny_bind (wpAny_bind (wpAny_onRaise ?_))
  show wpAny _ _ (Builtin.SmallTypes.nextOrEnd (.ref i1)) _ _ ⟨g0, g, d, tk0, os⟩
  refine noe_end (s := ⟨g0, g, d, tk0, os⟩) D1 (D1.over st1 hs0 S.zf1) fun q hq => ?_
  replace hq : Heap.ExtBut i1 g0 q := hq
  have hzq : IsZipB true q z TI TO .ellipsis := hq _ _ S.zi1 hz0
  refine wpAny_bind (wpAny_setField_rec (s := ⟨q, g, d, tk0, os⟩) hzq (by simp) fun q2 _ hq2 => ?_)
  replace hq2 : Heap.SameBut z q q2 := hq2
  refine wpAny_bind ?_
  show wpAny _ _ (forIn (([Value.ref i2] : List Value).zipIdx 1) PUnit.unit _ >>= _) _ _ _
  refine wpAny_bind ?_
  simp only [List.zipIdx_cons, List.zipIdx_nil, List.forIn_cons, List.forIn_nil]
  have st2q : St2 n1 q2 := D2.over (D2.frame _ _ _ (D2.over st2 hs0 S.zf2) fun b hb o e => hq b o (fun x => S.sep1_2 (x ▸ hb)) e) hq2 S.zf2
  refine wpAny_bind (wpAny_bind (noe_end (s := ⟨q2, g, d, tk0, os⟩) D2 st2q fun q3 hq3 => ?_))
  replace hq3 : Heap.ExtBut i2 q2 q3 := hq3
  show wpAny _ _ (pure (ForInStep.yield PUnit.unit)) _ _ _
  refine wpAny_pure (wpAny_pure ?_)
  refine wpAny_bind (wpAny_rule ?_)
  refine stopIt (s := ⟨q3, g, d, tk0, os⟩) hh fun h' e kp he => hE h' e (fun c o cz cT c1 c2 x => kp c o (hq3 _ _ c2 (hq2.extBut _ _ cz (hq _ _ c1 (hs0.extBut _ _ cz x))))) he
theorem letGoS {elts : List Expr} {x1 : Nat} {pos : Pos} {T : Addr} {Q : Unit → Shared → Prop} (hz : IsZipB true s.heap z TI TO (rawInt T))
    (hQ : ∀ h', IsZipB true h' z TI TO .none → Heap.SameBut z s.heap h' → Q () { s with heap := h' }) :
    wpAny (model prog w) A (letOwnedTupleGo (.Tuple elts x1 pos) (.ref z) (.ref T)) Q E s := by
  unfold letOwnedTupleGo
  refine wpAny_bind (wpAny_load hz ?_)
  show wpAny _ _ (if (["enumerate", "zip", "dict_itemiterator", "dict_reverseitemiterator", "odict_iterator", "itertools.zip_longest", "itertools.pairwise"].contains "zip" &&
      (#[rawInt T, .bool false, .bool true, .ref TI, .ref TO] : Array Value)[0]? == some (rawInt T)) = true then _ else _) Q E s
  rw [if_pos (by simp)]
  refine wpAny_bind (wpAny_rule ?_)
  show wpAny _ _ (setField (.ref z) 0 .none) Q E s
  exact wpAny_setField_rec hz (by simp) fun h' hz' hs' => hQ h' hz' hs'
theorem iterS {f0 : Value} {Q : Value → Shared → Prop} (hz : IsZipB true s.heap z TI TO f0) (h : Q (.ref z) s) : wpAny (model prog w) A (pyIter (.ref z)) Q E s := by
  have hT : s.TypeIs (.ref z) "zip" := ⟨_, hz, rfl⟩
  refine wpAny_pyIter_slot hT F.slot_zip_iter (wpAny_call_entry F.slot_zip_iter hT F.entry_zip_iter ?_ (F.args_zip_iter_1 _))
  show wpAny _ _ (ret (.ref z)) _ _ s
  exact wpAny_pure ⟨_, rfl, "zip", _, hT, F.slot_zip_next.lookup, h⟩
theorem nextS_item {Q : Option Value → Shared → Prop} (S : ZipSep2 z TI TO i1 i2 fp1 fp2) (D1 : Draws prog w A.in1 i1 fp1 n1 P1 St1) (D2 : Draws prog w A.in1 i2 fp2 n2 P2 St2)
    (hz : IsZipB true s.heap z TI TO .none) (hTI : IsTupOf2 s.heap TI (.ref i1) (.ref i2)) (hTO : IsTupOf2 s.heap TO a1 a2) (st1 : St1 i s.heap) (st2 : St2 i s.heap) (hlt1 : i < n1) (hlt2 : i < n2)
    (hQ : ∀ x1 x2 h' tk, P1 i x1 → P2 i x2 → IsZipB true h' z TI TO (rawInt s.heap.objs.size) → IsTupOf2 h' TO x1 x2 → St1 (i + 1) h' → St2 (i + 1) h' → IsTupOf2 h' s.heap.objs.size x1 x2 → h'.objs.size = s.heap.objs.size + 1 →
      (∀ c o, c ≠ z → c ≠ TO → c ≠ i1 → c ≠ i2 → s.heap.get? c = some o → h'.get? c = some o) → Q (some (.ref s.heap.objs.size)) { s with heap := h', toks := tk }) :
    wpAny (model prog w) A (pyNext (.ref z)) Q E s := by
  have hT : s.TypeIs (.ref z) "zip" := ⟨_, hz, rfl⟩
  unfold pyNext
  exact wpAny_bind (wpAny_attempt (wpAny_callSpecial?_slot (name := Str.ofString "__next__") hT F.slot_zip_next
    (wpAny_call_entry F.slot_zip_next hT F.entry_zip_next
      (zipS_item S D1 D2 hz hTI hTO st1 st2 hlt1 hlt2 fun x1 x2 h' tk y1 y2 b1 b2 d1 d2 b5 b6 b7 => wpAny_pure (hQ x1 x2 h' tk y1 y2 b1 b2 d1 d2 b5 b6 b7)) (F.args_zip_next_1 _))))
theorem nextS_end {Q : Option Value → Shared → Prop} (hh : A.handled = none) (S : ZipSep2 z TI TO i1 i2 fp1 fp2) (D1 : Draws prog w A.in1 i1 fp1 n1 P1 St1) (D2 : Draws prog w A.in1 i2 fp2 n1 P2 St2)
    (hz : IsZipB true s.heap z TI TO .none) (hTI : IsTupOf2 s.heap TI (.ref i1) (.ref i2)) (hTO : IsTupOf2 s.heap TO a1 a2) (st1 : St1 n1 s.heap) (st2 : St2 n1 s.heap)
    (hQ : ∀ h', (∀ c o, c ≠ z → c ≠ TO → c ≠ i1 → c ≠ i2 → s.heap.get? c = some o → h'.get? c = some o) → Q none { s with heap := h' }) : wpAny (model prog w) A (pyNext (.ref z)) Q E s := by
  have hT : s.TypeIs (.ref z) "zip" := ⟨_, hz, rfl⟩
  unfold pyNext
  refine wpAny_bind (wpAny_attempt (wpAny_callSpecial?_slot (name := Str.ofString "__next__") hT F.slot_zip_next
    (wpAny_call_entry F.slot_zip_next hT F.entry_zip_next (zipS_end hh S D1 D2 hz hTI hTO st1 st2 fun h' e hk he => ?_) (F.args_zip_next_1 _))))
  obtain ⟨o, ho, hc⟩ := he
  exact wpAny_bind (wpAny_isInstance (T := "StopIteration") (b := true) ⟨o, ho, hc⟩ isSubtype_stop (wpAny_pure (hQ _ hk)))
end
theorem typeCall_zipS (a b c : Value) : checkTypeCall "zip" ⟨[a, b], [(Str.ofString "strict", c)]⟩ = pure () := by kernel_rfl
theorem newCall_zipS (a b c : Value) : checkBuiltinCall "zip.__new__" ⟨[.type "zip", a, b], [(Str.ofString "strict", c)]⟩ = pure () := by kernel_rfl
theorem args_initS (obj a b c : Value) : argsOk "object.__init__" ⟨[obj, a, b], [(Str.ofString "strict", c)]⟩ := by unfold argsOk; kernel_rfl
abbrev zsT (h : Heap) (o1 o2 : Obj) : Heap := ((h.push o1).push o2).push { cls := .type "tuple", data := .seq #[.ref h.objs.size, .ref (h.push o1).objs.size] }
abbrev zsO (h : Heap) (o1 o2 : Obj) : Heap := (zsT h o1 o2).push { cls := .type "tuple", data := .seq #[.none, .none] }
abbrev zsZ (h : Heap) (o1 o2 : Obj) : Heap := (zsO h o1 o2).push { cls := .type "zip", data := .fields #[.none, .bool false, .bool true, .ref ((h.push o1).push o2).objs.size, .ref (zsT h o1 o2).objs.size] }
theorem meets_zipS {v1 v2 : Value} {o1 o2 : Obj} {H1 H2 : Heap → Prop} (B1 : Begins v1 o1 H1) (B2 : Begins v2 o2 H2) :
    Meets (Builtin.«zip.__new__» ⟨[.type "zip", v1, v2], [(Str.ofString "strict", .bool true)]⟩) (fun _ R s => (H1 s.heap ∧ H2 s.heap) ∧
      R (.ok (.ret (.ref (zsO s.heap o1 o2).objs.size))) { s with heap := zsZ s.heap o1 o2 }) :=
  .of_wp fun prog w A R s h => by
    obtain ⟨hp, g, d, tk, os⟩ := s; obtain ⟨⟨h1, h2⟩, h⟩ := h
    have hsub := sub_zip
    have e2 : (Str.ofString "strict" != ("strict" : Str)) = false := by decide +kernel
    have q1 : ∀ {A' : Around} {E : Value → Shared → Prop} {Q : Value → Shared → Prop}, Q (.ref hp.objs.size) ⟨(hp.push o1), g, d, tk, os⟩ → wpAny (model prog w) A' (pyIter v1) Q E ⟨hp, g, d, tk, os⟩ :=
      fun q => B1.iter prog w _ _ ⟨hp, g, d, tk, os⟩ _ (B1.keeps _ _ h1 fun b o' e => e) q
    have q2 : ∀ {A' : Around} {E : Value → Shared → Prop} {Q : Value → Shared → Prop}, Q (.ref (hp.push o1).objs.size) ⟨((hp.push o1).push o2), g, d, tk, os⟩ → wpAny (model prog w) A' (pyIter v2) Q E ⟨(hp.push o1), g, d, tk, os⟩ :=
      fun q => B2.iter prog w _ _ ⟨(hp.push o1), g, d, tk, os⟩ _ (B2.keeps _ _ h2 fun b o' e => (Heap.get?_push_of_some _ e)) q
    wp_walk using q1, q2
    exact ⟨_, rfl, h⟩

section
variable {prog : Program} {w : World} {A : Around} {E : Value → Shared → Prop} {s : Shared}
theorem zipS_begins {v1 v2 : Value} {o1 o2 : Obj} {H1 H2 : Heap → Prop} {Q : Value → Shared → Prop} (B1 : Begins v1 o1 H1) (B2 : Begins v2 o2 H2) (h1 : H1 s.heap) (h2 : H2 s.heap)
    (h : ∀ h', IsZipB true h' (s.heap.objs.size + 4) (s.heap.objs.size + 2) (s.heap.objs.size + 3) .none → IsTupOf2 h' (s.heap.objs.size + 2) (.ref s.heap.objs.size) (.ref (s.heap.objs.size + 1)) →
      IsTupOf2 h' (s.heap.objs.size + 3) .none .none → h'.get? s.heap.objs.size = some o1 → h'.get? (s.heap.objs.size + 1) = some o2 → h'.objs.size = s.heap.objs.size + 5 →
      (∀ c o, s.heap.get? c = some o → h'.get? c = some o) → Q (.ref (s.heap.objs.size + 4)) { s with heap := h' }) :
    wpAny (model prog w) A (call (.type "zip") [v1, v2] [(Str.ofString "strict", .bool true)]) Q E s := by
  refine callType_newKw F.called_zip (by decide) (typeCall_zipS _ _ _) (newCall_zipS _ _ _) (fun obj => args_initS obj _ _ _) F.entry_zip_new
    (meets_zipS B1 B2) ⟨⟨h1, h2⟩, ?_⟩
  have z1 : (s.heap.push o1).objs.size = s.heap.objs.size + 1 := by rw [Heap.size_push]
  have z2 : ((s.heap.push o1).push o2).objs.size = s.heap.objs.size + 2 := by rw [Heap.size_push, z1]
  have zT : (zsT s.heap o1 o2).objs.size = s.heap.objs.size + 3 := by rw [Heap.size_push, z2]
  have zO : (zsO s.heap o1 o2).objs.size = s.heap.objs.size + 4 := by rw [Heap.size_push, zT]
  have zZ : (zsZ s.heap o1 o2).objs.size = s.heap.objs.size + 5 := by rw [Heap.size_push, zO]
  have gZ : (zsZ s.heap o1 o2).get? (zsO s.heap o1 o2).objs.size = some _ := Heap.get?_push_size _ rfl
  have gO : (zsZ s.heap o1 o2).get? (zsT s.heap o1 o2).objs.size = some _ := Heap.get?_push_of_some _ (Heap.get?_push_size _ rfl)
  have gT : (zsZ s.heap o1 o2).get? ((s.heap.push o1).push o2).objs.size = some _ := Heap.get?_push_of_some _ (Heap.get?_push_of_some _ (Heap.get?_push_size _ rfl))
  have g1 : (zsZ s.heap o1 o2).get? s.heap.objs.size = some o1 := Heap.get?_push_of_some _ (Heap.get?_push_of_some _ (Heap.get?_push_of_some _ (Heap.get?_push_of_some _ (Heap.get?_push_size _ B1.free))))
  have g2 : (zsZ s.heap o1 o2).get? (s.heap.push o1).objs.size = some o2 := Heap.get?_push_of_some _ (Heap.get?_push_of_some _ (Heap.get?_push_of_some _ (Heap.get?_push_size _ B2.free)))
  rw [zO, zT, z2] at gZ
  rw [zT] at gO
  rw [z2, z1] at gT
  rw [z1] at g2
  show _ ∧ _
  rw [zO]
  exact ⟨⟨_, gZ, rfl⟩, h _ gZ gT gO g1 g2 zZ fun c o e => Heap.get?_push_of_some _ (Heap.get?_push_of_some _ (Heap.get?_push_of_some _ (Heap.get?_push_of_some _ (Heap.get?_push_of_some _ e))))⟩
end

/-! ### what zip takes: a list or a tuple -/
def SqX (K : PySem.W.Frag) (H : Hp) (b : Bool) (a : Addr) (xs : List V) : Prop := if b = true then SqT K H a xs else SqL K H a xs
def SrcIt (b : Bool) (h : Heap) (it a : Addr) (i : Nat) : Prop := if b = true then h.IsTupleIter it a i else h.IsListIter it a i
def SrcSq (b : Bool) (h : Heap) (a : Addr) (its : Array Value) : Prop := if b = true then h.IsTuple a its else h.IsList a its
def srcO (b : Bool) (a : Addr) : Obj := if b = true then { cls := .type "tuple_iterator", data := .fields #[.ref a, .int 0 0] } else { cls := .type "list_iterator", data := .fields #[.ref a, .int 0 0] }
theorem src_draws {prog : Program} {w : World} {A : Around} (hh : A.handled = none) (b : Bool) (it a : Addr) (hne : a ≠ it) (its : Array Value) :
    Draws prog w A it [it, a] its.size (fun i v => its[i]? = some v) (fun i h => SrcIt b h it a i ∧ SrcSq b h a its) := by
  cases b
  · exact Draws.list hh it a hne its
  · exact Draws.tuple hh it a hne its
theorem src_begins (b : Bool) (a : Addr) (its : Array Value) : Begins (.ref a) (srcO b a) (fun h => SrcSq b h a its) := by
  cases b
  · exact begins_list a its
  · exact begins_tuple a its
theorem src_of {X : Cx} {pins : List (Addr × Obj)} {σ : L2.St} {H : Hp} {s : Shared} (I : L2.Inv X pins σ H s) {b : Bool} {a : Addr} {xs : List V} (h : SqX X.K H b a xs) : ∃ its : List Value, Vals xs its ∧ SrcSq b s.heap a its.toArray ∧ a < s.heap.objs.size := by
  cases b
  · obtain ⟨its, r, p, _⟩ := I.list h
    exact ⟨its, r, p.isList, p.lt⟩
  · obtain ⟨its, r, p, _⟩ := I.tuple h
    exact ⟨its, r, p, p.lt⟩
theorem src_inj {X : Cx} {pins : List (Addr × Obj)} {σ : L2.St} {H : Hp} {s : Shared} (I : L2.Inv X pins σ H s) {b : Bool} {a : Addr} {xs ys : List V} (h : SqX X.K H b a xs) (h' : SqX X.K H b a ys) : xs = ys := by
  cases b
  · exact I.list_inj h h'
  · exact I.tuple_inj h h'
theorem srcIt_at {b : Bool} {h h' : Heap} {it a : Addr} {i : Nat} (x : SrcIt b h it a i) (k : ∀ o, h.get? it = some o → h'.get? it = some o) : SrcIt b h' it a i := by
  cases b
  · exact Heap.IsListIter.at x k
  · exact Heap.IsTupleIter.at x k
theorem srcIt_obj {b : Bool} {h : Heap} {it a : Addr} {i : Nat} (x : SrcIt b h it a i) : ∃ o, h.get? it = some o ∧ ∀ v, o.data ≠ .cell v := by
  cases b
  · obtain ⟨o, e, _, d⟩ := x
    exact ⟨o, e, fun v q => by rw [d] at q; cases q⟩
  · obtain ⟨o, e, _, d⟩ := x
    exact ⟨o, e, fun v q => by rw [d] at q; cases q⟩
theorem srcIt_new {b : Bool} {h : Heap} {it a : Addr} (x : h.get? it = some (srcO b a)) : SrcIt b h it a 0 := by
  cases b
  · exact ⟨_, x, rfl, rfl⟩
  · exact ⟨_, x, rfl, rfl⟩
def ItZ (K : PySem.W.Frag) (st b1 b2 : Bool) (a1 a2 : Addr) : It :=
  ⟨fun i H => ∃ (xs ys : List V) (x y : V), SqX K H b1 a1 xs ∧ SqX K H b2 a2 ys ∧ xs[i]? = some x ∧ ys[i]? = some y,
    fun i H v H' => ∃ T x y, v = .ref T ∧ H T = none ∧ H' = upd H T (.tup [x, y]) ∧ (∀ xs, SqX K H b1 a1 xs → xs[i]? = some x) ∧ ∀ ys, SqX K H b2 a2 ys → ys[i]? = some y,
    fun i H => ∃ xs ys : List V, SqX K H b1 a1 xs ∧ SqX K H b2 a2 ys ∧ i ≤ xs.length ∧ i ≤ ys.length ∧ (i = xs.length ∨ i = ys.length) ∧ (st = true → xs.length = ys.length)⟩
theorem mem5 {c z TI TO i1 i2 : Addr} (h : c ∈ [z, TI, TO, i1, i2]) : c = z ∨ c = TI ∨ c = TO ∨ c = i1 ∨ c = i2 := by simpa using h
theorem nextB_item {prog : Program} {w : World} {A : Around} {E : Value → Shared → Prop} {s : Shared} {z TI TO i1 i2 : Addr} {fp1 fp2 : List Addr} {n1 n2 i : Nat} {P1 P2 : Nat → Value → Prop} {St1 St2 : Nat → Heap → Prop} {a1 a2 : Value} {Q : Option Value → Shared → Prop} (st : Bool)
    (S : ZipSep2 z TI TO i1 i2 fp1 fp2) (D1 : Draws prog w A.in1 i1 fp1 n1 P1 St1) (D2 : Draws prog w A.in1 i2 fp2 n2 P2 St2)
    (hz : IsZipB st s.heap z TI TO .none) (hTI : IsTupOf2 s.heap TI (.ref i1) (.ref i2)) (hTO : IsTupOf2 s.heap TO a1 a2) (st1 : St1 i s.heap) (st2 : St2 i s.heap) (hlt1 : i < n1) (hlt2 : i < n2)
    (hQ : ∀ x1 x2 h' tk, P1 i x1 → P2 i x2 → IsZipB st h' z TI TO (rawInt s.heap.objs.size) → IsTupOf2 h' TO x1 x2 → St1 (i + 1) h' → St2 (i + 1) h' → IsTupOf2 h' s.heap.objs.size x1 x2 → h'.objs.size = s.heap.objs.size + 1 →
      (∀ c o, c ≠ z → c ≠ TO → c ≠ i1 → c ≠ i2 → s.heap.get? c = some o → h'.get? c = some o) → Q (some (.ref s.heap.objs.size)) { s with heap := h', toks := tk }) :
    wpAny (model prog w) A (pyNext (.ref z)) Q E s := by
  cases st
  · exact wpAny_pyNext_zipD2_item S D1 D2 hz hTI hTO st1 st2 hlt1 hlt2 hQ
  · exact nextS_item S D1 D2 hz hTI hTO st1 st2 hlt1 hlt2 hQ
theorem letGoB {prog : Program} {w : World} {A : Around} {E : Value → Shared → Prop} {s : Shared} {z TI TO : Addr} {elts : List Expr} {x1 : Nat} {pos : Pos} {T : Addr} {Q : Unit → Shared → Prop} (st : Bool) (hz : IsZipB st s.heap z TI TO (rawInt T))
    (hQ : ∀ h', IsZipB st h' z TI TO .none → Heap.SameBut z s.heap h' → Q () { s with heap := h' }) :
    wpAny (model prog w) A (letOwnedTupleGo (.Tuple elts x1 pos) (.ref z) (.ref T)) Q E s := by
  cases st
  · exact wpAny_letOwnedTupleGo_zip hz hQ
  · exact letGoS hz hQ
theorem turn_zipB {P : Program} {w : World} {K : PySem.W.Frag} {elts : List Expr} {kk : Nat} {tpos : Pos} {st b1 b2 : Bool} {N a1 a2 : Addr} (l1 : a1 < N) (l2 : a2 < N) :
    Turn P w K (.Tuple elts kk tpos) (ItZ K st b1 b2 a1 a2) [N + 4, N + 2, N + 3, N, N + 1] (N + 4)
      (fun i h => IsZipB st h (N + 4) (N + 2) (N + 3) .none ∧ IsTupOf2 h (N + 2) (.ref N) (.ref (N + 1)) ∧ (∃ x y, IsTupOf2 h (N + 3) x y) ∧ SrcIt b1 h N a1 i ∧ SrcIt b2 h (N + 1) a2 i) where
  mem := by simp
  obj := fun i h stt c hc => by
    obtain ⟨hz, hTI, ⟨x, y, hTO⟩, h1, h2⟩ := stt
    rcases mem5 hc with q | q | q | q | q
    · rw [q]; exact ⟨_, hz, fun v q => nomatch q⟩
    · rw [q]; exact ⟨_, hTI, fun v q => nomatch q⟩
    · rw [q]; exact ⟨_, hTO, fun v q => nomatch q⟩
    · rw [q]; exact srcIt_obj h1
    · rw [q]; exact srcIt_obj h2
  keep := fun i h h' stt k => by
    obtain ⟨hz, hTI, ⟨x, y, hTO⟩, h1, h2⟩ := stt
    exact ⟨k _ (by simp) _ hz, k _ (by simp) _ hTI, ⟨x, y, k _ (by simp) _ hTO⟩, srcIt_at h1 fun o q => k _ (by simp) o q, srcIt_at h2 fun o q => k _ (by simp) o q⟩
  item := by
    intro X hP hw hK hc i pins s σ H E I hf stt hg
    subst hP hw hK
    obtain ⟨hz, hTI, ⟨x0, y0, hTO⟩, h1, h2⟩ := stt
    obtain ⟨xs, ys, x, y, hqx, hqy, hx, hy⟩ := hg
    obtain ⟨its, rv, p1, _⟩ := src_of I hqx
    obtain ⟨its2, rv2, p2, _⟩ := src_of I hqy
    have S : ZipSep2 (N + 4) (N + 2) (N + 3) N (N + 1) [N, a1] [N + 1, a2] := zip_sep2 (by simpa using l1) (by simpa using l2)
    have hn : X.A.in1.handled = none := I.ok.hd hc
    have D1 := src_draws (prog := X.prog) (w := X.w) hn b1 N a1 (Nat.ne_of_lt l1) its.toArray
    have D2 := src_draws (prog := X.prog) (w := X.w) hn b2 (N + 1) a2 (Nat.ne_of_lt (Nat.lt_succ_of_lt l2)) its2.toArray
    have i1 : i < its.toArray.size := by rw [List.size_toArray, ← rv.length]; exact (List.getElem?_eq_some_iff.mp hx).1
    have i2 : i < its2.toArray.size := by rw [List.size_toArray, ← rv2.length]; exact (List.getElem?_eq_some_iff.mp hy).1
    have hzl : N + 4 < s.heap.objs.size := Heap.lt_size hz
    refine nextB_item st S D1 D2 hz hTI hTO ⟨h1, p1⟩ ⟨h2, p2⟩ i1 i2 fun u1 u2 h' tk e1 e2 z' TO' n1 n2 hT hsz hk => ?_
    refine ⟨_, rfl, letGoB (s := { s with heap := h', toks := tk }) st z' fun h'' z'' sb => ?_⟩
    have hT2 : h''.get? s.heap.objs.size = some { cls := .type "tuple", data := .seq #[u1, u2] } := (sb.2 _ (Nat.ne_of_gt hzl)).trans hT
    have ru1 : RelV x u1 := by
      obtain ⟨u, hu, ru⟩ := rv.get hx
      have e1' : its[i]? = some u1 := by simpa using e1
      rw [hu] at e1'
      rw [← Option.some.inj e1']
      exact ru
    have ru2 : RelV y u2 := by
      obtain ⟨u, hu, ru⟩ := rv2.get hy
      have e2' : its2[i]? = some u2 := by simpa using e2
      rw [hu] at e2'
      rw [← Option.some.inj e2']
      exact ru
    have new : ObjOk X.prog X.w (upd H s.heap.objs.size (.tup [x, y])) h'' s.heap.objs.size (.tup [x, y]) :=
      ⟨by show 2 ≤ sizeLine; decide, [u1, u2], .cons ru1 (.cons ru2 .nil), ⟨_, hT2, rfl, _, rfl⟩⟩
    have I1 : L2.Inv X pins σ (upd H s.heap.objs.size (.tup [x, y])) { s with heap := h'', toks := tk } :=
      I.turnedNew (t' := tk) (ch := [N + 4, N + 2, N + 3, N, N + 1]) (fun c o hb q => (sb.2 c (fun q' => hb (by simp [q']))).trans (hk c o (fun q' => hb (by simp [q'])) (fun q' => hb (by simp [q'])) (fun q' => hb (by simp [q'])) (fun q' => hb (by simp [q'])) q)) hf (Nat.le_refl _) new
    refine ⟨.ref s.heap.objs.size, _, I1, rfl, ⟨_, x, y, rfl, I.hok.fresh (Nat.le_refl _), rfl, fun l hl => by rw [src_inj I hl hqx]; exact hx, fun l hl => by rw [src_inj I hl hqy]; exact hy⟩, ⟨z'', ?_, ⟨u1, u2, ?_⟩, ?_, ?_⟩, fun c hcm => ?_⟩
    · exact (sb.2 _ (by show N + 2 ≠ N + 4; exact Nat.ne_of_lt (Nat.add_lt_add_left (by decide) N))).trans (hk _ _ S.TIz S.TITO S.TIi1 S.TIi2 hTI)
    · exact (sb.2 _ S.TOz).trans TO'
    · exact srcIt_at n1.1 fun o q => (sb.2 _ (Ne.symm S.zi1)).trans q
    · exact srcIt_at n2.1 fun o q => (sb.2 _ (Ne.symm S.zi2)).trans q
    · have hlt : c < s.heap.objs.size := by
        rcases mem5 hcm with q | q | q | q | q
        · rw [q]; exact hzl
        · rw [q]; exact Heap.lt_size hTI
        · rw [q]; exact Heap.lt_size hTO
        · rw [q]; obtain ⟨_, e1, _⟩ := srcIt_obj h1; exact Heap.lt_size e1
        · rw [q]; obtain ⟨_, e2, _⟩ := srcIt_obj h2; exact Heap.lt_size e2
      rw [upd_ne (Nat.ne_of_lt hlt)]
      exact (hf c hcm).1
  done := by
    intro X hP hw hK hc i pins s σ H E I hf stt hg
    subst hP hw hK
    obtain ⟨hz, hTI, ⟨x0, y0, hTO⟩, h1, h2⟩ := stt
    obtain ⟨xs, ys, hqx, hqy, le1, le2, hend, hst⟩ := hg
    obtain ⟨its, rv, p1, _⟩ := src_of I hqx
    obtain ⟨its2, rv2, p2, _⟩ := src_of I hqy
    have S : ZipSep2 (N + 4) (N + 2) (N + 3) N (N + 1) [N, a1] [N + 1, a2] := zip_sep2 (by simpa using l1) (by simpa using l2)
    have hn : X.A.in1.handled = none := I.ok.hd hc
    have D1 := src_draws (prog := X.prog) (w := X.w) hn b1 N a1 (Nat.ne_of_lt l1) its.toArray
    have D2 := src_draws (prog := X.prog) (w := X.w) hn b2 (N + 1) a2 (Nat.ne_of_lt (Nat.lt_succ_of_lt l2)) its2.toArray
    have e1 : its.toArray.size = xs.length := by rw [List.size_toArray, ← rv.length]
    have e2 : its2.toArray.size = ys.length := by rw [List.size_toArray, ← rv2.length]
    have fin : ∀ (h' : Heap) (tk : Nat), (∀ c o, c ≠ N + 4 → c ≠ N + 3 → c ≠ N → c ≠ N + 1 → s.heap.get? c = some o → h'.get? c = some o) → L2.Inv X pins σ H { s with heap := h', toks := tk } := fun h' tk hk =>
      I.turnedL (t' := tk) (ch := [N + 4, N + 2, N + 3, N, N + 1]) (fun c o hb q => hk c o (fun q' => hb (by simp [q'])) (fun q' => hb (by simp [q'])) (fun q' => hb (by simp [q'])) (fun q' => hb (by simp [q'])) q) hf
    cases st with
    | false =>
      refine wpAny_pyNext_zipD2_end S D1 D2 hz hTI hTO ⟨h1, p1⟩ ⟨h2, p2⟩ (by rw [e1]; exact le1) (by rw [e2]; exact le2) (by rw [e1, e2]; exact hend) fun h' tk hk => ⟨rfl, fin h' tk hk⟩
    | true =>
      have e3 : i = its.toArray.size := by
        have := hst rfl
        rcases hend with q | q
        · rw [e1]; exact q
        · rw [e1, this]; exact q
      have e4 : its2.toArray.size = its.toArray.size := by rw [e1, e2]; exact (hst rfl).symm
      rw [e4] at D2
      rw [e3] at h1 h2
      exact nextS_end (I.ok.hd hc) S D1 D2 hz hTI hTO ⟨h1, p1⟩ ⟨h2, p2⟩ fun h' hk => ⟨rfl, fin h' s.toks hk⟩
  self := fun A i s Q E stt h => by
    cases st
    · exact wpAny_pyIter_zip stt.1 h
    · exact iterS stt.1 h

/-! ### by data -/
def sqD : Bool → List D → D
  | true, ds => .tup ds
  | false, ds => .lst ds
def zipD (ds es : List D) : List D := (ds.zip es).map fun p => .tup [p.1, p.2]
theorem sq_of {K : PySem.W.Frag} {M : Dm} {H : Hp} {v : V} {b : Bool} {ds : List D} (h : Rp K (hid M H) v (sqD b ds)) : ∃ a xs, v = .ref a ∧ SqX K (hid M H) b a xs ∧ RpA K (hid M H) xs ds := by
  cases b
  · cases h with
    | lst q ra => exact ⟨_, _, rfl, .inl (.inl q), ra⟩
  · cases h with
    | tup q ra => exact ⟨_, _, rfl, q, ra⟩
theorem sqX_mono {K : PySem.W.Frag} {H H' : Hp} {b : Bool} {a : Addr} {xs : List V} (e : Evl.Ex H H') (h : SqX K H b a xs) : SqX K H' b a xs := by
  cases b
  · exact Evl.ex_l e h
  · exact Evl.ex_t e h
theorem itZ_ok {K : PySem.W.Frag} {M : Dm} {H : Hp} {st b1 b2 : Bool} {a1 a2 : Addr} {xs ys : List V} {ds es : List D} (q1 : SqX K (hid M H) b1 a1 xs) (r1 : RpA K (hid M H) xs ds) (q2 : SqX K (hid M H) b2 a2 ys) (r2 : RpA K (hid M H) ys es)
    (hst : st = true → ds.length = es.length) : ItOk K M (ItZ K st b1 b2 a1 a2) H (zipD ds es) := by
  have hl : (zipD ds es).length = min ds.length es.length := by unfold zipD; rw [List.length_map, List.length_zip]
  have up : ∀ {M' : Dm} {H' : Hp}, Xt M H M' H' → SqX K H' b1 a1 xs ∧ SqX K H' b2 a2 ys := fun x => ⟨sqX_mono (x.ex.trans hid_ex) q1, sqX_mono (x.ex.trans hid_ex) q2⟩
  refine ⟨fun i M' H' x hi => ?_, fun i M' H' v H2 d lv x hd hy => ?_, fun M' H' x => ?_⟩
  · rw [hl] at hi
    obtain ⟨u1, u2⟩ := up x
    have i1 : i < xs.length := by rw [r1.length]; omega
    have i2 : i < ys.length := by rw [r2.length]; omega
    exact ⟨xs, ys, xs[i], ys[i], u1, u2, List.getElem?_eq_getElem i1, List.getElem?_eq_getElem i2⟩
  · obtain ⟨u1, u2⟩ := up x
    obtain ⟨T, p, q, rfl, hT, rfl, e1, e2⟩ := hy
    have f1 := e1 xs u1
    have f2 := e2 ys u2
    have hi : i < (zipD ds es).length := (List.getElem?_eq_some_iff.mp hd).1
    rw [hl] at hi
    have i1 : i < ds.length := by omega
    have i2 : i < es.length := by omega
    have ed : d = .tup [ds[i], es[i]] := by
      unfold zipD at hd
      rw [List.getElem?_map] at hd
      have : (ds.zip es)[i]? = some (ds[i], es[i]) := by
        rw [List.getElem?_eq_getElem (by rw [List.length_zip]; omega), List.getElem_zip]
      rw [this] at hd
      exact (Option.some.inj hd).symm
    subst ed
    have nT : M' T = false := by
      cases e : M' T with
      | false => rfl
      | true => exact absurd hT (lv T e)
    have xn : Xt M' H' M' (upd H' T (.tup [p, q])) := Xt.new hT
    refine ⟨xn, fun a ha => upd_ne (fun e => by rw [e, nT] at ha; cases ha), .tup (xs := [p, q]) (.inl (.inl ?_)) ?_⟩
    · rw [hid_out nT]; exact upd_same
    · obtain ⟨v1, w1, z1⟩ := (r1.mono x.ex).get (List.getElem?_eq_getElem i1)
      obtain ⟨v2, w2, z2⟩ := (r2.mono x.ex).get (List.getElem?_eq_getElem i2)
      rw [f1] at w1
      rw [f2] at w2
      cases w1
      cases w2
      exact .cons (z1.mono xn.ex) (.cons (z2.mono xn.ex) .nil)
  · obtain ⟨u1, u2⟩ := up x
    have a1 := r1.length
    have a2 := r2.length
    exact ⟨xs, ys, u1, u2, by rw [hl]; omega, by rw [hl]; omega, by rw [hl]; omega, fun z => by rw [a1, a2]; exact hst z⟩
def iZ (K : PySem.W.Frag) (st : Bool) (ta : TA) : TI := fun σ H R => ta σ H fun vs H1 => ∃ M v1 v2 b1 b2 ds es, vs = [v1, v2] ∧ Rp K (hid M H1) v1 (sqD b1 ds) ∧ Rp K (hid M H1) v2 (sqD b2 es) ∧ (st = true → ds.length = es.length) ∧ ∀ J, ItOk K M J H1 (zipD ds es) → R J H1
theorem fp5 {X : Cx} {pins : List (Addr × Obj)} {σ : L2.St} {H : Hp} {s : Shared} (I : L2.Inv X pins σ H s) : ∀ c, c ∈ [s.heap.objs.size + 4, s.heap.objs.size + 2, s.heap.objs.size + 3, s.heap.objs.size, s.heap.objs.size + 1] → FpOk X pins H c := fun c hcm => by
  have hle : s.heap.objs.size ≤ c := by
    rcases mem5 hcm with z | z | z | z | z
    · rw [z]; exact Nat.le_add_right _ _
    · rw [z]; exact Nat.le_add_right _ _
    · rw [z]; exact Nat.le_add_right _ _
    · rw [z]; exact Nat.le_refl _
    · rw [z]; exact Nat.le_add_right _ _
  exact I.fpOk hle (I.hok.fresh hle)
section
variable {X : Cx} {e e2 : Expr} {ta : TA} {p pos tpos : Pos} {elts : List Expr} {kk : Nat}
/-- for a, b in zip(xs, ys) -/
theorem pi_zipN (hg : Gl X "zip") (hm : X.mg "zip" = none) (ha : PA X [e, e2] ta)
    (hs : starEach [e, e2] X.env = (false, eval e X.env) :: starEach [e2] X.env := by rfl) (hpl : (backTo pos (starEach [e2] X.env)).any (·.1) = false := by rfl) :
    PI X (.Tuple elts kk tpos) (.Call (.Name "zip" p) [e, e2] [] pos) (iZ X.K false ta) := by
  refine ⟨fun pins s σ H R I h => ?_⟩
  refine Call_ (ld_blt I hg hm PyProof.Rows.boot_zip (PyProof.Rows.callWith_type1 (thn (ha.run pos pins s σ H _ I h) fun us s1 ⟨vs, H1, I1, r1, q1⟩ => ?_) hs hpl))
  obtain ⟨M, v1, v2, b1, b2, ds, es, ex, h1, h2, hst, q⟩ := q1
  subst ex
  obtain ⟨a1, xs, rfl, q1, ra1⟩ := sq_of h1
  obtain ⟨a2, ys, rfl, q2, ra2⟩ := sq_of h2
  obtain ⟨u1, u2, rfl, rr1, rr2⟩ := vals2 r1
  cases rr1
  cases rr2
  obtain ⟨its, _, p1, l1⟩ := src_of I1 (sqX_mono hid_ex q1)
  obtain ⟨its2, _, p2, l2⟩ := src_of I1 (sqX_mono hid_ex q2)
  refine zip_begins2 (src_begins b1 a1 its.toArray) (src_begins b2 a2 its2.toArray) p1 p2 fun h' hz hTI hTO g1 g2 hsz hk => wpAny_pyIter_zip hz ?_
  have I2 : L2.Inv X pins σ H1 { s1 with heap := h' } := I1.kept (t' := s1.toks) hk
  exact ⟨s1.heap.objs.size + 4, _, _, _, H1, rfl, I2, turn_zipB (st := false) (b1 := b1) (b2 := b2) l1 l2, ⟨hz, hTI, ⟨_, _, hTO⟩, srcIt_new g1, srcIt_new g2⟩, fp5 I1, q _ (itZ_ok q1 ra1 q2 ra2 hst)⟩
theorem callWith_tyKw {M : Model} {A : Around} {E : Value → Shared → Prop} {s : Shared} {pos : Pos} {T : String} {args : List (Bool × Sem Value)} {keywords : List (Option Str × Sem Value)} {Q : Value → Shared → Prop}
    (hplain : args.any (·.1) = false) (hkw : keywords.any (·.1.isNone) = false)
    (h : wpAny M A (evalArgs (.type T) true args keywords) (fun a s1 => wpAny M A (call (.type T) a.pos a.kw) Q E s1) E s) :
    wpAny M A (callWith pos (.type T) [] args keywords) Q E s := by
  unfold callWith
  refine wpAny_bind (wpAny_holding (wpAny_mono h (fun a s1 h1 => wpAny_bind (wpAny_standAt ?_)) fun _ _ x => x))
  simp only [hplain, hkw, Bool.or_false]
  refine wpAny_bind (wpAny_pure ?_)
  exact wpAny_bind (wpAny_mono h1 (fun r s2 hr => wpAny_bind (wpAny_holding (wpAny_point (wpAny_pure hr)))) fun _ _ x => x)
/-- for a, b in zip(xs, ys, strict=True) -/
theorem pi_zipS {k : Nat} {cp kp : Pos} (hg : Gl X "zip") (hm : X.mg "zip" = none) (ha : PA X [e, e2] ta)
    (he : backTo pos (starEach [e, e2] X.env) = (false, eval e X.env) :: backTo pos (starEach [e2] X.env) := by rfl) (hpl : (backTo pos (starEach [e, e2] X.env)).any (·.1) = false := by rfl) :
    PI X (.Tuple elts kk tpos) (.Call (.Name "zip" p) [e, e2] [⟨some "strict", .Constant (.bool true) k cp, kp⟩] pos) (iZ X.K true ta) := by
  refine ⟨fun pins s σ H R I h => ?_⟩
  refine wpAny_Call_Name_kw (ld_blt I hg hm PyProof.Rows.boot_zip ?_)
  refine callWith_tyKw hpl rfl ?_
  have hA := ha.run pos pins s σ H _ I h
  rw [he] at hA ⊢
  refine evalArgs_kwB rfl (thn hA fun us s1 ⟨vs, H1, I1, r1, q1⟩ => ?_)
  refine kws_cons (Constant_bool (kws_nil ?_))
  obtain ⟨M, v1, v2, b1, b2, ds, es, ex, h1, h2, hst, q⟩ := q1
  subst ex
  obtain ⟨a1, xs, rfl, q1, ra1⟩ := sq_of h1
  obtain ⟨a2, ys, rfl, q2, ra2⟩ := sq_of h2
  obtain ⟨u1, u2, rfl, rr1, rr2⟩ := vals2 r1
  cases rr1
  cases rr2
  obtain ⟨its, _, p1, l1⟩ := src_of I1 (sqX_mono hid_ex q1)
  obtain ⟨its2, _, p2, l2⟩ := src_of I1 (sqX_mono hid_ex q2)
  show wpAny _ _ (call (.type "zip") [.ref a1, .ref a2] [(Str.ofString "strict", .bool true)]) _ _ _
  refine zipS_begins (src_begins b1 a1 its.toArray) (src_begins b2 a2 its2.toArray) p1 p2 fun h' hz hTI hTO g1 g2 hsz hk => iterS hz ?_
  have I2 : L2.Inv X pins σ H1 { s1 with heap := h' } := I1.kept (t' := s1.toks) hk
  exact ⟨s1.heap.objs.size + 4, _, _, _, H1, rfl, I2, turn_zipB (st := true) (b1 := b1) (b2 := b2) l1 l2, ⟨hz, hTI, ⟨_, _, hTO⟩, srcIt_new g1, srcIt_new g2⟩, fp5 I1, q _ (itZ_ok q1 ra1 q2 ra2 hst)⟩
end
end Cr

/-! Cr5: walks and calls of built-ins, by data. -/
namespace Cr
open PySem PySem.Spec PyProof.Rows L2

/-! ### walks -/
section
variable {X : Cx} {tg : Expr}
def iD (K : PySem.W.Frag) (te : TE) : TI := fun σ H R => te σ H fun v H1 => ∃ M b ds, Rp K (hid M H1) v (sqD b ds) ∧ ∀ J, ItOk K M J H1 ds → R J H1
theorem itl_ok {K : PySem.W.Frag} {M : Dm} {H : Hp} {a : Addr} {xs : List V} {ds : List D} (q : hid M H a = some (.lst xs)) (ra : RpA K (hid M H) xs ds) : ItOk K M (Itl K a) H ds := by
  have hl := ra.length
  have up : ∀ {M' : Dm} {H' : Hp}, Xt M H M' H' → SqL K H' a xs := fun x => .inl (.inl ((x.ex.trans hid_ex) _ _ q))
  refine ⟨fun i M' H' x hi => ?_, fun i M' H' v H2 d lv x hd hy => ?_, fun M' H' x => ⟨xs, up x, by omega⟩⟩
  · have i1 : i < xs.length := by omega
    exact ⟨xs, xs[i], up x, List.getElem?_eq_getElem i1⟩
  · obtain ⟨rfl, e⟩ := hy
    obtain ⟨w, e2, rw2⟩ := (ra.mono x.ex).get hd
    have e3 := e xs (up x)
    rw [e2] at e3
    cases e3
    exact ⟨Xt.refl, fun _ _ => rfl, rw2⟩
theorem itt_ok {K : PySem.W.Frag} {M : Dm} {H : Hp} {a : Addr} {xs : List V} {ds : List D} (q : SqT K (hid M H) a xs) (ra : RpA K (hid M H) xs ds) : ItOk K M (Itt K a) H ds := by
  have hl := ra.length
  have up : ∀ {M' : Dm} {H' : Hp}, Xt M H M' H' → SqT K H' a xs := fun x => Evl.ex_t (x.ex.trans hid_ex) q
  refine ⟨fun i M' H' x hi => ?_, fun i M' H' v H2 d lv x hd hy => ?_, fun M' H' x => ⟨xs, up x, by omega⟩⟩
  · have i1 : i < xs.length := by omega
    exact ⟨xs, xs[i], up x, List.getElem?_eq_getElem i1⟩
  · obtain ⟨rfl, e⟩ := hy
    obtain ⟨w, e2, rw2⟩ := (ra.mono x.ex).get hd
    have e3 := e xs (up x)
    rw [e2] at e3
    cases e3
    exact ⟨Xt.refl, fun _ _ => rfl, rw2⟩
theorem pi_D {l : Expr} {tl : TE} (hl : PE X l tl) : PI X tg l (iD X.K tl) := by
  refine ⟨fun pins s σ H R I h => ?_⟩
  refine thn (hl.run pins s σ H _ I h) fun v s1 ⟨x, H1, I1, r1, M, b, ds, rp, q⟩ => ?_
  cases b with
  | false =>
    cases rp with
    | @lst a xs _ e ra =>
      cases r1
      obtain ⟨its, rv, p, hz⟩ := I1.list (.inl (.inl (hid_some e).2))
      refine wpAny_pyIter_list p.isList ?_
      refine ⟨s1.heap.objs.size, [s1.heap.objs.size], _, _, H1, rfl, I1.kept (t' := s1.toks) fun b o e => Heap.get?_push_of_some _ e, turn_list a _, ⟨_, Heap.get?_push_size _ rfl, rfl, rfl⟩, fun b hb => ?_, q _ (itl_ok e ra)⟩
      have e : b = s1.heap.objs.size := by simpa using hb
      subst e
      exact I1.fpOk (Nat.le_refl _) (I1.hok.fresh (Nat.le_refl _))
  | true =>
    cases rp with
    | @tup a xs _ e ra =>
      cases r1
      obtain ⟨its, rv, p, hz⟩ := I1.tuple (sqT_hid e)
      refine wpAny_pyIter_tuple (show s1.heap.IsTuple a its.toArray from p) ?_
      refine ⟨s1.heap.objs.size, [s1.heap.objs.size], _, _, H1, rfl, I1.kept (t' := s1.toks) fun b o e => Heap.get?_push_of_some _ e, turn_tuple a _, ⟨_, Heap.get?_push_size _ rfl, rfl, rfl⟩, fun b hb => ?_, q _ (itt_ok e ra)⟩
      have e : b = s1.heap.objs.size := by simpa using hb
      subst e
      exact I1.fpOk (Nat.le_refl _) (I1.hok.fresh (Nat.le_refl _))
end
section
variable {K : PySem.W.Frag} {r : Ro} {m : Sto}
theorem wi_D {te : TE} {Q : List D → Sto → Prop} (h : WE K r m te fun s m1 => ∃ b ds, s = .val (sqD b ds) ∧ Q ds m1) : WI K r m (iD K te) Q := fun σ H R e st k =>
  h σ H _ e st fun v H1 s m1 x1 so1 rs ⟨b, ds, es, q⟩ => by
    subst es
    exact ⟨dom m1, b, ds, rs, fun J io => k J H1 ds m1 x1 so1 io q⟩
theorem wi_Z {st : Bool} {ta : TA} {Q : List D → Sto → Prop} (h : WA K r m ta fun ss m1 => ∃ b1 b2 ds es, ss = [.val (sqD b1 ds), .val (sqD b2 es)] ∧ (st = true → ds.length = es.length) ∧ Q (zipD ds es) m1) : WI K r m (iZ K st ta) Q := fun σ H R e so k =>
  h σ H _ e so fun vs H1 ss m1 x1 so1 rs ⟨b1, b2, ds, es, ess, hst, q⟩ => by
    subst ess
    cases rs with
    | cons r1 rs =>
      cases rs with
      | cons r2 rs =>
        cases rs
        exact ⟨dom m1, _, _, b1, b2, ds, es, rfl, r1, r2, hst, fun J io => k J H1 _ m1 x1 so1 io q⟩
theorem itr_ok {M : Dm} {H : Hp} (lo : Int) (n : Nat) : ItOk K M (Itr lo n) H ((List.range n).map fun (i : Nat) => D.int (lo + (i : Int))) := by
  refine ⟨fun i M' H' x hi => ?_, fun i M' H' v H2 d lv x hd hy => ?_, fun M' H' x => ?_⟩
  · show i < n
    rw [List.length_map, List.length_range] at hi
    exact hi
  · obtain ⟨rfl, rfl⟩ := hy
    rw [List.getElem?_map] at hd
    cases e : (List.range n)[i]? with
    | none => rw [e] at hd; cases hd
    | some j =>
      rw [e] at hd
      have ej : i = j := by
        obtain ⟨h1, h2⟩ := List.getElem?_eq_some_iff.mp e
        rw [List.getElem_range] at h2
        exact h2
      subst ej
      cases hd
      exact ⟨Xt.refl, fun _ _ => rfl, .int _⟩
  · show n ≤ ((List.range n).map fun (i : Nat) => D.int (lo + (i : Int))).length
    rw [List.length_map, List.length_range]
    exact Nat.le_refl _
def rngD (lo : Int) (n : Nat) : List D := (List.range n).map fun (i : Nat) => D.int (lo + (i : Int))
theorem wi_rng1 {ta : TA} {Q : List D → Sto → Prop} (h : WA K r m ta fun ss m1 => ∃ j : Int, ss = [.val (.int j)] ∧ -(2 ^ 62) ≤ j ∧ j < 2 ^ 62 ∧ Q (rngD 0 j.toNat) m1) : WI K r m (iRng1 ta) Q := fun σ H R e so k =>
  h σ H _ e so fun vs H1 ss m1 x1 so1 rs ⟨j, es, h1, h2, q⟩ => by
    subst es
    cases rs with
    | cons r1 rs =>
      cases rs
      have r1' : Rp K (hid (dom m1) H1) _ (.int j) := r1
      cases r1'
      exact ⟨j, rfl, h1, h2, k _ H1 _ m1 x1 so1 (itr_ok 0 j.toNat) q⟩
theorem wi_rng2 {ta : TA} {Q : List D → Sto → Prop} (h : WA K r m ta fun ss m1 => ∃ i j : Int, ss = [.val (.int i), .val (.int j)] ∧ (-(2 ^ 62) ≤ i ∧ i < 2 ^ 62 ∧ -(2 ^ 62) ≤ j ∧ j < 2 ^ 62) ∧ Q (rngD i (j - i).toNat) m1) : WI K r m (iRng2 ta) Q := fun σ H R e so k =>
  h σ H _ e so fun vs H1 ss m1 x1 so1 rs ⟨i, j, es, hb, q⟩ => by
    subst es
    cases rs with
    | cons r1 rs =>
      cases rs with
      | cons r2 rs =>
        cases rs
        have r1' : Rp K (hid (dom m1) H1) _ (.int i) := r1
        have r2' : Rp K (hid (dom m1) H1) _ (.int j) := r2
        cases r1'
        cases r2'
        exact ⟨i, j, rfl, hb, k _ H1 _ m1 x1 so1 (itr_ok i (j - i).toNat) q⟩
theorem we_bits {to : TE} {Q : Sv → Sto → Prop} (h : WE K r m to fun s m1 => ∃ i, s = .val (.int i) ∧ Q (.val (.int (Builtin.Int.intBits i : Nat))) m1) : WE K r m (tBits to) Q := fun σ H QV e so k =>
  h σ H _ e so fun v H1 s m1 x1 so1 rs ⟨i, es, q⟩ => by
    subst es
    have r1' : Rp K (hid (dom m1) H1) _ (.int i) := rs
    cases r1'
    exact ⟨i, rfl, k _ H1 (.val (.int (Builtin.Int.intBits i : Nat))) m1 x1 so1 (show Rp _ _ _ _ from .int _) q⟩
end

/-! ### calls -/
inductive RLen : List D → Rs → Prop
  | lst (ds : List D) : RLen [.lst ds] (.v (.int ds.length))
  | tup (ds : List D) : RLen [.tup ds] (.v (.int ds.length))
  | scr (ns : List Int) : RLen [.scr ns] (.v (.int ns.length))
  | str {z : Str} (h : z.length ≤ szD) : RLen [.str z] (.v (.int z.length))
inductive RTup : List D → Rs → Prop
  | lst (ds : List D) : RTup [.lst ds] (.v (.tup ds))
  | tup (ds : List D) : RTup [.tup ds] (.v (.tup ds))
inductive RLst : List D → Rs → Prop
  | lst (ds : List D) : RLst [.lst ds] (.l ds)
  | tup (ds : List D) : RLst [.tup ds] (.l ds)
inductive RInt : List D → Rs → Prop
  | int (i : Int) : RInt [.int i] (.v (.int i))
  | bl (b : Bool) : RInt [.bl b] (.v (.int (if b then 1 else 0)))
inductive RMax : List D → Rs → Prop
  | int (i j : Int) : RMax [.int i, .int j] (.v (.int (if j > i then j else i)))
inductive RMin : List D → Rs → Prop
  | int (i j : Int) : RMin [.int i, .int j] (.v (.int (if j < i then j else i)))
inductive RSum : List D → Rs → Prop
  | lst (ns : List Int) : RSum [.lst (ns.map .int)] (.v (.int ns.sum))
section
variable {X : Cx}
theorem rpWs1 {K : PySem.W.Frag} {M : Dm} {H : Hp} {xs : List V} {d : D} (h : RpWs K M H xs [d]) : ∃ x, xs = [x] ∧ RpW K M H x d := by
  cases h with
  | cons h1 h2 => cases h2; exact ⟨_, rfl, h1⟩
theorem rpWs2 {K : PySem.W.Frag} {M : Dm} {H : Hp} {xs : List V} {d e : D} (h : RpWs K M H xs [d, e]) : ∃ x y, xs = [x, y] ∧ RpW K M H x d ∧ RpW K M H y e := by
  cases h with
  | cons h1 h2 => cases h2 with
    | cons h2 h3 => cases h3; exact ⟨_, _, rfl, h1, h2⟩
theorem call_lenD : CallR X (.builtin "len") (rDN X.K RLen) := by
  intro pins s σ H xs us Q I r ⟨M, ds, c, lv, hs, hf, k⟩
  cases hf with
  | lst ds =>
    obtain ⟨x, rfl, h⟩ := rpWs1 hs
    obtain ⟨a, ys, rfl, e, ra⟩ := h.lst
    exact call_len_seq pins s σ H _ us Q I r ⟨a, ys, rfl, .inl (.inl (.inl e)), by rw [ra.length]; exact k.v (.int _)⟩
  | tup ds =>
    obtain ⟨x, rfl, h⟩ := rpWs1 hs
    obtain ⟨a, ys, rfl, e, ra⟩ := h.tup
    exact call_len_seq pins s σ H _ us Q I r ⟨a, ys, rfl, .inr (sqT_hid e), by rw [ra.length]; exact k.v (.int _)⟩
  | scr ns =>
    obtain ⟨x, rfl, h⟩ := rpWs1 hs
    cases h.rp with
    | scr e => exact call_len_seq pins s σ H _ us Q I r ⟨_, _, rfl, .inl e, by rw [List.length_map]; exact k.v (.int _)⟩
  | str hz =>
    obtain ⟨x, rfl, h⟩ := rpWs1 hs
    cases h.str
    exact call_len_str pins s σ H _ us Q I r ⟨_, rfl, szD_line hz, k.v (.int _)⟩
theorem call_tupD : CallR X (.type "tuple") (rDN X.K RTup) := by
  intro pins s σ H xs us Q I r ⟨M, ds, c, lv, hs, hf, k⟩
  cases hf with
  | lst ds =>
    obtain ⟨x, rfl, h⟩ := rpWs1 hs
    obtain ⟨a, ys, rfl, e, ra⟩ := h.lst
    exact call_tuple_of pins s σ H _ us Q I r ⟨a, ys, rfl, .inl ⟨.inl (.inl e), fun l hl => k.tup lv hl ra⟩⟩
  | tup ds =>
    obtain ⟨x, rfl, h⟩ := rpWs1 hs
    obtain ⟨a, ys, rfl, e, ra⟩ := h.tup
    exact call_tuple_of pins s σ H _ us Q I r ⟨a, ys, rfl, .inr ⟨sqT_hid e, k.v (.tup e ra)⟩⟩
theorem call_lstD : CallR X (.type "list") (rDN X.K RLst) := by
  intro pins s σ H xs us Q I r ⟨M, ds, c, lv, hs, hf, k⟩
  cases hf with
  | lst ds =>
    obtain ⟨x, rfl, h⟩ := rpWs1 hs
    obtain ⟨a, ys, rfl, e, ra⟩ := h.lst
    exact call_list_of pins s σ H _ us Q I r ⟨a, ys, rfl, .inl (.inl (.inl e)), fun l hl => k l _ hl ra⟩
  | tup ds =>
    obtain ⟨x, rfl, h⟩ := rpWs1 hs
    obtain ⟨a, ys, rfl, e, ra⟩ := h.tup
    exact call_list_of pins s σ H _ us Q I r ⟨a, ys, rfl, .inr (sqT_hid e), fun l hl => k l _ hl ra⟩
theorem call_intD : CallR X (.type "int") (rDN X.K RInt) := by
  intro pins s σ H xs us Q I r ⟨M, ds, c, lv, hs, hf, k⟩
  cases hf with
  | int i =>
    obtain ⟨x, rfl, h⟩ := rpWs1 hs
    cases h.int
    exact call_int1 pins s σ H _ us Q I r (.inl ⟨i, rfl, k.v (.int _)⟩)
  | bl b =>
    obtain ⟨x, rfl, h⟩ := rpWs1 hs
    cases h.bl
    exact call_int1 pins s σ H _ us Q I r (.inr ⟨b, rfl, k.v (.int _)⟩)
theorem call_maxD (hc : X.calm = true) : CallR X (.builtin "max") (rDN X.K RMax) := by
  intro pins s σ H xs us Q I r ⟨M, ds, c, lv, hs, hf, k⟩
  cases hf with
  | int i j =>
    obtain ⟨x, y, rfl, h1, h2⟩ := rpWs2 hs
    cases h1.int
    cases h2.int
    exact call_max2 hc pins s σ H _ us Q I r ⟨i, j, rfl, k.v (.int _)⟩
theorem call_minD (hc : X.calm = true) : CallR X (.builtin "min") (rDN X.K RMin) := by
  intro pins s σ H xs us Q I r ⟨M, ds, c, lv, hs, hf, k⟩
  cases hf with
  | int i j =>
    obtain ⟨x, y, rfl, h1, h2⟩ := rpWs2 hs
    cases h1.int
    cases h2.int
    exact call_min2 hc pins s σ H _ us Q I r ⟨i, j, rfl, k.v (.int _)⟩
theorem call_sumD (hc : X.calm = true) : CallR X (.builtin "sum") (rDN X.K RSum) := by
  intro pins s σ H xs us Q I r ⟨M, ds, c, lv, hs, hf, k⟩
  cases hf with
  | lst ns =>
    obtain ⟨x, rfl, h⟩ := rpWs1 hs
    obtain ⟨a, ys, rfl, e, ra⟩ := h.lst
    have ey := ra.ints
    subst ey
    exact cr_sum hc pins s σ H _ us Q I r ⟨a, ns, rfl, .inl (.inl e), k.v (.int _)⟩
end
/-! isinstance -/
def D.tn : D → Option String
  | .non => some "NoneType"
  | .bl _ => some "bool"
  | .int _ => some "int"
  | .str _ => some "str"
  | .lst _ => some "list"
  | .tup _ => some "tuple"
  | .scr _ => some "list"
  | _ => none
theorem tyX_of {K : PySem.W.Frag} {M : Dm} {H : Hp} {v : V} {d : D} {t : String} (h : RpW K M H v d) (e : d.tn = some t) : TyX K H v (.type t) := by
  cases h.rp with
  | non => cases e; exact .base .non
  | bl b => cases e; exact .base (.bl b)
  | int i => cases e; exact .base (.int i)
  | str x => cases e; exact .base (.str x)
  | ty n => cases e
  | lst q _ => cases e; exact .base (.lst q)
  | tup q _ =>
    cases e
    rcases q with (q | ⟨o, q⟩) | ⟨o, its, n, q, hc, _⟩
    · exact .base (.tup q)
    · exact .fTuple q
    · exact .kTuple q hc
  | scr q =>
    cases e
    rcases q with (q | ⟨o, q⟩) | ⟨o, its, n, q, hc, _⟩
    · exact .base (.lst q)
    · exact .base (.frz q)
    · exact .kList q hc
  | ins q _ => cases e
inductive KAny (t : String) : List String → Bool → Prop
  | nil : KAny t [] false
  | yes {n : String} {ns : List String} (h : kitB t n = some true) : KAny t (n :: ns) true
  | no {n : String} {ns : List String} {b : Bool} (h : kitB t n = some false) (k : KAny t ns b) : KAny t (n :: ns) b
theorem KAny.kit {K : PySem.W.Frag} {t : String} : ∀ {ns : List String} {b : Bool}, KAny t ns b → PySem.W.kitAny K (.type t) (ns.map Value.type) = some b
  | _, _, .nil => kitAny_nil
  | _, _, .yes h => kitAny_cons (kit_ty h) (fun q => by cases q) (fun _ => rfl)
  | _, _, .no h k => kitAny_cons (kit_ty h) (fun _ => k.kit) (fun q => by cases q)
inductive RIsi : List D → Rs → Prop
  | one {d : D} {n t : String} {b : Bool} (h : d.tn = some t) (k : kitB t n = some b) : RIsi [d, .ty n] (.v (.bl b))
  | many {d : D} {ns : List String} {t : String} {b : Bool} (h : d.tn = some t) (k : KAny t ns b) : RIsi [d, .tup (ns.map .ty)] (.v (.bl b))
theorem clsV_of {K : PySem.W.Frag} {H : Hp} : ∀ {ns : List String} {xs : List V}, RpA K H xs (ns.map D.ty) → Paired ClsV xs (ns.map Value.type)
  | [], _, .nil => .nil
  | n :: ns, _, .cons h t => by
    cases h
    exact .cons (.ty n) (clsV_of t)
section
variable {X : Cx}
theorem call_isiD : CallR X (.builtin "isinstance") (rDN X.K RIsi) := by
  intro pins s σ H xs us Q I r ⟨M, ds, c, lv, hs, hf, k⟩
  cases hf with
  | one h kb =>
    obtain ⟨x, y, rfl, h1, h2⟩ := rpWs2 hs
    cases h2.rp
    exact call_isi pins s σ H _ us Q I r ⟨x, _, _, _, _, rfl, .ty _, tyX_of h1 h, kit_ty kb, k.v (.bl _)⟩
  | many h kb =>
    obtain ⟨x, y, rfl, h1, h2⟩ := rpWs2 hs
    obtain ⟨a, ys, rfl, e, ra⟩ := h2.tup
    obtain ⟨u1, u2, rfl, r1, r2⟩ := vals2 r
    cases (show u2 = Value.ref a from r2)
    obtain ⟨P, Z, p, hx⟩ := kit_of I r1 (tyX_of h1 h)
    obtain ⟨its, rv, ⟨o, g1, g2, n, g3⟩, _⟩ := I.tuple (sqT_hid e)
    have e3 := ClsV.all (clsV_of ra) rv
    subst e3
    obtain ⟨oc, od, dt, sl⟩ := o
    simp only at g2 g3
    subst g2 g3
    exact PySem.W.kia_tup Z I.kIn p g1 kb.kit hx fun tk => ⟨.bl _, H, I.tok tk, rfl, k.v (.bl _)⟩
end
end Cr

/-! Cr6: promises of defs that run where no repr is under way (FnG); repr and str of data; a law's end over such promises. -/
namespace Cr
open PySem PySem.Spec PyProof.Rows L2

/-- a def's promise, where no repr is under way; nothing is raised out of it -/
structure FnG (P : Program) (w : World) (K : PySem.W.Frag) (mg : Str → Option Value) (base : Heap) (k : Nat) (f : Addr) (fd : FuncData) (ps : List Str) (sp : Sp) : Prop where
  len : ∀ vs H Q E, sp vs H Q E → vs.length = ps.length
  run : ∀ (A : Around) (outer : List Env) (s : Shared) (H : Hp) (args : Args) (us : List Value) (vs : List V) (Q : VK), A.guards = some [] → Room k A → Env0 P w K mg base A outer s H → BindsTo s fd args (ps.zip us) → Vals vs us → sp vs H Q E0 →
    codeAny (model P w) A (.call (.ref f) args) (CR CX0 outer P w H s Q E0) s

section
variable {P : Program} {w : World} {K : PySem.W.Frag} {mg : Str → Option Value} {base : Heap} {x qual : Str} {params : Arguments} {body : List Stmt} {scope : Scope} {dvs : List V} {kws : List (Str × V)} {f : Addr} {fd : FuncData}
/-- the rule for a def, by its body -/
theorem okG {N ps : List Str} {k : Nat} {sp : Sp} (F : FunD K x qual params body scope dvs kws f fd) (S : FnScope N ps scope) (len : ∀ vs H Q E, sp vs H Q E → vs.length = ps.length)
    (hbody : ∀ (cdv : Value) (A : Around) (outer : List Env) (s : Shared) (H : Hp) (vs : List V) (Q : VK), A.guards = some [] → Room k (A.deeper (envOfC qual scope s.heap.objs.size f cdv)) → sp vs H Q E0 →
      ∃ t, PSs (cxOf CX0 P w K mg base N qual scope f cdv A outer s H E0).nox body t ∧ t { nx := fun _ H' => Q .non H', rt := Q } (L2.start N vs) H) : FnG P w K mg base (k + 1) f fd ps sp := by
  obtain ⟨oc, od, dV, kV, doc, pm, an, cdv, ct, osl, e, lk, hcd, _, _⟩ := F.ex
  subst e
  refine ⟨len, fun A outer s H args us vs Q hg hr e0 hb r hsp => ?_⟩
  have old : ∀ b o, base.get? b = some o → s.heap.get? b = some o := fun b o e => (e0.bs b o e).1
  have KX : K.In s.heap := e0.mod.kin.keeps old
  have lim : s.heap.NoLimit := e0.mod.nolimit.keeps old
  have hl := len _ _ _ _ hsp
  have hkind : ∀ y ∈ ps.zip us, scope.names.lookup y.1 = some .local ∨ (scope.names.lookup y.1 = some .cell ∧ ((cellsFrom (s.heap.objs.size + 1) scope.names []).lookup y.1).isSome = true) := by
    rintro ⟨n, v⟩ hy
    exact (S.par n (List.of_mem_zip hy).1).imp id fun q => ⟨q, PySem.W.cellsFrom_some _ _ _ (.inl q)⟩
  refine codeAny_call_function hr.depth (KX _ _ lk) rfl S.co S.gen rfl (PySem.W.codeRec_of KX hcd) (hb _ _ _ _ (wpAny_newFunctionEnv_cells S.kind hkind fun env he s1 x => ?_))
  subst he
  obtain ⟨t, ht, hq⟩ := hbody cdv A outer s H vs Q hg (hr.deeper _) hsp
  have I := inv_start (CX := CX0) (E := E0) S hr.hd e0 hl r x
  refine ⟨lim.keeps x.toInCall.keep, codeAny_func (wpAny_mono (ht.nox.run [] s1 _ H _ I hq) (fun fl s' hs => ?_) fun _ _ z => z)⟩
  cases fl with
  | ret u =>
    obtain ⟨v, σ', H', J, rv, q⟩ := hs
    exact ⟨v, H', J.os, J.bare, J.base, J.hok, rv, q⟩
  | next =>
    obtain ⟨σ', H', J, q⟩ := hs
    exact ⟨V.non, H', J.os, J.bare, J.base, J.hok, rfl, q⟩
  | brk => exact hs.elim fun _ z => z.elim fun _ z => z.2.elim
  | cont => exact hs.elim fun _ z => z.elim fun _ z => z.2.elim
end

section
variable {X : Cx} {k : Nat} {f : Addr} {fd : FuncData} {ps : List Str} {sp : Sp} {x : Str} {p pos : Pos} {e : Expr} {es : List Expr} {t : TA}
theorem run_G {pins : List (Addr × Obj)} {σ : L2.St} {H : Hp} {s : Shared} {Q : VK} {us : List Value} {vs : List V} (F : FnG X.prog X.w X.K X.mg X.base k f fd ps sp) (hgd : X.A.guards = some []) (hr : Room k X.A) (hb : Binds X.K fd ps [])
    (I : L2.Inv X pins σ H s) (r : Vals vs us) (h : sp vs H Q E0) : wpAny (model X.prog X.w) X.A (call (.ref f) us) (EP X pins σ Q) X.xe s := by
  have hl : us.length = ps.length := by rw [← r.length]; exact F.len _ _ _ _ h
  have hbs := hb s us I.kIn (by rw [List.append_nil]; exact hl)
  rw [List.append_nil] at hbs
  refine wpAny_call (codeAny_mono (F.run X.A X.stack s H ⟨us, []⟩ us vs Q hgd hr I.env0 hbs r h) fun r s' hq => ?_)
  match r, hq with
  | .ok (.ret u), hq => exact I.after hq
/-- f(e, ..) -/
theorem pe_G (F : FnG X.prog X.w X.K X.mg X.base k f fd ps sp) (hgd : X.A.guards = some []) (hr : Room k X.A) (hg : Gl X x) (hm : X.mg x = some (.ref f)) (hk : PySem.W.keepIn X.K (.ref f) = true) (hb : Binds X.K fd ps [])
    (ha : PA X (e :: es) t) (hdb : (x == ("__debug__" : Str)) = false := by decide) (he : starEach (e :: es) X.env = (false, eval e X.env) :: starEach es X.env := by rfl) (hpl : (backTo pos (starEach es X.env)).any (·.1) = false := by rfl) :
    PE X (.Call (.Name x p) (e :: es) [] pos) (tCall sp [] E0 t) :=
  ⟨fun pins s σ H Q I h => wpAny_Call_Name_kw (ld_glob I hg hm (PySem.W.callWith_K (h₀ := X.base) I.ok.mod.kin hk (thn (ha.run pos pins s σ H _ I h) fun us s1 ⟨vs, H1, I1, r, q⟩ =>
    ⟨I1.kIn, run_G F hgd hr hb I1 r (by have q2 : sp (vs ++ []) H1 Q E0 := q; rw [List.append_nil] at q2; exact q2)⟩) he hpl) hdb)⟩
/-- f() -/
theorem pe_G0 (F : FnG X.prog X.w X.K X.mg X.base k f fd ps sp) (hgd : X.A.guards = some []) (hr : Room k X.A) (hg : Gl X x) (hm : X.mg x = some (.ref f)) (hk : PySem.W.keepIn X.K (.ref f) = true) (hb : Binds X.K fd ps [])
    (hdb : (x == ("__debug__" : Str)) = false := by decide) : PE X (.Call (.Name x p) [] [] pos) (tCall sp [] E0 tNil) :=
  ⟨fun pins s σ H Q I h => wpAny_Call_Name_kw (ld_glob I hg hm (PySem.W.callWith_K0 I.kIn hk (run_G (us := []) F hgd hr hb I .nil h)) hdb)⟩
end

/-! ### repr and str of data -/
inductive RRepr : List D → Rs → Prop
  | mk {d : D} {p : PyData} (h : d.py = some p) (hs : p.showable = true) (hd : p.depth ≤ 60) (hl : p.shown.length ≤ sizeLine) : RRepr [d] (.v (.str p.shown))
mutual
theorem py_nodict : ∀ {d : D} {p : PyData}, d.py = some p → p.hasDict = false
  | .non, _, e => by cases e; simp [PyData.hasDict]
  | .bl _, _, e => by cases e; simp [PyData.hasDict]
  | .int _, _, e => by cases e; simp [PyData.hasDict]
  | .str _, _, e => by cases e; simp [PyData.hasDict]
  | .lst xs, p, e => by
    have e2 : (D.pyA xs).map PyData.list = some p := by simpa only [D.py] using e
    cases z : D.pyA xs with
    | none => rw [z] at e2; cases e2
    | some ps => rw [z] at e2; cases e2; simp only [PyData.hasDict]; exact pyA_nodict z
  | .tup xs, p, e => by
    have e2 : (D.pyA xs).map PyData.tuple = some p := by simpa only [D.py] using e
    cases z : D.pyA xs with
    | none => rw [z] at e2; cases e2
    | some ps => rw [z] at e2; cases e2; simp only [PyData.hasDict]; exact pyA_nodict z
  | .ins _ _, _, e => by simp [D.py] at e
  | .scr _, _, e => by simp [D.py] at e
  | .ty _, _, e => by simp [D.py] at e
theorem pyA_nodict : ∀ {ds : List D} {ps : List PyData}, D.pyA ds = some ps → PyData.hasDictAll ps = false
  | [], _, e => by simp [D.pyA] at e; subst e; simp [PyData.hasDictAll]
  | d :: ds, _, e => by
    cases z : D.py d with
    | none => simp [D.pyA, z] at e
    | some p =>
      cases z2 : D.pyA ds with
      | none => simp [D.pyA, z, z2] at e
      | some ps =>
        simp [D.pyA, z, z2] at e
        subst e
        simp [PyData.hasDictAll, py_nodict z, pyA_nodict z2]
end
section
variable {X : Cx}
theorem call_reprD (hg : X.A.guards = some []) (hu : X.A.units + 64 < cLine) : CallR X (.builtin "repr") (rDN X.K RRepr) := by
  intro pins s σ H xs us Q I r ⟨M, ds, c, lv, hs, hf, k⟩
  cases hf with
  | @mk d p h hsh hd hl =>
    obtain ⟨x, rfl, hx⟩ := rpWs1 hs
    obtain ⟨u, rfl, rx⟩ := vals1 r
    have dp := hx.rp.dp h
    cases d with
    | non => cases h; cases hx.non; cases rx; simp only [PyData.shown] at k; exact PySem.P.repr_of_none ⟨.str _, H, I.tok _, ⟨_, rfl⟩, k.v (.str _)⟩
    | bl b => cases h; cases hx.bl; cases rx; simp only [PyData.shown] at k; exact PySem.P.repr_of_bool ⟨.str _, H, I.tok _, ⟨_, rfl⟩, k.v (.str _)⟩
    | int i =>
      cases h; cases hx.int; obtain ⟨t, rfl⟩ := rx
      simp only [PyData.shown] at k
      exact PySem.P.repr_of_int (by simpa [PyData.showable] using hsh) ⟨.str _, H, I.tok _, ⟨_, rfl⟩, k.v (.str _)⟩
    | str z =>
      cases h; cases hx.str; obtain ⟨t, rfl⟩ := rx
      simp only [PyData.shown] at k hl
      exact PySem.P.repr_of_str ⟨.str _, H, I.tok _, ⟨_, rfl⟩, k.v (.str _)⟩ hl
    | lst ds =>
      obtain ⟨as, rd⟩ := Dp.reads I p x u dp rx
      obtain ⟨a, ys, rfl, _, _⟩ := hx.lst
      cases rx
      exact repr_of_reads' rd hsh (PyData.noDict_hsm (py_nodict h)) hg (by omega) (fun _ _ e => e) (fun h' t tk hk => ⟨.str _, H, I.kept (t' := tk) hk, ⟨_, rfl⟩, k.v (.str _)⟩) hl
    | tup ds =>
      obtain ⟨as, rd⟩ := Dp.reads I p x u dp rx
      obtain ⟨a, ys, rfl, _, _⟩ := hx.tup
      cases rx
      exact repr_of_reads' rd hsh (PyData.noDict_hsm (py_nodict h)) hg (by omega) (fun _ _ e => e) (fun h' t tk hk => ⟨.str _, H, I.kept (t' := tk) hk, ⟨_, rfl⟩, k.v (.str _)⟩) hl
    | ins _ _ => simp [D.py] at h
    | scr _ => simp [D.py] at h
    | ty _ => simp [D.py] at h
end

inductive RStr : List D → Rs → Prop
  | str (z : Str) : RStr [.str z] (.v (.str z))
  | mk {d : D} {p : PyData} (h : d.py = some p) (hn : ∀ z, d ≠ .str z) (hs : p.showable = true) (hd : p.depth ≤ 60) (hl : p.shown.length ≤ sizeLine) : RStr [d] (.v (.str p.shown))
section
variable {X : Cx}
theorem call_strD (hg : X.A.guards = some []) (hu : X.A.units + 64 < cLine) : CallR X (.type "str") (rDN X.K RStr) := by
  intro pins s σ H xs us Q I r ⟨M, ds, c, lv, hs, hf, k⟩
  cases hf with
  | str z =>
    obtain ⟨x, rfl, hx⟩ := rpWs1 hs
    obtain ⟨u, rfl, rx⟩ := vals1 r
    cases hx.str
    obtain ⟨t, rfl⟩ := rx
    exact PySem.P.str_of_str ⟨.str _, H, I, ⟨_, rfl⟩, k.v (.str _)⟩
  | @mk d p h hn hsh hd hl =>
    obtain ⟨x, rfl, hx⟩ := rpWs1 hs
    obtain ⟨u, rfl, rx⟩ := vals1 r
    have dp := hx.rp.dp h
    cases d with
    | non => cases h; cases hx.non; cases rx; simp only [PyData.shown] at k; exact PySem.P.str_of_none ⟨.str _, H, I.tok _, ⟨_, rfl⟩, k.v (.str _)⟩
    | bl b => cases h; cases hx.bl; cases rx; simp only [PyData.shown] at k; exact PySem.P.str_of_bool ⟨.str _, H, I.tok _, ⟨_, rfl⟩, k.v (.str _)⟩
    | int i =>
      cases h; cases hx.int; obtain ⟨t, rfl⟩ := rx
      simp only [PyData.shown] at k
      exact PySem.P.str_of_int (by simpa [PyData.showable] using hsh) ⟨.str _, H, I.tok _, ⟨_, rfl⟩, k.v (.str _)⟩
    | str z => exact absurd rfl (hn z)
    | lst ds =>
      obtain ⟨as, rd⟩ := Dp.reads I p x u dp rx
      obtain ⟨a, ys, rfl, _, _⟩ := hx.lst
      cases rx
      exact str_of_reads rd hsh (PyData.noDict_hsm (py_nodict h)) hg (by omega) (fun _ _ e => e) (fun h' t tk hk => ⟨.str _, H, I.kept (t' := tk) hk, ⟨_, rfl⟩, k.v (.str _)⟩) hl
    | tup ds =>
      obtain ⟨as, rd⟩ := Dp.reads I p x u dp rx
      obtain ⟨a, ys, rfl, _, _⟩ := hx.tup
      cases rx
      exact str_of_reads rd hsh (PyData.noDict_hsm (py_nodict h)) hg (by omega) (fun _ _ e => e) (fun h' t tk hk => ⟨.str _, H, I.kept (t' := tk) hk, ⟨_, rfl⟩, k.v (.str _)⟩) hl
    | ins _ _ => simp [D.py] at h
    | scr _ => simp [D.py] at h
    | ty _ => simp [D.py] at h
end
/-! ### a law's end -/
section
variable {P : Program} {w : World} {K : PySem.W.Frag} {mg mb : Str → Option Value} {k : Nat} {fa a : Addr} {fd : FuncData} {x : Str} {sp : Sp} {s1 : Shared} {vs : List Value} {ns : List Int}
/-- the abstract heap at the law's entry: the script alone, locked, where the written part does not hold it -/
def entryH (K : PySem.W.Frag) (a : Addr) (o : Obj) (ns : List Int) : Hp := fun b => if b = a ∧ K.lookup a = none then some (.frz o (.lst (ns.map V.int))) else none
theorem entryH_some {o : Obj} {b : Addr} {u : HO} (h : entryH K a o ns b = some u) : b = a ∧ K.lookup a = none ∧ u = .frz o (.lst (ns.map V.int)) := by
  unfold entryH at h
  by_cases q : b = a ∧ K.lookup a = none
  · rw [if_pos q] at h; exact ⟨q.1, q.2, (Option.some.inj h).symm⟩
  · rw [if_neg q] at h; cases h
theorem law_G (KX : K.In s1.heap) (hns : s1.heap.Ns mainGlobals mg) (hb : s1.heap.Ns builtinsNs mb) (hbb : ∀ x : Str, x ≠ "__name__" → mb x = bootBuiltins x) (hlim : s1.heap.NoLimit) (hg : s1.gens = #[])
    (ha : s1.heap.get? a = some { cls := .type "list", data := .seq vs.toArray }) (hi : IntsAre vs ns) (hl : ns.length ≤ sizeLine) (hr : Room k callerA)
    (F : ∀ base : Heap, K.In base → base.Ns mainGlobals mg → FnG P w K mg base k fa fd [x] sp) (hbind : ∀ (s : Shared) (u : Value), BindsTo s fd ⟨[u], []⟩ [(x, u)])
    (hsp : ∀ H : Hp, SqL K H a (ns.map V.int) → sp [.ref a] H (fun v _ => v = .bl true) E0) :
    codeAny (model P w) callerA (.call (.ref fa) ⟨[.ref a], []⟩) (fun r s' => r = .ok (.ret (.bool true)) ∧ OldK s1.heap s'.heap ∧ s'.os = s1.os ∧ AllBare s'.gens) s1 := by
  have rv := vals_ints hi
  generalize hob : ({ cls := .type "list", data := .seq vs.toArray } : Obj) = ob at ha
  have hdat : ob.data = .seq vs.toArray 0 := by rw [← hob]
  generalize hH : entryH K a ob ns = H
  have at_ : ∀ {b : Addr} {u : HO}, H b = some u → b = a ∧ K.lookup a = none ∧ u = .frz ob (.lst (ns.map V.int)) := fun {b u} e => entryH_some (by rw [hH]; exact e)
  have hS : SqL K H a (ns.map V.int) := by
    cases q : K.lookup a with
    | none => exact .inl (.inr ⟨ob, by rw [← hH]; exact if_pos ⟨rfl, q⟩⟩)
    | some o =>
      have e := KX a o q
      rw [ha] at e
      cases e
      subst hob
      exact .inr ⟨_, vs.toArray, _, q, rfl, rfl, rfl, by rw [List.size_toArray, hi.length]; exact hl, by simpa using rv⟩
  have hok : HOk P w H s1.heap := fun b u e => by
    obtain ⟨rfl, _, rfl⟩ := at_ e
    subst hob
    exact ⟨ha, by rw [List.length_map]; exact hl, vs, _, rv, ha⟩
  -- what the base holds
  have keepB : ∀ {b : Addr} {o : Obj}, s1.heap.get? b = some o → H b = none → (hidT s1.heap H).get? b = some o := fun e n => hidT_get e n
  have notA : ∀ {b : Addr} {o : Obj} {es : Array DictEntry} {ep : Nat}, s1.heap.get? b = some o → o.data = .dict es ep → H b = none := fun {b o es ep} e d => by
    cases q : H b with
    | none => rfl
    | some u =>
      obtain ⟨rfl, _, _⟩ := at_ q
      rw [ha] at e
      cases e
      rw [hdat] at d
      cases d
  have nsB : ∀ {b : Addr} {m : Str → Option Value}, s1.heap.Ns b m → (hidT s1.heap H).Ns b m := by
    rintro b m ⟨o, es, ep, e, d, r⟩
    exact ⟨o, es, ep, keepB e (notA e d), d, r⟩
  have KB : K.In (hidT s1.heap H) := fun b o e => keepB (KX b o e) (by
    cases q : H b with
    | none => rfl
    | some u =>
      obtain ⟨rfl, n, _⟩ := at_ q
      rw [n] at e
      cases e)
  have e0 : Env0 P w K mg (hidT s1.heap H) callerA [] s1 H :=
    ⟨rfl, ⟨KB, nsB hns, ⟨mb, nsB hb, hbb⟩, hlim.elim fun mc z => ⟨mc, nsB z.1, z.2⟩⟩, fun b o e => of_hidT e, Nat.le_of_eq (hidT_size _ _), trivial, fun b z => absurd (show b ∈ ([] : List Addr) from z) List.not_mem_nil, hok, .of_eq hg⟩
  refine codeAny_mono ((F _ KB (nsB hns)).run callerA [] s1 H ⟨[.ref a], []⟩ [.ref a] [.ref a] _ rfl hr e0 (hbind s1 (.ref a)) (.cons rfl .nil) (hsp H hS)) fun r s' h => ?_
  match r, h with
  | .ok (.ret u), ⟨v, H', os, bare, un, hok', r', q⟩ =>
    have q' : v = .bl true := q
    subst q'
    cases r'
    refine ⟨rfl, OldK.of_keep fun b o e => ?_, os, bare⟩
    cases q : H b with
    | none => exact un.keep b o e q (fun z => absurd (show b ∈ ([] : List Addr) from z) List.not_mem_nil) List.not_mem_nil
    | some u =>
      obtain ⟨rfl, _, rfl⟩ := at_ q
      obtain ⟨e2, _⟩ := hok' b _ (un.frzs b ob _ q)
      rw [ha] at e
      cases e
      exact e2
end
theorem walk_G {l : PySem.W.OpenLaw} {n k : Nat} {q : Program} {loose : List Str} {XP : (Str → Option Value) → Heap → Prop} {YP : World → Heap → Prop} {d : DefRec} {x : Str}
    (hn : l.most = some n) (hn2 : n ≤ sizeLine) (hdf : d.params.defaults = []) (hr : Room k callerA)
    (F : ∀ (w : World) (mg : Str → Option Value) (fa : Addr) (h : Heap), YP w h → h.Ns mainGlobals mg → mg d.name = some (.ref fa) →
      ∃ (K : PySem.W.Frag) (fd : FuncData) (sp : Sp), K.In h ∧ (∀ (s : Shared) (u : Value), BindsTo s fd ⟨[u], []⟩ [(x, u)]) ∧
        (∀ (H : Hp) (a : Addr) (ns : List Int), ns.length ≤ n → (∀ z ∈ ns, Builtin.Int.intBits z ≤ 1048576) → SqL K H a (ns.map V.int) → sp [.ref a] H (fun v _ => v = .bl true) E0) ∧
        ∀ base : Heap, K.In base → base.Ns mainGlobals mg → FnG l.prog w K mg base k fa fd [x] sp) :
    PySem.W.WalkO q loose XP YP l.row.toRowW d [] (fun f vs => PySem.call f vs) := by
  refine Att.attach_callB hn hdf fun w s0 s1 mg mb fa o pm cd doc a vs ns G Y ho hd hcd hmg hobj hints hlen hbits hg => ?_
  obtain ⟨K, fd, sp, KX, hb, hsp, hF⟩ := F w mg fa _ Y G.T.g hmg
  exact law_G KX G.T.g G.T.b G.T.builtins G.T.nolimit hg hobj hints (Nat.le_trans hlen hn2) hr hF hb fun H hS => hsp H a ns hlen hbits hS
/-- the script goes in, True comes out -/
def LawT (n : Nat) : Tr := fun ss m Q => ∃ ns : List Int, ss = [.val (.scr ns)] ∧ ns.length ≤ n ∧ (∀ z ∈ ns, Builtin.Int.intBits z ≤ 1048576) ∧ (∀ a, m a = none) ∧ ∀ m', Q (.val (.bl true)) m'
theorem law_sp {K : PySem.W.Frag} {n : Nat} {H : Hp} {a : Addr} {ns : List Int} (h1 : ns.length ≤ n) (h2 : ∀ z ∈ ns, Builtin.Int.intBits z ≤ 1048576) (hS : SqL K H a (ns.map V.int)) : SpD K (LawT n) [.ref a] H (fun v _ => v = .bl true) E0 := by
  have hh : hid (dom fun _ => none) H = H := by
    funext b
    exact hid_out rfl
  refine ⟨fun _ => none, [.val (.scr ns)], fun s m' => s = .val (.bl true), (fun a ds e => nomatch e), .cons (show Rp K (hid _ H) _ _ by rw [hh]; exact .scr hS) .nil, ⟨ns, rfl, h1, h2, fun _ => rfl, fun _ => rfl⟩, fun v H' s m' x so rs q => ?_⟩
  subst q
  have rs' : Rp K (hid (dom m') H') v (.bl true) := rs
  cases rs'
  rfl
end Cr

/-! Cr7: owned lists written and grown; chains; in; names of three; what the head tells. -/
namespace Cr
open PySem PySem.Spec PyProof.Rows L2
section
variable {K : PySem.W.Frag} {M : Dm} {r : Ro} {m : Sto} {P : Eds}
/-- p[i] = e, p owned -/
theorem ws_setI {te to ti : TE} (h : WE K r m te fun s m1 => WE K r m1 to fun t m2 => WE K r m2 ti fun u m3 => ∃ d p ds i j, s = .val d ∧ t = .adr p ∧ u = .val (.int i) ∧ m3 p = some ds ∧ ixN ds.length i = some j ∧ P.nx r (stS m3 p (ds.set j d))) :
    WS K M r m (tAsg te (gSub to ti rSetL)) P := fun σ H H0 D' e st x dd =>
  h σ H _ e st fun v H1 s m1 x1 so1 rs1 q1 => q1 σ H1 _ (e.mono x1) so1 fun o H2 t m2 x2 so2 rs2 q2 => q2 σ H2 _ ((e.mono x1).mono x2) so2 fun w H3 u m3 x3 so3 rs3 ⟨d, p, ds, i, j, es, et, eu, hm, hj, q⟩ => by
    subst es et eu
    obtain ⟨rfl, _⟩ := rs2
    have rs3' : Rp K (hid (dom m3) H3) w (.int i) := rs3
    cases rs3'
    obtain ⟨xs, hx, ra⟩ := so3 p ds hm
    have rd : Rp K (hid (dom m3) H3) v d := (rs1.mono (x2.trans x3))
    have so4 : StoOk K (upd H3 p (.lst (xs.set j v))) (stS m3 p (ds.set j d)) := so3.wr hm (ra.set rd j)
    have w : Xt (dom m3) H3 (dom (stS m3 p (ds.set j d))) (upd H3 p (.lst (xs.set j v))) := by
      rw [dom_stS hm]
      exact Xt.wr (dom_some hm)
    exact ⟨p, xs, i, j, rfl, rfl, hx, by rw [ra.length]; exact hj, dd.nx σ _ r _ (x.trans (((x1.trans x2).trans x3).trans w)) so4 ((((e.mono x1).mono x2).mono x3).mono w) q⟩
/-- p.append(e), p owned -/
theorem ws_app {to te : TE} (h : WE K r m to fun t m1 => ∃ p ds1, t = .adr p ∧ m1 p = some ds1 ∧ WE K r m1 te fun s m2 => ∃ d ds, s = .val d ∧ m2 p = some ds ∧ ds.length < 100000 ∧ P.nx r (stS m2 p (ds ++ [d]))) :
    WS K M r m (tDrop (tBM K "list" rAppend to (tCons te tNil))) P := fun σ H H0 D' e st x dd =>
  h σ H _ e st fun o H1 t m1 x1 so1 rs1 q1 => by
    have gen : ∀ {p : Addr} {ds1 : List D}, t = .adr p → m1 p = some ds1 → tyV K "list" o H1 := fun {p ds1} et hm => by
      subst et
      obtain ⟨rfl, _⟩ := rs1
      obtain ⟨xs, hx, _⟩ := so1 p ds1 hm
      exact .inl ⟨rfl, xs, Evl.sq_of hx⟩
    obtain ⟨p, ds1, et, hm1, q1⟩ := q1
    refine ⟨gen et hm1, ?_⟩
    subst et
    obtain ⟨rfl, _⟩ := rs1
    refine q1 σ H1 _ (e.mono x1) so1 fun v H2 s m2 x2 so2 rs2 ⟨d, ds, es, hm, hl, q⟩ => ?_
    subst es
    obtain ⟨xs, hx, ra⟩ := so2 p ds hm
    have rd : Rp K (hid (dom m2) H2) v d := rs2
    have w : Xt (dom m2) H2 (dom (stS m2 p (ds ++ [d]))) (upd H2 p (.lst (xs ++ [v]))) := by
      rw [dom_stS hm]
      exact Xt.wr (dom_some hm)
    exact ⟨p, xs, v, rfl, rfl, hx, by rw [ra.length]; exact Evl.sz_lt hl, dd.nx σ _ r _ (x.trans ((x1.trans x2).trans w)) (so2.wr hm (ra.append (.cons rd .nil))) (((e.mono x1).mono x2).mono w) q⟩
theorem wt_yes {Q : Bool → Sto → Prop} (q : Q true m) : WT K r m tYes Q := fun σ H QV e st k => k true H m Xt.refl st q
/-- a op1 b op2 c -/
theorem we_chain {f g : D → D → Rs → Prop} {ta tb tc : TE} {Q : Sv → Sto → Prop} (h : WE K r m ta fun s m1 => WE K r m1 tb fun t m2 => ∃ a b k, vw m2 s = some a ∧ vw m2 t = some b ∧ f a b (.v (.bl k)) ∧
      if k = true then WE K r m2 tc fun u m3 => ∃ b' c z, vw m3 t = some b' ∧ vw m3 u = some c ∧ g b' c z ∧ Q (.val z.d) m3 else Q (.val (.bl false)) m2) : WE K r m (tChain (rD2 K f) (rD2 K g) ta tb tc) Q := fun σ H QV e st k =>
  h σ H _ e st fun v H1 s m1 x1 so1 rs1 q1 => q1 σ H1 _ (e.mono x1) so1 fun u H2 t m2 x2 so2 rs2 ⟨a, b, c, ha, hb, hf, q⟩ => by
    refine ⟨dom m2, a, b, .v (.bl c), so2.live, RpW.of (rs1.mono x2) so2 ha, RpW.of rs2 so2 hb, hf, fun z H3 x3 kp rp => ?_⟩
    cases rp
    have so3 := so2.keep x3 kp
    refine ⟨c, rfl, ?_⟩
    cases c with
    | false => exact k _ H3 (.val (.bl false)) m2 ((x1.trans x2).trans x3) so3 (show Rp _ _ _ _ from .bl false) q
    | true =>
      refine (show WE K r m2 tc _ from q) σ H3 _ (((e.mono x1).mono x2).mono x3) so3 fun w H4 y m4 x4 so4 rs4 ⟨b', d, z, hb', hd, hg, q'⟩ => ?_
      exact ⟨dom m4, b', d, z, so4.live, RpW.of ((rs2.mono x3).mono x4) so4 hb', RpW.of rs4 so4 hd, hg, kR.of so4 (fun v H' s m' x => k v H' s m' ((((x1.trans x2).trans x3).trans x4).trans x)) q'⟩
/-- three names at once -/
theorem ws_par3 {ta : TA} {i j l : Nat} (h : WA K r m ta fun ss m1 => ∃ s t u, ss = [s, t, u] ∧ P.nx (((r.set i (some s)).set j (some t)).set l (some u)) m1) : WS K M r m (tPar3 i j l ta) P := fun σ H H0 D' e st x d =>
  h σ H _ e st fun vs H1 ss m1 x1 so1 rs ⟨s, t, u, es, q⟩ => by
    subst es
    cases rs with
    | cons r1 rs =>
      cases rs with
      | cons r2 rs =>
        cases rs with
        | cons r3 rs =>
          cases rs
          exact ⟨_, _, _, rfl, d.nx _ H1 _ m1 (x.trans x1) so1 ((((e.mono x1).set r1).set r2).set r3) q⟩
end

/-! ### in -/
def eqIn : D → D → Bool
  | .non, .non => true
  | .bl a, .bl b => a == b
  | .int a, .int b => a == b
  | .str a, .str b => a == b
  | _, _ => false
def D.flt : D → Bool
  | .non => true
  | .bl _ => true
  | .int _ => true
  | .str _ => true
  | _ => false
/-- no bool beside an int -/
def D.mixed : D → D → Bool
  | .bl _, .int _ => true
  | .int _, .bl _ => true
  | _, _ => false
inductive RIn : D → D → Bool → Prop
  | sq {d : D} {b : Bool} {ds : List D} (h : d.flt = true) (h2 : ds.all D.flt = true) (h3 : ds.all (fun e => !e.mixed d) = true) : RIn d (sqD b ds) (ds.any fun e => eqIn e d)
  | sub (i j : Str) : RIn (.str i) (.str j) (!(Builtin.Str.occurrences j i 0 j.length 1).isEmpty)
inductive RInR : D → D → Rs → Prop
  | mk {a b : D} {r : Bool} (h : RIn a b r) : RInR a b (.v (.bl r))
inductive RNotInR : D → D → Rs → Prop
  | mk {a b : D} {r : Bool} (h : RIn a b r) : RNotInR a b (.v (.bl (!r)))
theorem flat_rp {K : PySem.W.Frag} {H : Hp} {v : V} {d : D} (h : Rp K H v d) (f : d.flt = true) : flatV v = true := by
  cases h <;> first | rfl | (simp [D.flt] at f)
theorem eqIn_rp {K : PySem.W.Frag} {H : Hp} {v w : V} {d e : D} (h : Rp K H v d) (h' : Rp K H w e) (f : d.flt = true) (f' : e.flt = true) (g : e.mixed d = false) : eqV w v = eqIn e d := by
  cases h <;> first | (simp [D.flt] at f; done) | (cases h' <;> first | (simp [D.flt] at f'; done) | (simp [D.mixed] at g; done) | rfl)
theorem inV_rp {K : PySem.W.Frag} {H : Hp} {v : V} {d : D} (h : Rp K H v d) (f : d.flt = true) : ∀ {xs : List V} {ds : List D}, RpA K H xs ds → ds.all D.flt = true → ds.all (fun e => !e.mixed d) = true → inV v xs = (ds.any fun e => eqIn e d) ∧ xs.all flatV = true
  | _, _, .nil, _, _ => ⟨rfl, rfl⟩
  | x :: xs, e :: ds, .cons r t, f2, f3 => by
    rw [List.all_cons, Bool.and_eq_true] at f2 f3
    obtain ⟨i1, i2⟩ := inV_rp h f t f2.2 f3.2
    have g : e.mixed d = false := by simpa using f3.1
    constructor
    · unfold inV at i1 ⊢
      rw [List.any_cons, List.any_cons, i1, eqIn_rp h r f f2.1 g]
    · rw [List.all_cons, flat_rp r f2.1, i2]; rfl
section
variable {X : Cx}
theorem op_inDD : OpR X (compareOp .In) (rD2 X.K RInR) := by
  intro pins s σ H x y v u Q I rx ry ⟨M, a, b, c, lv, ha, hb, hf, k⟩
  cases hf with
  | mk h =>
    cases h with
    | @sq _ bb ds h h2 h3 =>
      have hd := ha.rp
      cases bb with
      | false =>
        obtain ⟨p, xs, rfl, hx, ra⟩ := (show RpW X.K M H y (.lst ds) from hb).lst
        obtain ⟨e1, e2⟩ := inV_rp hd h (ra.mono hid_ex) h2 h3
        refine op_in_seq pins s σ H _ _ v u Q I rx ry ⟨p, xs, rfl, .inl (Evl.sq_of hx), flat_rp hd h, e2, ?_⟩
        rw [if_neg Bool.false_ne_true, e1]
        exact k.v (.bl _)
      | true =>
        obtain ⟨p, xs, rfl, hx, ra⟩ := (show RpW X.K M H y (.tup ds) from hb).tup
        obtain ⟨e1, e2⟩ := inV_rp hd h (ra.mono hid_ex) h2 h3
        refine op_in_seq pins s σ H _ _ v u Q I rx ry ⟨p, xs, rfl, .inr (sqT_hid hx), flat_rp hd h, e2, ?_⟩
        rw [if_neg Bool.false_ne_true, e1]
        exact k.v (.bl _)
    | sub i j =>
      cases ha.str
      cases hb.str
      exact op_in_str pins s σ H _ _ v u Q I rx ry ⟨i, j, rfl, rfl, k.v (.bl _)⟩
theorem op_notInDD : OpR X (compareOp .NotIn) (rD2 X.K RNotInR) := by
  intro pins s σ H x y v u Q I rx ry ⟨M, a, b, c, lv, ha, hb, hf, k⟩
  cases hf with
  | mk h =>
    cases h with
    | @sq _ bb ds h h2 h3 =>
      have hd := ha.rp
      cases bb with
      | false =>
        obtain ⟨p, xs, rfl, hx, ra⟩ := (show RpW X.K M H y (.lst ds) from hb).lst
        obtain ⟨e1, e2⟩ := inV_rp hd h (ra.mono hid_ex) h2 h3
        refine op_notIn_seq pins s σ H _ _ v u Q I rx ry ⟨p, xs, rfl, .inl (Evl.sq_of hx), flat_rp hd h, e2, ?_⟩
        rw [if_pos rfl, e1]
        exact k.v (.bl _)
      | true =>
        obtain ⟨p, xs, rfl, hx, ra⟩ := (show RpW X.K M H y (.tup ds) from hb).tup
        obtain ⟨e1, e2⟩ := inV_rp hd h (ra.mono hid_ex) h2 h3
        refine op_notIn_seq pins s σ H _ _ v u Q I rx ry ⟨p, xs, rfl, .inr (sqT_hid hx), flat_rp hd h, e2, ?_⟩
        rw [if_pos rfl, e1]
        exact k.v (.bl _)
    | sub i j =>
      cases ha.str
      cases hb.str
      exact op_notIn_str pins s σ H _ _ v u Q I rx ry ⟨i, j, rfl, rfl, k.v (.bl _)⟩
end

/-! ### what the head tells of a def, with its promise -/
structure Has (P : Program) (w : World) (K : PySem.W.Frag) (mg : Str → Option Value) (base : Heap) (x : Str) (k : Nat) (ps : List Str) (T : Tr) : Prop where
  ex : ∃ (f : Addr) (fd : FuncData), mg x = some (.ref f) ∧ PySem.W.keepIn K (.ref f) = true ∧ Binds K fd ps [] ∧ FnG P w K mg base k f fd ps (SpD K T)
section
variable {X : Cx} {k : Nat} {ps : List Str} {T : Tr} {x : Str} {p pos : Pos} {e : Expr} {es : List Expr} {t : TA}
/-- f(e, ..) -/
theorem pe_U (F : Has X.prog X.w X.K X.mg X.base x k ps T) (hgd : X.A.guards = some []) (hr : Room k X.A) (hg : Gl X x) (ha : PA X (e :: es) t) (hdb : (x == ("__debug__" : Str)) = false := by decide)
    (he : starEach (e :: es) X.env = (false, eval e X.env) :: starEach es X.env := by rfl) (hpl : (backTo pos (starEach es X.env)).any (·.1) = false := by rfl) :
    PE X (.Call (.Name x p) (e :: es) [] pos) (tCall (SpD X.K T) [] E0 t) := by
  obtain ⟨f, fd, h1, h2, h3, h4⟩ := F.ex
  exact pe_G h4 hgd hr hg h1 h2 h3 ha hdb he hpl
end
abbrev Ok (K : PySem.W.Frag) (N : List Str) (T : Tr) (t : TS) : Prop := ∀ ss m Q, T ss m Q → WS K (dom m) (startR N ss) m t { nx := fun _ m' => Q (.val .non) m', rt := Q }
section
variable {P : Program} {w : World} {K : PySem.W.Frag} {mg : Str → Option Value} {base : Heap} {x qual : Str} {params : Arguments} {body : List Stmt} {scope : Scope} {f : Addr} {fd : FuncData} {N ps : List Str} {k : Nat} {T : Tr} {t : TS}
theorem fnG_ok (F : FunD K x qual params body scope [] [] f fd) (S : FnScope N ps scope) (len : ∀ ss m Q, T ss m Q → ss.length = ps.length) (ok : Ok K N T t)
    (hbody : ∀ (cdv : Value) (A : Around) (outer : List Env) (s : Shared) (H : Hp), A.guards = some [] → Room k (A.deeper (envOfC qual scope s.heap.objs.size f cdv)) →
      PSs (cxOf CX0 P w K mg base N qual scope f cdv A outer s H E0).nox body t) : FnG P w K mg base (k + 1) f fd ps (SpD K T) :=
  okG F S (len_ok len) fun cdv A outer s H vs Q hg hr h => ⟨t, hbody cdv A outer s H hg hr, body_ok ok h⟩
theorem has_ok (F : FunD K x qual params body scope [] [] f fd) (gF : mg x = some (.ref f)) (S : FnScope N ps scope) (len : ∀ ss m Q, T ss m Q → ss.length = ps.length)
    (hbd : ∀ (kV doc pm : Value) (an : Option Addr) (cdv ct : Value) (us : List Value), us.length = ps.length → bindArgs (PySem.W.fnOf x qual params body scope .none kV doc pm an cdv ct) ⟨us, []⟩ = pure (ps.zip us))
    (ok : Ok K N T t)
    (hbody : ∀ (cdv : Value) (A : Around) (outer : List Env) (s : Shared) (H : Hp), A.guards = some [] → Room k (A.deeper (envOfC qual scope s.heap.objs.size f cdv)) →
      PSs (cxOf CX0 P w K mg base N qual scope f cdv A outer s H E0).nox body t) : Has P w K mg base x (k + 1) ps T :=
  ⟨f, fd, gF, F.kp, F.bindsN hbd, fnG_ok F S len ok hbody⟩
end

/-! ### a head with more facts -/
def hookM (n : Nat) (fa : List He.Fa) (fn : List He.DefD) (ex : PySem.W.Frag → Bool) : PySem.W.Hook where
  α := He.AlD × Bool
  obs := fun s => (He.obsDG n fa fn s.heap.get?, ex (He.frG s.heap.get? (He.asD s.heap.get? n)))
  val := fun _ => (He.valD fn, true)
  says := fun _ h => ∃ K : PySem.W.Frag, K.In h ∧ He.SaysD fa fn K ∧ ex K = true
  of := fun _ _ e => ⟨_, He.frG_in, congrArg Prod.fst e, congrArg Prod.snd e⟩
  keeps := fun _ _ _ ⟨K, hK, c⟩ k => ⟨K, PySem.W.Frag.In.keeps hK k, c⟩
def obsM (n : Nat) (fa : List He.Fa) (fn : List He.DefD) (ex : PySem.W.Frag → Bool) (g : Addr → Option Obj) : He.AlD × Bool := (He.obsDG n fa fn g, ex (He.frG g (He.asD g n)))
theorem obsM_eq {n : Nat} {fa : List He.Fa} {fn : List He.DefD} {ex : PySem.W.Frag → Bool} {g : Addr → Option Obj} {s : Shared} (h : ∀ a, g a = s.heap.get? a) : obsM n fa fn ex g = (hookM n fa fn ex).obs s := by
  have e : g = s.heap.get? := funext h
  rw [e] <;> rfl
end Cr

/-! Cr8: rows of ints, what is drawn. -/
namespace Cr
open PySem PySem.Spec PyProof.Rows L2
theorem ite_dec {p : Prop} [Decidable p] {A B : Prop} (h1 : p → A) (h2 : ¬ p → B) : if decide p = true then A else B := by
  by_cases h : p
  · rw [if_pos (decide_eq_true h)]; exact h1 h
  · rw [if_neg (by rw [decide_eq_false h]; exact Bool.false_ne_true)]; exact h2 h
theorem ite_b {b : Bool} {A B : Prop} (h1 : b = true → A) (h2 : b = false → B) : if b = true then A else B := by
  cases b with
  | true => exact h1 rfl
  | false => exact h2 rfl
/-! ### sizes -/
theorem log2_mono {a b : Nat} (h : a ≤ b) : a.log2 ≤ b.log2 := by
  by_cases h0 : a = 0
  · subst h0; simp
  · exact (Nat.le_log2 (by omega)).mpr (Nat.le_trans (Nat.log2_self_le h0) h)
theorem mulOk {i j : Int} {B C : Nat} (h1 : i.natAbs ≤ B) (h2 : j.natAbs ≤ C) (h : B.log2 + C.log2 < 1000000) : i.natAbs.log2 + j.natAbs.log2 < 1000000 := by
  have := log2_mono h1
  have := log2_mono h2
  omega
theorem log2_lt {a k : Nat} (h : a < 2 ^ (k + 1)) : a.log2 ≤ k := by
  by_cases h0 : a = 0
  · subst h0; simp
  · exact Nat.lt_succ_iff.mp ((Nat.log2_lt h0).mpr h)
/-! ### rows of ints -/
abbrev tI (ns : List Int) : D := .tup (ns.map .int)
abbrev lI (ns : List Int) : D := .lst (ns.map .int)
theorem pyA_ints : ∀ ns : List Int, D.pyA (ns.map .int) = some (ns.map .int)
  | [] => rfl
  | n :: ns => by show D.pyA (D.int n :: ns.map D.int) = _; simp [D.pyA, D.py, pyA_ints ns]
theorem py_tI (ns : List Int) : (tI ns).py = some (.tuple (ns.map .int)) := by show D.py (.tup _) = _; simp [D.py, pyA_ints]
theorem py_lI (ns : List Int) : (lI ns).py = some (.list (ns.map .int)) := by show D.py (.lst _) = _; simp [D.py, pyA_ints]
theorem eqvAll_ints : ∀ xs ys : List Int, PyData.eqvAll (xs.map .int) (ys.map .int) = decide (xs = ys)
  | [], [] => by simp [PyData.eqvAll]
  | [], _ :: _ => by simp [PyData.eqvAll]
  | _ :: _, [] => by simp [PyData.eqvAll]
  | x :: xs, y :: ys => by
    simp only [List.map_cons, PyData.eqvAll, PyData.eqv, eqvAll_ints xs ys]
    by_cases h1 : x = y <;> by_cases h2 : xs = ys <;> simp [h1, h2]
theorem canLayAll_ints : ∀ ns : List Int, PyData.canLayAll0 (ns.map .int) = true
  | [] => by simp [PyData.canLayAll0]
  | n :: ns => by simp [PyData.canLayAll0, PyData.canLay0, canLayAll_ints ns]
theorem depthAll_ints : ∀ ns : List Int, PyData.depthAll (ns.map .int) ≤ 1
  | [] => by simp [PyData.depthAll]
  | n :: ns => by
    have := depthAll_ints ns
    simp only [List.map_cons, PyData.depthAll, PyData.depth]
    omega
theorem shaped_tI (ns : List Int) : SeqAt.shaped (.tuple (ns.map .int)) = true := by
  have := depthAll_ints ns
  unfold SeqAt.shaped
  rw [Bool.and_eq_true]
  refine ⟨by simp only [PyData.canLay0, canLayAll_ints], decide_eq_true ?_⟩
  simp only [PyData.depth]
  omega
theorem shaped_lI (ns : List Int) : SeqAt.shaped (.list (ns.map .int)) = true := by
  have := depthAll_ints ns
  unfold SeqAt.shaped
  rw [Bool.and_eq_true]
  refine ⟨by simp only [PyData.canLay0, canLayAll_ints], decide_eq_true ?_⟩
  simp only [PyData.depth]
  omega
theorem req_tI (xs ys : List Int) : REq (tI xs) (tI ys) (decide (xs = ys)) := by
  have h := REq.deep (py_tI xs) (py_tI ys) (shaped_tI xs) (shaped_tI ys)
  rw [show PyData.eqv (.tuple (xs.map .int)) (.tuple (ys.map .int)) = decide (xs = ys) by simp only [PyData.eqv, eqvAll_ints]] at h
  exact h
theorem req_lI (xs ys : List Int) : REq (lI xs) (lI ys) (decide (xs = ys)) := by
  have h := REq.deep (py_lI xs) (py_lI ys) (shaped_lI xs) (shaped_lI ys)
  rw [show PyData.eqv (.list (xs.map .int)) (.list (ys.map .int)) = decide (xs = ys) by simp only [PyData.eqv, eqvAll_ints]] at h
  exact h
theorem map_int_inj : ∀ {xs ys : List Int}, xs.map D.int = ys.map D.int → xs = ys
  | [], [], _ => rfl
  | [], _ :: _, h => by cases h
  | _ :: _, [], h => by cases h
  | x :: xs, y :: ys, h => by
    injection h with h1 h2
    injection h1 with h1
    rw [h1, map_int_inj h2]
/-- [..] == [] for ints -/
theorem req_nil (xs : List Int) : REq (lI xs) (.lst []) (decide (xs = [])) := req_lI xs []
/-! texts of rows of ints -/
theorem showable_ints : ∀ {ns : List Int}, (∀ n ∈ ns, n.natAbs.log2 < 1920) → PyData.showableAll (ns.map .int) = true
  | [], _ => by simp [PyData.showableAll]
  | n :: ns, h => by
    simp only [List.map_cons, PyData.showableAll, PyData.showable, showable_ints (fun z q => h z (List.mem_cons_of_mem _ q)), Bool.and_true, decide_eq_true_eq]
    exact h n List.mem_cons_self
theorem piled_ints : ∀ {ns : List Int}, (∀ n ∈ ns, n.natAbs < 10 ^ 1000) → piled (PyData.shownAll (ns.map .int)) ≤ 1003 * ns.length
  | [], _ => by simp [PyData.shownAll, piled]
  | n :: ns, h => by
    have h1 := piled_ints (fun z q => h z (List.mem_cons_of_mem _ q) : ∀ z ∈ ns, _)
    have h2 := int_text_length_le10 (k := 1000) (by decide) (h n List.mem_cons_self)
    have h3 : (Str.ofString (toString n)).length ≤ 1001 := by rw [PySem.ofString_length]; exact h2
    have h4 : PyData.shown (.int n) = Str.ofString (toString n) := by simp [PyData.shown]
    simp only [List.map_cons, PyData.shownAll, List.length_cons, h4]
    simp only [piled, List.map_cons, List.sum_cons] at h1 ⊢
    omega
theorem rrepr_tI {ns : List Int} (hl : ns.length ≤ 1000) (h : ∀ n ∈ ns, n.natAbs ≤ 10 ^ 400) : RRepr [tI ns] (.v (.str (PyData.shown (.tuple (ns.map .int))))) := by
  have b : ∀ n ∈ ns, n.natAbs.log2 < 1920 := fun n q => Nat.lt_of_le_of_lt (log2_mono (h n q)) (by decide +kernel)
  have b2 : ∀ n ∈ ns, n.natAbs < 10 ^ 1000 := fun n q => Nat.lt_of_le_of_lt (h n q) (by decide +kernel)
  have hd := depthAll_ints ns
  refine .mk (py_tI ns) (by simp only [PyData.showable]; exact showable_ints b) (by simp only [PyData.depth]; omega) ?_
  have hp := piled_ints b2
  simp only [PyData.shown]
  generalize PyData.shownAll (ns.map .int) = ts at hp ⊢
  unfold tupleText
  rw [strLen_append, strLen_append]
  have e1 : ((("(" : String) : Str)).length = 1 := rfl
  have e3 : (((if ts.length == 1 then ",)" else ")" : String) : Str)).length ≤ 2 := by split <;> decide
  rw [e1, sizeLine_eq]
  by_cases z : ts = []
  · subst z
    have : (Str.join ", " ([] : List Str)).length = 0 := rfl
    omega
  · have := join_length_add ts z
    omega
theorem rrepr_non : RRepr [.non] (.v (.str (PyData.shown .none))) := .mk rfl (by simp [PyData.showable]) (by simp [PyData.depth]) (by simp [PyData.shown]; decide)
/-! ### comprehensions over rows of ints -/
section
variable {K : PySem.W.Frag} {r : Ro} {m : Sto}
theorem zip_mem {xs ys : List Int} {d : D} (h : d ∈ zipD (xs.map .int) (ys.map .int)) : ∃ x y, d = .tup [.int x, .int y] ∧ (x, y) ∈ xs.zip ys := by
  unfold zipD at h
  obtain ⟨p, hp, rfl⟩ := List.mem_map.mp h
  rw [List.zip_map] at hp
  obtain ⟨⟨x, y⟩, h1, rfl⟩ := List.mem_map.mp hp
  exact ⟨x, y, rfl, h1⟩
def fst2 (g : Int → Int → D) : D → D
  | .tup [.int x, .int y] => g x y
  | _ => .non
def tst2 (g : Int → Int → Bool) : D → Bool
  | .tup [.int x, .int y] => g x y
  | _ => false
theorem zip_map (g : Int → Int → D) (f : Int → Int → Bool) : ∀ xs ys : List Int, ((zipD (xs.map .int) (ys.map .int)).filter (tst2 f)).map (fst2 g) = ((xs.zip ys).filter fun p => f p.1 p.2).map fun p => g p.1 p.2
  | [], _ => rfl
  | _ :: _, [] => rfl
  | x :: xs, y :: ys => by
    have ih := zip_map g f xs ys
    have e : zipD ((x :: xs).map D.int) ((y :: ys).map D.int) = .tup [.int x, .int y] :: zipD (xs.map .int) (ys.map .int) := rfl
    rw [e, List.zip_cons_cons, List.filter_cons, List.filter_cons]
    have e2 : tst2 f (.tup [.int x, .int y]) = f x y := rfl
    rw [e2]
    cases f x y with
    | true => rw [if_pos rfl, if_pos rfl, List.map_cons, List.map_cons, ih]; rfl
    | false => rw [if_neg Bool.false_ne_true, if_neg Bool.false_ne_true, ih]
theorem we_zipI {st : Bool} {a b : Nat} {ta : TA} {tt : TT} {te : TE} {Q : Sv → Sto → Prop} (xs ys : List Int) (f : Int → Int → Bool) (g : Int → Int → D) (hl : xs.length ≤ 100000) (hst : st = true → xs.length = ys.length)
    (ha : WA K r m ta fun ss m1 => m1 = m ∧ ∃ b1 b2, ss = [.val (sqD b1 (xs.map .int)), .val (sqD b2 (ys.map .int))])
    (ht : ∀ x y, (x, y) ∈ xs.zip ys → ∀ m', WT K (((wipeR r [a, b]).set a (some (.val (.int x)))).set b (some (.val (.int y)))) m' tt fun c m2 => c = f x y ∧ m2 = m' ∧
      (c = true → WE K (((wipeR r [a, b]).set a (some (.val (.int x)))).set b (some (.val (.int y)))) m' te fun s m3 => s = .val (g x y) ∧ m3 = m'))
    (q : Q (.val (.lst (((xs.zip ys).filter fun p => f p.1 p.2).map fun p => g p.1 p.2))) m) : WE K r m (tLc (iZ K st ta) (gTup K 2 (gCons (gName a) (gCons (gName b) gNil))) tt te [a, b]) Q := by
  refine we_lc (js := [a] ++ ([b] ++ [])) (by simp) (wi_Z fun σ H R e so k => ha σ H R e so fun vs H' ss m' x so' rs ⟨e1, b1, b2, es⟩ => k vs H' ss m' x so' rs ⟨b1, b2, _, _, es, fun z => by rw [List.length_map, List.length_map]; exact hst z, ?_, e1, tst2 f, fst2 g, fun d hd m' => ?_, ?_⟩)
  · unfold zipD
    rw [List.length_map, List.length_zip, List.length_map, List.length_map]
    omega
  · obtain ⟨x, y, rfl, hm⟩ := zip_mem hd
    exact wg_tup rfl (wgs_cons (wg_name (wgs_cons (wg_name (wgs_nil (ht x y hm m'))))))
  · rw [zip_map]; exact q
/-- over one row of ints -/
def fst1 (g : Int → D) : D → D
  | .int x => g x
  | _ => .non
def tst1 (g : Int → Bool) : D → Bool
  | .int x => g x
  | _ => false
theorem one_map (g : Int → D) (f : Int → Bool) : ∀ xs : List Int, ((xs.map D.int).filter (tst1 f)).map (fst1 g) = (xs.filter f).map g
  | [] => rfl
  | x :: xs => by
    have ih := one_map g f xs
    rw [List.map_cons, List.filter_cons, List.filter_cons]
    have e2 : tst1 f (.int x) = f x := rfl
    rw [e2]
    cases f x with
    | true => rw [if_pos rfl, if_pos rfl, List.map_cons, List.map_cons, ih]; rfl
    | false => rw [if_neg Bool.false_ne_true, if_neg Bool.false_ne_true, ih]
theorem we_eachI {a : Nat} {wi : TI} {tt : TT} {te : TE} {Q : Sv → Sto → Prop} (xs : List Int) (f : Int → Bool) (g : Int → D) (hl : xs.length ≤ 100000)
    (ha : WI K r m wi fun ds m1 => ds = xs.map .int ∧ m1 = m)
    (ht : ∀ x, x ∈ xs → ∀ m', WT K ((wipeR r [a]).set a (some (.val (.int x)))) m' tt fun c m2 => c = f x ∧ m2 = m' ∧ (c = true → WE K ((wipeR r [a]).set a (some (.val (.int x)))) m' te fun s m3 => s = .val (g x) ∧ m3 = m'))
    (q : Q (.val (.lst ((xs.filter f).map g))) m) : WE K r m (tLc wi (gName a) tt te [a]) Q := by
  refine we_lc (js := [a]) (by simp) fun σ H R e so k => ha σ H R e so fun J H' ds m' x so' io ⟨e1, e2⟩ => k J H' ds m' x so' io ⟨?_, e2, tst1 f, fst1 g, fun d hd m' => ?_, ?_⟩
  · rw [e1, List.length_map]; exact hl
  · rw [e1] at hd
    obtain ⟨x, hx, rfl⟩ := List.mem_map.mp hd
    exact wg_name (ht x hx m')
  · rw [e1, one_map]; exact q
/-! ### what is drawn: the generator is an owned list of three ints -/
def GenI (m : Sto) (g : Addr) (n : Nat) : Prop := ∃ a s c : Int, m g = some [.int a, .int s, .int c] ∧ 0 ≤ s ∧ s < 2147483647 ∧ 0 ≤ c ∧ c + 128 * (n : Int) ≤ 1000000000000
def Fr (m m' : Sto) (g : Addr) : Prop := ∀ p, p ≠ g → m' p = m p
theorem Fr.refl {g : Addr} : Fr m m g := fun _ _ => rfl
theorem Fr.trans {m1 m2 : Sto} {g : Addr} (a : Fr m m1 g) (b : Fr m1 m2 g) : Fr m m2 g := fun p h => (b p h).trans (a p h)
theorem Fr.st {g : Addr} {ds : List D} : Fr m (stS m g ds) g := fun p h => stS_ne h
theorem GenI.mono {g : Addr} {n k : Nat} (h : GenI m g n) (l : k ≤ n) : GenI m g k := by
  obtain ⟨a, s, c, h1, h2, h3, h4, h5⟩ := h
  exact ⟨a, s, c, h1, h2, h3, h4, by omega⟩
theorem GenI.some {g : Addr} {n : Nat} (h : GenI m g n) : ∃ ds, m g = some ds := by
  obtain ⟨a, s, c, h1, _⟩ := h
  exact ⟨_, h1⟩
theorem GenI.other {g p : Addr} {n : Nat} {ds : List D} (h : GenI m g n) (e : g ≠ p) : GenI (stS m p ds) g n := by
  obtain ⟨a, s, c, h1, h2⟩ := h
  exact ⟨a, s, c, by rw [stS_ne e]; exact h1, h2⟩
theorem GenI.del {g p : Addr} {n : Nat} (h : GenI m g n) (e : g ≠ p) : GenI (stD m p) g n := by
  obtain ⟨a, s, c, h1, h2⟩ := h
  exact ⟨a, s, c, by unfold stD; rw [if_neg e]; exact h1, h2⟩
/-- a row each item of which may draw k times -/
theorem we_drawn {wi : TI} {g : TG} {te : TE} {vs js : List Nat} {Q : Sv → Sto → Prop} {ge : Addr} (k n : Nat) (A : Nat → List D → Prop) (hjs : ∀ j ∈ js, j ∈ vs)
    (h : WI K r m wi fun ds m1 => m1 = m ∧ ds.length ≤ 100000 ∧ GenI m ge (n + k * ds.length) ∧ A 0 [] ∧
      (∀ i d acc m', ds[i]? = some d → A i acc → GenI m' ge (n + k * (ds.length - i)) → WG K g js (.val d) (wipeR r vs) m' fun r2 => WE K r2 m' te fun s m3 => ∃ x, s = .val x ∧ A (i + 1) (acc ++ [x]) ∧ GenI m3 ge (n + k * (ds.length - i - 1)) ∧ Fr m' m3 ge) ∧
      (∀ acc m', A ds.length acc → GenI m' ge n → Fr m m' ge → Q (.val (.lst acc)) m')) : WE K r m (tLc wi g tYes te vs) Q := by
  refine we_free (we_lcO hjs fun σ H R e st kk => h σ H R e st fun J H' ds mz x so io ⟨em, hl, hg, h0, turn, fin⟩ => kk J H' ds mz x so io ⟨hl, fun p hp => ?_⟩)
  subst em
  have gp : ge ≠ p := fun e => by
    obtain ⟨ds, z⟩ := hg.some
    rw [e, hp] at z
    cases z
  refine ⟨fun i acc m' => A i acc ∧ GenI m' ge (n + k * (ds.length - i)) ∧ ∀ q, q ≠ ge → q ≠ p → m' q = mz q, ⟨h0, hg.other gp, fun q _ h2 => stS_ne h2⟩, ?_, ?_⟩
  · rintro i d acc m' hd _ hm ⟨hA, hG, hF⟩
    refine fun v1 σ1 H1 QV1 e1 st1 rs1 k1 => turn i d acc m' hd hA hG v1 σ1 H1 QV1 e1 st1 rs1 fun σ2 r2 e2 l2 n2 q2 => k1 σ2 r2 e2 l2 n2 (wt_yes ?_)
    rw [if_pos rfl]
    refine q2.imp fun s m3 ⟨x, es, h1, h2, h3⟩ => ⟨x, es, by rw [h3 p (fun z => gp z.symm)]; exact hm, h1, ?_, fun q a b => by rw [stS_ne b, h3 q a, hF q a b]⟩
    have : n + k * (ds.length - (i + 1)) = n + k * (ds.length - i - 1) := rfl
    exact h2.other gp
  · rintro acc m' hm ⟨hA, hG, hF⟩
    refine ⟨p, _, rfl, hp, hm, fin acc (stD m' p) hA ?_ ?_⟩
    · have : n + k * (ds.length - ds.length) = n := by simp
      rw [this] at hG
      exact hG.del gp
    · intro q hq
      unfold stD
      by_cases z : q = p
      · rw [if_pos z, z, hp]
      · rw [if_neg z, hF q hq z]
end
end Cr

/-! Cr9: what the laws draw. -/
namespace Cr
open PySem PySem.Spec PyProof.Rows L2
local macro_rules | `(tactic| walk_at "w") => `(tactic| first
  | with_reducible refine ws_seq ?_ | with_reducible refine ws_asg ?_ | with_reducible refine ws_ret ?_ | with_reducible refine ws_retN ?_ | with_reducible refine ws_drop ?_ | with_reducible refine ws_if ?_
  | with_reducible refine ws_next ?_ | with_reducible refine ws_par ?_ | with_reducible refine ws_par3 ?_
  | with_reducible refine we_int ?_ | with_reducible refine we_str ?_ | with_reducible refine we_bl ?_ | with_reducible refine we_non ?_ | with_reducible refine we_op ?_ | with_reducible refine we_un ?_
  | with_reducible refine we_cb ?_ | with_reducible refine we_if ?_ | with_reducible refine we_tup ?_ | with_reducible refine we_call ?_ | with_reducible refine wa_cons ?_ | with_reducible refine wa_nil ?_
  | with_reducible refine wt_val ?_ | with_reducible refine wt_test ?_ | with_reducible refine wt_and ?_ | with_reducible refine wt_or ?_ | with_reducible refine wt_not ?_ | with_reducible refine wt_yes ?_
  | with_reducible refine we_andV ?_ | with_reducible refine we_orV ?_ | with_reducible refine we_notV ?_ | with_reducible refine we_chain ?_ | with_reducible refine we_slice ?_ | with_reducible refine wo_none ?_ | with_reducible refine wo_some ?_
  | with_reducible refine we_bits ?_ | refine we_var (by rfl) ?_)
local macro_rules | `(tactic| walk_at "i2") => `(tactic| refine ⟨_, _, _, rfl, rfl, .int _ _, ?_⟩)
local macro_rules | `(tactic| walk_at "in") => `(tactic| refine ⟨_, _, rfl, .int _, ?_⟩)
/-! ### the hash -/
def T_law_hash : Tr := fun ss m Q => ∃ s i : Int, ss = [.val (.int s), .val (.int i)] ∧ 0 ≤ s ∧ s < 2147483647 ∧ 0 ≤ i ∧ i ≤ 1000000000000 ∧ ∀ v : Int, 0 ≤ v → v < 2147483647 → Q (.val (.int v)) m
def t_law_hash (K : PySem.W.Frag) : TS := (tSeq (tAsg (tOp (rD2 K RMod) (tCB (rDN K RInt) (tCons (tOp (rD2 K RAdd) (tOp (rD2 K RAdd) (tOp (rD2 K RAdd) (tOp (rD2 K RMul) (tVar 0) (tC (.int 1140671))) (tOp (rD2 K RMul) (tOp (rD2 K RMul) (tC (.int 27644437)) (tVar 1)) (tVar 1))) (tOp (rD2 K RMul) (tC (.int 131)) (tVar 1))) (tC (.int 19))) tNil)) (tC (.int 2147483629))) (gName 2)) (tSeq (tAsg (tOp (rD2 K RMod) (tCB (rDN K RInt) (tCons (tOp (rD2 K RAdd) (tOp (rD2 K RAdd) (tOp (rD2 K RMul) (tVar 2) (tVar 2)) (tOp (rD2 K RMul) (tC (.int 62089)) (tVar 1))) (tC (.int 32416187))) tNil)) (tC (.int 2147483587))) (gName 2)) (tRet (tOp (rD2 K RMod) (tCB (rDN K RInt) (tCons (tOp (rD2 K RMul) (tVar 2) (tC (.int 48271))) tNil)) (tC (.int 2147483647))))))
theorem m_law_hash {K : PySem.W.Frag} : Ok K ["seed", "index", "mixed"] T_law_hash (t_law_hash K) := by
  rintro ss m Q ⟨s, i, rfl, h1, h2, h3, h4, q⟩
  unfold t_law_hash
  have mk : ∀ {a b : Int}, a.natAbs ≤ 10 ^ 30 → b.natAbs ≤ 10 ^ 30 → a.natAbs.log2 + b.natAbs.log2 < 1000000 := fun ha hb => mulOk ha hb (by decide +kernel)
  repeat walk_at "w"
  refine ⟨_, _, _, rfl, rfl, .int (mk (by omega) (by omega)), ?_⟩
  repeat walk_at "w"
  refine ⟨_, _, _, rfl, rfl, .int (mk (by omega) (by omega)), ?_⟩
  repeat walk_at "w"
  refine ⟨_, _, _, rfl, rfl, .int (mk (by omega) (by omega)), ?_⟩
  walk_at "i2"
  repeat walk_at "w"
  refine ⟨_, _, _, rfl, rfl, .int (mk (by omega) (by omega)), ?_⟩
  walk_at "i2"
  repeat walk_at "w"
  walk_at "i2"
  repeat walk_at "w"
  walk_at "in"
  repeat walk_at "w"
  refine ⟨_, _, _, rfl, rfl, .int (by decide), ?_⟩
  generalize hx : ((s * 1140671 + 27644437 * i * i + 131 * i + 19) % 2147483629) = x
  have x1 : 0 ≤ x := by rw [← hx]; exact Int.emod_nonneg _ (by decide)
  have x2 : x < 2147483629 := by rw [← hx]; exact Int.emod_lt_of_pos _ (by decide)
  repeat walk_at "w"
  refine ⟨_, _, _, rfl, rfl, .int (mk (by omega) (by omega)), ?_⟩
  repeat walk_at "w"
  refine ⟨_, _, _, rfl, rfl, .int (mk (by omega) (by omega)), ?_⟩
  walk_at "i2"
  repeat walk_at "w"
  walk_at "i2"
  repeat walk_at "w"
  walk_at "in"
  repeat walk_at "w"
  refine ⟨_, _, _, rfl, rfl, .int (by decide), ?_⟩
  generalize hy : ((x * x + 62089 * i + 32416187) % 2147483587) = y
  have y1 : 0 ≤ y := by rw [← hy]; exact Int.emod_nonneg _ (by decide)
  have y2 : y < 2147483629 := by rw [← hy]; have := Int.emod_lt_of_pos (x * x + 62089 * i + 32416187) (b := 2147483587) (by decide); omega
  repeat walk_at "w"
  refine ⟨_, _, _, rfl, rfl, .int (mk (by omega) (by omega)), ?_⟩
  repeat walk_at "w"
  walk_at "in"
  repeat walk_at "w"
  refine ⟨_, _, _, rfl, rfl, .int (by decide), ?_⟩
  exact q _ (Int.emod_nonneg _ (by decide)) (Int.emod_lt_of_pos _ (by decide))
theorem vw_adr {m : Sto} {a : Addr} {ds : List D} (h : m a = some ds) : vw m (.adr a) = some (.lst ds) := by show (m a).map D.lst = _; rw [h]; rfl
/-! ### a number below a bound -/
def bMax : Int := 2 ^ 3000
theorem bMax_eq : bMax = 2 ^ 3000 := rfl
theorem bMax_bits {b : Int} (h1 : 0 < b) (h2 : b < bMax) : Builtin.Int.intBits b ≤ 3000 ∧ b.natAbs.log2 < 9000 := by
  have h : b.natAbs < 2 ^ 3000 := by
    have e : (b.natAbs : Int) = b := by omega
    have h3 : (b.natAbs : Int) < ((2 ^ 3000 : Nat) : Int) := by rw [e]; exact h2
    exact Int.ofNat_lt.mp h3
  exact ⟨PySem.intBits_le_iff.mpr h, Nat.lt_of_le_of_lt (log2_lt h) (by decide)⟩
def T_law_random : Tr := fun ss m Q => ∃ (g : Addr) (b : Int) (n : Nat), ss = [.adr g, .val (.int b)] ∧ GenI m g (n + 1) ∧ 0 < b ∧ b < bMax ∧ ∀ (v : Int) (m' : Sto), 0 ≤ v → v < b → GenI m' g n → Fr m m' g → Q (.val (.int v)) m'
def t_law_random (K : PySem.W.Frag) : TS := (tSeq (tIfS (tTest (tOp (rD2 K RGt) (tOp (rD2 K RIx) (tVar 0) (tC (.int 0))) (tC (.int 0)))) (tSeq (tAsg (tOp (rD2 K RMod) (tCB (rDN K RInt) (tCons (tOp (rD2 K RIx) (tVar 0) (tC (.int 0))) tNil)) (tVar 1)) (gName 2)) (tSeq (tAsg (tOp (rD2 K RFdiv) (tOp (rD2 K RIx) (tVar 0) (tC (.int 0))) (tVar 1)) (gSub (tVar 0) (tC (.int 0)) rSetL)) (tRet (tVar 2)))) tNext) (tSeq (tAsg (tC (.int 0)) (gName 2)) (tSeq (tFor (iRng1 (tCons (tOp (rD2 K RAdd) (tC (.int 1)) (tOp (rD2 K RFdiv) (tBits (tVar 1)) (tC (.int 30)))) tNil)) (gName 3) (tSeq (tAsg (tOp (rD2 K RAdd) (tOp (rD2 K RIx) (tVar 0) (tC (.int 2))) (tC (.int 1))) (gSub (tVar 0) (tC (.int 2)) rSetL)) (tAsg (tOp (rD2 K RAdd) (tOp (rD2 K RMul) (tVar 2) (tC (.int 2147483587))) (tCall (SpD K T_law_hash) [] E0 (tCons (tOp (rD2 K RIx) (tVar 0) (tC (.int 1))) (tCons (tOp (rD2 K RIx) (tVar 0) (tC (.int 2))) tNil)))) (gName 2)))) (tRet (tOp (rD2 K RMod) (tCB (rDN K RInt) (tCons (tVar 2) tNil)) (tVar 1))))))
theorem m_law_random {K : PySem.W.Frag} : Ok K ["generator", "bound", "drawn", "turn"] T_law_random (t_law_random K) := by
  rintro ss m Q ⟨g, b, n, rfl, ⟨a, s, c, hg, s1, s2, c1, c2⟩, b1, b2, q⟩
  obtain ⟨bb1, bb2⟩ := bMax_bits b1 b2
  unfold t_law_random
  repeat walk_at "w"
  refine ⟨_, _, _, vw_adr hg, rfl, .lst rfl, ?_⟩
  repeat walk_at "w"
  walk_at "i2"
  refine ⟨_, rfl, ite_dec (fun ha => ?_) (fun ha => ?_)⟩
  · repeat walk_at "w"
    refine ⟨_, _, _, vw_adr hg, rfl, .lst rfl, ?_⟩
    repeat walk_at "w"
    walk_at "in"
    repeat walk_at "w"
    refine ⟨_, _, _, rfl, rfl, .int b1, ?_⟩
    walk_at "w"
    refine ws_setI ?_
    repeat walk_at "w"
    refine ⟨_, _, _, vw_adr hg, rfl, .lst rfl, ?_⟩
    repeat walk_at "w"
    refine ⟨_, _, _, rfl, rfl, .int b1 bb2, ?_⟩
    repeat walk_at "w"
    refine ⟨_, g, _, _, _, rfl, rfl, rfl, hg, rfl, ?_⟩
    repeat walk_at "w"
    refine q _ _ (Int.emod_nonneg _ (by omega)) (Int.emod_lt_of_pos _ b1) ⟨_, _, _, stS_same, s1, s2, c1, by omega⟩ Fr.st
  · repeat walk_at "w"
    refine ws_for [3] (wi_rng1 ?_)
    repeat walk_at "w"
    refine ⟨_, rfl, ?_⟩
    repeat walk_at "w"
    refine ⟨_, _, _, rfl, rfl, .int (by decide) (by decide +kernel), ?_⟩
    walk_at "i2"
    walk_at "w"
    have hn : (0 : Int) ≤ 1 + (Builtin.Int.intBits b : Int) / 30 ∧ 1 + (Builtin.Int.intBits b : Int) / 30 ≤ 101 := by omega
    generalize hN : 1 + (Builtin.Int.intBits b : Int) / 30 = N at hn
    refine ⟨N, rfl, by omega, by omega, fun i r' m' => ∃ (x c' : Int) (z : Option Sv), r' = [some (.adr g), some (.val (.int b)), some (.val (.int x)), z] ∧ 0 ≤ x ∧ x < 2 ^ (31 * i) ∧ m' g = some [.int a, .int s, .int c'] ∧ c' = c + i ∧ Fr m m' g, ⟨0, c, none, rfl, by decide, by decide, hg, by omega, Fr.refl⟩, ?_, ?_⟩
    · rintro i d r' m' hd ⟨x, c', z, rfl, x0, x1, hg', hc, hf⟩
      have hi : (i : Int) < N := by
        have := (List.getElem?_eq_some_iff.mp hd).1
        simp [rngD] at this
        omega
      refine wg_name ?_
      walk_at "w"
      refine ws_setI ?_
      repeat walk_at "w"
      refine ⟨_, _, _, vw_adr hg', rfl, .lst rfl, ?_⟩
      repeat walk_at "w"
      walk_at "i2"
      repeat walk_at "w"
      refine ⟨_, g, _, _, _, rfl, rfl, rfl, hg', rfl, ?_⟩
      repeat walk_at "w"
      have hx : x.natAbs.log2 ≤ 31 * i := log2_lt (by
        have e : (x.natAbs : Int) = x := by omega
        have h3 : (x.natAbs : Int) < ((2 ^ (31 * i) : Nat) : Int) := by rw [e]; simpa using x1
        have h4 := Int.ofNat_lt.mp h3
        rw [Nat.pow_succ]
        omega)
      refine ⟨_, _, _, rfl, rfl, .int (by have : (2147483587 : Int).natAbs.log2 = 30 := by decide +kernel
                                          omega), ?_⟩
      repeat walk_at "w"
      refine ⟨_, _, _, vw_adr stS_same, rfl, .lst rfl, ?_⟩
      repeat walk_at "w"
      refine ⟨_, _, _, vw_adr stS_same, rfl, .lst rfl, ?_⟩
      repeat walk_at "w"
      refine ⟨s, c' + 1, rfl, s1, s2, by omega, by omega, fun v v1 v2 => ?_⟩
      walk_at "i2"
      refine ⟨x * 2147483587 + v, c' + 1, _, rfl, by omega, ?_, stS_same, by omega, hf.trans Fr.st⟩
      have e : (2 : Int) ^ (31 * (i + 1)) = 2 ^ (31 * i) * 2147483648 := by rw [Nat.mul_add, Int.pow_add]; rfl
      rw [e]
      generalize (2 : Int) ^ (31 * i) = A at x1 ⊢
      omega
    · rintro r' m' ⟨x, c', z, rfl, x0, x1, hg', hc, hf⟩
      have hl : ((rngD 0 N.toNat).length : Int) = N := by simp [rngD]; omega
      repeat walk_at "w"
      walk_at "in"
      repeat walk_at "w"
      refine ⟨_, _, _, rfl, rfl, .int b1, ?_⟩
      exact q _ _ (Int.emod_nonneg _ (by omega)) (Int.emod_lt_of_pos _ b1) ⟨_, _, _, hg', s1, s2, by omega, by omega⟩ hf
end Cr

/-! CrA: generators, forms and points that laws draw. -/
namespace Cr
open PySem PySem.Spec PyProof.Rows L2
local macro_rules | `(tactic| walk_at "w") => `(tactic| first
  | with_reducible refine ws_seq ?_ | with_reducible refine ws_asg ?_ | with_reducible refine ws_ret ?_ | with_reducible refine ws_retN ?_ | with_reducible refine ws_drop ?_ | with_reducible refine ws_if ?_
  | with_reducible refine ws_next ?_ | with_reducible refine ws_par ?_ | with_reducible refine ws_par3 ?_
  | with_reducible refine we_int ?_ | with_reducible refine we_str ?_ | with_reducible refine we_bl ?_ | with_reducible refine we_non ?_ | with_reducible refine we_op ?_ | with_reducible refine we_un ?_
  | with_reducible refine we_cb ?_ | with_reducible refine we_if ?_ | with_reducible refine we_tup ?_ | with_reducible refine we_call ?_ | with_reducible refine wa_cons ?_ | with_reducible refine wa_nil ?_
  | with_reducible refine wt_val ?_ | with_reducible refine wt_test ?_ | with_reducible refine wt_and ?_ | with_reducible refine wt_or ?_ | with_reducible refine wt_not ?_ | with_reducible refine wt_yes ?_
  | with_reducible refine we_andV ?_ | with_reducible refine we_orV ?_ | with_reducible refine we_notV ?_ | with_reducible refine we_chain ?_ | with_reducible refine we_slice ?_ | with_reducible refine wo_none ?_ | with_reducible refine wo_some ?_
  | with_reducible refine we_bits ?_ | refine we_var (by rfl) ?_)
local macro_rules | `(tactic| walk_at "i2") => `(tactic| refine ⟨_, _, _, rfl, rfl, .int _ _, ?_⟩)
local macro_rules | `(tactic| walk_at "in") => `(tactic| refine ⟨_, _, rfl, .int _, ?_⟩)
theorem cut_ints (ns : List Int) (lo hi : Option Int) : ∃ xs : List Int, cutD (ns.map D.int) lo hi = xs.map D.int ∧ xs.length ≤ ns.length := by
  unfold cutD
  rw [List.length_map, ← List.map_drop, ← List.map_take]
  exact ⟨_, rfl, by simp; omega⟩
/-! ### the script -/
def T_law_cell : Tr := fun ss m Q => ∃ (ns : List Int) (i : Int), ss = [.val (.scr ns), .val (.int i)] ∧ 0 ≤ i ∧ (∀ z ∈ ns, Builtin.Int.intBits z ≤ 1048576) ∧ ∀ v : Int, Builtin.Int.intBits v ≤ 1048576 → Q (.val (.int v)) m
def t_law_cell (K : PySem.W.Frag) : TS := (tSeq (tIfS (tTest (tOp (rD2 K RLt) (tVar 1) (tCB (rDN K RLen) (tCons (tVar 0) tNil)))) (tRet (tOp (rD2 K RIx) (tVar 0) (tVar 1))) tNext) (tRet (tOp (rD2 K RMod) (tCB (rDN K RSum) (tCons (tSl (rSlD K) (tVar 0) tNoPart (tPart (tC (.int 1)))) tNil)) (tC (.int 1000003)))))
theorem m_law_cell {K : PySem.W.Frag} : Ok K ["script", "index"] T_law_cell (t_law_cell K) := by
  rintro ss m Q ⟨ns, i, rfl, i0, hb, q⟩
  unfold t_law_cell
  repeat walk_at "w"
  refine ⟨_, _, rfl, .scr _, ?_⟩
  walk_at "i2"
  refine ⟨_, rfl, ite_dec (fun hi => ?_) (fun hi => ?_)⟩
  · repeat walk_at "w"
    have h : i.toNat < ns.length := by omega
    refine ⟨_, _, _, rfl, rfl, .scr (n := ns[i.toNat]) (by unfold atI ixN; rw [if_pos i0, if_pos hi]; exact List.getElem?_eq_getElem h), ?_⟩
    exact q _ (hb _ (List.getElem_mem h))
  · repeat walk_at "w"
    refine ⟨1, rfl, ?_⟩
    obtain ⟨xs, e, _⟩ := cut_ints ns none (some 1)
    refine ⟨_, _, rfl, .scr _ _ _, ?_⟩
    repeat walk_at "w"
    refine ⟨[.lst (xs.map .int)], _, by rw [← e]; rfl, .lst _, ?_⟩
    repeat walk_at "w"
    refine ⟨_, _, _, rfl, rfl, .int (by decide), ?_⟩
    refine q _ (PySem.intBits_le_iff.mpr ?_)
    have h1 := Int.emod_nonneg xs.sum (b := 1000003) (by decide)
    have h2 := Int.emod_lt_of_pos xs.sum (b := 1000003) (by decide)
    refine Nat.lt_of_lt_of_le (m := 2 ^ 20) ?_ (Nat.pow_le_pow_right (by decide) (by decide))
    show (xs.sum % 1000003).natAbs < 1048576
    omega
def T_law_generator : Tr := fun ss m Q => ∃ (ns : List Int) (i : Int), ss = [.val (.scr ns), .val (.int i)] ∧ 0 ≤ i ∧ i ≤ 1000 ∧ (∀ z ∈ ns, Builtin.Int.intBits z ≤ 1048576) ∧ ∀ (p : Addr) (m' : Sto), m p = none → GenI m' p 1000000 → Fr m m' p → Q (.adr p) m'
def t_law_generator (K : PySem.W.Frag) : TS := (tSeq (tAsg (tCall (SpD K T_law_cell) [] E0 (tCons (tVar 0) (tCons (tVar 1) tNil))) (gName 2)) (tRet (tLst (tCons (tOp (rD2 K RMod) (tCB (rDN K RInt) (tCons (tCB (rDN K RMax) (tCons (tOp (rD2 K RSub) (tVar 2) (tOp (rD2 K RPow) (tC (.int 10)) (tC (.int 18)))) (tCons (tC (.int 0)) tNil))) tNil)) (tOp (rD2 K RPow) (tOp (rD2 K RPow) (tC (.int 10)) (tC (.int 60))) (tC (.int 10)))) (tCons (tOp (rD2 K RMod) (tCB (rDN K RInt) (tCons (tVar 2) tNil)) (tC (.int 2147483647))) (tCons (tOp (rD2 K RMul) (tC (.int 1000)) (tVar 1)) tNil))))))
theorem m_law_generator {K : PySem.W.Frag} : Ok K ["script", "index", "seed"] T_law_generator (t_law_generator K) := by
  rintro ss m Q ⟨ns, i, rfl, i0, i1, hb, q⟩
  unfold t_law_generator
  repeat walk_at "w"
  refine ⟨ns, i, rfl, i0, hb, fun v hv => ?_⟩
  walk_at "w"
  refine we_lstO ?_
  repeat walk_at "w"
  refine ⟨_, _, _, rfl, rfl, .int (by decide) (by decide), ?_⟩
  walk_at "i2"
  repeat walk_at "w"
  refine ⟨_, _, rfl, .int _ _, ?_⟩
  repeat walk_at "w"
  walk_at "in"
  repeat walk_at "w"
  refine ⟨_, _, _, rfl, rfl, .int (by decide) (by decide +kernel), ?_⟩
  repeat walk_at "w"
  refine ⟨_, _, _, rfl, rfl, .int (by decide) (by decide +kernel), ?_⟩
  refine ⟨_, _, _, rfl, rfl, .int (by decide +kernel), ?_⟩
  repeat walk_at "w"
  walk_at "in"
  repeat walk_at "w"
  refine ⟨_, _, _, rfl, rfl, .int (by decide), ?_⟩
  repeat walk_at "w"
  refine ⟨_, _, _, rfl, rfl, .int (mulOk (B := 1000) (C := 1000) (by decide) (by omega) (by decide +kernel)), ?_⟩
  repeat walk_at "w"
  refine ⟨[.int _, .int _, .int _], rfl, by show (3 : Nat) ≤ 100000; decide, fun p hp => q p _ hp ⟨_, _, _, stS_same, Int.emod_nonneg _ (by decide), Int.emod_lt_of_pos _ (by decide), by omega, by omega⟩ Fr.st⟩
/-! ### forms and points -/
def Row (l : Nat) (B : Int) (ns : List Int) : Prop := ns.length = l ∧ ∀ x ∈ ns, 0 ≤ x ∧ x ≤ B
theorem Row.snoc {l : Nat} {B x : Int} {ns : List Int} (h : Row l B ns) (h1 : 0 ≤ x) (h2 : x ≤ B) : Row (l + 1) B (ns ++ [x]) := ⟨by rw [List.length_append, h.1]; rfl, fun y q => by
  rcases List.mem_append.mp q with q | q
  · exact h.2 y q
  · have := List.mem_singleton.mp q
    subst this
    exact ⟨h1, h2⟩⟩
theorem Row.mono {l : Nat} {B C : Int} {ns : List Int} (h : Row l B ns) (le : B ≤ C) : Row l C ns := ⟨h.1, fun x q => ⟨(h.2 x q).1, Int.le_trans (h.2 x q).2 le⟩⟩
def T_law_form : Tr := fun ss m Q => ∃ (g : Addr) (k n : Nat) (B : Int), ss = [.adr g, .val (.int k), .val (.int B)] ∧ k ≤ 1000 ∧ 0 ≤ B ∧ B + 1 < bMax ∧ GenI m g (n + (k + 1)) ∧ ∀ (ns : List Int) (m' : Sto), Row (k + 1) B ns → GenI m' g n → Fr m m' g → Q (.val (tI ns)) m'
def t_law_form (K : PySem.W.Frag) : TS := (tRet (tCB (rDN K RTup) (tCons (tLc (iRng1 (tCons (tOp (rD2 K RAdd) (tVar 1) (tC (.int 1))) tNil)) (gName 3) tYes (tCall (SpD K T_law_random) [] E0 (tCons (tVar 0) (tCons (tOp (rD2 K RAdd) (tVar 2) (tC (.int 1))) tNil))) [3]) tNil)))
theorem rng_len (j : Int) (n : Nat) : (rngD j n).length = n := by simp [rngD]
theorem m_law_form {K : PySem.W.Frag} : Ok K ["generator", "many", "most", "turn"] T_law_form (t_law_form K) := by
  rintro ss m Q ⟨g, k, n, B, rfl, hk, hB, hB2, hg, q⟩
  unfold t_law_form
  repeat walk_at "w"
  refine we_drawn (ge := g) (js := [3]) 1 n (fun i acc => ∃ ns, acc = ns.map .int ∧ Row i B ns) (by decide) (wi_rng1 ?_)
  repeat walk_at "w"
  walk_at "i2"
  walk_at "w"
  have e1 : ((k : Int) + 1).toNat = k + 1 := by omega
  refine ⟨_, rfl, by omega, by omega, rfl, by rw [rng_len]; omega, by rw [rng_len, e1, Nat.one_mul]; exact hg, ⟨[], rfl, rfl, by simp⟩, ?_, ?_⟩
  · rintro i d acc m' hd ⟨ns, rfl, hr⟩ hG
    have hi := (List.getElem?_eq_some_iff.mp hd).1
    refine wg_name ?_
    repeat walk_at "w"
    walk_at "i2"
    repeat walk_at "w"
    refine ⟨g, B + 1, n + 1 * ((rngD 0 ((k : Int) + 1).toNat).length - i - 1), rfl, ?_, by omega, hB2, fun v m3 v0 v1 hG3 hF => ⟨.int v, rfl, ⟨ns ++ [v], by rw [List.map_append]; rfl, hr.snoc v0 (by omega)⟩, hG3, hF⟩⟩
    exact hG.mono (by omega)
  · rintro acc m' ⟨ns, rfl, hr⟩ hG hF
    rw [rng_len, e1] at hr
    repeat walk_at "w"
    refine ⟨_, _, rfl, .lst _, ?_⟩
    exact q ns m' hr hG hF
def T_law_point : Tr := fun ss m Q => ∃ (g : Addr) (k n : Nat) (B : Int), ss = [.adr g, .val (.int k), .val (.int B)] ∧ k ≤ 1000 ∧ 0 ≤ B ∧ B + 1 < bMax ∧ GenI m g (n + k) ∧ ∀ (ns : List Int) (m' : Sto), Row k B ns → GenI m' g n → Fr m m' g → Q (.val (lI ns)) m'
def t_law_point (K : PySem.W.Frag) : TS := (tRet (tLc (iRng1 (tCons (tVar 1) tNil)) (gName 3) tYes (tCall (SpD K T_law_random) [] E0 (tCons (tVar 0) (tCons (tOp (rD2 K RAdd) (tVar 2) (tC (.int 1))) tNil))) [3]))
theorem m_law_point {K : PySem.W.Frag} : Ok K ["generator", "many", "most", "turn"] T_law_point (t_law_point K) := by
  rintro ss m Q ⟨g, k, n, B, rfl, hk, hB, hB2, hg, q⟩
  unfold t_law_point
  repeat walk_at "w"
  refine we_drawn (ge := g) (js := [3]) 1 n (fun i acc => ∃ ns, acc = ns.map .int ∧ Row i B ns) (by decide) (wi_rng1 ?_)
  repeat walk_at "w"
  have e1 : ((k : Int)).toNat = k := by omega
  refine ⟨_, rfl, by omega, by omega, rfl, by rw [rng_len]; omega, by rw [rng_len, e1, Nat.one_mul]; exact hg, ⟨[], rfl, rfl, by simp⟩, ?_, ?_⟩
  · rintro i d acc m' hd ⟨ns, rfl, hr⟩ hG
    have hi := (List.getElem?_eq_some_iff.mp hd).1
    refine wg_name ?_
    repeat walk_at "w"
    walk_at "i2"
    repeat walk_at "w"
    refine ⟨g, B + 1, n + 1 * ((rngD 0 ((k : Int)).toNat).length - i - 1), rfl, ?_, by omega, hB2, fun v m3 v0 v1 hG3 hF => ⟨.int v, rfl, ⟨ns ++ [v], by rw [List.map_append]; rfl, hr.snoc v0 (by omega)⟩, hG3, hF⟩⟩
    exact hG.mono (by omega)
  · rintro acc m' ⟨ns, rfl, hr⟩ hG hF
    rw [rng_len, e1] at hr
    exact q ns m' hr hG hF
end Cr

/-! CrB: sums over rows. -/
namespace Cr
open PySem PySem.Spec PyProof.Rows L2
local macro_rules | `(tactic| walk_at "w") => `(tactic| first
  | with_reducible refine ws_seq ?_ | with_reducible refine ws_asg ?_ | with_reducible refine ws_ret ?_ | with_reducible refine ws_retN ?_ | with_reducible refine ws_drop ?_ | with_reducible refine ws_if ?_
  | with_reducible refine ws_next ?_ | with_reducible refine ws_par ?_ | with_reducible refine ws_par3 ?_
  | with_reducible refine we_int ?_ | with_reducible refine we_str ?_ | with_reducible refine we_bl ?_ | with_reducible refine we_non ?_ | with_reducible refine we_op ?_ | with_reducible refine we_un ?_
  | with_reducible refine we_cb ?_ | with_reducible refine we_if ?_ | with_reducible refine we_tup ?_ | with_reducible refine we_call ?_ | with_reducible refine wa_cons ?_ | with_reducible refine wa_nil ?_
  | with_reducible refine wt_val ?_ | with_reducible refine wt_test ?_ | with_reducible refine wt_and ?_ | with_reducible refine wt_or ?_ | with_reducible refine wt_not ?_ | with_reducible refine wt_yes ?_
  | with_reducible refine we_andV ?_ | with_reducible refine we_orV ?_ | with_reducible refine we_notV ?_ | with_reducible refine we_chain ?_ | with_reducible refine we_slice ?_ | with_reducible refine wo_none ?_ | with_reducible refine wo_some ?_
  | with_reducible refine we_bits ?_ | refine we_var (by rfl) ?_)
local macro_rules | `(tactic| walk_at "i2") => `(tactic| refine ⟨_, _, _, rfl, rfl, .int _ _, ?_⟩)
local macro_rules | `(tactic| walk_at "in") => `(tactic| refine ⟨_, _, rfl, .int _, ?_⟩)
theorem cut_tail (f : List D) : cutD f (some 1) none = f.tail := by
  unfold cutD
  have e : HT.sIx f.length 0 (some 1) = min 1 f.length := HT.sIx_nat f.length 0 1
  rw [e, HT.sIx_none]
  cases f with
  | nil => rfl
  | cons c cs =>
    have : min 1 (c :: cs).length = 1 := by simp
    rw [this]
    simp
theorem zw (g : Int → Int → Int) : ∀ xs ys : List Int, ((xs.zip ys).filter fun _ => true).map (fun p => D.int (g p.1 p.2)) = (List.zipWith g xs ys).map .int
  | [], _ => rfl
  | _ :: _, [] => rfl
  | x :: xs, y :: ys => by
    have ih := zw g xs ys
    rw [List.zip_cons_cons, List.filter_cons, if_pos rfl, List.map_cons, List.zipWith_cons_cons, List.map_cons, ih]
theorem we_zipW {K : PySem.W.Frag} {r : Ro} {m : Sto} {st : Bool} {a b : Nat} {ta : TA} {te : TE} {Q : Sv → Sto → Prop} (xs ys : List Int) (g : Int → Int → Int) (hl : xs.length ≤ 100000) (hst : st = true → xs.length = ys.length)
    (ha : WA K r m ta fun ss m1 => m1 = m ∧ ∃ b1 b2, ss = [.val (sqD b1 (xs.map .int)), .val (sqD b2 (ys.map .int))])
    (ht : ∀ x y, x ∈ xs → y ∈ ys → ∀ m', WE K (((wipeR r [a, b]).set a (some (.val (.int x)))).set b (some (.val (.int y)))) m' te fun s m3 => s = .val (.int (g x y)) ∧ m3 = m')
    (q : Q (.val (lI (List.zipWith g xs ys))) m) : WE K r m (tLc (iZ K st ta) (gTup K 2 (gCons (gName a) (gCons (gName b) gNil))) tYes te [a, b]) Q := by
  refine we_zipI xs ys (fun _ _ => true) (fun x y => .int (g x y)) hl hst ha (fun x y hm m' => wt_yes ⟨rfl, rfl, fun _ => ht x y (List.of_mem_zip hm).1 (List.of_mem_zip hm).2 m'⟩) ?_
  rw [zw]; exact q
/-! ### sums, differences, below -/
abbrev bSz (ns : List Int) : Prop := ∀ x ∈ ns, x.natAbs ≤ 10 ^ 400
theorem smul_ok {x y : Int} (h1 : x.natAbs ≤ 10 ^ 400) (h2 : y.natAbs ≤ 10 ^ 400) : x.natAbs.log2 + y.natAbs.log2 < 1000000 := mulOk h1 h2 (by decide +kernel)
def valI (f ps : List Int) : Int := f.headD 0 + (List.zipWith (· * ·) f.tail ps).sum
def T_law_value : Tr := fun ss m Q => ∃ (f ps : List Int) (b : Bool), ss = [.val (tI f), .val (sqD b (ps.map .int))] ∧ f ≠ [] ∧ f.length ≤ 1000 ∧ bSz f ∧ bSz ps ∧ Q (.val (.int (valI f ps))) m
def t_law_value (K : PySem.W.Frag) : TS := (tRet (tOp (rD2 K RAdd) (tOp (rD2 K RIx) (tVar 0) (tC (.int 0))) (tCB (rDN K RSum) (tCons (tLc (iZ K false (tCons (tSl (rSlD K) (tVar 0) (tPart (tC (.int 1))) tNoPart) (tCons (tVar 1) tNil))) (gTup K 2 (gCons (gName 2) (gCons (gName 3) gNil))) tYes (tOp (rD2 K RMul) (tVar 2) (tVar 3)) [2, 3]) tNil))))
theorem m_law_value {K : PySem.W.Frag} : Ok K ["form", "point", "number", "count"] T_law_value (t_law_value K) := by
  rintro ss m Q ⟨f, ps, b, rfl, hne, hl, h1, h2, q⟩
  unfold t_law_value
  cases f with
  | nil => exact absurd rfl hne
  | cons c cs =>
    repeat walk_at "w"
    refine ⟨_, _, _, rfl, rfl, .tup (d := .int c) (by unfold atI ixN; rw [if_pos (by decide), if_pos (by rw [List.length_map]; show (0 : Int) < ((cs.length + 1 : Nat) : Int); omega)]; rfl), ?_⟩
    repeat walk_at "w"
    refine we_zipW cs ps (· * ·) (by have : cs.length + 1 ≤ 1000 := hl; omega) (fun z => by cases z) ?_ (fun x y hx hy m' => ?_) ?_
    · repeat walk_at "w"
      refine ⟨1, rfl, ?_⟩
      repeat walk_at "w"
      refine ⟨_, _, rfl, .tup _ _ _, ?_⟩
      repeat walk_at "w"
      refine ⟨rfl, true, b, ?_⟩
      rw [cut_tail]
      rfl
    · repeat walk_at "w"
      exact ⟨_, _, _, rfl, rfl, .int (smul_ok (h1 _ (List.mem_cons_of_mem _ hx)) (h2 _ hy)), rfl, rfl⟩
    · repeat walk_at "w"
      refine ⟨[lI _], _, rfl, .lst _, ?_⟩
      refine ⟨_, _, _, rfl, rfl, .int _ _, ?_⟩
      exact q
def T_law_added : Tr := fun ss m Q => ∃ xs ys : List Int, ss = [.val (tI xs), .val (tI ys)] ∧ xs.length ≤ 100000 ∧ Q (.val (tI (List.zipWith (· + ·) xs ys))) m
def t_law_added (K : PySem.W.Frag) : TS := (tRet (tCB (rDN K RTup) (tCons (tLc (iZ K false (tCons (tVar 0) (tCons (tVar 1) tNil))) (gTup K 2 (gCons (gName 2) (gCons (gName 3) gNil))) tYes (tOp (rD2 K RAdd) (tVar 2) (tVar 3)) [2, 3]) tNil)))
theorem m_law_added {K : PySem.W.Frag} : Ok K ["one", "other", "low", "high"] T_law_added (t_law_added K) := by
  rintro ss m Q ⟨xs, ys, rfl, hl, q⟩
  unfold t_law_added
  repeat walk_at "w"
  refine we_zipW xs ys (· + ·) hl (fun z => by cases z) ?_ (fun x y hx hy m' => ?_) ?_
  · repeat walk_at "w"
    exact ⟨rfl, true, true, rfl⟩
  · repeat walk_at "w"
    exact ⟨_, _, _, rfl, rfl, .int _ _, rfl, rfl⟩
  · repeat walk_at "w"
    exact ⟨[lI _], _, rfl, .lst _, q⟩
def T_law_less : Tr := fun ss m Q => ∃ xs ys : List Int, ss = [.val (tI xs), .val (tI ys)] ∧ xs.length ≤ 100000 ∧ Q (.val (tI (List.zipWith (· - ·) xs ys))) m
def t_law_less (K : PySem.W.Frag) : TS := (tRet (tCB (rDN K RTup) (tCons (tLc (iZ K false (tCons (tVar 0) (tCons (tVar 1) tNil))) (gTup K 2 (gCons (gName 2) (gCons (gName 3) gNil))) tYes (tOp (rD2 K RSub) (tVar 2) (tVar 3)) [2, 3]) tNil)))
theorem m_law_less {K : PySem.W.Frag} : Ok K ["one", "other", "low", "high"] T_law_less (t_law_less K) := by
  rintro ss m Q ⟨xs, ys, rfl, hl, q⟩
  unfold t_law_less
  repeat walk_at "w"
  refine we_zipW xs ys (· - ·) hl (fun z => by cases z) ?_ (fun x y hx hy m' => ?_) ?_
  · repeat walk_at "w"
    exact ⟨rfl, true, true, rfl⟩
  · repeat walk_at "w"
    exact ⟨_, _, _, rfl, rfl, .int _ _, rfl, rfl⟩
  · repeat walk_at "w"
    exact ⟨[lI _], _, rfl, .lst _, q⟩
def lessAll (xs ys : List Int) : Bool := (xs.zip ys).all fun p => decide (p.1 ≤ p.2)
theorem below_nil (xs ys : List Int) : decide (((xs.zip ys).filter fun p => decide (p.2 < p.1)).map (·.1) = []) = lessAll xs ys := by
  unfold lessAll
  generalize xs.zip ys = l
  induction l with
  | nil => rfl
  | cons p l ih =>
    rw [List.filter_cons, List.all_cons, ← ih]
    by_cases h : p.2 < p.1
    · rw [if_pos (decide_eq_true h)]
      have : ¬ p.1 ≤ p.2 := by omega
      simp [this]
    · rw [if_neg (by simpa using h)]
      have : p.1 ≤ p.2 := by omega
      simp [this]
def T_law_below : Tr := fun ss m Q => ∃ xs ys : List Int, ss = [.val (tI xs), .val (tI ys)] ∧ xs.length ≤ 100000 ∧ Q (.val (.bl (lessAll xs ys))) m
theorem below_ok {K : PySem.W.Frag} {st : Bool} {m : Sto} {Q : Sv → Sto → Prop} (xs ys : List Int) (hl : xs.length ≤ 100000) (hst : st = true → xs.length = ys.length) (q : Q (.val (.bl (lessAll xs ys))) m) :
    WE K (startR ["one", "other", "low", "high"] [.val (tI xs), .val (tI ys)]) m (tOp (rD2 K REqR) (tLc (iZ K st (tCons (tVar 0) (tCons (tVar 1) tNil))) (gTup K 2 (gCons (gName 2) (gCons (gName 3) gNil))) (tTest (tOp (rD2 K RGt) (tVar 2) (tVar 3))) (tVar 2) [2, 3]) (tLst tNil)) Q := by
  refine we_op (we_zipI xs ys (fun x y => decide (y < x)) (fun x _ => .int x) hl hst ?_ (fun x y _ m' => ?_) ?_)
  · repeat walk_at "w"
    exact ⟨rfl, true, true, rfl⟩
  · repeat walk_at "w"
    refine ⟨_, _, _, rfl, rfl, .int _ _, ?_⟩
    refine ⟨_, rfl, rfl, rfl, fun _ => ?_⟩
    repeat walk_at "w"
    exact ⟨rfl, rfl⟩
  · refine we_lst ?_
    repeat walk_at "w"
    refine ⟨[], rfl, by decide, ?_⟩
    have e : (((xs.zip ys).filter fun p => decide (p.2 < p.1)).map fun p => D.int p.1) = (((xs.zip ys).filter fun p => decide (p.2 < p.1)).map (·.1)).map .int := by rw [List.map_map]; rfl
    refine ⟨_, _, _, rfl, rfl, .mk (by rw [e]; exact req_nil _), ?_⟩
    rw [below_nil]
    exact q
def t_law_below (K : PySem.W.Frag) : TS := (tRet (tOp (rD2 K REqR) (tLc (iZ K false (tCons (tVar 0) (tCons (tVar 1) tNil))) (gTup K 2 (gCons (gName 2) (gCons (gName 3) gNil))) (tTest (tOp (rD2 K RGt) (tVar 2) (tVar 3))) (tVar 2) [2, 3]) (tLst tNil)))
theorem m_law_below {K : PySem.W.Frag} : Ok K ["one", "other", "low", "high"] T_law_below (t_law_below K) := by
  rintro ss m Q ⟨xs, ys, rfl, hl, q⟩
  unfold t_law_below
  walk_at "w"
  exact below_ok xs ys hl (fun z => by cases z) q
/-- [[0] * many] + three points -/
def T_law_spots : Tr := fun ss m Q => ∃ (g : Addr) (k n : Nat), ss = [.adr g, .val (.int k)] ∧ k ≤ 1000 ∧ GenI m g (n + 3 * k) ∧ ∀ (ps : List (List Int)) (m' : Sto), ps.length = 4 → (∀ p ∈ ps, Row k 3 p) → GenI m' g n → Fr m m' g → Q (.val (.lst (ps.map lI))) m'
def t_law_spots (K : PySem.W.Frag) : TS := (tRet (tOp (rD2 K RAdd) (tLst (tCons (tOp (rD2 K RMul) (tLst (tCons (tC (.int 0)) tNil)) (tVar 1)) tNil)) (tLc (iRng1 (tCons (tC (.int 3)) tNil)) (gName 2) tYes (tCall (SpD K T_law_point) [] E0 (tCons (tVar 0) (tCons (tVar 1) (tCons (tC (.int 3)) tNil)))) [2])))
theorem rep_ints (k : Nat) : (List.replicate k [D.int 0]).flatten = (List.replicate k (0 : Int)).map D.int := by
  induction k with
  | zero => rfl
  | succ k ih => rw [List.replicate_succ, List.replicate_succ, List.flatten_cons, ih]; rfl
theorem m_law_spots {K : PySem.W.Frag} : Ok K ["generator", "many", "turn"] T_law_spots (t_law_spots K) := by
  rintro ss m Q ⟨g, k, n, rfl, hk, hg, q⟩
  unfold t_law_spots
  repeat walk_at "w"
  refine we_lst ?_
  repeat walk_at "w"
  refine we_lst ?_
  repeat walk_at "w"
  refine ⟨[.int 0], rfl, by decide, ?_⟩
  repeat walk_at "w"
  refine ⟨_, _, _, rfl, rfl, .lst (by omega) (by omega) (by simp [szD]; omega), ?_⟩
  repeat walk_at "w"
  have e0 : ((k : Int)).toNat = k := by omega
  refine ⟨[lI (List.replicate k 0)], by rw [e0, rep_ints]; rfl, by show (1 : Nat) ≤ 100000; decide, ?_⟩
  refine we_drawn (ge := g) (js := [2]) k n (fun i acc => ∃ ps : List (List Int), acc = ps.map lI ∧ ps.length = i ∧ ∀ p ∈ ps, Row k 3 p) (by decide) (wi_rng1 ?_)
  repeat walk_at "w"
  refine ⟨3, rfl, by omega, by omega, rfl, by decide, (by rw [rng_len]; exact hg.mono (by show n + k * 3 ≤ _; omega)), ⟨[], rfl, rfl, by simp⟩, ?_, ?_⟩
  · rintro i d acc m' hd ⟨ps, rfl, hpl, hps⟩ hG
    have hi := (List.getElem?_eq_some_iff.mp hd).1
    rw [rng_len] at hi hG ⊢
    refine wg_name ?_
    repeat walk_at "w"
    have e3 : (3 : Int).toNat - i = (3 : Int).toNat - i - 1 + 1 := by omega
    refine ⟨g, k, n + k * ((3 : Int).toNat - i - 1), 3, rfl, hk, by decide, by decide +kernel, by rw [e3, Nat.mul_add, Nat.mul_one] at hG; exact hG.mono (by omega), fun ns m3 hr hG3 hF => ⟨_, rfl, ⟨ps ++ [ns], by rw [List.map_append]; rfl, by rw [List.length_append, hpl]; rfl, ?_⟩, hG3, hF⟩⟩
    intro p hp
    rcases List.mem_append.mp hp with h | h
    · exact hps p h
    · rw [List.mem_singleton.mp h]; exact hr
  · rintro acc m' ⟨ps, rfl, hpl, hps⟩ hG hF
    rw [rng_len] at hpl
    refine ⟨_, _, _, rfl, rfl, .lst (by simp [szD, hpl]), ?_⟩
    refine q (List.replicate k 0 :: ps) m' (by simp [hpl]) (fun p hp => ?_) hG hF
    rcases List.mem_cons.mp hp with h | h
    · rw [h]
      exact ⟨by simp, fun x hx => by rw [List.eq_of_mem_replicate hx]; decide⟩
    · exact hps p h
end Cr

/-! CrK: kinds. -/
namespace Cr
open PySem PySem.Spec PyProof.Rows L2
local macro_rules | `(tactic| walk_at "w") => `(tactic| first
  | with_reducible refine ws_seq ?_ | with_reducible refine ws_asg ?_ | with_reducible refine ws_ret ?_ | with_reducible refine ws_retN ?_ | with_reducible refine ws_drop ?_ | with_reducible refine ws_if ?_
  | with_reducible refine ws_next ?_ | with_reducible refine ws_par ?_ | with_reducible refine ws_par3 ?_
  | with_reducible refine we_int ?_ | with_reducible refine we_str ?_ | with_reducible refine we_bl ?_ | with_reducible refine we_non ?_ | with_reducible refine we_op ?_ | with_reducible refine we_un ?_
  | with_reducible refine we_cb ?_ | with_reducible refine we_if ?_ | with_reducible refine we_tup ?_ | with_reducible refine we_call ?_ | with_reducible refine wa_cons ?_ | with_reducible refine wa_nil ?_
  | with_reducible refine wt_val ?_ | with_reducible refine wt_test ?_ | with_reducible refine wt_and ?_ | with_reducible refine wt_or ?_ | with_reducible refine wt_not ?_ | with_reducible refine wt_yes ?_
  | with_reducible refine we_andV ?_ | with_reducible refine we_orV ?_ | with_reducible refine we_notV ?_ | with_reducible refine we_chain ?_ | with_reducible refine we_slice ?_ | with_reducible refine wo_none ?_ | with_reducible refine wo_some ?_
  | with_reducible refine we_bits ?_ | refine we_var (by rfl) ?_)
local macro_rules | `(tactic| walk_at "i2") => `(tactic| refine ⟨_, _, _, rfl, rfl, .int _ _, ?_⟩)
local macro_rules | `(tactic| walk_at "in") => `(tactic| refine ⟨_, _, rfl, .int _, ?_⟩)
/-! ### plain data -/
def Plain (d : D) : Prop := ∃ p, d.py = some p ∧ p.canLay0 = true ∧ p.depth ≤ 60
theorem plain_int (i : Int) : Plain (.int i) := ⟨_, rfl, by simp [PyData.canLay0], by simp [PyData.depth]⟩
theorem plain_bl (i : Bool) : Plain (.bl i) := ⟨_, rfl, by simp [PyData.canLay0], by simp [PyData.depth]⟩
theorem plain_non : Plain .non := ⟨_, rfl, by simp [PyData.canLay0], by simp [PyData.depth]⟩
theorem plain_tI (ns : List Int) : Plain (tI ns) := ⟨_, py_tI ns, by simp only [PyData.canLay0, canLayAll_ints], by have := depthAll_ints ns; simp only [PyData.depth]; omega⟩
theorem plain_lI (ns : List Int) : Plain (lI ns) := ⟨_, py_lI ns, by simp only [PyData.canLay0, canLayAll_ints], by have := depthAll_ints ns; simp only [PyData.depth]; omega⟩
theorem pyA_of : ∀ {ds : List D}, (∀ d ∈ ds, Plain d) → ∃ ps, D.pyA ds = some ps ∧ ps.length = ds.length ∧ PyData.canLayAll0 ps = true ∧ PyData.depthAll ps ≤ 60
  | [], _ => ⟨[], rfl, rfl, by simp [PyData.canLayAll0], by simp [PyData.depthAll]⟩
  | d :: ds, h => by
    obtain ⟨p, h1, h2, h3⟩ := h d List.mem_cons_self
    obtain ⟨ps, i1, i2, i3, i4⟩ := pyA_of fun e q => h e (List.mem_cons_of_mem _ q)
    refine ⟨p :: ps, by simp [D.pyA, h1, i1], by rw [List.length_cons, List.length_cons, i2], by simp [PyData.canLayAll0, h2, i3], ?_⟩
    simp only [PyData.depthAll]
    omega
theorem reqL_nil {ds : List D} (h : ∀ d ∈ ds, Plain d) : REq (.lst ds) (.lst []) ds.isEmpty := by
  obtain ⟨ps, h1, h2, h3, h4⟩ := pyA_of h
  have k1 : SeqAt.shaped (.list ps) = true := by
    unfold SeqAt.shaped
    rw [Bool.and_eq_true]
    exact ⟨by simpa only [PyData.canLay0] using h3, decide_eq_true (by simp only [PyData.depth]; omega)⟩
  have e := REq.deep (a := .lst ds) (b := .lst []) (by simp only [D.py, h1]; rfl) (by rfl) k1 (shaped_lI [])
  have e2 : PyData.eqv (.list ps) (.list (([] : List Int).map .int)) = ds.isEmpty := by
    simp only [PyData.eqv, List.map_nil]
    cases ps with
    | nil =>
      cases ds with
      | nil => simp [PyData.eqvAll]
      | cons _ _ => cases h2
    | cons p ps =>
      cases ds with
      | nil => cases h2
      | cons _ _ => simp [PyData.eqvAll]
  rw [e2] at e
  exact e
theorem Plain.tn {d : D} (h : Plain d) : d.tn.isSome = true := by
  obtain ⟨p, h1, _⟩ := h
  cases d <;> first | rfl | (simp [D.py] at h1)
def isInt : D → Bool
  | .int _ => true
  | .bl _ => true
  | _ => false
def isBl : D → Bool
  | .bl _ => true
  | _ => false
def isStr : D → Bool
  | .str _ => true
  | _ => false
def isTup : D → Bool
  | .tup _ => true
  | _ => false
def isLst : D → Bool
  | .lst _ => true
  | .scr _ => true
  | _ => false
theorem isi_int {d : D} (h : d.tn.isSome = true) : RIsi [d, .ty "int"] (.v (.bl (isInt d))) := by
  cases d <;> first | exact .one (b := true) rfl (by decide +kernel) | exact .one (b := false) rfl (by decide +kernel) | cases h
theorem isi_bl {d : D} (h : d.tn.isSome = true) : RIsi [d, .ty "bool"] (.v (.bl (isBl d))) := by
  cases d <;> first | exact .one (b := true) rfl (by decide +kernel) | exact .one (b := false) rfl (by decide +kernel) | cases h
theorem isi_str {d : D} (h : d.tn.isSome = true) : RIsi [d, .ty "str"] (.v (.bl (isStr d))) := by
  cases d <;> first | exact .one (b := true) rfl (by decide +kernel) | exact .one (b := false) rfl (by decide +kernel) | cases h
theorem isi_tup {d : D} (h : d.tn.isSome = true) : RIsi [d, .ty "tuple"] (.v (.bl (isTup d))) := by
  cases d <;> first | exact .one (b := true) rfl (by decide +kernel) | exact .one (b := false) rfl (by decide +kernel) | cases h
theorem isi_lst {d : D} (h : d.tn.isSome = true) : RIsi [d, .ty "list"] (.v (.bl (isLst d))) := by
  cases d <;> first | exact .one (b := true) rfl (by decide +kernel) | exact .one (b := false) rfl (by decide +kernel) | cases h
/-! ### kinds -/
def wholeD : D → Bool
  | .int _ => true
  | _ => false
def T_is_whole : Tr := fun ss m Q => ∃ d, ss = [.val d] ∧ Plain d ∧ Q (.val (.bl (wholeD d))) m
def t_is_whole (K : PySem.W.Frag) : TS := (tRet (tAndV (tCB (rDN K RIsi) (tCons (tVar 0) (tCons (tC (.ty "int")) tNil))) (tNotV (tCB (rDN K RIsi) (tCons (tVar 0) (tCons (tC (.ty "bool")) tNil))))))
theorem we_ty {K : PySem.W.Frag} {r : Ro} {m : Sto} {n : String} {Q : Sv → Sto → Prop} (q : Q (.val (.ty n)) m) : WE K r m (tC (.ty n)) Q := we_c (fun _ => .ty n) q
theorem m_is_whole {K : PySem.W.Frag} : Ok K ["value"] T_is_whole (t_is_whole K) := by
  rintro ss m Q ⟨d, rfl, hp, q⟩
  unfold t_is_whole
  repeat walk_at "w"
  refine we_ty ?_
  repeat walk_at "w"
  refine ⟨[d, .ty "int"], _, rfl, isi_int hp.tn, ?_⟩
  refine ⟨_, rfl, ite_b (fun h => ?_) (fun h => ?_)⟩
  · repeat walk_at "w"
    refine we_ty ?_
    repeat walk_at "w"
    refine ⟨[d, .ty "bool"], _, rfl, isi_bl hp.tn, ?_⟩
    refine ⟨_, rfl, ?_⟩
    have e : wholeD d = !isBl d := by cases d <;> first | rfl | cases h
    rw [← e]
    exact q
  · have e : wholeD d = false := by cases d <;> first | rfl | cases h
    rw [← e]
    exact q
def hiD : Option Int → D
  | none => .non
  | some i => .int i
def betD (d : D) (lo : Int) (hi : Option Int) : Bool := match d with
  | .int i => decide (lo ≤ i) && (match hi with | none => true | some h => decide (i ≤ h))
  | _ => false
def T_is_between : Tr := fun ss m Q => ∃ (d : D) (lo : Int) (hi : Option Int), ss = [.val d, .val (.int lo), .val (hiD hi)] ∧ Plain d ∧ Q (.val (.bl (betD d lo hi))) m
def t_is_between (K : PySem.W.Frag) : TS := (tRet (tAndV (tCall (SpD K T_is_whole) [] E0 (tCons (tVar 0) tNil)) (tAndV (tOp (rD2 K RLe) (tVar 1) (tVar 0)) (tOrV (tOp (rD2 K RIsR) (tVar 2) (tC .non)) (tOp (rD2 K RLe) (tVar 0) (tVar 2))))))
theorem m_is_between {K : PySem.W.Frag} : Ok K ["value", "low", "high"] T_is_between (t_is_between K) := by
  rintro ss m Q ⟨d, lo, hi, rfl, hp, q⟩
  unfold t_is_between
  repeat walk_at "w"
  refine ⟨d, rfl, hp, ?_⟩
  cases d with
  | int i =>
    refine ⟨true, rfl, ?_⟩
    rw [if_pos rfl]
    repeat walk_at "w"
    walk_at "i2"
    refine ⟨_, rfl, ite_dec (fun h => ?_) (fun h => ?_)⟩
    · cases hi with
      | none =>
        repeat walk_at "w"
        refine ⟨_, _, _, rfl, rfl, .mk (.non _), ?_⟩
        refine ⟨true, rfl, ?_⟩
        rw [if_pos rfl]
        simpa [betD, h, Rs.d] using q
      | some z =>
        repeat walk_at "w"
        refine ⟨_, _, _, rfl, rfl, .mk (.non _), ?_⟩
        refine ⟨false, rfl, ?_⟩
        rw [if_neg Bool.false_ne_true]
        repeat walk_at "w"
        walk_at "i2"
        simpa [betD, h, Rs.d] using q
    · simpa [betD, h, Rs.d] using q
  | _ => exact ⟨false, rfl, q⟩
def cntD (d : D) : Bool := betD d 0 none
def T_are_counts : Tr := fun ss m Q => ∃ (b : Bool) (ds : List D), ss = [.val (sqD b ds)] ∧ ds.length ≤ 100000 ∧ (∀ d ∈ ds, Plain d) ∧ Q (.val (.bl (ds.all cntD))) m
def t_are_counts (K : PySem.W.Frag) : TS := (tRet (tOp (rD2 K REqR) (tLc (iD K (tVar 0)) (gName 1) (tNot (tB (tCall (SpD K T_is_between) [] E0 (tCons (tVar 1) (tCons (tC (.int 0)) (tCons (tC .non) tNil)))))) (tVar 1) [1]) (tLst tNil)))
theorem all_empty (f : D → Bool) (ds : List D) : ((ds.filter fun d => !f d).map fun d => d).isEmpty = ds.all f := by
  rw [List.map_id']
  induction ds with
  | nil => rfl
  | cons d ds ih =>
    rw [List.filter_cons, List.all_cons, ← ih]
    cases f d <;> simp
theorem m_are_counts {K : PySem.W.Frag} : Ok K ["items", "item"] T_are_counts (t_are_counts K) := by
  rintro ss m Q ⟨b, ds, rfl, hl, hp, q⟩
  unfold t_are_counts
  repeat walk_at "w"
  refine we_lc (js := [1]) (by decide) (wi_D ?_)
  repeat walk_at "w"
  refine ⟨b, ds, rfl, hl, rfl, fun d => !cntD d, fun d => d, fun d hd m' => ?_, ?_⟩
  · refine wg_name ?_
    repeat walk_at "w"
    refine ⟨d, 0, none, rfl, hp d hd, ?_⟩
    refine ⟨_, rfl, rfl, rfl, fun _ => ?_⟩
    repeat walk_at "w"
    exact ⟨rfl, rfl⟩
  · refine we_lst ?_
    repeat walk_at "w"
    refine ⟨[], rfl, by decide, ?_⟩
    refine ⟨_, _, _, rfl, rfl, .mk (reqL_nil fun d hd => ?_), ?_⟩
    · rw [List.map_id'] at hd
      exact hp d (List.mem_filter.mp hd).1
    · rw [all_empty]
      exact q
def formD (k : Int) : D → Bool
  | .tup ds => decide ((ds.length : Int) = k + 1) && ds.all cntD
  | _ => false
def PlainV (d : D) : Prop := d.tn.isSome = true ∧ ∀ ds, d = .tup ds → ds.length ≤ 100000 ∧ ∀ e ∈ ds, Plain e
theorem plainV_tI {ns : List Int} (h : ns.length ≤ 100000) : PlainV (tI ns) := ⟨rfl, fun ds e => by
  cases e
  refine ⟨by rw [List.length_map]; exact h, fun e he => ?_⟩
  obtain ⟨i, _, rfl⟩ := List.mem_map.mp he
  exact plain_int i⟩
def T_is_form_for : Tr := fun ss m Q => ∃ (k : Int) (d : D), ss = [.val (.int k), .val d] ∧ PlainV d ∧ Q (.val (.bl (formD k d))) m
def t_is_form_for (K : PySem.W.Frag) : TS := (tRet (tAndV (tCB (rDN K RIsi) (tCons (tVar 1) (tCons (tC (.ty "tuple")) tNil))) (tAndV (tOp (rD2 K REqR) (tCB (rDN K RLen) (tCons (tVar 1) tNil)) (tOp (rD2 K RAdd) (tVar 0) (tC (.int 1)))) (tCall (SpD K T_are_counts) [] E0 (tCons (tVar 1) tNil)))))
theorem m_is_form_for {K : PySem.W.Frag} : Ok K ["many", "value"] T_is_form_for (t_is_form_for K) := by
  rintro ss m Q ⟨k, d, rfl, ⟨hp, hv⟩, q⟩
  unfold t_is_form_for
  repeat walk_at "w"
  refine we_ty ?_
  repeat walk_at "w"
  refine ⟨[d, .ty "tuple"], _, rfl, isi_tup hp, ?_⟩
  refine ⟨_, rfl, ite_b (fun h => ?_) (fun h => ?_)⟩
  · cases d with
    | tup ds =>
      obtain ⟨h1, h2⟩ := hv ds rfl
      repeat walk_at "w"
      refine ⟨_, _, rfl, .tup _, ?_⟩
      repeat walk_at "w"
      walk_at "i2"
      refine ⟨_, _, _, rfl, rfl, .mk (.int _ _), ?_⟩
      refine ⟨_, rfl, ite_dec (fun h => ?_) (fun h => ?_)⟩
      · repeat walk_at "w"
        refine ⟨true, ds, rfl, h1, h2, ?_⟩
        have e : formD k (.tup ds) = ds.all cntD := by simp [formD, h]
        rw [← e]
        exact q
      · have e : formD k (.tup ds) = false := by simp [formD, h]
        rw [← e]
        exact q
    | _ => cases h
  · have e : formD k d = false := by cases d <;> first | rfl | cases h
    rw [← e]
    exact q
/-! ### checks that let -/
def T_check_number : Tr := fun ss m Q => ∃ (i lo : Int) (hi : Option Int), ss = [.val (.int i), .val (.int lo), .val (hiD hi)] ∧ betD (.int i) lo hi = true ∧ Q (.val .non) m
def t_check_number (K : PySem.W.Frag) : TS := (tIfS (tNot (tB (tCall (SpD K T_is_between) [] E0 (tCons (tVar 0) (tCons (tVar 1) (tCons (tVar 2) tNil)))))) tNever tNext)
theorem m_check_number {K : PySem.W.Frag} : Ok K ["number", "low", "high"] T_check_number (t_check_number K) := by
  rintro ss m Q ⟨i, lo, hi, rfl, h, q⟩
  unfold t_check_number
  repeat walk_at "w"
  refine ⟨.int i, lo, hi, rfl, plain_int i, ?_⟩
  rw [h]
  refine ⟨true, rfl, ?_⟩
  show if (!true) = true then _ else _
  rw [if_neg (by decide)]
  walk_at "w"
  exact q
def T_check_many : Tr := fun ss m Q => ∃ i : Int, ss = [.val (.int i)] ∧ 0 ≤ i ∧ i ≤ 3 ∧ Q (.val .non) m
def t_check_many (K : PySem.W.Frag) : TS := (tDrop (tCall (SpD K T_check_number) [] E0 (tCons (tVar 0) (tCons (tC (.int 0)) (tCons (tC (.int 3)) tNil)))))
theorem m_check_many {K : PySem.W.Frag} : Ok K ["many"] T_check_many (t_check_many K) := by
  rintro ss m Q ⟨i, rfl, h1, h2, q⟩
  unfold t_check_many
  repeat walk_at "w"
  exact ⟨i, 0, some 3, rfl, by simp [betD, h1, h2], q⟩
theorem formD_tI {k : Nat} {B : Int} {ns : List Int} (h : Row (k + 1) B ns) : formD k (tI ns) = true := by
  have h1 : (ns.map D.int).all cntD = true := by
    rw [List.all_map, List.all_eq_true]
    intro x hx
    have := (h.2 x hx).1
    simp [cntD, betD, this]
  show (decide (((ns.map D.int).length : Int) = (k : Int) + 1) && (ns.map D.int).all cntD) = true
  rw [h1, Bool.and_true, List.length_map, h.1]
  exact decide_eq_true (by omega)
def T_check_form : Tr := fun ss m Q => ∃ (k : Nat) (B : Int) (ns : List Int), ss = [.val (.int k), .val (tI ns)] ∧ k ≤ 1000 ∧ Row (k + 1) B ns ∧ Q (.val .non) m
def t_check_form (K : PySem.W.Frag) : TS := (tIfS (tNot (tB (tCall (SpD K T_is_form_for) [] E0 (tCons (tVar 0) (tCons (tVar 1) tNil))))) tNever tNext)
theorem m_check_form {K : PySem.W.Frag} : Ok K ["many", "form"] T_check_form (t_check_form K) := by
  rintro ss m Q ⟨k, B, ns, rfl, hk, hr, q⟩
  unfold t_check_form
  repeat walk_at "w"
  refine ⟨k, tI ns, rfl, plainV_tI (by rw [hr.1]; omega), ?_⟩
  rw [formD_tI hr]
  refine ⟨true, rfl, ?_⟩
  show if (!true) = true then _ else _
  rw [if_neg (by decide)]
  walk_at "w"
  exact q
/-! ### forms -/
def T_form_below : Tr := fun ss m Q => ∃ xs ys : List Int, ss = [.val (tI xs), .val (tI ys)] ∧ xs.length ≤ 100000 ∧ xs.length = ys.length ∧ Q (.val (.bl (lessAll xs ys))) m
def t_form_below (K : PySem.W.Frag) : TS := (tRet (tOp (rD2 K REqR) (tLc (iZ K true (tCons (tVar 0) (tCons (tVar 1) tNil))) (gTup K 2 (gCons (gName 2) (gCons (gName 3) gNil))) (tTest (tOp (rD2 K RGt) (tVar 2) (tVar 3))) (tVar 2) [2, 3]) (tLst tNil)))
theorem m_form_below {K : PySem.W.Frag} : Ok K ["one", "other", "low", "high"] T_form_below (t_form_below K) := by
  rintro ss m Q ⟨xs, ys, rfl, hl, he, q⟩
  unfold t_form_below
  walk_at "w"
  exact below_ok xs ys hl (fun _ => he) q
def T_form_sum : Tr := fun ss m Q => ∃ xs ys : List Int, ss = [.val (tI xs), .val (tI ys)] ∧ xs.length ≤ 100000 ∧ xs.length = ys.length ∧ Q (.val (tI (List.zipWith (· + ·) xs ys))) m
def t_form_sum (K : PySem.W.Frag) : TS := (tRet (tCB (rDN K RTup) (tCons (tLc (iZ K true (tCons (tVar 0) (tCons (tVar 1) tNil))) (gTup K 2 (gCons (gName 2) (gCons (gName 3) gNil))) tYes (tOp (rD2 K RAdd) (tVar 2) (tVar 3)) [2, 3]) tNil)))
theorem m_form_sum {K : PySem.W.Frag} : Ok K ["one", "other", "low", "high"] T_form_sum (t_form_sum K) := by
  rintro ss m Q ⟨xs, ys, rfl, hl, he, q⟩
  unfold t_form_sum
  repeat walk_at "w"
  refine we_zipW xs ys (· + ·) hl (fun _ => he) ?_ (fun x y hx hy m' => ?_) ?_
  · repeat walk_at "w"
    exact ⟨rfl, true, true, rfl⟩
  · repeat walk_at "w"
    exact ⟨_, _, _, rfl, rfl, .int _ _, rfl, rfl⟩
  · repeat walk_at "w"
    exact ⟨[lI _], _, rfl, .lst _, q⟩
def T_form_times : Tr := fun ss m Q => ∃ (c : Int) (xs : List Int), ss = [.val (.int c), .val (tI xs)] ∧ xs.length ≤ 100000 ∧ c.natAbs ≤ 10 ^ 400 ∧ bSz xs ∧ Q (.val (tI (xs.map (c * ·)))) m
def t_form_times (K : PySem.W.Frag) : TS := (tRet (tCB (rDN K RTup) (tCons (tLc (iD K (tVar 1)) (gName 2) tYes (tOp (rD2 K RMul) (tVar 0) (tVar 2)) [2]) tNil)))
theorem m_form_times {K : PySem.W.Frag} : Ok K ["number", "form", "item"] T_form_times (t_form_times K) := by
  rintro ss m Q ⟨c, xs, rfl, hl, hc, hx, q⟩
  unfold t_form_times
  repeat walk_at "w"
  refine we_eachI xs (fun _ => true) (fun x => .int (c * x)) hl (wi_D ?_) (fun x hxm m' => ?_) ?_
  · repeat walk_at "w"
    exact ⟨true, xs.map .int, rfl, rfl, rfl⟩
  · repeat walk_at "w"
    refine ⟨rfl, rfl, fun _ => ?_⟩
    repeat walk_at "w"
    exact ⟨_, _, _, rfl, rfl, .int (smul_ok hc (hx x hxm)), rfl, rfl⟩
  · repeat walk_at "w"
    have e : (xs.filter fun _ => true).map (fun x => D.int (c * x)) = (xs.map (c * ·)).map .int := by rw [List.filter_eq_self.mpr (fun _ _ => rfl), List.map_map]; rfl
    rw [e]
    exact ⟨[lI _], _, rfl, .lst _, q⟩
end Cr

namespace L11
open PySem PySem.Spec PyProof.Rows L2 Cr
abbrev add (xs ys : List Int) : List Int := List.zipWith (· + ·) xs ys
def ins (found : List Int) : List (Int × List Int) → List Int
  | [] => found
  | p :: ps => ins (add found (p.2.map (p.1 * ·))) ps
abbrev Big : Int := 10 ^ 100
/-- a point that shows it, or none -/
def Sh (k : Nat) (B : Int) (f g : List Int) (d : D) : Prop := (lessAll f g = true ∧ d = .non) ∨ (lessAll f g = false ∧ ∃ t, d = lI t ∧ Row k (B + 1) t ∧ valI g t < valI f t)
def T_law_near : Tr := fun ss m Q => ∃ (g : Addr) (k n : Nat) (B : Int) (f : List Int), ss = [.adr g, .val (tI f), .val (.int B)] ∧ k ≤ 3 ∧ 0 ≤ B ∧ B + 10 < bMax ∧ Row (k + 1) B f ∧ GenI m g (n + 10) ∧ ∀ (ns : List Int) (m' : Sto), Row (k + 1) (B + 1) ns → GenI m' g n → Fr m m' g → Q (.val (tI ns)) m'
def T_is_any_form : Tr := fun ss m Q => ∃ (k : Nat) (B : Int) (f : List Int), ss = [.val (tI f)] ∧ k ≤ 3 ∧ Row (k + 1) B f ∧ Q (.val (.bl true)) m
def T_check_any_form : Tr := fun ss m Q => ∃ (k : Nat) (B : Int) (f : List Int), ss = [.val (tI f)] ∧ k ≤ 3 ∧ Row (k + 1) B f ∧ Q (.val .non) m
def T_is_point : Tr := fun ss m Q => ∃ (k : Nat) (B : Int) (f : List Int), ss = [.val (.int k), .val (lI f)] ∧ k ≤ 3 ∧ Row k B f ∧ Q (.val (.bl true)) m
def T_check_point : Tr := fun ss m Q => ∃ (k : Nat) (B : Int) (f : List Int), ss = [.val (.int k), .val (lI f)] ∧ k ≤ 3 ∧ Row k B f ∧ Q (.val .non) m
def T_value_at : Tr := fun ss m Q => ∃ (k : Nat) (f t : List Int), ss = [.val (tI f), .val (lI t)] ∧ k ≤ 3 ∧ Row (k + 1) Big f ∧ Row k Big t ∧ Q (.val (.int (valI f t))) m
def T_value : Tr := fun ss m Q => ∃ (k : Nat) (f t : List Int), ss = [.val (tI f), .val (lI t)] ∧ k ≤ 3 ∧ Row (k + 1) Big f ∧ Row k Big t ∧ Q (.val (.int (valI f t))) m
def T_law_is_whole : Tr := fun ss m Q => ∃ i : Int, ss = [.val (.int i), .val (.int i)] ∧ Q (.val (.bl true)) m
def T_check_two_forms : Tr := fun ss m Q => ∃ (k : Nat) (B : Int) (f g : List Int), ss = [.val (tI f), .val (tI g)] ∧ k ≤ 3 ∧ Row (k + 1) B f ∧ Row (k + 1) B g ∧ Q (.val .non) m
def T_added : Tr := fun ss m Q => ∃ (k : Nat) (B : Int) (f g : List Int), ss = [.val (tI f), .val (tI g)] ∧ k ≤ 3 ∧ Row (k + 1) B f ∧ Row (k + 1) B g ∧ Q (.val (tI (add f g))) m
def T_scaled : Tr := fun ss m Q => ∃ (k : Nat) (c : Int) (f : List Int), ss = [.val (.int c), .val (tI f)] ∧ k ≤ 3 ∧ 0 ≤ c ∧ c ≤ Big ∧ Row (k + 1) Big f ∧ Q (.val (tI (f.map (c * ·)))) m
def T_law_point_above : Tr := fun ss m Q => ∃ (k : Nat) (B : Int) (f g : List Int), ss = [.val (tI f), .val (tI g)] ∧ k ≤ 3 ∧ B ≤ 10 ^ 40 ∧ Row (k + 1) B f ∧ Row (k + 1) B g ∧ ∀ d, Sh k B f g d → Q (.val d) m
def T_below : Tr := fun ss m Q => ∃ (k : Nat) (B : Int) (f g : List Int), ss = [.val (tI f), .val (tI g)] ∧ k ≤ 3 ∧ Row (k + 1) B f ∧ Row (k + 1) B g ∧ Q (.val (.bl (lessAll f g))) m
def T_law_yes : Tr := fun ss m Q => ∃ b : Bool, ss = [.val (.bl b), .val (.bl b)] ∧ Q (.val (.bl true)) m
def T_check_forms : Tr := fun ss m Q => ∃ (k : Nat) (B : Int) (fs : List (List Int)), ss = [.val (.int k), .val (.lst (fs.map tI)), .val (.int fs.length)] ∧ k ≤ 3 ∧ fs.length ≤ 3 ∧ (∀ f ∈ fs, Row (k + 1) B f) ∧ Q (.val .non) m
def T_plain : Tr := fun ss m Q => ∃ (k : Nat) (c : Int), ss = [.val (.int k), .val (.int c)] ∧ k ≤ 3 ∧ Q (.val (tI (c :: List.replicate k 0))) m
def T_form_inserted : Tr := fun ss m Q => ∃ (k l : Nat) (c : Int) (cs : List Int) (fs : List (List Int)), ss = [.val (tI (c :: cs)), .val (.int k), .val (.lst (fs.map tI))] ∧ k ≤ 3 ∧ l ≤ 3 ∧ cs.length = l ∧ fs.length = l ∧ (∀ x ∈ cs, x.natAbs ≤ 10 ^ 40) ∧
  (∀ f ∈ fs, Row (k + 1) (10 ^ 40) f) ∧ Q (.val (tI (ins (c :: List.replicate k 0) (cs.zip fs)))) m
def T_inserted : Tr := fun ss m Q => ∃ (k l : Nat) (c : Int) (cs : List Int) (fs : List (List Int)), ss = [.val (tI (c :: cs)), .val (.int k), .val (.lst (fs.map tI))] ∧ k ≤ 3 ∧ l ≤ 3 ∧ Row (l + 1) (10 ^ 40) (c :: cs) ∧ fs.length = l ∧
  (∀ f ∈ fs, Row (k + 1) (10 ^ 40) f) ∧ Q (.val (tI (ins (c :: List.replicate k 0) (cs.zip fs)))) m
def T_is_form : Tr := fun ss m Q => ∃ (k : Nat) (d : D), ss = [.val (.int k), .val d] ∧ k ≤ 3 ∧ PlainV d ∧ Q (.val (.bl (formD k d))) m
def T_law_right : Tr := fun ss m Q => ∃ (g : Addr), ss = [.adr g] ∧ GenI m g 1000000 ∧ ∀ m', Q (.val (.bl true)) m'
def T_law : Tr := LawT 63
end L11

namespace L11
open PySem PySem.Spec PyProof.Rows L2 Cr
abbrev N_law_cell : List Str := ["script", "index"]
abbrev P_law_cell : List Str := ["script", "index"]
def t_law_cell (K : PySem.W.Frag) : TS := (tSeq (tIfS (tTest (tOp (rD2 K RLt) (tVar 1) (tCB (rDN K RLen) (tCons (tVar 0) tNil)))) (tRet (tOp (rD2 K RIx) (tVar 0) (tVar 1))) tNext) (tRet (tOp (rD2 K RMod) (tCB (rDN K RSum) (tCons (tSl (rSlD K) (tVar 0) tNoPart (tPart (tC (.int 1)))) tNil)) (tC (.int 1000003)))))
abbrev N_law_generator : List Str := ["script", "index", "seed"]
abbrev P_law_generator : List Str := ["script", "index"]
def t_law_generator (K : PySem.W.Frag) : TS := (tSeq (tAsg (tCall (SpD K T_law_cell) [] E0 (tCons (tVar 0) (tCons (tVar 1) tNil))) (gName 2)) (tRet (tLst (tCons (tOp (rD2 K RMod) (tCB (rDN K RInt) (tCons (tCB (rDN K RMax) (tCons (tOp (rD2 K RSub) (tVar 2) (tOp (rD2 K RPow) (tC (.int 10)) (tC (.int 18)))) (tCons (tC (.int 0)) tNil))) tNil)) (tOp (rD2 K RPow) (tOp (rD2 K RPow) (tC (.int 10)) (tC (.int 60))) (tC (.int 10)))) (tCons (tOp (rD2 K RMod) (tCB (rDN K RInt) (tCons (tVar 2) tNil)) (tC (.int 2147483647))) (tCons (tOp (rD2 K RMul) (tC (.int 1000)) (tVar 1)) tNil))))))
abbrev N_law_hash : List Str := ["seed", "index", "mixed"]
abbrev P_law_hash : List Str := ["seed", "index"]
def t_law_hash (K : PySem.W.Frag) : TS := (tSeq (tAsg (tOp (rD2 K RMod) (tCB (rDN K RInt) (tCons (tOp (rD2 K RAdd) (tOp (rD2 K RAdd) (tOp (rD2 K RAdd) (tOp (rD2 K RMul) (tVar 0) (tC (.int 1140671))) (tOp (rD2 K RMul) (tOp (rD2 K RMul) (tC (.int 27644437)) (tVar 1)) (tVar 1))) (tOp (rD2 K RMul) (tC (.int 131)) (tVar 1))) (tC (.int 19))) tNil)) (tC (.int 2147483629))) (gName 2)) (tSeq (tAsg (tOp (rD2 K RMod) (tCB (rDN K RInt) (tCons (tOp (rD2 K RAdd) (tOp (rD2 K RAdd) (tOp (rD2 K RMul) (tVar 2) (tVar 2)) (tOp (rD2 K RMul) (tC (.int 62089)) (tVar 1))) (tC (.int 32416187))) tNil)) (tC (.int 2147483587))) (gName 2)) (tRet (tOp (rD2 K RMod) (tCB (rDN K RInt) (tCons (tOp (rD2 K RMul) (tVar 2) (tC (.int 48271))) tNil)) (tC (.int 2147483647))))))
abbrev N_law_random : List Str := ["generator", "bound", "drawn", "turn"]
abbrev P_law_random : List Str := ["generator", "bound"]
def t_law_random (K : PySem.W.Frag) : TS := (tSeq (tIfS (tTest (tOp (rD2 K RGt) (tOp (rD2 K RIx) (tVar 0) (tC (.int 0))) (tC (.int 0)))) (tSeq (tAsg (tOp (rD2 K RMod) (tCB (rDN K RInt) (tCons (tOp (rD2 K RIx) (tVar 0) (tC (.int 0))) tNil)) (tVar 1)) (gName 2)) (tSeq (tAsg (tOp (rD2 K RFdiv) (tOp (rD2 K RIx) (tVar 0) (tC (.int 0))) (tVar 1)) (gSub (tVar 0) (tC (.int 0)) rSetL)) (tRet (tVar 2)))) tNext) (tSeq (tAsg (tC (.int 0)) (gName 2)) (tSeq (tFor (iRng1 (tCons (tOp (rD2 K RAdd) (tC (.int 1)) (tOp (rD2 K RFdiv) (tBits (tVar 1)) (tC (.int 30)))) tNil)) (gName 3) (tSeq (tAsg (tOp (rD2 K RAdd) (tOp (rD2 K RIx) (tVar 0) (tC (.int 2))) (tC (.int 1))) (gSub (tVar 0) (tC (.int 2)) rSetL)) (tAsg (tOp (rD2 K RAdd) (tOp (rD2 K RMul) (tVar 2) (tC (.int 2147483587))) (tCall (SpD K T_law_hash) [] E0 (tCons (tOp (rD2 K RIx) (tVar 0) (tC (.int 1))) (tCons (tOp (rD2 K RIx) (tVar 0) (tC (.int 2))) tNil)))) (gName 2)))) (tRet (tOp (rD2 K RMod) (tCB (rDN K RInt) (tCons (tVar 2) tNil)) (tVar 1))))))
abbrev N_law_form : List Str := ["generator", "many", "most", "turn"]
abbrev P_law_form : List Str := ["generator", "many", "most"]
def t_law_form (K : PySem.W.Frag) : TS := (tRet (tCB (rDN K RTup) (tCons (tLc (iRng1 (tCons (tOp (rD2 K RAdd) (tVar 1) (tC (.int 1))) tNil)) (gName 3) tYes (tCall (SpD K T_law_random) [] E0 (tCons (tVar 0) (tCons (tOp (rD2 K RAdd) (tVar 2) (tC (.int 1))) tNil))) [3]) tNil)))
abbrev N_law_point : List Str := ["generator", "many", "most", "turn"]
abbrev P_law_point : List Str := ["generator", "many", "most"]
def t_law_point (K : PySem.W.Frag) : TS := (tRet (tLc (iRng1 (tCons (tVar 1) tNil)) (gName 3) tYes (tCall (SpD K T_law_random) [] E0 (tCons (tVar 0) (tCons (tOp (rD2 K RAdd) (tVar 2) (tC (.int 1))) tNil))) [3]))
abbrev N_law_near : List Str := ["generator", "form", "most", "some", "way", "at", "near"]
abbrev P_law_near : List Str := ["generator", "form", "most"]
def t_law_near (K : PySem.W.Frag) : TS := (tSeq (tAsg (tCB (rDN K RLst) (tCons (tCall (SpD K T_law_form) [] E0 (tCons (tVar 0) (tCons (tOp (rD2 K RSub) (tCB (rDN K RLen) (tCons (tVar 1) tNil)) (tC (.int 1))) (tCons (tVar 2) tNil)))) tNil)) (gName 3)) (tSeq (tPar 4 5 (tCons (tCall (SpD K T_law_random) [] E0 (tCons (tVar 0) (tCons (tC (.int 3)) tNil))) (tCons (tCall (SpD K T_law_random) [] E0 (tCons (tVar 0) (tCons (tCB (rDN K RLen) (tCons (tVar 1) tNil)) tNil))) tNil))) (tSeq (tIfS (tTest (tOp (rD2 K REqR) (tVar 4) (tC (.int 0)))) (tRet (tCB (rDN K RTup) (tCons (tVar 3) tNil))) tNext) (tSeq (tAsg (tCB (rDN K RLst) (tCons (tVar 1) tNil)) (gName 6)) (tSeq (tAsg (tIf (tTest (tOp (rD2 K REqR) (tVar 4) (tC (.int 1)))) (tOp (rD2 K RAdd) (tOp (rD2 K RIx) (tVar 6) (tVar 5)) (tC (.int 1))) (tCB (rDN K RMax) (tCons (tC (.int 0)) (tCons (tOp (rD2 K RSub) (tOp (rD2 K RIx) (tVar 6) (tVar 5)) (tC (.int 1))) tNil)))) (gSub (tVar 6) (tVar 5) rSetL)) (tRet (tCB (rDN K RTup) (tCons (tVar 6) tNil))))))))
abbrev N_law_value : List Str := ["form", "point", "number", "count"]
abbrev P_law_value : List Str := ["form", "point"]
def t_law_value (K : PySem.W.Frag) : TS := (tRet (tOp (rD2 K RAdd) (tOp (rD2 K RIx) (tVar 0) (tC (.int 0))) (tCB (rDN K RSum) (tCons (tLc (iZ K false (tCons (tSl (rSlD K) (tVar 0) (tPart (tC (.int 1))) tNoPart) (tCons (tVar 1) tNil))) (gTup K 2 (gCons (gName 2) (gCons (gName 3) gNil))) tYes (tOp (rD2 K RMul) (tVar 2) (tVar 3)) [2, 3]) tNil))))
abbrev N_is_whole : List Str := ["value"]
abbrev P_is_whole : List Str := ["value"]
def t_is_whole (K : PySem.W.Frag) : TS := (tRet (tAndV (tCB (rDN K RIsi) (tCons (tVar 0) (tCons (tC (.ty "int")) tNil))) (tNotV (tCB (rDN K RIsi) (tCons (tVar 0) (tCons (tC (.ty "bool")) tNil))))))
abbrev N_is_between : List Str := ["value", "low", "high"]
abbrev P_is_between : List Str := ["value", "low", "high"]
def t_is_between (K : PySem.W.Frag) : TS := (tRet (tAndV (tCall (SpD K T_is_whole) [] E0 (tCons (tVar 0) tNil)) (tAndV (tOp (rD2 K RLe) (tVar 1) (tVar 0)) (tOrV (tOp (rD2 K RIsR) (tVar 2) (tC .non)) (tOp (rD2 K RLe) (tVar 0) (tVar 2))))))
abbrev N_are_counts : List Str := ["items", "item"]
abbrev P_are_counts : List Str := ["items"]
def t_are_counts (K : PySem.W.Frag) : TS := (tRet (tOp (rD2 K REqR) (tLc (iD K (tVar 0)) (gName 1) (tNot (tB (tCall (SpD K T_is_between) [] E0 (tCons (tVar 1) (tCons (tC (.int 0)) (tCons (tC .non) tNil)))))) (tVar 1) [1]) (tLst tNil)))
abbrev N_is_form_for : List Str := ["many", "value"]
abbrev P_is_form_for : List Str := ["many", "value"]
def t_is_form_for (K : PySem.W.Frag) : TS := (tRet (tAndV (tCB (rDN K RIsi) (tCons (tVar 1) (tCons (tC (.ty "tuple")) tNil))) (tAndV (tOp (rD2 K REqR) (tCB (rDN K RLen) (tCons (tVar 1) tNil)) (tOp (rD2 K RAdd) (tVar 0) (tC (.int 1)))) (tCall (SpD K T_are_counts) [] E0 (tCons (tVar 1) tNil)))))
abbrev N_is_any_form : List Str := ["value"]
abbrev P_is_any_form : List Str := ["value"]
def t_is_any_form (K : PySem.W.Frag) : TS := (tRet (tAndV (tCB (rDN K RIsi) (tCons (tVar 0) (tCons (tC (.ty "tuple")) tNil))) (tAndV (tChain (rD2 K RLe) (rD2 K RLe) (tC (.int 1)) (tCB (rDN K RLen) (tCons (tVar 0) tNil)) (tOp (rD2 K RAdd) (tC (.int 3)) (tC (.int 1)))) (tCall (SpD K T_is_form_for) [] E0 (tCons (tOp (rD2 K RSub) (tCB (rDN K RLen) (tCons (tVar 0) tNil)) (tC (.int 1))) (tCons (tVar 0) tNil))))))
abbrev N_check_any_form : List Str := ["form"]
abbrev P_check_any_form : List Str := ["form"]
def t_check_any_form (K : PySem.W.Frag) : TS := (tIfS (tNot (tB (tCall (SpD K T_is_any_form) [] E0 (tCons (tVar 0) tNil)))) tNever tNext)
abbrev N_is_point : List Str := ["many", "value"]
abbrev P_is_point : List Str := ["many", "value"]
def t_is_point (K : PySem.W.Frag) : TS := (tRet (tAndV (tCB (rDN K RIsi) (tCons (tVar 1) (tCons (tC (.ty "list")) tNil))) (tAndV (tOp (rD2 K REqR) (tCB (rDN K RLen) (tCons (tVar 1) tNil)) (tVar 0)) (tCall (SpD K T_are_counts) [] E0 (tCons (tVar 1) tNil)))))
abbrev N_check_point : List Str := ["many", "point"]
abbrev P_check_point : List Str := ["many", "point"]
def t_check_point (K : PySem.W.Frag) : TS := (tIfS (tNot (tB (tCall (SpD K T_is_point) [] E0 (tCons (tVar 0) (tCons (tVar 1) tNil))))) tNever tNext)
abbrev N_value_at : List Str := ["form", "point", "found", "number", "count"]
abbrev P_value_at : List Str := ["form", "point"]
def t_value_at (K : PySem.W.Frag) : TS := (tSeq (tAsg (tOp (rD2 K RIx) (tVar 0) (tC (.int 0))) (gName 2)) (tSeq (tFor (iZ K true (tCons (tSl (rSlD K) (tVar 0) (tPart (tC (.int 1))) tNoPart) (tCons (tVar 1) tNil))) (gTup K 2 (gCons (gName 3) (gCons (gName 4) gNil))) (tAsg (tOp (rD2 K RAdd) (tVar 2) (tOp (rD2 K RMul) (tVar 3) (tVar 4))) (gName 2))) (tRet (tVar 2))))
abbrev N_value : List Str := ["form", "point"]
abbrev P_value : List Str := ["form", "point"]
def t_value (K : PySem.W.Frag) : TS := (tSeq (tDrop (tCall (SpD K T_check_any_form) [] E0 (tCons (tVar 0) tNil))) (tSeq (tDrop (tCall (SpD K T_check_point) [] E0 (tCons (tOp (rD2 K RSub) (tCB (rDN K RLen) (tCons (tVar 0) tNil)) (tC (.int 1))) (tCons (tVar 1) tNil)))) (tRet (tCall (SpD K T_value_at) [] E0 (tCons (tVar 0) (tCons (tVar 1) tNil))))))
abbrev N_law_is_whole : List Str := ["value_told", "due"]
abbrev P_law_is_whole : List Str := ["value_told", "due"]
def t_law_is_whole (K : PySem.W.Frag) : TS := (tRet (tAndV (tCB (rDN K RIsi) (tCons (tVar 0) (tCons (tC (.ty "int")) tNil))) (tAndV (tNotV (tCB (rDN K RIsi) (tCons (tVar 0) (tCons (tC (.ty "bool")) tNil)))) (tOp (rD2 K REqR) (tVar 0) (tVar 1)))))
abbrev N_check_two_forms : List Str := ["one", "other"]
abbrev P_check_two_forms : List Str := ["one", "other"]
def t_check_two_forms (K : PySem.W.Frag) : TS := (tSeq (tDrop (tCall (SpD K T_check_any_form) [] E0 (tCons (tVar 0) tNil))) (tSeq (tDrop (tCall (SpD K T_check_any_form) [] E0 (tCons (tVar 1) tNil))) (tIfS (tTest (tOp (rD2 K RNeR) (tCB (rDN K RLen) (tCons (tVar 0) tNil)) (tCB (rDN K RLen) (tCons (tVar 1) tNil)))) tNever tNext)))
abbrev N_form_sum : List Str := ["one", "other", "low", "high"]
abbrev P_form_sum : List Str := ["one", "other"]
def t_form_sum (K : PySem.W.Frag) : TS := (tRet (tCB (rDN K RTup) (tCons (tLc (iZ K true (tCons (tVar 0) (tCons (tVar 1) tNil))) (gTup K 2 (gCons (gName 2) (gCons (gName 3) gNil))) tYes (tOp (rD2 K RAdd) (tVar 2) (tVar 3)) [2, 3]) tNil)))
abbrev N_added : List Str := ["one", "other"]
abbrev P_added : List Str := ["one", "other"]
def t_added (K : PySem.W.Frag) : TS := (tSeq (tDrop (tCall (SpD K T_check_two_forms) [] E0 (tCons (tVar 0) (tCons (tVar 1) tNil)))) (tRet (tCall (SpD K T_form_sum) [] E0 (tCons (tVar 0) (tCons (tVar 1) tNil)))))
abbrev N_check_number : List Str := ["number", "low", "high"]
abbrev P_check_number : List Str := ["number", "low", "high"]
def t_check_number (K : PySem.W.Frag) : TS := (tIfS (tNot (tB (tCall (SpD K T_is_between) [] E0 (tCons (tVar 0) (tCons (tVar 1) (tCons (tVar 2) tNil)))))) tNever tNext)
abbrev N_form_times : List Str := ["number", "form", "item"]
abbrev P_form_times : List Str := ["number", "form"]
def t_form_times (K : PySem.W.Frag) : TS := (tRet (tCB (rDN K RTup) (tCons (tLc (iD K (tVar 1)) (gName 2) tYes (tOp (rD2 K RMul) (tVar 0) (tVar 2)) [2]) tNil)))
abbrev N_scaled : List Str := ["number", "form"]
abbrev P_scaled : List Str := ["number", "form"]
def t_scaled (K : PySem.W.Frag) : TS := (tSeq (tDrop (tCall (SpD K T_check_number) [] E0 (tCons (tVar 0) (tCons (tC (.int 0)) (tCons (tC .non) tNil))))) (tSeq (tDrop (tCall (SpD K T_check_any_form) [] E0 (tCons (tVar 1) tNil))) (tRet (tCall (SpD K T_form_times) [] E0 (tCons (tVar 0) (tCons (tVar 1) tNil))))))
abbrev N_law_point_above : List Str := ["one", "other", "at", "place"]
abbrev P_law_point_above : List Str := ["one", "other"]
def t_law_point_above (K : PySem.W.Frag) : TS := (tSeq (tIfS (tTest (tOp (rD2 K RGt) (tOp (rD2 K RIx) (tVar 0) (tC (.int 0))) (tOp (rD2 K RIx) (tVar 1) (tC (.int 0))))) (tRet (tOp (rD2 K RMul) (tLst (tCons (tC (.int 0)) tNil)) (tOp (rD2 K RSub) (tCB (rDN K RLen) (tCons (tVar 0) tNil)) (tC (.int 1))))) tNext) (tSeq (tFor (iRng2 (tCons (tC (.int 1)) (tCons (tCB (rDN K RLen) (tCons (tVar 0) tNil)) tNil))) (gName 2) (tIfS (tTest (tOp (rD2 K RGt) (tOp (rD2 K RIx) (tVar 0) (tVar 2)) (tOp (rD2 K RIx) (tVar 1) (tVar 2)))) (tRet (tLc (iRng2 (tCons (tC (.int 1)) (tCons (tCB (rDN K RLen) (tCons (tVar 0) tNil)) tNil))) (gName 3) tYes (tOp (rD2 K RMul) (tOp (rD2 K RAdd) (tOp (rD2 K RIx) (tVar 1) (tC (.int 0))) (tC (.int 1))) (tCB (rDN K RInt) (tCons (tOp (rD2 K REqR) (tVar 3) (tVar 2)) tNil))) [3])) tNext)) (tRet (tC .non))))
abbrev N_form_below : List Str := ["one", "other", "low", "high"]
abbrev P_form_below : List Str := ["one", "other"]
def t_form_below (K : PySem.W.Frag) : TS := (tRet (tOp (rD2 K REqR) (tLc (iZ K true (tCons (tVar 0) (tCons (tVar 1) tNil))) (gTup K 2 (gCons (gName 2) (gCons (gName 3) gNil))) (tTest (tOp (rD2 K RGt) (tVar 2) (tVar 3))) (tVar 2) [2, 3]) (tLst tNil)))
abbrev N_below : List Str := ["one", "other"]
abbrev P_below : List Str := ["one", "other"]
def t_below (K : PySem.W.Frag) : TS := (tSeq (tDrop (tCall (SpD K T_check_two_forms) [] E0 (tCons (tVar 0) (tCons (tVar 1) tNil)))) (tRet (tCall (SpD K T_form_below) [] E0 (tCons (tVar 0) (tCons (tVar 1) tNil)))))
abbrev N_law_yes : List Str := ["told", "due"]
abbrev P_law_yes : List Str := ["told", "due"]
def t_law_yes (K : PySem.W.Frag) : TS := (tRet (tAndV (tCB (rDN K RIsi) (tCons (tVar 0) (tCons (tC (.ty "bool")) tNil))) (tOp (rD2 K REqR) (tVar 0) (tVar 1))))
abbrev N_check_many : List Str := ["many"]
abbrev P_check_many : List Str := ["many"]
def t_check_many (K : PySem.W.Frag) : TS := (tDrop (tCall (SpD K T_check_number) [] E0 (tCons (tVar 0) (tCons (tC (.int 0)) (tCons (tC (.int 3)) tNil)))))
abbrev N_check_forms : List Str := ["many", "forms", "wanted", "item"]
abbrev P_check_forms : List Str := ["many", "forms", "wanted"]
def t_check_forms (K : PySem.W.Frag) : TS := (tSeq (tIfS (tOr (tNot (tB (tCB (rDN K RIsi) (tCons (tVar 1) (tCons (tC (.ty "list")) tNil))))) (tTest (tOp (rD2 K RNeR) (tCB (rDN K RLen) (tCons (tVar 1) tNil)) (tVar 2)))) tNever tNext) (tIfS (tTest (tOp (rD2 K RNeR) (tLc (iD K (tVar 1)) (gName 3) (tNot (tB (tCall (SpD K T_is_form_for) [] E0 (tCons (tVar 0) (tCons (tVar 3) tNil))))) (tVar 3) [3]) (tLst tNil))) tNever tNext))
abbrev N_plain : List Str := ["many", "number"]
abbrev P_plain : List Str := ["many", "number"]
def t_plain (K : PySem.W.Frag) : TS := (tRet (tOp (rD2 K RAdd) (tTup (tCons (tVar 1) tNil)) (tOp (rD2 K RMul) (tTup (tCons (tC (.int 0)) tNil)) (tVar 0))))
abbrev N_form_inserted : List Str := ["form", "many", "forms", "found", "number", "given"]
abbrev P_form_inserted : List Str := ["form", "many", "forms"]
def t_form_inserted (K : PySem.W.Frag) : TS := (tSeq (tAsg (tCall (SpD K T_plain) [] E0 (tCons (tVar 1) (tCons (tOp (rD2 K RIx) (tVar 0) (tC (.int 0))) tNil))) (gName 3)) (tSeq (tFor (iZ K true (tCons (tSl (rSlD K) (tVar 0) (tPart (tC (.int 1))) tNoPart) (tCons (tVar 2) tNil))) (gTup K 2 (gCons (gName 4) (gCons (gName 5) gNil))) (tAsg (tCall (SpD K T_form_sum) [] E0 (tCons (tVar 3) (tCons (tCall (SpD K T_form_times) [] E0 (tCons (tVar 4) (tCons (tVar 5) tNil))) tNil))) (gName 3))) (tRet (tVar 3))))
abbrev N_inserted : List Str := ["form", "many", "forms"]
abbrev P_inserted : List Str := ["form", "many", "forms"]
def t_inserted (K : PySem.W.Frag) : TS := (tSeq (tDrop (tCall (SpD K T_check_any_form) [] E0 (tCons (tVar 0) tNil))) (tSeq (tDrop (tCall (SpD K T_check_many) [] E0 (tCons (tVar 1) tNil))) (tSeq (tDrop (tCall (SpD K T_check_forms) [] E0 (tCons (tVar 1) (tCons (tVar 2) (tCons (tOp (rD2 K RSub) (tCB (rDN K RLen) (tCons (tVar 0) tNil)) (tC (.int 1))) tNil))))) (tRet (tCall (SpD K T_form_inserted) [] E0 (tCons (tVar 0) (tCons (tVar 1) (tCons (tVar 2) tNil))))))))
abbrev N_is_form : List Str := ["many", "value"]
abbrev P_is_form : List Str := ["many", "value"]
def t_is_form (K : PySem.W.Frag) : TS := (tSeq (tDrop (tCall (SpD K T_check_many) [] E0 (tCons (tVar 0) tNil))) (tRet (tCall (SpD K T_is_form_for) [] E0 (tCons (tVar 0) (tCons (tVar 1) tNil)))))
abbrev N_law_right : List Str := ["generator", "many", "inner", "most", "one", "other", "point", "number", "forms", "shown", "given", "place", "told", "due", "at", "spoilt", "wrong", "turn", "low", "high", "item", "step", "form"]
abbrev P_law_right : List Str := ["generator"]
def t_law_right (K : PySem.W.Frag) : TS := (tSeq (tAsg (tTup (tCons (tCall (SpD K T_law_random) [] E0 (tCons (tVar 0) (tCons (tC (.int 4)) tNil))) (tCons (tCall (SpD K T_law_random) [] E0 (tCons (tVar 0) (tCons (tC (.int 4)) tNil))) tNil))) (gTup K 2 (gCons (gName 1) (gCons (gName 2) gNil)))) (tSeq (tAsg (tOp (rD2 K RIx) (tLst (tCons (tC (.int 2)) (tCons (tOp (rD2 K RPow) (tC (.int 10)) (tC (.int 6))) (tCons (tOp (rD2 K RPow) (tC (.int 10)) (tC (.int 29))) tNil)))) (tCall (SpD K T_law_random) [] E0 (tCons (tVar 0) (tCons (tC (.int 3)) tNil)))) (gName 3)) (tSeq (tAsg (tCall (SpD K T_law_form) [] E0 (tCons (tVar 0) (tCons (tVar 1) (tCons (tVar 3) tNil)))) (gName 4)) (tSeq (tPar 5 6 (tCons (tCall (SpD K T_law_near) [] E0 (tCons (tVar 0) (tCons (tVar 4) (tCons (tVar 3) tNil)))) (tCons (tCall (SpD K T_law_point) [] E0 (tCons (tVar 0) (tCons (tVar 1) (tCons (tVar 3) tNil)))) tNil))) (tSeq (tAsg (tTup (tCons (tCall (SpD K T_law_random) [] E0 (tCons (tVar 0) (tCons (tOp (rD2 K RAdd) (tVar 3) (tC (.int 1))) tNil))) (tCons (tLc (iRng1 (tCons (tVar 1) tNil)) (gName 17) tYes (tCall (SpD K T_law_form) [] E0 (tCons (tVar 0) (tCons (tVar 2) (tCons (tVar 3) tNil)))) [17]) tNil))) (gTup K 2 (gCons (gName 7) (gCons (gName 8) gNil)))) (tSeq (tIfS (tNot (tB (tCall (SpD K T_law_is_whole) [] E0 (tCons (tCall (SpD K T_value) [] E0 (tCons (tVar 4) (tCons (tCB (rDN K RLst) (tCons (tVar 6) tNil)) tNil))) (tCons (tCall (SpD K T_law_value) [] E0 (tCons (tVar 4) (tCons (tVar 6) tNil))) tNil))))) (tRet (tC (.bl false))) tNext) (tSeq (tIfS (tTest (tOp (rD2 K RNeR) (tCall (SpD K T_added) [] E0 (tCons (tVar 4) (tCons (tVar 5) tNil))) (tCB (rDN K RTup) (tCons (tLc (iZ K false (tCons (tVar 4) (tCons (tVar 5) tNil))) (gTup K 2 (gCons (gName 18) (gCons (gName 19) gNil))) tYes (tOp (rD2 K RAdd) (tVar 18) (tVar 19)) [18, 19]) tNil)))) (tRet (tC (.bl false))) tNext) (tSeq (tIfS (tOr (tTest (tOp (rD2 K RNeR) (tCall (SpD K T_scaled) [] E0 (tCons (tVar 7) (tCons (tVar 4) tNil))) (tCB (rDN K RTup) (tCons (tLc (iD K (tVar 4)) (gName 20) tYes (tOp (rD2 K RMul) (tVar 7) (tVar 20)) [20]) tNil)))) (tNot (tB (tCB (rDN K RIsi) (tCons (tCall (SpD K T_scaled) [] E0 (tCons (tC (.int 0)) (tCons (tVar 4) tNil))) (tCons (tC (.ty "tuple")) tNil)))))) (tRet (tC (.bl false))) tNext) (tSeq (tAsg (tCall (SpD K T_law_point_above) [] E0 (tCons (tVar 4) (tCons (tVar 5) tNil))) (gName 9)) (tSeq (tIfS (tOr (tNot (tB (tCall (SpD K T_law_yes) [] E0 (tCons (tCall (SpD K T_below) [] E0 (tCons (tVar 4) (tCons (tVar 5) tNil))) (tCons (tOp (rD2 K RIsR) (tVar 9) (tC .non)) tNil))))) (tTest (tOp (rD2 K RIsN) (tCall (SpD K T_below) [] E0 (tCons (tVar 4) (tCons (tVar 4) tNil))) (tC (.bl true))))) (tRet (tC (.bl false))) tNext) (tSeq (tIfS (tAnd (tTest (tOp (rD2 K RIsN) (tVar 9) (tC .non))) (tTest (tOp (rD2 K RLe) (tCall (SpD K T_value) [] E0 (tCons (tVar 4) (tCons (tVar 9) tNil))) (tCall (SpD K T_value) [] E0 (tCons (tVar 5) (tCons (tVar 9) tNil)))))) (tRet (tC (.bl false))) tNext) (tSeq (tIfS (tAnd (tTest (tOp (rD2 K RIsR) (tVar 9) (tC .non))) (tTest (tOp (rD2 K RGt) (tCall (SpD K T_value) [] E0 (tCons (tVar 4) (tCons (tCB (rDN K RLst) (tCons (tVar 6) tNil)) tNil))) (tCall (SpD K T_value) [] E0 (tCons (tVar 5) (tCons (tCB (rDN K RLst) (tCons (tVar 6) tNil)) tNil)))))) (tRet (tC (.bl false))) tNext) (tSeq (tAsg (tTup (tCons (tCB (rDN K RLst) (tCons (tVar 8) tNil)) (tCons (tCall (SpD K T_law_point) [] E0 (tCons (tVar 0) (tCons (tVar 2) (tCons (tVar 3) tNil)))) tNil))) (gTup K 2 (gCons (gName 10) (gCons (gName 11) gNil)))) (tSeq (tAsg (tCall (SpD K T_inserted) [] E0 (tCons (tVar 4) (tCons (tVar 2) (tCons (tVar 10) tNil)))) (gName 12)) (tSeq (tIfS (tOr (tTest (tOp (rD2 K RNeR) (tVar 10) (tVar 8))) (tOr (tNot (tB (tCB (rDN K RIsi) (tCons (tVar 12) (tCons (tC (.ty "tuple")) tNil))))) (tTest (tOp (rD2 K RNeR) (tCB (rDN K RLen) (tCons (tVar 12) tNil)) (tOp (rD2 K RAdd) (tVar 2) (tC (.int 1))))))) (tRet (tC (.bl false))) tNext) (tSeq (tAsg (tLst (tCons (tOp (rD2 K RAdd) (tOp (rD2 K RIx) (tVar 4) (tC (.int 0))) (tCB (rDN K RSum) (tCons (tLc (iZ K false (tCons (tSl (rSlD K) (tVar 4) (tPart (tC (.int 1))) tNoPart) (tCons (tVar 8) tNil))) (gTup K 2 (gCons (gName 21) (gCons (gName 22) gNil))) tYes (tOp (rD2 K RMul) (tVar 21) (tOp (rD2 K RIx) (tVar 22) (tC (.int 0)))) [21, 22]) tNil))) tNil)) (gName 13)) (tSeq (tAsg (tOp (rD2 K RAdd) (tVar 13) (tLc (iRng2 (tCons (tC (.int 1)) (tCons (tOp (rD2 K RAdd) (tVar 2) (tC (.int 1))) tNil))) (gName 14) tYes (tCB (rDN K RSum) (tCons (tLc (iZ K false (tCons (tSl (rSlD K) (tVar 4) (tPart (tC (.int 1))) tNoPart) (tCons (tVar 8) tNil))) (gTup K 2 (gCons (gName 21) (gCons (gName 22) gNil))) tYes (tOp (rD2 K RMul) (tVar 21) (tOp (rD2 K RIx) (tVar 22) (tVar 14))) [21, 22]) tNil)) [14])) (gName 13)) (tSeq (tIfS (tOr (tTest (tOp (rD2 K RNeR) (tVar 12) (tCB (rDN K RTup) (tCons (tVar 13) tNil)))) (tTest (tOp (rD2 K RNeR) (tCall (SpD K T_value) [] E0 (tCons (tVar 12) (tCons (tCB (rDN K RLst) (tCons (tVar 11) tNil)) tNil))) (tCall (SpD K T_value) [] E0 (tCons (tVar 4) (tCons (tLc (iD K (tVar 8)) (gName 22) tYes (tCall (SpD K T_value) [] E0 (tCons (tVar 22) (tCons (tCB (rDN K RLst) (tCons (tVar 11) tNil)) tNil))) [22]) tNil)))))) (tRet (tC (.bl false))) tNext) (tSeq (tIfS (tOr (tTest (tOp (rD2 K RIsN) (tCall (SpD K T_is_form) [] E0 (tCons (tVar 1) (tCons (tVar 4) tNil))) (tC (.bl true)))) (tNot (tB (tCall (SpD K T_law_yes) [] E0 (tCons (tCall (SpD K T_is_form) [] E0 (tCons (tVar 2) (tCons (tVar 4) tNil))) (tCons (tOp (rD2 K REqR) (tVar 2) (tVar 1)) tNil)))))) (tRet (tC (.bl false))) tNext) (tSeq (tPar 14 15 (tCons (tCall (SpD K T_law_random) [] E0 (tCons (tVar 0) (tCons (tOp (rD2 K RAdd) (tVar 1) (tC (.int 1))) tNil))) (tCons (tLst (tCons (tCB (rDN K RLst) (tCons (tVar 4) tNil)) (tCons (tOp (rD2 K RAdd) (tVar 4) (tTup (tCons (tC (.int 0)) tNil))) (tCons (tSl (rSlD K) (tVar 4) (tPart (tC (.int 1))) tNoPart) (tCons (tCB (rDN K RStr) (tCons (tVar 4) tNil)) (tCons (tC .non) tNil)))))) tNil))) (tSeq (tFor (iD K (tLst (tCons (tC (.bl true)) (tCons (tOp (rD2 K RSub) (tOp (rD2 K RSub) (tC (.int 0)) (tC (.int 1))) (tVar 7)) (tCons (tC (.str ("1" : Str))) (tCons (tC .non) (tCons (tTup (tCons (tC (.int 1)) tNil)) tNil))))))) (gName 16) (tDrop (tBM K "list" rAppend (tVar 15) (tCons (tOp (rD2 K RAdd) (tOp (rD2 K RAdd) (tSl (rSlD K) (tVar 4) tNoPart (tPart (tVar 14))) (tTup (tCons (tVar 16) tNil))) (tSl (rSlD K) (tVar 4) (tPart (tOp (rD2 K RAdd) (tVar 14) (tC (.int 1)))) tNoPart)) tNil)))) (tRet (tOp (rD2 K REqR) (tLc (iD K (tVar 15)) (gName 20) (tTest (tOp (rD2 K RIsN) (tCall (SpD K T_is_form) [] E0 (tCons (tVar 1) (tCons (tVar 20) tNil))) (tC (.bl false)))) (tVar 20) [20]) (tLst tNil))))))))))))))))))))))))
abbrev N_law : List Str := ["script", "index"]
abbrev P_law : List Str := ["script"]
def t_law (K : PySem.W.Frag) : TS := (tSeq (tFor (iRng1 (tCons (tC (.int 3)) tNil)) (gName 1) (tIfS (tNot (tB (tCall (SpD K T_law_right) [] E0 (tCons (tCall (SpD K T_law_generator) [] E0 (tCons (tVar 0) (tCons (tVar 1) tNil))) tNil)))) (tRet (tC (.bl false))) tNext)) (tRet (tC (.bl true))))
end L11

namespace L11
open PySem PySem.Spec PyProof.Rows L2 Cr
def top (i : Nat) : Stmt := PySem.Challenge.pw_countreaders_k11_forms.main.body.getD i (.Pass ⟨0, 0, 0, 0⟩)
structure Bl (mg : Str → Option Value) : Prop where
  len : mg "len" = none
  sum : mg "sum" = none
  int : mg "int" = none
  max : mg "max" = none
  range : mg "range" = none
  tuple : mg "tuple" = none
  list : mg "list" = none
  zip : mg "zip" = none
  isinstance : mg "isinstance" = none
  bool : mg "bool" = none
  str : mg "str" = none
abbrev s_law_cell : Stmt := top 37
theorem sc_law_cell : FnScope N_law_cell P_law_cell (defScope s_law_cell) := ⟨rfl, rfl, rfl, by decide +kernel, rfl, by decide +kernel, by decide +kernel⟩
abbrev s_law_generator : Stmt := top 38
theorem sc_law_generator : FnScope N_law_generator P_law_generator (defScope s_law_generator) := ⟨rfl, rfl, rfl, by decide +kernel, rfl, by decide +kernel, by decide +kernel⟩
abbrev s_law_hash : Stmt := top 35
theorem sc_law_hash : FnScope N_law_hash P_law_hash (defScope s_law_hash) := ⟨rfl, rfl, rfl, by decide +kernel, rfl, by decide +kernel, by decide +kernel⟩
abbrev s_law_random : Stmt := top 36
theorem sc_law_random : FnScope N_law_random P_law_random (defScope s_law_random) := ⟨rfl, rfl, rfl, by decide +kernel, rfl, by decide +kernel, by decide +kernel⟩
abbrev s_law_form : Stmt := top 39
theorem sc_law_form : FnScope N_law_form P_law_form (defScope s_law_form) := ⟨rfl, rfl, rfl, by decide +kernel, rfl, by decide +kernel, by decide +kernel⟩
abbrev s_law_point : Stmt := top 41
theorem sc_law_point : FnScope N_law_point P_law_point (defScope s_law_point) := ⟨rfl, rfl, rfl, by decide +kernel, rfl, by decide +kernel, by decide +kernel⟩
abbrev s_law_near : Stmt := top 44
theorem sc_law_near : FnScope N_law_near P_law_near (defScope s_law_near) := ⟨rfl, rfl, rfl, by decide +kernel, rfl, by decide +kernel, by decide +kernel⟩
abbrev s_law_value : Stmt := top 40
theorem sc_law_value : FnScope N_law_value P_law_value (defScope s_law_value) := ⟨rfl, rfl, rfl, by decide +kernel, rfl, by decide +kernel, by decide +kernel⟩
abbrev s_is_whole : Stmt := top 9
theorem sc_is_whole : FnScope N_is_whole P_is_whole (defScope s_is_whole) := ⟨rfl, rfl, rfl, by decide +kernel, rfl, by decide +kernel, by decide +kernel⟩
abbrev s_is_between : Stmt := top 10
theorem sc_is_between : FnScope N_is_between P_is_between (defScope s_is_between) := ⟨rfl, rfl, rfl, by decide +kernel, rfl, by decide +kernel, by decide +kernel⟩
abbrev s_are_counts : Stmt := top 11
theorem sc_are_counts : FnScope N_are_counts P_are_counts (defScope s_are_counts) := ⟨rfl, rfl, rfl, by decide +kernel, rfl, by decide +kernel, by decide +kernel⟩
abbrev s_is_form_for : Stmt := top 13
theorem sc_is_form_for : FnScope N_is_form_for P_is_form_for (defScope s_is_form_for) := ⟨rfl, rfl, rfl, by decide +kernel, rfl, by decide +kernel, by decide +kernel⟩
abbrev s_is_any_form : Stmt := top 19
theorem sc_is_any_form : FnScope N_is_any_form P_is_any_form (defScope s_is_any_form) := ⟨rfl, rfl, rfl, by decide +kernel, rfl, by decide +kernel, by decide +kernel⟩
abbrev s_check_any_form : Stmt := top 20
theorem sc_check_any_form : FnScope N_check_any_form P_check_any_form (defScope s_check_any_form) := ⟨rfl, rfl, rfl, by decide +kernel, rfl, by decide +kernel, by decide +kernel⟩
abbrev s_is_point : Stmt := top 12
theorem sc_is_point : FnScope N_is_point P_is_point (defScope s_is_point) := ⟨rfl, rfl, rfl, by decide +kernel, rfl, by decide +kernel, by decide +kernel⟩
abbrev s_check_point : Stmt := top 16
theorem sc_check_point : FnScope N_check_point P_check_point (defScope s_check_point) := ⟨rfl, rfl, rfl, by decide +kernel, rfl, by decide +kernel, by decide +kernel⟩
abbrev s_value_at : Stmt := top 23
theorem sc_value_at : FnScope N_value_at P_value_at (defScope s_value_at) := ⟨rfl, rfl, rfl, by decide +kernel, rfl, by decide +kernel, by decide +kernel⟩
abbrev s_value : Stmt := top 28
theorem sc_value : FnScope N_value P_value (defScope s_value) := ⟨rfl, rfl, rfl, by decide +kernel, rfl, by decide +kernel, by decide +kernel⟩
abbrev s_law_is_whole : Stmt := top 45
theorem sc_law_is_whole : FnScope N_law_is_whole P_law_is_whole (defScope s_law_is_whole) := ⟨rfl, rfl, rfl, by decide +kernel, rfl, by decide +kernel, by decide +kernel⟩
abbrev s_check_two_forms : Stmt := top 21
theorem sc_check_two_forms : FnScope N_check_two_forms P_check_two_forms (defScope s_check_two_forms) := ⟨rfl, rfl, rfl, by decide +kernel, rfl, by decide +kernel, by decide +kernel⟩
abbrev s_form_sum : Stmt := top 24
theorem sc_form_sum : FnScope N_form_sum P_form_sum (defScope s_form_sum) := ⟨rfl, rfl, rfl, by decide +kernel, rfl, by decide +kernel, by decide +kernel⟩
abbrev s_added : Stmt := top 29
theorem sc_added : FnScope N_added P_added (defScope s_added) := ⟨rfl, rfl, rfl, by decide +kernel, rfl, by decide +kernel, by decide +kernel⟩
abbrev s_check_number : Stmt := top 14
theorem sc_check_number : FnScope N_check_number P_check_number (defScope s_check_number) := ⟨rfl, rfl, rfl, by decide +kernel, rfl, by decide +kernel, by decide +kernel⟩
abbrev s_form_times : Stmt := top 25
theorem sc_form_times : FnScope N_form_times P_form_times (defScope s_form_times) := ⟨rfl, rfl, rfl, by decide +kernel, rfl, by decide +kernel, by decide +kernel⟩
abbrev s_scaled : Stmt := top 30
theorem sc_scaled : FnScope N_scaled P_scaled (defScope s_scaled) := ⟨rfl, rfl, rfl, by decide +kernel, rfl, by decide +kernel, by decide +kernel⟩
abbrev s_law_point_above : Stmt := top 43
theorem sc_law_point_above : FnScope N_law_point_above P_law_point_above (defScope s_law_point_above) := ⟨rfl, rfl, rfl, by decide +kernel, rfl, by decide +kernel, by decide +kernel⟩
abbrev s_form_below : Stmt := top 26
theorem sc_form_below : FnScope N_form_below P_form_below (defScope s_form_below) := ⟨rfl, rfl, rfl, by decide +kernel, rfl, by decide +kernel, by decide +kernel⟩
abbrev s_below : Stmt := top 31
theorem sc_below : FnScope N_below P_below (defScope s_below) := ⟨rfl, rfl, rfl, by decide +kernel, rfl, by decide +kernel, by decide +kernel⟩
abbrev s_law_yes : Stmt := top 42
theorem sc_law_yes : FnScope N_law_yes P_law_yes (defScope s_law_yes) := ⟨rfl, rfl, rfl, by decide +kernel, rfl, by decide +kernel, by decide +kernel⟩
abbrev s_check_many : Stmt := top 15
theorem sc_check_many : FnScope N_check_many P_check_many (defScope s_check_many) := ⟨rfl, rfl, rfl, by decide +kernel, rfl, by decide +kernel, by decide +kernel⟩
abbrev s_check_forms : Stmt := top 32
theorem sc_check_forms : FnScope N_check_forms P_check_forms (defScope s_check_forms) := ⟨rfl, rfl, rfl, by decide +kernel, rfl, by decide +kernel, by decide +kernel⟩
abbrev s_plain : Stmt := top 22
theorem sc_plain : FnScope N_plain P_plain (defScope s_plain) := ⟨rfl, rfl, rfl, by decide +kernel, rfl, by decide +kernel, by decide +kernel⟩
abbrev s_form_inserted : Stmt := top 27
theorem sc_form_inserted : FnScope N_form_inserted P_form_inserted (defScope s_form_inserted) := ⟨rfl, rfl, rfl, by decide +kernel, rfl, by decide +kernel, by decide +kernel⟩
abbrev s_inserted : Stmt := top 33
theorem sc_inserted : FnScope N_inserted P_inserted (defScope s_inserted) := ⟨rfl, rfl, rfl, by decide +kernel, rfl, by decide +kernel, by decide +kernel⟩
abbrev s_is_form : Stmt := top 18
theorem sc_is_form : FnScope N_is_form P_is_form (defScope s_is_form) := ⟨rfl, rfl, rfl, by decide +kernel, rfl, by decide +kernel, by decide +kernel⟩
abbrev s_law_right : Stmt := top 46
theorem sc_law_right : FnScope N_law_right P_law_right (defScope s_law_right) := ⟨rfl, rfl, rfl, by decide +kernel, rfl, by decide +kernel, by decide +kernel⟩
abbrev s_law : Stmt := top 47
theorem sc_law : FnScope N_law P_law (defScope s_law) := ⟨rfl, rfl, rfl, by decide +kernel, rfl, by decide +kernel, by decide +kernel⟩
section
variable {P : Program} {w : World} {K : PySem.W.Frag} {mg : Str → Option Value} {base : Heap} {f : Addr} {fd : FuncData}
theorem ok_law_cell (B : Bl mg) (F : FunD K "_law_cell" "_law_cell" (defArgs s_law_cell) (defBody s_law_cell) (defScope s_law_cell) [] [] f fd) (gF : mg "_law_cell" = some (.ref f)) (m : Ok K N_law_cell T_law_cell (t_law_cell K)) : Has P w K mg base "_law_cell" 1 P_law_cell T_law_cell := by
  have len : ∀ ss m Q, T_law_cell ss m Q → ss.length = (P_law_cell).length := by
    intro ss m Q h
    repeat (obtain ⟨_, h⟩ := h)
    subst_vars
    rfl
  refine has_ok F gF sc_law_cell len (fun _ _ _ _ _ _ us hl => match us, hl with | [_, _], _ => rfl) m fun cdv A outer s H hg hr => ?_
  exact (pss_cons (ps_if (pt_cmpR op_ltD (pv 1) (pe_callB call_lenD (by rfl) B.len (by decide +kernel) (pa_cons (pv 0) pa_nil)) (nomark _)) (pss_one (ps_ret (pe_ix ix_D (pv 0) (pv 1) (fun _ _ => rfl)))) pss_nil)
      (pss_one (ps_ret (pe_op op_modD (pe_callB (call_sumD rfl) (by rfl) B.sum (by decide +kernel) (pa_cons (pe_slice sl_D (pv 0) po_none (po_some pe_int)) pa_nil)) pe_int))))
theorem ok_law_generator (B : Bl mg) (g_law_cell : Has P w K mg base "_law_cell" 1 P_law_cell T_law_cell) (F : FunD K "_law_generator" "_law_generator" (defArgs s_law_generator) (defBody s_law_generator) (defScope s_law_generator) [] [] f fd) (gF : mg "_law_generator" = some (.ref f)) (m : Ok K N_law_generator T_law_generator (t_law_generator K)) : Has P w K mg base "_law_generator" 2 P_law_generator T_law_generator := by
  have len : ∀ ss m Q, T_law_generator ss m Q → ss.length = (P_law_generator).length := by
    intro ss m Q h
    repeat (obtain ⟨_, h⟩ := h)
    subst_vars
    rfl
  refine has_ok F gF sc_law_generator len (fun _ _ _ _ _ _ us hl => match us, hl with | [_, _], _ => rfl) m fun cdv A outer s H hg hr => ?_
  exact (pss_cons (ps_set (i := 2) sc_law_generator.nd rfl (by first | exact Or.inl rfl | exact Or.inr rfl) (pe_U g_law_cell hg (hr.mono (by decide)) (by rfl) (pa_cons (pv 0) (pa_cons (pv 1) pa_nil))))
      (pss_one (ps_ret (pe_lst (pa_cons (pe_op op_modD (pe_callTy call_intD (by rfl) B.int (by decide +kernel) (pa_cons (pe_callB (call_maxD rfl) (by rfl) B.max (by decide +kernel) (pa_cons (pe_op op_subD (pv 2) (pe_op op_powD pe_int pe_int)) (pa_cons pe_int pa_nil))) pa_nil)) (pe_op op_powD (pe_op op_powD pe_int pe_int) pe_int)) (pa_cons (pe_op op_modD (pe_callTy call_intD (by rfl) B.int (by decide +kernel) (pa_cons (pv 2) pa_nil)) pe_int) (pa_cons (pe_op op_mulD pe_int (pv 1)) pa_nil)))))))
theorem ok_law_hash (B : Bl mg) (F : FunD K "_law_hash" "_law_hash" (defArgs s_law_hash) (defBody s_law_hash) (defScope s_law_hash) [] [] f fd) (gF : mg "_law_hash" = some (.ref f)) (m : Ok K N_law_hash T_law_hash (t_law_hash K)) : Has P w K mg base "_law_hash" 1 P_law_hash T_law_hash := by
  have len : ∀ ss m Q, T_law_hash ss m Q → ss.length = (P_law_hash).length := by
    intro ss m Q h
    repeat (obtain ⟨_, h⟩ := h)
    subst_vars
    rfl
  refine has_ok F gF sc_law_hash len (fun _ _ _ _ _ _ us hl => match us, hl with | [_, _], _ => rfl) m fun cdv A outer s H hg hr => ?_
  exact (pss_cons (ps_set (i := 2) sc_law_hash.nd rfl (by first | exact Or.inl rfl | exact Or.inr rfl) (pe_op op_modD (pe_callTy call_intD (by rfl) B.int (by decide +kernel) (pa_cons (pe_op op_addD (pe_op op_addD (pe_op op_addD (pe_op op_mulD (pv 0) pe_int) (pe_op op_mulD (pe_op op_mulD pe_int (pv 1)) (pv 1))) (pe_op op_mulD pe_int (pv 1))) pe_int) pa_nil)) pe_int))
      (pss_cons (ps_set (i := 2) sc_law_hash.nd rfl (by first | exact Or.inl rfl | exact Or.inr rfl) (pe_op op_modD (pe_callTy call_intD (by rfl) B.int (by decide +kernel) (pa_cons (pe_op op_addD (pe_op op_addD (pe_op op_mulD (pv 2) (pv 2)) (pe_op op_mulD pe_int (pv 1))) pe_int) pa_nil)) pe_int))
      (pss_one (ps_ret (pe_op op_modD (pe_callTy call_intD (by rfl) B.int (by decide +kernel) (pa_cons (pe_op op_mulD (pv 2) pe_int) pa_nil)) pe_int)))))
theorem ok_law_random (B : Bl mg) (g_law_hash : Has P w K mg base "_law_hash" 1 P_law_hash T_law_hash) (F : FunD K "_law_random" "_law_random" (defArgs s_law_random) (defBody s_law_random) (defScope s_law_random) [] [] f fd) (gF : mg "_law_random" = some (.ref f)) (m : Ok K N_law_random T_law_random (t_law_random K)) : Has P w K mg base "_law_random" 2 P_law_random T_law_random := by
  have len : ∀ ss m Q, T_law_random ss m Q → ss.length = (P_law_random).length := by
    intro ss m Q h
    repeat (obtain ⟨_, h⟩ := h)
    subst_vars
    rfl
  refine has_ok F gF sc_law_random len (fun _ _ _ _ _ _ us hl => match us, hl with | [_, _], _ => rfl) m fun cdv A outer s H hg hr => ?_
  exact (pss_cons (ps_if (pt_cmpR op_gtD (pe_ix ix_D (pv 0) pe_int (fun _ _ => rfl)) pe_int (nomark _)) (pss_cons (ps_set (i := 2) sc_law_random.nd rfl (by first | exact Or.inl rfl | exact Or.inr rfl) (pe_op op_modD (pe_callTy call_intD (by rfl) B.int (by decide +kernel) (pa_cons (pe_ix ix_D (pv 0) pe_int (fun _ _ => rfl)) pa_nil)) (pv 1)))
      (pss_cons (ps_asg (pe_op op_fdivD (pe_ix ix_D (pv 0) pe_int (fun _ _ => rfl)) (pv 1)) (pg_sub (pv 0) pe_int set_list))
      (pss_one (ps_ret (pv 2))))) pss_nil)
      (pss_cons (ps_set (i := 2) sc_law_random.nd rfl (by first | exact Or.inl rfl | exact Or.inr rfl) pe_int)
      (pss_cons (ps_for PassesOwn.never rfl (pi_range1 (by rfl) B.range (pa_cons (pe_op op_addD pe_int (pe_op op_fdivD (pe_bits (pv 1)) pe_int)) pa_nil)) (pg_name (i := 3) sc_law_random.nd rfl (by first | exact Or.inl rfl | exact Or.inr rfl)) (pss_cons (ps_asg (pe_op op_addD (pe_ix ix_D (pv 0) pe_int (fun _ _ => rfl)) pe_int) (pg_sub (pv 0) pe_int set_list))
      (pss_one (ps_set (i := 2) sc_law_random.nd rfl (by first | exact Or.inl rfl | exact Or.inr rfl) (pe_op op_addD (pe_op op_mulD (pv 2) pe_int) (pe_U g_law_hash hg (hr.mono (by decide)) (by rfl) (pa_cons (pe_ix ix_D (pv 0) pe_int (fun _ _ => rfl)) (pa_cons (pe_ix ix_D (pv 0) pe_int (fun _ _ => rfl)) pa_nil))))))))
      (pss_one (ps_ret (pe_op op_modD (pe_callTy call_intD (by rfl) B.int (by decide +kernel) (pa_cons (pv 2) pa_nil)) (pv 1)))))))
theorem ok_law_form (B : Bl mg) (g_law_random : Has P w K mg base "_law_random" 2 P_law_random T_law_random) (F : FunD K "_law_form" "_law_form" (defArgs s_law_form) (defBody s_law_form) (defScope s_law_form) [] [] f fd) (gF : mg "_law_form" = some (.ref f)) (m : Ok K N_law_form T_law_form (t_law_form K)) : Has P w K mg base "_law_form" 3 P_law_form T_law_form := by
  have len : ∀ ss m Q, T_law_form ss m Q → ss.length = (P_law_form).length := by
    intro ss m Q h
    repeat (obtain ⟨_, h⟩ := h)
    subst_vars
    rfl
  refine has_ok F gF sc_law_form len (fun _ _ _ _ _ _ us hl => match us, hl with | [_, _, _], _ => rfl) m fun cdv A outer s H hg hr => ?_
  exact (pss_one (ps_ret (pe_callTy call_tupD (by rfl) B.tuple (by decide +kernel) (pa_cons (pe_lc (own := [("turn", 3)]) rfl sc_law_form.nd (pi_range1 (by rfl) B.range (pa_cons (pe_op op_addD (pv 1) pe_int) pa_nil)) (blkOk_by (own := [("turn", 3)]) (N := N_law_form) (sc := defScope s_law_form) (by decide +kernel)) (fun _ _ _ _ _ => (pg_name (i := 3) sc_law_form.nd rfl (by first | exact Or.inl rfl | exact Or.inr rfl))) (fun _ _ _ _ _ => pts_nil) (fun _ _ _ _ _ => (pe_U g_law_random hg (hr.mono (by decide)) (by rfl) (pa_cons (pv 0) (pa_cons (pe_op op_addD (pv 2) pe_int) pa_nil))))) pa_nil))))
theorem ok_law_point (B : Bl mg) (g_law_random : Has P w K mg base "_law_random" 2 P_law_random T_law_random) (F : FunD K "_law_point" "_law_point" (defArgs s_law_point) (defBody s_law_point) (defScope s_law_point) [] [] f fd) (gF : mg "_law_point" = some (.ref f)) (m : Ok K N_law_point T_law_point (t_law_point K)) : Has P w K mg base "_law_point" 3 P_law_point T_law_point := by
  have len : ∀ ss m Q, T_law_point ss m Q → ss.length = (P_law_point).length := by
    intro ss m Q h
    repeat (obtain ⟨_, h⟩ := h)
    subst_vars
    rfl
  refine has_ok F gF sc_law_point len (fun _ _ _ _ _ _ us hl => match us, hl with | [_, _, _], _ => rfl) m fun cdv A outer s H hg hr => ?_
  exact (pss_one (ps_ret (pe_lc (own := [("turn", 3)]) rfl sc_law_point.nd (pi_range1 (by rfl) B.range (pa_cons (pv 1) pa_nil)) (blkOk_by (own := [("turn", 3)]) (N := N_law_point) (sc := defScope s_law_point) (by decide +kernel)) (fun _ _ _ _ _ => (pg_name (i := 3) sc_law_point.nd rfl (by first | exact Or.inl rfl | exact Or.inr rfl))) (fun _ _ _ _ _ => pts_nil) (fun _ _ _ _ _ => (pe_U g_law_random hg (hr.mono (by decide)) (by rfl) (pa_cons (pv 0) (pa_cons (pe_op op_addD (pv 2) pe_int) pa_nil)))))))
theorem ok_law_near (B : Bl mg) (g_law_form : Has P w K mg base "_law_form" 3 P_law_form T_law_form) (g_law_random : Has P w K mg base "_law_random" 2 P_law_random T_law_random) (F : FunD K "_law_near" "_law_near" (defArgs s_law_near) (defBody s_law_near) (defScope s_law_near) [] [] f fd) (gF : mg "_law_near" = some (.ref f)) (m : Ok K N_law_near T_law_near (t_law_near K)) : Has P w K mg base "_law_near" 4 P_law_near T_law_near := by
  have len : ∀ ss m Q, T_law_near ss m Q → ss.length = (P_law_near).length := by
    intro ss m Q h
    repeat (obtain ⟨_, h⟩ := h)
    subst_vars
    rfl
  refine has_ok F gF sc_law_near len (fun _ _ _ _ _ _ us hl => match us, hl with | [_, _, _], _ => rfl) m fun cdv A outer s H hg hr => ?_
  exact (pss_cons (ps_set (i := 3) sc_law_near.nd rfl (by first | exact Or.inl rfl | exact Or.inr rfl) (pe_callTy call_lstD (by rfl) B.list (by decide +kernel) (pa_cons (pe_U g_law_form hg (hr.mono (by decide)) (by rfl) (pa_cons (pv 0) (pa_cons (pe_op op_subD (pe_callB call_lenD (by rfl) B.len (by decide +kernel) (pa_cons (pv 1) pa_nil)) pe_int) (pa_cons (pv 2) pa_nil)))) pa_nil)))
      (pss_cons (ps_par (i := 4) (j := 5) rfl sc_law_near.nd rfl rfl (by decide) rfl rfl (pa_cons (pe_U g_law_random hg (hr.mono (by decide)) (by rfl) (pa_cons (pv 0) (pa_cons pe_int pa_nil))) (pa_cons (pe_U g_law_random hg (hr.mono (by decide)) (by rfl) (pa_cons (pv 0) (pa_cons (pe_callB call_lenD (by rfl) B.len (by decide +kernel) (pa_cons (pv 1) pa_nil)) pa_nil))) pa_nil)) rfl)
      (pss_cons (ps_if (pt_cmpR (op_eqDD hr.units) (pv 4) pe_int (nomark _)) (pss_one (ps_ret (pe_callTy call_tupD (by rfl) B.tuple (by decide +kernel) (pa_cons (pv 3) pa_nil)))) pss_nil)
      (pss_cons (ps_set (i := 6) sc_law_near.nd rfl (by first | exact Or.inl rfl | exact Or.inr rfl) (pe_callTy call_lstD (by rfl) B.list (by decide +kernel) (pa_cons (pv 1) pa_nil)))
      (pss_cons (ps_asg (pe_ifExp (pt_cmpR (op_eqDD hr.units) (pv 4) pe_int (nomark _)) (pe_op op_addD (pe_ix ix_D (pv 6) (pv 5) (fun _ _ => rfl)) pe_int) (pe_callB (call_maxD rfl) (by rfl) B.max (by decide +kernel) (pa_cons pe_int (pa_cons (pe_op op_subD (pe_ix ix_D (pv 6) (pv 5) (fun _ _ => rfl)) pe_int) pa_nil)))) (pg_sub (pv 6) (pv 5) set_list))
      (pss_one (ps_ret (pe_callTy call_tupD (by rfl) B.tuple (by decide +kernel) (pa_cons (pv 6) pa_nil)))))))))
theorem ok_law_value (B : Bl mg) (F : FunD K "_law_value" "_law_value" (defArgs s_law_value) (defBody s_law_value) (defScope s_law_value) [] [] f fd) (gF : mg "_law_value" = some (.ref f)) (m : Ok K N_law_value T_law_value (t_law_value K)) : Has P w K mg base "_law_value" 1 P_law_value T_law_value := by
  have len : ∀ ss m Q, T_law_value ss m Q → ss.length = (P_law_value).length := by
    intro ss m Q h
    repeat (obtain ⟨_, h⟩ := h)
    subst_vars
    rfl
  refine has_ok F gF sc_law_value len (fun _ _ _ _ _ _ us hl => match us, hl with | [_, _], _ => rfl) m fun cdv A outer s H hg hr => ?_
  exact (pss_one (ps_ret (pe_op op_addD (pe_ix ix_D (pv 0) pe_int (fun _ _ => rfl)) (pe_callB (call_sumD rfl) (by rfl) B.sum (by decide +kernel) (pa_cons (pe_lc (own := [("number", 2), ("count", 3)]) rfl sc_law_value.nd (pi_zipN (by rfl) B.zip (pa_cons (pe_slice sl_D (pv 0) (po_some pe_int) po_none) (pa_cons (pv 1) pa_nil))) (blkOk_by (own := [("number", 2), ("count", 3)]) (N := N_law_value) (sc := defScope s_law_value) (by decide +kernel)) (fun _ _ _ _ _ => (pg_tup rfl (pgs_cons (pg_name (i := 2) sc_law_value.nd rfl (by first | exact Or.inl rfl | exact Or.inr rfl)) (pgs_cons (pg_name (i := 3) sc_law_value.nd rfl (by first | exact Or.inl rfl | exact Or.inr rfl)) pgs_nil)))) (fun _ _ _ _ _ => pts_nil) (fun _ _ _ _ _ => (pe_op op_mulD (pv 2) (pv 3)))) pa_nil)))))
theorem ok_is_whole (B : Bl mg) (F : FunD K "is_whole" "is_whole" (defArgs s_is_whole) (defBody s_is_whole) (defScope s_is_whole) [] [] f fd) (gF : mg "is_whole" = some (.ref f)) (m : Ok K N_is_whole T_is_whole (t_is_whole K)) : Has P w K mg base "is_whole" 1 P_is_whole T_is_whole := by
  have len : ∀ ss m Q, T_is_whole ss m Q → ss.length = (P_is_whole).length := by
    intro ss m Q h
    repeat (obtain ⟨_, h⟩ := h)
    subst_vars
    rfl
  refine has_ok F gF sc_is_whole len (fun _ _ _ _ _ _ us hl => match us, hl with | [_], _ => rfl) m fun cdv A outer s H hg hr => ?_
  exact (pss_one (ps_ret (pe_and (pe_callB call_isiD (by rfl) B.isinstance (by decide +kernel) (pa_cons (pv 0) (pa_cons (pe_bltn rfl B.int (by decide +kernel) rfl) pa_nil))) (pe_one (pe_not (pe_callB call_isiD (by rfl) B.isinstance (by decide +kernel) (pa_cons (pv 0) (pa_cons (pe_bltn rfl B.bool (by decide +kernel) rfl) pa_nil))))))))
theorem ok_is_between (B : Bl mg) (g_is_whole : Has P w K mg base "is_whole" 1 P_is_whole T_is_whole) (F : FunD K "is_between" "is_between" (defArgs s_is_between) (defBody s_is_between) (defScope s_is_between) [] [] f fd) (gF : mg "is_between" = some (.ref f)) (m : Ok K N_is_between T_is_between (t_is_between K)) : Has P w K mg base "is_between" 2 P_is_between T_is_between := by
  have len : ∀ ss m Q, T_is_between ss m Q → ss.length = (P_is_between).length := by
    intro ss m Q h
    repeat (obtain ⟨_, h⟩ := h)
    subst_vars
    rfl
  refine has_ok F gF sc_is_between len (fun _ _ _ _ _ _ us hl => match us, hl with | [_, _, _], _ => rfl) m fun cdv A outer s H hg hr => ?_
  exact (pss_one (ps_ret (pe_and (pe_U g_is_whole hg (hr.mono (by decide)) (by rfl) (pa_cons (pv 0) pa_nil)) (pe_and (pe_cmpR op_leD (pv 1) (pv 0) (nomark _)) (pe_one (pe_or (pe_cmpR op_isD (pv 2) pe_non (nomark _)) (pe_one (pe_cmpR op_leD (pv 0) (pv 2) (nomark _)))))))))
theorem ok_are_counts (B : Bl mg) (g_is_between : Has P w K mg base "is_between" 2 P_is_between T_is_between) (F : FunD K "are_counts" "are_counts" (defArgs s_are_counts) (defBody s_are_counts) (defScope s_are_counts) [] [] f fd) (gF : mg "are_counts" = some (.ref f)) (m : Ok K N_are_counts T_are_counts (t_are_counts K)) : Has P w K mg base "are_counts" 3 P_are_counts T_are_counts := by
  have len : ∀ ss m Q, T_are_counts ss m Q → ss.length = (P_are_counts).length := by
    intro ss m Q h
    repeat (obtain ⟨_, h⟩ := h)
    subst_vars
    rfl
  refine has_ok F gF sc_are_counts len (fun _ _ _ _ _ _ us hl => match us, hl with | [_], _ => rfl) m fun cdv A outer s H hg hr => ?_
  exact (pss_one (ps_ret (pe_cmpR (op_eqDD hr.units) (pe_lc (own := [("item", 1)]) rfl sc_are_counts.nd (pi_D (pv 0)) (blkOk_by (own := [("item", 1)]) (N := N_are_counts) (sc := defScope s_are_counts) (by decide +kernel)) (fun _ _ _ _ _ => (pg_name (i := 1) sc_are_counts.nd rfl (by first | exact Or.inl rfl | exact Or.inr rfl))) (fun _ _ _ _ _ => (pts_one (pt_not (pt_val (pe_U g_is_between hg (hr.mono (by decide)) (by rfl) (pa_cons (pv 1) (pa_cons pe_int (pa_cons pe_non pa_nil)))))))) (fun _ _ _ _ _ => (pv 1))) (pe_lst pa_nil) (nomark _))))
theorem ok_is_form_for (B : Bl mg) (g_are_counts : Has P w K mg base "are_counts" 3 P_are_counts T_are_counts) (F : FunD K "is_form_for" "is_form_for" (defArgs s_is_form_for) (defBody s_is_form_for) (defScope s_is_form_for) [] [] f fd) (gF : mg "is_form_for" = some (.ref f)) (m : Ok K N_is_form_for T_is_form_for (t_is_form_for K)) : Has P w K mg base "is_form_for" 4 P_is_form_for T_is_form_for := by
  have len : ∀ ss m Q, T_is_form_for ss m Q → ss.length = (P_is_form_for).length := by
    intro ss m Q h
    repeat (obtain ⟨_, h⟩ := h)
    subst_vars
    rfl
  refine has_ok F gF sc_is_form_for len (fun _ _ _ _ _ _ us hl => match us, hl with | [_, _], _ => rfl) m fun cdv A outer s H hg hr => ?_
  exact (pss_one (ps_ret (pe_and (pe_callB call_isiD (by rfl) B.isinstance (by decide +kernel) (pa_cons (pv 1) (pa_cons (pe_bltn rfl B.tuple (by decide +kernel) rfl) pa_nil))) (pe_and (pe_cmpR (op_eqDD hr.units) (pe_callB call_lenD (by rfl) B.len (by decide +kernel) (pa_cons (pv 1) pa_nil)) (pe_op op_addD (pv 0) pe_int) (nomark _)) (pe_one (pe_U g_are_counts hg (hr.mono (by decide)) (by rfl) (pa_cons (pv 1) pa_nil)))))))
theorem ok_is_any_form (B : Bl mg) (cMOST_UNKNOWNS0 : ∃ t, mg "MOST_UNKNOWNS" = some (.int 3 t)) (g_is_form_for : Has P w K mg base "is_form_for" 4 P_is_form_for T_is_form_for) (F : FunD K "is_any_form" "is_any_form" (defArgs s_is_any_form) (defBody s_is_any_form) (defScope s_is_any_form) [] [] f fd) (gF : mg "is_any_form" = some (.ref f)) (m : Ok K N_is_any_form T_is_any_form (t_is_any_form K)) : Has P w K mg base "is_any_form" 5 P_is_any_form T_is_any_form := by
  obtain ⟨tMOST_UNKNOWNS, cMOST_UNKNOWNS⟩ := cMOST_UNKNOWNS0
  have len : ∀ ss m Q, T_is_any_form ss m Q → ss.length = (P_is_any_form).length := by
    intro ss m Q h
    repeat (obtain ⟨_, h⟩ := h)
    subst_vars
    rfl
  refine has_ok F gF sc_is_any_form len (fun _ _ _ _ _ _ us hl => match us, hl with | [_], _ => rfl) m fun cdv A outer s H hg hr => ?_
  exact (pss_one (ps_ret (pe_and (pe_callB call_isiD (by rfl) B.isinstance (by decide +kernel) (pa_cons (pv 0) (pa_cons (pe_bltn rfl B.tuple (by decide +kernel) rfl) pa_nil))) (pe_and (pe_chain op_leD op_leD pe_int (pe_callB call_lenD (by rfl) B.len (by decide +kernel) (pa_cons (pv 0) pa_nil)) (pe_op op_addD (pe_glob rfl cMOST_UNKNOWNS ⟨_, rfl⟩) pe_int)) (pe_one (pe_U g_is_form_for hg (hr.mono (by decide)) (by rfl) (pa_cons (pe_op op_subD (pe_callB call_lenD (by rfl) B.len (by decide +kernel) (pa_cons (pv 0) pa_nil)) pe_int) (pa_cons (pv 0) pa_nil))))))))
theorem ok_check_any_form (B : Bl mg) (g_is_any_form : Has P w K mg base "is_any_form" 5 P_is_any_form T_is_any_form) (F : FunD K "check_any_form" "check_any_form" (defArgs s_check_any_form) (defBody s_check_any_form) (defScope s_check_any_form) [] [] f fd) (gF : mg "check_any_form" = some (.ref f)) (m : Ok K N_check_any_form T_check_any_form (t_check_any_form K)) : Has P w K mg base "check_any_form" 6 P_check_any_form T_check_any_form := by
  have len : ∀ ss m Q, T_check_any_form ss m Q → ss.length = (P_check_any_form).length := by
    intro ss m Q h
    repeat (obtain ⟨_, h⟩ := h)
    subst_vars
    rfl
  refine has_ok F gF sc_check_any_form len (fun _ _ _ _ _ _ us hl => match us, hl with | [_], _ => rfl) m fun cdv A outer s H hg hr => ?_
  exact (pss_one (ps_if (pt_not (pt_val (pe_U g_is_any_form hg (hr.mono (by decide)) (by rfl) (pa_cons (pv 0) pa_nil)))) (pss_one ps_never) pss_nil))
theorem ok_is_point (B : Bl mg) (g_are_counts : Has P w K mg base "are_counts" 3 P_are_counts T_are_counts) (F : FunD K "is_point" "is_point" (defArgs s_is_point) (defBody s_is_point) (defScope s_is_point) [] [] f fd) (gF : mg "is_point" = some (.ref f)) (m : Ok K N_is_point T_is_point (t_is_point K)) : Has P w K mg base "is_point" 4 P_is_point T_is_point := by
  have len : ∀ ss m Q, T_is_point ss m Q → ss.length = (P_is_point).length := by
    intro ss m Q h
    repeat (obtain ⟨_, h⟩ := h)
    subst_vars
    rfl
  refine has_ok F gF sc_is_point len (fun _ _ _ _ _ _ us hl => match us, hl with | [_, _], _ => rfl) m fun cdv A outer s H hg hr => ?_
  exact (pss_one (ps_ret (pe_and (pe_callB call_isiD (by rfl) B.isinstance (by decide +kernel) (pa_cons (pv 1) (pa_cons (pe_bltn rfl B.list (by decide +kernel) rfl) pa_nil))) (pe_and (pe_cmpR (op_eqDD hr.units) (pe_callB call_lenD (by rfl) B.len (by decide +kernel) (pa_cons (pv 1) pa_nil)) (pv 0) (nomark _)) (pe_one (pe_U g_are_counts hg (hr.mono (by decide)) (by rfl) (pa_cons (pv 1) pa_nil)))))))
theorem ok_check_point (B : Bl mg) (g_is_point : Has P w K mg base "is_point" 4 P_is_point T_is_point) (F : FunD K "check_point" "check_point" (defArgs s_check_point) (defBody s_check_point) (defScope s_check_point) [] [] f fd) (gF : mg "check_point" = some (.ref f)) (m : Ok K N_check_point T_check_point (t_check_point K)) : Has P w K mg base "check_point" 5 P_check_point T_check_point := by
  have len : ∀ ss m Q, T_check_point ss m Q → ss.length = (P_check_point).length := by
    intro ss m Q h
    repeat (obtain ⟨_, h⟩ := h)
    subst_vars
    rfl
  refine has_ok F gF sc_check_point len (fun _ _ _ _ _ _ us hl => match us, hl with | [_, _], _ => rfl) m fun cdv A outer s H hg hr => ?_
  exact (pss_one (ps_if (pt_not (pt_val (pe_U g_is_point hg (hr.mono (by decide)) (by rfl) (pa_cons (pv 0) (pa_cons (pv 1) pa_nil))))) (pss_one ps_never) pss_nil))
theorem ok_value_at (B : Bl mg) (F : FunD K "value_at" "value_at" (defArgs s_value_at) (defBody s_value_at) (defScope s_value_at) [] [] f fd) (gF : mg "value_at" = some (.ref f)) (m : Ok K N_value_at T_value_at (t_value_at K)) : Has P w K mg base "value_at" 1 P_value_at T_value_at := by
  have len : ∀ ss m Q, T_value_at ss m Q → ss.length = (P_value_at).length := by
    intro ss m Q h
    repeat (obtain ⟨_, h⟩ := h)
    subst_vars
    rfl
  refine has_ok F gF sc_value_at len (fun _ _ _ _ _ _ us hl => match us, hl with | [_, _], _ => rfl) m fun cdv A outer s H hg hr => ?_
  exact (pss_cons (ps_set (i := 2) sc_value_at.nd rfl (by first | exact Or.inl rfl | exact Or.inr rfl) (pe_ix ix_D (pv 0) pe_int (fun _ _ => rfl)))
      (pss_cons (ps_for PassesOwn.never rfl (pi_zipS (by rfl) B.zip (pa_cons (pe_slice sl_D (pv 0) (po_some pe_int) po_none) (pa_cons (pv 1) pa_nil))) (pg_tup rfl (pgs_cons (pg_name (i := 3) sc_value_at.nd rfl (by first | exact Or.inl rfl | exact Or.inr rfl)) (pgs_cons (pg_name (i := 4) sc_value_at.nd rfl (by first | exact Or.inl rfl | exact Or.inr rfl)) pgs_nil))) (pss_one (ps_set (i := 2) sc_value_at.nd rfl (by first | exact Or.inl rfl | exact Or.inr rfl) (pe_op op_addD (pv 2) (pe_op op_mulD (pv 3) (pv 4))))))
      (pss_one (ps_ret (pv 2)))))
theorem ok_value (B : Bl mg) (g_check_any_form : Has P w K mg base "check_any_form" 6 P_check_any_form T_check_any_form) (g_check_point : Has P w K mg base "check_point" 5 P_check_point T_check_point) (g_value_at : Has P w K mg base "value_at" 1 P_value_at T_value_at) (F : FunD K "value" "value" (defArgs s_value) (defBody s_value) (defScope s_value) [] [] f fd) (gF : mg "value" = some (.ref f)) (m : Ok K N_value T_value (t_value K)) : Has P w K mg base "value" 7 P_value T_value := by
  have len : ∀ ss m Q, T_value ss m Q → ss.length = (P_value).length := by
    intro ss m Q h
    repeat (obtain ⟨_, h⟩ := h)
    subst_vars
    rfl
  refine has_ok F gF sc_value len (fun _ _ _ _ _ _ us hl => match us, hl with | [_, _], _ => rfl) m fun cdv A outer s H hg hr => ?_
  exact (pss_cons (ps_expr (pe_U g_check_any_form hg (hr.mono (by decide)) (by rfl) (pa_cons (pv 0) pa_nil)))
      (pss_cons (ps_expr (pe_U g_check_point hg (hr.mono (by decide)) (by rfl) (pa_cons (pe_op op_subD (pe_callB call_lenD (by rfl) B.len (by decide +kernel) (pa_cons (pv 0) pa_nil)) pe_int) (pa_cons (pv 1) pa_nil))))
      (pss_one (ps_ret (pe_U g_value_at hg (hr.mono (by decide)) (by rfl) (pa_cons (pv 0) (pa_cons (pv 1) pa_nil)))))))
theorem ok_law_is_whole (B : Bl mg) (F : FunD K "_law_is_whole" "_law_is_whole" (defArgs s_law_is_whole) (defBody s_law_is_whole) (defScope s_law_is_whole) [] [] f fd) (gF : mg "_law_is_whole" = some (.ref f)) (m : Ok K N_law_is_whole T_law_is_whole (t_law_is_whole K)) : Has P w K mg base "_law_is_whole" 1 P_law_is_whole T_law_is_whole := by
  have len : ∀ ss m Q, T_law_is_whole ss m Q → ss.length = (P_law_is_whole).length := by
    intro ss m Q h
    repeat (obtain ⟨_, h⟩ := h)
    subst_vars
    rfl
  refine has_ok F gF sc_law_is_whole len (fun _ _ _ _ _ _ us hl => match us, hl with | [_, _], _ => rfl) m fun cdv A outer s H hg hr => ?_
  exact (pss_one (ps_ret (pe_and (pe_callB call_isiD (by rfl) B.isinstance (by decide +kernel) (pa_cons (pv 0) (pa_cons (pe_bltn rfl B.int (by decide +kernel) rfl) pa_nil))) (pe_and (pe_not (pe_callB call_isiD (by rfl) B.isinstance (by decide +kernel) (pa_cons (pv 0) (pa_cons (pe_bltn rfl B.bool (by decide +kernel) rfl) pa_nil)))) (pe_one (pe_cmpR (op_eqDD hr.units) (pv 0) (pv 1) (nomark _)))))))
theorem ok_check_two_forms (B : Bl mg) (g_check_any_form : Has P w K mg base "check_any_form" 6 P_check_any_form T_check_any_form) (F : FunD K "check_two_forms" "check_two_forms" (defArgs s_check_two_forms) (defBody s_check_two_forms) (defScope s_check_two_forms) [] [] f fd) (gF : mg "check_two_forms" = some (.ref f)) (m : Ok K N_check_two_forms T_check_two_forms (t_check_two_forms K)) : Has P w K mg base "check_two_forms" 7 P_check_two_forms T_check_two_forms := by
  have len : ∀ ss m Q, T_check_two_forms ss m Q → ss.length = (P_check_two_forms).length := by
    intro ss m Q h
    repeat (obtain ⟨_, h⟩ := h)
    subst_vars
    rfl
  refine has_ok F gF sc_check_two_forms len (fun _ _ _ _ _ _ us hl => match us, hl with | [_, _], _ => rfl) m fun cdv A outer s H hg hr => ?_
  exact (pss_cons (ps_expr (pe_U g_check_any_form hg (hr.mono (by decide)) (by rfl) (pa_cons (pv 0) pa_nil)))
      (pss_cons (ps_expr (pe_U g_check_any_form hg (hr.mono (by decide)) (by rfl) (pa_cons (pv 1) pa_nil)))
      (pss_one (ps_if (pt_cmpR (op_neDD hr.units) (pe_callB call_lenD (by rfl) B.len (by decide +kernel) (pa_cons (pv 0) pa_nil)) (pe_callB call_lenD (by rfl) B.len (by decide +kernel) (pa_cons (pv 1) pa_nil)) (nomark _)) (pss_one ps_never) pss_nil))))
theorem ok_form_sum (B : Bl mg) (F : FunD K "form_sum" "form_sum" (defArgs s_form_sum) (defBody s_form_sum) (defScope s_form_sum) [] [] f fd) (gF : mg "form_sum" = some (.ref f)) (m : Ok K N_form_sum T_form_sum (t_form_sum K)) : Has P w K mg base "form_sum" 1 P_form_sum T_form_sum := by
  have len : ∀ ss m Q, T_form_sum ss m Q → ss.length = (P_form_sum).length := by
    intro ss m Q h
    repeat (obtain ⟨_, h⟩ := h)
    subst_vars
    rfl
  refine has_ok F gF sc_form_sum len (fun _ _ _ _ _ _ us hl => match us, hl with | [_, _], _ => rfl) m fun cdv A outer s H hg hr => ?_
  exact (pss_one (ps_ret (pe_callTy call_tupD (by rfl) B.tuple (by decide +kernel) (pa_cons (pe_lc (own := [("low", 2), ("high", 3)]) rfl sc_form_sum.nd (pi_zipS (by rfl) B.zip (pa_cons (pv 0) (pa_cons (pv 1) pa_nil))) (blkOk_by (own := [("low", 2), ("high", 3)]) (N := N_form_sum) (sc := defScope s_form_sum) (by decide +kernel)) (fun _ _ _ _ _ => (pg_tup rfl (pgs_cons (pg_name (i := 2) sc_form_sum.nd rfl (by first | exact Or.inl rfl | exact Or.inr rfl)) (pgs_cons (pg_name (i := 3) sc_form_sum.nd rfl (by first | exact Or.inl rfl | exact Or.inr rfl)) pgs_nil)))) (fun _ _ _ _ _ => pts_nil) (fun _ _ _ _ _ => (pe_op op_addD (pv 2) (pv 3)))) pa_nil))))
theorem ok_added (B : Bl mg) (g_check_two_forms : Has P w K mg base "check_two_forms" 7 P_check_two_forms T_check_two_forms) (g_form_sum : Has P w K mg base "form_sum" 1 P_form_sum T_form_sum) (F : FunD K "added" "added" (defArgs s_added) (defBody s_added) (defScope s_added) [] [] f fd) (gF : mg "added" = some (.ref f)) (m : Ok K N_added T_added (t_added K)) : Has P w K mg base "added" 8 P_added T_added := by
  have len : ∀ ss m Q, T_added ss m Q → ss.length = (P_added).length := by
    intro ss m Q h
    repeat (obtain ⟨_, h⟩ := h)
    subst_vars
    rfl
  refine has_ok F gF sc_added len (fun _ _ _ _ _ _ us hl => match us, hl with | [_, _], _ => rfl) m fun cdv A outer s H hg hr => ?_
  exact (pss_cons (ps_expr (pe_U g_check_two_forms hg (hr.mono (by decide)) (by rfl) (pa_cons (pv 0) (pa_cons (pv 1) pa_nil))))
      (pss_one (ps_ret (pe_U g_form_sum hg (hr.mono (by decide)) (by rfl) (pa_cons (pv 0) (pa_cons (pv 1) pa_nil))))))
theorem ok_check_number (B : Bl mg) (g_is_between : Has P w K mg base "is_between" 2 P_is_between T_is_between) (F : FunD K "check_number" "check_number" (defArgs s_check_number) (defBody s_check_number) (defScope s_check_number) [] [] f fd) (gF : mg "check_number" = some (.ref f)) (m : Ok K N_check_number T_check_number (t_check_number K)) : Has P w K mg base "check_number" 3 P_check_number T_check_number := by
  have len : ∀ ss m Q, T_check_number ss m Q → ss.length = (P_check_number).length := by
    intro ss m Q h
    repeat (obtain ⟨_, h⟩ := h)
    subst_vars
    rfl
  refine has_ok F gF sc_check_number len (fun _ _ _ _ _ _ us hl => match us, hl with | [_, _, _], _ => rfl) m fun cdv A outer s H hg hr => ?_
  exact (pss_one (ps_if (pt_not (pt_val (pe_U g_is_between hg (hr.mono (by decide)) (by rfl) (pa_cons (pv 0) (pa_cons (pv 1) (pa_cons (pv 2) pa_nil)))))) (pss_one ps_never) pss_nil))
theorem ok_form_times (B : Bl mg) (F : FunD K "form_times" "form_times" (defArgs s_form_times) (defBody s_form_times) (defScope s_form_times) [] [] f fd) (gF : mg "form_times" = some (.ref f)) (m : Ok K N_form_times T_form_times (t_form_times K)) : Has P w K mg base "form_times" 1 P_form_times T_form_times := by
  have len : ∀ ss m Q, T_form_times ss m Q → ss.length = (P_form_times).length := by
    intro ss m Q h
    repeat (obtain ⟨_, h⟩ := h)
    subst_vars
    rfl
  refine has_ok F gF sc_form_times len (fun _ _ _ _ _ _ us hl => match us, hl with | [_, _], _ => rfl) m fun cdv A outer s H hg hr => ?_
  exact (pss_one (ps_ret (pe_callTy call_tupD (by rfl) B.tuple (by decide +kernel) (pa_cons (pe_lc (own := [("item", 2)]) rfl sc_form_times.nd (pi_D (pv 1)) (blkOk_by (own := [("item", 2)]) (N := N_form_times) (sc := defScope s_form_times) (by decide +kernel)) (fun _ _ _ _ _ => (pg_name (i := 2) sc_form_times.nd rfl (by first | exact Or.inl rfl | exact Or.inr rfl))) (fun _ _ _ _ _ => pts_nil) (fun _ _ _ _ _ => (pe_op op_mulD (pv 0) (pv 2)))) pa_nil))))
theorem ok_scaled (B : Bl mg) (g_check_number : Has P w K mg base "check_number" 3 P_check_number T_check_number) (g_check_any_form : Has P w K mg base "check_any_form" 6 P_check_any_form T_check_any_form) (g_form_times : Has P w K mg base "form_times" 1 P_form_times T_form_times) (F : FunD K "scaled" "scaled" (defArgs s_scaled) (defBody s_scaled) (defScope s_scaled) [] [] f fd) (gF : mg "scaled" = some (.ref f)) (m : Ok K N_scaled T_scaled (t_scaled K)) : Has P w K mg base "scaled" 7 P_scaled T_scaled := by
  have len : ∀ ss m Q, T_scaled ss m Q → ss.length = (P_scaled).length := by
    intro ss m Q h
    repeat (obtain ⟨_, h⟩ := h)
    subst_vars
    rfl
  refine has_ok F gF sc_scaled len (fun _ _ _ _ _ _ us hl => match us, hl with | [_, _], _ => rfl) m fun cdv A outer s H hg hr => ?_
  exact (pss_cons (ps_expr (pe_U g_check_number hg (hr.mono (by decide)) (by rfl) (pa_cons (pv 0) (pa_cons pe_int (pa_cons pe_non pa_nil)))))
      (pss_cons (ps_expr (pe_U g_check_any_form hg (hr.mono (by decide)) (by rfl) (pa_cons (pv 1) pa_nil)))
      (pss_one (ps_ret (pe_U g_form_times hg (hr.mono (by decide)) (by rfl) (pa_cons (pv 0) (pa_cons (pv 1) pa_nil)))))))
theorem ok_law_point_above (B : Bl mg) (F : FunD K "_law_point_above" "_law_point_above" (defArgs s_law_point_above) (defBody s_law_point_above) (defScope s_law_point_above) [] [] f fd) (gF : mg "_law_point_above" = some (.ref f)) (m : Ok K N_law_point_above T_law_point_above (t_law_point_above K)) : Has P w K mg base "_law_point_above" 1 P_law_point_above T_law_point_above := by
  have len : ∀ ss m Q, T_law_point_above ss m Q → ss.length = (P_law_point_above).length := by
    intro ss m Q h
    repeat (obtain ⟨_, h⟩ := h)
    subst_vars
    rfl
  refine has_ok F gF sc_law_point_above len (fun _ _ _ _ _ _ us hl => match us, hl with | [_, _], _ => rfl) m fun cdv A outer s H hg hr => ?_
  exact (pss_cons (ps_if (pt_cmpR op_gtD (pe_ix ix_D (pv 0) pe_int (fun _ _ => rfl)) (pe_ix ix_D (pv 1) pe_int (fun _ _ => rfl)) (nomark _)) (pss_one (ps_ret (pe_op op_mulD (pe_lst (pa_cons pe_int pa_nil)) (pe_op op_subD (pe_callB call_lenD (by rfl) B.len (by decide +kernel) (pa_cons (pv 0) pa_nil)) pe_int)))) pss_nil)
      (pss_cons (ps_for PassesOwn.never rfl (pi_range2 (by rfl) B.range (pa_cons pe_int (pa_cons (pe_callB call_lenD (by rfl) B.len (by decide +kernel) (pa_cons (pv 0) pa_nil)) pa_nil))) (pg_name (i := 2) sc_law_point_above.nd rfl (by first | exact Or.inl rfl | exact Or.inr rfl)) (pss_one (ps_if (pt_cmpR op_gtD (pe_ix ix_D (pv 0) (pv 2) (fun _ _ => rfl)) (pe_ix ix_D (pv 1) (pv 2) (fun _ _ => rfl)) (nomark _)) (pss_one (ps_ret (pe_lc (own := [("place", 3)]) rfl sc_law_point_above.nd (pi_range2 (by rfl) B.range (pa_cons pe_int (pa_cons (pe_callB call_lenD (by rfl) B.len (by decide +kernel) (pa_cons (pv 0) pa_nil)) pa_nil))) (blkOk_by (own := [("place", 3)]) (N := N_law_point_above) (sc := defScope s_law_point_above) (by decide +kernel)) (fun _ _ _ _ _ => (pg_name (i := 3) sc_law_point_above.nd rfl (by first | exact Or.inl rfl | exact Or.inr rfl))) (fun _ _ _ _ _ => pts_nil) (fun _ _ _ _ _ => (pe_op op_mulD (pe_op op_addD (pe_ix ix_D (pv 1) pe_int (fun _ _ => rfl)) pe_int) (pe_callTy call_intD (by rfl) B.int (by decide +kernel) (pa_cons (pe_cmpR (op_eqDD hr.units) (pv 3) (pv 2) (nomark _)) pa_nil))))))) pss_nil)))
      (pss_one (ps_ret pe_non))))
theorem ok_form_below (B : Bl mg) (F : FunD K "form_below" "form_below" (defArgs s_form_below) (defBody s_form_below) (defScope s_form_below) [] [] f fd) (gF : mg "form_below" = some (.ref f)) (m : Ok K N_form_below T_form_below (t_form_below K)) : Has P w K mg base "form_below" 1 P_form_below T_form_below := by
  have len : ∀ ss m Q, T_form_below ss m Q → ss.length = (P_form_below).length := by
    intro ss m Q h
    repeat (obtain ⟨_, h⟩ := h)
    subst_vars
    rfl
  refine has_ok F gF sc_form_below len (fun _ _ _ _ _ _ us hl => match us, hl with | [_, _], _ => rfl) m fun cdv A outer s H hg hr => ?_
  exact (pss_one (ps_ret (pe_cmpR (op_eqDD hr.units) (pe_lc (own := [("low", 2), ("high", 3)]) rfl sc_form_below.nd (pi_zipS (by rfl) B.zip (pa_cons (pv 0) (pa_cons (pv 1) pa_nil))) (blkOk_by (own := [("low", 2), ("high", 3)]) (N := N_form_below) (sc := defScope s_form_below) (by decide +kernel)) (fun _ _ _ _ _ => (pg_tup rfl (pgs_cons (pg_name (i := 2) sc_form_below.nd rfl (by first | exact Or.inl rfl | exact Or.inr rfl)) (pgs_cons (pg_name (i := 3) sc_form_below.nd rfl (by first | exact Or.inl rfl | exact Or.inr rfl)) pgs_nil)))) (fun _ _ _ _ _ => (pts_one (pt_cmpR op_gtD (pv 2) (pv 3) (nomark _)))) (fun _ _ _ _ _ => (pv 2))) (pe_lst pa_nil) (nomark _))))
theorem ok_below (B : Bl mg) (g_check_two_forms : Has P w K mg base "check_two_forms" 7 P_check_two_forms T_check_two_forms) (g_form_below : Has P w K mg base "form_below" 1 P_form_below T_form_below) (F : FunD K "below" "below" (defArgs s_below) (defBody s_below) (defScope s_below) [] [] f fd) (gF : mg "below" = some (.ref f)) (m : Ok K N_below T_below (t_below K)) : Has P w K mg base "below" 8 P_below T_below := by
  have len : ∀ ss m Q, T_below ss m Q → ss.length = (P_below).length := by
    intro ss m Q h
    repeat (obtain ⟨_, h⟩ := h)
    subst_vars
    rfl
  refine has_ok F gF sc_below len (fun _ _ _ _ _ _ us hl => match us, hl with | [_, _], _ => rfl) m fun cdv A outer s H hg hr => ?_
  exact (pss_cons (ps_expr (pe_U g_check_two_forms hg (hr.mono (by decide)) (by rfl) (pa_cons (pv 0) (pa_cons (pv 1) pa_nil))))
      (pss_one (ps_ret (pe_U g_form_below hg (hr.mono (by decide)) (by rfl) (pa_cons (pv 0) (pa_cons (pv 1) pa_nil))))))
theorem ok_law_yes (B : Bl mg) (F : FunD K "_law_yes" "_law_yes" (defArgs s_law_yes) (defBody s_law_yes) (defScope s_law_yes) [] [] f fd) (gF : mg "_law_yes" = some (.ref f)) (m : Ok K N_law_yes T_law_yes (t_law_yes K)) : Has P w K mg base "_law_yes" 1 P_law_yes T_law_yes := by
  have len : ∀ ss m Q, T_law_yes ss m Q → ss.length = (P_law_yes).length := by
    intro ss m Q h
    repeat (obtain ⟨_, h⟩ := h)
    subst_vars
    rfl
  refine has_ok F gF sc_law_yes len (fun _ _ _ _ _ _ us hl => match us, hl with | [_, _], _ => rfl) m fun cdv A outer s H hg hr => ?_
  exact (pss_one (ps_ret (pe_and (pe_callB call_isiD (by rfl) B.isinstance (by decide +kernel) (pa_cons (pv 0) (pa_cons (pe_bltn rfl B.bool (by decide +kernel) rfl) pa_nil))) (pe_one (pe_cmpR (op_eqDD hr.units) (pv 0) (pv 1) (nomark _))))))
theorem ok_check_many (B : Bl mg) (cMOST_UNKNOWNS0 : ∃ t, mg "MOST_UNKNOWNS" = some (.int 3 t)) (g_check_number : Has P w K mg base "check_number" 3 P_check_number T_check_number) (F : FunD K "check_many" "check_many" (defArgs s_check_many) (defBody s_check_many) (defScope s_check_many) [] [] f fd) (gF : mg "check_many" = some (.ref f)) (m : Ok K N_check_many T_check_many (t_check_many K)) : Has P w K mg base "check_many" 4 P_check_many T_check_many := by
  obtain ⟨tMOST_UNKNOWNS, cMOST_UNKNOWNS⟩ := cMOST_UNKNOWNS0
  have len : ∀ ss m Q, T_check_many ss m Q → ss.length = (P_check_many).length := by
    intro ss m Q h
    repeat (obtain ⟨_, h⟩ := h)
    subst_vars
    rfl
  refine has_ok F gF sc_check_many len (fun _ _ _ _ _ _ us hl => match us, hl with | [_], _ => rfl) m fun cdv A outer s H hg hr => ?_
  exact (pss_one (ps_expr (pe_U g_check_number hg (hr.mono (by decide)) (by rfl) (pa_cons (pv 0) (pa_cons pe_int (pa_cons (pe_glob rfl cMOST_UNKNOWNS ⟨_, rfl⟩) pa_nil))))))
theorem ok_check_forms (B : Bl mg) (g_is_form_for : Has P w K mg base "is_form_for" 4 P_is_form_for T_is_form_for) (F : FunD K "check_forms" "check_forms" (defArgs s_check_forms) (defBody s_check_forms) (defScope s_check_forms) [] [] f fd) (gF : mg "check_forms" = some (.ref f)) (m : Ok K N_check_forms T_check_forms (t_check_forms K)) : Has P w K mg base "check_forms" 5 P_check_forms T_check_forms := by
  have len : ∀ ss m Q, T_check_forms ss m Q → ss.length = (P_check_forms).length := by
    intro ss m Q h
    repeat (obtain ⟨_, h⟩ := h)
    subst_vars
    rfl
  refine has_ok F gF sc_check_forms len (fun _ _ _ _ _ _ us hl => match us, hl with | [_, _, _], _ => rfl) m fun cdv A outer s H hg hr => ?_
  exact (pss_cons (ps_if (PW.pt (pw_or (pt_not (pt_val (pe_callB call_isiD (by rfl) B.isinstance (by decide +kernel) (pa_cons (pv 1) (pa_cons (pe_bltn rfl B.list (by decide +kernel) rfl) pa_nil))))) (pw_or1 (pt_cmpR (op_neDD hr.units) (pe_callB call_lenD (by rfl) B.len (by decide +kernel) (pa_cons (pv 1) pa_nil)) (pv 2) (nomark _))))) (pss_one ps_never) pss_nil)
      (pss_one (ps_if (pt_cmpR (op_neDD hr.units) (pe_lc (own := [("item", 3)]) rfl sc_check_forms.nd (pi_D (pv 1)) (blkOk_by (own := [("item", 3)]) (N := N_check_forms) (sc := defScope s_check_forms) (by decide +kernel)) (fun _ _ _ _ _ => (pg_name (i := 3) sc_check_forms.nd rfl (by first | exact Or.inl rfl | exact Or.inr rfl))) (fun _ _ _ _ _ => (pts_one (pt_not (pt_val (pe_U g_is_form_for hg (hr.mono (by decide)) (by rfl) (pa_cons (pv 0) (pa_cons (pv 3) pa_nil))))))) (fun _ _ _ _ _ => (pv 3))) (pe_lst pa_nil) (nomark _)) (pss_one ps_never) pss_nil)))
theorem ok_plain (B : Bl mg) (F : FunD K "plain" "plain" (defArgs s_plain) (defBody s_plain) (defScope s_plain) [] [] f fd) (gF : mg "plain" = some (.ref f)) (m : Ok K N_plain T_plain (t_plain K)) : Has P w K mg base "plain" 1 P_plain T_plain := by
  have len : ∀ ss m Q, T_plain ss m Q → ss.length = (P_plain).length := by
    intro ss m Q h
    repeat (obtain ⟨_, h⟩ := h)
    subst_vars
    rfl
  refine has_ok F gF sc_plain len (fun _ _ _ _ _ _ us hl => match us, hl with | [_, _], _ => rfl) m fun cdv A outer s H hg hr => ?_
  exact (pss_one (ps_ret (pe_op op_addD (pe_tup (pa_cons (pv 1) pa_nil)) (pe_op op_mulD (pe_tup (pa_cons pe_int pa_nil)) (pv 0)))))
theorem ok_form_inserted (B : Bl mg) (g_plain : Has P w K mg base "plain" 1 P_plain T_plain) (g_form_times : Has P w K mg base "form_times" 1 P_form_times T_form_times) (g_form_sum : Has P w K mg base "form_sum" 1 P_form_sum T_form_sum) (F : FunD K "form_inserted" "form_inserted" (defArgs s_form_inserted) (defBody s_form_inserted) (defScope s_form_inserted) [] [] f fd) (gF : mg "form_inserted" = some (.ref f)) (m : Ok K N_form_inserted T_form_inserted (t_form_inserted K)) : Has P w K mg base "form_inserted" 2 P_form_inserted T_form_inserted := by
  have len : ∀ ss m Q, T_form_inserted ss m Q → ss.length = (P_form_inserted).length := by
    intro ss m Q h
    repeat (obtain ⟨_, h⟩ := h)
    subst_vars
    rfl
  refine has_ok F gF sc_form_inserted len (fun _ _ _ _ _ _ us hl => match us, hl with | [_, _, _], _ => rfl) m fun cdv A outer s H hg hr => ?_
  exact (pss_cons (ps_set (i := 3) sc_form_inserted.nd rfl (by first | exact Or.inl rfl | exact Or.inr rfl) (pe_U g_plain hg (hr.mono (by decide)) (by rfl) (pa_cons (pv 1) (pa_cons (pe_ix ix_D (pv 0) pe_int (fun _ _ => rfl)) pa_nil))))
      (pss_cons (ps_for PassesOwn.never rfl (pi_zipS (by rfl) B.zip (pa_cons (pe_slice sl_D (pv 0) (po_some pe_int) po_none) (pa_cons (pv 2) pa_nil))) (pg_tup rfl (pgs_cons (pg_name (i := 4) sc_form_inserted.nd rfl (by first | exact Or.inl rfl | exact Or.inr rfl)) (pgs_cons (pg_name (i := 5) sc_form_inserted.nd rfl (by first | exact Or.inl rfl | exact Or.inr rfl)) pgs_nil))) (pss_one (ps_set (i := 3) sc_form_inserted.nd rfl (by first | exact Or.inl rfl | exact Or.inr rfl) (pe_U g_form_sum hg (hr.mono (by decide)) (by rfl) (pa_cons (pv 3) (pa_cons (pe_U g_form_times hg (hr.mono (by decide)) (by rfl) (pa_cons (pv 4) (pa_cons (pv 5) pa_nil))) pa_nil))))))
      (pss_one (ps_ret (pv 3)))))
theorem ok_inserted (B : Bl mg) (g_check_any_form : Has P w K mg base "check_any_form" 6 P_check_any_form T_check_any_form) (g_check_many : Has P w K mg base "check_many" 4 P_check_many T_check_many) (g_check_forms : Has P w K mg base "check_forms" 5 P_check_forms T_check_forms) (g_form_inserted : Has P w K mg base "form_inserted" 2 P_form_inserted T_form_inserted) (F : FunD K "inserted" "inserted" (defArgs s_inserted) (defBody s_inserted) (defScope s_inserted) [] [] f fd) (gF : mg "inserted" = some (.ref f)) (m : Ok K N_inserted T_inserted (t_inserted K)) : Has P w K mg base "inserted" 7 P_inserted T_inserted := by
  have len : ∀ ss m Q, T_inserted ss m Q → ss.length = (P_inserted).length := by
    intro ss m Q h
    repeat (obtain ⟨_, h⟩ := h)
    subst_vars
    rfl
  refine has_ok F gF sc_inserted len (fun _ _ _ _ _ _ us hl => match us, hl with | [_, _, _], _ => rfl) m fun cdv A outer s H hg hr => ?_
  exact (pss_cons (ps_expr (pe_U g_check_any_form hg (hr.mono (by decide)) (by rfl) (pa_cons (pv 0) pa_nil)))
      (pss_cons (ps_expr (pe_U g_check_many hg (hr.mono (by decide)) (by rfl) (pa_cons (pv 1) pa_nil)))
      (pss_cons (ps_expr (pe_U g_check_forms hg (hr.mono (by decide)) (by rfl) (pa_cons (pv 1) (pa_cons (pv 2) (pa_cons (pe_op op_subD (pe_callB call_lenD (by rfl) B.len (by decide +kernel) (pa_cons (pv 0) pa_nil)) pe_int) pa_nil)))))
      (pss_one (ps_ret (pe_U g_form_inserted hg (hr.mono (by decide)) (by rfl) (pa_cons (pv 0) (pa_cons (pv 1) (pa_cons (pv 2) pa_nil)))))))))
theorem ok_is_form (B : Bl mg) (g_check_many : Has P w K mg base "check_many" 4 P_check_many T_check_many) (g_is_form_for : Has P w K mg base "is_form_for" 4 P_is_form_for T_is_form_for) (F : FunD K "is_form" "is_form" (defArgs s_is_form) (defBody s_is_form) (defScope s_is_form) [] [] f fd) (gF : mg "is_form" = some (.ref f)) (m : Ok K N_is_form T_is_form (t_is_form K)) : Has P w K mg base "is_form" 5 P_is_form T_is_form := by
  have len : ∀ ss m Q, T_is_form ss m Q → ss.length = (P_is_form).length := by
    intro ss m Q h
    repeat (obtain ⟨_, h⟩ := h)
    subst_vars
    rfl
  refine has_ok F gF sc_is_form len (fun _ _ _ _ _ _ us hl => match us, hl with | [_, _], _ => rfl) m fun cdv A outer s H hg hr => ?_
  exact (pss_cons (ps_expr (pe_U g_check_many hg (hr.mono (by decide)) (by rfl) (pa_cons (pv 0) pa_nil)))
      (pss_one (ps_ret (pe_U g_is_form_for hg (hr.mono (by decide)) (by rfl) (pa_cons (pv 0) (pa_cons (pv 1) pa_nil))))))
theorem ok_law_right (B : Bl mg) (g_law_random : Has P w K mg base "_law_random" 2 P_law_random T_law_random) (g_law_form : Has P w K mg base "_law_form" 3 P_law_form T_law_form) (g_law_point : Has P w K mg base "_law_point" 3 P_law_point T_law_point) (g_law_near : Has P w K mg base "_law_near" 4 P_law_near T_law_near) (g_law_value : Has P w K mg base "_law_value" 1 P_law_value T_law_value) (g_value : Has P w K mg base "value" 7 P_value T_value) (g_law_is_whole : Has P w K mg base "_law_is_whole" 1 P_law_is_whole T_law_is_whole) (g_added : Has P w K mg base "added" 8 P_added T_added) (g_scaled : Has P w K mg base "scaled" 7 P_scaled T_scaled) (g_law_point_above : Has P w K mg base "_law_point_above" 1 P_law_point_above T_law_point_above) (g_below : Has P w K mg base "below" 8 P_below T_below) (g_law_yes : Has P w K mg base "_law_yes" 1 P_law_yes T_law_yes) (g_inserted : Has P w K mg base "inserted" 7 P_inserted T_inserted) (g_is_form : Has P w K mg base "is_form" 5 P_is_form T_is_form) (F : FunD K "_law_right" "_law_right" (defArgs s_law_right) (defBody s_law_right) (defScope s_law_right) [] [] f fd) (gF : mg "_law_right" = some (.ref f)) (m : Ok K N_law_right T_law_right (t_law_right K)) : Has P w K mg base "_law_right" 9 P_law_right T_law_right := by
  have len : ∀ ss m Q, T_law_right ss m Q → ss.length = (P_law_right).length := by
    intro ss m Q h
    repeat (obtain ⟨_, h⟩ := h)
    subst_vars
    rfl
  refine has_ok F gF sc_law_right len (fun _ _ _ _ _ _ us hl => match us, hl with | [_], _ => rfl) m fun cdv A outer s H hg hr => ?_
  exact (pss_cons (ps_asg (pe_tup (pa_cons (pe_U g_law_random hg (hr.mono (by decide)) (by rfl) (pa_cons (pv 0) (pa_cons pe_int pa_nil))) (pa_cons (pe_U g_law_random hg (hr.mono (by decide)) (by rfl) (pa_cons (pv 0) (pa_cons pe_int pa_nil))) pa_nil))) (pg_tup rfl (pgs_cons (pg_name (i := 1) sc_law_right.nd rfl (by first | exact Or.inl rfl | exact Or.inr rfl)) (pgs_cons (pg_name (i := 2) sc_law_right.nd rfl (by first | exact Or.inl rfl | exact Or.inr rfl)) pgs_nil))))
      (pss_cons (ps_set (i := 3) sc_law_right.nd rfl (by first | exact Or.inl rfl | exact Or.inr rfl) (pe_ix ix_D (pe_lst (pa_cons pe_int (pa_cons (pe_op op_powD pe_int pe_int) (pa_cons (pe_op op_powD pe_int pe_int) pa_nil)))) (pe_U g_law_random hg (hr.mono (by decide)) (by rfl) (pa_cons (pv 0) (pa_cons pe_int pa_nil))) (fun _ _ => rfl)))
      (pss_cons (ps_set (i := 4) sc_law_right.nd rfl (by first | exact Or.inl rfl | exact Or.inr rfl) (pe_U g_law_form hg (hr.mono (by decide)) (by rfl) (pa_cons (pv 0) (pa_cons (pv 1) (pa_cons (pv 3) pa_nil)))))
      (pss_cons (ps_par (i := 5) (j := 6) rfl sc_law_right.nd rfl rfl (by decide) rfl rfl (pa_cons (pe_U g_law_near hg (hr.mono (by decide)) (by rfl) (pa_cons (pv 0) (pa_cons (pv 4) (pa_cons (pv 3) pa_nil)))) (pa_cons (pe_U g_law_point hg (hr.mono (by decide)) (by rfl) (pa_cons (pv 0) (pa_cons (pv 1) (pa_cons (pv 3) pa_nil)))) pa_nil)) rfl)
      (pss_cons (ps_asg (pe_tup (pa_cons (pe_U g_law_random hg (hr.mono (by decide)) (by rfl) (pa_cons (pv 0) (pa_cons (pe_op op_addD (pv 3) pe_int) pa_nil))) (pa_cons (pe_lc (own := [("turn", 17)]) rfl sc_law_right.nd (pi_range1 (by rfl) B.range (pa_cons (pv 1) pa_nil)) (blkOk_by (own := [("turn", 17)]) (N := N_law_right) (sc := defScope s_law_right) (by decide +kernel)) (fun _ _ _ _ _ => (pg_name (i := 17) sc_law_right.nd rfl (by first | exact Or.inl rfl | exact Or.inr rfl))) (fun _ _ _ _ _ => pts_nil) (fun _ _ _ _ _ => (pe_U g_law_form hg (hr.mono (by decide)) (by rfl) (pa_cons (pv 0) (pa_cons (pv 2) (pa_cons (pv 3) pa_nil)))))) pa_nil))) (pg_tup rfl (pgs_cons (pg_name (i := 7) sc_law_right.nd rfl (by first | exact Or.inl rfl | exact Or.inr rfl)) (pgs_cons (pg_name (i := 8) sc_law_right.nd rfl (by first | exact Or.inl rfl | exact Or.inr rfl)) pgs_nil))))
      (pss_cons (ps_if (pt_not (pt_val (pe_U g_law_is_whole hg (hr.mono (by decide)) (by rfl) (pa_cons (pe_U g_value hg (hr.mono (by decide)) (by rfl) (pa_cons (pv 4) (pa_cons (pe_callTy call_lstD (by rfl) B.list (by decide +kernel) (pa_cons (pv 6) pa_nil)) pa_nil))) (pa_cons (pe_U g_law_value hg (hr.mono (by decide)) (by rfl) (pa_cons (pv 4) (pa_cons (pv 6) pa_nil))) pa_nil))))) (pss_one (ps_ret pe_bl)) pss_nil)
      (pss_cons (ps_if (pt_cmpR (op_neDD hr.units) (pe_U g_added hg (hr.mono (by decide)) (by rfl) (pa_cons (pv 4) (pa_cons (pv 5) pa_nil))) (pe_callTy call_tupD (by rfl) B.tuple (by decide +kernel) (pa_cons (pe_lc (own := [("low", 18), ("high", 19)]) rfl sc_law_right.nd (pi_zipN (by rfl) B.zip (pa_cons (pv 4) (pa_cons (pv 5) pa_nil))) (blkOk_by (own := [("low", 18), ("high", 19)]) (N := N_law_right) (sc := defScope s_law_right) (by decide +kernel)) (fun _ _ _ _ _ => (pg_tup rfl (pgs_cons (pg_name (i := 18) sc_law_right.nd rfl (by first | exact Or.inl rfl | exact Or.inr rfl)) (pgs_cons (pg_name (i := 19) sc_law_right.nd rfl (by first | exact Or.inl rfl | exact Or.inr rfl)) pgs_nil)))) (fun _ _ _ _ _ => pts_nil) (fun _ _ _ _ _ => (pe_op op_addD (pv 18) (pv 19)))) pa_nil)) (nomark _)) (pss_one (ps_ret pe_bl)) pss_nil)
      (pss_cons (ps_if (PW.pt (pw_or (pt_cmpR (op_neDD hr.units) (pe_U g_scaled hg (hr.mono (by decide)) (by rfl) (pa_cons (pv 7) (pa_cons (pv 4) pa_nil))) (pe_callTy call_tupD (by rfl) B.tuple (by decide +kernel) (pa_cons (pe_lc (own := [("item", 20)]) rfl sc_law_right.nd (pi_D (pv 4)) (blkOk_by (own := [("item", 20)]) (N := N_law_right) (sc := defScope s_law_right) (by decide +kernel)) (fun _ _ _ _ _ => (pg_name (i := 20) sc_law_right.nd rfl (by first | exact Or.inl rfl | exact Or.inr rfl))) (fun _ _ _ _ _ => pts_nil) (fun _ _ _ _ _ => (pe_op op_mulD (pv 7) (pv 20)))) pa_nil)) (nomark _)) (pw_or1 (pt_not (pt_val (pe_callB call_isiD (by rfl) B.isinstance (by decide +kernel) (pa_cons (pe_U g_scaled hg (hr.mono (by decide)) (by rfl) (pa_cons pe_int (pa_cons (pv 4) pa_nil))) (pa_cons (pe_bltn rfl B.tuple (by decide +kernel) rfl) pa_nil)))))))) (pss_one (ps_ret pe_bl)) pss_nil)
      (pss_cons (ps_set (i := 9) sc_law_right.nd rfl (by first | exact Or.inl rfl | exact Or.inr rfl) (pe_U g_law_point_above hg (hr.mono (by decide)) (by rfl) (pa_cons (pv 4) (pa_cons (pv 5) pa_nil))))
      (pss_cons (ps_if (PW.pt (pw_or (pt_not (pt_val (pe_U g_law_yes hg (hr.mono (by decide)) (by rfl) (pa_cons (pe_U g_below hg (hr.mono (by decide)) (by rfl) (pa_cons (pv 4) (pa_cons (pv 5) pa_nil))) (pa_cons (pe_cmpR op_isD (pv 9) pe_non (nomark _)) pa_nil))))) (pw_or1 (pt_cmpR op_isnotD (pe_U g_below hg (hr.mono (by decide)) (by rfl) (pa_cons (pv 4) (pa_cons (pv 4) pa_nil))) pe_bl (nomark _))))) (pss_one (ps_ret pe_bl)) pss_nil)
      (pss_cons (ps_if (PW.pt (pw_and (pt_cmpR op_isnotD (pv 9) pe_non (nomark _)) (pw_and1 (pt_cmpR op_leD (pe_U g_value hg (hr.mono (by decide)) (by rfl) (pa_cons (pv 4) (pa_cons (pv 9) pa_nil))) (pe_U g_value hg (hr.mono (by decide)) (by rfl) (pa_cons (pv 5) (pa_cons (pv 9) pa_nil))) (nomark _))))) (pss_one (ps_ret pe_bl)) pss_nil)
      (pss_cons (ps_if (PW.pt (pw_and (pt_cmpR op_isD (pv 9) pe_non (nomark _)) (pw_and1 (pt_cmpR op_gtD (pe_U g_value hg (hr.mono (by decide)) (by rfl) (pa_cons (pv 4) (pa_cons (pe_callTy call_lstD (by rfl) B.list (by decide +kernel) (pa_cons (pv 6) pa_nil)) pa_nil))) (pe_U g_value hg (hr.mono (by decide)) (by rfl) (pa_cons (pv 5) (pa_cons (pe_callTy call_lstD (by rfl) B.list (by decide +kernel) (pa_cons (pv 6) pa_nil)) pa_nil))) (nomark _))))) (pss_one (ps_ret pe_bl)) pss_nil)
      (pss_cons (ps_asg (pe_tup (pa_cons (pe_callTy call_lstD (by rfl) B.list (by decide +kernel) (pa_cons (pv 8) pa_nil)) (pa_cons (pe_U g_law_point hg (hr.mono (by decide)) (by rfl) (pa_cons (pv 0) (pa_cons (pv 2) (pa_cons (pv 3) pa_nil)))) pa_nil))) (pg_tup rfl (pgs_cons (pg_name (i := 10) sc_law_right.nd rfl (by first | exact Or.inl rfl | exact Or.inr rfl)) (pgs_cons (pg_name (i := 11) sc_law_right.nd rfl (by first | exact Or.inl rfl | exact Or.inr rfl)) pgs_nil))))
      (pss_cons (ps_set (i := 12) sc_law_right.nd rfl (by first | exact Or.inl rfl | exact Or.inr rfl) (pe_U g_inserted hg (hr.mono (by decide)) (by rfl) (pa_cons (pv 4) (pa_cons (pv 2) (pa_cons (pv 10) pa_nil)))))
      (pss_cons (ps_if (PW.pt (pw_or (pt_cmpR (op_neDD hr.units) (pv 10) (pv 8) (nomark _)) (pw_or (pt_not (pt_val (pe_callB call_isiD (by rfl) B.isinstance (by decide +kernel) (pa_cons (pv 12) (pa_cons (pe_bltn rfl B.tuple (by decide +kernel) rfl) pa_nil))))) (pw_or1 (pt_cmpR (op_neDD hr.units) (pe_callB call_lenD (by rfl) B.len (by decide +kernel) (pa_cons (pv 12) pa_nil)) (pe_op op_addD (pv 2) pe_int) (nomark _)))))) (pss_one (ps_ret pe_bl)) pss_nil)
      (pss_cons (ps_set (i := 13) sc_law_right.nd rfl (by first | exact Or.inl rfl | exact Or.inr rfl) (pe_lst (pa_cons (pe_op op_addD (pe_ix ix_D (pv 4) pe_int (fun _ _ => rfl)) (pe_callB (call_sumD rfl) (by rfl) B.sum (by decide +kernel) (pa_cons (pe_lc (own := [("step", 21), ("form", 22)]) rfl sc_law_right.nd (pi_zipN (by rfl) B.zip (pa_cons (pe_slice sl_D (pv 4) (po_some pe_int) po_none) (pa_cons (pv 8) pa_nil))) (blkOk_by (own := [("step", 21), ("form", 22)]) (N := N_law_right) (sc := defScope s_law_right) (by decide +kernel)) (fun _ _ _ _ _ => (pg_tup rfl (pgs_cons (pg_name (i := 21) sc_law_right.nd rfl (by first | exact Or.inl rfl | exact Or.inr rfl)) (pgs_cons (pg_name (i := 22) sc_law_right.nd rfl (by first | exact Or.inl rfl | exact Or.inr rfl)) pgs_nil)))) (fun _ _ _ _ _ => pts_nil) (fun _ _ _ _ _ => (pe_op op_mulD (pv 21) (pe_ix ix_D (pv 22) pe_int (fun _ _ => rfl))))) pa_nil))) pa_nil)))
      (pss_cons (ps_set (i := 13) sc_law_right.nd rfl (by first | exact Or.inl rfl | exact Or.inr rfl) (pe_op op_addD (pv 13) (pe_lc (own := [("at", 14)]) rfl sc_law_right.nd (pi_range2 (by rfl) B.range (pa_cons pe_int (pa_cons (pe_op op_addD (pv 2) pe_int) pa_nil))) (blkOk_by (own := [("at", 14)]) (N := N_law_right) (sc := defScope s_law_right) (by decide +kernel)) (fun _ _ _ _ _ => (pg_name (i := 14) sc_law_right.nd rfl (by first | exact Or.inl rfl | exact Or.inr rfl))) (fun _ _ _ _ _ => pts_nil) (fun _ _ _ _ _ => (pe_callB (call_sumD rfl) (by rfl) B.sum (by decide +kernel) (pa_cons (pe_lc (own := [("step", 21), ("form", 22)]) rfl sc_law_right.nd (pi_zipN (by rfl) B.zip (pa_cons (pe_slice sl_D (pv 4) (po_some pe_int) po_none) (pa_cons (pv 8) pa_nil))) (blkOk_by (own := [("step", 21), ("form", 22)]) (N := N_law_right) (by rfl)) (fun _ _ _ _ _ => (pg_tup rfl (pgs_cons (pg_name (i := 21) sc_law_right.nd rfl (by first | exact Or.inl rfl | exact Or.inr rfl)) (pgs_cons (pg_name (i := 22) sc_law_right.nd rfl (by first | exact Or.inl rfl | exact Or.inr rfl)) pgs_nil)))) (fun _ _ _ _ _ => pts_nil) (fun _ _ _ _ _ => (pe_op op_mulD (pv 21) (pe_ix ix_D (pv 22) (pv 14) (fun _ _ => rfl))))) pa_nil))))))
      (pss_cons (ps_if (PW.pt (pw_or (pt_cmpR (op_neDD hr.units) (pv 12) (pe_callTy call_tupD (by rfl) B.tuple (by decide +kernel) (pa_cons (pv 13) pa_nil)) (nomark _)) (pw_or1 (pt_cmpR (op_neDD hr.units) (pe_U g_value hg (hr.mono (by decide)) (by rfl) (pa_cons (pv 12) (pa_cons (pe_callTy call_lstD (by rfl) B.list (by decide +kernel) (pa_cons (pv 11) pa_nil)) pa_nil))) (pe_U g_value hg (hr.mono (by decide)) (by rfl) (pa_cons (pv 4) (pa_cons (pe_lc (own := [("form", 22)]) rfl sc_law_right.nd (pi_D (pv 8)) (blkOk_by (own := [("form", 22)]) (N := N_law_right) (sc := defScope s_law_right) (by decide +kernel)) (fun _ _ _ _ _ => (pg_name (i := 22) sc_law_right.nd rfl (by first | exact Or.inl rfl | exact Or.inr rfl))) (fun _ _ _ _ _ => pts_nil) (fun _ _ _ _ _ => (pe_U g_value hg (hr.mono (by decide)) (by rfl) (pa_cons (pv 22) (pa_cons (pe_callTy call_lstD (by rfl) B.list (by decide +kernel) (pa_cons (pv 11) pa_nil)) pa_nil))))) pa_nil))) (nomark _))))) (pss_one (ps_ret pe_bl)) pss_nil)
      (pss_cons (ps_if (PW.pt (pw_or (pt_cmpR op_isnotD (pe_U g_is_form hg (hr.mono (by decide)) (by rfl) (pa_cons (pv 1) (pa_cons (pv 4) pa_nil))) pe_bl (nomark _)) (pw_or1 (pt_not (pt_val (pe_U g_law_yes hg (hr.mono (by decide)) (by rfl) (pa_cons (pe_U g_is_form hg (hr.mono (by decide)) (by rfl) (pa_cons (pv 2) (pa_cons (pv 4) pa_nil))) (pa_cons (pe_cmpR (op_eqDD hr.units) (pv 2) (pv 1) (nomark _)) pa_nil)))))))) (pss_one (ps_ret pe_bl)) pss_nil)
      (pss_cons (ps_par (i := 14) (j := 15) rfl sc_law_right.nd rfl rfl (by decide) rfl rfl (pa_cons (pe_U g_law_random hg (hr.mono (by decide)) (by rfl) (pa_cons (pv 0) (pa_cons (pe_op op_addD (pv 1) pe_int) pa_nil))) (pa_cons (pe_lst (pa_cons (pe_callTy call_lstD (by rfl) B.list (by decide +kernel) (pa_cons (pv 4) pa_nil)) (pa_cons (pe_op op_addD (pv 4) (pe_tup (pa_cons pe_int pa_nil))) (pa_cons (pe_slice sl_D (pv 4) (po_some pe_int) po_none) (pa_cons (pe_callTy (call_strD hg hr.units) (by rfl) B.str (by decide +kernel) (pa_cons (pv 4) pa_nil)) (pa_cons pe_non pa_nil)))))) pa_nil)) rfl)
      (pss_cons (ps_for PassesOwn.never rfl (pi_D (pe_lst (pa_cons pe_bl (pa_cons (pe_op op_subD (pe_op op_subD pe_int pe_int) (pv 7)) (pa_cons pe_str (pa_cons pe_non (pa_cons (pe_tup (pa_cons pe_int pa_nil)) pa_nil))))))) (pg_name (i := 16) sc_law_right.nd rfl (by first | exact Or.inl rfl | exact Or.inr rfl)) (pss_one (ps_expr (pe_bm PySem.F.plainAttrs_list PySem.F.slot_list_append PySem.F.type_list_append mt_append (pv 15) (pa_cons (pe_op op_addD (pe_op op_addD (pe_slice sl_D (pv 4) po_none (po_some (pv 14))) (pe_tup (pa_cons (pv 16) pa_nil))) (pe_slice sl_D (pv 4) (po_some (pe_op op_addD (pv 14) pe_int)) po_none)) pa_nil)))))
      (pss_one (ps_ret (pe_cmpR (op_eqDD hr.units) (pe_lc (own := [("item", 20)]) rfl sc_law_right.nd (pi_D (pv 15)) (blkOk_by (own := [("item", 20)]) (N := N_law_right) (sc := defScope s_law_right) (by decide +kernel)) (fun _ _ _ _ _ => (pg_name (i := 20) sc_law_right.nd rfl (by first | exact Or.inl rfl | exact Or.inr rfl))) (fun _ _ _ _ _ => (pts_one (pt_cmpR op_isnotD (pe_U g_is_form hg (hr.mono (by decide)) (by rfl) (pa_cons (pv 1) (pa_cons (pv 20) pa_nil))) pe_bl (nomark _)))) (fun _ _ _ _ _ => (pv 20))) (pe_lst pa_nil) (nomark _)))))))))))))))))))))))))
theorem ok_law (B : Bl mg) (g_law_generator : Has P w K mg base "_law_generator" 2 P_law_generator T_law_generator) (g_law_right : Has P w K mg base "_law_right" 9 P_law_right T_law_right) (F : FunD K "law" "law" (defArgs s_law) (defBody s_law) (defScope s_law) [] [] f fd) (gF : mg "law" = some (.ref f)) (m : Ok K N_law T_law (t_law K)) : FnG P w K mg base 10 f fd P_law (SpD K T_law) := by
  have len : ∀ ss m Q, T_law ss m Q → ss.length = (P_law).length := by
    intro ss m Q h
    repeat (obtain ⟨_, h⟩ := h)
    subst_vars
    rfl
  refine fnG_ok F sc_law len m fun cdv A outer s H hg hr => ?_
  exact (pss_cons (ps_for PassesOwn.never rfl (pi_range1 (by rfl) B.range (pa_cons pe_int pa_nil)) (pg_name (i := 1) sc_law.nd rfl (by first | exact Or.inl rfl | exact Or.inr rfl)) (pss_one (ps_if (pt_not (pt_val (pe_U g_law_right hg (hr.mono (by decide)) (by rfl) (pa_cons (pe_U g_law_generator hg (hr.mono (by decide)) (by rfl) (pa_cons (pv 0) (pa_cons (pv 1) pa_nil))) pa_nil)))) (pss_one (ps_ret pe_bl)) pss_nil)))
      (pss_one (ps_ret pe_bl)))
end
end L11

namespace L11
open PySem PySem.Spec PyProof.Rows L2 Cr
local macro_rules | `(tactic| walk_at "w") => `(tactic| first
  | with_reducible refine ws_seq ?_ | with_reducible refine ws_asg ?_ | with_reducible refine ws_ret ?_ | with_reducible refine ws_retN ?_ | with_reducible refine ws_drop ?_ | with_reducible refine ws_if ?_
  | with_reducible refine ws_next ?_ | with_reducible refine ws_par ?_ | with_reducible refine ws_par3 ?_
  | with_reducible refine we_int ?_ | with_reducible refine we_str ?_ | with_reducible refine we_bl ?_ | with_reducible refine we_non ?_ | with_reducible refine we_op ?_ | with_reducible refine we_un ?_
  | with_reducible refine we_cb ?_ | with_reducible refine we_if ?_ | with_reducible refine we_tup ?_ | with_reducible refine we_call ?_ | with_reducible refine wa_cons ?_ | with_reducible refine wa_nil ?_
  | with_reducible refine wt_val ?_ | with_reducible refine wt_test ?_ | with_reducible refine wt_and ?_ | with_reducible refine wt_or ?_ | with_reducible refine wt_not ?_ | with_reducible refine wt_yes ?_
  | with_reducible refine we_andV ?_ | with_reducible refine we_orV ?_ | with_reducible refine we_notV ?_ | with_reducible refine we_chain ?_ | with_reducible refine we_slice ?_ | with_reducible refine wo_none ?_ | with_reducible refine wo_some ?_
  | with_reducible refine we_bits ?_ | refine we_var (by rfl) ?_)
local macro_rules | `(tactic| walk_at "i2") => `(tactic| refine ⟨_, _, _, rfl, rfl, .int _ _, ?_⟩)
local macro_rules | `(tactic| walk_at "in") => `(tactic| refine ⟨_, _, rfl, .int _, ?_⟩)
/-! ### plain facts on rows -/
theorem len_add {xs ys : List Int} (h : xs.length = ys.length) : (add xs ys).length = xs.length := by simp [add, h]
theorem mem_zw {g : Int → Int → Int} : ∀ {xs ys : List Int} {x : Int}, x ∈ List.zipWith g xs ys → ∃ a b, a ∈ xs ∧ b ∈ ys ∧ x = g a b
  | [], _, _, h => by simp at h
  | _ :: _, [], _, h => by simp at h
  | a :: xs, b :: ys, x, h => by
    rw [List.zipWith_cons_cons] at h
    rcases List.mem_cons.mp h with h | h
    · exact ⟨a, b, List.mem_cons_self, List.mem_cons_self, h⟩
    · obtain ⟨c, d, h1, h2, h3⟩ := mem_zw h
      exact ⟨c, d, List.mem_cons_of_mem _ h1, List.mem_cons_of_mem _ h2, h3⟩
theorem row_add {l : Nat} {B C : Int} {xs ys : List Int} (h : Row l B xs) (h2 : Row l C ys) : Row l (B + C) (add xs ys) := by
  refine ⟨by rw [len_add (h.1.trans h2.1.symm), h.1], fun x hx => ?_⟩
  obtain ⟨a, b, ha, hb, rfl⟩ := mem_zw hx
  have := h.2 a ha
  have := h2.2 b hb
  omega
theorem less_cons (a b : Int) (xs ys : List Int) : lessAll (a :: xs) (b :: ys) = (decide (a ≤ b) && lessAll xs ys) := rfl
theorem sum_add : ∀ {xs ys t : List Int}, xs.length = ys.length → (List.zipWith (· * ·) (add xs ys) t).sum = (List.zipWith (· * ·) xs t).sum + (List.zipWith (· * ·) ys t).sum
  | [], [], t, _ => by simp [add]
  | [], _ :: _, _, h => by cases h
  | _ :: _, [], _, h => by cases h
  | x :: xs, y :: ys, [], h => by simp [add]
  | x :: xs, y :: ys, t :: ts, h => by
    have ih := sum_add (xs := xs) (ys := ys) (t := ts) (by simpa using h)
    simp only [add, List.zipWith_cons_cons, List.sum_cons] at ih ⊢
    rw [ih, Int.add_mul]
    omega
theorem sum_mono : ∀ {xs ys t : List Int}, xs.length = ys.length → (∀ z ∈ t, 0 ≤ z) → lessAll xs ys = true → (List.zipWith (· * ·) xs t).sum ≤ (List.zipWith (· * ·) ys t).sum
  | [], [], t, _, _, _ => by simp
  | [], _ :: _, _, h, _, _ => by cases h
  | _ :: _, [], _, h, _, _ => by cases h
  | x :: xs, y :: ys, [], h, _, _ => by simp
  | x :: xs, y :: ys, t :: ts, h, h0, hl => by
    rw [less_cons, Bool.and_eq_true] at hl
    have ih := sum_mono (xs := xs) (ys := ys) (t := ts) (by simpa using h) (fun z q => h0 z (List.mem_cons_of_mem _ q)) hl.2
    simp only [List.zipWith_cons_cons, List.sum_cons]
    have := Int.mul_le_mul_of_nonneg_right (of_decide_eq_true hl.1) (h0 t List.mem_cons_self)
    omega
theorem val_add {xs ys t : List Int} (h : xs.length = ys.length) (h0 : xs ≠ []) : valI (add xs ys) t = valI xs t + valI ys t := by
  cases xs with
  | nil => exact absurd rfl h0
  | cons x xs =>
    cases ys with
    | nil => cases h
    | cons y ys =>
      have := sum_add (xs := xs) (ys := ys) (t := t) (by simpa using h)
      simp only [valI, add, List.zipWith_cons_cons, List.headD_cons, List.tail_cons] at this ⊢
      omega
theorem val_mono {xs ys t : List Int} (h : xs.length = ys.length) (ht : ∀ z ∈ t, 0 ≤ z) (hl : lessAll xs ys = true) : valI xs t ≤ valI ys t := by
  cases xs with
  | nil =>
    cases ys with
    | nil => exact Int.le_refl _
    | cons _ _ => cases h
  | cons x xs =>
    cases ys with
    | nil => cases h
    | cons y ys =>
      rw [less_cons, Bool.and_eq_true] at hl
      have := sum_mono (xs := xs) (ys := ys) (t := t) (by simpa using h) ht hl.2
      have := of_decide_eq_true hl.1
      simp only [valI, List.headD_cons, List.tail_cons] at *
      omega
theorem row_sz {l : Nat} {B : Int} {xs : List Int} (h : Row l B xs) (hB : B ≤ 10 ^ 40) : bSz xs := fun x hx => by
  have h1 := h.2 x hx
  have h2 : x.natAbs ≤ 10 ^ 40 := by omega
  exact Nat.le_trans h2 (Nat.pow_le_pow_right (by decide) (by decide))
theorem rng_get {n i : Nat} {d : D} (h : (rngD 0 n)[i]? = some d) : d = .int i ∧ i < n := by
  have hi := (List.getElem?_eq_some_iff.mp h).1
  rw [rng_len] at hi
  unfold rngD at h
  rw [List.getElem?_map, List.getElem?_range hi] at h
  refine ⟨?_, hi⟩
  have h2 := Option.some.inj h
  rw [← h2]
  show D.int (0 + (i : Int)) = D.int i
  rw [Int.zero_add]
theorem atI_nat {α : Type} {xs : List α} {i : Nat} {x : α} (h : xs[i]? = some x) : atI xs (i : Int) = some x := by
  have hi := (List.getElem?_eq_some_iff.mp h).1
  unfold atI ixN
  rw [if_pos (by omega), if_pos (by omega)]
  simpa using h
theorem len_row {k : Nat} {B : Int} {xs : List Int} (h : Row (k + 1) B xs) (hk : k ≤ 3) : xs.length ≤ 1000 := by rw [h.1]; omega
theorem wt_andP {K : PySem.W.Frag} {r : Ro} {m : Sto} {A B : TT} {Q : Bool → Sto → Prop} (a b : Bool) (hA : WT K r m A fun x m1 => x = a ∧ m1 = m) (hB : a = true → WT K r m B fun x m1 => x = b ∧ m1 = m) (q : Q (a && b) m) : WT K r m (tAnd A B) Q :=
  wt_and (hA.imp fun x m1 ⟨h1, h2⟩ => by
    subst h1 h2
    cases x with
    | true => exact (hB rfl).imp fun y m2 ⟨h3, h4⟩ => by subst h3 h4; exact q
    | false => exact q)
theorem wt_orP {K : PySem.W.Frag} {r : Ro} {m : Sto} {A B : TT} {Q : Bool → Sto → Prop} (a b : Bool) (hA : WT K r m A fun x m1 => x = a ∧ m1 = m) (hB : a = false → WT K r m B fun x m1 => x = b ∧ m1 = m) (q : Q (a || b) m) : WT K r m (tOr A B) Q :=
  wt_or (hA.imp fun x m1 ⟨h1, h2⟩ => by
    subst h1 h2
    cases x with
    | false => exact (hB rfl).imp fun y m2 ⟨h3, h4⟩ => by subst h3 h4; exact q
    | true => exact q)
/-! ### the program's checks -/
theorem eq_k {k : Nat} : ((k + 1 : Nat) : Int) - 1 = (k : Int) := by omega
theorem m_is_any_form {K : PySem.W.Frag} : Ok K N_is_any_form T_is_any_form (t_is_any_form K) := by
  rintro ss m Q ⟨k, B, f, rfl, hk, hr, q⟩
  unfold t_is_any_form
  have hl : ((f.map D.int).length : Int) = (k : Int) + 1 := by rw [List.length_map, hr.1]; omega
  repeat walk_at "w"
  refine we_ty ?_
  repeat walk_at "w"
  refine ⟨[tI f, .ty "tuple"], _, rfl, isi_tup rfl, true, rfl, ?_⟩
  rw [if_pos rfl]
  repeat walk_at "w"
  refine ⟨_, _, rfl, .tup _, ?_⟩
  refine ⟨_, _, _, rfl, rfl, .int _ _, ite_dec (fun h => ?_) (fun h => absurd (show (1 : Int) ≤ ((f.map D.int).length : Int) by omega) h)⟩
  repeat walk_at "w"
  walk_at "i2"
  refine ⟨_, _, _, rfl, rfl, .int _ _, ?_⟩
  refine ⟨_, rfl, ite_dec (fun h => ?_) (fun h => absurd (show ((f.map D.int).length : Int) ≤ 3 + 1 by omega) h)⟩
  repeat walk_at "w"
  refine ⟨_, _, rfl, .tup _, ?_⟩
  repeat walk_at "w"
  walk_at "i2"
  repeat walk_at "w"
  have e : (((f.map D.int).length : Int) - 1) = (k : Int) := by omega
  rw [e]
  refine ⟨k, tI f, rfl, plainV_tI (by rw [hr.1]; omega), ?_⟩
  rw [formD_tI hr]
  exact q
theorem m_check_any_form {K : PySem.W.Frag} : Ok K N_check_any_form T_check_any_form (t_check_any_form K) := by
  rintro ss m Q ⟨k, B, f, rfl, hk, hr, q⟩
  unfold t_check_any_form
  repeat walk_at "w"
  refine ⟨k, B, f, rfl, hk, hr, true, rfl, ?_⟩
  show if (!true) = true then _ else _
  rw [if_neg (by decide)]
  walk_at "w"
  exact q
theorem cnt_all {l : Nat} {B : Int} {ns : List Int} (h : Row l B ns) : (ns.map D.int).all cntD = true := by
  rw [List.all_map, List.all_eq_true]
  intro x hx
  have := (h.2 x hx).1
  simp [cntD, betD, this]
theorem m_is_point {K : PySem.W.Frag} : Ok K N_is_point T_is_point (t_is_point K) := by
  rintro ss m Q ⟨k, B, f, rfl, hk, hr, q⟩
  unfold t_is_point
  repeat walk_at "w"
  refine we_ty ?_
  repeat walk_at "w"
  refine ⟨[lI f, .ty "list"], _, rfl, isi_lst rfl, true, rfl, ?_⟩
  rw [if_pos rfl]
  repeat walk_at "w"
  refine ⟨_, _, rfl, .lst _, ?_⟩
  repeat walk_at "w"
  refine ⟨_, _, _, rfl, rfl, .mk (.int _ _), ?_⟩
  refine ⟨_, rfl, ite_dec (fun h => ?_) (fun h => absurd (show ((f.map D.int).length : Int) = k by rw [List.length_map, hr.1]) h)⟩
  repeat walk_at "w"
  refine ⟨false, f.map .int, rfl, by rw [List.length_map, hr.1]; omega, fun d hd => ?_, ?_⟩
  · obtain ⟨i, _, rfl⟩ := List.mem_map.mp hd
    exact plain_int i
  · rw [cnt_all hr]
    exact q
theorem m_check_point {K : PySem.W.Frag} : Ok K N_check_point T_check_point (t_check_point K) := by
  rintro ss m Q ⟨k, B, f, rfl, hk, hr, q⟩
  unfold t_check_point
  repeat walk_at "w"
  refine ⟨k, B, f, rfl, hk, hr, true, rfl, ?_⟩
  show if (!true) = true then _ else _
  rw [if_neg (by decide)]
  walk_at "w"
  exact q
/-! ### values -/
theorem zip_get {α β : Type} {a : α → D} {b : β → D} : ∀ {xs : List α} {ys : List β} {i : Nat} {d : D}, (zipD (xs.map a) (ys.map b))[i]? = some d → ∃ x y, d = .tup [a x, b y] ∧ (xs.zip ys)[i]? = some (x, y)
  | [], _, i, d, h => by simp [zipD] at h
  | _ :: _, [], i, d, h => by simp [zipD] at h
  | x :: xs, y :: ys, 0, d, h => ⟨x, y, (Option.some.inj h).symm, rfl⟩
  | x :: xs, y :: ys, i + 1, d, h => zip_get (xs := xs) (ys := ys) (i := i) h
theorem zip_len {α β : Type} (a : α → D) (b : β → D) (xs : List α) (ys : List β) : (zipD (xs.map a) (ys.map b)).length = min xs.length ys.length := by simp [zipD]
theorem zw_map (xs ys : List Int) : List.zipWith (· * ·) xs ys = (xs.zip ys).map fun p => p.1 * p.2 := by
  induction xs generalizing ys with
  | nil => rfl
  | cons x xs ih =>
    cases ys with
    | nil => rfl
    | cons y ys => rw [List.zipWith_cons_cons, List.zip_cons_cons, List.map_cons, ih]
theorem big_sz {x : Int} (h0 : 0 ≤ x) (h : x ≤ Big) : x.natAbs ≤ 10 ^ 400 := by
  have h : x ≤ 10 ^ 100 := h
  have h2 : x.natAbs ≤ 10 ^ 100 := by omega
  exact Nat.le_trans h2 (Nat.pow_le_pow_right (by decide) (by decide))
theorem m_value_at {K : PySem.W.Frag} : Ok K N_value_at T_value_at (t_value_at K) := by
  rintro ss m Q ⟨k, f, t, rfl, hk, hf, ht, q⟩
  cases f with
  | nil => exact absurd hf.1 (by simp)
  | cons c cs =>
    have hcl : cs.length = k := by simpa using hf.1
    unfold t_value_at
    repeat walk_at "w"
    refine ⟨_, _, _, rfl, rfl, .tup (d := .int c) (atI_nat (i := 0) rfl), ?_⟩
    walk_at "w"
    refine ws_for ([3] ++ ([4] ++ [])) (wi_Z ?_)
    repeat walk_at "w"
    refine ⟨1, rfl, ?_⟩
    repeat walk_at "w"
    refine ⟨_, _, rfl, .tup _ _ _, ?_⟩
    repeat walk_at "w"
    refine ⟨true, false, cs.map .int, t.map .int, by rw [cut_tail]; rfl, fun _ => by rw [List.length_map, List.length_map, hcl, ht.1], fun i r' m' => m' = m ∧ ∃ z3 z4, r' = [some (.val (tI (c :: cs))), some (.val (lI t)), some (.val (.int (c + (((cs.zip t).take i).map fun p => p.1 * p.2).sum))), z3, z4], ⟨rfl, none, none, ?_⟩, ?_, ?_⟩
    · show _ = [some (Sv.val (tI (c :: cs))), some (.val (lI t)), some (.val (.int (c + 0))), none, none]
      rw [Int.add_zero]
      rfl
    · rintro i d r' m' hd ⟨rfl, z3, z4, rfl⟩
      obtain ⟨x, y, rfl, hxy⟩ := zip_get hd
      have hm := List.of_mem_zip (List.mem_of_getElem? hxy)
      have hx := hf.2 x (List.mem_cons_of_mem _ hm.1)
      have hy := ht.2 y hm.2
      refine wg_tup rfl (wgs_cons (wg_name (wgs_cons (wg_name (wgs_nil ?_)))))
      repeat walk_at "w"
      refine ⟨_, _, _, rfl, rfl, .int (smul_ok (big_sz hx.1 hx.2) (big_sz hy.1 hy.2)), ?_⟩
      walk_at "i2"
      refine ⟨rfl, some (.val (.int x)), some (.val (.int y)), ?_⟩
      rw [List.take_add_one, hxy]
      simp only [Option.toList_some, List.map_append, List.map_cons, List.map_nil, List.sum_append, List.sum_cons, List.sum_nil, Int.add_zero, ← Int.add_assoc]
      rfl
    · rintro r' m' ⟨rfl, z3, z4, rfl⟩
      repeat walk_at "w"
      have e : ((cs.zip t).take (zipD (cs.map D.int) (t.map D.int)).length) = cs.zip t := by
        rw [zip_len]
        exact List.take_of_length_le (by rw [List.length_zip]; exact Nat.le_refl _)
      rw [e, ← zw_map]
      exact q
theorem m_value {K : PySem.W.Frag} : Ok K N_value T_value (t_value K) := by
  rintro ss m Q ⟨k, f, t, rfl, hk, hf, ht, q⟩
  unfold t_value
  repeat walk_at "w"
  refine ⟨k, Big, f, rfl, hk, hf, ?_⟩
  repeat walk_at "w"
  refine ⟨_, _, rfl, .tup _, ?_⟩
  repeat walk_at "w"
  walk_at "i2"
  repeat walk_at "w"
  have e : (((f.map D.int).length : Int) - 1) = (k : Int) := by rw [List.length_map, hf.1]; omega
  rw [e]
  refine ⟨k, Big, t, rfl, hk, ht, ?_⟩
  repeat walk_at "w"
  exact ⟨k, f, t, rfl, hk, hf, ht, q⟩
theorem m_law_is_whole {K : PySem.W.Frag} : Ok K N_law_is_whole T_law_is_whole (t_law_is_whole K) := by
  rintro ss m Q ⟨i, rfl, q⟩
  unfold t_law_is_whole
  repeat walk_at "w"
  refine we_ty ?_
  repeat walk_at "w"
  refine ⟨[.int i, .ty "int"], _, rfl, isi_int rfl, true, rfl, ?_⟩
  rw [if_pos rfl]
  repeat walk_at "w"
  refine we_ty ?_
  repeat walk_at "w"
  refine ⟨[.int i, .ty "bool"], _, rfl, isi_bl rfl, false, rfl, true, rfl, ?_⟩
  rw [if_pos rfl]
  repeat walk_at "w"
  refine ⟨_, _, _, rfl, rfl, .mk (.int _ _), ?_⟩
  rw [decide_eq_true rfl]
  exact q
theorem m_check_two_forms {K : PySem.W.Frag} : Ok K N_check_two_forms T_check_two_forms (t_check_two_forms K) := by
  rintro ss m Q ⟨k, B, f, g, rfl, hk, hf, hg, q⟩
  unfold t_check_two_forms
  repeat walk_at "w"
  refine ⟨k, B, f, rfl, hk, hf, ?_⟩
  repeat walk_at "w"
  refine ⟨k, B, g, rfl, hk, hg, ?_⟩
  repeat walk_at "w"
  refine ⟨_, _, rfl, .tup _, ?_⟩
  repeat walk_at "w"
  refine ⟨_, _, rfl, .tup _, ?_⟩
  refine ⟨_, _, _, rfl, rfl, .mk (.int _ _), ?_⟩
  refine ⟨_, rfl, ?_⟩
  rw [show decide (((f.map D.int).length : Int) = ((g.map D.int).length : Int)) = true from decide_eq_true (by rw [List.length_map, List.length_map, hf.1, hg.1]), if_neg (by decide)]
  walk_at "w"
  exact q
theorem m_added {K : PySem.W.Frag} : Ok K N_added T_added (t_added K) := by
  rintro ss m Q ⟨k, B, f, g, rfl, hk, hf, hg, q⟩
  unfold t_added
  repeat walk_at "w"
  refine ⟨k, B, f, g, rfl, hk, hf, hg, ?_⟩
  repeat walk_at "w"
  exact ⟨f, g, rfl, by rw [hf.1]; omega, by rw [hf.1, hg.1], q⟩
theorem row_big {l : Nat} {f : List Int} (h : Row l Big f) : bSz f := fun x hx => big_sz (h.2 x hx).1 (h.2 x hx).2
theorem m_scaled {K : PySem.W.Frag} : Ok K N_scaled T_scaled (t_scaled K) := by
  rintro ss m Q ⟨k, c, f, rfl, hk, c0, c1, hf, q⟩
  unfold t_scaled
  repeat walk_at "w"
  refine ⟨c, 0, none, rfl, by simp [betD, c0], ?_⟩
  repeat walk_at "w"
  refine ⟨k, Big, f, rfl, hk, hf, ?_⟩
  repeat walk_at "w"
  exact ⟨c, f, rfl, by rw [hf.1]; omega, big_sz c0 c1, row_big hf, q⟩
theorem m_below {K : PySem.W.Frag} : Ok K N_below T_below (t_below K) := by
  rintro ss m Q ⟨k, B, f, g, rfl, hk, hf, hg, q⟩
  unfold t_below
  repeat walk_at "w"
  refine ⟨k, B, f, g, rfl, hk, hf, hg, ?_⟩
  repeat walk_at "w"
  exact ⟨f, g, rfl, by rw [hf.1]; omega, by rw [hf.1, hg.1], q⟩
theorem m_law_yes {K : PySem.W.Frag} : Ok K N_law_yes T_law_yes (t_law_yes K) := by
  rintro ss m Q ⟨b, rfl, q⟩
  unfold t_law_yes
  repeat walk_at "w"
  refine we_ty ?_
  repeat walk_at "w"
  refine ⟨[.bl b, .ty "bool"], _, rfl, isi_bl rfl, true, rfl, ?_⟩
  rw [if_pos rfl]
  repeat walk_at "w"
  refine ⟨_, _, _, rfl, rfl, .mk (.bl _ _), ?_⟩
  rw [decide_eq_true rfl]
  exact q
theorem m_is_form {K : PySem.W.Frag} : Ok K N_is_form T_is_form (t_is_form K) := by
  rintro ss m Q ⟨k, d, rfl, hk, hp, q⟩
  unfold t_is_form
  repeat walk_at "w"
  refine ⟨k, rfl, by omega, by omega, ?_⟩
  repeat walk_at "w"
  exact ⟨k, d, rfl, hp, q⟩
theorem m_plain {K : PySem.W.Frag} : Ok K N_plain T_plain (t_plain K) := by
  rintro ss m Q ⟨k, c, rfl, hk, q⟩
  unfold t_plain
  repeat walk_at "w"
  refine ⟨[.int c], rfl, by show (1 : Nat) ≤ 100000; decide, ?_⟩
  repeat walk_at "w"
  refine ⟨[.int 0], rfl, by decide, ?_⟩
  repeat walk_at "w"
  refine ⟨_, _, _, rfl, rfl, .tup (by omega) (by omega) (by decide), ?_⟩
  have e0 : ((k : Int)).toNat = k := by omega
  refine ⟨_, _, _, rfl, rfl, .tup ?_, ?_⟩
  · rw [e0, rep_ints]
    simp [szD]
    omega
  · rw [e0, rep_ints]
    exact q
/-! ### forms put in -/
theorem len_map (c : Int) (f : List Int) : (f.map (c * ·)).length = f.length := List.length_map _
theorem ins_len : ∀ {ps : List (Int × List Int)} {f : List Int}, (∀ p ∈ ps, p.2.length = f.length) → (ins f ps).length = f.length
  | [], f, _ => rfl
  | p :: ps, f, h => by
    have h1 := h p List.mem_cons_self
    have e : (add f (p.2.map (p.1 * ·))).length = f.length := len_add (by rw [len_map, h1])
    show (ins (add f (p.2.map (p.1 * ·))) ps).length = _
    rw [ins_len fun q hq => by rw [e]; exact h q (List.mem_cons_of_mem _ hq), e]
theorem ins_snoc : ∀ (ps : List (Int × List Int)) (f : List Int) (p : Int × List Int), ins f (ps ++ [p]) = add (ins f ps) (p.2.map (p.1 * ·))
  | [], _, _ => rfl
  | q :: ps, f, p => ins_snoc ps _ p
theorem add_get {f g : List Int} (h : f.length = g.length) (j : Nat) : (add f g).getD j 0 = f.getD j 0 + g.getD j 0 := by
  induction f generalizing g j with
  | nil =>
    cases g with
    | nil => rfl
    | cons _ _ => cases h
  | cons a f ih =>
    cases g with
    | nil => cases h
    | cons b g =>
      cases j with
      | zero => rfl
      | succ j => exact ih (by simpa using h) j
theorem map_get (c : Int) (f : List Int) (j : Nat) : (f.map (c * ·)).getD j 0 = c * f.getD j 0 := by
  induction f generalizing j with
  | nil => simp
  | cons a f ih =>
    cases j with
    | zero => rfl
    | succ j => exact ih j
theorem ins_get : ∀ {ps : List (Int × List Int)} {f : List Int} (j : Nat), (∀ p ∈ ps, p.2.length = f.length) → (ins f ps).getD j 0 = f.getD j 0 + (ps.map fun p => p.1 * p.2.getD j 0).sum
  | [], f, j, _ => by simp [ins]
  | p :: ps, f, j, h => by
    have h1 := h p List.mem_cons_self
    have e : (add f (p.2.map (p.1 * ·))).length = f.length := len_add (by rw [len_map, h1])
    show (ins (add f (p.2.map (p.1 * ·))) ps).getD j 0 = _
    rw [ins_get j fun q hq => by rw [e]; exact h q (List.mem_cons_of_mem _ hq), add_get (by rw [len_map, h1]), map_get, List.map_cons, List.sum_cons]
    omega
theorem sum_map (c : Int) : ∀ (f t : List Int), (List.zipWith (· * ·) (f.map (c * ·)) t).sum = c * (List.zipWith (· * ·) f t).sum
  | [], t => by simp
  | _ :: _, [] => by simp
  | x :: f, y :: t => by
    have ih := sum_map c f t
    rw [List.map_cons, List.zipWith_cons_cons, List.zipWith_cons_cons, List.sum_cons, List.sum_cons, ih, Int.mul_add, Int.mul_assoc]
theorem val_map (c : Int) (f t : List Int) : valI (f.map (c * ·)) t = c * valI f t := by
  cases f with
  | nil => simp [valI]
  | cons a f =>
    have := sum_map c f t
    simp only [valI, List.map_cons, List.headD_cons, List.tail_cons, this, Int.mul_add]
theorem ins_val (t : List Int) : ∀ {ps : List (Int × List Int)} {f : List Int}, f ≠ [] → (∀ p ∈ ps, p.2.length = f.length) → valI (ins f ps) t = valI f t + (ps.map fun p => p.1 * valI p.2 t).sum
  | [], f, _, _ => by simp [ins]
  | p :: ps, f, h0, h => by
    have h1 := h p List.mem_cons_self
    have e : (add f (p.2.map (p.1 * ·))).length = f.length := len_add (by rw [len_map, h1])
    have e0 : add f (p.2.map (p.1 * ·)) ≠ [] := by
      intro z
      rw [z] at e
      exact h0 (List.eq_nil_of_length_eq_zero e.symm)
    show valI (ins (add f (p.2.map (p.1 * ·))) ps) t = _
    rw [ins_val t e0 fun q hq => by rw [e]; exact h q (List.mem_cons_of_mem _ hq), val_add (by rw [len_map, h1]) h0, val_map, List.map_cons, List.sum_cons]
    omega
theorem val_plain (c : Int) (k : Nat) (t : List Int) : valI (c :: List.replicate k 0) t = c := by
  have : ∀ (k : Nat) (t : List Int), (List.zipWith (· * ·) (List.replicate k (0 : Int)) t).sum = 0 := by
    intro k
    induction k with
    | zero => intro t; simp
    | succ k ih =>
      intro t
      cases t with
      | nil => simp
      | cons x t => rw [List.replicate_succ, List.zipWith_cons_cons, List.sum_cons, ih]; simp
  simp only [valI, List.headD_cons, List.tail_cons, this, Int.add_zero]
theorem ins_row {k : Nat} {C : Int} : ∀ {ps : List (Int × List Int)} {f : List Int} {B : Int}, Row (k + 1) B f → (∀ p ∈ ps, 0 ≤ p.1 ∧ p.1 ≤ C ∧ Row (k + 1) C p.2) → Row (k + 1) (B + ps.length * (C * C)) (ins f ps)
  | [], f, B, h, _ => by
    have : B + (([] : List (Int × List Int)).length : Int) * (C * C) = B := by simp
    rw [this]; exact h
  | p :: ps, f, B, h, hp => by
    obtain ⟨h1, h2, h3⟩ := hp p List.mem_cons_self
    have hm : Row (k + 1) (C * C) (p.2.map (p.1 * ·)) := ⟨by rw [len_map]; exact h3.1, fun x hx => by
      obtain ⟨y, hy, rfl⟩ := List.mem_map.mp hx
      have := h3.2 y hy
      exact ⟨Int.mul_nonneg h1 this.1, Int.mul_le_mul h2 this.2 this.1 (by omega)⟩⟩
    have := ins_row (ps := ps) (row_add h hm) fun q hq => hp q (List.mem_cons_of_mem _ hq)
    have e : B + C * C + (ps.length : Int) * (C * C) = B + ((p :: ps).length : Int) * (C * C) := by
      rw [List.length_cons, Int.natCast_succ, Int.add_mul]
      omega
    rw [e] at this
    exact this
theorem m_check_forms {K : PySem.W.Frag} : Ok K N_check_forms T_check_forms (t_check_forms K) := by
  rintro ss m Q ⟨k, B, fs, rfl, hk, hl, hr, q⟩
  unfold t_check_forms
  refine ws_seq (ws_if (wt_orP false false ?_ (fun _ => ?_) ?_))
  · repeat walk_at "w"
    refine we_ty ?_
    repeat walk_at "w"
    exact ⟨[.lst (fs.map tI), .ty "list"], _, rfl, isi_lst rfl, true, rfl, rfl, rfl⟩
  · repeat walk_at "w"
    refine ⟨_, _, rfl, .lst _, ?_⟩
    repeat walk_at "w"
    refine ⟨_, _, _, rfl, rfl, .mk (.int _ _), _, rfl, ?_, rfl⟩
    rw [List.length_map, decide_eq_true rfl]
    rfl
  show if false = true then _ else _
  rw [if_neg Bool.false_ne_true]
  repeat walk_at "w"
  refine we_lc (js := [3]) (by decide) (wi_D ?_)
  repeat walk_at "w"
  refine ⟨false, fs.map tI, rfl, by rw [List.length_map]; omega, rfl, fun d => !formD k d, fun d => d, fun d hd m' => ?_, ?_⟩
  · obtain ⟨f, hf, rfl⟩ := List.mem_map.mp hd
    refine wg_name ?_
    repeat walk_at "w"
    refine ⟨k, tI f, rfl, plainV_tI (by rw [(hr f hf).1]; omega), ?_⟩
    refine ⟨_, rfl, rfl, rfl, fun _ => ?_⟩
    repeat walk_at "w"
    exact ⟨rfl, rfl⟩
  · have e : (((fs.map tI).filter fun d => !formD k d).map fun d => d) = [] := by
      rw [List.map_id', List.filter_eq_nil_iff]
      intro d hd
      obtain ⟨f, hf, rfl⟩ := List.mem_map.mp hd
      rw [formD_tI (hr f hf)]
      decide
    rw [e]
    refine we_lst ?_
    repeat walk_at "w"
    refine ⟨[], rfl, by decide, ?_⟩
    refine ⟨_, _, _, rfl, rfl, .mk (req_lI [] []), ?_⟩
    refine ⟨_, rfl, ?_⟩
    rw [decide_eq_true rfl, if_neg (by decide)]
    walk_at "w"
    exact q
theorem m_form_inserted {K : PySem.W.Frag} : Ok K N_form_inserted T_form_inserted (t_form_inserted K) := by
  rintro ss m Q ⟨k, l, c, cs, fs, rfl, hk, hl, hcl, hfl, hcz, hfz, q⟩
  unfold t_form_inserted
  repeat walk_at "w"
  refine ⟨_, _, _, rfl, rfl, .tup (d := .int c) (atI_nat (i := 0) rfl), ?_⟩
  walk_at "w"
  refine ⟨k, c, rfl, hk, ?_⟩
  walk_at "w"
  refine ws_for ([4] ++ ([5] ++ [])) (wi_Z ?_)
  repeat walk_at "w"
  refine ⟨1, rfl, ?_⟩
  repeat walk_at "w"
  refine ⟨_, _, rfl, .tup _ _ _, ?_⟩
  repeat walk_at "w"
  have pl : ∀ p ∈ cs.zip fs, p.2.length = (c :: List.replicate k (0 : Int)).length := fun p hp => by
    rw [(hfz p.2 (List.of_mem_zip (a := p.1) (b := p.2) hp).2).1]; simp
  refine ⟨true, false, cs.map .int, fs.map tI, by rw [cut_tail]; rfl, fun _ => by rw [List.length_map, List.length_map, hcl, hfl], fun i r' m' => m' = m ∧ ∃ z3 z4, r' = [some (.val (tI (c :: cs))), some (.val (.int k)), some (.val (.lst (fs.map tI))), some (.val (tI (ins (c :: List.replicate k 0) ((cs.zip fs).take i)))), z3, z4], ⟨rfl, none, none, rfl⟩, ?_, ?_⟩
  · rintro i d r' m' hd ⟨rfl, z3, z4, rfl⟩
    obtain ⟨x, y, rfl, hxy⟩ := zip_get hd
    have hm := List.of_mem_zip (List.mem_of_getElem? hxy)
    have hy := hfz y hm.2
    refine wg_tup rfl (wgs_cons (wg_name (wgs_cons (wg_name (wgs_nil ?_)))))
    repeat walk_at "w"
    refine ⟨x, y, rfl, by rw [hy.1]; omega, Nat.le_trans (hcz x hm.1) (Nat.pow_le_pow_right (by decide) (by decide)), row_sz hy (by decide), ?_⟩
    repeat walk_at "w"
    have il : (ins (c :: List.replicate k (0 : Int)) ((cs.zip fs).take i)).length = k + 1 := by
      rw [ins_len fun p hp => pl p (List.mem_of_mem_take hp)]; simp
    refine ⟨_, y.map (x * ·), rfl, by rw [il]; omega, by rw [il, len_map, hy.1], ?_⟩
    refine ⟨rfl, some (.val (.int x)), some (.val (tI y)), ?_⟩
    rw [List.take_add_one, hxy]
    simp only [Option.toList_some, ins_snoc]
    rfl
  · rintro r' m' ⟨rfl, z3, z4, rfl⟩
    repeat walk_at "w"
    have e : ((cs.zip fs).take (zipD (cs.map D.int) (fs.map tI)).length) = cs.zip fs := by
      rw [zip_len]
      exact List.take_of_length_le (by rw [List.length_zip]; exact Nat.le_refl _)
    rw [e]
    exact q
theorem m_inserted {K : PySem.W.Frag} : Ok K N_inserted T_inserted (t_inserted K) := by
  rintro ss m Q ⟨k, l, c, cs, fs, rfl, hk, hl, hr, hfl, hfz, q⟩
  have hcl : cs.length = l := by simpa using hr.1
  unfold t_inserted
  repeat walk_at "w"
  refine ⟨l, _, c :: cs, rfl, hl, hr, ?_⟩
  repeat walk_at "w"
  refine ⟨k, rfl, by omega, by omega, ?_⟩
  repeat walk_at "w"
  refine ⟨_, _, rfl, .tup _, ?_⟩
  repeat walk_at "w"
  walk_at "i2"
  repeat walk_at "w"
  have e : ((((c :: cs).map D.int).length : Int) - 1) = (fs.length : Int) := by rw [List.length_map, hr.1, hfl]; omega
  rw [e]
  refine ⟨k, _, fs, rfl, hk, by omega, hfz, ?_⟩
  repeat walk_at "w"
  exact ⟨k, l, c, cs, fs, rfl, hk, hl, hcl, hfl, fun x hx => by have := hr.2 x (List.mem_cons_of_mem _ hx); omega, hfz, q⟩
/-! ### near -/
theorem frz_adr {r : Ro} {i : Nat} {p : Addr} {ds : List D} (h : r[i]? = some (some (.adr p))) : (r.map (frzS p ds))[i]? = some (some (.val (.lst ds))) := by
  rw [List.getElem?_map, h]
  simp [frzS]
theorem m_law_near {K : PySem.W.Frag} : Ok K N_law_near T_law_near (t_law_near K) := by
  rintro ss m Q ⟨g, k, n, B, f, rfl, hk, hB, hB2, hf, hg, q⟩
  have bm : ∀ x : Int, x ≤ 10 ^ 30 → x < bMax := fun x h => Int.lt_of_le_of_lt h (by decide +kernel)
  have hl : ((f.map D.int).length : Int) = (k : Int) + 1 := by rw [List.length_map, hf.1]; omega
  unfold t_law_near
  repeat walk_at "w"
  refine ⟨_, _, rfl, .tup _, ?_⟩
  repeat walk_at "w"
  walk_at "i2"
  repeat walk_at "w"
  refine ⟨g, k, n + 5, B, by rw [show (((f.map D.int).length : Int) - 1) = (k : Int) by omega]; rfl, by omega, hB, by omega, hg.mono (by omega), fun s m1 hs hG hF => ?_⟩
  repeat walk_at "w"
  refine ⟨_, _, rfl, .tup _, ?_⟩
  repeat walk_at "w"
  refine ⟨g, 3, n + 2, rfl, hG.mono (by omega), by decide, bm _ (by decide), fun v m2 v0 v1 hG2 hF2 => ?_⟩
  repeat walk_at "w"
  refine ⟨_, _, rfl, .tup _, ?_⟩
  repeat walk_at "w"
  refine ⟨g, _, n + 1, rfl, hG2.mono (by omega), by omega, bm _ (by omega), fun a m3 a0 a1 hG3 hF3 => ?_⟩
  obtain ⟨j, rfl⟩ := Int.eq_ofNat_of_zero_le a0
  have hj : j < f.length := by rw [List.length_map] at a1; omega
  have hF123 := (hF.trans hF2).trans hF3
  walk_at "w"
  refine ⟨_, _, rfl, ?_⟩
  repeat walk_at "w"
  refine ⟨_, _, _, rfl, rfl, .mk (.int _ _), ?_⟩
  refine ⟨_, rfl, ite_dec (fun h => ?_) (fun h0 => ?_)⟩
  · repeat walk_at "w"
    exact ⟨[lI s], _, rfl, .lst _, q s m3 (hs.mono (by omega)) (hG3.mono (by omega)) hF123⟩
  walk_at "w"
  refine ws_seq (ws_asg (we_cbO ?_))
  repeat walk_at "w"
  refine ⟨[tI f], f.map .int, rfl, .tup _, fun p hp => ?_⟩
  have gp : g ≠ p := fun e => by
    obtain ⟨ds, z⟩ := hG3.some
    rw [e, hp] at z
    cases z
  have mp : m p = none := by rw [← hF123 p gp.symm]; exact hp
  have hx := hf.2 _ (List.getElem_mem hj)
  generalize hxe : f[j] = x at hx
  have ix : atI (f.map D.int) (j : Int) = some (.int x) := atI_nat (by rw [List.getElem?_map, List.getElem?_eq_getElem hj, hxe]; rfl)
  have fin : ∀ (z : Int) (r : Ro), 0 ≤ z → z ≤ B + 1 → r[6]? = some (some (.adr p)) → WS K (dom m) r (stS m3 p ((f.map D.int).set j (.int z))) (tRet (tCB (rDN K RTup) (tCons (tVar 6) tNil))) { nx := fun _ m' => Q (.val .non) m', rt := Q } := by
    intro z r z0 z1 hr
    refine ws_frz (p := p) stS_same (dom_none.mpr mp) ?_
    refine ws_ret (we_cb (wa_cons (we_var (frz_adr hr) (wa_nil ?_))))
    rw [stD_stS hp]
    refine ⟨[lI (f.set j z)], _, by rw [← List.map_set]; rfl, .lst _, ?_⟩
    refine q (f.set j z) m3 ⟨by rw [List.length_set]; exact hf.1, fun y hy => ?_⟩ (hG3.mono (by omega)) hF123
    rcases List.mem_or_eq_of_mem_set hy with h | h
    · have := hf.2 y h; omega
    · omega
  refine ws_seq (ws_setI ?_)
  repeat walk_at "w"
  refine ⟨_, _, _, rfl, rfl, .mk (.int _ _), ?_⟩
  refine ⟨_, rfl, ite_dec (fun h => ?_) (fun h1 => ?_)⟩
  · repeat walk_at "w"
    refine ⟨_, _, _, vw_adr stS_same, rfl, .lst ix, ?_⟩
    repeat walk_at "w"
    walk_at "i2"
    repeat walk_at "w"
    refine ⟨_, p, _, _, j, rfl, rfl, rfl, stS_same, Evl.ixN_nat (by rw [List.length_map]; exact hj), ?_⟩
    rw [stS_stS]
    exact fin (x + 1) _ (by omega) (by omega) rfl
  · repeat walk_at "w"
    refine ⟨_, _, _, vw_adr stS_same, rfl, .lst ix, ?_⟩
    repeat walk_at "w"
    walk_at "i2"
    walk_at "w"
    refine ⟨_, _, rfl, .int _ _, ?_⟩
    repeat walk_at "w"
    refine ⟨_, p, _, _, j, rfl, rfl, rfl, stS_same, Evl.ixN_nat (by rw [List.length_map]; exact hj), ?_⟩
    rw [stS_stS]
    exact fin (if x - 1 > 0 then x - 1 else 0) _ (by split <;> omega) (by split <;> omega) rfl
/-! ### a point that shows it -/
theorem less_get : ∀ {f g : List Int}, f.length = g.length → (lessAll f g = true ↔ ∀ j, f.getD j 0 ≤ g.getD j 0)
  | [], [], _ => ⟨fun _ j => Int.le_refl _, fun _ => rfl⟩
  | [], _ :: _, h => by cases h
  | _ :: _, [], h => by cases h
  | x :: f, y :: g, h => by
    have ih := less_get (f := f) (g := g) (by simpa using h)
    rw [less_cons, Bool.and_eq_true, ih, decide_eq_true_eq]
    constructor
    · rintro ⟨h1, h2⟩ j
      cases j with
      | zero => exact h1
      | succ j => exact h2 j
    · intro h1
      exact ⟨h1 0, fun j => h1 (j + 1)⟩
def indL (c lo a : Int) (n : Nat) : List Int := (List.range n).map fun (j : Nat) => c * (if lo + (j : Int) = a then 1 else 0)
theorem indL_succ (c lo a : Int) (n : Nat) : indL c lo a (n + 1) = (c * (if lo = a then 1 else 0)) :: indL c (lo + 1) a n := by
  unfold indL
  rw [List.range_succ_eq_map, List.map_cons, List.map_map]
  congr 1
  · simp
  · refine List.map_congr_left fun j _ => ?_
    show c * (if lo + ((j + 1 : Nat) : Int) = a then 1 else 0) = _
    have : lo + ((j + 1 : Nat) : Int) = lo + 1 + (j : Int) := by omega
    rw [this]
theorem ind_zero (c : Int) : ∀ (cs : List Int) (lo a : Int), a < lo → (List.zipWith (· * ·) cs (indL c lo a cs.length)).sum = 0
  | [], _, _, _ => rfl
  | x :: cs, lo, a, h => by
    rw [List.length_cons, indL_succ, List.zipWith_cons_cons, List.sum_cons, ind_zero c cs (lo + 1) a (by omega), if_neg (by omega)]
    simp
theorem ind_sum (c : Int) : ∀ (cs : List Int) (lo : Int) (i : Nat), (List.zipWith (· * ·) cs (indL c lo (lo + (i : Int)) cs.length)).sum = cs.getD i 0 * c
  | [], _, _ => by simp
  | x :: cs, lo, 0 => by
    rw [List.length_cons, indL_succ, List.zipWith_cons_cons, List.sum_cons, ind_zero c cs (lo + 1) _ (by omega), if_pos (by omega)]
    simp
  | x :: cs, lo, i + 1 => by
    rw [List.length_cons, indL_succ, List.zipWith_cons_cons, List.sum_cons, if_neg (by omega)]
    have := ind_sum c cs (lo + 1) i
    have e : lo + 1 + (i : Int) = lo + ((i + 1 : Nat) : Int) := by omega
    rw [e] at this
    rw [this]
    simp
theorem rng_ints (lo : Int) (n : Nat) : rngD lo n = ((List.range n).map fun (i : Nat) => lo + (i : Int)).map .int := by
  unfold rngD
  rw [List.map_map]
  rfl
theorem rng_get1 {lo : Int} {n i : Nat} {d : D} (h : (rngD lo n)[i]? = some d) : d = .int (lo + i) ∧ i < n := by
  have hi := (List.getElem?_eq_some_iff.mp h).1
  rw [rng_len] at hi
  unfold rngD at h
  rw [List.getElem?_map, List.getElem?_range hi] at h
  exact ⟨(Option.some.inj h).symm, hi⟩
theorem m_law_point_above {K : PySem.W.Frag} : Ok K N_law_point_above T_law_point_above (t_law_point_above K) := by
  rintro ss m Q ⟨k, B, f, g, rfl, hk, hB, hf, hg, q⟩
  have hl : ((f.map D.int).length : Int) = (k : Int) + 1 := by rw [List.length_map, hf.1]; omega
  have efg := hf.1.trans hg.1.symm
  cases f with
  | nil => exact absurd hf.1 (by simp)
  | cons c cs =>
  cases g with
  | nil => exact absurd hg.1 (by simp)
  | cons b bs =>
  have hc := hf.2 c List.mem_cons_self
  have hb := hg.2 b List.mem_cons_self
  have hcl : cs.length = k := by simpa using hf.1
  have hbl : bs.length = k := by simpa using hg.1
  have atf : ∀ j, j < k + 1 → atI ((c :: cs).map D.int) (j : Int) = some (.int ((c :: cs).getD j 0)) := fun j hj => atI_nat (by
    rw [List.getElem?_map, List.getElem?_eq_getElem (by rw [hf.1]; exact hj), List.getD_eq_getElem?_getD, List.getElem?_eq_getElem (by rw [hf.1]; exact hj)]; rfl)
  have atg : ∀ j, j < k + 1 → atI ((b :: bs).map D.int) (j : Int) = some (.int ((b :: bs).getD j 0)) := fun j hj => atI_nat (by
    rw [List.getElem?_map, List.getElem?_eq_getElem (by rw [hg.1]; exact hj), List.getD_eq_getElem?_getD, List.getElem?_eq_getElem (by rw [hg.1]; exact hj)]; rfl)
  have nb : ∀ j, 0 ≤ (b :: bs).getD j 0 ∧ (b :: bs).getD j 0 ≤ B := fun j => by
    rw [List.getD_eq_getElem?_getD]
    cases e : (b :: bs)[j]? with
    | none => exact ⟨Int.le_refl _, by show (0 : Int) ≤ B; omega⟩
    | some y => exact hg.2 y (List.mem_of_getElem? e)
  unfold t_law_point_above
  repeat walk_at "w"
  refine ⟨_, _, _, rfl, rfl, .tup (atf 0 (by omega)), ?_⟩
  repeat walk_at "w"
  refine ⟨_, _, _, rfl, rfl, .tup (atg 0 (by omega)), ?_⟩
  walk_at "i2"
  refine ⟨_, rfl, ite_dec (fun h => ?_) (fun h0 => ?_)⟩
  · repeat walk_at "w"
    refine we_lst ?_
    repeat walk_at "w"
    refine ⟨[.int 0], rfl, by decide, ?_⟩
    repeat walk_at "w"
    refine ⟨_, _, rfl, .tup _, ?_⟩
    repeat walk_at "w"
    walk_at "i2"
    have ek : (((c :: cs).map D.int).length : Int) - 1 = (k : Int) := by omega
    rw [ek]
    have e0 : ((k : Int)).toNat = k := by omega
    refine ⟨_, _, _, rfl, rfl, .lst (by omega) (by omega) (by rw [e0]; simp [szD]; omega), ?_⟩
    rw [e0, rep_ints]
    refine q _ (.inr ⟨?_, List.replicate k 0, rfl, ⟨by simp, fun x hx => by rw [List.eq_of_mem_replicate hx]; omega⟩, ?_⟩)
    · cases e : lessAll (c :: cs) (b :: bs) with
      | false => rfl
      | true =>
        have := (less_get efg).mp e 0
        have h' : b < c := h
        have this' : c ≤ b := this
        omega
    · have z : ∀ (c : Int) (k : Nat) (cs : List Int), valI (c :: cs) (List.replicate k 0) = c := by
        intro c k cs
        have : (List.zipWith (· * ·) cs (List.replicate k (0 : Int))).sum = 0 := by
          induction cs generalizing k with
          | nil => simp
          | cons x cs ih =>
            cases k with
            | zero => simp
            | succ k => rw [List.replicate_succ, List.zipWith_cons_cons, List.sum_cons, ih]; simp
        simp only [valI, List.headD_cons, List.tail_cons, this, Int.add_zero]
      rw [z, z]
      exact h
  · have h0' : c ≤ b := by
      have : ¬ b < c := h0
      omega
    walk_at "w"
    refine ws_seq (ws_for [2] (wi_rng2 ?_))
    repeat walk_at "w"
    refine ⟨_, _, rfl, .tup _, ?_⟩
    repeat walk_at "w"
    refine ⟨1, _, rfl, ⟨by omega, by omega, by omega, by omega⟩, fun i r' m' => m' = m ∧ (∀ j, j ≤ i → (c :: cs).getD j 0 ≤ (b :: bs).getD j 0) ∧ ∃ z, r' = [some (.val (tI (c :: cs))), some (.val (tI (b :: bs))), z, none], ⟨rfl, fun j hj => ?_, none, rfl⟩, ?_, ?_⟩
    · have : j = 0 := by omega
      rw [this]
      exact h0'
    · rintro i d r' m' hd ⟨rfl, hle, z, rfl⟩
      obtain ⟨rfl, hi⟩ := rng_get1 hd
      have hik : i + 1 < k + 1 := by omega
      have ei : (1 : Int) + (i : Int) = ((i + 1 : Nat) : Int) := by omega
      refine wg_name ?_
      repeat walk_at "w"
      refine ⟨_, _, _, rfl, rfl, .tup (by rw [ei]; exact atf (i + 1) hik), ?_⟩
      repeat walk_at "w"
      refine ⟨_, _, _, rfl, rfl, .tup (by rw [ei]; exact atg (i + 1) hik), ?_⟩
      walk_at "i2"
      refine ⟨_, rfl, ite_dec (fun h => ?_) (fun h => ?_)⟩
      · walk_at "w"
        refine we_eachI ((List.range k).map fun (j : Nat) => (1 : Int) + (j : Int)) (fun _ => true) (fun x => .int ((b + 1) * (if x = 1 + (i : Int) then 1 else 0))) (by simp; omega) (wi_rng2 ?_) (fun x hx m' => ?_) ?_
        · repeat walk_at "w"
          refine ⟨_, _, rfl, .tup _, ?_⟩
          repeat walk_at "w"
          refine ⟨1, _, rfl, ⟨by omega, by omega, by omega, by omega⟩, ?_, rfl⟩
          rw [show ((((c :: cs).map D.int).length : Int) - 1).toNat = k by omega]
          exact rng_ints 1 k
        · repeat walk_at "w"
          refine ⟨rfl, rfl, fun _ => ?_⟩
          repeat walk_at "w"
          refine ⟨_, _, _, rfl, rfl, .tup (atg 0 (by omega)), ?_⟩
          repeat walk_at "w"
          walk_at "i2"
          repeat walk_at "w"
          refine ⟨_, _, _, rfl, rfl, .mk (.int _ _), ?_⟩
          repeat walk_at "w"
          refine ⟨_, _, rfl, .bl _, ?_⟩
          have hz : (b + 1).natAbs ≤ 10 ^ 41 := by omega
          by_cases hxe : x = 1 + (i : Int)
          · refine ⟨_, _, _, rfl, rfl, .int (mulOk (B := 10 ^ 41) (C := 1) hz (by split <;> decide) (by decide +kernel)), ?_, rfl⟩
            rw [decide_eq_true hxe]
            simp only [if_pos hxe]
            rfl
          · refine ⟨_, _, _, rfl, rfl, .int (mulOk (B := 10 ^ 41) (C := 1) hz (by split <;> decide) (by decide +kernel)), ?_, rfl⟩
            rw [decide_eq_false hxe]
            simp only [if_neg hxe]
            rfl
        · have e : (((List.range k).map fun (j : Nat) => (1 : Int) + (j : Int)).filter fun _ => true).map (fun x => D.int ((b + 1) * (if x = 1 + (i : Int) then 1 else 0))) = (indL (b + 1) 1 (1 + (i : Int)) k).map .int := by
            rw [List.filter_eq_self.mpr (fun _ _ => rfl), List.map_map]
            unfold indL
            rw [List.map_map]
            rfl
          rw [e]
          have hgt : (b :: bs).getD (i + 1) 0 < (c :: cs).getD (i + 1) 0 := h
          refine q _ (.inr ⟨?_, _, rfl, ⟨by simp [indL], fun x hx => ?_⟩, ?_⟩)
          · cases e2 : lessAll (c :: cs) (b :: bs) with
            | false => rfl
            | true =>
              have := (less_get efg).mp e2 (i + 1)
              omega
          · unfold indL at hx
            obtain ⟨j, _, rfl⟩ := List.mem_map.mp hx
            split <;> omega
          · have v1 : valI (c :: cs) (indL (b + 1) 1 (1 + (i : Int)) k) = c + cs.getD i 0 * (b + 1) := by
              have := ind_sum (b + 1) cs 1 i
              rw [hcl] at this
              simp only [valI, List.headD_cons, List.tail_cons, this]
            have v2 : valI (b :: bs) (indL (b + 1) 1 (1 + (i : Int)) k) = b + bs.getD i 0 * (b + 1) := by
              have := ind_sum (b + 1) bs 1 i
              rw [hbl] at this
              simp only [valI, List.headD_cons, List.tail_cons, this]
            rw [v1, v2]
            have h1 : bs.getD i 0 + 1 ≤ cs.getD i 0 := hgt
            have h2 := Int.mul_le_mul_of_nonneg_right h1 (show (0 : Int) ≤ b + 1 by omega)
            rw [Int.add_mul] at h2
            omega
      · walk_at "w"
        refine ⟨rfl, fun j hj => ?_, _, rfl⟩
        by_cases hji : j = i + 1
        · rw [hji]
          have : ¬ (b :: bs).getD (i + 1) 0 < (c :: cs).getD (i + 1) 0 := h
          omega
        · exact hle j (by omega)
    · rintro r' m' ⟨rfl, hle, z, rfl⟩
      repeat walk_at "w"
      refine q _ (.inl ⟨(less_get efg).mpr fun j => ?_, rfl⟩)
      rw [rng_len] at hle
      by_cases hj : j ≤ k
      · exact hle j (by omega)
      · rw [List.getD_eq_getElem?_getD, List.getD_eq_getElem?_getD, List.getElem?_eq_none (by rw [hf.1]; omega), List.getElem?_eq_none (by rw [hg.1]; omega)]
        exact Int.le_refl _
/-! ### the law -/
theorem py_forms : ∀ fs : List (List Int), D.pyA (fs.map tI) = some (fs.map fun f => .tuple (f.map .int))
  | [] => rfl
  | f :: fs => by
    show D.pyA (tI f :: fs.map tI) = _
    simp only [D.pyA, py_tI, py_forms fs, List.map_cons]
theorem forms_canLay : ∀ fs : List (List Int), PyData.canLayAll0 (fs.map fun f => PyData.tuple (f.map .int)) = true
  | [] => by simp [PyData.canLayAll0]
  | f :: fs => by simp only [List.map_cons, PyData.canLayAll0, PyData.canLay0, Cr.canLayAll_ints, forms_canLay fs, Bool.and_self]
theorem forms_depth : ∀ fs : List (List Int), PyData.depthAll (fs.map fun f => PyData.tuple (f.map .int)) ≤ 2
  | [] => by simp [PyData.depthAll]
  | f :: fs => by
    have := forms_depth fs
    have := Cr.depthAll_ints f
    simp only [List.map_cons, PyData.depthAll, PyData.depth]
    omega
theorem forms_refl : ∀ fs : List (List Int), PyData.eqvAll (fs.map fun f => PyData.tuple (f.map .int)) (fs.map fun f => PyData.tuple (f.map .int)) = true
  | [] => by simp [PyData.eqvAll]
  | f :: fs => by simp only [List.map_cons, PyData.eqvAll, PyData.eqv, eqvAll_ints, forms_refl fs, decide_true, Bool.and_self]
theorem req_forms (fs : List (List Int)) : REq (.lst (fs.map tI)) (.lst (fs.map tI)) true := by
  have hs : SeqAt.shaped (.list (fs.map fun f => PyData.tuple (f.map .int))) = true := by
    have := forms_depth fs
    unfold SeqAt.shaped
    rw [Bool.and_eq_true]
    refine ⟨by simp only [PyData.canLay0, forms_canLay], decide_eq_true ?_⟩
    simp only [PyData.depth]
    omega
  have hp : D.py (.lst (fs.map tI)) = some (.list (fs.map fun f => PyData.tuple (f.map .int))) := by simp only [D.py, py_forms]; rfl
  have h := REq.deep hp hp hs hs
  rw [show PyData.eqv (.list (fs.map fun f => PyData.tuple (f.map .int))) (.list (fs.map fun f => PyData.tuple (f.map .int))) = true by simp only [PyData.eqv, forms_refl]] at h
  exact h
def col (j : Nat) (cs : List Int) (fs : List (List Int)) : List Int := (cs.zip fs).map fun p => p.1 * p.2.getD j 0
def fst3 (j : Nat) : D → D
  | .tup [.int n, .tup ds] => match ds[j]? with
    | some (.int z) => .int (n * z)
    | _ => .non
  | _ => .non
theorem fst3_eq {j : Nat} {x : Int} {f : List Int} (h : j < f.length) : fst3 j (.tup [.int x, tI f]) = .int (x * f.getD j 0) := by
  have e : (f.map D.int)[j]? = some (.int f[j]) := by rw [List.getElem?_map, List.getElem?_eq_getElem h]; rfl
  have e2 : f.getD j 0 = f[j] := by rw [List.getD_eq_getElem?_getD, List.getElem?_eq_getElem h]; rfl
  show (match (f.map D.int)[j]? with
    | some (.int z) => D.int (x * z)
    | _ => .non) = _
  rw [e, e2]
theorem col_map (j : Nat) : ∀ (cs : List Int) (fs : List (List Int)), (∀ f ∈ fs, j < f.length) → ((zipD (cs.map .int) (fs.map tI)).filter fun _ => true).map (fst3 j) = (col j cs fs).map .int
  | [], _, _ => rfl
  | _ :: _, [], _ => rfl
  | c :: cs, f :: fs, h => by
    have ih := col_map j cs fs fun g hg => h g (List.mem_cons_of_mem _ hg)
    have e : zipD ((c :: cs).map D.int) ((f :: fs).map tI) = .tup [.int c, tI f] :: zipD (cs.map .int) (fs.map tI) := rfl
    have e2 : col j (c :: cs) (f :: fs) = (c * f.getD j 0) :: col j cs fs := rfl
    rw [e, e2, List.filter_cons, if_pos rfl, List.map_cons, List.map_cons, ih, fst3_eq (h f List.mem_cons_self)]
theorem wipe_len (r : Ro) : ∀ vs : List Nat, (wipeR r vs).length = r.length
  | [] => rfl
  | v :: vs => by show ((wipeR r vs).set v none).length = _; rw [List.length_set, wipe_len r vs]
theorem we_col {K : PySem.W.Frag} {r : Ro} {m : Sto} {ta : TA} {idx : TE} {Q : Sv → Sto → Prop} (j : Nat) (cs : List Int) (fs : List (List Int)) (hr : r.length = 23) (hl : cs.length ≤ 3) (hf : ∀ f ∈ fs, j < f.length) (hc : ∀ x ∈ cs, x.natAbs ≤ 10 ^ 400) (hfz : ∀ f ∈ fs, bSz f)
    (ha : WA K r m ta fun ss m1 => m1 = m ∧ ss = [.val (.tup (cs.map .int)), .val (.lst (fs.map tI))])
    (hidx : ∀ (x y : Option Sv) (m' : Sto), WE K (((wipeR r [21, 22]).set 21 x).set 22 y) m' idx fun s m3 => s = .val (.int (j : Int)) ∧ m3 = m')
    (q : Q (.val (lI (col j cs fs))) m) : WE K r m (tLc (iZ K false ta) (gTup K 2 (gCons (gName 21) (gCons (gName 22) gNil))) tYes (tOp (rD2 K RMul) (tVar 21) (tOp (rD2 K RIx) (tVar 22) idx)) [21, 22]) Q := by
  refine we_lc (js := [21] ++ ([22] ++ [])) (by decide) (wi_Z fun σ H R e so k => ha σ H R e so fun vs H' ss m' x so' rs ⟨e1, es⟩ => k vs H' ss m' x so' rs ⟨true, false, cs.map .int, fs.map tI, es, fun z => (by cases z), ?_, e1, fun _ => true, fst3 j, fun d hd m' => ?_, ?_⟩)
  · rw [zip_len]; omega
  · obtain ⟨i, hi, rfl⟩ := List.mem_iff_getElem.mp hd
    obtain ⟨x, y, he, hxy⟩ := zip_get (List.getElem?_eq_getElem hi)
    rw [he]
    have hm := List.of_mem_zip (List.mem_of_getElem? hxy)
    have hj := hf y hm.2
    have hlen : (wipeR r [21, 22]).length = 23 := by rw [wipe_len, hr]
    refine wg_tup rfl (wgs_cons (wg_name (wgs_cons (wg_name (wgs_nil (wt_yes ⟨rfl, rfl, fun _ => ?_⟩))))))
    refine we_op (we_var (s := .val (.int x)) (by simp [List.getElem?_set, hlen]) (we_op (we_var (s := .val (tI y)) (by simp [List.getElem?_set, hlen]) ((hidx _ _ m').imp fun s m3 ⟨e3, e4⟩ => ?_))))
    subst e3 e4
    have ev : atI (y.map D.int) (j : Int) = some (.int (y.getD j 0)) := atI_nat (by
      rw [List.getElem?_map, List.getElem?_eq_getElem hj, List.getD_eq_getElem?_getD, List.getElem?_eq_getElem hj]; rfl)
    refine ⟨_, _, _, rfl, rfl, .tup ev, ?_⟩
    have hz : (y.getD j 0).natAbs ≤ 10 ^ 400 := by
      rw [List.getD_eq_getElem?_getD, List.getElem?_eq_getElem hj]
      exact hfz y hm.2 _ (List.getElem_mem hj)
    refine ⟨_, _, _, rfl, rfl, .int (smul_ok (hc x hm.1) hz), ?_, rfl⟩
    rw [fst3_eq hj]
    rfl
  · rw [col_map j cs fs hf]
    exact q
theorem list_getD {xs ys : List Int} (h : xs.length = ys.length) (e : ∀ j, j < xs.length → xs.getD j 0 = ys.getD j 0) : xs = ys := by
  refine List.ext_getElem h fun j h1 h2 => ?_
  have := e j h1
  rw [List.getD_eq_getElem?_getD, List.getD_eq_getElem?_getD, List.getElem?_eq_getElem h1, List.getElem?_eq_getElem h2] at this
  exact this
def dueL (c : Int) (cs : List Int) (fs : List (List Int)) (k : Nat) : List Int := (c + (col 0 cs fs).sum) :: (List.range k).map fun (j : Nat) => (col (j + 1) cs fs).sum
theorem ins_due {c : Int} {cs : List Int} {fs : List (List Int)} {k : Nat} {B : Int} (hf : ∀ f ∈ fs, Row (k + 1) B f) : ins (c :: List.replicate k 0) (cs.zip fs) = dueL c cs fs k := by
  have pl : ∀ p ∈ cs.zip fs, p.2.length = (c :: List.replicate k (0 : Int)).length := fun p hp => by
    rw [(hf p.2 (List.of_mem_zip (a := p.1) (b := p.2) hp).2).1]; simp
  have l1 : (ins (c :: List.replicate k 0) (cs.zip fs)).length = k + 1 := by rw [ins_len pl]; simp
  refine list_getD (by rw [l1]; simp [dueL]) fun j hj => ?_
  rw [ins_get j pl]
  rw [l1] at hj
  cases j with
  | zero => rfl
  | succ j =>
    have h1 : (c :: List.replicate k (0 : Int)).getD (j + 1) 0 = 0 := by
      rw [List.getD_eq_getElem?_getD, List.getElem?_cons_succ, List.getElem?_replicate]
      split <;> rfl
    rw [h1, Int.zero_add]
    unfold dueL
    rw [List.getD_eq_getElem?_getD, List.getElem?_cons_succ, List.getElem?_map, List.getElem?_range (by omega)]
    rfl
theorem val_ins {c : Int} {cs : List Int} {fs : List (List Int)} {k : Nat} {B : Int} (t : List Int) (hf : ∀ f ∈ fs, Row (k + 1) B f) : valI (ins (c :: List.replicate k 0) (cs.zip fs)) t = valI (c :: cs) (fs.map fun f => valI f t) := by
  have pl : ∀ p ∈ cs.zip fs, p.2.length = (c :: List.replicate k (0 : Int)).length := fun p hp => by
    rw [(hf p.2 (List.of_mem_zip (a := p.1) (b := p.2) hp).2).1]; simp
  rw [ins_val t (by simp) pl, val_plain]
  have : ∀ (cs : List Int) (fs : List (List Int)), ((cs.zip fs).map fun p => p.1 * valI p.2 t).sum = (List.zipWith (· * ·) cs (fs.map fun f => valI f t)).sum := by
    intro cs
    induction cs with
    | nil => intro fs; rfl
    | cons x cs ih =>
      intro fs
      cases fs with
      | nil => rfl
      | cons f fs => rw [List.zip_cons_cons, List.map_cons, List.sum_cons, ih, List.map_cons, List.zipWith_cons_cons, List.sum_cons]
  simp only [valI, List.headD_cons, List.tail_cons, this] at *
theorem val_bd {k : Nat} {B C : Int} {f t : List Int} (hk : k ≤ 3) (hB : 0 ≤ B) (hC : 0 ≤ C) (hf : Row (k + 1) B f) (ht : Row k C t) : 0 ≤ valI f t ∧ valI f t ≤ B + 3 * (B * C) := by
  cases f with
  | nil => exact absurd hf.1 (by simp)
  | cons c cs =>
    have hc := hf.2 c List.mem_cons_self
    have hcl : cs.length = k := by simpa using hf.1
    have key : ∀ (cs t : List Int), (∀ x ∈ cs, 0 ≤ x ∧ x ≤ B) → (∀ x ∈ t, 0 ≤ x ∧ x ≤ C) → 0 ≤ (List.zipWith (· * ·) cs t).sum ∧ (List.zipWith (· * ·) cs t).sum ≤ cs.length * (B * C) := by
      intro cs
      induction cs with
      | nil => intro t _ _; simp
      | cons x cs ih =>
        intro t hx ht
        cases t with
        | nil =>
          have : (0 : Int) ≤ ((x :: cs).length : Int) * (B * C) := Int.mul_nonneg (by omega) (Int.mul_nonneg hB hC)
          simpa using this
        | cons y t =>
          have := ih t (fun z hz => hx z (List.mem_cons_of_mem _ hz)) (fun z hz => ht z (List.mem_cons_of_mem _ hz))
          have h1 := hx x List.mem_cons_self
          have h2 := ht y List.mem_cons_self
          have h3 := Int.mul_nonneg h1.1 h2.1
          have h4 := Int.mul_le_mul h1.2 h2.2 h2.1 hB
          rw [List.zipWith_cons_cons, List.sum_cons, List.length_cons, Int.natCast_succ, Int.add_mul]
          omega
    have := key cs t (fun x hx => hf.2 x (List.mem_cons_of_mem _ hx)) ht.2
    have hBC := Int.mul_nonneg hB hC
    have h5 : (cs.length : Int) * (B * C) ≤ 3 * (B * C) := Int.mul_le_mul_of_nonneg_right (by omega) hBC
    simp only [valI, List.headD_cons, List.tail_cons]
    omega
theorem formD_row {k l : Nat} {B : Int} {ns : List Int} (h : Row (l + 1) B ns) : formD k (tI ns) = decide ((k : Int) = (l : Int)) := by
  show (decide (((ns.map D.int).length : Int) = (k : Int) + 1) && (ns.map D.int).all cntD) = _
  rw [cnt_all h, Bool.and_true, List.length_map, h.1]
  by_cases e : (k : Int) = (l : Int)
  · rw [decide_eq_true e, decide_eq_true (by omega)]
  · rw [decide_eq_false e, decide_eq_false (by omega)]
theorem formD_len {k : Nat} {ds : List D} (h : (ds.length : Int) ≠ (k : Int) + 1) : formD k (.tup ds) = false := by
  show (decide ((ds.length : Int) = (k : Int) + 1) && ds.all cntD) = false
  rw [decide_eq_false h]; rfl
theorem formD_bad {k : Int} {ds : List D} {d : D} (h : d ∈ ds) (hd : cntD d = false) : formD k (.tup ds) = false := by
  show (decide ((ds.length : Int) = k + 1) && ds.all cntD) = false
  have : ds.all cntD = false := by
    rw [List.all_eq_false]
    exact ⟨d, h, by rw [hd]; decide⟩
  rw [this, Bool.and_false]
end L11

namespace L11
open PySem PySem.Spec PyProof.Rows L2 Cr
local macro_rules | `(tactic| walk_at "w") => `(tactic| first
  | with_reducible refine ws_seq ?_ | with_reducible refine ws_asg ?_ | with_reducible refine ws_ret ?_ | with_reducible refine ws_retN ?_ | with_reducible refine ws_drop ?_ | with_reducible refine ws_if ?_
  | with_reducible refine ws_next ?_ | with_reducible refine ws_par ?_ | with_reducible refine ws_par3 ?_
  | with_reducible refine we_int ?_ | with_reducible refine we_str ?_ | with_reducible refine we_bl ?_ | with_reducible refine we_non ?_ | with_reducible refine we_op ?_ | with_reducible refine we_un ?_
  | with_reducible refine we_cb ?_ | with_reducible refine we_if ?_ | with_reducible refine we_tup ?_ | with_reducible refine we_call ?_ | with_reducible refine wa_cons ?_ | with_reducible refine wa_nil ?_
  | with_reducible refine wt_val ?_ | with_reducible refine wt_test ?_ | with_reducible refine wt_and ?_ | with_reducible refine wt_or ?_ | with_reducible refine wt_not ?_ | with_reducible refine wt_yes ?_
  | with_reducible refine we_andV ?_ | with_reducible refine we_orV ?_ | with_reducible refine we_notV ?_ | with_reducible refine we_chain ?_ | with_reducible refine we_slice ?_ | with_reducible refine wo_none ?_ | with_reducible refine wo_some ?_
  | with_reducible refine we_bits ?_ | refine we_var (by rfl) ?_)
local macro_rules | `(tactic| walk_at "i2") => `(tactic| refine ⟨_, _, _, rfl, rfl, .int _ _, ?_⟩)
local macro_rules | `(tactic| walk_at "in") => `(tactic| refine ⟨_, _, rfl, .int _, ?_⟩)
local macro_rules | `(tactic| walk_at "n") => `(tactic| simp only [List.set_cons_succ, List.set_cons_zero])
theorem plainV_row {xs : List D} (h : xs.length ≤ 100000) (hp : ∀ d ∈ xs, Plain d) : PlainV (.tup xs) := ⟨rfl, fun ds e => by
  cases e
  exact ⟨h, hp⟩⟩
theorem plain_cut {ns : List Int} {lo hi : Option Int} : ∀ d ∈ cutD (ns.map D.int) lo hi, Plain d := fun d hd => by
  obtain ⟨xs, e, _⟩ := cut_ints ns lo hi
  rw [e] at hd
  obtain ⟨i, _, rfl⟩ := List.mem_map.mp hd
  exact plain_int i
theorem cut_len (ns : List Int) (lo hi : Option Int) : (cutD (ns.map D.int) lo hi).length ≤ ns.length := by
  obtain ⟨xs, e, h⟩ := cut_ints ns lo hi
  rw [e, List.length_map]
  exact h
theorem rr_parts {d : D} {r : Rs} (h : RRepr [d] r) : ∃ p, d.py = some p ∧ p.showable = true ∧ p.depth ≤ 60 ∧ p.shown.length ≤ sizeLine := by
  cases h with
  | mk h hs hd hl => exact ⟨_, h, hs, hd, hl⟩
theorem rstr_tI {ns : List Int} (hl : ns.length ≤ 1000) (h : ∀ n ∈ ns, n.natAbs ≤ 10 ^ 400) : ∃ z : Str, RStr [tI ns] (.v (.str z)) := by
  obtain ⟨p, h1, h2, h3, h4⟩ := rr_parts (rrepr_tI hl h)
  exact ⟨_, .mk h1 (fun z e => by cases e) h2 h3 h4⟩
theorem m_law_right {K : PySem.W.Frag} : Ok K N_law_right T_law_right (t_law_right K) := by
  rintro ss m Q ⟨g, rfl, hg, q⟩
  have bm : ∀ x : Int, x ≤ 10 ^ 30 → x < bMax := fun x h => Int.lt_of_le_of_lt h (by decide +kernel)
  have toBig : ∀ {l : Nat} {B : Int} {f : List Int}, B ≤ 10 ^ 99 → Row l B f → Row l Big f := fun hB h => h.mono (Int.le_trans hB (by decide))
  unfold t_law_right
  rw [show startR N_law_right [Sv.adr g] = [some (.adr g), none, none, none, none, none, none, none, none, none, none, none, none, none, none, none, none, none, none, none, none, none, none] from rfl]
  -- many, inner
  refine ws_seq (ws_asgG ([1] ++ ([2] ++ [])) ?_)
  repeat walk_at "w"
  refine ⟨g, 4, 999999, rfl, hg, by decide, bm _ (by decide), fun vk m1 vk0 vk1 hG1 hF1 => ?_⟩
  obtain ⟨k, rfl⟩ := Int.eq_ofNat_of_zero_le vk0
  repeat walk_at "w"
  refine ⟨g, 4, 999998, rfl, hG1, by decide, bm _ (by decide), fun vi m2 vi0 vi1 hG2 hF2 => ?_⟩
  obtain ⟨kk, rfl⟩ := Int.eq_ofNat_of_zero_le vi0
  have hk : k ≤ 3 := by omega
  have hkk : kk ≤ 3 := by omega
  walk_at "w"
  refine ⟨[.int k, .int kk], rfl, by show (2 : Nat) ≤ 100000; decide, ?_⟩
  refine wg_tup rfl (wgs_cons (wg_name (wgs_cons (wg_name (wgs_nil ?_)))))
  -- most
  repeat walk_at "w"
  refine we_lst ?_
  repeat walk_at "w"
  refine ⟨_, _, _, rfl, rfl, .int (by decide) (by decide), ?_⟩
  repeat walk_at "w"
  refine ⟨_, _, _, rfl, rfl, .int (by decide) (by decide), ?_⟩
  repeat walk_at "w"
  refine ⟨[.int 2, .int (10 ^ (6 : Int).toNat), .int (10 ^ (29 : Int).toNat)], rfl, by show (3 : Nat) ≤ 100000; decide, ?_⟩
  repeat walk_at "w"
  refine ⟨g, 3, 999997, rfl, hG2, by decide, bm _ (by decide), fun v m3 v0 v1 hG3 hF3 => ?_⟩
  obtain ⟨B, hBe, hB, hB2⟩ : ∃ B : Int, atI [D.int 2, .int (10 ^ (6 : Int).toNat), .int (10 ^ (29 : Int).toNat)] v = some (.int B) ∧ 0 ≤ B ∧ B ≤ 10 ^ 29 := by
    rcases (show v = 0 ∨ v = 1 ∨ v = 2 by omega) with h | h | h <;> rw [h] <;> exact ⟨_, rfl, by decide, by decide⟩
  refine ⟨_, _, _, rfl, rfl, .lst hBe, ?_⟩
  -- one
  walk_at "n"
  repeat walk_at "w"
  refine ⟨g, k, 999900, B, rfl, by omega, hB, bm _ (by omega), hG3.mono (by omega), fun one m4 hone hG4 hF4 => ?_⟩
  cases one with
  | nil => exact absurd hone.1 (by simp)
  | cons c cs =>
  have hcl : cs.length = k := by simpa using hone.1
  have hc := hone.2 c List.mem_cons_self
  have oneBig := toBig (by omega) hone
  -- other, point
  walk_at "n"
  repeat walk_at "w"
  refine ⟨g, k, 999800, B, c :: cs, rfl, hk, hB, by have := bm (B + 10) (by omega); exact this, hone, hG4.mono (by omega), fun o m5 ho hG5 hF5 => ?_⟩
  have oBig := toBig (by omega) ho
  repeat walk_at "w"
  refine ⟨g, k, 999700, B, rfl, by omega, hB, bm _ (by omega), hG5.mono (by omega), fun pt m6 hpt hG6 hF6 => ?_⟩
  have ptBig := toBig (by omega) hpt
  walk_at "w"
  refine ⟨_, _, rfl, ?_⟩
  -- number, forms
  walk_at "n"
  refine ws_seq (ws_asgG ([7] ++ ([8] ++ [])) ?_)
  repeat walk_at "w"
  walk_at "i2"
  walk_at "w"
  refine ⟨g, B + 1, 999600, rfl, hG6.mono (by omega), by omega, bm _ (by omega), fun nn m7 nn0 nn1 hG7 hF7 => ?_⟩
  walk_at "w"
  refine we_drawn (ge := g) (js := [17]) (kk + 1) 999500 (fun i acc => ∃ fs : List (List Int), acc = fs.map tI ∧ fs.length = i ∧ ∀ f ∈ fs, Row (kk + 1) B f) (by decide) (wi_rng1 ?_)
  repeat walk_at "w"
  have e1 : ((k : Int)).toNat = k := by omega
  have hkm : (kk + 1) * k ≤ 4 * 3 := Nat.mul_le_mul (by omega) hk
  refine ⟨_, rfl, by omega, by omega, rfl, by rw [rng_len]; omega, by rw [rng_len, e1]; exact hG7.mono (by omega), ⟨[], rfl, rfl, by simp⟩, ?_, ?_⟩
  · rintro i d acc m' hd ⟨fs, rfl, hfl, hfr⟩ hG
    have hi := (List.getElem?_eq_some_iff.mp hd).1
    rw [rng_len] at hi hG ⊢
    rw [e1] at hi hG ⊢
    refine wg_name ?_
    repeat walk_at "w"
    have e3 : k - i = (k - i - 1) + 1 := by omega
    refine ⟨g, kk, 999500 + (kk + 1) * (k - i - 1), B, rfl, by omega, hB, bm _ (by omega), by rw [e3, Nat.mul_add, Nat.mul_one] at hG; exact hG.mono (by omega), fun ns m3 hr hG3 hF => ⟨_, rfl, ⟨fs ++ [ns], by rw [List.map_append]; rfl, by rw [List.length_append, hfl]; rfl, ?_⟩, hG3, hF⟩⟩
    intro p hp
    rcases List.mem_append.mp hp with h | h
    · exact hfr p h
    · rw [List.mem_singleton.mp h]; exact hr
  rintro acc m8 ⟨fs, rfl, hfl, hfr⟩ hG8 hF8
  rw [rng_len, e1] at hfl
  have hF18 := ((((((hF1.trans hF2).trans hF3).trans hF4).trans hF5).trans hF6).trans hF7).trans hF8
  walk_at "w"
  refine ⟨[.int nn, .lst (fs.map tI)], rfl, by show (2 : Nat) ≤ 100000; decide, ?_⟩
  refine wg_tup rfl (wgs_cons (wg_name (wgs_cons (wg_name (wgs_nil ?_)))))
  have noTrue : ∀ {A B : Prop}, B → if (!true) = true then A else B := fun h => by rw [if_neg (by decide)]; exact h
  have noFalse : ∀ {A B : Prop}, B → if false = true then A else B := fun h => by rw [if_neg (by decide)]; exact h
  -- 1: the value is whole
  walk_at "n"
  repeat walk_at "w"
  refine ⟨_, _, rfl, .lst _, ?_⟩
  repeat walk_at "w"
  refine ⟨k, c :: cs, pt, rfl, hk, oneBig, ptBig, ?_⟩
  repeat walk_at "w"
  refine ⟨c :: cs, pt, false, rfl, by simp, by rw [hone.1]; omega, row_big oneBig, row_big ptBig, ?_⟩
  walk_at "w"
  refine ⟨_, rfl, true, rfl, noTrue ?_⟩
  -- 2: added
  repeat walk_at "w"
  refine ⟨k, B + 1, c :: cs, o, rfl, hk, hone.mono (by omega), ho, ?_⟩
  repeat walk_at "w"
  refine we_zipW (c :: cs) o (· + ·) (by rw [hone.1]; omega) (fun z => (by cases z)) ?_ (fun x y hx hy m' => ?_) ?_
  · repeat walk_at "w"
    exact ⟨rfl, true, true, rfl⟩
  · repeat walk_at "w"
    exact ⟨_, _, _, rfl, rfl, .int _ _, rfl, rfl⟩
  repeat walk_at "w"
  refine ⟨[lI _], _, rfl, .lst _, ?_⟩
  refine ⟨_, _, _, rfl, rfl, .mk (req_tI _ _), _, rfl, ?_⟩
  rw [decide_eq_true rfl]
  refine noTrue ?_
  -- 3: scaled
  walk_at "w"
  refine ws_seq (ws_if (wt_orP false false ?_ (fun _ => ?_) (noFalse ?_)))
  · repeat walk_at "w"
    refine ⟨k, nn, c :: cs, rfl, hk, nn0, Int.le_trans (show nn ≤ 10 ^ 30 by omega) (by decide), oneBig, ?_⟩
    repeat walk_at "w"
    refine we_eachI (c :: cs) (fun _ => true) (fun x => .int (nn * x)) (by rw [hone.1]; omega) (wi_D ?_) (fun x hxm m' => ?_) ?_
    · repeat walk_at "w"
      exact ⟨true, (c :: cs).map .int, rfl, rfl, rfl⟩
    · repeat walk_at "w"
      refine ⟨rfl, rfl, fun _ => ?_⟩
      repeat walk_at "w"
      exact ⟨_, _, _, rfl, rfl, .int (smul_ok (big_sz nn0 (Int.le_trans (show nn ≤ 10 ^ 30 by omega) (by decide))) (row_big oneBig x hxm)), rfl, rfl⟩
    · repeat walk_at "w"
      have e : ((c :: cs).filter fun _ => true).map (fun x => D.int (nn * x)) = ((c :: cs).map (nn * ·)).map .int := by rw [List.filter_eq_self.mpr (fun _ _ => rfl), List.map_map]; rfl
      rw [e]
      refine ⟨[lI _], _, rfl, .lst _, ?_⟩
      refine ⟨_, _, _, rfl, rfl, .mk (req_tI _ _), _, rfl, ?_, rfl⟩
      rw [decide_eq_true rfl]
      rfl
  · repeat walk_at "w"
    refine ⟨k, 0, c :: cs, rfl, hk, by decide, by decide, oneBig, ?_⟩
    repeat walk_at "w"
    refine we_ty ?_
    repeat walk_at "w"
    exact ⟨[tI _, .ty "tuple"], _, rfl, isi_tup rfl, true, rfl, rfl, rfl⟩
  -- 4: shown
  repeat walk_at "w"
  refine ⟨k, B + 1, c :: cs, o, rfl, hk, by omega, hone.mono (by omega), ho, fun sh hsh => ?_⟩
  have hnon : sh.isNon = lessAll (c :: cs) o := by
    rcases hsh with ⟨h1, h2⟩ | ⟨h1, t, h2, _⟩
    · rw [h1, h2]; rfl
    · rw [h1, h2]; rfl
  have eoo := hone.1.trans ho.1.symm
  -- 5
  walk_at "n"
  refine ws_seq (ws_if (wt_orP false false ?_ (fun _ => ?_) (noFalse ?_)))
  · repeat walk_at "w"
    refine ⟨k, B + 1, c :: cs, o, rfl, hk, hone.mono (by omega), ho, ?_⟩
    repeat walk_at "w"
    refine ⟨_, _, _, rfl, rfl, .mk (.non _), ?_⟩
    walk_at "w"
    rw [hnon]
    exact ⟨_, rfl, true, rfl, rfl, rfl⟩
  · repeat walk_at "w"
    refine ⟨k, B, c :: cs, c :: cs, rfl, hk, hone, hone, ?_⟩
    repeat walk_at "w"
    refine ⟨_, _, _, rfl, rfl, .mk (.bl _ _), _, rfl, ?_, rfl⟩
    rw [(less_get rfl).mpr fun j => Int.le_refl _]
    rfl
  -- 6
  walk_at "w"
  refine ws_seq (ws_if (wt_andP (!sh.isNon) false ?_ (fun h => ?_) ?_))
  · repeat walk_at "w"
    exact ⟨_, _, _, rfl, rfl, .mk (.non _), _, rfl, rfl, rfl⟩
  · rcases hsh with ⟨h1, h2⟩ | ⟨h1, t, rfl, h3, h4⟩
    · rw [h2] at h; cases h
    have tBig := toBig (by omega) h3
    repeat walk_at "w"
    refine ⟨k, c :: cs, t, rfl, hk, oneBig, tBig, ?_⟩
    repeat walk_at "w"
    refine ⟨k, o, t, rfl, hk, oBig, tBig, ?_⟩
    refine ⟨_, _, _, rfl, rfl, .int _ _, _, rfl, ?_, rfl⟩
    exact decide_eq_false (by omega)
  rw [Bool.and_false]
  refine noFalse ?_
  -- 7
  walk_at "w"
  refine ws_seq (ws_if (wt_andP sh.isNon false ?_ (fun h => ?_) ?_))
  · repeat walk_at "w"
    exact ⟨_, _, _, rfl, rfl, .mk (.non _), _, rfl, rfl, rfl⟩
  · rw [hnon] at h
    repeat walk_at "w"
    refine ⟨_, _, rfl, .lst _, ?_⟩
    repeat walk_at "w"
    refine ⟨k, c :: cs, pt, rfl, hk, oneBig, ptBig, ?_⟩
    repeat walk_at "w"
    refine ⟨_, _, rfl, .lst _, ?_⟩
    repeat walk_at "w"
    refine ⟨k, o, pt, rfl, hk, oBig, ptBig, ?_⟩
    refine ⟨_, _, _, rfl, rfl, .int _ _, _, rfl, ?_, rfl⟩
    have := val_mono eoo (fun z hz => (hpt.2 z hz).1) h
    exact decide_eq_false (by omega)
  rw [Bool.and_false]
  refine noFalse ?_
  -- 8: given, place
  repeat walk_at "w"
  refine ws_asgG ([10] ++ ([11] ++ [])) ?_
  repeat walk_at "w"
  refine ⟨_, _, rfl, .lst _, ?_⟩
  repeat walk_at "w"
  refine ⟨g, kk, 999400, B, rfl, by omega, hB, bm _ (by omega), hG8.mono (by omega), fun pl m9 hpl hG9 hF9 => ?_⟩
  have plBig := toBig (by omega) hpl
  walk_at "w"
  refine ⟨[.lst (fs.map tI), lI pl], rfl, by show (2 : Nat) ≤ 100000; decide, ?_⟩
  refine wg_tup rfl (wgs_cons (wg_name (wgs_cons (wg_name (wgs_nil ?_)))))
  -- 9: told
  walk_at "n"
  repeat walk_at "w"
  refine ⟨kk, k, c, cs, fs, rfl, hkk, hk, hone.mono (Int.le_trans hB2 (by decide)), hfl, fun f hf => (hfr f hf).mono (Int.le_trans hB2 (by decide)), ?_⟩
  have htold := ins_due (c := c) (cs := cs) hfr
  rw [htold]
  have tl : (dueL c cs fs kk).length = kk + 1 := by simp [dueL]
  -- 10
  walk_at "n"
  refine ws_seq (ws_if (wt_orP false false ?_ (fun _ => wt_orP false false ?_ (fun _ => ?_) ⟨rfl, rfl⟩) (noFalse ?_)))
  · repeat walk_at "w"
    exact ⟨_, _, _, rfl, rfl, .mk (req_forms fs), _, rfl, rfl, rfl⟩
  · repeat walk_at "w"
    refine we_ty ?_
    repeat walk_at "w"
    exact ⟨[tI _, .ty "tuple"], _, rfl, isi_tup rfl, true, rfl, rfl, rfl⟩
  · repeat walk_at "w"
    refine ⟨_, _, rfl, .tup _, ?_⟩
    repeat walk_at "w"
    walk_at "i2"
    refine ⟨_, _, _, rfl, rfl, .mk (.int _ _), _, rfl, ?_, rfl⟩
    rw [List.length_map, tl, decide_eq_true (by omega)]
    rfl
  -- 11: due
  have csz : ∀ x ∈ cs, x.natAbs ≤ 10 ^ 400 := fun x hx => row_big oneBig x (List.mem_cons_of_mem _ hx)
  have fsz : ∀ f ∈ fs, bSz f := fun f hf => row_big (toBig (by omega) (hfr f hf))
  repeat walk_at "w"
  refine we_lst ?_
  repeat walk_at "w"
  refine ⟨_, _, _, rfl, rfl, .tup (d := .int c) (atI_nat (i := 0) rfl), ?_⟩
  repeat walk_at "w"
  refine we_col 0 cs fs rfl (by omega) (fun f hf => by rw [(hfr f hf).1]; omega) csz fsz ?_ (fun x y m' => ?_) ?_
  · repeat walk_at "w"
    refine ⟨1, rfl, ?_⟩
    repeat walk_at "w"
    refine ⟨_, _, rfl, .tup _ _ _, ?_⟩
    repeat walk_at "w"
    exact ⟨rfl, by rw [cut_tail]; rfl⟩
  · repeat walk_at "w"
    exact ⟨rfl, rfl⟩
  repeat walk_at "w"
  refine ⟨[lI _], _, rfl, .lst _, ?_⟩
  walk_at "i2"
  walk_at "w"
  refine ⟨[.int _], rfl, by show (1 : Nat) ≤ 100000; decide, ?_⟩
  -- 12
  walk_at "n"
  repeat walk_at "w"
  refine we_eachI ((List.range kk).map fun (j : Nat) => (1 : Int) + (j : Int)) (fun _ => true) (fun x => .int (col x.toNat cs fs).sum) (by simp; omega) (wi_rng2 ?_) (fun x hx m' => ?_) ?_
  · repeat walk_at "w"
    walk_at "i2"
    walk_at "w"
    refine ⟨1, _, rfl, ⟨by omega, by omega, by omega, by omega⟩, ?_, rfl⟩
    rw [show ((kk : Int) + 1 - 1).toNat = kk by omega]
    exact rng_ints 1 kk
  · obtain ⟨j, hj, rfl⟩ := List.mem_map.mp hx
    have hj2 := List.mem_range.mp hj
    repeat walk_at "w"
    refine ⟨rfl, rfl, fun _ => ?_⟩
    repeat walk_at "w"
    refine we_col (j + 1) cs fs rfl (by omega) (fun f hf => by rw [(hfr f hf).1]; omega) csz fsz ?_ (fun x y m' => ?_) ?_
    · repeat walk_at "w"
      refine ⟨1, rfl, ?_⟩
      repeat walk_at "w"
      refine ⟨_, _, rfl, .tup _ _ _, ?_⟩
      repeat walk_at "w"
      exact ⟨rfl, by rw [cut_tail]; rfl⟩
    · walk_at "w"
      refine ⟨?_, rfl⟩
      show Sv.val (.int (1 + (j : Int))) = Sv.val (.int ((j + 1 : Nat) : Int))
      rw [show (1 : Int) + (j : Int) = ((j + 1 : Nat) : Int) by omega]
    · repeat walk_at "w"
      refine ⟨[lI _], _, rfl, .lst _, ?_, rfl⟩
      rw [show ((1 : Int) + (j : Int)).toNat = j + 1 by omega]
      rfl
  have edue : ((((List.range kk).map fun (j : Nat) => (1 : Int) + (j : Int)).filter fun _ => true).map fun x => D.int (col x.toNat cs fs).sum) = ((List.range kk).map fun (j : Nat) => (col (j + 1) cs fs).sum).map .int := by
    rw [List.filter_eq_self.mpr (fun _ _ => rfl), List.map_map, List.map_map]
    refine List.map_congr_left fun j _ => ?_
    show D.int (col ((1 : Int) + (j : Int)).toNat cs fs).sum = D.int (col (j + 1) cs fs).sum
    rw [show ((1 : Int) + (j : Int)).toNat = j + 1 by omega]
  rw [edue]
  refine ⟨_, _, _, rfl, rfl, .lst (by simp [szD]; omega), ?_⟩
  -- 13, 14
  walk_at "n"
  have hB3 : B * B ≤ 10 ^ 58 := Int.le_trans (Int.mul_le_mul hB2 hB2 hB (by decide)) (by decide)
  have trow : Row (kk + 1) (B + (k : Int) * (B * B)) (dueL c cs fs kk) := by
    rw [← htold]
    have h0 : Row (kk + 1) B (c :: List.replicate kk (0 : Int)) := ⟨by simp, fun x hx => by
      rcases List.mem_cons.mp hx with h | h
      · rw [h]; exact hc
      · rw [List.eq_of_mem_replicate h]; omega⟩
    have := ins_row (C := B) (ps := cs.zip fs) h0 fun p hp => by
      have hm := List.of_mem_zip (a := p.1) (b := p.2) hp
      have h1 := hone.2 p.1 (List.mem_cons_of_mem _ hm.1)
      exact ⟨h1.1, h1.2, hfr p.2 hm.2⟩
    have el : (cs.zip fs).length = k := by rw [List.length_zip, hcl, hfl]; omega
    rw [el] at this
    exact this
  have hkB : (k : Int) * (B * B) ≤ 3 * 10 ^ 58 := Int.mul_le_mul (by omega) hB3 (Int.mul_nonneg hB hB) (by decide)
  have tBig := toBig (by omega) trow
  refine ws_seq (ws_if (wt_orP false false ?_ (fun _ => ?_) (noFalse ?_)))
  · repeat walk_at "w"
    refine ⟨[.lst (.int (c + (col 0 cs fs).sum) :: ((List.range kk).map fun (j : Nat) => (col (j + 1) cs fs).sum).map .int)], _, rfl, .lst _, ?_⟩
    refine ⟨_, _, _, rfl, rfl, .mk (req_tI _ (dueL c cs fs kk)), _, rfl, ?_, rfl⟩
    rw [decide_eq_true rfl]
    rfl
  · repeat walk_at "w"
    refine ⟨_, _, rfl, .lst _, ?_⟩
    repeat walk_at "w"
    refine ⟨kk, dueL c cs fs kk, pl, rfl, hkk, tBig, plBig, ?_⟩
    repeat walk_at "w"
    have vrow : Row k Big (fs.map fun f => valI f pl) := ⟨by rw [List.length_map, hfl], fun x hx => by
      obtain ⟨f, hf, rfl⟩ := List.mem_map.mp hx
      have h1 := val_bd hkk hB hB (hfr f hf) hpl
      have h2 : B + 3 * (B * B) ≤ 10 ^ 60 := by omega
      exact ⟨h1.1, Int.le_trans (Int.le_trans h1.2 h2) (by decide)⟩⟩
    refine we_lc (js := [22]) (by decide) (wi_D ?_)
    repeat walk_at "w"
    let vf : D → D := fun d => match d with
      | .tup ds => .int (valI (ds.map fun e => match e with | .int i => i | _ => 0) pl)
      | _ => .non
    have vfe : ∀ f : List Int, vf (tI f) = .int (valI f pl) := fun f => by
      show D.int (valI ((f.map D.int).map fun e => match e with | .int i => i | _ => 0) pl) = _
      rw [List.map_map]
      have : ((fun e : D => match e with | .int i => i | _ => 0) ∘ D.int) = id := rfl
      rw [this, List.map_id]
    refine ⟨false, fs.map tI, rfl, by rw [List.length_map]; omega, rfl, fun _ => true, vf, fun d hd m' => ?_, ?_⟩
    · obtain ⟨f, hf, rfl⟩ := List.mem_map.mp hd
      refine wg_name ?_
      repeat walk_at "w"
      refine ⟨rfl, rfl, fun _ => ?_⟩
      repeat walk_at "w"
      refine ⟨_, _, rfl, .lst _, ?_⟩
      walk_at "w"
      exact ⟨kk, f, pl, rfl, hkk, toBig (by omega) (hfr f hf), plBig, by rw [vfe], rfl⟩
    have ev : ((fs.map tI).filter fun _ => true).map vf = (fs.map fun f => valI f pl).map .int := by
      rw [List.filter_eq_self.mpr (fun _ _ => rfl), List.map_map, List.map_map]
      exact List.map_congr_left fun f _ => vfe f
    rw [ev]
    repeat walk_at "w"
    refine ⟨k, c :: cs, fs.map (fun f => valI f pl), rfl, hk, oneBig, vrow, ?_⟩
    refine ⟨_, _, _, rfl, rfl, .mk (.int _ _), _, rfl, ?_, rfl⟩
    have := val_ins (c := c) (cs := cs) pl hfr
    rw [htold] at this
    rw [decide_eq_true this]
    rfl
  -- 15
  have pOne : PlainV (tI (c :: cs)) := plainV_tI (by rw [hone.1]; omega)
  walk_at "w"
  refine ws_seq (ws_if (wt_orP false false ?_ (fun _ => ?_) (noFalse ?_)))
  · repeat walk_at "w"
    refine ⟨k, tI (c :: cs), rfl, hk, pOne, ?_⟩
    rw [formD_tI hone]
    walk_at "w"
    exact ⟨_, _, _, rfl, rfl, .mk (.bl _ _), _, rfl, rfl, rfl⟩
  · repeat walk_at "w"
    refine ⟨kk, tI (c :: cs), rfl, hkk, pOne, ?_⟩
    rw [formD_row hone]
    repeat walk_at "w"
    refine ⟨_, _, _, rfl, rfl, .mk (.int _ _), ?_⟩
    walk_at "w"
    exact ⟨_, rfl, true, rfl, rfl, rfl⟩
  -- 16: at, spoilt
  repeat walk_at "w"
  walk_at "i2"
  walk_at "w"
  refine ⟨g, (k : Int) + 1, 999300, rfl, hG9.mono (by omega), by omega, bm _ (by omega), fun va m10 va0 va1 hG10 hF10 => ?_⟩
  obtain ⟨j, rfl⟩ := Int.eq_ofNat_of_zero_le va0
  walk_at "w"
  refine we_lstO ?_
  walk_at "w"
  walk_at "w"
  walk_at "w"
  walk_at "w"
  walk_at "w"
  refine ⟨_, _, rfl, .tup _, ?_⟩
  repeat walk_at "w"
  refine ⟨[.int 0], rfl, by show (1 : Nat) ≤ 100000; decide, ?_⟩
  refine ⟨_, _, _, rfl, rfl, .tup (by rw [List.length_map, hone.1]; simp [szD]; omega), ?_⟩
  repeat walk_at "w"
  refine ⟨1, rfl, ?_⟩
  walk_at "w"
  refine ⟨_, _, rfl, .tup _ _ _, ?_⟩
  repeat walk_at "w"
  obtain ⟨z, hz⟩ := rstr_tI (ns := c :: cs) (by rw [hone.1]; omega) (row_big oneBig)
  refine ⟨[tI (c :: cs)], _, rfl, hz, ?_⟩
  repeat walk_at "w"
  refine ⟨[lI (c :: cs), .tup ((c :: cs).map .int ++ [.int 0]), .tup (cutD ((c :: cs).map .int) (some 1) none), .str z, .non], rfl, by show (5 : Nat) ≤ 100000; decide, fun p hp => ?_⟩
  have hF110 := (hF18.trans hF9).trans hF10
  have gp : g ≠ p := fun e => by
    obtain ⟨ds, z⟩ := hG10.some
    rw [e, hp] at z
    cases z
  have mp : m p = none := by rw [← hF110 p gp.symm]; exact hp
  have hbase : ∀ d ∈ [lI (c :: cs), D.tup ((c :: cs).map .int ++ [.int 0]), .tup (cutD ((c :: cs).map .int) (some 1) none), .str z, .non], PlainV d ∧ formD k d = false := by
    intro d hd
    simp only [List.mem_cons, List.not_mem_nil, or_false] at hd
    have l1 : ((c :: cs).map D.int).length = k + 1 := by rw [List.length_map, hone.1]
    have pi : ∀ d ∈ (c :: cs).map D.int, Plain d := fun d hd => by
      obtain ⟨i, _, rfl⟩ := List.mem_map.mp hd
      exact plain_int i
    rcases hd with rfl | rfl | rfl | rfl | rfl
    · exact ⟨⟨rfl, fun ds e => by cases e⟩, rfl⟩
    · refine ⟨plainV_row (by rw [List.length_append, l1]; simp; omega) fun d hd => ?_, formD_len (by rw [List.length_append, l1]; simp; omega)⟩
      rcases List.mem_append.mp hd with h | h
      · exact pi d h
      · rw [List.mem_singleton.mp h]; exact plain_int 0
    · refine ⟨plainV_row (Nat.le_trans (cut_len _ _ _) (by rw [hone.1]; omega)) plain_cut, formD_len ?_⟩
      rw [cut_tail, List.length_tail, l1]
      omega
    · exact ⟨⟨rfl, fun ds e => by cases e⟩, rfl⟩
    · exact ⟨⟨rfl, fun ds e => by cases e⟩, rfl⟩
  walk_at "w"
  refine ⟨_, _, rfl, ?_⟩
  walk_at "n"
  -- 17: more of them
  refine ws_seq (ws_for [16] (wi_D (we_lst ?_)))
  repeat walk_at "w"
  walk_at "i2"
  repeat walk_at "w"
  walk_at "i2"
  repeat walk_at "w"
  refine ⟨[.int 1], rfl, by show (1 : Nat) ≤ 100000; decide, ?_⟩
  walk_at "w"
  refine ⟨[.bl true, .int (0 - 1 - nn), .str "1", .non, tI [1]], rfl, by show (5 : Nat) ≤ 100000; decide, false, _, rfl, fun i r' m' => (r'.length = 23 ∧ r'[1]? = some (some (.val (.int k))) ∧ r'[4]? = some (some (.val (tI (c :: cs)))) ∧ r'[14]? = some (some (.val (.int j))) ∧ r'[15]? = some (some (.adr p))) ∧
    ∃ acc, m' p = some acc ∧ acc.length = 5 + i ∧ ∀ d ∈ acc, PlainV d ∧ formD k d = false, ⟨⟨rfl, rfl, rfl, rfl, rfl⟩, _, stS_same, rfl, hbase⟩, ?_, ?_⟩
  · rintro i d r' m' hd ⟨⟨h0, h1, h4, h14, h15⟩, acc, hm, hal, hab⟩
    have hi := (List.getElem?_eq_some_iff.mp hd).1
    have hi5 : i < 5 := hi
    have hdp : Plain d ∧ cntD d = false := by
      have := List.mem_of_getElem? hd
      simp only [List.mem_cons, List.not_mem_nil, or_false] at this
      rcases this with rfl | rfl | rfl | rfl | rfl
      · exact ⟨plain_bl _, rfl⟩
      · refine ⟨plain_int _, ?_⟩
        show (decide ((0 : Int) ≤ 0 - 1 - nn) && true) = false
        rw [decide_eq_false (by omega)]
        rfl
      · exact ⟨⟨_, rfl, by decide +kernel, by decide +kernel⟩, rfl⟩
      · exact ⟨plain_non, rfl⟩
      · exact ⟨plain_tI _, rfl⟩
    refine wg_name ?_
    have gn : ∀ {n : Nat} {s : Sv}, n ≠ 16 → r'[n]? = some (some s) → (r'.set 16 (some (.val d)))[n]? = some (some s) := fun hn h => by rw [List.getElem?_set_ne (by omega)]; exact h
    have g16 : (r'.set 16 (some (.val d)))[16]? = some (some (.val d)) := by rw [List.getElem?_set, if_pos rfl, if_pos (by omega)]
    have cl1 := cut_len (c :: cs) none (some (j : Int))
    have cl2 := cut_len (c :: cs) (some ((j : Int) + 1)) none
    have ol := hone.1
    refine ws_app (we_var (gn (by decide) h15) ⟨p, acc, rfl, hm, ?_⟩)
    refine we_op (we_op (we_slice (we_var (gn (by decide) h4) (wo_none (wo_some (we_var (gn (by decide) h14) ⟨_, rfl, _, _, rfl, .tup _ _ _, ?_⟩))))))
    refine we_tup (wa_cons (we_var g16 (wa_nil ⟨[d], rfl, by show (1 : Nat) ≤ 100000; decide, ?_⟩)))
    refine ⟨_, _, _, rfl, rfl, .tup (by show _ ≤ 100000; simp only [List.length_cons, List.length_nil]; omega), ?_⟩
    refine we_slice (we_var (gn (by decide) h4) (wo_some (we_op (we_var (gn (by decide) h14) (we_int ⟨_, _, _, rfl, rfl, .int _ _, ?_⟩)))))
    refine ⟨_, rfl, ?_⟩
    refine wo_none ⟨_, _, rfl, .tup _ _ _, ?_⟩
    refine ⟨_, _, _, rfl, rfl, .tup (by show _ ≤ 100000; rw [List.length_append]; simp only [List.length_cons, List.length_nil]; omega), ?_⟩
    refine ⟨_, acc, rfl, hm, by omega, ⟨by rw [List.length_set]; exact h0, gn (by decide) h1, gn (by decide) h4, gn (by decide) h14, gn (by decide) h15⟩, _, stS_same, by rw [List.length_append, hal]; rfl, fun e he => ?_⟩
    rcases List.mem_append.mp he with h | h
    · exact hab e h
    · rw [List.mem_singleton.mp h]
      refine ⟨plainV_row (by rw [List.length_append, List.length_append]; simp only [List.length_cons, List.length_nil]; omega) fun y hy => ?_, formD_bad (d := d) (by simp) hdp.2⟩
      rcases List.mem_append.mp hy with h | h
      · rcases List.mem_append.mp h with h | h
        · exact plain_cut y h
        · rw [List.mem_singleton.mp h]; exact hdp.1
      · exact plain_cut y h
  · rintro r' m' ⟨⟨h0, h1, h4, h14, h15⟩, acc, hm, hal, hab⟩
    refine ws_frz hm (dom_none.mpr mp) (ws_ret (we_op (we_lc (js := [20]) (by decide) (wi_D (we_var (frz_adr h15) ⟨false, acc, rfl, by rw [hal]; show 5 + 5 ≤ 100000; decide, rfl, fun d => !decide (formD k d = false), fun d => d, fun d hd m2 => ?_, ?_⟩)))))
    · have hb := hab d hd
      have hlen : (r'.map (frzS p acc)).length = 23 := by rw [List.length_map]; exact h0
      have g1 : (((wipeR (r'.map (frzS p acc)) [20]).set 20 (some (.val d))))[1]? = some (some (.val (.int k))) := by
        rw [List.getElem?_set_ne (by decide)]
        show ((r'.map (frzS p acc)).set 20 none)[1]? = _
        rw [List.getElem?_set_ne (by decide), List.getElem?_map, h1]
        rfl
      have g20 : (((wipeR (r'.map (frzS p acc)) [20]).set 20 (some (.val d))))[20]? = some (some (.val d)) := by
        rw [List.getElem?_set, if_pos rfl, if_pos (by rw [wipe_len, hlen]; decide)]
      refine wg_name (wt_test (we_op (we_call (wa_cons (we_var g1 (wa_cons (we_var g20 (wa_nil ⟨k, d, rfl, hk, hb.1, ?_⟩))))))))
      refine we_bl ⟨_, _, _, rfl, rfl, .mk (.bl _ _), _, rfl, rfl, rfl, fun _ => ?_⟩
      exact we_var g20 ⟨rfl, rfl⟩
    · have e : ((acc.filter fun d => !decide (formD k d = false)).map fun d => d) = [] := by
        rw [List.map_id', List.filter_eq_nil_iff]
        intro d hd
        rw [(hab d hd).2]
        decide
      rw [e]
      refine we_lst (wa_nil ⟨[], rfl, by decide, ?_⟩)
      refine ⟨_, _, _, rfl, rfl, .mk (req_lI [] []), ?_⟩
      rw [decide_eq_true rfl]
      exact q _
theorem m_law {K : PySem.W.Frag} : Ok K N_law T_law (t_law K) := by
  rintro ss m Q ⟨ns, rfl, hl, hb, hm, q⟩
  unfold t_law
  walk_at "w"
  refine ws_for [1] (wi_rng1 ?_)
  repeat walk_at "w"
  refine ⟨3, rfl, by decide, by decide, fun i r' m' => ∃ z, r' = [some (.val (.scr ns)), z], ⟨_, rfl⟩, ?_, ?_⟩
  · rintro i d r' m' hd ⟨z, rfl⟩
    obtain ⟨rfl, hi⟩ := rng_get hd
    have hi2 : i < 3 := hi
    refine wg_name ?_
    repeat walk_at "w"
    refine ⟨ns, i, rfl, by omega, by omega, hb, fun p m2 hp hG hF => ?_⟩
    repeat walk_at "w"
    refine ⟨p, rfl, hG, fun m3 => ?_⟩
    refine ⟨true, rfl, ?_⟩
    show if (!true) = true then _ else _
    rw [if_neg (by decide)]
    walk_at "w"
    exact ⟨_, rfl⟩
  · rintro r' m' ⟨z, rfl⟩
    repeat walk_at "w"
    exact q _
end L11

namespace L11
open PySem PySem.Spec PyProof.Rows L2 Cr
def d_law_cell : He.DefD := ⟨("_law_cell", none), "_law_cell", "_law_cell", defArgs s_law_cell, defBody s_law_cell, defScope s_law_cell, [], []⟩
def d_law_generator : He.DefD := ⟨("_law_generator", none), "_law_generator", "_law_generator", defArgs s_law_generator, defBody s_law_generator, defScope s_law_generator, [], []⟩
def d_law_hash : He.DefD := ⟨("_law_hash", none), "_law_hash", "_law_hash", defArgs s_law_hash, defBody s_law_hash, defScope s_law_hash, [], []⟩
def d_law_random : He.DefD := ⟨("_law_random", none), "_law_random", "_law_random", defArgs s_law_random, defBody s_law_random, defScope s_law_random, [], []⟩
def d_law_form : He.DefD := ⟨("_law_form", none), "_law_form", "_law_form", defArgs s_law_form, defBody s_law_form, defScope s_law_form, [], []⟩
def d_law_point : He.DefD := ⟨("_law_point", none), "_law_point", "_law_point", defArgs s_law_point, defBody s_law_point, defScope s_law_point, [], []⟩
def d_law_near : He.DefD := ⟨("_law_near", none), "_law_near", "_law_near", defArgs s_law_near, defBody s_law_near, defScope s_law_near, [], []⟩
def d_law_value : He.DefD := ⟨("_law_value", none), "_law_value", "_law_value", defArgs s_law_value, defBody s_law_value, defScope s_law_value, [], []⟩
def d_is_whole : He.DefD := ⟨("is_whole", none), "is_whole", "is_whole", defArgs s_is_whole, defBody s_is_whole, defScope s_is_whole, [], []⟩
def d_is_between : He.DefD := ⟨("is_between", none), "is_between", "is_between", defArgs s_is_between, defBody s_is_between, defScope s_is_between, [], []⟩
def d_are_counts : He.DefD := ⟨("are_counts", none), "are_counts", "are_counts", defArgs s_are_counts, defBody s_are_counts, defScope s_are_counts, [], []⟩
def d_is_form_for : He.DefD := ⟨("is_form_for", none), "is_form_for", "is_form_for", defArgs s_is_form_for, defBody s_is_form_for, defScope s_is_form_for, [], []⟩
def d_is_any_form : He.DefD := ⟨("is_any_form", none), "is_any_form", "is_any_form", defArgs s_is_any_form, defBody s_is_any_form, defScope s_is_any_form, [], []⟩
def d_check_any_form : He.DefD := ⟨("check_any_form", none), "check_any_form", "check_any_form", defArgs s_check_any_form, defBody s_check_any_form, defScope s_check_any_form, [], []⟩
def d_is_point : He.DefD := ⟨("is_point", none), "is_point", "is_point", defArgs s_is_point, defBody s_is_point, defScope s_is_point, [], []⟩
def d_check_point : He.DefD := ⟨("check_point", none), "check_point", "check_point", defArgs s_check_point, defBody s_check_point, defScope s_check_point, [], []⟩
def d_value_at : He.DefD := ⟨("value_at", none), "value_at", "value_at", defArgs s_value_at, defBody s_value_at, defScope s_value_at, [], []⟩
def d_value : He.DefD := ⟨("value", none), "value", "value", defArgs s_value, defBody s_value, defScope s_value, [], []⟩
def d_law_is_whole : He.DefD := ⟨("_law_is_whole", none), "_law_is_whole", "_law_is_whole", defArgs s_law_is_whole, defBody s_law_is_whole, defScope s_law_is_whole, [], []⟩
def d_check_two_forms : He.DefD := ⟨("check_two_forms", none), "check_two_forms", "check_two_forms", defArgs s_check_two_forms, defBody s_check_two_forms, defScope s_check_two_forms, [], []⟩
def d_form_sum : He.DefD := ⟨("form_sum", none), "form_sum", "form_sum", defArgs s_form_sum, defBody s_form_sum, defScope s_form_sum, [], []⟩
def d_added : He.DefD := ⟨("added", none), "added", "added", defArgs s_added, defBody s_added, defScope s_added, [], []⟩
def d_check_number : He.DefD := ⟨("check_number", none), "check_number", "check_number", defArgs s_check_number, defBody s_check_number, defScope s_check_number, [], []⟩
def d_form_times : He.DefD := ⟨("form_times", none), "form_times", "form_times", defArgs s_form_times, defBody s_form_times, defScope s_form_times, [], []⟩
def d_scaled : He.DefD := ⟨("scaled", none), "scaled", "scaled", defArgs s_scaled, defBody s_scaled, defScope s_scaled, [], []⟩
def d_law_point_above : He.DefD := ⟨("_law_point_above", none), "_law_point_above", "_law_point_above", defArgs s_law_point_above, defBody s_law_point_above, defScope s_law_point_above, [], []⟩
def d_form_below : He.DefD := ⟨("form_below", none), "form_below", "form_below", defArgs s_form_below, defBody s_form_below, defScope s_form_below, [], []⟩
def d_below : He.DefD := ⟨("below", none), "below", "below", defArgs s_below, defBody s_below, defScope s_below, [], []⟩
def d_law_yes : He.DefD := ⟨("_law_yes", none), "_law_yes", "_law_yes", defArgs s_law_yes, defBody s_law_yes, defScope s_law_yes, [], []⟩
def d_check_many : He.DefD := ⟨("check_many", none), "check_many", "check_many", defArgs s_check_many, defBody s_check_many, defScope s_check_many, [], []⟩
def d_check_forms : He.DefD := ⟨("check_forms", none), "check_forms", "check_forms", defArgs s_check_forms, defBody s_check_forms, defScope s_check_forms, [], []⟩
def d_plain : He.DefD := ⟨("plain", none), "plain", "plain", defArgs s_plain, defBody s_plain, defScope s_plain, [], []⟩
def d_form_inserted : He.DefD := ⟨("form_inserted", none), "form_inserted", "form_inserted", defArgs s_form_inserted, defBody s_form_inserted, defScope s_form_inserted, [], []⟩
def d_inserted : He.DefD := ⟨("inserted", none), "inserted", "inserted", defArgs s_inserted, defBody s_inserted, defScope s_inserted, [], []⟩
def d_is_form : He.DefD := ⟨("is_form", none), "is_form", "is_form", defArgs s_is_form, defBody s_is_form, defScope s_is_form, [], []⟩
def d_law_right : He.DefD := ⟨("_law_right", none), "_law_right", "_law_right", defArgs s_law_right, defBody s_law_right, defScope s_law_right, [], []⟩
def d_law : He.DefD := ⟨("law", none), "law", "law", defArgs s_law, defBody s_law, defScope s_law, [], []⟩
def fn : List He.DefD := [d_law_cell, d_law_generator, d_law_hash, d_law_random, d_law_form, d_law_point, d_law_near, d_law_value, d_is_whole, d_is_between, d_are_counts, d_is_form_for, d_is_any_form, d_check_any_form, d_is_point, d_check_point, d_value_at, d_value, d_law_is_whole, d_check_two_forms, d_form_sum, d_added, d_check_number, d_form_times, d_scaled, d_law_point_above, d_form_below, d_below, d_law_yes, d_check_many, d_check_forms, d_plain, d_form_inserted, d_inserted, d_is_form, d_law_right, d_law]
def fa : List He.Fa := [.glo "_law_cell", .glo "_law_generator", .glo "_law_hash", .glo "_law_random", .glo "_law_form", .glo "_law_point", .glo "_law_near", .glo "_law_value", .glo "is_whole", .glo "is_between", .glo "are_counts", .glo "is_form_for", .glo "is_any_form", .glo "check_any_form", .glo "is_point", .glo "check_point", .glo "value_at", .glo "value", .glo "_law_is_whole", .glo "check_two_forms", .glo "form_sum", .glo "added", .glo "check_number", .glo "form_times", .glo "scaled", .glo "_law_point_above", .glo "form_below", .glo "below", .glo "_law_yes", .glo "check_many", .glo "check_forms", .glo "plain", .glo "form_inserted", .glo "inserted", .glo "is_form", .glo "_law_right", .glo "law", .free "len", .free "sum", .free "int", .free "max", .free "range", .free "tuple", .free "list", .free "zip", .free "isinstance", .free "bool", .free "str", .int "MOST_UNKNOWNS" 3]
def ex (K : PySem.W.Frag) : Bool := true
def loose : List Str := [("CountError" : Str), ("InvalidNumber" : Str), ("InvalidForm" : Str), ("InvalidPoint" : Str), ("InvalidList" : Str), ("Unlike" : Str), ("MOST_UNKNOWNS" : Str), ("is_whole" : Str), ("is_between" : Str), ("are_counts" : Str), ("is_point" : Str), ("is_form_for" : Str), ("check_number" : Str), ("check_many" : Str), ("check_point" : Str), ("is_form" : Str), ("is_any_form" : Str), ("check_any_form" : Str), ("check_two_forms" : Str), ("plain" : Str), ("value_at" : Str), ("form_sum" : Str), ("form_times" : Str), ("form_below" : Str), ("form_inserted" : Str), ("value" : Str), ("added" : Str), ("scaled" : Str), ("below" : Str), ("check_forms" : Str), ("inserted" : Str), ("_law_hash" : Str), ("_law_random" : Str), ("_law_cell" : Str), ("_law_generator" : Str), ("_law_form" : Str), ("_law_value" : Str), ("_law_point" : Str), ("_law_yes" : Str), ("_law_point_above" : Str), ("_law_near" : Str), ("_law_is_whole" : Str), ("_law_right" : Str)]
abbrev R : PySem.W.OpenRow := PySem.W.OpenLaw.row PySem.Challenge.rw_countreaders_k11_forms
abbrev hk : PySem.W.Hook := hookM 4 fa fn ex
def ob (s : PySem.W.SharedT) : He.AlD × Bool := obsM 4 fa fn ex (HandSHeadRun.getT s)
theorem ob_eq (s : PySem.W.SharedT) : ob s = hk.obs s.abs := obsM_eq (HandSHeadRun.getT_eq s)
theorem run (w : World) : HandSHeadRun.RunEq R (PySem.W.view R.prog [47]) hk ob 8000 loose w := by
  intro os
  kernel_rfl
theorem facts {P : Program} {w : World} {K : PySem.W.Frag} {h : Heap} {mg : Str → Option Value} {f : Addr} (X : K.In h) (G : h.Ns mainGlobals mg) (hfa : mg ("law" : Str) = some (.ref f)) (c : He.SaysD fa fn K) (hex : ex K = true) :
    ∃ fd : FuncData, (∀ (s : Shared) (v : Value), BindsTo s fd ⟨[v], []⟩ [("script", v)]) ∧ ∀ base : Heap, K.In base → base.Ns mainGlobals mg → FnG P w K mg base 10 f fd P_law (SpD K T_law) := by
  obtain ⟨fd_law_cell, F_law_cell⟩ := c.def_ 0 (d := d_law_cell) rfl
  have e_law_cell := He.glo_ok X G (c.fact 0 (f := .glo "_law_cell") rfl)
  obtain ⟨fd_law_generator, F_law_generator⟩ := c.def_ 1 (d := d_law_generator) rfl
  have e_law_generator := He.glo_ok X G (c.fact 1 (f := .glo "_law_generator") rfl)
  obtain ⟨fd_law_hash, F_law_hash⟩ := c.def_ 2 (d := d_law_hash) rfl
  have e_law_hash := He.glo_ok X G (c.fact 2 (f := .glo "_law_hash") rfl)
  obtain ⟨fd_law_random, F_law_random⟩ := c.def_ 3 (d := d_law_random) rfl
  have e_law_random := He.glo_ok X G (c.fact 3 (f := .glo "_law_random") rfl)
  obtain ⟨fd_law_form, F_law_form⟩ := c.def_ 4 (d := d_law_form) rfl
  have e_law_form := He.glo_ok X G (c.fact 4 (f := .glo "_law_form") rfl)
  obtain ⟨fd_law_point, F_law_point⟩ := c.def_ 5 (d := d_law_point) rfl
  have e_law_point := He.glo_ok X G (c.fact 5 (f := .glo "_law_point") rfl)
  obtain ⟨fd_law_near, F_law_near⟩ := c.def_ 6 (d := d_law_near) rfl
  have e_law_near := He.glo_ok X G (c.fact 6 (f := .glo "_law_near") rfl)
  obtain ⟨fd_law_value, F_law_value⟩ := c.def_ 7 (d := d_law_value) rfl
  have e_law_value := He.glo_ok X G (c.fact 7 (f := .glo "_law_value") rfl)
  obtain ⟨fd_is_whole, F_is_whole⟩ := c.def_ 8 (d := d_is_whole) rfl
  have e_is_whole := He.glo_ok X G (c.fact 8 (f := .glo "is_whole") rfl)
  obtain ⟨fd_is_between, F_is_between⟩ := c.def_ 9 (d := d_is_between) rfl
  have e_is_between := He.glo_ok X G (c.fact 9 (f := .glo "is_between") rfl)
  obtain ⟨fd_are_counts, F_are_counts⟩ := c.def_ 10 (d := d_are_counts) rfl
  have e_are_counts := He.glo_ok X G (c.fact 10 (f := .glo "are_counts") rfl)
  obtain ⟨fd_is_form_for, F_is_form_for⟩ := c.def_ 11 (d := d_is_form_for) rfl
  have e_is_form_for := He.glo_ok X G (c.fact 11 (f := .glo "is_form_for") rfl)
  obtain ⟨fd_is_any_form, F_is_any_form⟩ := c.def_ 12 (d := d_is_any_form) rfl
  have e_is_any_form := He.glo_ok X G (c.fact 12 (f := .glo "is_any_form") rfl)
  obtain ⟨fd_check_any_form, F_check_any_form⟩ := c.def_ 13 (d := d_check_any_form) rfl
  have e_check_any_form := He.glo_ok X G (c.fact 13 (f := .glo "check_any_form") rfl)
  obtain ⟨fd_is_point, F_is_point⟩ := c.def_ 14 (d := d_is_point) rfl
  have e_is_point := He.glo_ok X G (c.fact 14 (f := .glo "is_point") rfl)
  obtain ⟨fd_check_point, F_check_point⟩ := c.def_ 15 (d := d_check_point) rfl
  have e_check_point := He.glo_ok X G (c.fact 15 (f := .glo "check_point") rfl)
  obtain ⟨fd_value_at, F_value_at⟩ := c.def_ 16 (d := d_value_at) rfl
  have e_value_at := He.glo_ok X G (c.fact 16 (f := .glo "value_at") rfl)
  obtain ⟨fd_value, F_value⟩ := c.def_ 17 (d := d_value) rfl
  have e_value := He.glo_ok X G (c.fact 17 (f := .glo "value") rfl)
  obtain ⟨fd_law_is_whole, F_law_is_whole⟩ := c.def_ 18 (d := d_law_is_whole) rfl
  have e_law_is_whole := He.glo_ok X G (c.fact 18 (f := .glo "_law_is_whole") rfl)
  obtain ⟨fd_check_two_forms, F_check_two_forms⟩ := c.def_ 19 (d := d_check_two_forms) rfl
  have e_check_two_forms := He.glo_ok X G (c.fact 19 (f := .glo "check_two_forms") rfl)
  obtain ⟨fd_form_sum, F_form_sum⟩ := c.def_ 20 (d := d_form_sum) rfl
  have e_form_sum := He.glo_ok X G (c.fact 20 (f := .glo "form_sum") rfl)
  obtain ⟨fd_added, F_added⟩ := c.def_ 21 (d := d_added) rfl
  have e_added := He.glo_ok X G (c.fact 21 (f := .glo "added") rfl)
  obtain ⟨fd_check_number, F_check_number⟩ := c.def_ 22 (d := d_check_number) rfl
  have e_check_number := He.glo_ok X G (c.fact 22 (f := .glo "check_number") rfl)
  obtain ⟨fd_form_times, F_form_times⟩ := c.def_ 23 (d := d_form_times) rfl
  have e_form_times := He.glo_ok X G (c.fact 23 (f := .glo "form_times") rfl)
  obtain ⟨fd_scaled, F_scaled⟩ := c.def_ 24 (d := d_scaled) rfl
  have e_scaled := He.glo_ok X G (c.fact 24 (f := .glo "scaled") rfl)
  obtain ⟨fd_law_point_above, F_law_point_above⟩ := c.def_ 25 (d := d_law_point_above) rfl
  have e_law_point_above := He.glo_ok X G (c.fact 25 (f := .glo "_law_point_above") rfl)
  obtain ⟨fd_form_below, F_form_below⟩ := c.def_ 26 (d := d_form_below) rfl
  have e_form_below := He.glo_ok X G (c.fact 26 (f := .glo "form_below") rfl)
  obtain ⟨fd_below, F_below⟩ := c.def_ 27 (d := d_below) rfl
  have e_below := He.glo_ok X G (c.fact 27 (f := .glo "below") rfl)
  obtain ⟨fd_law_yes, F_law_yes⟩ := c.def_ 28 (d := d_law_yes) rfl
  have e_law_yes := He.glo_ok X G (c.fact 28 (f := .glo "_law_yes") rfl)
  obtain ⟨fd_check_many, F_check_many⟩ := c.def_ 29 (d := d_check_many) rfl
  have e_check_many := He.glo_ok X G (c.fact 29 (f := .glo "check_many") rfl)
  obtain ⟨fd_check_forms, F_check_forms⟩ := c.def_ 30 (d := d_check_forms) rfl
  have e_check_forms := He.glo_ok X G (c.fact 30 (f := .glo "check_forms") rfl)
  obtain ⟨fd_plain, F_plain⟩ := c.def_ 31 (d := d_plain) rfl
  have e_plain := He.glo_ok X G (c.fact 31 (f := .glo "plain") rfl)
  obtain ⟨fd_form_inserted, F_form_inserted⟩ := c.def_ 32 (d := d_form_inserted) rfl
  have e_form_inserted := He.glo_ok X G (c.fact 32 (f := .glo "form_inserted") rfl)
  obtain ⟨fd_inserted, F_inserted⟩ := c.def_ 33 (d := d_inserted) rfl
  have e_inserted := He.glo_ok X G (c.fact 33 (f := .glo "inserted") rfl)
  obtain ⟨fd_is_form, F_is_form⟩ := c.def_ 34 (d := d_is_form) rfl
  have e_is_form := He.glo_ok X G (c.fact 34 (f := .glo "is_form") rfl)
  obtain ⟨fd_law_right, F_law_right⟩ := c.def_ 35 (d := d_law_right) rfl
  have e_law_right := He.glo_ok X G (c.fact 35 (f := .glo "_law_right") rfl)
  obtain ⟨fd_law, F_law⟩ := c.def_ 36 (d := d_law) rfl
  have e_law := He.glo_ok X G (c.fact 36 (f := .glo "law") rfl)
  have B : Bl mg := ⟨He.free_ok X G (c.fact 37 (f := .free "len") rfl), He.free_ok X G (c.fact 38 (f := .free "sum") rfl), He.free_ok X G (c.fact 39 (f := .free "int") rfl), He.free_ok X G (c.fact 40 (f := .free "max") rfl), He.free_ok X G (c.fact 41 (f := .free "range") rfl), He.free_ok X G (c.fact 42 (f := .free "tuple") rfl), He.free_ok X G (c.fact 43 (f := .free "list") rfl), He.free_ok X G (c.fact 44 (f := .free "zip") rfl), He.free_ok X G (c.fact 45 (f := .free "isinstance") rfl), He.free_ok X G (c.fact 46 (f := .free "bool") rfl), He.free_ok X G (c.fact 47 (f := .free "str") rfl)⟩
  have cMOST_UNKNOWNS0 := He.int_ok X G (c.fact 48 (f := .int "MOST_UNKNOWNS" 3) rfl)
  cases hfa.symm.trans e_law
  have b := FunD.bindsA (ps := P_law) F_law fun _ _ _ _ _ _ us hl => match us, hl with | [_], _ => rfl
  refine ⟨fd_law, fun s v => b s [v] rfl, fun base _ _ => ?_⟩
  have G_law_cell : Has P w K mg base "_law_cell" 1 P_law_cell T_law_cell := ok_law_cell B  F_law_cell e_law_cell (m_law_cell)
  have G_law_generator : Has P w K mg base "_law_generator" 2 P_law_generator T_law_generator := ok_law_generator B G_law_cell F_law_generator e_law_generator (m_law_generator)
  have G_law_hash : Has P w K mg base "_law_hash" 1 P_law_hash T_law_hash := ok_law_hash B  F_law_hash e_law_hash (m_law_hash)
  have G_law_random : Has P w K mg base "_law_random" 2 P_law_random T_law_random := ok_law_random B G_law_hash F_law_random e_law_random (m_law_random)
  have G_law_form : Has P w K mg base "_law_form" 3 P_law_form T_law_form := ok_law_form B G_law_random F_law_form e_law_form (m_law_form)
  have G_law_point : Has P w K mg base "_law_point" 3 P_law_point T_law_point := ok_law_point B G_law_random F_law_point e_law_point (m_law_point)
  have G_law_near : Has P w K mg base "_law_near" 4 P_law_near T_law_near := ok_law_near B G_law_form G_law_random F_law_near e_law_near (m_law_near)
  have G_law_value : Has P w K mg base "_law_value" 1 P_law_value T_law_value := ok_law_value B  F_law_value e_law_value (m_law_value)
  have G_is_whole : Has P w K mg base "is_whole" 1 P_is_whole T_is_whole := ok_is_whole B  F_is_whole e_is_whole (m_is_whole)
  have G_is_between : Has P w K mg base "is_between" 2 P_is_between T_is_between := ok_is_between B G_is_whole F_is_between e_is_between (m_is_between)
  have G_are_counts : Has P w K mg base "are_counts" 3 P_are_counts T_are_counts := ok_are_counts B G_is_between F_are_counts e_are_counts (m_are_counts)
  have G_is_form_for : Has P w K mg base "is_form_for" 4 P_is_form_for T_is_form_for := ok_is_form_for B G_are_counts F_is_form_for e_is_form_for (m_is_form_for)
  have G_is_any_form : Has P w K mg base "is_any_form" 5 P_is_any_form T_is_any_form := ok_is_any_form B cMOST_UNKNOWNS0 G_is_form_for F_is_any_form e_is_any_form (m_is_any_form)
  have G_check_any_form : Has P w K mg base "check_any_form" 6 P_check_any_form T_check_any_form := ok_check_any_form B G_is_any_form F_check_any_form e_check_any_form (m_check_any_form)
  have G_is_point : Has P w K mg base "is_point" 4 P_is_point T_is_point := ok_is_point B G_are_counts F_is_point e_is_point (m_is_point)
  have G_check_point : Has P w K mg base "check_point" 5 P_check_point T_check_point := ok_check_point B G_is_point F_check_point e_check_point (m_check_point)
  have G_value_at : Has P w K mg base "value_at" 1 P_value_at T_value_at := ok_value_at B  F_value_at e_value_at (m_value_at)
  have G_value : Has P w K mg base "value" 7 P_value T_value := ok_value B G_check_any_form G_check_point G_value_at F_value e_value (m_value)
  have G_law_is_whole : Has P w K mg base "_law_is_whole" 1 P_law_is_whole T_law_is_whole := ok_law_is_whole B  F_law_is_whole e_law_is_whole (m_law_is_whole)
  have G_check_two_forms : Has P w K mg base "check_two_forms" 7 P_check_two_forms T_check_two_forms := ok_check_two_forms B G_check_any_form F_check_two_forms e_check_two_forms (m_check_two_forms)
  have G_form_sum : Has P w K mg base "form_sum" 1 P_form_sum T_form_sum := ok_form_sum B  F_form_sum e_form_sum (m_form_sum)
  have G_added : Has P w K mg base "added" 8 P_added T_added := ok_added B G_check_two_forms G_form_sum F_added e_added (m_added)
  have G_check_number : Has P w K mg base "check_number" 3 P_check_number T_check_number := ok_check_number B G_is_between F_check_number e_check_number (m_check_number)
  have G_form_times : Has P w K mg base "form_times" 1 P_form_times T_form_times := ok_form_times B  F_form_times e_form_times (m_form_times)
  have G_scaled : Has P w K mg base "scaled" 7 P_scaled T_scaled := ok_scaled B G_check_number G_check_any_form G_form_times F_scaled e_scaled (m_scaled)
  have G_law_point_above : Has P w K mg base "_law_point_above" 1 P_law_point_above T_law_point_above := ok_law_point_above B  F_law_point_above e_law_point_above (m_law_point_above)
  have G_form_below : Has P w K mg base "form_below" 1 P_form_below T_form_below := ok_form_below B  F_form_below e_form_below (m_form_below)
  have G_below : Has P w K mg base "below" 8 P_below T_below := ok_below B G_check_two_forms G_form_below F_below e_below (m_below)
  have G_law_yes : Has P w K mg base "_law_yes" 1 P_law_yes T_law_yes := ok_law_yes B  F_law_yes e_law_yes (m_law_yes)
  have G_check_many : Has P w K mg base "check_many" 4 P_check_many T_check_many := ok_check_many B cMOST_UNKNOWNS0 G_check_number F_check_many e_check_many (m_check_many)
  have G_check_forms : Has P w K mg base "check_forms" 5 P_check_forms T_check_forms := ok_check_forms B G_is_form_for F_check_forms e_check_forms (m_check_forms)
  have G_plain : Has P w K mg base "plain" 1 P_plain T_plain := ok_plain B  F_plain e_plain (m_plain)
  have G_form_inserted : Has P w K mg base "form_inserted" 2 P_form_inserted T_form_inserted := ok_form_inserted B G_plain G_form_times G_form_sum F_form_inserted e_form_inserted (m_form_inserted)
  have G_inserted : Has P w K mg base "inserted" 7 P_inserted T_inserted := ok_inserted B G_check_any_form G_check_many G_check_forms G_form_inserted F_inserted e_inserted (m_inserted)
  have G_is_form : Has P w K mg base "is_form" 5 P_is_form T_is_form := ok_is_form B G_check_many G_is_form_for F_is_form e_is_form (m_is_form)
  have G_law_right : Has P w K mg base "_law_right" 9 P_law_right T_law_right := ok_law_right B G_law_random G_law_form G_law_point G_law_near G_law_value G_value G_law_is_whole G_added G_scaled G_law_point_above G_below G_law_yes G_inserted G_is_form F_law_right e_law_right (m_law_right)
  exact ok_law B G_law_generator G_law_right F_law e_law (m_law)
end L11
open PySem PySem.W PySem.Calls PyProof.Rows
theorem PySem.Challenge.cw_countreaders_k11_forms_holds : PySem.Challenge.rw_countreaders_k11_forms.Holds := by
  w_on; o_law
  refine HandSHeadRun.head_any (r := OpenLaw.row PySem.Challenge.rw_countreaders_k11_forms) (q := view (OpenLaw.row PySem.Challenge.rw_countreaders_k11_forms).prog [47]) (H := L11.hk) (ob := L11.ob) (M := 8000) (loose := L11.loose) (d := HandSHeadRun.topDef (OpenLaw.row PySem.Challenge.rw_countreaders_k11_forms).prog 47) (kwd := []) L11.ob_eq
    (by kernel_rfl) (fun s => by kernel_rfl) L11.run (by kernel_rfl) (by kernel_rfl) (by kernel_rfl) (by rfl) (by first | assumption | decide +kernel) (by decide +kernel) ⟨rfl, rfl, rfl, rfl, rfl, by decide +kernel⟩ ?hw ?hc
  case hw => w_witness2
  case hc =>
    refine Cr.walk_G (l := PySem.Challenge.rw_countreaders_k11_forms) (n := 63) (k := 10) (x := "script") rfl (by decide) (by kernel_rfl) ⟨rfl, by decide, by decide⟩ ?F
    intro w mg fa h Y G hmg0
    obtain ⟨K, KX, c, hex⟩ := Y
    have hmg : mg ("law" : PySem.Str) = some (.ref fa) := by
      have e : (HandSHeadRun.topDef (OpenLaw.row PySem.Challenge.rw_countreaders_k11_forms).prog 47).name = ("law" : PySem.Str) := by kernel_rfl
      rw [← e]
      exact hmg0
    obtain ⟨fd, hb, hF⟩ := L11.facts (P := (PySem.Challenge.rw_countreaders_k11_forms).prog) (w := w) KX G hmg c hex
    exact ⟨K, fd, Cr.SpD K L11.T_law, KX, hb, fun H a ns hl h2 hS => Cr.law_sp hl h2 hS, hF⟩
