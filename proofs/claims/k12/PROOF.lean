import PyProof.Rows.All
import Wide.All
import OpenK.AllK
import Wide.FinOn
import HandS.ForMost
import HandS.Evl
import PyProof.ListMulRoad
import PyProof.FactsAll.tuple_2
import HandS.Base
import HandS.Call
import HandS.List
import HandS.TupMul
import HandS.Wide
import HandS.WideBits
import HandS.TupAny
import HandS.Style
import HandS.IsInst
import HandS.Flow
import PyProof.StrOps2
import KE.GoesEnumKw
import HandS.RaiseMore
import PyProof.ListStr
import KE.KTupSum
import HandS.Defaults
import HandS.EndBits
import PyProof.ReprRoads
import HandS.Deep
import HandS.Head0
import HandS.Head1
import HandS.Head2
import HandS.HeadEnd
import HandS.HeadHook1
import HandS.HeadHook2
import KE.IntBitsLaws
import PyProof.FitsInt
import PyProof.ReprLoop
import HandS.Text
import HandS.StrMore
import KE.KStateDown
import Lean
import HandS.Ends
import HandS.More
import HandS.Words
import HandS.WordsExc
import PyProof.StrLawsFirst
import PySem.Challenge.RW_countreaders_k12_normal_lists
set_option Elab.async false
set_option linter.all false
set_option maxRecDepth 100000
set_option maxHeartbeats 0
/-! Cr1: data D, how values stand for data (Rp), owned lists (stores), weakest preconditions over data (WE, WA, WT, WS, WI). -/
namespace Cr
open PySem PySem.Spec PyProof.Rows L2

inductive D where
  | non | bl (b : Bool) | int (i : Int) | str (x : Str) | lst (xs : List D) | tup (xs : List D) | ins (C : Addr) (fs : List (Str × D)) | scr (ns : List Int) | ty (n : String)

mutual
inductive Rp (K : PySem.W.Frag) (H : Hp) : V → D → Prop
  | non : Rp K H .non .non
  | bl (b : Bool) : Rp K H (.bl b) (.bl b)
  | int (i : Int) : Rp K H (.int i) (.int i)
  | str (x : Str) : Rp K H (.str x) (.str x)
  | ty (n : String) : Rp K H (.ty n) (.ty n)
  | lst {a : Addr} {xs : List V} {ds : List D} : H a = some (.lst xs) → RpA K H xs ds → Rp K H (.ref a) (.lst ds)
  | tup {a : Addr} {xs : List V} {ds : List D} : SqT K H a xs → RpA K H xs ds → Rp K H (.ref a) (.tup ds)
  | scr {a : Addr} {ns : List Int} : SqL K H a (ns.map V.int) → Rp K H (.ref a) (.scr ns)
  | ins {a C dx : Addr} {fs : List (Str × V)} {ds : List (Str × D)} : H a = some (.ins C dx fs) → RpF K H fs ds → Rp K H (.ref a) (.ins C ds)
inductive RpA (K : PySem.W.Frag) (H : Hp) : List V → List D → Prop
  | nil : RpA K H [] []
  | cons {v : V} {vs : List V} {d : D} {ds : List D} : Rp K H v d → RpA K H vs ds → RpA K H (v :: vs) (d :: ds)
inductive RpF (K : PySem.W.Frag) (H : Hp) : List (Str × V) → List (Str × D) → Prop
  | nil : RpF K H [] []
  | cons {x : Str} {v : V} {vs : List (Str × V)} {d : D} {ds : List (Str × D)} : Rp K H v d → RpF K H vs ds → RpF K H ((x, v) :: vs) ((x, d) :: ds)
end

section
variable {K : PySem.W.Frag} {H H' : Hp}
mutual
theorem Rp.mono (e : Evl.Ex H H') : ∀ {v : V} {d : D}, Rp K H v d → Rp K H' v d
  | _, _, .non => .non
  | _, _, .bl b => .bl b
  | _, _, .int i => .int i
  | _, _, .str x => .str x
  | _, _, .ty n => .ty n
  | _, _, .lst h a => .lst (e _ _ h) (RpA.mono e a)
  | _, _, .scr h => .scr (Evl.ex_l e h)
  | _, _, .tup h a => .tup (Evl.ex_t e h) (RpA.mono e a)
  | _, _, .ins h a => .ins (e _ _ h) (RpF.mono e a)
theorem RpA.mono (e : Evl.Ex H H') : ∀ {vs : List V} {ds : List D}, RpA K H vs ds → RpA K H' vs ds
  | _, _, .nil => .nil
  | _, _, .cons h t => .cons (Rp.mono e h) (RpA.mono e t)
theorem RpF.mono (e : Evl.Ex H H') : ∀ {vs : List (Str × V)} {ds : List (Str × D)}, RpF K H vs ds → RpF K H' vs ds
  | _, _, .nil => .nil
  | _, _, .cons h t => .cons (Rp.mono e h) (RpF.mono e t)
end
theorem RpA.length : ∀ {vs : List V} {ds : List D}, RpA K H vs ds → vs.length = ds.length
  | _, _, .nil => rfl
  | _, _, .cons _ t => congrArg (· + 1) (RpA.length t)
theorem RpA.append : ∀ {vs ws : List V} {ds es : List D}, RpA K H vs ds → RpA K H ws es → RpA K H (vs ++ ws) (ds ++ es)
  | _, _, _, _, .nil, s => s
  | _, _, _, _, .cons h t, s => .cons h (RpA.append t s)
theorem RpA.get : ∀ {vs : List V} {ds : List D} {i : Nat} {d : D}, RpA K H vs ds → ds[i]? = some d → ∃ v, vs[i]? = some v ∧ Rp K H v d
  | _, _, _, _, .nil, e => by simp at e
  | _, _, 0, _, .cons h _, e => by simp at e; subst e; exact ⟨_, rfl, h⟩
  | _, _, i + 1, d, .cons _ t, e => by
    obtain ⟨v, h1, h2⟩ := RpA.get (i := i) (d := d) t (by simpa using e)
    exact ⟨v, by simpa using h1, h2⟩
theorem RpA.get2 : ∀ {vs : List V} {ds : List D} {i : Nat} {v : V}, RpA K H vs ds → vs[i]? = some v → ∃ d, ds[i]? = some d ∧ Rp K H v d
  | _, _, _, _, .nil, e => by simp at e
  | _, _, 0, _, .cons h _, e => by simp at e; subst e; exact ⟨_, rfl, h⟩
  | _, _, i + 1, d, .cons _ t, e => by
    obtain ⟨v, h1, h2⟩ := RpA.get2 (i := i) t (by simpa using e)
    exact ⟨v, by simpa using h1, h2⟩
theorem RpA.take : ∀ {vs : List V} {ds : List D} (n : Nat), RpA K H vs ds → RpA K H (vs.take n) (ds.take n)
  | _, _, 0, _ => .nil
  | _, _, _ + 1, .nil => .nil
  | _, _, n + 1, .cons h t => .cons h (RpA.take n t)
theorem RpA.drop : ∀ {vs : List V} {ds : List D} (n : Nat), RpA K H vs ds → RpA K H (vs.drop n) (ds.drop n)
  | _, _, 0, r => r
  | _, _, _ + 1, .nil => .nil
  | _, _, n + 1, .cons _ t => RpA.drop n t
theorem RpA.set {v : V} {d : D} (r : Rp K H v d) : ∀ {vs : List V} {ds : List D} (i : Nat), RpA K H vs ds → RpA K H (vs.set i v) (ds.set i d)
  | _, _, _, .nil => .nil
  | _, _, 0, .cons _ t => .cons r t
  | _, _, i + 1, .cons q t => .cons q (RpA.set r i t)
theorem RpA.ints : ∀ {vs : List V} {ns : List Int}, RpA K H vs (ns.map D.int) → vs = ns.map V.int
  | _, [], .nil => rfl
  | _, n :: ns, .cons h t => by
    cases h
    rw [RpA.ints t]
    rfl
theorem RpA.of_ints : ∀ (ns : List Int), RpA K H (ns.map V.int) (ns.map D.int)
  | [] => .nil
  | n :: ns => .cons (.int n) (RpA.of_ints ns)
end

/-! ### owned lists: a store tells which lists are owned and what they hold -/
abbrev Sto := Addr → Option (List D)
abbrev Dm := Addr → Bool
def dom (m : Sto) : Dm := fun a => (m a).isSome
def stS (m : Sto) (p : Addr) (ds : List D) : Sto := fun a => if a = p then some ds else m a
def stD (m : Sto) (p : Addr) : Sto := fun a => if a = p then none else m a
def hid (M : Dm) (H : Hp) : Hp := fun a => if M a = true then none else H a
theorem stS_same {m : Sto} {p : Addr} {ds : List D} : stS m p ds p = some ds := if_pos rfl
theorem stS_ne {m : Sto} {p a : Addr} {ds : List D} (h : a ≠ p) : stS m p ds a = m a := if_neg h
theorem stS_stS {m : Sto} {p : Addr} {ds es : List D} : stS (stS m p ds) p es = stS m p es := by
  funext a; unfold stS; split <;> rfl
theorem stS_comm {m : Sto} {p q : Addr} {ds es : List D} (h : p ≠ q) : stS (stS m p ds) q es = stS (stS m q es) p ds := by
  funext a; unfold stS
  by_cases h1 : a = q
  · rw [if_pos h1, if_neg (fun e => h (e.symm.trans h1)), if_pos h1]
  · rw [if_neg h1]
    by_cases h2 : a = p
    · rw [if_pos h2, if_pos h2]
    · rw [if_neg h2, if_neg h2, if_neg h1]
theorem stD_stS {m : Sto} {p : Addr} {ds : List D} (h : m p = none) : stD (stS m p ds) p = m := by
  funext a; unfold stD stS
  by_cases q : a = p
  · rw [if_pos q, q, h]
  · rw [if_neg q, if_neg q]
theorem stS_self {m : Sto} {p : Addr} {ds : List D} (h : m p = some ds) : stS m p ds = m := by
  funext a; unfold stS
  by_cases q : a = p
  · rw [if_pos q, q, h]
  · rw [if_neg q]
theorem dom_some {m : Sto} {a : Addr} {ds : List D} (h : m a = some ds) : dom m a = true := by unfold dom; rw [h]; rfl
theorem dom_none {m : Sto} {a : Addr} : dom m a = false ↔ m a = none := by
  unfold dom
  cases m a <;> simp
theorem dom_true {m : Sto} {a : Addr} (h : dom m a = true) : ∃ ds, m a = some ds := by
  unfold dom at h
  cases e : m a with
  | none => rw [e] at h; cases h
  | some ds => exact ⟨ds, rfl⟩
theorem dom_stS {m : Sto} {p : Addr} {ds es : List D} (h : m p = some es) : dom (stS m p ds) = dom m := by
  funext a; unfold dom stS
  by_cases q : a = p
  · rw [if_pos q, q, h]; rfl
  · rw [if_neg q]
theorem hid_out {M : Dm} {H : Hp} {a : Addr} (h : M a = false) : hid M H a = H a := if_neg (by rw [h]; exact Bool.false_ne_true)
theorem hid_some {M : Dm} {H : Hp} {a : Addr} {o : HO} (h : hid M H a = some o) : M a = false ∧ H a = some o := by
  unfold hid at h
  cases q : M a with
  | true => rw [q, if_pos rfl] at h; cases h
  | false => rw [q, if_neg Bool.false_ne_true] at h; exact ⟨rfl, h⟩
theorem hid_ex {M : Dm} {H : Hp} : Evl.Ex (hid M H) H := fun a o h => (hid_some h).2
theorem hid_sub {M N : Dm} {H : Hp} (s : ∀ a, M a = true → N a = true) : Evl.Ex (hid N H) (hid M H) := fun a o h => by
  obtain ⟨h1, h2⟩ := hid_some h
  have h3 : M a = false := by
    cases q : M a with
    | false => rfl
    | true => rw [s a q] at h1; cases h1
  rw [hid_out h3]
  exact h2

inductive Sv where
  | val (d : D) | adr (a : Addr)
abbrev Ro := List (Option Sv)

def RpS (K : PySem.W.Frag) (M : Dm) (H : Hp) : V → Sv → Prop
  | v, .val d => Rp K (hid M H) v d
  | v, .adr a => v = .ref a ∧ M a = true
def EnvOk (K : PySem.W.Frag) (M : Dm) (H : Hp) (σ : L2.St) (r : Ro) : Prop :=
  σ.length = r.length ∧ ∀ (i : Nat) (s : Sv), r[i]? = some (some s) → ∃ v, σ[i]? = some (some v) ∧ RpS K M H v s
def StoOk (K : PySem.W.Frag) (H : Hp) (m : Sto) : Prop :=
  ∀ a ds, m a = some ds → ∃ xs, H a = some (.lst xs) ∧ RpA K (hid (dom m) H) xs ds
/-- how the heap and the owned lists may move on -/
structure Xt (M : Dm) (H : Hp) (M' : Dm) (H' : Hp) : Prop where
  ex : Evl.Ex (hid M H) (hid M' H')
  al : ∀ a, H a ≠ none → H' a ≠ none
  dm : ∀ a, M a = true → M' a = true
  nw : ∀ a, M' a = true → M a = true ∨ H a = none

section
variable {K : PySem.W.Frag} {M M' M2 : Dm} {H H' H2 : Hp} {σ : L2.St} {r : Ro} {m m' : Sto}
theorem Xt.refl : Xt M H M H := ⟨fun _ _ h => h, fun _ h => h, fun _ h => h, fun _ h => .inl h⟩
theorem Xt.trans (a : Xt M H M' H') (b : Xt M' H' M2 H2) : Xt M H M2 H2 :=
  ⟨a.ex.trans b.ex, fun x h => b.al x (a.al x h), fun x h => b.dm x (a.dm x h), fun x h => by
    rcases b.nw x h with q | q
    · exact a.nw x q
    · right
      cases e : H x with
      | none => rfl
      | some o => exact absurd q (a.al x (by rw [e]; simp))⟩
theorem RpS.mono {v : V} {s : Sv} (x : Xt M H M' H') (h : RpS K M H v s) : RpS K M' H' v s := by
  cases s with
  | val d => exact Rp.mono x.ex h
  | adr a => exact ⟨h.1, x.dm _ h.2⟩
theorem EnvOk.mono (x : Xt M H M' H') (h : EnvOk K M H σ r) : EnvOk K M' H' σ r :=
  ⟨h.1, fun i s e => by
    obtain ⟨v, h1, h2⟩ := h.2 i s e
    exact ⟨v, h1, h2.mono x⟩⟩
theorem upd_al {p : Addr} {o : HO} : ∀ a, H a ≠ none → upd H p o a ≠ none := fun a e => by
  by_cases q : a = p
  · rw [q, upd_same]; simp
  · rw [upd_ne q]; exact e
/-- a new object, untouched by what is owned -/
theorem Xt.new {p : Addr} {o : HO} (h : H p = none) : Xt M H M (upd H p o) :=
  ⟨fun a u e => by
    obtain ⟨h1, h2⟩ := hid_some e
    rw [hid_out h1, upd_ne (ne_of_none h2 h)]
    exact h2, upd_al, fun _ q => q, fun _ q => .inl q⟩
/-- a new object that becomes owned -/
theorem Xt.own {p : Addr} {o : HO} {ds : List D} (h : H p = none) : Xt (dom m) H (dom (stS m p ds)) (upd H p o) :=
  ⟨fun a u e => by
    obtain ⟨h1, h2⟩ := hid_some e
    have np : a ≠ p := ne_of_none h2 h
    rw [hid_out (by rw [dom_none, stS_ne np]; exact dom_none.mp h1), upd_ne np]
    exact h2, upd_al, fun a q => by
    by_cases z : a = p
    · rw [z]; exact dom_some stS_same
    · obtain ⟨es, e⟩ := dom_true q
      exact dom_some (by rw [stS_ne z]; exact e), fun a q => by
    by_cases z : a = p
    · right; rw [z]; exact h
    · left
      obtain ⟨es, e⟩ := dom_true q
      rw [stS_ne z] at e
      exact dom_some e⟩
/-- an owned list is written -/
theorem Xt.wr {p : Addr} {o : HO} (hM : M p = true) : Xt M H M (upd H p o) :=
  ⟨fun a u e => by
    obtain ⟨h1, h2⟩ := hid_some e
    rw [hid_out h1, upd_ne (fun q => by rw [q, hM] at h1; cases h1)]
    exact h2, upd_al, fun _ q => q, fun _ q => .inl q⟩
/-- an owned list is let free -/
theorem Xt.frz {p : Addr} (hp : M p = false) (x : Xt M H (dom m) H') : Xt M H (dom (stD m p)) H' :=
  ⟨x.ex.trans (hid_sub fun a q => by
    obtain ⟨es, e⟩ := dom_true q
    unfold stD at e
    by_cases z : a = p
    · rw [if_pos z] at e; cases e
    · rw [if_neg z] at e; exact dom_some e), x.al, fun a q => by
    have z : a ≠ p := fun e => by rw [e, hp] at q; cases q
    obtain ⟨es, e⟩ := dom_true (x.dm a q)
    exact dom_some (show stD m p a = some es by unfold stD; rw [if_neg z]; exact e), fun a q => by
    obtain ⟨es, e⟩ := dom_true q
    unfold stD at e
    by_cases z : a = p
    · rw [if_pos z] at e; cases e
    · rw [if_neg z] at e; exact x.nw a (dom_some e)⟩
theorem StoOk.notin {p : Addr} (h : StoOk K H m) (e : H p = none) : m p = none := by
  cases q : m p with
  | none => rfl
  | some ds =>
    obtain ⟨xs, h1, _⟩ := h p ds q
    rw [e] at h1; cases h1
theorem StoOk.some {p : Addr} (h : StoOk K H m) (e : dom m p = true) : ∃ xs, H p = some (.lst xs) := by
  obtain ⟨ds, q⟩ := dom_true e
  obtain ⟨xs, h1, _⟩ := h p ds q
  exact ⟨xs, h1⟩
theorem StoOk.keep (h : StoOk K H m) (x : Xt (dom m) H (dom m) H') (k : ∀ a, dom m a = true → H' a = H a) : StoOk K H' m :=
  fun a ds e => by
    obtain ⟨xs, h1, h2⟩ := h a ds e
    exact ⟨xs, by rw [k a (dom_some e)]; exact h1, h2.mono x.ex⟩
theorem StoOk.new {p : Addr} {o : HO} (h : StoOk K H m) (e : H p = none) : StoOk K (upd H p o) m :=
  h.keep (Xt.new e) fun a ha => by
    obtain ⟨xs, q⟩ := h.some ha
    rw [upd_ne (ne_of_none q e)]
theorem StoOk.own {p : Addr} {xs : List V} {ds : List D} (h : StoOk K H m) (e : H p = none) (ra : RpA K (hid (dom m) H) xs ds) : StoOk K (upd H p (.lst xs)) (stS m p ds) := by
  have x : Xt (dom m) H (dom (stS m p ds)) (upd H p (.lst xs)) := Xt.own e
  intro a es q
  by_cases z : a = p
  · rw [z, stS_same] at q
    cases q
    exact ⟨xs, by rw [z]; exact upd_same, ra.mono x.ex⟩
  · rw [stS_ne z] at q
    obtain ⟨ys, h1, h2⟩ := h a es q
    exact ⟨ys, by rw [upd_ne z]; exact h1, h2.mono x.ex⟩
/-- an owned list is written -/
theorem StoOk.wr {p : Addr} {xs : List V} {ds es : List D} (h : StoOk K H m) (e : m p = .some es) (ra : RpA K (hid (dom m) H) xs ds) : StoOk K (upd H p (.lst xs)) (stS m p ds) := by
  have x : Xt (dom m) H (dom m) (upd H p (.lst xs)) := Xt.wr (dom_some e)
  intro a fs q
  rw [dom_stS e]
  by_cases z : a = p
  · rw [z, stS_same] at q
    cases q
    exact ⟨xs, by rw [z]; exact upd_same, ra.mono x.ex⟩
  · rw [stS_ne z] at q
    obtain ⟨ys, h1, h2⟩ := h a fs q
    exact ⟨ys, by rw [upd_ne z]; exact h1, h2.mono x.ex⟩
theorem stD_sub {p : Addr} : ∀ a, dom (stD m p) a = true → dom m a = true := fun a q => by
  obtain ⟨es, e⟩ := dom_true q
  unfold stD at e
  by_cases z : a = p
  · rw [if_pos z] at e; cases e
  · rw [if_neg z] at e; exact dom_some e
theorem StoOk.frz {p : Addr} {ds : List D} (h : StoOk K H m) (e : m p = .some ds) : StoOk K H (stD m p) ∧ Rp K (hid (dom (stD m p)) H) (.ref p) (.lst ds) := by
  have s : Evl.Ex (hid (dom m) H) (hid (dom (stD m p)) H) := hid_sub stD_sub
  refine ⟨fun a es q => ?_, ?_⟩
  · have q' : (if a = p then none else m a) = .some es := q
    by_cases z : a = p
    · rw [if_pos z] at q'; cases q'
    · rw [if_neg z] at q'
      obtain ⟨xs, h1, h2⟩ := h a es q'
      exact ⟨xs, h1, h2.mono s⟩
  · obtain ⟨xs, h1, h2⟩ := h p ds e
    exact .lst (by rw [hid_out (dom_none.mpr (if_pos rfl))]; exact h1) (h2.mono s)
end

/-! ### what is read -/
def vw (m : Sto) : Sv → Option D
  | .val d => some d
  | .adr a => (m a).map D.lst
def RpW (K : PySem.W.Frag) (M : Dm) (H : Hp) (v : V) (d : D) : Prop :=
  Rp K (hid M H) v d ∨ ∃ a xs ds, v = .ref a ∧ d = .lst ds ∧ H a = some (.lst xs) ∧ RpA K (hid M H) xs ds
theorem RpW.of {K : PySem.W.Frag} {H : Hp} {m : Sto} {v : V} {s : Sv} {d : D} (h : RpS K (dom m) H v s) (st : StoOk K H m) (e : vw m s = some d) : RpW K (dom m) H v d := by
  cases s with
  | val d' =>
    cases e
    exact .inl h
  | adr a =>
    obtain ⟨rfl, _⟩ := h
    have e : (m a).map D.lst = some d := e
    cases q : m a with
    | none => rw [q] at e; cases e
    | some ds =>
      rw [q] at e
      obtain ⟨xs, h1, h2⟩ := st a ds q
      exact .inr ⟨a, xs, ds, rfl, (Option.some.inj e).symm, h1, h2⟩
theorem RpW.lst {K : PySem.W.Frag} {M : Dm} {H : Hp} {v : V} {ds : List D} (h : RpW K M H v (.lst ds)) : ∃ a xs, v = .ref a ∧ H a = some (.lst xs) ∧ RpA K (hid M H) xs ds := by
  rcases h with h | ⟨a, xs, ds', rfl, e, h1, h2⟩
  · cases h with
    | lst q ra => exact ⟨_, _, rfl, (hid_some q).2, ra⟩
  · cases e
    exact ⟨a, xs, rfl, h1, h2⟩
theorem RpW.tup {K : PySem.W.Frag} {M : Dm} {H : Hp} {v : V} {ds : List D} (h : RpW K M H v (.tup ds)) : ∃ a xs, v = .ref a ∧ SqT K (hid M H) a xs ∧ RpA K (hid M H) xs ds := by
  rcases h with h | ⟨a, xs, ds', rfl, e, h1, h2⟩
  · cases h with
    | tup q ra => exact ⟨_, _, rfl, q, ra⟩
  · cases e
theorem RpW.rp {K : PySem.W.Frag} {M : Dm} {H : Hp} {v : V} {d : D} (h : RpW K M H v d) : Rp K H v d := by
  rcases h with h | ⟨a, xs, ds', rfl, rfl, h1, h2⟩
  · exact Rp.mono hid_ex h
  · exact .lst h1 (h2.mono hid_ex)
theorem RpW.int {K : PySem.W.Frag} {M : Dm} {H : Hp} {v : V} {i : Int} (h : RpW K M H v (.int i)) : v = .int i := by
  cases h.rp; rfl
theorem RpW.bl {K : PySem.W.Frag} {M : Dm} {H : Hp} {v : V} {i : Bool} (h : RpW K M H v (.bl i)) : v = .bl i := by
  cases h.rp; rfl
theorem RpW.str {K : PySem.W.Frag} {M : Dm} {H : Hp} {v : V} {i : Str} (h : RpW K M H v (.str i)) : v = .str i := by
  cases h.rp; rfl
theorem RpW.non {K : PySem.W.Frag} {M : Dm} {H : Hp} {v : V} (h : RpW K M H v .non) : v = .non := by
  cases h.rp; rfl

/-! ### weakest preconditions over data -/
def WE (K : PySem.W.Frag) (r : Ro) (m : Sto) (te : TE) (Q : Sv → Sto → Prop) : Prop :=
  ∀ (σ : L2.St) (H : Hp) (QV : VK), EnvOk K (dom m) H σ r → StoOk K H m →
    (∀ v H' s m', Xt (dom m) H (dom m') H' → StoOk K H' m' → RpS K (dom m') H' v s → Q s m' → QV v H') → te σ H QV
def RpSs (K : PySem.W.Frag) (M : Dm) (H : Hp) : List V → List Sv → Prop := Paired (RpS K M H)
def WA (K : PySem.W.Frag) (r : Ro) (m : Sto) (ta : TA) (Q : List Sv → Sto → Prop) : Prop :=
  ∀ (σ : L2.St) (H : Hp) (QV : List V → Hp → Prop), EnvOk K (dom m) H σ r → StoOk K H m →
    (∀ vs H' ss m', Xt (dom m) H (dom m') H' → StoOk K H' m' → RpSs K (dom m') H' vs ss → Q ss m' → QV vs H') → ta σ H QV
def WT (K : PySem.W.Frag) (r : Ro) (m : Sto) (tt : TT) (Q : Bool → Sto → Prop) : Prop :=
  ∀ (σ : L2.St) (H : Hp) (QV : Bool → Hp → Prop), EnvOk K (dom m) H σ r → StoOk K H m →
    (∀ b H' m', Xt (dom m) H (dom m') H' → StoOk K H' m' → Q b m' → QV b H') → tt σ H QV
structure Eds where
  nx : Ro → Sto → Prop
  rt : Sv → Sto → Prop
  bk : Ro → Sto → Prop := fun _ _ => False
  ct : Ro → Sto → Prop := fun _ _ => False
structure EdOk (K : PySem.W.Frag) (M : Dm) (H : Hp) (D' : Ends) (P : Eds) : Prop where
  nx : ∀ σ' H' r' m', Xt M H (dom m') H' → StoOk K H' m' → EnvOk K (dom m') H' σ' r' → P.nx r' m' → D'.nx σ' H'
  rt : ∀ v H' s m', Xt M H (dom m') H' → StoOk K H' m' → RpS K (dom m') H' v s → P.rt s m' → D'.rt v H'
  bk : ∀ σ' H' r' m', Xt M H (dom m') H' → StoOk K H' m' → EnvOk K (dom m') H' σ' r' → P.bk r' m' → D'.bk σ' H'
  ct : ∀ σ' H' r' m', Xt M H (dom m') H' → StoOk K H' m' → EnvOk K (dom m') H' σ' r' → P.ct r' m' → D'.ct σ' H'
/-- M: the domain at the entry of the def, of the loop's turn -/
def WS (K : PySem.W.Frag) (M : Dm) (r : Ro) (m : Sto) (ts : TS) (P : Eds) : Prop :=
  ∀ (σ : L2.St) (H H0 : Hp) (D' : Ends), EnvOk K (dom m) H σ r → StoOk K H m → Xt M H0 (dom m) H → EdOk K M H0 D' P → ts D' σ H
/-- a target that writes the slots js alone -/
def WG (K : PySem.W.Frag) (g : TG) (js : List Nat) (s : Sv) (r : Ro) (m : Sto) (Q : Ro → Prop) : Prop :=
  ∀ (v : V) (σ : L2.St) (H : Hp) (QV : L2.St → Hp → Prop), EnvOk K (dom m) H σ r → StoOk K H m → RpS K (dom m) H v s →
    (∀ σ' r', EnvOk K (dom m) H σ' r' → σ'.length = σ.length → (∀ j, j ∉ js → σ'[j]? = σ[j]?) → Q r' → QV σ' H) → g v σ H QV
/-- what is walked yields the data ds -/
structure ItOk (K : PySem.W.Frag) (M : Dm) (J : It) (H0 : Hp) (ds : List D) : Prop where
  go : ∀ i M' H, Xt M H0 M' H → i < ds.length → J.go i H
  yl : ∀ i M' H v H' d, (∀ a, M' a = true → H a ≠ none) → Xt M H0 M' H → ds[i]? = some d → J.yld i H v H' → Xt M' H M' H' ∧ (∀ a, M' a = true → H' a = H a) ∧ Rp K (hid M' H') v d
  st : ∀ M' H, Xt M H0 M' H → J.stop ds.length H
def WI (K : PySem.W.Frag) (r : Ro) (m : Sto) (wi : TI) (Q : List D → Sto → Prop) : Prop :=
  ∀ (σ : L2.St) (H : Hp) (R : It → Hp → Prop), EnvOk K (dom m) H σ r → StoOk K H m →
    (∀ J H' ds m', Xt (dom m) H (dom m') H' → StoOk K H' m' → ItOk K (dom m') J H' ds → Q ds m' → R J H') → wi σ H R

section
variable {K : PySem.W.Frag} {r : Ro} {m : Sto}
theorem EdOk.mono {M M' : Dm} {H H' : Hp} {D' : Ends} {P : Eds} (x : Xt M H M' H') (h : EdOk K M H D' P) : EdOk K M' H' D' P :=
  ⟨fun σ' H2 r' m2 y => h.nx σ' H2 r' m2 (x.trans y), fun v H2 s m2 y => h.rt v H2 s m2 (x.trans y), fun σ' H2 r' m2 y => h.bk σ' H2 r' m2 (x.trans y), fun σ' H2 r' m2 y => h.ct σ' H2 r' m2 (x.trans y)⟩
theorem WE.imp {te : TE} {Q Q' : Sv → Sto → Prop} (h : WE K r m te Q) (i : ∀ s m', Q s m' → Q' s m') : WE K r m te Q' :=
  fun σ H QV e st k => h σ H QV e st fun v H' s m' x so rs q => k v H' s m' x so rs (i s m' q)
theorem WT.imp {te : TT} {Q Q' : Bool → Sto → Prop} (h : WT K r m te Q) (i : ∀ s m', Q s m' → Q' s m') : WT K r m te Q' :=
  fun σ H QV e st k => h σ H QV e st fun v H' m' x so q => k v H' m' x so (i v m' q)

/-! expressions -/
theorem we_var {i : Nat} {s : Sv} {Q : Sv → Sto → Prop} (h : r[i]? = some (some s)) (q : Q s m) : WE K r m (tVar i) Q := fun σ H QV e st k => by
  obtain ⟨v, h1, h2⟩ := e.2 i s h
  exact ⟨v, h1, k v H s m Xt.refl st h2 q⟩
theorem we_c {v : V} {d : D} {Q : Sv → Sto → Prop} (h : ∀ H, Rp K H v d) (q : Q (.val d) m) : WE K r m (tC v) Q := fun σ H QV e st k => k v H (.val d) m Xt.refl st (h _) q
theorem we_int {i : Int} {Q : Sv → Sto → Prop} (q : Q (.val (.int i)) m) : WE K r m (tC (.int i)) Q := we_c (fun _ => .int i) q
theorem we_str {i : Str} {Q : Sv → Sto → Prop} (q : Q (.val (.str i)) m) : WE K r m (tC (.str i)) Q := we_c (fun _ => .str i) q
theorem we_bl {i : Bool} {Q : Sv → Sto → Prop} (q : Q (.val (.bl i)) m) : WE K r m (tC (.bl i)) Q := we_c (fun _ => .bl i) q
theorem we_non {Q : Sv → Sto → Prop} (q : Q (.val .non) m) : WE K r m (tC .non) Q := we_c (fun _ => .non) q

theorem wa_nil {Q : List Sv → Sto → Prop} (q : Q [] m) : WA K r m tNil Q := fun σ H QV e st k => k [] H [] m Xt.refl st .nil q
theorem RpSs.mono {M M' : Dm} {H H' : Hp} (x : Xt M H M' H') : ∀ {vs : List V} {ss : List Sv}, RpSs K M H vs ss → RpSs K M' H' vs ss
  | _, _, .nil => .nil
  | _, _, .cons h t => .cons (h.mono x) (RpSs.mono x t)
theorem wa_cons {ta : TE} {tr : TA} {Q : List Sv → Sto → Prop} (h : WE K r m ta fun s m1 => WA K r m1 tr fun ss m2 => Q (s :: ss) m2) : WA K r m (tCons ta tr) Q := fun σ H QV e st k =>
  h σ H _ e st fun v H1 s m1 x1 so1 rs1 q1 => q1 σ H1 _ (e.mono x1) so1 fun vs H2 ss m2 x2 so2 rs2 q2 =>
    k (v :: vs) H2 (s :: ss) m2 (x1.trans x2) so2 (.cons (rs1.mono x2) rs2) q2

/-! tests -/
theorem wt_val {te : TE} {Q : Bool → Sto → Prop} (h : WE K r m te fun s m1 => ∃ b, s = .val (.bl b) ∧ Q b m1) : WT K r m (tB te) Q := fun σ H QV e st k =>
  h σ H _ e st fun v H1 s m1 x1 so1 rs1 ⟨b, es, q⟩ => by
    subst es
    have rs2 : Rp K (hid (dom m1) H1) v (.bl b) := rs1
    cases rs2
    exact ⟨b, rfl, k b H1 m1 x1 so1 q⟩
theorem wt_test {te : TE} {Q : Bool → Sto → Prop} (h : WE K r m te fun s m1 => ∃ b, s = .val (.bl b) ∧ Q b m1) : WT K r m (tTest te) Q := wt_val h
theorem wt_and {t u : TT} {Q : Bool → Sto → Prop} (h : WT K r m t fun b m1 => if b = true then WT K r m1 u Q else Q false m1) : WT K r m (tAnd t u) Q := fun σ H QV e st k =>
  h σ H _ e st fun b H1 m1 x1 so1 q => by
    cases b with
    | true => exact (if_pos rfl).mpr ((show WT K r m1 u Q from q) σ H1 QV (e.mono x1) so1 fun b H2 m2 x2 so2 q2 => k b H2 m2 (x1.trans x2) so2 q2)
    | false => exact k false H1 m1 x1 so1 q
theorem wt_or {t u : TT} {Q : Bool → Sto → Prop} (h : WT K r m t fun b m1 => if b = true then Q true m1 else WT K r m1 u Q) : WT K r m (tOr t u) Q := fun σ H QV e st k =>
  h σ H _ e st fun b H1 m1 x1 so1 q => by
    cases b with
    | true => exact k true H1 m1 x1 so1 q
    | false => exact (show WT K r m1 u Q from q) σ H1 QV (e.mono x1) so1 fun b H2 m2 x2 so2 q2 => k b H2 m2 (x1.trans x2) so2 q2
theorem wt_not {t : TT} {Q : Bool → Sto → Prop} (h : WT K r m t fun b m1 => Q (!b) m1) : WT K r m (tNot t) Q := fun σ H QV e st k =>
  h σ H _ e st fun b H1 m1 x1 so1 q => k _ H1 m1 x1 so1 q
theorem we_andV {ta tb : TE} {Q : Sv → Sto → Prop} (h : WE K r m ta fun s m1 => ∃ b, s = .val (.bl b) ∧ if b = true then WE K r m1 tb Q else Q (.val (.bl false)) m1) : WE K r m (tAndV ta tb) Q := fun σ H QV e st k =>
  h σ H _ e st fun v H1 s m1 x1 so1 rs1 ⟨b, es, q⟩ => by
    subst es
    have rs2 : Rp K (hid (dom m1) H1) v (.bl b) := rs1
    cases rs2
    refine ⟨b, rfl, ?_⟩
    cases b with
    | true => exact (show WE K r m1 tb Q from q) σ H1 QV (e.mono x1) so1 fun v H2 s m2 x2 so2 r2 q2 => k v H2 s m2 (x1.trans x2) so2 r2 q2
    | false => exact k _ H1 (.val (.bl false)) m1 x1 so1 (show Rp _ _ _ _ from .bl false) q
theorem we_orV {ta tb : TE} {Q : Sv → Sto → Prop} (h : WE K r m ta fun s m1 => ∃ b, s = .val (.bl b) ∧ if b = true then Q (.val (.bl true)) m1 else WE K r m1 tb Q) : WE K r m (tOrV ta tb) Q := fun σ H QV e st k =>
  h σ H _ e st fun v H1 s m1 x1 so1 rs1 ⟨b, es, q⟩ => by
    subst es
    have rs2 : Rp K (hid (dom m1) H1) v (.bl b) := rs1
    cases rs2
    refine ⟨b, rfl, ?_⟩
    cases b with
    | true => exact k _ H1 (.val (.bl true)) m1 x1 so1 (show Rp _ _ _ _ from .bl true) q
    | false => exact (show WE K r m1 tb Q from q) σ H1 QV (e.mono x1) so1 fun v H2 s m2 x2 so2 r2 q2 => k v H2 s m2 (x1.trans x2) so2 r2 q2
theorem we_notV {ta : TE} {Q : Sv → Sto → Prop} (h : WE K r m ta fun s m1 => ∃ b, s = .val (.bl b) ∧ Q (.val (.bl !b)) m1) : WE K r m (tNotV ta) Q := fun σ H QV e st k =>
  h σ H _ e st fun v H1 s m1 x1 so1 rs1 ⟨b, es, q⟩ => by
    subst es
    have rs2 : Rp K (hid (dom m1) H1) v (.bl b) := rs1
    cases rs2
    exact ⟨b, rfl, k _ H1 (.val (.bl !b)) m1 x1 so1 (show Rp _ _ _ _ from .bl _) q⟩
theorem we_if {t : TT} {ta tb : TE} {Q : Sv → Sto → Prop} (h : WT K r m t fun b m1 => if b = true then WE K r m1 ta Q else WE K r m1 tb Q) : WE K r m (tIf t ta tb) Q := fun σ H QV e st k =>
  h σ H _ e st fun b H1 m1 x1 so1 q => by
    cases b with
    | true => exact (show WE K r m1 ta Q from q) σ H1 QV (e.mono x1) so1 fun v H2 s m2 x2 so2 r2 q2 => k v H2 s m2 (x1.trans x2) so2 r2 q2
    | false => exact (show WE K r m1 tb Q from q) σ H1 QV (e.mono x1) so1 fun v H2 s m2 x2 so2 r2 q2 => k v H2 s m2 (x1.trans x2) so2 r2 q2

/-! displays -/
theorem vals_of {M : Dm} {H : Hp} : ∀ {vs : List V} {ss : List Sv} {ds : List D}, RpSs K M H vs ss → ss = ds.map Sv.val → RpA K (hid M H) vs ds
  | _, _, [], .nil, _ => .nil
  | _, _, [], .cons _ _, e => by cases e
  | _, _, _ :: _, .nil, e => by cases e
  | _, _, d :: ds, .cons h t, e => by
    injection e with e1 e2
    subst e1
    exact .cons h (vals_of t e2)
theorem we_tup {t : TA} {Q : Sv → Sto → Prop} (h : WA K r m t fun ss m1 => ∃ ds : List D, ss = ds.map Sv.val ∧ ds.length ≤ 100000 ∧ Q (.val (.tup ds)) m1) : WE K r m (tTup t) Q := fun σ H QV e st k =>
  h σ H _ e st fun vs H1 ss m1 x1 so1 rs1 ⟨ds, es, hl, q⟩ => by
    have ra := vals_of rs1 es
    refine ⟨by rw [ra.length]; exact Evl.sz_of hl, fun p hp => ?_⟩
    have x2 : Xt (dom m1) H1 (dom m1) (upd H1 p (.tup vs)) := Xt.new hp
    exact k _ _ (.val (.tup ds)) m1 (x1.trans x2) (so1.new hp) (show Rp _ _ _ _ from .tup (.inl (.inl (by rw [hid_out (dom_none.mpr (so1.notin hp))]; exact upd_same))) (ra.mono x2.ex)) q
/-- a new list, owned -/
theorem we_lstO {t : TA} {Q : Sv → Sto → Prop} (h : WA K r m t fun ss m1 => ∃ ds : List D, ss = ds.map Sv.val ∧ ds.length ≤ 100000 ∧ ∀ p, m1 p = none → Q (.adr p) (stS m1 p ds)) : WE K r m (tLst t) Q := fun σ H QV e st k =>
  h σ H _ e st fun vs H1 ss m1 x1 so1 rs1 ⟨ds, es, hl, q⟩ => by
    have ra := vals_of rs1 es
    refine ⟨by rw [ra.length]; exact Evl.sz_of hl, fun p hp => ?_⟩
    exact k _ _ (.adr p) (stS m1 p ds) (x1.trans (Xt.own hp)) (so1.own hp ra) ⟨rfl, dom_some stS_same⟩ (q p (so1.notin hp))
theorem we_lst {t : TA} {Q : Sv → Sto → Prop} (h : WA K r m t fun ss m1 => ∃ ds : List D, ss = ds.map Sv.val ∧ ds.length ≤ 100000 ∧ Q (.val (.lst ds)) m1) : WE K r m (tLst t) Q := fun σ H QV e st k =>
  h σ H _ e st fun vs H1 ss m1 x1 so1 rs1 ⟨ds, es, hl, q⟩ => by
    have ra := vals_of rs1 es
    refine ⟨by rw [ra.length]; exact Evl.sz_of hl, fun p hp => ?_⟩
    have x2 : Xt (dom m1) H1 (dom m1) (upd H1 p (.lst vs)) := Xt.new hp
    exact k _ _ (.val (.lst ds)) m1 (x1.trans x2) (so1.new hp) (show Rp _ _ _ _ from .lst (by rw [hid_out (dom_none.mpr (so1.notin hp))]; exact upd_same) (ra.mono x2.ex)) q

/-! operators by values -/
inductive Rs where
  | v (d : D) | l (ds : List D)
def Rs.d : Rs → D
  | .v d => d
  | .l ds => .lst ds
def kR (K : PySem.W.Frag) (M : Dm) (H : Hp) (Q : VK) : Rs → Prop
  | .v d => ∀ v H', Xt M H M H' → (∀ a, M a = true → H' a = H a) → Rp K (hid M H') v d → Q v H'
  | .l ds => ∀ p xs, H p = none → RpA K (hid M H) xs ds → Q (.ref p) (upd H p (.lst xs))
def rD2 (K : PySem.W.Frag) (f : D → D → Rs → Prop) : R2 := fun x y H Q => ∃ M a b c, (∀ z, M z = true → H z ≠ none) ∧ RpW K M H x a ∧ RpW K M H y b ∧ f a b c ∧ kR K M H Q c
def rD1 (K : PySem.W.Frag) (f : D → Rs → Prop) : V → Hp → VK → Prop := fun x H Q => ∃ M a c, (∀ z, M z = true → H z ≠ none) ∧ RpW K M H x a ∧ f a c ∧ kR K M H Q c
def RpWs (K : PySem.W.Frag) (M : Dm) (H : Hp) : List V → List D → Prop := Paired (RpW K M H)
def rDN (K : PySem.W.Frag) (f : List D → Rs → Prop) : List V → Hp → VK → Prop := fun xs H Q => ∃ M ds c, (∀ z, M z = true → H z ≠ none) ∧ RpWs K M H xs ds ∧ f ds c ∧ kR K M H Q c
theorem StoOk.live {H : Hp} (h : StoOk K H m) : ∀ z, dom m z = true → H z ≠ none := fun z hz => by
  obtain ⟨xs, e⟩ := h.some hz
  rw [e]; simp
theorem kR.of {H : Hp} {Q : Sv → Sto → Prop} {QV : VK} {c : Rs} (so : StoOk K H m)
    (k : ∀ v H' s m', Xt (dom m) H (dom m') H' → StoOk K H' m' → RpS K (dom m') H' v s → Q s m' → QV v H') (q : Q (.val c.d) m) : kR K (dom m) H QV c := by
  cases c with
  | v d => exact fun v H' x kp rp => k v H' (.val d) m x (so.keep x kp) rp q
  | l ds => exact fun p xs hp ra => k _ _ (.val (.lst ds)) m (Xt.new hp) (so.new hp) (show Rp _ _ _ _ from .lst (by rw [hid_out (dom_none.mpr (so.notin hp))]; exact upd_same) (ra.mono (Xt.new hp).ex)) q
theorem kR.ofO {H : Hp} {Q : Sv → Sto → Prop} {QV : VK} {ds : List D} (so : StoOk K H m)
    (k : ∀ v H' s m', Xt (dom m) H (dom m') H' → StoOk K H' m' → RpS K (dom m') H' v s → Q s m' → QV v H') (q : ∀ p, m p = none → Q (.adr p) (stS m p ds)) : kR K (dom m) H QV (.l ds) :=
  fun p xs hp ra => k _ _ (.adr p) (stS m p ds) (Xt.own hp) (so.own hp ra) ⟨rfl, dom_some stS_same⟩ (q p (so.notin hp))
theorem we_op {f : D → D → Rs → Prop} {ta tb : TE} {Q : Sv → Sto → Prop} (h : WE K r m ta fun s m1 => WE K r m1 tb fun t m2 => ∃ a b c, vw m2 s = some a ∧ vw m2 t = some b ∧ f a b c ∧ Q (.val c.d) m2) : WE K r m (tOp (rD2 K f) ta tb) Q := fun σ H QV e st k =>
  h σ H _ e st fun v H1 s m1 x1 so1 rs1 q1 => q1 σ H1 _ (e.mono x1) so1 fun u H2 t m2 x2 so2 rs2 ⟨a, b, c, ha, hb, hf, q⟩ =>
    ⟨dom m2, a, b, c, so2.live, RpW.of (rs1.mono x2) so2 ha, RpW.of rs2 so2 hb, hf, kR.of so2 (fun v H' s m' x => k v H' s m' ((x1.trans x2).trans x)) q⟩
theorem we_opO {f : D → D → Rs → Prop} {ta tb : TE} {Q : Sv → Sto → Prop} (h : WE K r m ta fun s m1 => WE K r m1 tb fun t m2 => ∃ a b ds, vw m2 s = some a ∧ vw m2 t = some b ∧ f a b (.l ds) ∧ ∀ p, m2 p = none → Q (.adr p) (stS m2 p ds)) : WE K r m (tOp (rD2 K f) ta tb) Q := fun σ H QV e st k =>
  h σ H _ e st fun v H1 s m1 x1 so1 rs1 q1 => q1 σ H1 _ (e.mono x1) so1 fun u H2 t m2 x2 so2 rs2 ⟨a, b, c, ha, hb, hf, q⟩ =>
    ⟨dom m2, a, b, .l c, so2.live, RpW.of (rs1.mono x2) so2 ha, RpW.of rs2 so2 hb, hf, kR.ofO so2 (fun v H' s m' x => k v H' s m' ((x1.trans x2).trans x)) q⟩
theorem we_un {f : D → Rs → Prop} {ta : TE} {Q : Sv → Sto → Prop} (h : WE K r m ta fun s m1 => ∃ a c, vw m1 s = some a ∧ f a c ∧ Q (.val c.d) m1) : WE K r m (tUn (rD1 K f) ta) Q := fun σ H QV e st k =>
  h σ H _ e st fun v H1 s m1 x1 so1 rs1 ⟨a, c, ha, hf, q⟩ => ⟨dom m1, a, c, so1.live, RpW.of rs1 so1 ha, hf, kR.of so1 (fun v H' s m' x => k v H' s m' (x1.trans x)) q⟩
theorem RpWs.of {H : Hp} (st : StoOk K H m) : ∀ {vs : List V} {ss : List Sv} {ds : List D}, RpSs K (dom m) H vs ss → ss.map (vw m) = ds.map some → RpWs K (dom m) H vs ds
  | _, _, [], .nil, _ => .nil
  | _, _, [], .cons _ _, e => by cases e
  | _, _, _ :: _, .nil, e => by cases e
  | _, _, d :: ds, .cons h t, e => by
    injection e with e1 e2
    exact .cons (RpW.of h st e1) (RpWs.of st t e2)
theorem we_cb {f : List D → Rs → Prop} {ta : TA} {Q : Sv → Sto → Prop} (h : WA K r m ta fun ss m1 => ∃ ds c, ss.map (vw m1) = ds.map some ∧ f ds c ∧ Q (.val c.d) m1) : WE K r m (tCB (rDN K f) ta) Q := fun σ H QV e st k =>
  h σ H _ e st fun vs H1 ss m1 x1 so1 rs1 ⟨ds, c, hs, hf, q⟩ => ⟨dom m1, ds, c, so1.live, RpWs.of so1 rs1 hs, hf, kR.of so1 (fun v H' s m' x => k v H' s m' (x1.trans x)) q⟩
theorem we_cbO {f : List D → Rs → Prop} {ta : TA} {Q : Sv → Sto → Prop} (h : WA K r m ta fun ss m1 => ∃ ds es, ss.map (vw m1) = ds.map some ∧ f ds (.l es) ∧ ∀ p, m1 p = none → Q (.adr p) (stS m1 p es)) : WE K r m (tCB (rDN K f) ta) Q := fun σ H QV e st k =>
  h σ H _ e st fun vs H1 ss m1 x1 so1 rs1 ⟨ds, c, hs, hf, q⟩ => ⟨dom m1, ds, .l c, so1.live, RpWs.of so1 rs1 hs, hf, kR.ofO so1 (fun v H' s m' x => k v H' s m' (x1.trans x)) q⟩
end
end Cr

/-! Cr2: statements, loops, comprehensions, promises over data. -/
namespace Cr
open PySem PySem.Spec PyProof.Rows L2
section
variable {K : PySem.W.Frag} {M : Dm} {r : Ro} {m : Sto} {P : Eds}
/-! ### statements -/
theorem ws_next (q : P.nx r m) : WS K M r m tNext P := fun σ H H0 D' e st x d => d.nx σ H r m x st e q
theorem ws_seq {t u : TS} (h : WS K M r m t { P with nx := fun r' m' => WS K M r' m' u P }) : WS K M r m (tSeq t u) P := fun σ H H0 D' e st x d =>
  h σ H H0 { D' with nx := u D' } e st x ⟨fun σ' H' r' m' x' s' e' q => q σ' H' H0 D' e' s' x' d, d.rt, d.bk, d.ct⟩
theorem ws_asg {te : TE} {i : Nat} (h : WE K r m te fun s m1 => P.nx (r.set i (some s)) m1) : WS K M r m (tAsg te (gName i)) P := fun σ H H0 D' e st x d =>
  h σ H _ e st fun v H1 s m1 x1 so1 rs q => by
    have e1 := e.mono x1
    refine d.nx (σ.set i (some v)) H1 _ m1 (x.trans x1) so1 ⟨by rw [List.length_set, List.length_set]; exact e1.1, fun j t ht => ?_⟩ q
    by_cases hj : i = j
    · subst hj
      rw [List.getElem?_set] at ht
      by_cases hl : i < r.length
      · rw [if_pos rfl, if_pos hl] at ht
        cases ht
        refine ⟨v, ?_, rs⟩
        rw [List.getElem?_set, if_pos rfl, if_pos (by rw [e1.1]; exact hl)]
      · rw [if_pos rfl, if_neg hl] at ht
        cases ht
    · rw [List.getElem?_set_ne hj] at ht
      obtain ⟨u, h1, h2⟩ := e1.2 j t ht
      exact ⟨u, by rw [List.getElem?_set_ne hj]; exact h1, h2⟩
theorem ws_asgG {te : TE} {g : TG} (js : List Nat) (h : WE K r m te fun s m1 => WG K g js s r m1 fun r' => P.nx r' m1) : WS K M r m (tAsg te g) P := fun σ H H0 D' e st x d =>
  h σ H _ e st fun v H1 s m1 x1 so1 rs q => q v σ H1 _ (e.mono x1) so1 rs fun σ' r' e' _ _ q' => d.nx σ' H1 r' m1 (x.trans x1) so1 e' q'
theorem ws_ret {te : TE} (h : WE K r m te P.rt) : WS K M r m (tRet te) P := fun σ H H0 D' e st x d =>
  h σ H _ e st fun v H1 s m1 x1 so1 rs q => d.rt v H1 s m1 (x.trans x1) so1 rs q
theorem ws_retN (q : P.rt (.val .non) m) : WS K M r m tRetN P := fun σ H H0 D' e st x d => d.rt .non H (.val .non) m x st (show Rp _ _ _ _ from .non) q
theorem ws_drop {te : TE} (h : WE K r m te fun _ m1 => P.nx r m1) : WS K M r m (tDrop te) P := fun σ H H0 D' e st x d =>
  h σ H _ e st fun v H1 s m1 x1 so1 rs q => d.nx σ H1 r m1 (x.trans x1) so1 (e.mono x1) q
theorem ws_if {c : TT} {t u : TS} (h : WT K r m c fun b m1 => if b = true then WS K M r m1 t P else WS K M r m1 u P) : WS K M r m (tIfS c t u) P := fun σ H H0 D' e st x d =>
  h σ H _ e st fun b H1 m1 x1 so1 q => by
    cases b with
    | true => exact (show WS K M r m1 t P from q) σ H1 H0 D' (e.mono x1) so1 (x.trans x1) d
    | false => exact (show WS K M r m1 u P from q) σ H1 H0 D' (e.mono x1) so1 (x.trans x1) d
theorem ws_cont (q : P.ct r m) : WS K M r m tCont P := fun σ H H0 D' e st x d => d.ct σ H r m x st e q
theorem ws_break (q : P.bk r m) : WS K M r m tBreak P := fun σ H H0 D' e st x d => d.bk σ H r m x st e q
theorem WS.imp {ts : TS} {P' : Eds} (h : WS K M r m ts P) (h1 : ∀ r' m', P.nx r' m' → P'.nx r' m') (h2 : ∀ s m', P.rt s m' → P'.rt s m') (h3 : ∀ r' m', P.bk r' m' → P'.bk r' m') (h4 : ∀ r' m', P.ct r' m' → P'.ct r' m') : WS K M r m ts P' := fun σ H H0 D' e st x d =>
  h σ H H0 D' e st x ⟨fun σ' H' r' m' a b c q => d.nx σ' H' r' m' a b c (h1 _ _ q), fun v H' s m' a b c q => d.rt v H' s m' a b c (h2 _ _ q), fun σ' H' r' m' a b c q => d.bk σ' H' r' m' a b c (h3 _ _ q), fun σ' H' r' m' a b c q => d.ct σ' H' r' m' a b c (h4 _ _ q)⟩
/-- less is known of the slots -/
theorem WS.env {r2 : Ro} {ts : TS} (hl : r2.length = r.length) (hr : ∀ (i : Nat) (s : Sv), r2[i]? = some (some s) → r[i]? = some (some s)) (h : WS K M r2 m ts P) : WS K M r m ts P := fun σ H H0 D' e st x d =>
  h σ H H0 D' ⟨e.1.trans hl.symm, fun i s q => e.2 i s (hr i s q)⟩ st x d
/-- an owned list is let free -/
def frzS (p : Addr) (ds : List D) : Option Sv → Option Sv
  | some (.adr a) => if a = p then some (.val (.lst ds)) else some (.adr a)
  | s => s
theorem ws_frz {ts : TS} {p : Addr} {ds : List D} (hp : m p = some ds) (hM : M p = false) (h : WS K M (r.map (frzS p ds)) (stD m p) ts P) : WS K M r m ts P := fun σ H H0 D' e st x d => by
  obtain ⟨s1, s2⟩ := st.frz hp
  refine h σ H H0 D' ⟨by rw [List.length_map]; exact e.1, fun i s q => ?_⟩ s1 (x.frz hM) d
  rw [List.getElem?_map] at q
  cases ei : r[i]? with
  | none => rw [ei] at q; cases q
  | some o =>
    rw [ei] at q
    cases o with
    | none => cases q
    | some z =>
      obtain ⟨v, h1, h2⟩ := e.2 i z ei
      cases z with
      | val dd =>
        have q2 : some (some (Sv.val dd)) = some (some s) := q
        cases q2
        exact ⟨v, h1, Rp.mono (hid_sub stD_sub) h2⟩
      | adr a =>
        have q2 : some (if a = p then some (Sv.val (.lst ds)) else some (.adr a)) = some (some s) := q
        obtain ⟨rfl, h3⟩ := h2
        by_cases z : a = p
        · rw [if_pos z] at q2
          cases q2
          exact ⟨_, h1, by rw [z]; exact s2⟩
        · rw [if_neg z] at q2
          cases q2
          obtain ⟨es, ee⟩ := dom_true h3
          exact ⟨_, h1, rfl, dom_some (show stD m p a = some es by unfold stD; rw [if_neg z]; exact ee)⟩
theorem ws_aug {te : TE} {i : Nat} {f : Int → Int → Int} {a : Int} (ha : r[i]? = some (some (.val (.int a)))) (h : WE K r m te fun s m1 => ∃ b, s = .val (.int b) ∧ P.nx (r.set i (some (.val (.int (f a b))))) m1) : WS K M r m (tAug i te (ipI f)) P := fun σ H H0 D' e st x d => by
  obtain ⟨v, h1, h2⟩ := e.2 i _ ha
  have h2' : Rp K (hid (dom m) H) v (.int a) := h2
  cases h2'
  refine ⟨_, h1, h σ H _ e st fun u H1 s m1 x1 so1 rs ⟨b, es, q⟩ => ?_⟩
  subst es
  have rs' : Rp K (hid (dom m1) H1) u (.int b) := rs
  cases rs'
  exact ⟨a, b, rfl, rfl, (ws_asg (te := tC (.int (f a b))) (i := i) (M := M) (we_int q)) σ H1 H0 D' (e.mono x1) so1 (x.trans x1) d⟩
/-- two names at once -/
theorem ws_par {ta : TA} {i j : Nat} (h : WA K r m ta fun ss m1 => ∃ s t, ss = [s, t] ∧ P.nx ((r.set i (some s)).set j (some t)) m1) : WS K M r m (tPar i j ta) P := fun σ H H0 D' e st x d =>
  h σ H _ e st fun vs H1 ss m1 x1 so1 rs ⟨s, t, es, q⟩ => by
    subst es
    cases rs with
    | cons r1 rs =>
      cases rs with
      | cons r2 rs =>
        cases rs
        refine ⟨_, _, rfl, ?_⟩
        have e1 := e.mono x1
        have key : ∀ {σ : L2.St} {r : Ro} {v : V} {s : Sv} {i : Nat}, EnvOk K (dom m1) H1 σ r → RpS K (dom m1) H1 v s → EnvOk K (dom m1) H1 (σ.set i (some v)) (r.set i (some s)) := fun {σ r v s i} e rs => by
          refine ⟨by rw [List.length_set, List.length_set]; exact e.1, fun j t ht => ?_⟩
          by_cases hj : i = j
          · subst hj
            rw [List.getElem?_set] at ht
            by_cases hl : i < r.length
            · rw [if_pos rfl, if_pos hl] at ht
              cases ht
              exact ⟨v, by rw [List.getElem?_set, if_pos rfl, if_pos (by rw [e.1]; exact hl)], rs⟩
            · rw [if_pos rfl, if_neg hl] at ht
              cases ht
          · rw [List.getElem?_set_ne hj] at ht
            obtain ⟨u, h1, h2⟩ := e.2 j t ht
            exact ⟨u, by rw [List.getElem?_set_ne hj]; exact h1, h2⟩
        exact d.nx _ H1 _ m1 (x.trans x1) so1 (key (key e1 r1) r2) q

/-! ### targets -/
theorem EnvOk.set {M : Dm} {H : Hp} {σ : L2.St} {r : Ro} {v : V} {s : Sv} {i : Nat} (e : EnvOk K M H σ r) (rs : RpS K M H v s) : EnvOk K M H (σ.set i (some v)) (r.set i (some s)) := by
  refine ⟨by rw [List.length_set, List.length_set]; exact e.1, fun j t ht => ?_⟩
  by_cases hj : i = j
  · subst hj
    rw [List.getElem?_set] at ht
    by_cases hl : i < r.length
    · rw [if_pos rfl, if_pos hl] at ht
      cases ht
      exact ⟨v, by rw [List.getElem?_set, if_pos rfl, if_pos (by rw [e.1]; exact hl)], rs⟩
    · rw [if_pos rfl, if_neg hl] at ht
      cases ht
  · rw [List.getElem?_set_ne hj] at ht
    obtain ⟨u, h1, h2⟩ := e.2 j t ht
    exact ⟨u, by rw [List.getElem?_set_ne hj]; exact h1, h2⟩
theorem wg_name {i : Nat} {s : Sv} {Q : Ro → Prop} (q : Q (r.set i (some s))) : WG K (gName i) [i] s r m Q := fun v σ H QV e st rs k =>
  k (σ.set i (some v)) (r.set i (some s)) (e.set rs) List.length_set (fun j hj => List.getElem?_set_ne (fun z => hj (by rw [z]; exact List.mem_cons_self))) q
/-- a row of targets -/
def WGs (K : PySem.W.Frag) (g : TGs) (js : List Nat) (ds : List D) (r : Ro) (m : Sto) (Q : Ro → Prop) : Prop :=
  ∀ (vs : List V) (σ : L2.St) (H : Hp) (QV : L2.St → Hp → Prop), EnvOk K (dom m) H σ r → StoOk K H m → RpA K (hid (dom m) H) vs ds →
    (∀ σ' r', EnvOk K (dom m) H σ' r' → σ'.length = σ.length → (∀ j, j ∉ js → σ'[j]? = σ[j]?) → Q r' → QV σ' H) → g vs σ H QV
theorem wgs_nil {Q : Ro → Prop} (q : Q r) : WGs K gNil [] [] r m Q := fun vs σ H QV e st rs k => by
  cases rs
  exact ⟨rfl, k σ r e rfl (fun _ _ => rfl) q⟩
theorem wgs_cons {t : TG} {u : TGs} {js ks : List Nat} {d : D} {ds : List D} {Q : Ro → Prop} (h : WG K t js (.val d) r m fun r1 => WGs K u ks ds r1 m Q) : WGs K (gCons t u) (js ++ ks) (d :: ds) r m Q := fun vs σ H QV e st rs k => by
  cases rs with
  | cons r1 r2 =>
    refine ⟨_, _, rfl, h _ σ H _ e st r1 fun σ1 r1' e1 l1 n1 q1 => q1 _ σ1 H _ e1 st r2 fun σ2 r2' e2 l2 n2 q2 => ?_⟩
    exact k σ2 r2' e2 (l2.trans l1) (fun j hj => (n2 j fun z => hj (List.mem_append_right _ z)).trans (n1 j fun z => hj (List.mem_append_left _ z))) q2
theorem wg_tup {n : Nat} {t : TGs} {js : List Nat} {ds : List D} {Q : Ro → Prop} (hn : ds.length = n) (h : WGs K t js ds r m Q) : WG K (gTup K n t) js (.val (.tup ds)) r m Q := fun v σ H QV e st rs k => by
  have rs' : Rp K (hid (dom m) H) v (.tup ds) := rs
  cases rs' with
  | tup hs ha => exact ⟨_, _, rfl, Evl.ex_t hid_ex hs, by rw [ha.length]; exact hn, h _ σ H QV e st ha k⟩

/-! ### loops -/
theorem StoOk.liveM {H : Hp} (st : StoOk K H m) : ∀ a, dom m a = true → H a ≠ none := st.live
theorem ws_for {wi : TI} {g : TG} {tb : TS} (js : List Nat) (h : WI K r m wi fun ds m1 => ∃ I : Nat → Ro → Sto → Prop, I 0 r m1 ∧
      (∀ i d r' m', ds[i]? = some d → I i r' m' → WG K g js (.val d) r' m' fun r2 => WS K (dom m1) r2 m' tb { nx := I (i + 1), ct := I (i + 1), bk := P.nx, rt := P.rt }) ∧
      (∀ r' m', I ds.length r' m' → P.nx r' m')) : WS K M r m (tFor wi g tb) P := fun σ H H0 D' e st x d =>
  h σ H _ e st fun J H1 ds m1 x1 so1 io ⟨I, i0, turn, fin⟩ => by
    refine ⟨fun i n σ' H' => ∃ r' m', i + n = ds.length ∧ Xt (dom m1) H1 (dom m') H' ∧ StoOk K H' m' ∧ EnvOk K (dom m') H' σ' r' ∧ I i r' m', ⟨ds.length, r, m1, by omega, Xt.refl, so1, e.mono x1, i0⟩, ?_⟩
    rintro i n σ' H' ⟨r', m', hn, x2, so2, e2, hI⟩
    by_cases hi : i < ds.length
    · right
      refine ⟨io.go i _ _ x2 hi, fun σ3 H3 => ∃ r' m', Xt (dom m1) H1 (dom m') H3 ∧ StoOk K H3 m' ∧ EnvOk K (dom m') H3 σ3 r' ∧ I (i + 1) r' m', ?_, fun v H3 hy => ?_⟩
      · rintro σ3 H3 ⟨r3, m3, a, b, c, q⟩
        exact ⟨n - 1, by omega, r3, m3, by omega, a, b, c, q⟩
      · obtain ⟨x3, kp, rp⟩ := io.yl i _ _ v H3 ds[i] so2.live x2 (List.getElem?_eq_getElem hi) hy
        have so3 := so2.keep x3 kp
        refine turn i ds[i] r' m' (List.getElem?_eq_getElem hi) hI v σ' H3 _ (e2.mono x3) so3 rp fun σ4 r4 e4 _ _ q4 => ?_
        refine q4 σ4 H3 H1 _ e4 so3 (x2.trans x3) ⟨fun σ5 H5 r5 m5 a b c q => ⟨r5, m5, a, b, c, q⟩, fun v5 H5 s5 m5 a b c q => d.rt v5 H5 s5 m5 ((x.trans x1).trans a) b c q, fun σ5 H5 r5 m5 a b c q => d.nx σ5 H5 r5 m5 ((x.trans x1).trans a) b c q, fun σ5 H5 r5 m5 a b c q => ⟨r5, m5, a, b, c, q⟩⟩
    · left
      have hl : i = ds.length := by omega
      subst hl
      exact ⟨io.st _ _ x2, d.nx σ' H' r' m' ((x.trans x1).trans x2) so2 e2 (fin r' m' hI)⟩
theorem ws_while {c : TT} {tb : TS} (I : Nat → Ro → Sto → Prop) (n0 : Nat) (i0 : I n0 r m)
    (turn : ∀ n r' m', I n r' m' → WT K r' m' c fun b m1 => if b = true then WS K (dom m) r' m1 tb { nx := fun r2 m2 => ∃ n', n' < n ∧ I n' r2 m2, ct := fun r2 m2 => ∃ n', n' < n ∧ I n' r2 m2, bk := P.nx, rt := P.rt } else P.nx r' m1) : WS K M r m (tWhile c tb) P := fun σ H H0 D' e st x d => by
  refine ⟨fun n σ' H' => ∃ r' m', Xt (dom m) H (dom m') H' ∧ StoOk K H' m' ∧ EnvOk K (dom m') H' σ' r' ∧ I n r' m', ⟨n0, r, m, Xt.refl, st, e, i0⟩, ?_⟩
  rintro n σ' H' ⟨r', m', x2, so2, e2, hI⟩
  refine turn n r' m' hI σ' H' _ e2 so2 fun b H3 m3 x3 so3 q => ?_
  cases b with
  | true =>
    refine ⟨fun σ4 H4 => ∃ n', n' < n ∧ ∃ r4 m4, Xt (dom m) H (dom m4) H4 ∧ StoOk K H4 m4 ∧ EnvOk K (dom m4) H4 σ4 r4 ∧ I n' r4 m4, fun σ4 H4 z => z, ?_⟩
    refine (show WS K (dom m) r' m3 tb _ from q) σ' H3 H _ (e2.mono x3) so3 (x2.trans x3) ⟨fun σ5 H5 r5 m5 a b c ⟨n', hn, q⟩ => ⟨n', hn, r5, m5, a, b, c, q⟩, fun v5 H5 s5 m5 a b c q => d.rt v5 H5 s5 m5 (x.trans a) b c q, fun σ5 H5 r5 m5 a b c q => d.nx σ5 H5 r5 m5 (x.trans a) b c q, fun σ5 H5 r5 m5 a b c ⟨n', hn, q⟩ => ⟨n', hn, r5, m5, a, b, c, q⟩⟩
  | false => exact d.nx σ' H3 r' m3 (x.trans (x2.trans x3)) so3 (e2.mono x3) q
end

/-! ### comprehensions -/
def wipeR (r : Ro) : List Nat → Ro
  | [] => r
  | v :: vs => (wipeR r vs).set v none
theorem wipe_env {K : PySem.W.Frag} {M : Dm} {H : Hp} {σ : L2.St} {r : Ro} (e : EnvOk K M H σ r) : ∀ vs : List Nat, EnvOk K M H (wipe σ vs) (wipeR r vs)
  | [] => e
  | v :: vs => by
    have ih := wipe_env e vs
    refine ⟨by show ((wipe σ vs).set v none).length = ((wipeR r vs).set v none).length; rw [List.length_set, List.length_set]; exact ih.1, fun j t ht => ?_⟩
    have ht2 : ((wipeR r vs).set v none)[j]? = some (some t) := ht
    by_cases hj : v = j
    · subst hj
      rw [List.getElem?_set] at ht2
      by_cases hl : v < (wipeR r vs).length
      · rw [if_pos rfl, if_pos hl] at ht2; cases ht2
      · rw [if_pos rfl, if_neg hl] at ht2; cases ht2
    · rw [List.getElem?_set_ne hj] at ht2
      obtain ⟨u, h1, h2⟩ := ih.2 j t ht2
      exact ⟨u, by show ((wipe σ vs).set v none)[j]? = _; rw [List.getElem?_set_ne hj]; exact h1, h2⟩
theorem wipe_get {σ : L2.St} {j : Nat} : ∀ {vs : List Nat}, j ∈ vs → (wipe σ vs)[j]? = if j < σ.length then some none else none
  | [], h => by cases h
  | v :: vs, h => by
    show ((wipe σ vs).set v none)[j]? = _
    by_cases hj : v = j
    · subst hj
      rw [List.getElem?_set, if_pos rfl, wipe_length]
    · rw [List.getElem?_set_ne hj]
      rcases List.mem_cons.mp h with q | q
      · exact absurd q.symm hj
      · exact wipe_get q
theorem wipe_eq {σ σ' : L2.St} {vs : List Nat} (hl : σ'.length = σ.length) (hj : ∀ j, j ∉ vs → σ'[j]? = σ[j]?) : wipe σ' vs = wipe σ vs := by
  refine List.ext_getElem? fun j => ?_
  by_cases q : j ∈ vs
  · rw [wipe_get q, wipe_get q, hl]
  · rw [wipe_out q, wipe_out q, hj j q]
theorem wipe_wipe {σ : L2.St} {vs : List Nat} : wipe (wipe σ vs) vs = wipe σ vs := wipe_eq (wipe_length σ vs) fun j q => wipe_out q

section
variable {K : PySem.W.Frag} {r : Ro} {m : Sto}
/-- the general comprehension; the new list is owned while it grows, and stays so -/
theorem we_lcO {wi : TI} {g : TG} {tt : TT} {te : TE} {vs js : List Nat} {Q : Sv → Sto → Prop} (hjs : ∀ j ∈ js, j ∈ vs)
    (h : WI K r m wi fun ds m1 => ds.length ≤ 100000 ∧ ∀ p, m1 p = none → ∃ I : Nat → List D → Sto → Prop, I 0 [] (stS m1 p []) ∧
      (∀ i d acc m', ds[i]? = some d → acc.length ≤ i → m' p = some acc → I i acc m' → WG K g js (.val d) (wipeR r vs) m' fun r2 => WT K r2 m' tt fun b m2 => if b = true then WE K r2 m2 te fun s m3 => ∃ x, s = .val x ∧ m3 p = some acc ∧ I (i + 1) (acc ++ [x]) (stS m3 p (acc ++ [x])) else m2 p = some acc ∧ I (i + 1) acc m2) ∧
      (∀ acc m', m' p = some acc → I ds.length acc m' → Q (.adr p) m')) : WE K r m (tLc wi g tt te vs) Q := fun σ H QV e st k =>
  h σ H _ e st fun J H1 ds m1 x1 so1 io ⟨hsz, q1⟩ D hD => by
    obtain ⟨I, i0, turn, fin⟩ := q1 D (so1.notin hD)
    refine ⟨fun i n H' => ∃ acc m', i + n = ds.length ∧ acc.length ≤ i ∧ Xt (dom m1) H1 (dom m') H' ∧ StoOk K H' m' ∧ m' D = some acc ∧ I i acc m', ⟨ds.length, [], stS m1 D [], by omega, Nat.le_refl _, Xt.own hD, so1.own hD .nil, stS_same, i0⟩, ?_⟩
    rintro i n H' ⟨acc, m', hn, hacc, x2, so2, hm, hI⟩
    by_cases hi : i < ds.length
    · right
      refine ⟨io.go i _ _ x2 hi, fun H3 => ∃ acc' m3, acc'.length ≤ i + 1 ∧ Xt (dom m1) H1 (dom m3) H3 ∧ StoOk K H3 m3 ∧ m3 D = some acc' ∧ I (i + 1) acc' m3, ?_, fun v H3 hy => ?_⟩
      · rintro H3 ⟨acc', m3, hl, a, b, c, q⟩
        exact ⟨n - 1, by omega, acc', m3, by omega, hl, a, b, c, q⟩
      · obtain ⟨x3, kp, rp⟩ := io.yl i _ _ v H3 ds[i] so2.live x2 (List.getElem?_eq_getElem hi) hy
        have so3 := so2.keep x3 kp
        have e3 : EnvOk K (dom m') H3 (wipe σ vs) (wipeR r vs) := wipe_env ((e.mono x1).mono (x2.trans x3)) vs
        refine turn i ds[i] acc m' (List.getElem?_eq_getElem hi) hacc hm hI v (wipe σ vs) H3 _ e3 so3 rp fun σ4 r4 e4 l4 n4 q4 => ⟨?_, ?_⟩
        · exact (wipe_eq l4 fun j hj => n4 j fun z => hj (hjs j z)).trans wipe_wipe
        · refine q4 σ4 H3 _ e4 so3 fun b H4 m4 x4 so4 q5 => ?_
          cases b with
          | false =>
            obtain ⟨c1, c2⟩ := q5
            exact ⟨acc, m4, by omega, (x2.trans x3).trans x4, so4, c1, c2⟩
          | true =>
            refine (show WE K r4 m4 te _ from q5) σ4 H4 _ (e4.mono x4) so4 fun y H5 s m5 x5 so5 rs ⟨x, es, c1, c2⟩ => ?_
            subst es
            obtain ⟨xs, hx, ra⟩ := so5 D acc c1
            have rs' : Rp K (hid (dom m5) H5) y x := rs
            have hlen : acc.length < sizeLine := Evl.sz_lt (by omega)
            refine ⟨xs, hx, by rw [ra.length]; exact hlen, acc ++ [x], stS m5 D (acc ++ [x]), by rw [List.length_append]; show acc.length + 1 ≤ i + 1; omega, ?_, so5.wr c1 (ra.append (.cons rs' .nil)), stS_same, c2⟩
            have w : Xt (dom m5) H5 (dom m5) (upd H5 D (.lst (xs ++ [y]))) := Xt.wr (dom_some c1)
            rw [dom_stS c1]
            exact (((x2.trans x3).trans x4).trans x5).trans w
    · left
      have hl : i = ds.length := by omega
      subst hl
      exact ⟨io.st _ _ x2, k (.ref D) H' (.adr D) m' (x1.trans x2) so2 ⟨rfl, dom_some hm⟩ (fin acc m' hm hI)⟩
/-- an owned fresh result is let free -/
theorem we_free {te : TE} {Q : Sv → Sto → Prop} (h : WE K r m te fun s m1 => ∃ p ds, s = .adr p ∧ m p = none ∧ m1 p = some ds ∧ Q (.val (.lst ds)) (stD m1 p)) : WE K r m te Q := fun σ H QV e st k =>
  h σ H QV e st fun v H1 s m1 x1 so1 rs ⟨p, ds, es, hp, hm, q⟩ => by
    subst es
    obtain ⟨rfl, _⟩ := rs
    obtain ⟨s1, s2⟩ := so1.frz hm
    exact k _ H1 (.val (.lst ds)) (stD m1 p) (x1.frz (dom_none.mpr hp)) s1 s2 q
/-- a comprehension whose tests and element leave the store as it is -/
theorem we_lc {wi : TI} {g : TG} {tt : TT} {te : TE} {vs js : List Nat} {Q : Sv → Sto → Prop} (hjs : ∀ j ∈ js, j ∈ vs)
    (h : WI K r m wi fun ds m1 => ds.length ≤ 100000 ∧ m1 = m ∧ ∃ (f : D → Bool) (v : D → D), (∀ d ∈ ds, ∀ m', WG K g js (.val d) (wipeR r vs) m' fun r2 => WT K r2 m' tt fun b m2 => b = f d ∧ m2 = m' ∧ (b = true → WE K r2 m' te fun s m3 => s = .val (v d) ∧ m3 = m')) ∧
      Q (.val (.lst ((ds.filter f).map v))) m) : WE K r m (tLc wi g tt te vs) Q := by
  refine we_free (we_lcO hjs fun σ H R e st k => h σ H R e st fun J H' ds mz x so io ⟨hl, em, f, v, turn, q⟩ => k J H' ds mz x so io ⟨hl, fun p hp => ?_⟩)
  subst em
  refine ⟨fun i acc m' => m' = stS mz p acc ∧ acc = ((ds.take i).filter f).map v, ⟨rfl, rfl⟩, ?_, ?_⟩
  · rintro i d acc m' hd _ hm ⟨rfl, rfl⟩
    have hmem : d ∈ ds := List.mem_of_getElem? hd
    have tk : ds.take (i + 1) = ds.take i ++ [d] := by rw [List.take_add_one, hd]; rfl
    refine fun v1 σ1 H1 QV1 e1 st1 rs1 k1 => turn d hmem _ v1 σ1 H1 QV1 e1 st1 rs1 fun σ2 r2 e2 l2 n2 q2 => k1 σ2 r2 e2 l2 n2 (q2.imp fun b m2 ⟨hb, hm2, q3⟩ => ?_)
    subst hm2
    cases b with
    | true =>
      refine (q3 rfl).imp fun s m3 ⟨hs, hm3⟩ => ⟨v d, hs, by rw [hm3]; exact stS_same, ?_, ?_⟩
      · rw [hm3, stS_stS]
      · rw [tk, List.filter_append, List.map_append]
        have : [d].filter f = [d] := by rw [List.filter_cons, if_pos hb.symm]; rfl
        rw [this]; rfl
    | false =>
      refine ⟨stS_same, rfl, ?_⟩
      rw [tk, List.filter_append, List.map_append]
      have : [d].filter f = [] := by rw [List.filter_cons, if_neg (by rw [← hb]; exact Bool.false_ne_true)]; rfl
      rw [this]
      simp
  · rintro acc m' hm ⟨rfl, rfl⟩
    refine ⟨p, _, rfl, hp, stS_same, ?_⟩
    rw [stD_stS hp, List.take_length]
    exact q

/-! ### promises over data -/
abbrev Tr := List Sv → Sto → (Sv → Sto → Prop) → Prop
def SpD (K : PySem.W.Frag) (T : Tr) : Sp := fun vs H QV _ => ∃ m ss Q, StoOk K H m ∧ RpSs K (dom m) H vs ss ∧ T ss m Q ∧
  ∀ v H' s m', Xt (dom m) H (dom m') H' → StoOk K H' m' → RpS K (dom m') H' v s → Q s m' → QV v H'
theorem we_call {T : Tr} {E : XK} {ta : TA} {Q : Sv → Sto → Prop} (h : WA K r m ta fun ss m1 => T ss m1 Q) : WE K r m (tCall (SpD K T) [] E ta) Q := fun σ H QV e st k =>
  h σ H _ e st fun vs H1 ss m1 x1 so1 rs q => ⟨m1, ss, Q, so1, by rw [List.append_nil]; exact rs, q, fun v H' s m' x so rp q' => k v H' s m' (x1.trans x) so rp q'⟩
def startR (N : List Str) (ss : List Sv) : Ro := ss.map some ++ List.replicate (N.length - ss.length) none
theorem RpSs.length {M : Dm} {H : Hp} {vs : List V} {ss : List Sv} (h : RpSs K M H vs ss) : vs.length = ss.length := Paired.length h
theorem RpSs.get {M : Dm} {H : Hp} : ∀ {vs : List V} {ss : List Sv} {i : Nat} {s : Sv}, RpSs K M H vs ss → ss[i]? = some s → ∃ v, vs[i]? = some v ∧ RpS K M H v s
  | _, _, _, _, .nil, e => by simp at e
  | _, _, 0, _, .cons h _, e => by simp at e; subst e; exact ⟨_, rfl, h⟩
  | _, _, i + 1, d, .cons _ t, e => by
    obtain ⟨v, h1, h2⟩ := RpSs.get (i := i) (s := d) t (by simpa using e)
    exact ⟨v, by simpa using h1, h2⟩
theorem start_env {N : List Str} {H : Hp} {vs : List V} {ss : List Sv} (h : RpSs K (dom m) H vs ss) : EnvOk K (dom m) H (L2.start N vs) (startR N ss) := by
  have hl := h.length
  refine ⟨by unfold L2.start startR; rw [List.length_append, List.length_append, List.length_map, List.length_map, List.length_replicate, List.length_replicate, hl], fun i s e => ?_⟩
  unfold startR at e
  by_cases hi : i < ss.length
  · rw [List.getElem?_append_left (by rw [List.length_map]; exact hi), List.getElem?_map] at e
    cases q : ss[i]? with
    | none => rw [q] at e; cases e
    | some t =>
      rw [q] at e
      have e' : some (some t) = some (some s) := e
      cases e'
      obtain ⟨v, h1, h2⟩ := h.get q
      refine ⟨v, ?_, h2⟩
      unfold L2.start
      rw [List.getElem?_append_left (by rw [List.length_map, hl]; exact hi), List.getElem?_map, h1]
      rfl
  · rw [List.getElem?_append_right (by rw [List.length_map]; omega), List.getElem?_replicate] at e
    split at e <;> cases e
theorem body_ok {T : Tr} {t : TS} {N : List Str} (h : ∀ ss m Q, T ss m Q → WS K (dom m) (startR N ss) m t { nx := fun _ m' => Q (.val .non) m', rt := Q }) {vs : List V} {H : Hp} {QV : VK} {E : XK} (q : SpD K T vs H QV E) :
    t { nx := fun _ H' => QV .non H', rt := QV } (L2.start N vs) H := by
  obtain ⟨m, ss, Q, so, rs, ht, k⟩ := q
  refine h ss m Q ht (L2.start N vs) H H _ (start_env rs) so Xt.refl ⟨fun σ' H' r' m' x so' e' q => k .non H' (.val .non) m' x so' (show Rp _ _ _ _ from .non) q, fun v H' s m' x so' rs' q => k v H' s m' x so' rs' q, fun _ _ _ _ _ _ _ q => q, fun _ _ _ _ _ _ _ q => q⟩
theorem len_ok {T : Tr} {n : Nat} (h : ∀ ss m Q, T ss m Q → ss.length = n) : ∀ vs H Q E, SpD K T vs H Q E → vs.length = n := fun vs H Q E ⟨m, ss, Q', so, rs, ht, _⟩ => by
  rw [rs.length]; exact h _ _ _ ht
/-- a def that computes, from data alone -/
def Pu (F : List D → Option D) : Tr := fun ss m Q => ∃ ds d, ss.map (vw m) = ds.map some ∧ F ds = some d ∧ Q (.val d) m
end
end Cr

/-! CrM: a tuple taken once, or not at all. -/
namespace Cr
open PySem PySem.Spec PyProof.Rows L2
theorem tuple_mul1 (l : Addr) (items : Array Value) (n : Nat) (dd : Option Addr) (sl : Array (Option Value)) (x : Int) (u : Tok) (c0 : (decide (x < -(2 ^ 63)) || decide (x ≥ 2 ^ 63)) = false) (c1 : (items.isEmpty || x == 1) = true) :
    Meets (Builtin.«tuple.__mul__» ⟨[.ref l, .int x u], []⟩) (fun _ R s => s.heap.get? l = some { cls := .type "tuple", dict := dd, data := .seq items n, slots := sl } ∧
      R (.ok (.ret (Value.ref l))) s) :=
  .of_wp fun prog w A R s h => by
    obtain ⟨hp, g, d, tk, os⟩ := s
    obtain ⟨hl, h⟩ := h
    have f1 := AutoSeq1.idx_int
    wp_walk using wpAny_loadPart' hl
    repeat (first
      | (refine wpAny_ite_false (decide_eq_false (by rw [c0]; exact Bool.false_ne_true)) ?_; wp_walk using wpAny_loadPart' hl)
      | (refine wpAny_ite_true (decide_eq_true (by rw [c1])) ?_; wp_walk using wpAny_loadPart' hl))
    exact ⟨_, rfl, h⟩
theorem tuple_mul0 (l : Addr) (items : Array Value) (n : Nat) (dd : Option Addr) (sl : Array (Option Value)) (x : Int) (u : Tok) (c0 : (decide (x < -(2 ^ 63)) || decide (x ≥ 2 ^ 63)) = false) (c1 : (items.isEmpty || x == 1) = false) (c2 : (decide (x ≤ 0) || items.isEmpty) = true) :
    Meets (Builtin.«tuple.__mul__» ⟨[.ref l, .int x u], []⟩) (fun _ R s => s.heap.get? l = some { cls := .type "tuple", dict := dd, data := .seq items n, slots := sl } ∧
      R (.ok (.ret (Value.ref s.heap.objs.size))) { s with heap := s.heap.push { cls := Value.type "tuple", data := Data.seq #[] }, toks := s.toks }) :=
  .of_wp fun prog w A R s h => by
    obtain ⟨hp, g, d, tk, os⟩ := s
    obtain ⟨hl, h⟩ := h
    have f1 := AutoSeq1.idx_int
    wp_walk using wpAny_loadPart' hl
    repeat (first
      | (refine wpAny_ite_false (decide_eq_false (by rw [c0]; exact Bool.false_ne_true)) ?_; wp_walk using wpAny_loadPart' hl)
      | (refine wpAny_ite_false (decide_eq_false (by rw [c1]; exact Bool.false_ne_true)) ?_; wp_walk using wpAny_loadPart' hl)
      | (refine wpAny_ite_true (decide_eq_true (by rw [c2])) ?_; wp_walk using wpAny_loadPart' hl))
    exact ⟨_, rfl, h⟩
/-- t * k, for few items and small numbers -/
def rRepS (K : PySem.W.Frag) : R2 := fun x y H Q => ∃ l k xs, x = .ref l ∧ y = .int k ∧ SqT K H l xs ∧ -1000 ≤ k ∧ k ≤ 1000 ∧ xs.length ≤ 1000 ∧
  (k = 1 ∨ xs = [] → Q (.ref l) H) ∧ ∀ p, H p = none → Q (.ref p) (upd H p (.tup (List.replicate k.toNat xs).flatten))
section
variable {X : Cx}
theorem op_repS : OpR X (binaryOp .Mult) (rRepS X.K) := by
  intro pins s σ H x y v u Q I rx ry h
  obtain ⟨l, k, xs, rfl, rfl, hT, h1, h2, hz, q1, q⟩ := h
  by_cases hk : 2 ≤ k ∧ xs ≠ []
  · exact op_repT pins s σ H _ _ v u Q I rx ry ⟨l, k, xs, rfl, rfl, hT, hk.2, hk.1, h2, hz, q⟩
  cases rx
  obtain ⟨t, rfl⟩ := ry
  obtain ⟨its, r, ⟨⟨cls, dd, data, sl⟩, ho, hc, n, hd⟩, hs⟩ := I.tuple hT
  simp only at hc hd
  subst hc hd
  have hle : its.length = xs.length := r.length.symm
  have c0 : (decide (k < -(2 ^ 63)) || decide (k ≥ 2 ^ 63)) = false := by
    rw [decide_eq_false (by omega), decide_eq_false (by omega)] <;> rfl
  by_cases e1 : k = 1 ∨ xs = []
  · have c1 : (its.toArray.isEmpty || k == 1) = true := by
      rcases e1 with e | e
      · subst e; simp
      · rw [e] at hle
        have : its = [] := List.eq_nil_of_length_eq_zero hle
        subst this
        rfl
    refine wpAny_binaryOp_repeat_ref (T := "tuple") (U := "int") (by decide) ⟨_, ho, rfl⟩ (fun s' => typeIs_int s' k t) noFill_tuple_mul F.fills_int_mul F.slot_int_rmul repeat_tuple F.slot_int_index.lookup
      (call_meets F.slot_int_rmul (typeIs_int s k t) F.entry_int_rmul (F.args_int_rmul_2 _ _) (int_rmul_tuple k t l its.toArray n dd sl)
        ⟨ho, rfl, ⟨_, ho, rfl⟩, call_meets F.slot_tuple_mul ⟨_, ho, rfl⟩ F.entry_tuple_mul (F.args_tuple_mul_2 _ _) (tuple_mul1 l its.toArray n dd sl k t c0 c1) ⟨ho, ?_⟩⟩)
    exact ⟨.ref l, H, I, rfl, q1 e1⟩
  · have hk1 : k ≠ 1 := fun e => e1 (.inl e)
    have hx : xs ≠ [] := fun e => e1 (.inr e)
    have hk0 : k ≤ 0 := by
      have : ¬ 2 ≤ k := fun z => hk ⟨z, hx⟩
      omega
    have c1 : (its.toArray.isEmpty || k == 1) = false := by
      cases its with
      | nil => exact absurd (List.eq_nil_of_length_eq_zero hle.symm) hx
      | cons a b => simpa using hk1
    have c2 : (decide (k ≤ 0) || its.toArray.isEmpty) = true := by
      rw [decide_eq_true hk0]; rfl
    refine wpAny_binaryOp_repeat_ref (T := "tuple") (U := "int") (by decide) ⟨_, ho, rfl⟩ (fun s' => typeIs_int s' k t) noFill_tuple_mul F.fills_int_mul F.slot_int_rmul repeat_tuple F.slot_int_index.lookup
      (call_meets F.slot_int_rmul (typeIs_int s k t) F.entry_int_rmul (F.args_int_rmul_2 _ _) (int_rmul_tuple k t l its.toArray n dd sl)
        ⟨ho, rfl, ⟨_, ho, rfl⟩, call_meets F.slot_tuple_mul ⟨_, ho, rfl⟩ F.entry_tuple_mul (F.args_tuple_mul_2 _ _) (tuple_mul0 l its.toArray n dd sl k t c0 c1 c2) ⟨ho, ?_⟩⟩)
    have e0 : (List.replicate k.toNat xs).flatten = [] := by
      have : k.toNat = 0 := by omega
      rw [this]; rfl
    rw [e0] at q
    refine ⟨.ref s.heap.objs.size, _, I.laid (t' := s.toks) (o := .tup []) (fun b ob q => Heap.get?_push_of_some _ q) (Nat.le_refl _) ?_, rfl, q _ (I.hok.fresh (Nat.le_refl _))⟩
    exact ⟨by decide, [], .nil, IsTup.new _ _⟩
end
end Cr

/-! Cr3: operators, subscripts, calls of built-ins, by data. -/
namespace Cr
open PySem PySem.Spec PyProof.Rows L2

section
variable {K : PySem.W.Frag} {M : Dm} {H : Hp} {Q : VK}
theorem kR.v {d : D} {v : V} (k : kR K M H Q (.v d)) (r : Rp K (hid M H) v d) : Q v H := k v H Xt.refl (fun _ _ => rfl) r
theorem dm_fresh {p : Addr} (lv : ∀ z, M z = true → H z ≠ none) (hp : H p = none) : M p = false := by
  cases e : M p with
  | false => rfl
  | true => exact absurd hp (lv p e)
theorem kR.tup {ds : List D} {p : Addr} {xs : List V} (lv : ∀ z, M z = true → H z ≠ none) (k : kR K M H Q (.v (.tup ds))) (hp : H p = none) (ra : RpA K (hid M H) xs ds) : Q (.ref p) (upd H p (.tup xs)) := by
  have x : Xt M H M (upd H p (.tup xs)) := Xt.new hp
  refine k _ _ x (fun a ha => upd_ne (fun e => by rw [e, dm_fresh lv hp] at ha; cases ha)) (.tup (.inl (.inl ?_)) (ra.mono x.ex))
  rw [hid_out (dm_fresh lv hp)]
  exact upd_same
end

/-! ### arithmetic: relations between data -/
def szD : Nat := 100000
theorem szD_line {n : Nat} (h : n ≤ szD) : n ≤ sizeLine := Evl.sz_of h
inductive RAdd : D → D → Rs → Prop
  | int (i j : Int) : RAdd (.int i) (.int j) (.v (.int (i + j)))
  | str {a b : Str} (h : a.length + b.length ≤ szD) : RAdd (.str a) (.str b) (.v (.str (a ++ b)))
  | lst {a b : List D} (h : a.length + b.length ≤ szD) : RAdd (.lst a) (.lst b) (.l (a ++ b))
  | tup {a b : List D} (h : a.length + b.length ≤ szD) : RAdd (.tup a) (.tup b) (.v (.tup (a ++ b)))
inductive RSub : D → D → Rs → Prop
  | int (i j : Int) : RSub (.int i) (.int j) (.v (.int (i - j)))
inductive RMul : D → D → Rs → Prop
  | int {i j : Int} (h : i.natAbs.log2 + j.natAbs.log2 < 1000000) : RMul (.int i) (.int j) (.v (.int (i * j)))
  | lst {a : List D} {k : Int} (h1 : -(2 ^ 63) ≤ k) (h2 : k < 2 ^ 63) (h3 : a.length * k.toNat ≤ szD) : RMul (.lst a) (.int k) (.l (List.replicate k.toNat a).flatten)
  | tup {a : List D} {k : Int} (h1 : -1000 ≤ k) (h2 : k ≤ 1000) (h3 : a.length ≤ 1000) : RMul (.tup a) (.int k) (.v (.tup (List.replicate k.toNat a).flatten))
  | str {a : Str} {k : Int} (h1 : -1000000 ≤ k) (h2 : k ≤ 1000000) (h3 : a.length * k.toNat ≤ szD) : RMul (.str a) (.int k) (.v (.str ⟨(List.replicate k.toNat a.cps.toList).flatten.toArray⟩))
inductive RFdiv : D → D → Rs → Prop
  | int {i j : Int} (h : 0 < j) (h2 : j.natAbs.log2 < 9000) : RFdiv (.int i) (.int j) (.v (.int (i / j)))
inductive RMod : D → D → Rs → Prop
  | int {i j : Int} (h : 0 < j) : RMod (.int i) (.int j) (.v (.int (i % j)))
inductive RPow : D → D → Rs → Prop
  | int {i j : Int} (h : 0 ≤ j) (h2 : (Builtin.Int.intBits i : Int) * j ≤ 2 ^ 27) : RPow (.int i) (.int j) (.v (.int (i ^ j.toNat)))
inductive RNeg : D → Rs → Prop
  | int (i : Int) : RNeg (.int i) (.v (.int (-i)))
inductive RCmp (p : Int → Int → Bool) : D → D → Rs → Prop
  | int (i j : Int) : RCmp p (.int i) (.int j) (.v (.bl (p i j)))
abbrev RLt := RCmp fun i j => decide (i < j)
abbrev RLe := RCmp fun i j => decide (i ≤ j)
abbrev RGt := RCmp fun i j => decide (j < i)
abbrev RGe := RCmp fun i j => decide (j ≤ i)

section
variable {X : Cx}
theorem RpW.lstX {pins : List (Addr × Obj)} {σ : L2.St} {s : Shared} {M : Dm} {H : Hp} {v : V} {ds : List D} (I : L2.Inv X pins σ H s) (h : RpW X.K M H v (.lst ds)) :
    ∃ a xs its n, v = .ref a ∧ H a = some (.lst xs) ∧ RpA X.K (hid M H) xs ds ∧ Vals xs its ∧ xs.length = its.length ∧ s.heap.get? a = some { cls := .type "list", data := .seq its.toArray n } := by
  obtain ⟨a, xs, rfl, h1, h2⟩ := h.lst
  obtain ⟨z, its, n, r, l, e⟩ := I.lstM h1
  exact ⟨a, xs, its, n, rfl, h1, h2, r, l, e⟩
theorem sqT_hid {K : PySem.W.Frag} {M : Dm} {H : Hp} {a : Addr} {xs : List V} (h : SqT K (hid M H) a xs) : SqT K H a xs := Evl.ex_t hid_ex h
theorem op_addD : OpR X (binaryOp .Add) (rD2 X.K RAdd) := by
  intro pins s σ H x y v u Q I rx ry h
  obtain ⟨M, a, b, c, lv, ha, hb, hf, k⟩ := h
  cases hf with
  | int i j =>
    cases ha.int
    cases hb.int
    exact op_add pins s σ H _ _ v u Q I rx ry ⟨i, j, rfl, rfl, k.v (.int _)⟩
  | @str i j z =>
    cases ha.str
    cases hb.str
    exact op_add_str pins s σ H _ _ v u Q I rx ry ⟨i, j, rfl, rfl, szD_line z, k.v (.str _)⟩
  | lst z =>
    obtain ⟨p, xs, rfl, h1, ra⟩ := ha.lst
    obtain ⟨p2, xs2, rfl, h2, ra2⟩ := hb.lst
    have z' := szD_line z
    have la := ra.length
    have lb := ra2.length
    exact op_cat pins s σ H _ _ v u Q I rx ry ⟨p, p2, xs, xs2, rfl, rfl, h1, h2, by omega, fun q hq => k q _ hq (ra.append ra2)⟩
  | tup z =>
    obtain ⟨p, xs, rfl, h1, ra⟩ := ha.tup
    obtain ⟨p2, xs2, rfl, h2, ra2⟩ := hb.tup
    have z' := szD_line z
    have la := ra.length
    have lb := ra2.length
    refine op_catA pins s σ H _ _ v u Q I rx ry ⟨p, p2, xs, xs2, rfl, rfl, sqT_hid h1, sqT_hid h2, by omega, fun e => ?_, fun _ e => ?_, fun _ _ q hq => k.tup lv hq (ra.append ra2)⟩
    · subst e
      cases ra
      exact k.v (.tup h2 ra2)
    · subst e
      cases ra2
      rw [List.append_nil] at k
      exact k.v (.tup h1 ra)
theorem op_subD : OpR X (binaryOp .Sub) (rD2 X.K RSub) := by
  intro pins s σ H x y v u Q I rx ry ⟨M, a, b, c, lv, ha, hb, hf, k⟩
  cases hf with
  | int i j =>
    cases ha.int
    cases hb.int
    exact op_sub pins s σ H _ _ v u Q I rx ry ⟨i, j, rfl, rfl, k.v (.int _)⟩
theorem op_fdivD : OpR X (binaryOp .FloorDiv) (rD2 X.K RFdiv) := by
  intro pins s σ H x y v u Q I rx ry ⟨M, a, b, c, lv, ha, hb, hf, k⟩
  cases hf with
  | int z z2 =>
    cases ha.int
    cases hb.int
    exact op_fdivW pins s σ H _ _ v u Q I rx ry ⟨_, _, rfl, rfl, ⟨z, z2⟩, k.v (.int _)⟩
theorem op_modD : OpR X (binaryOp .Mod) (rD2 X.K RMod) := by
  intro pins s σ H x y v u Q I rx ry ⟨M, a, b, c, lv, ha, hb, hf, k⟩
  cases hf with
  | int z =>
    cases ha.int
    cases hb.int
    exact op_mod pins s σ H _ _ v u Q I rx ry ⟨_, _, rfl, rfl, z, k.v (.int _)⟩
theorem op_powX : OpR X (binaryOp .Pow) (rI (fun i j => 0 ≤ j ∧ (Builtin.Int.intBits i : Int) * j ≤ 2 ^ 27) fun i j => .int (i ^ j.toNat)) := opI fun _ _ _ _ _ _ _ hc q => pow_int hc.1 hc.2 q
theorem op_powD : OpR X (binaryOp .Pow) (rD2 X.K RPow) := by
  intro pins s σ H x y v u Q I rx ry ⟨M, a, b, c, lv, ha, hb, hf, k⟩
  cases hf with
  | int z z2 =>
    cases ha.int
    cases hb.int
    exact op_powX pins s σ H _ _ v u Q I rx ry ⟨_, _, rfl, rfl, ⟨z, z2⟩, k.v (.int _)⟩
theorem rpA_rep {K : PySem.W.Frag} {H : Hp} {xs : List V} {ds : List D} (ra : RpA K H xs ds) : ∀ n, RpA K H (List.replicate n xs).flatten (List.replicate n ds).flatten
  | 0 => .nil
  | n + 1 => by
    rw [List.replicate_succ, List.replicate_succ, List.flatten_cons, List.flatten_cons]
    exact ra.append (rpA_rep ra n)
theorem op_mulD : OpR X (binaryOp .Mult) (rD2 X.K RMul) := by
  intro pins s σ H x y v u Q I rx ry ⟨M, a, b, c, lv, ha, hb, hf, k⟩
  cases hf with
  | int z =>
    cases ha.int
    cases hb.int
    exact op_mulW pins s σ H _ _ v u Q I rx ry ⟨_, _, rfl, rfl, z, k.v (.int _)⟩
  | lst z1 z2 z3 =>
    obtain ⟨p, xs, rfl, h1, ra⟩ := ha.lst
    cases hb.int
    exact op_rep pins s σ H _ _ v u Q I rx ry ⟨p, _, xs, rfl, rfl, h1, z1, z2, by rw [ra.length]; exact szD_line z3, fun q hq => k q _ hq (rpA_rep ra _)⟩
  | @tup a i z1 z2 z3 =>
    obtain ⟨p, xs, rfl, h1, ra⟩ := ha.tup
    cases hb.int
    refine op_repS pins s σ H _ _ v u Q I rx ry ⟨p, _, xs, rfl, rfl, sqT_hid h1, z1, z2, by rw [ra.length]; exact z3, fun e => ?_, fun q hq => k.tup lv hq (rpA_rep ra _)⟩
    refine k.v ?_
    rcases e with e | e
    · subst e
      have : (List.replicate (1 : Int).toNat a).flatten = a := by show (List.replicate 1 a).flatten = a; simp
      rw [this]
      exact .tup h1 ra
    · subst e
      cases ra
      have : (List.replicate i.toNat ([] : List D)).flatten = [] := by simp
      rw [this]
      exact .tup h1 .nil
  | @str a i z1 z2 z3 =>
    cases ha.str
    cases hb.int
    obtain ⟨t, rfl⟩ := rx
    obtain ⟨t', rfl⟩ := ry
    have hsz := szD_line z3
    have hfl : ∀ n : Nat, (List.replicate n a.cps).foldl (· ++ ·) #[] = (List.replicate n a.cps.toList).flatten.toArray := fun n => by
      have : ∀ (n : Nat) (x : Array Nat), (List.replicate n a.cps).foldl (· ++ ·) x = (x.toList ++ (List.replicate n a.cps.toList).flatten).toArray := by
        intro n
        induction n with
        | zero => intro x; simp
        | succ n ih => intro x; rw [List.replicate_succ, List.foldl_cons, ih, List.replicate_succ, List.flatten_cons]; simp
      rw [this]; simp
    refine PySem.P.mul_str (by rw [decide_eq_false (by omega), decide_eq_false (by omega)]; rfl) (fun h1 _ => ?_) (fun _ _ => ?_) ?_
    · have h5 : (2 ^ 63 - 1) / i ≥ 9223372036854 := by
        have : (9223372036854 : Int) * i ≤ 2 ^ 63 - 1 := by omega
        exact (Int.le_ediv_iff_mul_le (by omega)).mpr this
      have h6 : a.length ≤ szD := by
        have h7 : 1 ≤ i.toNat := by omega
        exact Nat.le_trans (Nat.le_mul_of_pos_right _ h7) z3
      have : szD = 100000 := rfl
      omega
    · unfold Builtin.Str.tooLong
      exact decide_eq_false (by have := sizeLine_eq; omega)
    · have fin : ∀ z : Str, z = ⟨(List.replicate i.toNat a.cps.toList).flatten.toArray⟩ → z.length ≤ sizeLine → (Made.str z).post (EP X pins σ Q) s := fun z hz hl => by
        subst hz
        exact ⟨hl, .str _, H, I.tok _, ⟨_, rfl⟩, k.v (.str _)⟩
      have hl2 : (⟨(List.replicate i.toNat a.cps.toList).flatten.toArray⟩ : Str).length ≤ sizeLine := by
        show (List.replicate i.toNat a.cps.toList).flatten.toArray.size ≤ sizeLine
        rw [List.size_toArray, lm_len_rep_flat, Array.length_toList, Nat.mul_comm]
        exact hsz
      by_cases hi : i < 1
      · rw [if_pos hi]
        have e0 : i.toNat = 0 := by omega
        exact fin _ (by rw [e0]; rfl) (by decide)
      · rw [if_neg hi]
        by_cases h1 : (i == 1 || a.length == 0) = true
        · rw [if_pos h1]
          have ea : a = ⟨(List.replicate i.toNat a.cps.toList).flatten.toArray⟩ := by
            rw [Bool.or_eq_true] at h1
            rcases h1 with h1 | h1
            · have : i = 1 := by simpa using h1
              subst this
              show a = ⟨(List.replicate 1 a.cps.toList).flatten.toArray⟩
              simp
            · have h2 : a.cps.size = 0 := beq_iff_eq.mp h1
              have h3 : a.cps = #[] := Array.eq_empty_of_size_eq_zero h2
              obtain ⟨cp⟩ := a
              have h3' : cp = #[] := h3
              subst h3'
              simp
          rw [← ea] at k
          exact ⟨.str _, H, I, ⟨_, rfl⟩, k.v (.str _)⟩
        · rw [if_neg h1]
          exact fin _ (by rw [hfl]) (by rw [hfl]; exact hl2)
theorem un_negD : UnR X (unaryOp .USub) (rD1 X.K RNeg) := by
  intro pins s σ H x v Q I rx ⟨M, a, c, lv, ha, hf, k⟩
  cases hf with
  | int i =>
    cases ha.int
    exact un_neg pins s σ H _ v Q I rx ⟨i, rfl, k.v (.int _)⟩
theorem cmpD {op : CmpOp} {p : Int → Int → Bool} (h : OpR X (compareOp op) (rI0 fun i j => .bl (p i j))) : OpR X (compareOp op) (rD2 X.K (RCmp p)) := by
  intro pins s σ H x y v u Q I rx ry ⟨M, a, b, c, lv, ha, hb, hf, k⟩
  cases hf with
  | int i j =>
    cases ha.int
    cases hb.int
    exact h pins s σ H _ _ v u Q I rx ry ⟨i, j, rfl, rfl, k.v (.bl _)⟩
theorem op_ltD : OpR X (compareOp .Lt) (rD2 X.K RLt) := cmpD op_lt
theorem op_leD : OpR X (compareOp .LtE) (rD2 X.K RLe) := cmpD op_le
theorem op_gtD : OpR X (compareOp .Gt) (rD2 X.K RGt) := cmpD op_gt
theorem op_geD : OpR X (compareOp .GtE) (rD2 X.K RGe) := cmpD op_ge
end

/-! ### == and != -/
def D.flat : D → Bool
  | .non => true | .bl _ => true | .int _ => true | .str _ => true | _ => false
mutual
def D.py : D → Option PyData
  | .non => some .none
  | .bl b => some (.bool b)
  | .int i => some (.int i)
  | .str x => some (.str x)
  | .lst xs => (D.pyA xs).map .list
  | .tup xs => (D.pyA xs).map .tuple
  | .ins _ _ => none
  | .scr _ => none
  | .ty _ => none
def D.pyA : List D → Option (List PyData)
  | [] => some []
  | x :: xs => match D.py x, D.pyA xs with
    | some p, some ps => some (p :: ps)
    | _, _ => none
end
mutual
theorem Rp.dp {K : PySem.W.Frag} {H : Hp} : ∀ {d : D} {v : V} {p : PyData}, Rp K H v d → d.py = some p → Dp K H v p
  | .non, _, _, h, e => by cases h; cases e; exact .non
  | .bl b, _, _, h, e => by cases h; cases e; exact .bl b
  | .int i, _, _, h, e => by cases h; cases e; exact .int i
  | .str x, _, _, h, e => by cases h; cases e; exact .str x
  | .lst xs, _, p, h, e => by
    cases h with
    | lst q ra =>
      have e2 : (D.pyA xs).map PyData.list = some p := by simpa only [D.py] using e
      cases z : D.pyA xs with
      | none => rw [z] at e2; cases e2
      | some ps =>
        rw [z] at e2
        cases e2
        exact .lst (.inl (.inl q)) (RpA.dp ra z)
  | .tup xs, _, p, h, e => by
    cases h with
    | tup q ra =>
      have e2 : (D.pyA xs).map PyData.tuple = some p := by simpa only [D.py] using e
      cases z : D.pyA xs with
      | none => rw [z] at e2; cases e2
      | some ps =>
        rw [z] at e2
        cases e2
        exact .tup q (RpA.dp ra z)
  | .ins _ _, _, _, _, e => by simp [D.py] at e
  | .scr _, _, _, _, e => by simp [D.py] at e
  | .ty _, _, _, _, e => by simp [D.py] at e
theorem RpA.dp {K : PySem.W.Frag} {H : Hp} : ∀ {ds : List D} {vs : List V} {ps : List PyData}, RpA K H vs ds → D.pyA ds = some ps → DpAll K H vs ps
  | [], _, _, .nil, e => by simp [D.pyA] at e; subst e; exact .nil
  | d :: ds, _, _, .cons h t, e => by
    cases z : D.py d with
    | none => simp [D.pyA, z] at e
    | some p =>
      cases z2 : D.pyA ds with
      | none => simp [D.pyA, z, z2] at e
      | some ps =>
        simp [D.pyA, z, z2] at e
        subst e
        exact .cons (Rp.dp h z) (RpA.dp t z2)
end
/-- equality of flat data of one kind, and with None; of data at any depth -/
inductive REq : D → D → Bool → Prop
  | int (i j : Int) : REq (.int i) (.int j) (decide (i = j))
  | bl (i j : Bool) : REq (.bl i) (.bl j) (decide (i = j))
  | str (i j : Str) : REq (.str i) (.str j) (decide (i = j))
  | nn : REq .non .non true
  | deep {a b : D} {p q : PyData} (h1 : a.py = some p) (h2 : b.py = some q) (s1 : SeqAt.shaped p = true) (s2 : SeqAt.shaped q = true) : REq a b (PyData.eqv p q)
inductive REqR : D → D → Rs → Prop
  | mk {a b : D} {r : Bool} (h : REq a b r) : REqR a b (.v (.bl r))
inductive RNeR : D → D → Rs → Prop
  | mk {a b : D} {r : Bool} (h : REq a b r) : RNeR a b (.v (.bl (!r)))
section
variable {X : Cx}
theorem op_eqDD (hu : X.A.units + 64 < cLine) : OpR X (compareOp .Eq) (rD2 X.K REqR) := by
  intro pins s σ H x y v u Q I rx ry ⟨M, a, b, c, lv, ha, hb, hf, k⟩
  cases hf with
  | mk h =>
    cases h with
    | int i j =>
      cases ha.int
      cases hb.int
      refine op_eq pins s σ H _ _ v u Q I rx ry ⟨rfl, ?_⟩
      rw [show decide (V.int i = V.int j) = decide (i = j) by rw [dec_int]; rfl]
      exact k.v (.bl _)
    | bl i j =>
      cases ha.bl
      cases hb.bl
      refine op_eq pins s σ H _ _ v u Q I rx ry ⟨rfl, ?_⟩
      rw [show decide (V.bl i = V.bl j) = decide (i = j) by cases i <;> cases j <;> rfl]
      exact k.v (.bl _)
    | str i j =>
      cases ha.str
      cases hb.str
      refine op_eq pins s σ H _ _ v u Q I rx ry ⟨rfl, ?_⟩
      rw [show decide (V.str i = V.str j) = decide (i = j) by simp]
      exact k.v (.bl _)
    | nn =>
      cases ha.non
      cases hb.non
      exact op_eq pins s σ H _ _ v u Q I rx ry ⟨rfl, k.v (.bl _)⟩
    | deep h1 h2 s1 s2 => exact op_eqD hu pins s σ H _ _ v u Q I rx ry ⟨_, _, ha.rp.dp h1, hb.rp.dp h2, s1, s2, k.v (.bl _)⟩
theorem op_neDD (hu : X.A.units + 64 < cLine) : OpR X (compareOp .NotEq) (rD2 X.K RNeR) := by
  intro pins s σ H x y v u Q I rx ry ⟨M, a, b, c, lv, ha, hb, hf, k⟩
  cases hf with
  | mk h =>
    cases h with
    | int i j =>
      cases ha.int
      cases hb.int
      refine op_ne pins s σ H _ _ v u Q I rx ry ⟨rfl, ?_⟩
      rw [show decide (V.int i = V.int j) = decide (i = j) by rw [dec_int]; rfl]
      exact k.v (.bl _)
    | bl i j =>
      cases ha.bl
      cases hb.bl
      refine op_ne pins s σ H _ _ v u Q I rx ry ⟨rfl, ?_⟩
      rw [show decide (V.bl i = V.bl j) = decide (i = j) by cases i <;> cases j <;> rfl]
      exact k.v (.bl _)
    | str i j =>
      cases ha.str
      cases hb.str
      refine op_ne pins s σ H _ _ v u Q I rx ry ⟨rfl, ?_⟩
      rw [show decide (V.str i = V.str j) = decide (i = j) by simp]
      exact k.v (.bl _)
    | nn =>
      cases ha.non
      cases hb.non
      exact op_ne pins s σ H _ _ v u Q I rx ry ⟨rfl, k.v (.bl _)⟩
    | deep h1 h2 s1 s2 => exact op_neD hu pins s σ H _ _ v u Q I rx ry ⟨_, _, ha.rp.dp h1, hb.rp.dp h2, s1, s2, k.v (.bl _)⟩
end
/-! ### is -/
def D.isNon : D → Bool
  | .non => true
  | _ => false
inductive RIs : D → D → Bool → Prop
  | non (a : D) : RIs a .non a.isNon
  | bl (i j : Bool) : RIs (.bl i) (.bl j) (decide (i = j))
inductive RIsR : D → D → Rs → Prop
  | mk {a b : D} {r : Bool} (h : RIs a b r) : RIsR a b (.v (.bl r))
inductive RIsN : D → D → Rs → Prop
  | mk {a b : D} {r : Bool} (h : RIs a b r) : RIsN a b (.v (.bl (!r)))
theorem isNon_eq {K : PySem.W.Frag} {M : Dm} {H : Hp} {v : V} {d : D} (h : RpW K M H v d) : decide (v = V.non) = d.isNon := by
  cases h.rp <;> simp [D.isNon]
section
variable {X : Cx}
theorem op_isD : OpR X (compareOp .Is) (rD2 X.K RIsR) := by
  intro pins s σ H x y v u Q I rx ry ⟨M, a, b, c, lv, ha, hb, hf, k⟩
  cases hf with
  | mk h =>
    cases h with
    | non =>
      cases hb.non
      refine op_isN pins s σ H _ _ v u Q I rx ry ⟨rfl, ?_⟩
      rw [isNon_eq ha]
      exact k.v (.bl _)
    | bl i j =>
      cases ha.bl
      cases hb.bl
      exact op_isBl pins s σ H _ _ v u Q I rx ry ⟨i, j, rfl, rfl, k.v (.bl _)⟩
theorem op_isnotD : OpR X (compareOp .IsNot) (rD2 X.K RIsN) := by
  intro pins s σ H x y v u Q I rx ry ⟨M, a, b, c, lv, ha, hb, hf, k⟩
  cases hf with
  | mk h =>
    cases h with
    | non =>
      cases hb.non
      refine op_notN pins s σ H _ _ v u Q I rx ry ⟨rfl, ?_⟩
      rw [isNon_eq ha]
      exact k.v (.bl _)
    | bl i j =>
      cases ha.bl
      cases hb.bl
      exact op_notBl pins s σ H _ _ v u Q I rx ry ⟨i, j, rfl, rfl, k.v (.bl _)⟩
end
/-! ### subscripts -/
inductive RIx : D → D → Rs → Prop
  | lst {ds : List D} {i : Int} {d : D} (h : atI ds i = some d) : RIx (.lst ds) (.int i) (.v d)
  | tup {ds : List D} {i : Int} {d : D} (h : atI ds i = some d) : RIx (.tup ds) (.int i) (.v d)
  | scr {ns : List Int} {i : Int} {n : Int} (h : atI ns i = some n) : RIx (.scr ns) (.int i) (.v (.int n))
  | str {z : Str} {i : Int} {c : Nat} (hz : z.length ≤ szD) (h : atI z.cps.toList i = some c) : RIx (.str z) (.int i) (.v (.str ⟨#[c]⟩))
theorem atI_rp {K : PySem.W.Frag} {H : Hp} {xs : List V} {ds : List D} {i : Int} {d : D} (ra : RpA K H xs ds) (h : atI ds i = some d) : ∃ v, atI xs i = some v ∧ Rp K H v d := by
  unfold atI at h ⊢
  rw [ra.length]
  cases e : ixN ds.length i with
  | none => rw [e] at h; cases h
  | some j =>
    rw [e] at h
    exact ra.get h
section
variable {X : Cx}
theorem ix_D : IxR X (rD2 X.K RIx) := by
  intro value slice pins s σ H x y v u Q I rx ry ⟨M, a, b, c, lv, ha, hb, hf, k⟩ hs
  cases hf with
  | lst h =>
    obtain ⟨p, xs, rfl, h1, ra⟩ := ha.lst
    cases hb.int
    obtain ⟨z, e, rz⟩ := atI_rp ra h
    exact ix_list value slice pins s σ H _ _ v u Q I rx ry ⟨p, xs, _, z, rfl, rfl, .inl (.inl h1), e, k.v rz⟩ hs
  | tup h =>
    obtain ⟨p, xs, rfl, h1, ra⟩ := ha.tup
    cases hb.int
    obtain ⟨z, e, rz⟩ := atI_rp ra h
    exact ix_tup value slice pins s σ H _ _ v u Q I rx ry ⟨p, xs, _, z, rfl, rfl, sqT_hid h1, e, k.v rz⟩ hs
  | @scr ns i n h =>
    cases ha.rp with
    | scr q =>
      cases hb.int
      refine ix_list value slice pins s σ H _ _ v u Q I rx ry ⟨_, ns.map V.int, _, .int n, rfl, rfl, q, ?_, k.v (.int _)⟩ hs
      unfold atI at h ⊢
      rw [List.length_map]
      cases e : ixN ns.length i with
      | none => rw [e] at h; cases h
      | some j =>
        rw [e] at h
        have h' : ns[j]? = some n := h
        show (ns.map V.int)[j]? = some (V.int n)
        rw [List.getElem?_map, h']
        rfl
  | str hz h =>
    cases ha.str
    cases hb.int
    exact ix_str value slice pins s σ H _ _ v u Q I rx ry ⟨_, _, _, rfl, rfl, szD_line hz, h, k.v (.str _)⟩ hs
end
/-! slices -/
def cutD (ds : List D) (lo hi : Option Int) : List D := (ds.drop (HT.sIx ds.length 0 lo)).take (HT.sIx ds.length ds.length hi - HT.sIx ds.length 0 lo)
inductive RSl : D → Option Int → Option Int → Rs → Prop
  | lst (ds : List D) (lo hi : Option Int) : RSl (.lst ds) lo hi (.l (cutD ds lo hi))
  | tup (ds : List D) (lo hi : Option Int) : RSl (.tup ds) lo hi (.v (.tup (cutD ds lo hi)))
  | scr (ns : List Int) (lo hi : Option Int) : RSl (.scr ns) lo hi (.l (cutD (ns.map D.int) lo hi))
  | str {z : Str} (hz : z.length ≤ szD) (lo hi : Option Int) : RSl (.str z) lo hi (.v (.str (cutS z lo hi)))
def rSlD (K : PySem.W.Frag) : V → Option Int → Option Int → Hp → VK → Prop := fun x lo hi H Q => ∃ M a c, (∀ z, M z = true → H z ≠ none) ∧ RpW K M H x a ∧ RSl a lo hi c ∧ kR K M H Q c
theorem cut_rp {K : PySem.W.Frag} {H : Hp} {xs : List V} {ds : List D} (ra : RpA K H xs ds) (lo hi : Option Int) : RpA K H (cutV xs lo hi) (cutD ds lo hi) := by
  unfold cutV cutD
  rw [ra.length]
  exact (ra.drop _).take _
section
variable {X : Cx}
theorem sl_D : SlR X (rSlD X.K) := by
  intro pins s σ H x v vl vu lo hi sl Q I rx hs pl pu ⟨M, a, c, lv, ha, hf, k⟩
  cases hf with
  | lst ds =>
    obtain ⟨p, xs, rfl, h1, ra⟩ := ha.lst
    exact sl_list pins s σ H _ v vl vu lo hi sl Q I rx hs pl pu ⟨p, xs, rfl, .inl (.inl h1), fun q hq => k q _ hq (cut_rp ra lo hi)⟩
  | tup ds =>
    obtain ⟨p, xs, rfl, h1, ra⟩ := ha.tup
    refine sl_tupA pins s σ H _ v vl vu lo hi sl Q I rx hs pl pu ⟨p, xs, rfl, sqT_hid h1, fun hw => ?_, fun _ q hq => k.tup lv hq (cut_rp ra lo hi)⟩
    have e : cutD ds lo hi = ds := by
      unfold cutD
      rw [← ra.length, hw.1, hw.2, ra.length]
      simp
    rw [e] at k
    exact k.v (.tup h1 ra)
  | scr ns =>
    cases ha.rp with
    | scr q => exact sl_list pins s σ H _ v vl vu lo hi sl Q I rx hs pl pu ⟨_, ns.map V.int, rfl, q, fun p hp => k p _ hp (cut_rp (RpA.of_ints ns) lo hi)⟩
  | str hz =>
    cases ha.str
    exact sl_str pins s σ H _ v vl vu lo hi sl Q I rx hs pl pu ⟨_, rfl, szD_line hz, k.v (.str _)⟩
end
/-- the parts of a slice -/
def WO (K : PySem.W.Frag) (r : Ro) (m : Sto) (to : TO) (Q : Option Int → Sto → Prop) : Prop :=
  ∀ (σ : L2.St) (H : Hp) (QV : Option Int → Hp → Prop), EnvOk K (dom m) H σ r → StoOk K H m →
    (∀ o H' m', Xt (dom m) H (dom m') H' → StoOk K H' m' → Q o m' → QV o H') → to σ H QV
section
variable {K : PySem.W.Frag} {r : Ro} {m : Sto}
theorem wo_none {Q : Option Int → Sto → Prop} (q : Q none m) : WO K r m tNoPart Q := fun σ H QV e st k => k none H m Xt.refl st q
theorem wo_some {te : TE} {Q : Option Int → Sto → Prop} (h : WE K r m te fun s m1 => ∃ i, s = .val (.int i) ∧ Q (some i) m1) : WO K r m (tPart te) Q := fun σ H QV e st k =>
  h σ H _ e st fun v H1 s m1 x1 so1 rs ⟨i, es, q⟩ => by
    subst es
    have rs' : Rp K (hid (dom m1) H1) v (.int i) := rs
    cases rs'
    exact ⟨i, rfl, k (some i) H1 m1 x1 so1 q⟩
theorem we_slice {te : TE} {tl th : TO} {Q : Sv → Sto → Prop} (h : WE K r m te fun s m1 => WO K r m1 tl fun lo m2 => WO K r m2 th fun hi m3 => ∃ a c, vw m3 s = some a ∧ RSl a lo hi c ∧ Q (.val c.d) m3) : WE K r m (tSl (rSlD K) te tl th) Q := fun σ H QV e st k =>
  h σ H _ e st fun v H1 s m1 x1 so1 rs1 q1 => q1 σ H1 _ (e.mono x1) so1 fun lo H2 m2 x2 so2 q2 => q2 σ H2 _ (e.mono (x1.trans x2)) so2 fun hi H3 m3 x3 so3 ⟨a, c, ha, hf, q⟩ =>
    ⟨dom m3, a, c, so3.live, RpW.of ((rs1.mono x2).mono x3) so3 ha, hf, kR.of so3 (fun v H' s m' x => k v H' s m' (((x1.trans x2).trans x3).trans x)) q⟩
theorem we_sliceO {te : TE} {tl th : TO} {Q : Sv → Sto → Prop} (h : WE K r m te fun s m1 => WO K r m1 tl fun lo m2 => WO K r m2 th fun hi m3 => ∃ a ds, vw m3 s = some a ∧ RSl a lo hi (.l ds) ∧ ∀ p, m3 p = none → Q (.adr p) (stS m3 p ds)) : WE K r m (tSl (rSlD K) te tl th) Q := fun σ H QV e st k =>
  h σ H _ e st fun v H1 s m1 x1 so1 rs1 q1 => q1 σ H1 _ (e.mono x1) so1 fun lo H2 m2 x2 so2 q2 => q2 σ H2 _ (e.mono (x1.trans x2)) so2 fun hi H3 m3 x3 so3 ⟨a, c, ha, hf, q⟩ =>
    ⟨dom m3, a, .l c, so3.live, RpW.of ((rs1.mono x2).mono x3) so3 ha, hf, kR.ofO so3 (fun v H' s m' x => k v H' s m' (((x1.trans x2).trans x3).trans x)) q⟩
end
end Cr

/-! Cr4: what is walked, by data: lists, tuples, ranges; zip of lists and tuples in any mix, strict too. -/
namespace Cr
open PySem PySem.Spec PyProof.Rows L2

/-! ### strict zip, at the library's level -/
section
variable {prog : Program} {w : World} {A : Around} {E : Value → Shared → Prop} {s : Shared} {z TI TO i1 i2 : Addr} {fp1 fp2 : List Addr} {n1 n2 i : Nat} {P1 P2 : Nat → Value → Prop} {St1 St2 : Nat → Heap → Prop} {a1 a2 : Value}
/-- a zip's record; st: strict -/
abbrev IsZipB (st : Bool) (h : Heap) (z TI TO : Addr) (f0 : Value) : Prop :=
  h.get? z = some { cls := .type "zip", dict := none, data := .fields #[f0, .bool false, .bool st, .ref TI, .ref TO], slots := #[] }
theorem noe_item {it : Addr} {fp : List Addr} {n : Nat} {P : Nat → Value → Prop} {St : Nat → Heap → Prop} (D1 : Draws prog w A it fp n P St) {i : Nat} (hlt : i < n) (st : St i s.heap) {Q : Option Value → Shared → Prop}
    (h : ∀ x h' tk, P i x → St (i + 1) h' → Heap.SameBut it s.heap h' → Q (some x) { s with heap := h', toks := tk }) : wpAny (model prog w) A (Builtin.SmallTypes.nextOrEnd (.ref it)) Q E s := by
  unfold Builtin.SmallTypes.nextOrEnd
  exact wpAny_bind (wpAny_attempt (D1.item i s _ _ hlt st fun x h' tk p st' sb => wpAny_pure (h x h' tk p st' sb)))
theorem noe_end {it : Addr} {fp : List Addr} {n : Nat} {P : Nat → Value → Prop} {St : Nat → Heap → Prop} (D1 : Draws prog w A it fp n P St) (st : St n s.heap) {Q : Option Value → Shared → Prop}
    (h : ∀ h', Heap.ExtBut it s.heap h' → Q none { s with heap := h' }) : wpAny (model prog w) A (Builtin.SmallTypes.nextOrEnd (.ref it)) Q E s := by
  unfold Builtin.SmallTypes.nextOrEnd
  refine wpAny_bind (wpAny_attempt (D1.done s _ _ st fun h' e ex ⟨o, ho, hc⟩ => ?_))
  exact wpAny_bind (wpAny_isInstance (T := "StopIteration") (b := true) ⟨o, ho, hc⟩ isSubtype_stop (wpAny_pure (h h' ex)))
theorem stopIt {T : Type} {Q : T → Shared → Prop} (hh : A.handled = none)
    (h : ∀ h' e, (∀ c o, s.heap.get? c = some o → h'.get? c = some o) → (∃ o, h'.get? e = some o ∧ o.cls = .type "StopIteration") → E (.ref e) { s with heap := h' }) : wpAny (model prog w) A (Builtin.SmallTypes.stopIteration : Sem T) Q E s := by
  unfold Builtin.SmallTypes.stopIteration
  refine wpAny_bind ?_
  simp only [newExc, newTuple]
  refine wpAny_bind (wpAny_newObj_type ?_ (by size_fits))
  refine wpAny_bind (m := firstArgMember _ _) (wpAny_of_eq (a := Value.none) (by first | rfl | (simp only [firstArgMember]; rfl)) ?_)
  refine wpAny_newObj_type ?_ (by size_fits)
  simp only [raiseNew]
  refine wpAny_bind (wpAny_handled ?_)
  rw [hh]
  refine wpAny_bind (wpAny_pure (wpAny_throw ?_))
  exact h _ _ (fun c o e => Heap.get?_push_of_some _ (Heap.get?_push_of_some _ e)) ⟨_, Heap.get?_push_size _ rfl, rfl⟩
theorem zipS_item {Q : Value → Shared → Prop} (S : ZipSep2 z TI TO i1 i2 fp1 fp2) (D1 : Draws prog w A i1 fp1 n1 P1 St1) (D2 : Draws prog w A i2 fp2 n2 P2 St2)
    (hz : IsZipB true s.heap z TI TO .none) (hTI : IsTupOf2 s.heap TI (.ref i1) (.ref i2)) (hTO : IsTupOf2 s.heap TO a1 a2) (st1 : St1 i s.heap) (st2 : St2 i s.heap) (hlt1 : i < n1) (hlt2 : i < n2)
    (hQ : ∀ x1 x2 h' tk, P1 i x1 → P2 i x2 → IsZipB true h' z TI TO (rawInt s.heap.objs.size) → IsTupOf2 h' TO x1 x2 → St1 (i + 1) h' → St2 (i + 1) h' → IsTupOf2 h' s.heap.objs.size x1 x2 → h'.objs.size = s.heap.objs.size + 1 →
      (∀ c o, c ≠ z → c ≠ TO → c ≠ i1 → c ≠ i2 → s.heap.get? c = some o → h'.get? c = some o) → Q (.ref s.heap.objs.size) { s with heap := h', toks := tk }) :
    wpAny (model prog w) A (Builtin.«zip.__next__» ⟨[.ref z], []⟩) (fun fin s' => ∃ v, fin = .done (.ret v) ∧ Q v s') E s := by
  obtain ⟨hp, g, d, tk0, os⟩ := s
  show wpAny _ _ (field (.ref z) 2 >>= _) _ _ _
  refine wpAny_bind (wpAny_field hz rfl (x := .bool true) rfl ?_)
  show wpAny _ _ (field (.ref z) 3 >>= _) _ _ _
  refine wpAny_bind (wpAny_field hz rfl (x := .ref TI) rfl ?_)
  refine wpAny_bind (wpAny_seqItems hTI rfl ?_)
  show wpAny _ _ (Builtin.SmallTypes.ownedTupleIsFree (.ref z) >>= _) _ _ _
  refine wpAny_bind ?_
  unfold Builtin.SmallTypes.ownedTupleIsFree
  refine wpAny_bind (wpAny_field hz rfl (x := .none) rfl (wpAny_pure ?_))
  simp only [if_true]
  refine wpAny_bind (wpAny_rule ?_)
  refine wpAny_bind (wpAny_field hz rfl (x := .ref TO) rfl ?_)
  refine wpAny_bind (wpAny_setField_rec hz (by simp) fun g0 hz0 hs0 => ?_)
  replace hz0 : IsZipB true g0 z TI TO .ellipsis := hz0
  replace hs0 : Heap.SameBut z hp g0 := hs0
  refine wpAny_bind ?_
  simp only [List.zipIdx_cons, List.zipIdx_nil, List.forIn_cons, List.forIn_nil]
  -- the first one
  refine wpAny_bind (wpAny_bind (wpAny_onRaise ?_))
  show wpAny _ _ (Builtin.SmallTypes.nextOrEnd (.ref i1)) _ _ ⟨g0, g, d, tk0, os⟩
  refine noe_item (s := ⟨g0, g, d, tk0, os⟩) D1 hlt1 (D1.over st1 hs0 S.zf1) fun x1 p1 tk1 hx1 sn1 hp1 => ?_
  replace hp1 : Heap.SameBut i1 g0 p1 := hp1
  have hU1 : IsTupOf2 p1 TO a1 a2 := hp1.extBut _ _ S.Ti1 (hs0.extBut _ _ S.TOz hTO)
  refine wpAny_bind (wpAny_seqItems (s := ⟨p1, g, d, tk1, os⟩) hU1 rfl ?_)
  refine wpAny_bind (updateSeq_IsTupOf2 (s := ⟨p1, g, d, tk1, os⟩) hU1 fun g1 hT1 hs1 => ?_)
  replace hT1 : IsTupOf2 g1 TO x1 a2 := hT1
  replace hs1 : Heap.SameBut TO p1 g1 := hs1
  refine wpAny_bind (wpAny_letGo (wpAny_pure ?_))
  -- the second one
  refine wpAny_bind (wpAny_bind (wpAny_onRaise ?_))
  show wpAny _ _ (Builtin.SmallTypes.nextOrEnd (.ref i2)) _ _ ⟨g1, g, d, tk1, os⟩
  refine noe_item (s := ⟨g1, g, d, tk1, os⟩) D2 hlt2 (D2.over (D2.over (D2.over st2 hs0 S.zf2) hp1 S.sep1_2) hs1 S.Tf2) fun x2 p2 tk2 hx2 sn2 hp2 => ?_
  replace hp2 : Heap.SameBut i2 g1 p2 := hp2
  have hU2 : IsTupOf2 p2 TO x1 a2 := hp2.extBut _ _ S.Ti2 hT1
  refine wpAny_bind (wpAny_seqItems (s := ⟨p2, g, d, tk2, os⟩) hU2 rfl ?_)
  refine wpAny_bind (updateSeq_IsTupOf2 (s := ⟨p2, g, d, tk2, os⟩) hU2 fun g2 hT2 hs2 => ?_)
  replace hT2 : IsTupOf2 g2 TO x1 x2 := hT2
  replace hs2 : Heap.SameBut TO p2 g2 := hs2
  refine wpAny_bind (wpAny_letGo (wpAny_pure (wpAny_pure ?_)))
  -- the pair is handed out
  refine wpAny_bind (wpAny_seqItems (s := ⟨g2, g, d, tk2, os⟩) hT2 rfl ?_)
  refine wpAny_bind (wpAny_newTuple ?_)
  have hsz : g2.objs.size = hp.objs.size := by rw [hs2.1, hp2.1, hs1.1, hp1.1, hs0.1]
  have hzz : IsZipB true g2 z TI TO .ellipsis := hs2.extBut _ _ S.TOz.symm (hp2.extBut _ _ S.zi2 (hs1.extBut _ _ S.TOz.symm (hp1.extBut _ _ S.zi1 hz0)))
  have hkk : ∀ c o, c ≠ z → c ≠ TO → c ≠ i1 → c ≠ i2 → hp.get? c = some o → g2.get? c = some o := fun c o cz cT c1 c2 e =>
    hs2.extBut _ _ cT (hp2.extBut _ _ c2 (hs1.extBut _ _ cT (hp1.extBut _ _ c1 (hs0.extBut _ _ cz e))))
  have hj1 : St1 (i + 1) g2 := D1.over (D1.over (D1.over sn1 hs1 S.Tf1) hp2 S.sep2_1) hs2 S.Tf1
  have hj2 : St2 (i + 1) g2 := D2.over sn2 hs2 S.Tf2
  have hzlt : z < g2.objs.size := Heap.lt_size hzz
  show wpAny _ _ (Builtin.SmallTypes.ownedTupleHandOut (.ref z) (.ref g2.objs.size) >>= _) _ _ ⟨g2.push { cls := .type "tuple", data := .seq #[x1, x2] }, g, d, tk2, os⟩
  refine wpAny_bind ?_
  unfold Builtin.SmallTypes.ownedTupleHandOut
  have hz6 : IsZipB true (g2.push { cls := .type "tuple", data := .seq #[x1, x2] }) z TI TO .ellipsis := Heap.get?_push_of_some _ hzz
  refine wpAny_bind (wpAny_setField_rec hz6 (by simp) fun h7 hz7 hs7 => ?_)
  replace hz7 : IsZipB true h7 z TI TO (rawInt g2.objs.size) := hz7
  refine wpAny_setField_rec hz7 (by simp) fun h8 hz8 hs8 => ?_
  replace hz8 : IsZipB true h8 z TI TO (rawInt g2.objs.size) := hz8
  replace hs7 : Heap.SameBut z (g2.push { cls := .type "tuple", data := .seq #[x1, x2] }) h7 := hs7
  replace hs8 : Heap.SameBut z h7 h8 := hs8
  have up : ∀ c o, c ≠ z → g2.get? c = some o → h8.get? c = some o := fun c o c1 e => hs8.extBut _ _ c1 (hs7.extBut _ _ c1 (Heap.get?_push_of_some _ e))
  have hT8 : IsTupOf2 h8 g2.objs.size x1 x2 := hs8.extBut _ _ (Nat.ne_of_gt hzlt) (hs7.extBut _ _ (Nat.ne_of_gt hzlt) (Heap.get?_push_size _ rfl))
  have hn8 : h8.objs.size = g2.objs.size + 1 := by rw [hs8.1, hs7.1, Heap.size_push]
  rw [hsz] at hz8 hT8 hn8
  refine wpAny_pure ⟨_, rfl, ?_⟩
  show Q (.ref g2.objs.size) ⟨h8, g, d, tk2, os⟩
  rw [hsz]
  exact hQ x1 x2 h8 tk2 hx1 hx2 hz8 (up _ _ S.TOz hT2) (D1.frame _ _ _ hj1 fun b hb o e => up b o (fun q => S.zf1 (q ▸ hb)) e) (D2.frame _ _ _ hj2 fun b hb o e => up b o (fun q => S.zf2 (q ▸ hb)) e) hT8 hn8 fun c o cz cT c1 c2 e => up c o cz (hkk c o cz cT c1 c2 e)
theorem zipS_end {Q : Fin → Shared → Prop} (hh : A.handled = none) (S : ZipSep2 z TI TO i1 i2 fp1 fp2) (D1 : Draws prog w A i1 fp1 n1 P1 St1) (D2 : Draws prog w A i2 fp2 n1 P2 St2)
    (hz : IsZipB true s.heap z TI TO .none) (hTI : IsTupOf2 s.heap TI (.ref i1) (.ref i2)) (hTO : IsTupOf2 s.heap TO a1 a2) (st1 : St1 n1 s.heap) (st2 : St2 n1 s.heap)
    (hE : ∀ h' e, (∀ c o, c ≠ z → c ≠ TO → c ≠ i1 → c ≠ i2 → s.heap.get? c = some o → h'.get? c = some o) → (∃ o, h'.get? e = some o ∧ o.cls = .type "StopIteration") → E (.ref e) { s with heap := h' }) :
    wpAny (model prog w) A (Builtin.«zip.__next__» ⟨[.ref z], []⟩) Q E s := by
  obtain ⟨hp, g, d, tk0, os⟩ := s
  show wpAny _ _ (field (.ref z) 2 >>= _) _ _ _
  refine wpAny_bind (wpAny_field hz rfl (x := .bool true) rfl ?_)
  show wpAny _ _ (field (.ref z) 3 >>= _) _ _ _
  refine wpAny_bind (wpAny_field hz rfl (x := .ref TI) rfl ?_)
  refine wpAny_bind (wpAny_seqItems hTI rfl ?_)
  show wpAny _ _ (Builtin.SmallTypes.ownedTupleIsFree (.ref z) >>= _) _ _ _
  refine wpAny_bind ?_
  unfold Builtin.SmallTypes.ownedTupleIsFree
  refine wpAny_bind (wpAny_field hz rfl (x := .none) rfl (wpAny_pure ?_))
  simp only [if_true]
  refine wpAny_bind (wpAny_rule ?_)
  refine wpAny_bind (wpAny_field hz rfl (x := .ref TO) rfl ?_)
  refine wpAny_bind (wpAny_setField_rec hz (by simp) fun g0 hz0 hs0 => ?_)
  replace hz0 : IsZipB true g0 z TI TO .ellipsis := hz0
  replace hs0 : Heap.SameBut z hp g0 := hs0
  refine wpAny_bind ?_
  simp only [List.zipIdx_cons, List.zipIdx_nil, List.forIn_cons, List.forIn_nil]
  refine wpAny_bind (wpAny_bind (wpAny_onRaise ?_))
  show wpAny _ _ (Builtin.SmallTypes.nextOrEnd (.ref i1)) _ _ ⟨g0, g, d, tk0, os⟩
  refine noe_end (s := ⟨g0, g, d, tk0, os⟩) D1 (D1.over st1 hs0 S.zf1) fun q hq => ?_
  replace hq : Heap.ExtBut i1 g0 q := hq
  have hzq : IsZipB true q z TI TO .ellipsis := hq _ _ S.zi1 hz0
  refine wpAny_bind (wpAny_setField_rec (s := ⟨q, g, d, tk0, os⟩) hzq (by simp) fun q2 _ hq2 => ?_)
  replace hq2 : Heap.SameBut z q q2 := hq2
  refine wpAny_bind ?_
  show wpAny _ _ (forIn (([Value.ref i2] : List Value).zipIdx 1) PUnit.unit _ >>= _) _ _ _
  refine wpAny_bind ?_
  simp only [List.zipIdx_cons, List.zipIdx_nil, List.forIn_cons, List.forIn_nil]
  have st2q : St2 n1 q2 := D2.over (D2.frame _ _ _ (D2.over st2 hs0 S.zf2) fun b hb o e => hq b o (fun x => S.sep1_2 (x ▸ hb)) e) hq2 S.zf2
  refine wpAny_bind (wpAny_bind (noe_end (s := ⟨q2, g, d, tk0, os⟩) D2 st2q fun q3 hq3 => ?_))
  replace hq3 : Heap.ExtBut i2 q2 q3 := hq3
  show wpAny _ _ (pure (ForInStep.yield PUnit.unit)) _ _ _
  refine wpAny_pure (wpAny_pure ?_)
  refine wpAny_bind (wpAny_rule ?_)
  refine stopIt (s := ⟨q3, g, d, tk0, os⟩) hh fun h' e kp he => hE h' e (fun c o cz cT c1 c2 x => kp c o (hq3 _ _ c2 (hq2.extBut _ _ cz (hq _ _ c1 (hs0.extBut _ _ cz x))))) he
theorem letGoS {elts : List Expr} {x1 : Nat} {pos : Pos} {T : Addr} {Q : Unit → Shared → Prop} (hz : IsZipB true s.heap z TI TO (rawInt T))
    (hQ : ∀ h', IsZipB true h' z TI TO .none → Heap.SameBut z s.heap h' → Q () { s with heap := h' }) :
    wpAny (model prog w) A (letOwnedTupleGo (.Tuple elts x1 pos) (.ref z) (.ref T)) Q E s := by
  unfold letOwnedTupleGo
  refine wpAny_bind (wpAny_load hz ?_)
  show wpAny _ _ (if (["enumerate", "zip", "dict_itemiterator", "dict_reverseitemiterator", "odict_iterator", "itertools.zip_longest", "itertools.pairwise"].contains "zip" &&
      (#[rawInt T, .bool false, .bool true, .ref TI, .ref TO] : Array Value)[0]? == some (rawInt T)) = true then _ else _) Q E s
  rw [if_pos (by simp)]
  refine wpAny_bind (wpAny_rule ?_)
  show wpAny _ _ (setField (.ref z) 0 .none) Q E s
  exact wpAny_setField_rec hz (by simp) fun h' hz' hs' => hQ h' hz' hs'
theorem iterS {f0 : Value} {Q : Value → Shared → Prop} (hz : IsZipB true s.heap z TI TO f0) (h : Q (.ref z) s) : wpAny (model prog w) A (pyIter (.ref z)) Q E s := by
  have hT : s.TypeIs (.ref z) "zip" := ⟨_, hz, rfl⟩
  refine wpAny_pyIter_slot hT F.slot_zip_iter (wpAny_call_entry F.slot_zip_iter hT F.entry_zip_iter ?_ (F.args_zip_iter_1 _))
  show wpAny _ _ (ret (.ref z)) _ _ s
  exact wpAny_pure ⟨_, rfl, "zip", _, hT, F.slot_zip_next.lookup, h⟩
theorem nextS_item {Q : Option Value → Shared → Prop} (S : ZipSep2 z TI TO i1 i2 fp1 fp2) (D1 : Draws prog w A.in1 i1 fp1 n1 P1 St1) (D2 : Draws prog w A.in1 i2 fp2 n2 P2 St2)
    (hz : IsZipB true s.heap z TI TO .none) (hTI : IsTupOf2 s.heap TI (.ref i1) (.ref i2)) (hTO : IsTupOf2 s.heap TO a1 a2) (st1 : St1 i s.heap) (st2 : St2 i s.heap) (hlt1 : i < n1) (hlt2 : i < n2)
    (hQ : ∀ x1 x2 h' tk, P1 i x1 → P2 i x2 → IsZipB true h' z TI TO (rawInt s.heap.objs.size) → IsTupOf2 h' TO x1 x2 → St1 (i + 1) h' → St2 (i + 1) h' → IsTupOf2 h' s.heap.objs.size x1 x2 → h'.objs.size = s.heap.objs.size + 1 →
      (∀ c o, c ≠ z → c ≠ TO → c ≠ i1 → c ≠ i2 → s.heap.get? c = some o → h'.get? c = some o) → Q (some (.ref s.heap.objs.size)) { s with heap := h', toks := tk }) :
    wpAny (model prog w) A (pyNext (.ref z)) Q E s := by
  have hT : s.TypeIs (.ref z) "zip" := ⟨_, hz, rfl⟩
  unfold pyNext
  exact wpAny_bind (wpAny_attempt (wpAny_callSpecial?_slot (name := Str.ofString "__next__") hT F.slot_zip_next
    (wpAny_call_entry F.slot_zip_next hT F.entry_zip_next
      (zipS_item S D1 D2 hz hTI hTO st1 st2 hlt1 hlt2 fun x1 x2 h' tk y1 y2 b1 b2 d1 d2 b5 b6 b7 => wpAny_pure (hQ x1 x2 h' tk y1 y2 b1 b2 d1 d2 b5 b6 b7)) (F.args_zip_next_1 _))))
theorem nextS_end {Q : Option Value → Shared → Prop} (hh : A.handled = none) (S : ZipSep2 z TI TO i1 i2 fp1 fp2) (D1 : Draws prog w A.in1 i1 fp1 n1 P1 St1) (D2 : Draws prog w A.in1 i2 fp2 n1 P2 St2)
    (hz : IsZipB true s.heap z TI TO .none) (hTI : IsTupOf2 s.heap TI (.ref i1) (.ref i2)) (hTO : IsTupOf2 s.heap TO a1 a2) (st1 : St1 n1 s.heap) (st2 : St2 n1 s.heap)
    (hQ : ∀ h', (∀ c o, c ≠ z → c ≠ TO → c ≠ i1 → c ≠ i2 → s.heap.get? c = some o → h'.get? c = some o) → Q none { s with heap := h' }) : wpAny (model prog w) A (pyNext (.ref z)) Q E s := by
  have hT : s.TypeIs (.ref z) "zip" := ⟨_, hz, rfl⟩
  unfold pyNext
  refine wpAny_bind (wpAny_attempt (wpAny_callSpecial?_slot (name := Str.ofString "__next__") hT F.slot_zip_next
    (wpAny_call_entry F.slot_zip_next hT F.entry_zip_next (zipS_end hh S D1 D2 hz hTI hTO st1 st2 fun h' e hk he => ?_) (F.args_zip_next_1 _))))
  obtain ⟨o, ho, hc⟩ := he
  exact wpAny_bind (wpAny_isInstance (T := "StopIteration") (b := true) ⟨o, ho, hc⟩ isSubtype_stop (wpAny_pure (hQ _ hk)))
end
theorem typeCall_zipS (a b c : Value) : checkTypeCall "zip" ⟨[a, b], [(Str.ofString "strict", c)]⟩ = pure () := by kernel_rfl
theorem newCall_zipS (a b c : Value) : checkBuiltinCall "zip.__new__" ⟨[.type "zip", a, b], [(Str.ofString "strict", c)]⟩ = pure () := by kernel_rfl
theorem args_initS (obj a b c : Value) : argsOk "object.__init__" ⟨[obj, a, b], [(Str.ofString "strict", c)]⟩ := by unfold argsOk; kernel_rfl
abbrev zsT (h : Heap) (o1 o2 : Obj) : Heap := ((h.push o1).push o2).push { cls := .type "tuple", data := .seq #[.ref h.objs.size, .ref (h.push o1).objs.size] }
abbrev zsO (h : Heap) (o1 o2 : Obj) : Heap := (zsT h o1 o2).push { cls := .type "tuple", data := .seq #[.none, .none] }
abbrev zsZ (h : Heap) (o1 o2 : Obj) : Heap := (zsO h o1 o2).push { cls := .type "zip", data := .fields #[.none, .bool false, .bool true, .ref ((h.push o1).push o2).objs.size, .ref (zsT h o1 o2).objs.size] }
theorem meets_zipS {v1 v2 : Value} {o1 o2 : Obj} {H1 H2 : Heap → Prop} (B1 : Begins v1 o1 H1) (B2 : Begins v2 o2 H2) :
    Meets (Builtin.«zip.__new__» ⟨[.type "zip", v1, v2], [(Str.ofString "strict", .bool true)]⟩) (fun _ R s => (H1 s.heap ∧ H2 s.heap) ∧
      R (.ok (.ret (.ref (zsO s.heap o1 o2).objs.size))) { s with heap := zsZ s.heap o1 o2 }) :=
  .of_wp fun prog w A R s h => by
    obtain ⟨hp, g, d, tk, os⟩ := s; obtain ⟨⟨h1, h2⟩, h⟩ := h
    have hsub := sub_zip
    have e2 : (Str.ofString "strict" != ("strict" : Str)) = false := by decide +kernel
    have q1 : ∀ {A' : Around} {E : Value → Shared → Prop} {Q : Value → Shared → Prop}, Q (.ref hp.objs.size) ⟨(hp.push o1), g, d, tk, os⟩ → wpAny (model prog w) A' (pyIter v1) Q E ⟨hp, g, d, tk, os⟩ :=
      fun q => B1.iter prog w _ _ ⟨hp, g, d, tk, os⟩ _ (B1.keeps _ _ h1 fun b o' e => e) q
    have q2 : ∀ {A' : Around} {E : Value → Shared → Prop} {Q : Value → Shared → Prop}, Q (.ref (hp.push o1).objs.size) ⟨((hp.push o1).push o2), g, d, tk, os⟩ → wpAny (model prog w) A' (pyIter v2) Q E ⟨(hp.push o1), g, d, tk, os⟩ :=
      fun q => B2.iter prog w _ _ ⟨(hp.push o1), g, d, tk, os⟩ _ (B2.keeps _ _ h2 fun b o' e => (Heap.get?_push_of_some _ e)) q
    wp_walk using q1, q2
    exact ⟨_, rfl, h⟩

section
variable {prog : Program} {w : World} {A : Around} {E : Value → Shared → Prop} {s : Shared}
theorem zipS_begins {v1 v2 : Value} {o1 o2 : Obj} {H1 H2 : Heap → Prop} {Q : Value → Shared → Prop} (B1 : Begins v1 o1 H1) (B2 : Begins v2 o2 H2) (h1 : H1 s.heap) (h2 : H2 s.heap)
    (h : ∀ h', IsZipB true h' (s.heap.objs.size + 4) (s.heap.objs.size + 2) (s.heap.objs.size + 3) .none → IsTupOf2 h' (s.heap.objs.size + 2) (.ref s.heap.objs.size) (.ref (s.heap.objs.size + 1)) →
      IsTupOf2 h' (s.heap.objs.size + 3) .none .none → h'.get? s.heap.objs.size = some o1 → h'.get? (s.heap.objs.size + 1) = some o2 → h'.objs.size = s.heap.objs.size + 5 →
      (∀ c o, s.heap.get? c = some o → h'.get? c = some o) → Q (.ref (s.heap.objs.size + 4)) { s with heap := h' }) :
    wpAny (model prog w) A (call (.type "zip") [v1, v2] [(Str.ofString "strict", .bool true)]) Q E s := by
  refine callType_newKw F.called_zip (by decide) (typeCall_zipS _ _ _) (newCall_zipS _ _ _) (fun obj => args_initS obj _ _ _) F.entry_zip_new
    (meets_zipS B1 B2) ⟨⟨h1, h2⟩, ?_⟩
  have z1 : (s.heap.push o1).objs.size = s.heap.objs.size + 1 := by rw [Heap.size_push]
  have z2 : ((s.heap.push o1).push o2).objs.size = s.heap.objs.size + 2 := by rw [Heap.size_push, z1]
  have zT : (zsT s.heap o1 o2).objs.size = s.heap.objs.size + 3 := by rw [Heap.size_push, z2]
  have zO : (zsO s.heap o1 o2).objs.size = s.heap.objs.size + 4 := by rw [Heap.size_push, zT]
  have zZ : (zsZ s.heap o1 o2).objs.size = s.heap.objs.size + 5 := by rw [Heap.size_push, zO]
  have gZ : (zsZ s.heap o1 o2).get? (zsO s.heap o1 o2).objs.size = some _ := Heap.get?_push_size _ rfl
  have gO : (zsZ s.heap o1 o2).get? (zsT s.heap o1 o2).objs.size = some _ := Heap.get?_push_of_some _ (Heap.get?_push_size _ rfl)
  have gT : (zsZ s.heap o1 o2).get? ((s.heap.push o1).push o2).objs.size = some _ := Heap.get?_push_of_some _ (Heap.get?_push_of_some _ (Heap.get?_push_size _ rfl))
  have g1 : (zsZ s.heap o1 o2).get? s.heap.objs.size = some o1 := Heap.get?_push_of_some _ (Heap.get?_push_of_some _ (Heap.get?_push_of_some _ (Heap.get?_push_of_some _ (Heap.get?_push_size _ B1.free))))
  have g2 : (zsZ s.heap o1 o2).get? (s.heap.push o1).objs.size = some o2 := Heap.get?_push_of_some _ (Heap.get?_push_of_some _ (Heap.get?_push_of_some _ (Heap.get?_push_size _ B2.free)))
  rw [zO, zT, z2] at gZ
  rw [zT] at gO
  rw [z2, z1] at gT
  rw [z1] at g2
  show _ ∧ _
  rw [zO]
  exact ⟨⟨_, gZ, rfl⟩, h _ gZ gT gO g1 g2 zZ fun c o e => Heap.get?_push_of_some _ (Heap.get?_push_of_some _ (Heap.get?_push_of_some _ (Heap.get?_push_of_some _ (Heap.get?_push_of_some _ e))))⟩
end

/-! ### what zip takes: a list or a tuple -/
def SqX (K : PySem.W.Frag) (H : Hp) (b : Bool) (a : Addr) (xs : List V) : Prop := if b = true then SqT K H a xs else SqL K H a xs
def SrcIt (b : Bool) (h : Heap) (it a : Addr) (i : Nat) : Prop := if b = true then h.IsTupleIter it a i else h.IsListIter it a i
def SrcSq (b : Bool) (h : Heap) (a : Addr) (its : Array Value) : Prop := if b = true then h.IsTuple a its else h.IsList a its
def srcO (b : Bool) (a : Addr) : Obj := if b = true then { cls := .type "tuple_iterator", data := .fields #[.ref a, .int 0 0] } else { cls := .type "list_iterator", data := .fields #[.ref a, .int 0 0] }
theorem src_draws {prog : Program} {w : World} {A : Around} (hh : A.handled = none) (b : Bool) (it a : Addr) (hne : a ≠ it) (its : Array Value) :
    Draws prog w A it [it, a] its.size (fun i v => its[i]? = some v) (fun i h => SrcIt b h it a i ∧ SrcSq b h a its) := by
  cases b
  · exact Draws.list hh it a hne its
  · exact Draws.tuple hh it a hne its
theorem src_begins (b : Bool) (a : Addr) (its : Array Value) : Begins (.ref a) (srcO b a) (fun h => SrcSq b h a its) := by
  cases b
  · exact begins_list a its
  · exact begins_tuple a its
theorem src_of {X : Cx} {pins : List (Addr × Obj)} {σ : L2.St} {H : Hp} {s : Shared} (I : L2.Inv X pins σ H s) {b : Bool} {a : Addr} {xs : List V} (h : SqX X.K H b a xs) : ∃ its : List Value, Vals xs its ∧ SrcSq b s.heap a its.toArray ∧ a < s.heap.objs.size := by
  cases b
  · obtain ⟨its, r, p, _⟩ := I.list h
    exact ⟨its, r, p.isList, p.lt⟩
  · obtain ⟨its, r, p, _⟩ := I.tuple h
    exact ⟨its, r, p, p.lt⟩
theorem src_inj {X : Cx} {pins : List (Addr × Obj)} {σ : L2.St} {H : Hp} {s : Shared} (I : L2.Inv X pins σ H s) {b : Bool} {a : Addr} {xs ys : List V} (h : SqX X.K H b a xs) (h' : SqX X.K H b a ys) : xs = ys := by
  cases b
  · exact I.list_inj h h'
  · exact I.tuple_inj h h'
theorem srcIt_at {b : Bool} {h h' : Heap} {it a : Addr} {i : Nat} (x : SrcIt b h it a i) (k : ∀ o, h.get? it = some o → h'.get? it = some o) : SrcIt b h' it a i := by
  cases b
  · exact Heap.IsListIter.at x k
  · exact Heap.IsTupleIter.at x k
theorem srcIt_obj {b : Bool} {h : Heap} {it a : Addr} {i : Nat} (x : SrcIt b h it a i) : ∃ o, h.get? it = some o ∧ ∀ v, o.data ≠ .cell v := by
  cases b
  · obtain ⟨o, e, _, d⟩ := x
    exact ⟨o, e, fun v q => by rw [d] at q; cases q⟩
  · obtain ⟨o, e, _, d⟩ := x
    exact ⟨o, e, fun v q => by rw [d] at q; cases q⟩
theorem srcIt_new {b : Bool} {h : Heap} {it a : Addr} (x : h.get? it = some (srcO b a)) : SrcIt b h it a 0 := by
  cases b
  · exact ⟨_, x, rfl, rfl⟩
  · exact ⟨_, x, rfl, rfl⟩
def ItZ (K : PySem.W.Frag) (st b1 b2 : Bool) (a1 a2 : Addr) : It :=
  ⟨fun i H => ∃ (xs ys : List V) (x y : V), SqX K H b1 a1 xs ∧ SqX K H b2 a2 ys ∧ xs[i]? = some x ∧ ys[i]? = some y,
    fun i H v H' => ∃ T x y, v = .ref T ∧ H T = none ∧ H' = upd H T (.tup [x, y]) ∧ (∀ xs, SqX K H b1 a1 xs → xs[i]? = some x) ∧ ∀ ys, SqX K H b2 a2 ys → ys[i]? = some y,
    fun i H => ∃ xs ys : List V, SqX K H b1 a1 xs ∧ SqX K H b2 a2 ys ∧ i ≤ xs.length ∧ i ≤ ys.length ∧ (i = xs.length ∨ i = ys.length) ∧ (st = true → xs.length = ys.length)⟩
theorem mem5 {c z TI TO i1 i2 : Addr} (h : c ∈ [z, TI, TO, i1, i2]) : c = z ∨ c = TI ∨ c = TO ∨ c = i1 ∨ c = i2 := by simpa using h
theorem nextB_item {prog : Program} {w : World} {A : Around} {E : Value → Shared → Prop} {s : Shared} {z TI TO i1 i2 : Addr} {fp1 fp2 : List Addr} {n1 n2 i : Nat} {P1 P2 : Nat → Value → Prop} {St1 St2 : Nat → Heap → Prop} {a1 a2 : Value} {Q : Option Value → Shared → Prop} (st : Bool)
    (S : ZipSep2 z TI TO i1 i2 fp1 fp2) (D1 : Draws prog w A.in1 i1 fp1 n1 P1 St1) (D2 : Draws prog w A.in1 i2 fp2 n2 P2 St2)
    (hz : IsZipB st s.heap z TI TO .none) (hTI : IsTupOf2 s.heap TI (.ref i1) (.ref i2)) (hTO : IsTupOf2 s.heap TO a1 a2) (st1 : St1 i s.heap) (st2 : St2 i s.heap) (hlt1 : i < n1) (hlt2 : i < n2)
    (hQ : ∀ x1 x2 h' tk, P1 i x1 → P2 i x2 → IsZipB st h' z TI TO (rawInt s.heap.objs.size) → IsTupOf2 h' TO x1 x2 → St1 (i + 1) h' → St2 (i + 1) h' → IsTupOf2 h' s.heap.objs.size x1 x2 → h'.objs.size = s.heap.objs.size + 1 →
      (∀ c o, c ≠ z → c ≠ TO → c ≠ i1 → c ≠ i2 → s.heap.get? c = some o → h'.get? c = some o) → Q (some (.ref s.heap.objs.size)) { s with heap := h', toks := tk }) :
    wpAny (model prog w) A (pyNext (.ref z)) Q E s := by
  cases st
  · exact wpAny_pyNext_zipD2_item S D1 D2 hz hTI hTO st1 st2 hlt1 hlt2 hQ
  · exact nextS_item S D1 D2 hz hTI hTO st1 st2 hlt1 hlt2 hQ
theorem letGoB {prog : Program} {w : World} {A : Around} {E : Value → Shared → Prop} {s : Shared} {z TI TO : Addr} {elts : List Expr} {x1 : Nat} {pos : Pos} {T : Addr} {Q : Unit → Shared → Prop} (st : Bool) (hz : IsZipB st s.heap z TI TO (rawInt T))
    (hQ : ∀ h', IsZipB st h' z TI TO .none → Heap.SameBut z s.heap h' → Q () { s with heap := h' }) :
    wpAny (model prog w) A (letOwnedTupleGo (.Tuple elts x1 pos) (.ref z) (.ref T)) Q E s := by
  cases st
  · exact wpAny_letOwnedTupleGo_zip hz hQ
  · exact letGoS hz hQ
theorem turn_zipB {P : Program} {w : World} {K : PySem.W.Frag} {elts : List Expr} {kk : Nat} {tpos : Pos} {st b1 b2 : Bool} {N a1 a2 : Addr} (l1 : a1 < N) (l2 : a2 < N) :
    Turn P w K (.Tuple elts kk tpos) (ItZ K st b1 b2 a1 a2) [N + 4, N + 2, N + 3, N, N + 1] (N + 4)
      (fun i h => IsZipB st h (N + 4) (N + 2) (N + 3) .none ∧ IsTupOf2 h (N + 2) (.ref N) (.ref (N + 1)) ∧ (∃ x y, IsTupOf2 h (N + 3) x y) ∧ SrcIt b1 h N a1 i ∧ SrcIt b2 h (N + 1) a2 i) where
  mem := by simp
  obj := fun i h stt c hc => by
    obtain ⟨hz, hTI, ⟨x, y, hTO⟩, h1, h2⟩ := stt
    rcases mem5 hc with q | q | q | q | q
    · rw [q]; exact ⟨_, hz, fun v q => nomatch q⟩
    · rw [q]; exact ⟨_, hTI, fun v q => nomatch q⟩
    · rw [q]; exact ⟨_, hTO, fun v q => nomatch q⟩
    · rw [q]; exact srcIt_obj h1
    · rw [q]; exact srcIt_obj h2
  keep := fun i h h' stt k => by
    obtain ⟨hz, hTI, ⟨x, y, hTO⟩, h1, h2⟩ := stt
    exact ⟨k _ (by simp) _ hz, k _ (by simp) _ hTI, ⟨x, y, k _ (by simp) _ hTO⟩, srcIt_at h1 fun o q => k _ (by simp) o q, srcIt_at h2 fun o q => k _ (by simp) o q⟩
  item := by
    intro X hP hw hK hc i pins s σ H E I hf stt hg
    subst hP hw hK
    obtain ⟨hz, hTI, ⟨x0, y0, hTO⟩, h1, h2⟩ := stt
    obtain ⟨xs, ys, x, y, hqx, hqy, hx, hy⟩ := hg
    obtain ⟨its, rv, p1, _⟩ := src_of I hqx
    obtain ⟨its2, rv2, p2, _⟩ := src_of I hqy
    have S : ZipSep2 (N + 4) (N + 2) (N + 3) N (N + 1) [N, a1] [N + 1, a2] := zip_sep2 (by simpa using l1) (by simpa using l2)
    have hn : X.A.in1.handled = none := I.ok.hd hc
    have D1 := src_draws (prog := X.prog) (w := X.w) hn b1 N a1 (Nat.ne_of_lt l1) its.toArray
    have D2 := src_draws (prog := X.prog) (w := X.w) hn b2 (N + 1) a2 (Nat.ne_of_lt (Nat.lt_succ_of_lt l2)) its2.toArray
    have i1 : i < its.toArray.size := by rw [List.size_toArray, ← rv.length]; exact (List.getElem?_eq_some_iff.mp hx).1
    have i2 : i < its2.toArray.size := by rw [List.size_toArray, ← rv2.length]; exact (List.getElem?_eq_some_iff.mp hy).1
    have hzl : N + 4 < s.heap.objs.size := Heap.lt_size hz
    refine nextB_item st S D1 D2 hz hTI hTO ⟨h1, p1⟩ ⟨h2, p2⟩ i1 i2 fun u1 u2 h' tk e1 e2 z' TO' n1 n2 hT hsz hk => ?_
    refine ⟨_, rfl, letGoB (s := { s with heap := h', toks := tk }) st z' fun h'' z'' sb => ?_⟩
    have hT2 : h''.get? s.heap.objs.size = some { cls := .type "tuple", data := .seq #[u1, u2] } := (sb.2 _ (Nat.ne_of_gt hzl)).trans hT
    have ru1 : RelV x u1 := by
      obtain ⟨u, hu, ru⟩ := rv.get hx
      have e1' : its[i]? = some u1 := by simpa using e1
      rw [hu] at e1'
      rw [← Option.some.inj e1']
      exact ru
    have ru2 : RelV y u2 := by
      obtain ⟨u, hu, ru⟩ := rv2.get hy
      have e2' : its2[i]? = some u2 := by simpa using e2
      rw [hu] at e2'
      rw [← Option.some.inj e2']
      exact ru
    have new : ObjOk X.prog X.w (upd H s.heap.objs.size (.tup [x, y])) h'' s.heap.objs.size (.tup [x, y]) :=
      ⟨by show 2 ≤ sizeLine; decide, [u1, u2], .cons ru1 (.cons ru2 .nil), ⟨_, hT2, rfl, _, rfl⟩⟩
    have I1 : L2.Inv X pins σ (upd H s.heap.objs.size (.tup [x, y])) { s with heap := h'', toks := tk } :=
      I.turnedNew (t' := tk) (ch := [N + 4, N + 2, N + 3, N, N + 1]) (fun c o hb q => (sb.2 c (fun q' => hb (by simp [q']))).trans (hk c o (fun q' => hb (by simp [q'])) (fun q' => hb (by simp [q'])) (fun q' => hb (by simp [q'])) (fun q' => hb (by simp [q'])) q)) hf (Nat.le_refl _) new
    refine ⟨.ref s.heap.objs.size, _, I1, rfl, ⟨_, x, y, rfl, I.hok.fresh (Nat.le_refl _), rfl, fun l hl => by rw [src_inj I hl hqx]; exact hx, fun l hl => by rw [src_inj I hl hqy]; exact hy⟩, ⟨z'', ?_, ⟨u1, u2, ?_⟩, ?_, ?_⟩, fun c hcm => ?_⟩
    · exact (sb.2 _ (by show N + 2 ≠ N + 4; exact Nat.ne_of_lt (Nat.add_lt_add_left (by decide) N))).trans (hk _ _ S.TIz S.TITO S.TIi1 S.TIi2 hTI)
    · exact (sb.2 _ S.TOz).trans TO'
    · exact srcIt_at n1.1 fun o q => (sb.2 _ (Ne.symm S.zi1)).trans q
    · exact srcIt_at n2.1 fun o q => (sb.2 _ (Ne.symm S.zi2)).trans q
    · have hlt : c < s.heap.objs.size := by
        rcases mem5 hcm with q | q | q | q | q
        · rw [q]; exact hzl
        · rw [q]; exact Heap.lt_size hTI
        · rw [q]; exact Heap.lt_size hTO
        · rw [q]; obtain ⟨_, e1, _⟩ := srcIt_obj h1; exact Heap.lt_size e1
        · rw [q]; obtain ⟨_, e2, _⟩ := srcIt_obj h2; exact Heap.lt_size e2
      rw [upd_ne (Nat.ne_of_lt hlt)]
      exact (hf c hcm).1
  done := by
    intro X hP hw hK hc i pins s σ H E I hf stt hg
    subst hP hw hK
    obtain ⟨hz, hTI, ⟨x0, y0, hTO⟩, h1, h2⟩ := stt
    obtain ⟨xs, ys, hqx, hqy, le1, le2, hend, hst⟩ := hg
    obtain ⟨its, rv, p1, _⟩ := src_of I hqx
    obtain ⟨its2, rv2, p2, _⟩ := src_of I hqy
    have S : ZipSep2 (N + 4) (N + 2) (N + 3) N (N + 1) [N, a1] [N + 1, a2] := zip_sep2 (by simpa using l1) (by simpa using l2)
    have hn : X.A.in1.handled = none := I.ok.hd hc
    have D1 := src_draws (prog := X.prog) (w := X.w) hn b1 N a1 (Nat.ne_of_lt l1) its.toArray
    have D2 := src_draws (prog := X.prog) (w := X.w) hn b2 (N + 1) a2 (Nat.ne_of_lt (Nat.lt_succ_of_lt l2)) its2.toArray
    have e1 : its.toArray.size = xs.length := by rw [List.size_toArray, ← rv.length]
    have e2 : its2.toArray.size = ys.length := by rw [List.size_toArray, ← rv2.length]
    have fin : ∀ (h' : Heap) (tk : Nat), (∀ c o, c ≠ N + 4 → c ≠ N + 3 → c ≠ N → c ≠ N + 1 → s.heap.get? c = some o → h'.get? c = some o) → L2.Inv X pins σ H { s with heap := h', toks := tk } := fun h' tk hk =>
      I.turnedL (t' := tk) (ch := [N + 4, N + 2, N + 3, N, N + 1]) (fun c o hb q => hk c o (fun q' => hb (by simp [q'])) (fun q' => hb (by simp [q'])) (fun q' => hb (by simp [q'])) (fun q' => hb (by simp [q'])) q) hf
    cases st with
    | false =>
      refine wpAny_pyNext_zipD2_end S D1 D2 hz hTI hTO ⟨h1, p1⟩ ⟨h2, p2⟩ (by rw [e1]; exact le1) (by rw [e2]; exact le2) (by rw [e1, e2]; exact hend) fun h' tk hk => ⟨rfl, fin h' tk hk⟩
    | true =>
      have e3 : i = its.toArray.size := by
        have := hst rfl
        rcases hend with q | q
        · rw [e1]; exact q
        · rw [e1, this]; exact q
      have e4 : its2.toArray.size = its.toArray.size := by rw [e1, e2]; exact (hst rfl).symm
      rw [e4] at D2
      rw [e3] at h1 h2
      exact nextS_end (I.ok.hd hc) S D1 D2 hz hTI hTO ⟨h1, p1⟩ ⟨h2, p2⟩ fun h' hk => ⟨rfl, fin h' s.toks hk⟩
  self := fun A i s Q E stt h => by
    cases st
    · exact wpAny_pyIter_zip stt.1 h
    · exact iterS stt.1 h

/-! ### by data -/
def sqD : Bool → List D → D
  | true, ds => .tup ds
  | false, ds => .lst ds
def zipD (ds es : List D) : List D := (ds.zip es).map fun p => .tup [p.1, p.2]
theorem sq_of {K : PySem.W.Frag} {M : Dm} {H : Hp} {v : V} {b : Bool} {ds : List D} (h : Rp K (hid M H) v (sqD b ds)) : ∃ a xs, v = .ref a ∧ SqX K (hid M H) b a xs ∧ RpA K (hid M H) xs ds := by
  cases b
  · cases h with
    | lst q ra => exact ⟨_, _, rfl, .inl (.inl q), ra⟩
  · cases h with
    | tup q ra => exact ⟨_, _, rfl, q, ra⟩
theorem sqX_mono {K : PySem.W.Frag} {H H' : Hp} {b : Bool} {a : Addr} {xs : List V} (e : Evl.Ex H H') (h : SqX K H b a xs) : SqX K H' b a xs := by
  cases b
  · exact Evl.ex_l e h
  · exact Evl.ex_t e h
theorem itZ_ok {K : PySem.W.Frag} {M : Dm} {H : Hp} {st b1 b2 : Bool} {a1 a2 : Addr} {xs ys : List V} {ds es : List D} (q1 : SqX K (hid M H) b1 a1 xs) (r1 : RpA K (hid M H) xs ds) (q2 : SqX K (hid M H) b2 a2 ys) (r2 : RpA K (hid M H) ys es)
    (hst : st = true → ds.length = es.length) : ItOk K M (ItZ K st b1 b2 a1 a2) H (zipD ds es) := by
  have hl : (zipD ds es).length = min ds.length es.length := by unfold zipD; rw [List.length_map, List.length_zip]
  have up : ∀ {M' : Dm} {H' : Hp}, Xt M H M' H' → SqX K H' b1 a1 xs ∧ SqX K H' b2 a2 ys := fun x => ⟨sqX_mono (x.ex.trans hid_ex) q1, sqX_mono (x.ex.trans hid_ex) q2⟩
  refine ⟨fun i M' H' x hi => ?_, fun i M' H' v H2 d lv x hd hy => ?_, fun M' H' x => ?_⟩
  · rw [hl] at hi
    obtain ⟨u1, u2⟩ := up x
    have i1 : i < xs.length := by rw [r1.length]; omega
    have i2 : i < ys.length := by rw [r2.length]; omega
    exact ⟨xs, ys, xs[i], ys[i], u1, u2, List.getElem?_eq_getElem i1, List.getElem?_eq_getElem i2⟩
  · obtain ⟨u1, u2⟩ := up x
    obtain ⟨T, p, q, rfl, hT, rfl, e1, e2⟩ := hy
    have f1 := e1 xs u1
    have f2 := e2 ys u2
    have hi : i < (zipD ds es).length := (List.getElem?_eq_some_iff.mp hd).1
    rw [hl] at hi
    have i1 : i < ds.length := by omega
    have i2 : i < es.length := by omega
    have ed : d = .tup [ds[i], es[i]] := by
      unfold zipD at hd
      rw [List.getElem?_map] at hd
      have : (ds.zip es)[i]? = some (ds[i], es[i]) := by
        rw [List.getElem?_eq_getElem (by rw [List.length_zip]; omega), List.getElem_zip]
      rw [this] at hd
      exact (Option.some.inj hd).symm
    subst ed
    have nT : M' T = false := by
      cases e : M' T with
      | false => rfl
      | true => exact absurd hT (lv T e)
    have xn : Xt M' H' M' (upd H' T (.tup [p, q])) := Xt.new hT
    refine ⟨xn, fun a ha => upd_ne (fun e => by rw [e, nT] at ha; cases ha), .tup (xs := [p, q]) (.inl (.inl ?_)) ?_⟩
    · rw [hid_out nT]; exact upd_same
    · obtain ⟨v1, w1, z1⟩ := (r1.mono x.ex).get (List.getElem?_eq_getElem i1)
      obtain ⟨v2, w2, z2⟩ := (r2.mono x.ex).get (List.getElem?_eq_getElem i2)
      rw [f1] at w1
      rw [f2] at w2
      cases w1
      cases w2
      exact .cons (z1.mono xn.ex) (.cons (z2.mono xn.ex) .nil)
  · obtain ⟨u1, u2⟩ := up x
    have a1 := r1.length
    have a2 := r2.length
    exact ⟨xs, ys, u1, u2, by rw [hl]; omega, by rw [hl]; omega, by rw [hl]; omega, fun z => by rw [a1, a2]; exact hst z⟩
def iZ (K : PySem.W.Frag) (st : Bool) (ta : TA) : TI := fun σ H R => ta σ H fun vs H1 => ∃ M v1 v2 b1 b2 ds es, vs = [v1, v2] ∧ Rp K (hid M H1) v1 (sqD b1 ds) ∧ Rp K (hid M H1) v2 (sqD b2 es) ∧ (st = true → ds.length = es.length) ∧ ∀ J, ItOk K M J H1 (zipD ds es) → R J H1
theorem fp5 {X : Cx} {pins : List (Addr × Obj)} {σ : L2.St} {H : Hp} {s : Shared} (I : L2.Inv X pins σ H s) : ∀ c, c ∈ [s.heap.objs.size + 4, s.heap.objs.size + 2, s.heap.objs.size + 3, s.heap.objs.size, s.heap.objs.size + 1] → FpOk X pins H c := fun c hcm => by
  have hle : s.heap.objs.size ≤ c := by
    rcases mem5 hcm with z | z | z | z | z
    · rw [z]; exact Nat.le_add_right _ _
    · rw [z]; exact Nat.le_add_right _ _
    · rw [z]; exact Nat.le_add_right _ _
    · rw [z]; exact Nat.le_refl _
    · rw [z]; exact Nat.le_add_right _ _
  exact I.fpOk hle (I.hok.fresh hle)
section
variable {X : Cx} {e e2 : Expr} {ta : TA} {p pos tpos : Pos} {elts : List Expr} {kk : Nat}
/-- for a, b in zip(xs, ys) -/
theorem pi_zipN (hg : Gl X "zip") (hm : X.mg "zip" = none) (ha : PA X [e, e2] ta)
    (hs : starEach [e, e2] X.env = (false, eval e X.env) :: starEach [e2] X.env := by rfl) (hpl : (backTo pos (starEach [e2] X.env)).any (·.1) = false := by rfl) :
    PI X (.Tuple elts kk tpos) (.Call (.Name "zip" p) [e, e2] [] pos) (iZ X.K false ta) := by
  refine ⟨fun pins s σ H R I h => ?_⟩
  refine Call_ (ld_blt I hg hm PyProof.Rows.boot_zip (PyProof.Rows.callWith_type1 (thn (ha.run pos pins s σ H _ I h) fun us s1 ⟨vs, H1, I1, r1, q1⟩ => ?_) hs hpl))
  obtain ⟨M, v1, v2, b1, b2, ds, es, ex, h1, h2, hst, q⟩ := q1
  subst ex
  obtain ⟨a1, xs, rfl, q1, ra1⟩ := sq_of h1
  obtain ⟨a2, ys, rfl, q2, ra2⟩ := sq_of h2
  obtain ⟨u1, u2, rfl, rr1, rr2⟩ := vals2 r1
  cases rr1
  cases rr2
  obtain ⟨its, _, p1, l1⟩ := src_of I1 (sqX_mono hid_ex q1)
  obtain ⟨its2, _, p2, l2⟩ := src_of I1 (sqX_mono hid_ex q2)
  refine zip_begins2 (src_begins b1 a1 its.toArray) (src_begins b2 a2 its2.toArray) p1 p2 fun h' hz hTI hTO g1 g2 hsz hk => wpAny_pyIter_zip hz ?_
  have I2 : L2.Inv X pins σ H1 { s1 with heap := h' } := I1.kept (t' := s1.toks) hk
  exact ⟨s1.heap.objs.size + 4, _, _, _, H1, rfl, I2, turn_zipB (st := false) (b1 := b1) (b2 := b2) l1 l2, ⟨hz, hTI, ⟨_, _, hTO⟩, srcIt_new g1, srcIt_new g2⟩, fp5 I1, q _ (itZ_ok q1 ra1 q2 ra2 hst)⟩
theorem callWith_tyKw {M : Model} {A : Around} {E : Value → Shared → Prop} {s : Shared} {pos : Pos} {T : String} {args : List (Bool × Sem Value)} {keywords : List (Option Str × Sem Value)} {Q : Value → Shared → Prop}
    (hplain : args.any (·.1) = false) (hkw : keywords.any (·.1.isNone) = false)
    (h : wpAny M A (evalArgs (.type T) true args keywords) (fun a s1 => wpAny M A (call (.type T) a.pos a.kw) Q E s1) E s) :
    wpAny M A (callWith pos (.type T) [] args keywords) Q E s := by
  unfold callWith
  refine wpAny_bind (wpAny_holding (wpAny_mono h (fun a s1 h1 => wpAny_bind (wpAny_standAt ?_)) fun _ _ x => x))
  simp only [hplain, hkw, Bool.or_false]
  refine wpAny_bind (wpAny_pure ?_)
  exact wpAny_bind (wpAny_mono h1 (fun r s2 hr => wpAny_bind (wpAny_holding (wpAny_point (wpAny_pure hr)))) fun _ _ x => x)
/-- for a, b in zip(xs, ys, strict=True) -/
theorem pi_zipS {k : Nat} {cp kp : Pos} (hg : Gl X "zip") (hm : X.mg "zip" = none) (ha : PA X [e, e2] ta)
    (he : backTo pos (starEach [e, e2] X.env) = (false, eval e X.env) :: backTo pos (starEach [e2] X.env) := by rfl) (hpl : (backTo pos (starEach [e, e2] X.env)).any (·.1) = false := by rfl) :
    PI X (.Tuple elts kk tpos) (.Call (.Name "zip" p) [e, e2] [⟨some "strict", .Constant (.bool true) k cp, kp⟩] pos) (iZ X.K true ta) := by
  refine ⟨fun pins s σ H R I h => ?_⟩
  refine wpAny_Call_Name_kw (ld_blt I hg hm PyProof.Rows.boot_zip ?_)
  refine callWith_tyKw hpl rfl ?_
  have hA := ha.run pos pins s σ H _ I h
  rw [he] at hA ⊢
  refine evalArgs_kwB rfl (thn hA fun us s1 ⟨vs, H1, I1, r1, q1⟩ => ?_)
  refine kws_cons (Constant_bool (kws_nil ?_))
  obtain ⟨M, v1, v2, b1, b2, ds, es, ex, h1, h2, hst, q⟩ := q1
  subst ex
  obtain ⟨a1, xs, rfl, q1, ra1⟩ := sq_of h1
  obtain ⟨a2, ys, rfl, q2, ra2⟩ := sq_of h2
  obtain ⟨u1, u2, rfl, rr1, rr2⟩ := vals2 r1
  cases rr1
  cases rr2
  obtain ⟨its, _, p1, l1⟩ := src_of I1 (sqX_mono hid_ex q1)
  obtain ⟨its2, _, p2, l2⟩ := src_of I1 (sqX_mono hid_ex q2)
  show wpAny _ _ (call (.type "zip") [.ref a1, .ref a2] [(Str.ofString "strict", .bool true)]) _ _ _
  refine zipS_begins (src_begins b1 a1 its.toArray) (src_begins b2 a2 its2.toArray) p1 p2 fun h' hz hTI hTO g1 g2 hsz hk => iterS hz ?_
  have I2 : L2.Inv X pins σ H1 { s1 with heap := h' } := I1.kept (t' := s1.toks) hk
  exact ⟨s1.heap.objs.size + 4, _, _, _, H1, rfl, I2, turn_zipB (st := true) (b1 := b1) (b2 := b2) l1 l2, ⟨hz, hTI, ⟨_, _, hTO⟩, srcIt_new g1, srcIt_new g2⟩, fp5 I1, q _ (itZ_ok q1 ra1 q2 ra2 hst)⟩
end
end Cr

/-! Cr5: walks and calls of built-ins, by data. -/
namespace Cr
open PySem PySem.Spec PyProof.Rows L2

/-! ### walks -/
section
variable {X : Cx} {tg : Expr}
def iD (K : PySem.W.Frag) (te : TE) : TI := fun σ H R => te σ H fun v H1 => ∃ M b ds, Rp K (hid M H1) v (sqD b ds) ∧ ∀ J, ItOk K M J H1 ds → R J H1
theorem itl_ok {K : PySem.W.Frag} {M : Dm} {H : Hp} {a : Addr} {xs : List V} {ds : List D} (q : hid M H a = some (.lst xs)) (ra : RpA K (hid M H) xs ds) : ItOk K M (Itl K a) H ds := by
  have hl := ra.length
  have up : ∀ {M' : Dm} {H' : Hp}, Xt M H M' H' → SqL K H' a xs := fun x => .inl (.inl ((x.ex.trans hid_ex) _ _ q))
  refine ⟨fun i M' H' x hi => ?_, fun i M' H' v H2 d lv x hd hy => ?_, fun M' H' x => ⟨xs, up x, by omega⟩⟩
  · have i1 : i < xs.length := by omega
    exact ⟨xs, xs[i], up x, List.getElem?_eq_getElem i1⟩
  · obtain ⟨rfl, e⟩ := hy
    obtain ⟨w, e2, rw2⟩ := (ra.mono x.ex).get hd
    have e3 := e xs (up x)
    rw [e2] at e3
    cases e3
    exact ⟨Xt.refl, fun _ _ => rfl, rw2⟩
theorem itt_ok {K : PySem.W.Frag} {M : Dm} {H : Hp} {a : Addr} {xs : List V} {ds : List D} (q : SqT K (hid M H) a xs) (ra : RpA K (hid M H) xs ds) : ItOk K M (Itt K a) H ds := by
  have hl := ra.length
  have up : ∀ {M' : Dm} {H' : Hp}, Xt M H M' H' → SqT K H' a xs := fun x => Evl.ex_t (x.ex.trans hid_ex) q
  refine ⟨fun i M' H' x hi => ?_, fun i M' H' v H2 d lv x hd hy => ?_, fun M' H' x => ⟨xs, up x, by omega⟩⟩
  · have i1 : i < xs.length := by omega
    exact ⟨xs, xs[i], up x, List.getElem?_eq_getElem i1⟩
  · obtain ⟨rfl, e⟩ := hy
    obtain ⟨w, e2, rw2⟩ := (ra.mono x.ex).get hd
    have e3 := e xs (up x)
    rw [e2] at e3
    cases e3
    exact ⟨Xt.refl, fun _ _ => rfl, rw2⟩
theorem pi_D {l : Expr} {tl : TE} (hl : PE X l tl) : PI X tg l (iD X.K tl) := by
  refine ⟨fun pins s σ H R I h => ?_⟩
  refine thn (hl.run pins s σ H _ I h) fun v s1 ⟨x, H1, I1, r1, M, b, ds, rp, q⟩ => ?_
  cases b with
  | false =>
    cases rp with
    | @lst a xs _ e ra =>
      cases r1
      obtain ⟨its, rv, p, hz⟩ := I1.list (.inl (.inl (hid_some e).2))
      refine wpAny_pyIter_list p.isList ?_
      refine ⟨s1.heap.objs.size, [s1.heap.objs.size], _, _, H1, rfl, I1.kept (t' := s1.toks) fun b o e => Heap.get?_push_of_some _ e, turn_list a _, ⟨_, Heap.get?_push_size _ rfl, rfl, rfl⟩, fun b hb => ?_, q _ (itl_ok e ra)⟩
      have e : b = s1.heap.objs.size := by simpa using hb
      subst e
      exact I1.fpOk (Nat.le_refl _) (I1.hok.fresh (Nat.le_refl _))
  | true =>
    cases rp with
    | @tup a xs _ e ra =>
      cases r1
      obtain ⟨its, rv, p, hz⟩ := I1.tuple (sqT_hid e)
      refine wpAny_pyIter_tuple (show s1.heap.IsTuple a its.toArray from p) ?_
      refine ⟨s1.heap.objs.size, [s1.heap.objs.size], _, _, H1, rfl, I1.kept (t' := s1.toks) fun b o e => Heap.get?_push_of_some _ e, turn_tuple a _, ⟨_, Heap.get?_push_size _ rfl, rfl, rfl⟩, fun b hb => ?_, q _ (itt_ok e ra)⟩
      have e : b = s1.heap.objs.size := by simpa using hb
      subst e
      exact I1.fpOk (Nat.le_refl _) (I1.hok.fresh (Nat.le_refl _))
end
section
variable {K : PySem.W.Frag} {r : Ro} {m : Sto}
theorem wi_D {te : TE} {Q : List D → Sto → Prop} (h : WE K r m te fun s m1 => ∃ b ds, s = .val (sqD b ds) ∧ Q ds m1) : WI K r m (iD K te) Q := fun σ H R e st k =>
  h σ H _ e st fun v H1 s m1 x1 so1 rs ⟨b, ds, es, q⟩ => by
    subst es
    exact ⟨dom m1, b, ds, rs, fun J io => k J H1 ds m1 x1 so1 io q⟩
theorem wi_Z {st : Bool} {ta : TA} {Q : List D → Sto → Prop} (h : WA K r m ta fun ss m1 => ∃ b1 b2 ds es, ss = [.val (sqD b1 ds), .val (sqD b2 es)] ∧ (st = true → ds.length = es.length) ∧ Q (zipD ds es) m1) : WI K r m (iZ K st ta) Q := fun σ H R e so k =>
  h σ H _ e so fun vs H1 ss m1 x1 so1 rs ⟨b1, b2, ds, es, ess, hst, q⟩ => by
    subst ess
    cases rs with
    | cons r1 rs =>
      cases rs with
      | cons r2 rs =>
        cases rs
        exact ⟨dom m1, _, _, b1, b2, ds, es, rfl, r1, r2, hst, fun J io => k J H1 _ m1 x1 so1 io q⟩
theorem itr_ok {M : Dm} {H : Hp} (lo : Int) (n : Nat) : ItOk K M (Itr lo n) H ((List.range n).map fun (i : Nat) => D.int (lo + (i : Int))) := by
  refine ⟨fun i M' H' x hi => ?_, fun i M' H' v H2 d lv x hd hy => ?_, fun M' H' x => ?_⟩
  · show i < n
    rw [List.length_map, List.length_range] at hi
    exact hi
  · obtain ⟨rfl, rfl⟩ := hy
    rw [List.getElem?_map] at hd
    cases e : (List.range n)[i]? with
    | none => rw [e] at hd; cases hd
    | some j =>
      rw [e] at hd
      have ej : i = j := by
        obtain ⟨h1, h2⟩ := List.getElem?_eq_some_iff.mp e
        rw [List.getElem_range] at h2
        exact h2
      subst ej
      cases hd
      exact ⟨Xt.refl, fun _ _ => rfl, .int _⟩
  · show n ≤ ((List.range n).map fun (i : Nat) => D.int (lo + (i : Int))).length
    rw [List.length_map, List.length_range]
    exact Nat.le_refl _
def rngD (lo : Int) (n : Nat) : List D := (List.range n).map fun (i : Nat) => D.int (lo + (i : Int))
theorem wi_rng1 {ta : TA} {Q : List D → Sto → Prop} (h : WA K r m ta fun ss m1 => ∃ j : Int, ss = [.val (.int j)] ∧ -(2 ^ 62) ≤ j ∧ j < 2 ^ 62 ∧ Q (rngD 0 j.toNat) m1) : WI K r m (iRng1 ta) Q := fun σ H R e so k =>
  h σ H _ e so fun vs H1 ss m1 x1 so1 rs ⟨j, es, h1, h2, q⟩ => by
    subst es
    cases rs with
    | cons r1 rs =>
      cases rs
      have r1' : Rp K (hid (dom m1) H1) _ (.int j) := r1
      cases r1'
      exact ⟨j, rfl, h1, h2, k _ H1 _ m1 x1 so1 (itr_ok 0 j.toNat) q⟩
theorem wi_rng2 {ta : TA} {Q : List D → Sto → Prop} (h : WA K r m ta fun ss m1 => ∃ i j : Int, ss = [.val (.int i), .val (.int j)] ∧ (-(2 ^ 62) ≤ i ∧ i < 2 ^ 62 ∧ -(2 ^ 62) ≤ j ∧ j < 2 ^ 62) ∧ Q (rngD i (j - i).toNat) m1) : WI K r m (iRng2 ta) Q := fun σ H R e so k =>
  h σ H _ e so fun vs H1 ss m1 x1 so1 rs ⟨i, j, es, hb, q⟩ => by
    subst es
    cases rs with
    | cons r1 rs =>
      cases rs with
      | cons r2 rs =>
        cases rs
        have r1' : Rp K (hid (dom m1) H1) _ (.int i) := r1
        have r2' : Rp K (hid (dom m1) H1) _ (.int j) := r2
        cases r1'
        cases r2'
        exact ⟨i, j, rfl, hb, k _ H1 _ m1 x1 so1 (itr_ok i (j - i).toNat) q⟩
theorem we_bits {to : TE} {Q : Sv → Sto → Prop} (h : WE K r m to fun s m1 => ∃ i, s = .val (.int i) ∧ Q (.val (.int (Builtin.Int.intBits i : Nat))) m1) : WE K r m (tBits to) Q := fun σ H QV e so k =>
  h σ H _ e so fun v H1 s m1 x1 so1 rs ⟨i, es, q⟩ => by
    subst es
    have r1' : Rp K (hid (dom m1) H1) _ (.int i) := rs
    cases r1'
    exact ⟨i, rfl, k _ H1 (.val (.int (Builtin.Int.intBits i : Nat))) m1 x1 so1 (show Rp _ _ _ _ from .int _) q⟩
end

/-! ### calls -/
inductive RLen : List D → Rs → Prop
  | lst (ds : List D) : RLen [.lst ds] (.v (.int ds.length))
  | tup (ds : List D) : RLen [.tup ds] (.v (.int ds.length))
  | scr (ns : List Int) : RLen [.scr ns] (.v (.int ns.length))
  | str {z : Str} (h : z.length ≤ szD) : RLen [.str z] (.v (.int z.length))
inductive RTup : List D → Rs → Prop
  | lst (ds : List D) : RTup [.lst ds] (.v (.tup ds))
  | tup (ds : List D) : RTup [.tup ds] (.v (.tup ds))
inductive RLst : List D → Rs → Prop
  | lst (ds : List D) : RLst [.lst ds] (.l ds)
  | tup (ds : List D) : RLst [.tup ds] (.l ds)
  | str {z : Str} (h : z.length ≤ szD) : RLst [.str z] (.l (z.cps.toList.map fun c => D.str ⟨#[c]⟩))
inductive RInt : List D → Rs → Prop
  | int (i : Int) : RInt [.int i] (.v (.int i))
  | bl (b : Bool) : RInt [.bl b] (.v (.int (if b then 1 else 0)))
inductive RMax : List D → Rs → Prop
  | int (i j : Int) : RMax [.int i, .int j] (.v (.int (if j > i then j else i)))
inductive RMin : List D → Rs → Prop
  | int (i j : Int) : RMin [.int i, .int j] (.v (.int (if j < i then j else i)))
inductive RSum : List D → Rs → Prop
  | lst (ns : List Int) : RSum [.lst (ns.map .int)] (.v (.int ns.sum))
  | tup (ns : List Int) : RSum [.tup (ns.map .int)] (.v (.int ns.sum))
section
variable {X : Cx}
theorem rpWs1 {K : PySem.W.Frag} {M : Dm} {H : Hp} {xs : List V} {d : D} (h : RpWs K M H xs [d]) : ∃ x, xs = [x] ∧ RpW K M H x d := by
  cases h with
  | cons h1 h2 => cases h2; exact ⟨_, rfl, h1⟩
theorem rpWs2 {K : PySem.W.Frag} {M : Dm} {H : Hp} {xs : List V} {d e : D} (h : RpWs K M H xs [d, e]) : ∃ x y, xs = [x, y] ∧ RpW K M H x d ∧ RpW K M H y e := by
  cases h with
  | cons h1 h2 => cases h2 with
    | cons h2 h3 => cases h3; exact ⟨_, _, rfl, h1, h2⟩
theorem call_lenD : CallR X (.builtin "len") (rDN X.K RLen) := by
  intro pins s σ H xs us Q I r ⟨M, ds, c, lv, hs, hf, k⟩
  cases hf with
  | lst ds =>
    obtain ⟨x, rfl, h⟩ := rpWs1 hs
    obtain ⟨a, ys, rfl, e, ra⟩ := h.lst
    exact call_len_seq pins s σ H _ us Q I r ⟨a, ys, rfl, .inl (.inl (.inl e)), by rw [ra.length]; exact k.v (.int _)⟩
  | tup ds =>
    obtain ⟨x, rfl, h⟩ := rpWs1 hs
    obtain ⟨a, ys, rfl, e, ra⟩ := h.tup
    exact call_len_seq pins s σ H _ us Q I r ⟨a, ys, rfl, .inr (sqT_hid e), by rw [ra.length]; exact k.v (.int _)⟩
  | scr ns =>
    obtain ⟨x, rfl, h⟩ := rpWs1 hs
    cases h.rp with
    | scr e => exact call_len_seq pins s σ H _ us Q I r ⟨_, _, rfl, .inl e, by rw [List.length_map]; exact k.v (.int _)⟩
  | str hz =>
    obtain ⟨x, rfl, h⟩ := rpWs1 hs
    cases h.str
    exact call_len_str pins s σ H _ us Q I r ⟨_, rfl, szD_line hz, k.v (.int _)⟩
theorem call_tupD : CallR X (.type "tuple") (rDN X.K RTup) := by
  intro pins s σ H xs us Q I r ⟨M, ds, c, lv, hs, hf, k⟩
  cases hf with
  | lst ds =>
    obtain ⟨x, rfl, h⟩ := rpWs1 hs
    obtain ⟨a, ys, rfl, e, ra⟩ := h.lst
    exact call_tuple_of pins s σ H _ us Q I r ⟨a, ys, rfl, .inl ⟨.inl (.inl e), fun l hl => k.tup lv hl ra⟩⟩
  | tup ds =>
    obtain ⟨x, rfl, h⟩ := rpWs1 hs
    obtain ⟨a, ys, rfl, e, ra⟩ := h.tup
    exact call_tuple_of pins s σ H _ us Q I r ⟨a, ys, rfl, .inr ⟨sqT_hid e, k.v (.tup e ra)⟩⟩
theorem vals_signs : ∀ {cs : List Nat} {vs : List Value}, vs.length = cs.length → (∀ (j : Nat) (v : Value), vs[j]? = some v → ∃ c u, cs[j]? = some c ∧ v = .str ⟨#[c]⟩ u) → Vals (cs.map fun c => V.str ⟨#[c]⟩) vs
  | [], [], _, _ => .nil
  | [], _ :: _, h, _ => by cases h
  | _ :: _, [], h, _ => by cases h
  | c :: cs, v :: vs, h, hj => by
    obtain ⟨c', u, e1, e2⟩ := hj 0 v rfl
    have e1' : c = c' := Option.some.inj e1
    subst e1' e2
    exact .cons ⟨u, rfl⟩ (vals_signs (by simpa using h) fun j w hw => hj (j + 1) w hw)
theorem signs_rp {K : PySem.W.Frag} {H : Hp} : ∀ cs : List Nat, RpA K H (cs.map fun c => V.str ⟨#[c]⟩) (cs.map fun c => D.str ⟨#[c]⟩)
  | [] => .nil
  | c :: cs => .cons (.str _) (signs_rp cs)
theorem call_lstD (hc : X.calm = true) : CallR X (.type "list") (rDN X.K RLst) := by
  intro pins s σ H xs us Q I r ⟨M, ds, c, lv, hs, hf, k⟩
  cases hf with
  | lst ds =>
    obtain ⟨x, rfl, h⟩ := rpWs1 hs
    obtain ⟨a, ys, rfl, e, ra⟩ := h.lst
    exact call_list_of pins s σ H _ us Q I r ⟨a, ys, rfl, .inl (.inl (.inl e)), fun l hl => k l _ hl ra⟩
  | tup ds =>
    obtain ⟨x, rfl, h⟩ := rpWs1 hs
    obtain ⟨a, ys, rfl, e, ra⟩ := h.tup
    exact call_list_of pins s σ H _ us Q I r ⟨a, ys, rfl, .inr (sqT_hid e), fun l hl => k l _ hl ra⟩
  | @str z hz =>
    obtain ⟨x, rfl, h⟩ := rpWs1 hs
    obtain ⟨u, rfl, rx⟩ := vals1 r
    cases h.str
    obtain ⟨t, rfl⟩ := rx
    have hsz : z.cps.size ≤ sizeLine := szD_line hz
    refine PySem.call_list_str (I.ok.hd hc) z t (fun h' tk acc' c' kp e hacc => ?_) hsz
    have hv : Vals (z.cps.toList.map fun c => V.str ⟨#[c]⟩) acc'.toList := vals_signs (by rw [Array.length_toList, Array.length_toList]; exact hacc.1) fun j v hj => by
      obtain ⟨c, u, h1, h2⟩ := hacc.2 j v (by simpa using hj)
      exact ⟨c, u, by simpa using h1, h2⟩
    refine ⟨.ref s.heap.objs.size, _, I.laid (t' := tk) (o := .lst (z.cps.toList.map fun c => V.str ⟨#[c]⟩)) kp (Nat.le_refl _) ⟨by rw [List.length_map, Array.length_toList]; exact hsz, acc'.toList, c', hv, by simpa using e⟩, rfl, k _ _ (I.hok.fresh (Nat.le_refl _)) (signs_rp _)⟩
theorem call_intD : CallR X (.type "int") (rDN X.K RInt) := by
  intro pins s σ H xs us Q I r ⟨M, ds, c, lv, hs, hf, k⟩
  cases hf with
  | int i =>
    obtain ⟨x, rfl, h⟩ := rpWs1 hs
    cases h.int
    exact call_int1 pins s σ H _ us Q I r (.inl ⟨i, rfl, k.v (.int _)⟩)
  | bl b =>
    obtain ⟨x, rfl, h⟩ := rpWs1 hs
    cases h.bl
    exact call_int1 pins s σ H _ us Q I r (.inr ⟨b, rfl, k.v (.int _)⟩)
theorem call_maxD (hc : X.calm = true) : CallR X (.builtin "max") (rDN X.K RMax) := by
  intro pins s σ H xs us Q I r ⟨M, ds, c, lv, hs, hf, k⟩
  cases hf with
  | int i j =>
    obtain ⟨x, y, rfl, h1, h2⟩ := rpWs2 hs
    cases h1.int
    cases h2.int
    exact call_max2 hc pins s σ H _ us Q I r ⟨i, j, rfl, k.v (.int _)⟩
theorem call_minD (hc : X.calm = true) : CallR X (.builtin "min") (rDN X.K RMin) := by
  intro pins s σ H xs us Q I r ⟨M, ds, c, lv, hs, hf, k⟩
  cases hf with
  | int i j =>
    obtain ⟨x, y, rfl, h1, h2⟩ := rpWs2 hs
    cases h1.int
    cases h2.int
    exact call_min2 hc pins s σ H _ us Q I r ⟨i, j, rfl, k.v (.int _)⟩
theorem call_sumD (hc : X.calm = true) : CallR X (.builtin "sum") (rDN X.K RSum) := by
  intro pins s σ H xs us Q I r ⟨M, ds, c, lv, hs, hf, k⟩
  cases hf with
  | lst ns =>
    obtain ⟨x, rfl, h⟩ := rpWs1 hs
    obtain ⟨a, ys, rfl, e, ra⟩ := h.lst
    have ey := ra.ints
    subst ey
    exact cr_sum hc pins s σ H _ us Q I r ⟨a, ns, rfl, .inl (.inl e), k.v (.int _)⟩
  | tup ns =>
    obtain ⟨x, rfl, h⟩ := rpWs1 hs
    obtain ⟨a, ys, rfl, e, ra⟩ := h.tup
    have ey := ra.ints
    subst ey
    obtain ⟨its, rv, ht, _⟩ := I.tuple (sqT_hid e)
    rw [Vals.ref1 r]
    have hi := rv.ints
    obtain ⟨xs, ex⟩ := hi.allInts.items
    have hn : numsOf (intItems xs).toList = ns := by rw [← ex]; exact hi.numsOf
    rw [nums_intItems] at hn
    rw [ex] at ht
    refine PySem.W.ktm_sumG (I.ok.hd hc) ht fun h' tk t' hk => ?_
    rw [preSum_eq, List.take_of_length_le (by simp), hn]
    exact ⟨.int _, H, I.kept hk, ⟨_, rfl⟩, k.v (.int _)⟩
end
/-! isinstance -/
def D.tn : D → Option String
  | .non => some "NoneType"
  | .bl _ => some "bool"
  | .int _ => some "int"
  | .str _ => some "str"
  | .lst _ => some "list"
  | .tup _ => some "tuple"
  | .scr _ => some "list"
  | _ => none
theorem tyX_of {K : PySem.W.Frag} {M : Dm} {H : Hp} {v : V} {d : D} {t : String} (h : RpW K M H v d) (e : d.tn = some t) : TyX K H v (.type t) := by
  cases h.rp with
  | non => cases e; exact .base .non
  | bl b => cases e; exact .base (.bl b)
  | int i => cases e; exact .base (.int i)
  | str x => cases e; exact .base (.str x)
  | ty n => cases e
  | lst q _ => cases e; exact .base (.lst q)
  | tup q _ =>
    cases e
    rcases q with (q | ⟨o, q⟩) | ⟨o, its, n, q, hc, _⟩
    · exact .base (.tup q)
    · exact .fTuple q
    · exact .kTuple q hc
  | scr q =>
    cases e
    rcases q with (q | ⟨o, q⟩) | ⟨o, its, n, q, hc, _⟩
    · exact .base (.lst q)
    · exact .base (.frz q)
    · exact .kList q hc
  | ins q _ => cases e
inductive KAny (t : String) : List String → Bool → Prop
  | nil : KAny t [] false
  | yes {n : String} {ns : List String} (h : kitB t n = some true) : KAny t (n :: ns) true
  | no {n : String} {ns : List String} {b : Bool} (h : kitB t n = some false) (k : KAny t ns b) : KAny t (n :: ns) b
theorem KAny.kit {K : PySem.W.Frag} {t : String} : ∀ {ns : List String} {b : Bool}, KAny t ns b → PySem.W.kitAny K (.type t) (ns.map Value.type) = some b
  | _, _, .nil => kitAny_nil
  | _, _, .yes h => kitAny_cons (kit_ty h) (fun q => by cases q) (fun _ => rfl)
  | _, _, .no h k => kitAny_cons (kit_ty h) (fun _ => k.kit) (fun q => by cases q)
inductive RIsi : List D → Rs → Prop
  | one {d : D} {n t : String} {b : Bool} (h : d.tn = some t) (k : kitB t n = some b) : RIsi [d, .ty n] (.v (.bl b))
  | many {d : D} {ns : List String} {t : String} {b : Bool} (h : d.tn = some t) (k : KAny t ns b) : RIsi [d, .tup (ns.map .ty)] (.v (.bl b))
theorem clsV_of {K : PySem.W.Frag} {H : Hp} : ∀ {ns : List String} {xs : List V}, RpA K H xs (ns.map D.ty) → Paired ClsV xs (ns.map Value.type)
  | [], _, .nil => .nil
  | n :: ns, _, .cons h t => by
    cases h
    exact .cons (.ty n) (clsV_of t)
section
variable {X : Cx}
theorem call_isiD : CallR X (.builtin "isinstance") (rDN X.K RIsi) := by
  intro pins s σ H xs us Q I r ⟨M, ds, c, lv, hs, hf, k⟩
  cases hf with
  | one h kb =>
    obtain ⟨x, y, rfl, h1, h2⟩ := rpWs2 hs
    cases h2.rp
    exact call_isi pins s σ H _ us Q I r ⟨x, _, _, _, _, rfl, .ty _, tyX_of h1 h, kit_ty kb, k.v (.bl _)⟩
  | many h kb =>
    obtain ⟨x, y, rfl, h1, h2⟩ := rpWs2 hs
    obtain ⟨a, ys, rfl, e, ra⟩ := h2.tup
    obtain ⟨u1, u2, rfl, r1, r2⟩ := vals2 r
    cases (show u2 = Value.ref a from r2)
    obtain ⟨P, Z, p, hx⟩ := kit_of I r1 (tyX_of h1 h)
    obtain ⟨its, rv, ⟨o, g1, g2, n, g3⟩, _⟩ := I.tuple (sqT_hid e)
    have e3 := ClsV.all (clsV_of ra) rv
    subst e3
    obtain ⟨oc, od, dt, sl⟩ := o
    simp only at g2 g3
    subst g2 g3
    exact PySem.W.kia_tup Z I.kIn p g1 kb.kit hx fun tk => ⟨.bl _, H, I.tok tk, rfl, k.v (.bl _)⟩
end
end Cr

/-! Cr6: promises of defs that run where no repr is under way (FnG); repr and str of data; a law's end over such promises. -/
namespace Cr
open PySem PySem.Spec PyProof.Rows L2

/-- a def's promise, where no repr is under way; nothing is raised out of it -/
structure FnG (P : Program) (w : World) (K : PySem.W.Frag) (mg : Str → Option Value) (base : Heap) (k : Nat) (f : Addr) (fd : FuncData) (ps : List Str) (sp : Sp) : Prop where
  len : ∀ vs H Q E, sp vs H Q E → vs.length = ps.length
  run : ∀ (A : Around) (outer : List Env) (s : Shared) (H : Hp) (args : Args) (us : List Value) (vs : List V) (Q : VK), A.guards = some [] → Room k A → Env0 P w K mg base A outer s H → BindsTo s fd args (ps.zip us) → Vals vs us → sp vs H Q E0 →
    codeAny (model P w) A (.call (.ref f) args) (CR CX0 outer P w H s Q E0) s

section
variable {P : Program} {w : World} {K : PySem.W.Frag} {mg : Str → Option Value} {base : Heap} {x qual : Str} {params : Arguments} {body : List Stmt} {scope : Scope} {dvs : List V} {kws : List (Str × V)} {f : Addr} {fd : FuncData}
/-- the rule for a def, by its body -/
theorem okG {N ps : List Str} {k : Nat} {sp : Sp} (F : FunD K x qual params body scope dvs kws f fd) (S : FnScope N ps scope) (len : ∀ vs H Q E, sp vs H Q E → vs.length = ps.length)
    (hbody : ∀ (cdv : Value) (A : Around) (outer : List Env) (s : Shared) (H : Hp) (vs : List V) (Q : VK), A.guards = some [] → Room k (A.deeper (envOfC qual scope s.heap.objs.size f cdv)) → sp vs H Q E0 →
      ∃ t, PSs (cxOf CX0 P w K mg base N qual scope f cdv A outer s H E0).nox body t ∧ t { nx := fun _ H' => Q .non H', rt := Q } (L2.start N vs) H) : FnG P w K mg base (k + 1) f fd ps sp := by
  obtain ⟨oc, od, dV, kV, doc, pm, an, cdv, ct, osl, e, lk, hcd, _, _⟩ := F.ex
  subst e
  refine ⟨len, fun A outer s H args us vs Q hg hr e0 hb r hsp => ?_⟩
  have old : ∀ b o, base.get? b = some o → s.heap.get? b = some o := fun b o e => (e0.bs b o e).1
  have KX : K.In s.heap := e0.mod.kin.keeps old
  have lim : s.heap.NoLimit := e0.mod.nolimit.keeps old
  have hl := len _ _ _ _ hsp
  have hkind : ∀ y ∈ ps.zip us, scope.names.lookup y.1 = some .local ∨ (scope.names.lookup y.1 = some .cell ∧ ((cellsFrom (s.heap.objs.size + 1) scope.names []).lookup y.1).isSome = true) := by
    rintro ⟨n, v⟩ hy
    exact (S.par n (List.of_mem_zip hy).1).imp id fun q => ⟨q, PySem.W.cellsFrom_some _ _ _ (.inl q)⟩
  refine codeAny_call_function hr.depth (KX _ _ lk) rfl S.co S.gen rfl (PySem.W.codeRec_of KX hcd) (hb _ _ _ _ (wpAny_newFunctionEnv_cells S.kind hkind fun env he s1 x => ?_))
  subst he
  obtain ⟨t, ht, hq⟩ := hbody cdv A outer s H vs Q hg (hr.deeper _) hsp
  have I := inv_start (CX := CX0) (E := E0) S hr.hd e0 hl r x
  refine ⟨lim.keeps x.toInCall.keep, codeAny_func (wpAny_mono (ht.nox.run [] s1 _ H _ I hq) (fun fl s' hs => ?_) fun _ _ z => z)⟩
  cases fl with
  | ret u =>
    obtain ⟨v, σ', H', J, rv, q⟩ := hs
    exact ⟨v, H', J.os, J.bare, J.base, J.hok, rv, q⟩
  | next =>
    obtain ⟨σ', H', J, q⟩ := hs
    exact ⟨V.non, H', J.os, J.bare, J.base, J.hok, rfl, q⟩
  | brk => exact hs.elim fun _ z => z.elim fun _ z => z.2.elim
  | cont => exact hs.elim fun _ z => z.elim fun _ z => z.2.elim
end

section
variable {X : Cx} {k : Nat} {f : Addr} {fd : FuncData} {ps : List Str} {sp : Sp} {x : Str} {p pos : Pos} {e : Expr} {es : List Expr} {t : TA}
theorem run_G {pins : List (Addr × Obj)} {σ : L2.St} {H : Hp} {s : Shared} {Q : VK} {us : List Value} {vs : List V} (F : FnG X.prog X.w X.K X.mg X.base k f fd ps sp) (hgd : X.A.guards = some []) (hr : Room k X.A) (hb : Binds X.K fd ps [])
    (I : L2.Inv X pins σ H s) (r : Vals vs us) (h : sp vs H Q E0) : wpAny (model X.prog X.w) X.A (call (.ref f) us) (EP X pins σ Q) X.xe s := by
  have hl : us.length = ps.length := by rw [← r.length]; exact F.len _ _ _ _ h
  have hbs := hb s us I.kIn (by rw [List.append_nil]; exact hl)
  rw [List.append_nil] at hbs
  refine wpAny_call (codeAny_mono (F.run X.A X.stack s H ⟨us, []⟩ us vs Q hgd hr I.env0 hbs r h) fun r s' hq => ?_)
  match r, hq with
  | .ok (.ret u), hq => exact I.after hq
/-- f(e, ..) -/
theorem pe_G (F : FnG X.prog X.w X.K X.mg X.base k f fd ps sp) (hgd : X.A.guards = some []) (hr : Room k X.A) (hg : Gl X x) (hm : X.mg x = some (.ref f)) (hk : PySem.W.keepIn X.K (.ref f) = true) (hb : Binds X.K fd ps [])
    (ha : PA X (e :: es) t) (hdb : (x == ("__debug__" : Str)) = false := by decide) (he : starEach (e :: es) X.env = (false, eval e X.env) :: starEach es X.env := by rfl) (hpl : (backTo pos (starEach es X.env)).any (·.1) = false := by rfl) :
    PE X (.Call (.Name x p) (e :: es) [] pos) (tCall sp [] E0 t) :=
  ⟨fun pins s σ H Q I h => wpAny_Call_Name_kw (ld_glob I hg hm (PySem.W.callWith_K (h₀ := X.base) I.ok.mod.kin hk (thn (ha.run pos pins s σ H _ I h) fun us s1 ⟨vs, H1, I1, r, q⟩ =>
    ⟨I1.kIn, run_G F hgd hr hb I1 r (by have q2 : sp (vs ++ []) H1 Q E0 := q; rw [List.append_nil] at q2; exact q2)⟩) he hpl) hdb)⟩
/-- f() -/
theorem pe_G0 (F : FnG X.prog X.w X.K X.mg X.base k f fd ps sp) (hgd : X.A.guards = some []) (hr : Room k X.A) (hg : Gl X x) (hm : X.mg x = some (.ref f)) (hk : PySem.W.keepIn X.K (.ref f) = true) (hb : Binds X.K fd ps [])
    (hdb : (x == ("__debug__" : Str)) = false := by decide) : PE X (.Call (.Name x p) [] [] pos) (tCall sp [] E0 tNil) :=
  ⟨fun pins s σ H Q I h => wpAny_Call_Name_kw (ld_glob I hg hm (PySem.W.callWith_K0 I.kIn hk (run_G (us := []) F hgd hr hb I .nil h)) hdb)⟩
end

/-! ### repr and str of data -/
inductive RRepr : List D → Rs → Prop
  | mk {d : D} {p : PyData} (h : d.py = some p) (hs : p.showable = true) (hd : p.depth ≤ 60) (hl : p.shown.length ≤ sizeLine) : RRepr [d] (.v (.str p.shown))
mutual
theorem py_nodict : ∀ {d : D} {p : PyData}, d.py = some p → p.hasDict = false
  | .non, _, e => by cases e; simp [PyData.hasDict]
  | .bl _, _, e => by cases e; simp [PyData.hasDict]
  | .int _, _, e => by cases e; simp [PyData.hasDict]
  | .str _, _, e => by cases e; simp [PyData.hasDict]
  | .lst xs, p, e => by
    have e2 : (D.pyA xs).map PyData.list = some p := by simpa only [D.py] using e
    cases z : D.pyA xs with
    | none => rw [z] at e2; cases e2
    | some ps => rw [z] at e2; cases e2; simp only [PyData.hasDict]; exact pyA_nodict z
  | .tup xs, p, e => by
    have e2 : (D.pyA xs).map PyData.tuple = some p := by simpa only [D.py] using e
    cases z : D.pyA xs with
    | none => rw [z] at e2; cases e2
    | some ps => rw [z] at e2; cases e2; simp only [PyData.hasDict]; exact pyA_nodict z
  | .ins _ _, _, e => by simp [D.py] at e
  | .scr _, _, e => by simp [D.py] at e
  | .ty _, _, e => by simp [D.py] at e
theorem pyA_nodict : ∀ {ds : List D} {ps : List PyData}, D.pyA ds = some ps → PyData.hasDictAll ps = false
  | [], _, e => by simp [D.pyA] at e; subst e; simp [PyData.hasDictAll]
  | d :: ds, _, e => by
    cases z : D.py d with
    | none => simp [D.pyA, z] at e
    | some p =>
      cases z2 : D.pyA ds with
      | none => simp [D.pyA, z, z2] at e
      | some ps =>
        simp [D.pyA, z, z2] at e
        subst e
        simp [PyData.hasDictAll, py_nodict z, pyA_nodict z2]
end
section
variable {X : Cx}
theorem call_reprD (hg : X.A.guards = some []) (hu : X.A.units + 64 < cLine) : CallR X (.builtin "repr") (rDN X.K RRepr) := by
  intro pins s σ H xs us Q I r ⟨M, ds, c, lv, hs, hf, k⟩
  cases hf with
  | @mk d p h hsh hd hl =>
    obtain ⟨x, rfl, hx⟩ := rpWs1 hs
    obtain ⟨u, rfl, rx⟩ := vals1 r
    have dp := hx.rp.dp h
    cases d with
    | non => cases h; cases hx.non; cases rx; simp only [PyData.shown] at k; exact PySem.P.repr_of_none ⟨.str _, H, I.tok _, ⟨_, rfl⟩, k.v (.str _)⟩
    | bl b => cases h; cases hx.bl; cases rx; simp only [PyData.shown] at k; exact PySem.P.repr_of_bool ⟨.str _, H, I.tok _, ⟨_, rfl⟩, k.v (.str _)⟩
    | int i =>
      cases h; cases hx.int; obtain ⟨t, rfl⟩ := rx
      simp only [PyData.shown] at k
      exact PySem.P.repr_of_int (by simpa [PyData.showable] using hsh) ⟨.str _, H, I.tok _, ⟨_, rfl⟩, k.v (.str _)⟩
    | str z =>
      cases h; cases hx.str; obtain ⟨t, rfl⟩ := rx
      simp only [PyData.shown] at k hl
      exact PySem.P.repr_of_str ⟨.str _, H, I.tok _, ⟨_, rfl⟩, k.v (.str _)⟩ hl
    | lst ds =>
      obtain ⟨as, rd⟩ := Dp.reads I p x u dp rx
      obtain ⟨a, ys, rfl, _, _⟩ := hx.lst
      cases rx
      exact repr_of_reads' rd hsh (PyData.noDict_hsm (py_nodict h)) hg (by omega) (fun _ _ e => e) (fun h' t tk hk => ⟨.str _, H, I.kept (t' := tk) hk, ⟨_, rfl⟩, k.v (.str _)⟩) hl
    | tup ds =>
      obtain ⟨as, rd⟩ := Dp.reads I p x u dp rx
      obtain ⟨a, ys, rfl, _, _⟩ := hx.tup
      cases rx
      exact repr_of_reads' rd hsh (PyData.noDict_hsm (py_nodict h)) hg (by omega) (fun _ _ e => e) (fun h' t tk hk => ⟨.str _, H, I.kept (t' := tk) hk, ⟨_, rfl⟩, k.v (.str _)⟩) hl
    | ins _ _ => simp [D.py] at h
    | scr _ => simp [D.py] at h
    | ty _ => simp [D.py] at h
end

inductive RStr : List D → Rs → Prop
  | str (z : Str) : RStr [.str z] (.v (.str z))
  | mk {d : D} {p : PyData} (h : d.py = some p) (hn : ∀ z, d ≠ .str z) (hs : p.showable = true) (hd : p.depth ≤ 60) (hl : p.shown.length ≤ sizeLine) : RStr [d] (.v (.str p.shown))
section
variable {X : Cx}
theorem call_strD (hg : X.A.guards = some []) (hu : X.A.units + 64 < cLine) : CallR X (.type "str") (rDN X.K RStr) := by
  intro pins s σ H xs us Q I r ⟨M, ds, c, lv, hs, hf, k⟩
  cases hf with
  | str z =>
    obtain ⟨x, rfl, hx⟩ := rpWs1 hs
    obtain ⟨u, rfl, rx⟩ := vals1 r
    cases hx.str
    obtain ⟨t, rfl⟩ := rx
    exact PySem.P.str_of_str ⟨.str _, H, I, ⟨_, rfl⟩, k.v (.str _)⟩
  | @mk d p h hn hsh hd hl =>
    obtain ⟨x, rfl, hx⟩ := rpWs1 hs
    obtain ⟨u, rfl, rx⟩ := vals1 r
    have dp := hx.rp.dp h
    cases d with
    | non => cases h; cases hx.non; cases rx; simp only [PyData.shown] at k; exact PySem.P.str_of_none ⟨.str _, H, I.tok _, ⟨_, rfl⟩, k.v (.str _)⟩
    | bl b => cases h; cases hx.bl; cases rx; simp only [PyData.shown] at k; exact PySem.P.str_of_bool ⟨.str _, H, I.tok _, ⟨_, rfl⟩, k.v (.str _)⟩
    | int i =>
      cases h; cases hx.int; obtain ⟨t, rfl⟩ := rx
      simp only [PyData.shown] at k
      exact PySem.P.str_of_int (by simpa [PyData.showable] using hsh) ⟨.str _, H, I.tok _, ⟨_, rfl⟩, k.v (.str _)⟩
    | str z => exact absurd rfl (hn z)
    | lst ds =>
      obtain ⟨as, rd⟩ := Dp.reads I p x u dp rx
      obtain ⟨a, ys, rfl, _, _⟩ := hx.lst
      cases rx
      exact str_of_reads rd hsh (PyData.noDict_hsm (py_nodict h)) hg (by omega) (fun _ _ e => e) (fun h' t tk hk => ⟨.str _, H, I.kept (t' := tk) hk, ⟨_, rfl⟩, k.v (.str _)⟩) hl
    | tup ds =>
      obtain ⟨as, rd⟩ := Dp.reads I p x u dp rx
      obtain ⟨a, ys, rfl, _, _⟩ := hx.tup
      cases rx
      exact str_of_reads rd hsh (PyData.noDict_hsm (py_nodict h)) hg (by omega) (fun _ _ e => e) (fun h' t tk hk => ⟨.str _, H, I.kept (t' := tk) hk, ⟨_, rfl⟩, k.v (.str _)⟩) hl
    | ins _ _ => simp [D.py] at h
    | scr _ => simp [D.py] at h
    | ty _ => simp [D.py] at h
end
/-! ### a law's end -/
section
variable {P : Program} {w : World} {K : PySem.W.Frag} {mg mb : Str → Option Value} {k : Nat} {fa a : Addr} {fd : FuncData} {x : Str} {sp : Sp} {s1 : Shared} {vs : List Value} {ns : List Int}
/-- the abstract heap at the law's entry: the script alone, locked, where the written part does not hold it -/
def entryH (K : PySem.W.Frag) (a : Addr) (o : Obj) (ns : List Int) : Hp := fun b => if b = a ∧ K.lookup a = none then some (.frz o (.lst (ns.map V.int))) else none
theorem entryH_some {o : Obj} {b : Addr} {u : HO} (h : entryH K a o ns b = some u) : b = a ∧ K.lookup a = none ∧ u = .frz o (.lst (ns.map V.int)) := by
  unfold entryH at h
  by_cases q : b = a ∧ K.lookup a = none
  · rw [if_pos q] at h; exact ⟨q.1, q.2, (Option.some.inj h).symm⟩
  · rw [if_neg q] at h; cases h
theorem law_G (KX : K.In s1.heap) (hns : s1.heap.Ns mainGlobals mg) (hb : s1.heap.Ns builtinsNs mb) (hbb : ∀ x : Str, x ≠ "__name__" → mb x = bootBuiltins x) (hlim : s1.heap.NoLimit) (hg : s1.gens = #[])
    (ha : s1.heap.get? a = some { cls := .type "list", data := .seq vs.toArray }) (hi : IntsAre vs ns) (hl : ns.length ≤ sizeLine) (hr : Room k callerA)
    (F : ∀ base : Heap, K.In base → base.Ns mainGlobals mg → FnG P w K mg base k fa fd [x] sp) (hbind : ∀ (s : Shared) (u : Value), BindsTo s fd ⟨[u], []⟩ [(x, u)])
    (hsp : ∀ H : Hp, SqL K H a (ns.map V.int) → sp [.ref a] H (fun v _ => v = .bl true) E0) :
    codeAny (model P w) callerA (.call (.ref fa) ⟨[.ref a], []⟩) (fun r s' => r = .ok (.ret (.bool true)) ∧ OldK s1.heap s'.heap ∧ s'.os = s1.os ∧ AllBare s'.gens) s1 := by
  have rv := vals_ints hi
  generalize hob : ({ cls := .type "list", data := .seq vs.toArray } : Obj) = ob at ha
  have hdat : ob.data = .seq vs.toArray 0 := by rw [← hob]
  generalize hH : entryH K a ob ns = H
  have at_ : ∀ {b : Addr} {u : HO}, H b = some u → b = a ∧ K.lookup a = none ∧ u = .frz ob (.lst (ns.map V.int)) := fun {b u} e => entryH_some (by rw [hH]; exact e)
  have hS : SqL K H a (ns.map V.int) := by
    cases q : K.lookup a with
    | none => exact .inl (.inr ⟨ob, by rw [← hH]; exact if_pos ⟨rfl, q⟩⟩)
    | some o =>
      have e := KX a o q
      rw [ha] at e
      cases e
      subst hob
      exact .inr ⟨_, vs.toArray, _, q, rfl, rfl, rfl, by rw [List.size_toArray, hi.length]; exact hl, by simpa using rv⟩
  have hok : HOk P w H s1.heap := fun b u e => by
    obtain ⟨rfl, _, rfl⟩ := at_ e
    subst hob
    exact ⟨ha, by rw [List.length_map]; exact hl, vs, _, rv, ha⟩
  -- what the base holds
  have keepB : ∀ {b : Addr} {o : Obj}, s1.heap.get? b = some o → H b = none → (hidT s1.heap H).get? b = some o := fun e n => hidT_get e n
  have notA : ∀ {b : Addr} {o : Obj} {es : Array DictEntry} {ep : Nat}, s1.heap.get? b = some o → o.data = .dict es ep → H b = none := fun {b o es ep} e d => by
    cases q : H b with
    | none => rfl
    | some u =>
      obtain ⟨rfl, _, _⟩ := at_ q
      rw [ha] at e
      cases e
      rw [hdat] at d
      cases d
  have nsB : ∀ {b : Addr} {m : Str → Option Value}, s1.heap.Ns b m → (hidT s1.heap H).Ns b m := by
    rintro b m ⟨o, es, ep, e, d, r⟩
    exact ⟨o, es, ep, keepB e (notA e d), d, r⟩
  have KB : K.In (hidT s1.heap H) := fun b o e => keepB (KX b o e) (by
    cases q : H b with
    | none => rfl
    | some u =>
      obtain ⟨rfl, n, _⟩ := at_ q
      rw [n] at e
      cases e)
  have e0 : Env0 P w K mg (hidT s1.heap H) callerA [] s1 H :=
    ⟨rfl, ⟨KB, nsB hns, ⟨mb, nsB hb, hbb⟩, hlim.elim fun mc z => ⟨mc, nsB z.1, z.2⟩⟩, fun b o e => of_hidT e, Nat.le_of_eq (hidT_size _ _), trivial, fun b z => absurd (show b ∈ ([] : List Addr) from z) List.not_mem_nil, hok, .of_eq hg⟩
  refine codeAny_mono ((F _ KB (nsB hns)).run callerA [] s1 H ⟨[.ref a], []⟩ [.ref a] [.ref a] _ rfl hr e0 (hbind s1 (.ref a)) (.cons rfl .nil) (hsp H hS)) fun r s' h => ?_
  match r, h with
  | .ok (.ret u), ⟨v, H', os, bare, un, hok', r', q⟩ =>
    have q' : v = .bl true := q
    subst q'
    cases r'
    refine ⟨rfl, OldK.of_keep fun b o e => ?_, os, bare⟩
    cases q : H b with
    | none => exact un.keep b o e q (fun z => absurd (show b ∈ ([] : List Addr) from z) List.not_mem_nil) List.not_mem_nil
    | some u =>
      obtain ⟨rfl, _, rfl⟩ := at_ q
      obtain ⟨e2, _⟩ := hok' b _ (un.frzs b ob _ q)
      rw [ha] at e
      cases e
      exact e2
end
theorem walk_G {l : PySem.W.OpenLaw} {n k : Nat} {q : Program} {loose : List Str} {XP : (Str → Option Value) → Heap → Prop} {YP : World → Heap → Prop} {d : DefRec} {x : Str}
    (hn : l.most = some n) (hn2 : n ≤ sizeLine) (hdf : d.params.defaults = []) (hr : Room k callerA)
    (F : ∀ (w : World) (mg : Str → Option Value) (fa : Addr) (h : Heap), YP w h → h.Ns mainGlobals mg → mg d.name = some (.ref fa) →
      ∃ (K : PySem.W.Frag) (fd : FuncData) (sp : Sp), K.In h ∧ (∀ (s : Shared) (u : Value), BindsTo s fd ⟨[u], []⟩ [(x, u)]) ∧
        (∀ (H : Hp) (a : Addr) (ns : List Int), ns.length ≤ n → (∀ z ∈ ns, Builtin.Int.intBits z ≤ 1048576) → SqL K H a (ns.map V.int) → sp [.ref a] H (fun v _ => v = .bl true) E0) ∧
        ∀ base : Heap, K.In base → base.Ns mainGlobals mg → FnG l.prog w K mg base k fa fd [x] sp) :
    PySem.W.WalkO q loose XP YP l.row.toRowW d [] (fun f vs => PySem.call f vs) := by
  refine Att.attach_callB hn hdf fun w s0 s1 mg mb fa o pm cd doc a vs ns G Y ho hd hcd hmg hobj hints hlen hbits hg => ?_
  obtain ⟨K, fd, sp, KX, hb, hsp, hF⟩ := F w mg fa _ Y G.T.g hmg
  exact law_G KX G.T.g G.T.b G.T.builtins G.T.nolimit hg hobj hints (Nat.le_trans hlen hn2) hr hF hb fun H hS => hsp H a ns hlen hbits hS
/-- the script goes in, True comes out -/
def LawT (n : Nat) : Tr := fun ss m Q => ∃ ns : List Int, ss = [.val (.scr ns)] ∧ ns.length ≤ n ∧ (∀ z ∈ ns, Builtin.Int.intBits z ≤ 1048576) ∧ (∀ a, m a = none) ∧ ∀ m', Q (.val (.bl true)) m'
theorem law_sp {K : PySem.W.Frag} {n : Nat} {H : Hp} {a : Addr} {ns : List Int} (h1 : ns.length ≤ n) (h2 : ∀ z ∈ ns, Builtin.Int.intBits z ≤ 1048576) (hS : SqL K H a (ns.map V.int)) : SpD K (LawT n) [.ref a] H (fun v _ => v = .bl true) E0 := by
  have hh : hid (dom fun _ => none) H = H := by
    funext b
    exact hid_out rfl
  refine ⟨fun _ => none, [.val (.scr ns)], fun s m' => s = .val (.bl true), (fun a ds e => nomatch e), .cons (show Rp K (hid _ H) _ _ by rw [hh]; exact .scr hS) .nil, ⟨ns, rfl, h1, h2, fun _ => rfl, fun _ => rfl⟩, fun v H' s m' x so rs q => ?_⟩
  subst q
  have rs' : Rp K (hid (dom m') H') v (.bl true) := rs
  cases rs'
  rfl
end Cr

/-! Cr7: owned lists written and grown; chains; in; names of three; what the head tells. -/
namespace Cr
open PySem PySem.Spec PyProof.Rows L2
section
variable {K : PySem.W.Frag} {M : Dm} {r : Ro} {m : Sto} {P : Eds}
/-- p[i] = e, p owned -/
theorem ws_setI {te to ti : TE} (h : WE K r m te fun s m1 => WE K r m1 to fun t m2 => WE K r m2 ti fun u m3 => ∃ d p ds i j, s = .val d ∧ t = .adr p ∧ u = .val (.int i) ∧ m3 p = some ds ∧ ixN ds.length i = some j ∧ P.nx r (stS m3 p (ds.set j d))) :
    WS K M r m (tAsg te (gSub to ti rSetL)) P := fun σ H H0 D' e st x dd =>
  h σ H _ e st fun v H1 s m1 x1 so1 rs1 q1 => q1 σ H1 _ (e.mono x1) so1 fun o H2 t m2 x2 so2 rs2 q2 => q2 σ H2 _ ((e.mono x1).mono x2) so2 fun w H3 u m3 x3 so3 rs3 ⟨d, p, ds, i, j, es, et, eu, hm, hj, q⟩ => by
    subst es et eu
    obtain ⟨rfl, _⟩ := rs2
    have rs3' : Rp K (hid (dom m3) H3) w (.int i) := rs3
    cases rs3'
    obtain ⟨xs, hx, ra⟩ := so3 p ds hm
    have rd : Rp K (hid (dom m3) H3) v d := (rs1.mono (x2.trans x3))
    have so4 : StoOk K (upd H3 p (.lst (xs.set j v))) (stS m3 p (ds.set j d)) := so3.wr hm (ra.set rd j)
    have w : Xt (dom m3) H3 (dom (stS m3 p (ds.set j d))) (upd H3 p (.lst (xs.set j v))) := by
      rw [dom_stS hm]
      exact Xt.wr (dom_some hm)
    exact ⟨p, xs, i, j, rfl, rfl, hx, by rw [ra.length]; exact hj, dd.nx σ _ r _ (x.trans (((x1.trans x2).trans x3).trans w)) so4 ((((e.mono x1).mono x2).mono x3).mono w) q⟩
/-- p.append(e), p owned -/
theorem ws_app {to te : TE} (h : WE K r m to fun t m1 => ∃ p ds1, t = .adr p ∧ m1 p = some ds1 ∧ WE K r m1 te fun s m2 => ∃ d ds, s = .val d ∧ m2 p = some ds ∧ ds.length < 100000 ∧ P.nx r (stS m2 p (ds ++ [d]))) :
    WS K M r m (tDrop (tBM K "list" rAppend to (tCons te tNil))) P := fun σ H H0 D' e st x dd =>
  h σ H _ e st fun o H1 t m1 x1 so1 rs1 q1 => by
    have gen : ∀ {p : Addr} {ds1 : List D}, t = .adr p → m1 p = some ds1 → tyV K "list" o H1 := fun {p ds1} et hm => by
      subst et
      obtain ⟨rfl, _⟩ := rs1
      obtain ⟨xs, hx, _⟩ := so1 p ds1 hm
      exact .inl ⟨rfl, xs, Evl.sq_of hx⟩
    obtain ⟨p, ds1, et, hm1, q1⟩ := q1
    refine ⟨gen et hm1, ?_⟩
    subst et
    obtain ⟨rfl, _⟩ := rs1
    refine q1 σ H1 _ (e.mono x1) so1 fun v H2 s m2 x2 so2 rs2 ⟨d, ds, es, hm, hl, q⟩ => ?_
    subst es
    obtain ⟨xs, hx, ra⟩ := so2 p ds hm
    have rd : Rp K (hid (dom m2) H2) v d := rs2
    have w : Xt (dom m2) H2 (dom (stS m2 p (ds ++ [d]))) (upd H2 p (.lst (xs ++ [v]))) := by
      rw [dom_stS hm]
      exact Xt.wr (dom_some hm)
    exact ⟨p, xs, v, rfl, rfl, hx, by rw [ra.length]; exact Evl.sz_lt hl, dd.nx σ _ r _ (x.trans ((x1.trans x2).trans w)) (so2.wr hm (ra.append (.cons rd .nil))) (((e.mono x1).mono x2).mono w) q⟩
theorem wt_yes {Q : Bool → Sto → Prop} (q : Q true m) : WT K r m tYes Q := fun σ H QV e st k => k true H m Xt.refl st q
/-- a op1 b op2 c -/
theorem we_chain {f g : D → D → Rs → Prop} {ta tb tc : TE} {Q : Sv → Sto → Prop} (h : WE K r m ta fun s m1 => WE K r m1 tb fun t m2 => ∃ a b k, vw m2 s = some a ∧ vw m2 t = some b ∧ f a b (.v (.bl k)) ∧
      if k = true then WE K r m2 tc fun u m3 => ∃ b' c z, vw m3 t = some b' ∧ vw m3 u = some c ∧ g b' c z ∧ Q (.val z.d) m3 else Q (.val (.bl false)) m2) : WE K r m (tChain (rD2 K f) (rD2 K g) ta tb tc) Q := fun σ H QV e st k =>
  h σ H _ e st fun v H1 s m1 x1 so1 rs1 q1 => q1 σ H1 _ (e.mono x1) so1 fun u H2 t m2 x2 so2 rs2 ⟨a, b, c, ha, hb, hf, q⟩ => by
    refine ⟨dom m2, a, b, .v (.bl c), so2.live, RpW.of (rs1.mono x2) so2 ha, RpW.of rs2 so2 hb, hf, fun z H3 x3 kp rp => ?_⟩
    cases rp
    have so3 := so2.keep x3 kp
    refine ⟨c, rfl, ?_⟩
    cases c with
    | false => exact k _ H3 (.val (.bl false)) m2 ((x1.trans x2).trans x3) so3 (show Rp _ _ _ _ from .bl false) q
    | true =>
      refine (show WE K r m2 tc _ from q) σ H3 _ (((e.mono x1).mono x2).mono x3) so3 fun w H4 y m4 x4 so4 rs4 ⟨b', d, z, hb', hd, hg, q'⟩ => ?_
      exact ⟨dom m4, b', d, z, so4.live, RpW.of ((rs2.mono x3).mono x4) so4 hb', RpW.of rs4 so4 hd, hg, kR.of so4 (fun v H' s m' x => k v H' s m' ((((x1.trans x2).trans x3).trans x4).trans x)) q'⟩
/-- three names at once -/
theorem ws_par3 {ta : TA} {i j l : Nat} (h : WA K r m ta fun ss m1 => ∃ s t u, ss = [s, t, u] ∧ P.nx (((r.set i (some s)).set j (some t)).set l (some u)) m1) : WS K M r m (tPar3 i j l ta) P := fun σ H H0 D' e st x d =>
  h σ H _ e st fun vs H1 ss m1 x1 so1 rs ⟨s, t, u, es, q⟩ => by
    subst es
    cases rs with
    | cons r1 rs =>
      cases rs with
      | cons r2 rs =>
        cases rs with
        | cons r3 rs =>
          cases rs
          exact ⟨_, _, _, rfl, d.nx _ H1 _ m1 (x.trans x1) so1 ((((e.mono x1).set r1).set r2).set r3) q⟩
end

/-! ### in -/
def eqIn : D → D → Bool
  | .non, .non => true
  | .bl a, .bl b => a == b
  | .int a, .int b => a == b
  | .str a, .str b => a == b
  | _, _ => false
def D.flt : D → Bool
  | .non => true
  | .bl _ => true
  | .int _ => true
  | .str _ => true
  | _ => false
/-- no bool beside an int -/
def D.mixed : D → D → Bool
  | .bl _, .int _ => true
  | .int _, .bl _ => true
  | _, _ => false
inductive RIn : D → D → Bool → Prop
  | sq {d : D} {b : Bool} {ds : List D} (h : d.flt = true) (h2 : ds.all D.flt = true) (h3 : ds.all (fun e => !e.mixed d) = true) : RIn d (sqD b ds) (ds.any fun e => eqIn e d)
  | sub (i j : Str) : RIn (.str i) (.str j) (!(Builtin.Str.occurrences j i 0 j.length 1).isEmpty)
inductive RInR : D → D → Rs → Prop
  | mk {a b : D} {r : Bool} (h : RIn a b r) : RInR a b (.v (.bl r))
inductive RNotInR : D → D → Rs → Prop
  | mk {a b : D} {r : Bool} (h : RIn a b r) : RNotInR a b (.v (.bl (!r)))
theorem flat_rp {K : PySem.W.Frag} {H : Hp} {v : V} {d : D} (h : Rp K H v d) (f : d.flt = true) : flatV v = true := by
  cases h <;> first | rfl | (simp [D.flt] at f)
theorem eqIn_rp {K : PySem.W.Frag} {H : Hp} {v w : V} {d e : D} (h : Rp K H v d) (h' : Rp K H w e) (f : d.flt = true) (f' : e.flt = true) (g : e.mixed d = false) : eqV w v = eqIn e d := by
  cases h <;> first | (simp [D.flt] at f; done) | (cases h' <;> first | (simp [D.flt] at f'; done) | (simp [D.mixed] at g; done) | rfl)
theorem inV_rp {K : PySem.W.Frag} {H : Hp} {v : V} {d : D} (h : Rp K H v d) (f : d.flt = true) : ∀ {xs : List V} {ds : List D}, RpA K H xs ds → ds.all D.flt = true → ds.all (fun e => !e.mixed d) = true → inV v xs = (ds.any fun e => eqIn e d) ∧ xs.all flatV = true
  | _, _, .nil, _, _ => ⟨rfl, rfl⟩
  | x :: xs, e :: ds, .cons r t, f2, f3 => by
    rw [List.all_cons, Bool.and_eq_true] at f2 f3
    obtain ⟨i1, i2⟩ := inV_rp h f t f2.2 f3.2
    have g : e.mixed d = false := by simpa using f3.1
    constructor
    · unfold inV at i1 ⊢
      rw [List.any_cons, List.any_cons, i1, eqIn_rp h r f f2.1 g]
    · rw [List.all_cons, flat_rp r f2.1, i2]; rfl
section
variable {X : Cx}
theorem op_inDD : OpR X (compareOp .In) (rD2 X.K RInR) := by
  intro pins s σ H x y v u Q I rx ry ⟨M, a, b, c, lv, ha, hb, hf, k⟩
  cases hf with
  | mk h =>
    cases h with
    | @sq _ bb ds h h2 h3 =>
      have hd := ha.rp
      cases bb with
      | false =>
        obtain ⟨p, xs, rfl, hx, ra⟩ := (show RpW X.K M H y (.lst ds) from hb).lst
        obtain ⟨e1, e2⟩ := inV_rp hd h (ra.mono hid_ex) h2 h3
        refine op_in_seq pins s σ H _ _ v u Q I rx ry ⟨p, xs, rfl, .inl (Evl.sq_of hx), flat_rp hd h, e2, ?_⟩
        rw [if_neg Bool.false_ne_true, e1]
        exact k.v (.bl _)
      | true =>
        obtain ⟨p, xs, rfl, hx, ra⟩ := (show RpW X.K M H y (.tup ds) from hb).tup
        obtain ⟨e1, e2⟩ := inV_rp hd h (ra.mono hid_ex) h2 h3
        refine op_in_seq pins s σ H _ _ v u Q I rx ry ⟨p, xs, rfl, .inr (sqT_hid hx), flat_rp hd h, e2, ?_⟩
        rw [if_neg Bool.false_ne_true, e1]
        exact k.v (.bl _)
    | sub i j =>
      cases ha.str
      cases hb.str
      exact op_in_str pins s σ H _ _ v u Q I rx ry ⟨i, j, rfl, rfl, k.v (.bl _)⟩
theorem op_notInDD : OpR X (compareOp .NotIn) (rD2 X.K RNotInR) := by
  intro pins s σ H x y v u Q I rx ry ⟨M, a, b, c, lv, ha, hb, hf, k⟩
  cases hf with
  | mk h =>
    cases h with
    | @sq _ bb ds h h2 h3 =>
      have hd := ha.rp
      cases bb with
      | false =>
        obtain ⟨p, xs, rfl, hx, ra⟩ := (show RpW X.K M H y (.lst ds) from hb).lst
        obtain ⟨e1, e2⟩ := inV_rp hd h (ra.mono hid_ex) h2 h3
        refine op_notIn_seq pins s σ H _ _ v u Q I rx ry ⟨p, xs, rfl, .inl (Evl.sq_of hx), flat_rp hd h, e2, ?_⟩
        rw [if_pos rfl, e1]
        exact k.v (.bl _)
      | true =>
        obtain ⟨p, xs, rfl, hx, ra⟩ := (show RpW X.K M H y (.tup ds) from hb).tup
        obtain ⟨e1, e2⟩ := inV_rp hd h (ra.mono hid_ex) h2 h3
        refine op_notIn_seq pins s σ H _ _ v u Q I rx ry ⟨p, xs, rfl, .inr (sqT_hid hx), flat_rp hd h, e2, ?_⟩
        rw [if_pos rfl, e1]
        exact k.v (.bl _)
    | sub i j =>
      cases ha.str
      cases hb.str
      exact op_notIn_str pins s σ H _ _ v u Q I rx ry ⟨i, j, rfl, rfl, k.v (.bl _)⟩
end

/-! ### what the head tells of a def, with its promise -/
structure Has (P : Program) (w : World) (K : PySem.W.Frag) (mg : Str → Option Value) (base : Heap) (x : Str) (k : Nat) (ps : List Str) (T : Tr) : Prop where
  ex : ∃ (f : Addr) (fd : FuncData), mg x = some (.ref f) ∧ PySem.W.keepIn K (.ref f) = true ∧ Binds K fd ps [] ∧ FnG P w K mg base k f fd ps (SpD K T)
section
variable {X : Cx} {k : Nat} {ps : List Str} {T : Tr} {x : Str} {p pos : Pos} {e : Expr} {es : List Expr} {t : TA}
/-- f(e, ..) -/
theorem pe_U (F : Has X.prog X.w X.K X.mg X.base x k ps T) (hgd : X.A.guards = some []) (hr : Room k X.A) (hg : Gl X x) (ha : PA X (e :: es) t) (hdb : (x == ("__debug__" : Str)) = false := by decide)
    (he : starEach (e :: es) X.env = (false, eval e X.env) :: starEach es X.env := by rfl) (hpl : (backTo pos (starEach es X.env)).any (·.1) = false := by rfl) :
    PE X (.Call (.Name x p) (e :: es) [] pos) (tCall (SpD X.K T) [] E0 t) := by
  obtain ⟨f, fd, h1, h2, h3, h4⟩ := F.ex
  exact pe_G h4 hgd hr hg h1 h2 h3 ha hdb he hpl
end
abbrev Ok (K : PySem.W.Frag) (N : List Str) (T : Tr) (t : TS) : Prop := ∀ ss m Q, T ss m Q → WS K (dom m) (startR N ss) m t { nx := fun _ m' => Q (.val .non) m', rt := Q }
section
variable {P : Program} {w : World} {K : PySem.W.Frag} {mg : Str → Option Value} {base : Heap} {x qual : Str} {params : Arguments} {body : List Stmt} {scope : Scope} {f : Addr} {fd : FuncData} {N ps : List Str} {k : Nat} {T : Tr} {t : TS}
theorem fnG_ok (F : FunD K x qual params body scope [] [] f fd) (S : FnScope N ps scope) (len : ∀ ss m Q, T ss m Q → ss.length = ps.length) (ok : Ok K N T t)
    (hbody : ∀ (cdv : Value) (A : Around) (outer : List Env) (s : Shared) (H : Hp), A.guards = some [] → Room k (A.deeper (envOfC qual scope s.heap.objs.size f cdv)) →
      PSs (cxOf CX0 P w K mg base N qual scope f cdv A outer s H E0).nox body t) : FnG P w K mg base (k + 1) f fd ps (SpD K T) :=
  okG F S (len_ok len) fun cdv A outer s H vs Q hg hr h => ⟨t, hbody cdv A outer s H hg hr, body_ok ok h⟩
theorem has_ok (F : FunD K x qual params body scope [] [] f fd) (gF : mg x = some (.ref f)) (S : FnScope N ps scope) (len : ∀ ss m Q, T ss m Q → ss.length = ps.length)
    (hbd : ∀ (kV doc pm : Value) (an : Option Addr) (cdv ct : Value) (us : List Value), us.length = ps.length → bindArgs (PySem.W.fnOf x qual params body scope .none kV doc pm an cdv ct) ⟨us, []⟩ = pure (ps.zip us))
    (ok : Ok K N T t)
    (hbody : ∀ (cdv : Value) (A : Around) (outer : List Env) (s : Shared) (H : Hp), A.guards = some [] → Room k (A.deeper (envOfC qual scope s.heap.objs.size f cdv)) →
      PSs (cxOf CX0 P w K mg base N qual scope f cdv A outer s H E0).nox body t) : Has P w K mg base x (k + 1) ps T :=
  ⟨f, fd, gF, F.kp, F.bindsN hbd, fnG_ok F S len ok hbody⟩
end

/-! ### a head with more facts -/
def hookM (n : Nat) (fa : List He.Fa) (fn : List He.DefD) (ex : PySem.W.Frag → Bool) : PySem.W.Hook where
  α := He.AlD × Bool
  obs := fun s => (He.obsDG n fa fn s.heap.get?, ex (He.frG s.heap.get? (He.asD s.heap.get? n)))
  val := fun _ => (He.valD fn, true)
  says := fun _ h => ∃ K : PySem.W.Frag, K.In h ∧ He.SaysD fa fn K ∧ ex K = true
  of := fun _ _ e => ⟨_, He.frG_in, congrArg Prod.fst e, congrArg Prod.snd e⟩
  keeps := fun _ _ _ ⟨K, hK, c⟩ k => ⟨K, PySem.W.Frag.In.keeps hK k, c⟩
def obsM (n : Nat) (fa : List He.Fa) (fn : List He.DefD) (ex : PySem.W.Frag → Bool) (g : Addr → Option Obj) : He.AlD × Bool := (He.obsDG n fa fn g, ex (He.frG g (He.asD g n)))
theorem obsM_eq {n : Nat} {fa : List He.Fa} {fn : List He.DefD} {ex : PySem.W.Frag → Bool} {g : Addr → Option Obj} {s : Shared} (h : ∀ a, g a = s.heap.get? a) : obsM n fa fn ex g = (hookM n fa fn ex).obs s := by
  have e : g = s.heap.get? := funext h
  rw [e] <;> rfl
end Cr

/-! Cr8: rows of ints, what is drawn. -/
namespace Cr
open PySem PySem.Spec PyProof.Rows L2
theorem ite_dec {p : Prop} [Decidable p] {A B : Prop} (h1 : p → A) (h2 : ¬ p → B) : if decide p = true then A else B := by
  by_cases h : p
  · rw [if_pos (decide_eq_true h)]; exact h1 h
  · rw [if_neg (by rw [decide_eq_false h]; exact Bool.false_ne_true)]; exact h2 h
theorem ite_b {b : Bool} {A B : Prop} (h1 : b = true → A) (h2 : b = false → B) : if b = true then A else B := by
  cases b with
  | true => exact h1 rfl
  | false => exact h2 rfl
/-! ### sizes -/
theorem log2_mono {a b : Nat} (h : a ≤ b) : a.log2 ≤ b.log2 := by
  by_cases h0 : a = 0
  · subst h0; simp
  · exact (Nat.le_log2 (by omega)).mpr (Nat.le_trans (Nat.log2_self_le h0) h)
theorem mulOk {i j : Int} {B C : Nat} (h1 : i.natAbs ≤ B) (h2 : j.natAbs ≤ C) (h : B.log2 + C.log2 < 1000000) : i.natAbs.log2 + j.natAbs.log2 < 1000000 := by
  have := log2_mono h1
  have := log2_mono h2
  omega
theorem log2_lt {a k : Nat} (h : a < 2 ^ (k + 1)) : a.log2 ≤ k := by
  by_cases h0 : a = 0
  · subst h0; simp
  · exact Nat.lt_succ_iff.mp ((Nat.log2_lt h0).mpr h)
/-! ### rows of ints -/
abbrev tI (ns : List Int) : D := .tup (ns.map .int)
abbrev lI (ns : List Int) : D := .lst (ns.map .int)
theorem pyA_ints : ∀ ns : List Int, D.pyA (ns.map .int) = some (ns.map .int)
  | [] => rfl
  | n :: ns => by show D.pyA (D.int n :: ns.map D.int) = _; simp [D.pyA, D.py, pyA_ints ns]
theorem py_tI (ns : List Int) : (tI ns).py = some (.tuple (ns.map .int)) := by show D.py (.tup _) = _; simp [D.py, pyA_ints]
theorem py_lI (ns : List Int) : (lI ns).py = some (.list (ns.map .int)) := by show D.py (.lst _) = _; simp [D.py, pyA_ints]
theorem eqvAll_ints : ∀ xs ys : List Int, PyData.eqvAll (xs.map .int) (ys.map .int) = decide (xs = ys)
  | [], [] => by simp [PyData.eqvAll]
  | [], _ :: _ => by simp [PyData.eqvAll]
  | _ :: _, [] => by simp [PyData.eqvAll]
  | x :: xs, y :: ys => by
    simp only [List.map_cons, PyData.eqvAll, PyData.eqv, eqvAll_ints xs ys]
    by_cases h1 : x = y <;> by_cases h2 : xs = ys <;> simp [h1, h2]
theorem canLayAll_ints : ∀ ns : List Int, PyData.canLayAll0 (ns.map .int) = true
  | [] => by simp [PyData.canLayAll0]
  | n :: ns => by simp [PyData.canLayAll0, PyData.canLay0, canLayAll_ints ns]
theorem depthAll_ints : ∀ ns : List Int, PyData.depthAll (ns.map .int) ≤ 1
  | [] => by simp [PyData.depthAll]
  | n :: ns => by
    have := depthAll_ints ns
    simp only [List.map_cons, PyData.depthAll, PyData.depth]
    omega
theorem shaped_tI (ns : List Int) : SeqAt.shaped (.tuple (ns.map .int)) = true := by
  have := depthAll_ints ns
  unfold SeqAt.shaped
  rw [Bool.and_eq_true]
  refine ⟨by simp only [PyData.canLay0, canLayAll_ints], decide_eq_true ?_⟩
  simp only [PyData.depth]
  omega
theorem shaped_lI (ns : List Int) : SeqAt.shaped (.list (ns.map .int)) = true := by
  have := depthAll_ints ns
  unfold SeqAt.shaped
  rw [Bool.and_eq_true]
  refine ⟨by simp only [PyData.canLay0, canLayAll_ints], decide_eq_true ?_⟩
  simp only [PyData.depth]
  omega
theorem req_tI (xs ys : List Int) : REq (tI xs) (tI ys) (decide (xs = ys)) := by
  have h := REq.deep (py_tI xs) (py_tI ys) (shaped_tI xs) (shaped_tI ys)
  rw [show PyData.eqv (.tuple (xs.map .int)) (.tuple (ys.map .int)) = decide (xs = ys) by simp only [PyData.eqv, eqvAll_ints]] at h
  exact h
theorem req_lI (xs ys : List Int) : REq (lI xs) (lI ys) (decide (xs = ys)) := by
  have h := REq.deep (py_lI xs) (py_lI ys) (shaped_lI xs) (shaped_lI ys)
  rw [show PyData.eqv (.list (xs.map .int)) (.list (ys.map .int)) = decide (xs = ys) by simp only [PyData.eqv, eqvAll_ints]] at h
  exact h
theorem map_int_inj : ∀ {xs ys : List Int}, xs.map D.int = ys.map D.int → xs = ys
  | [], [], _ => rfl
  | [], _ :: _, h => by cases h
  | _ :: _, [], h => by cases h
  | x :: xs, y :: ys, h => by
    injection h with h1 h2
    injection h1 with h1
    rw [h1, map_int_inj h2]
/-- [..] == [] for ints -/
theorem req_nil (xs : List Int) : REq (lI xs) (.lst []) (decide (xs = [])) := req_lI xs []
/-! texts of rows of ints -/
theorem showable_ints : ∀ {ns : List Int}, (∀ n ∈ ns, n.natAbs.log2 < 1920) → PyData.showableAll (ns.map .int) = true
  | [], _ => by simp [PyData.showableAll]
  | n :: ns, h => by
    simp only [List.map_cons, PyData.showableAll, PyData.showable, showable_ints (fun z q => h z (List.mem_cons_of_mem _ q)), Bool.and_true, decide_eq_true_eq]
    exact h n List.mem_cons_self
theorem piled_ints : ∀ {ns : List Int}, (∀ n ∈ ns, n.natAbs < 10 ^ 1000) → piled (PyData.shownAll (ns.map .int)) ≤ 1003 * ns.length
  | [], _ => by simp [PyData.shownAll, piled]
  | n :: ns, h => by
    have h1 := piled_ints (fun z q => h z (List.mem_cons_of_mem _ q) : ∀ z ∈ ns, _)
    have h2 := int_text_length_le10 (k := 1000) (by decide) (h n List.mem_cons_self)
    have h3 : (Str.ofString (toString n)).length ≤ 1001 := by rw [PySem.ofString_length]; exact h2
    have h4 : PyData.shown (.int n) = Str.ofString (toString n) := by simp [PyData.shown]
    simp only [List.map_cons, PyData.shownAll, List.length_cons, h4]
    simp only [piled, List.map_cons, List.sum_cons] at h1 ⊢
    omega
theorem rrepr_tI {ns : List Int} (hl : ns.length ≤ 1000) (h : ∀ n ∈ ns, n.natAbs ≤ 10 ^ 400) : RRepr [tI ns] (.v (.str (PyData.shown (.tuple (ns.map .int))))) := by
  have b : ∀ n ∈ ns, n.natAbs.log2 < 1920 := fun n q => Nat.lt_of_le_of_lt (log2_mono (h n q)) (by decide +kernel)
  have b2 : ∀ n ∈ ns, n.natAbs < 10 ^ 1000 := fun n q => Nat.lt_of_le_of_lt (h n q) (by decide +kernel)
  have hd := depthAll_ints ns
  refine .mk (py_tI ns) (by simp only [PyData.showable]; exact showable_ints b) (by simp only [PyData.depth]; omega) ?_
  have hp := piled_ints b2
  simp only [PyData.shown]
  generalize PyData.shownAll (ns.map .int) = ts at hp ⊢
  unfold tupleText
  rw [strLen_append, strLen_append]
  have e1 : ((("(" : String) : Str)).length = 1 := rfl
  have e3 : (((if ts.length == 1 then ",)" else ")" : String) : Str)).length ≤ 2 := by split <;> decide
  rw [e1, sizeLine_eq]
  by_cases z : ts = []
  · subst z
    have : (Str.join ", " ([] : List Str)).length = 0 := rfl
    omega
  · have := join_length_add ts z
    omega
theorem rrepr_non : RRepr [.non] (.v (.str (PyData.shown .none))) := .mk rfl (by simp [PyData.showable]) (by simp [PyData.depth]) (by simp [PyData.shown]; decide)
/-! ### comprehensions over rows of ints -/
section
variable {K : PySem.W.Frag} {r : Ro} {m : Sto}
theorem zip_mem {xs ys : List Int} {d : D} (h : d ∈ zipD (xs.map .int) (ys.map .int)) : ∃ x y, d = .tup [.int x, .int y] ∧ (x, y) ∈ xs.zip ys := by
  unfold zipD at h
  obtain ⟨p, hp, rfl⟩ := List.mem_map.mp h
  rw [List.zip_map] at hp
  obtain ⟨⟨x, y⟩, h1, rfl⟩ := List.mem_map.mp hp
  exact ⟨x, y, rfl, h1⟩
def fst2 (g : Int → Int → D) : D → D
  | .tup [.int x, .int y] => g x y
  | _ => .non
def tst2 (g : Int → Int → Bool) : D → Bool
  | .tup [.int x, .int y] => g x y
  | _ => false
theorem zip_map (g : Int → Int → D) (f : Int → Int → Bool) : ∀ xs ys : List Int, ((zipD (xs.map .int) (ys.map .int)).filter (tst2 f)).map (fst2 g) = ((xs.zip ys).filter fun p => f p.1 p.2).map fun p => g p.1 p.2
  | [], _ => rfl
  | _ :: _, [] => rfl
  | x :: xs, y :: ys => by
    have ih := zip_map g f xs ys
    have e : zipD ((x :: xs).map D.int) ((y :: ys).map D.int) = .tup [.int x, .int y] :: zipD (xs.map .int) (ys.map .int) := rfl
    rw [e, List.zip_cons_cons, List.filter_cons, List.filter_cons]
    have e2 : tst2 f (.tup [.int x, .int y]) = f x y := rfl
    rw [e2]
    cases f x y with
    | true => rw [if_pos rfl, if_pos rfl, List.map_cons, List.map_cons, ih]; rfl
    | false => rw [if_neg Bool.false_ne_true, if_neg Bool.false_ne_true, ih]
theorem we_zipI {st : Bool} {a b : Nat} {ta : TA} {tt : TT} {te : TE} {Q : Sv → Sto → Prop} (xs ys : List Int) (f : Int → Int → Bool) (g : Int → Int → D) (hl : xs.length ≤ 100000) (hst : st = true → xs.length = ys.length)
    (ha : WA K r m ta fun ss m1 => m1 = m ∧ ∃ b1 b2, ss = [.val (sqD b1 (xs.map .int)), .val (sqD b2 (ys.map .int))])
    (ht : ∀ x y, (x, y) ∈ xs.zip ys → ∀ m', WT K (((wipeR r [a, b]).set a (some (.val (.int x)))).set b (some (.val (.int y)))) m' tt fun c m2 => c = f x y ∧ m2 = m' ∧
      (c = true → WE K (((wipeR r [a, b]).set a (some (.val (.int x)))).set b (some (.val (.int y)))) m' te fun s m3 => s = .val (g x y) ∧ m3 = m'))
    (q : Q (.val (.lst (((xs.zip ys).filter fun p => f p.1 p.2).map fun p => g p.1 p.2))) m) : WE K r m (tLc (iZ K st ta) (gTup K 2 (gCons (gName a) (gCons (gName b) gNil))) tt te [a, b]) Q := by
  refine we_lc (js := [a] ++ ([b] ++ [])) (by simp) (wi_Z fun σ H R e so k => ha σ H R e so fun vs H' ss m' x so' rs ⟨e1, b1, b2, es⟩ => k vs H' ss m' x so' rs ⟨b1, b2, _, _, es, fun z => by rw [List.length_map, List.length_map]; exact hst z, ?_, e1, tst2 f, fst2 g, fun d hd m' => ?_, ?_⟩)
  · unfold zipD
    rw [List.length_map, List.length_zip, List.length_map, List.length_map]
    omega
  · obtain ⟨x, y, rfl, hm⟩ := zip_mem hd
    exact wg_tup rfl (wgs_cons (wg_name (wgs_cons (wg_name (wgs_nil (ht x y hm m'))))))
  · rw [zip_map]; exact q
/-- over one row of ints -/
def fst1 (g : Int → D) : D → D
  | .int x => g x
  | _ => .non
def tst1 (g : Int → Bool) : D → Bool
  | .int x => g x
  | _ => false
theorem one_map (g : Int → D) (f : Int → Bool) : ∀ xs : List Int, ((xs.map D.int).filter (tst1 f)).map (fst1 g) = (xs.filter f).map g
  | [] => rfl
  | x :: xs => by
    have ih := one_map g f xs
    rw [List.map_cons, List.filter_cons, List.filter_cons]
    have e2 : tst1 f (.int x) = f x := rfl
    rw [e2]
    cases f x with
    | true => rw [if_pos rfl, if_pos rfl, List.map_cons, List.map_cons, ih]; rfl
    | false => rw [if_neg Bool.false_ne_true, if_neg Bool.false_ne_true, ih]
theorem we_eachI {a : Nat} {wi : TI} {tt : TT} {te : TE} {Q : Sv → Sto → Prop} (xs : List Int) (f : Int → Bool) (g : Int → D) (hl : xs.length ≤ 100000)
    (ha : WI K r m wi fun ds m1 => ds = xs.map .int ∧ m1 = m)
    (ht : ∀ x, x ∈ xs → ∀ m', WT K ((wipeR r [a]).set a (some (.val (.int x)))) m' tt fun c m2 => c = f x ∧ m2 = m' ∧ (c = true → WE K ((wipeR r [a]).set a (some (.val (.int x)))) m' te fun s m3 => s = .val (g x) ∧ m3 = m'))
    (q : Q (.val (.lst ((xs.filter f).map g))) m) : WE K r m (tLc wi (gName a) tt te [a]) Q := by
  refine we_lc (js := [a]) (by simp) fun σ H R e so k => ha σ H R e so fun J H' ds m' x so' io ⟨e1, e2⟩ => k J H' ds m' x so' io ⟨?_, e2, tst1 f, fst1 g, fun d hd m' => ?_, ?_⟩
  · rw [e1, List.length_map]; exact hl
  · rw [e1] at hd
    obtain ⟨x, hx, rfl⟩ := List.mem_map.mp hd
    exact wg_name (ht x hx m')
  · rw [e1, one_map]; exact q
/-! ### what is drawn: the generator is an owned list of three ints -/
def GenI (m : Sto) (g : Addr) (n : Nat) : Prop := ∃ a s c : Int, m g = some [.int a, .int s, .int c] ∧ 0 ≤ s ∧ s < 2147483647 ∧ 0 ≤ c ∧ c + 128 * (n : Int) ≤ 1000000000000
def Fr (m m' : Sto) (g : Addr) : Prop := ∀ p, p ≠ g → m' p = m p
theorem Fr.refl {g : Addr} : Fr m m g := fun _ _ => rfl
theorem Fr.trans {m1 m2 : Sto} {g : Addr} (a : Fr m m1 g) (b : Fr m1 m2 g) : Fr m m2 g := fun p h => (b p h).trans (a p h)
theorem Fr.st {g : Addr} {ds : List D} : Fr m (stS m g ds) g := fun p h => stS_ne h
theorem GenI.mono {g : Addr} {n k : Nat} (h : GenI m g n) (l : k ≤ n) : GenI m g k := by
  obtain ⟨a, s, c, h1, h2, h3, h4, h5⟩ := h
  exact ⟨a, s, c, h1, h2, h3, h4, by omega⟩
theorem GenI.some {g : Addr} {n : Nat} (h : GenI m g n) : ∃ ds, m g = some ds := by
  obtain ⟨a, s, c, h1, _⟩ := h
  exact ⟨_, h1⟩
theorem GenI.other {g p : Addr} {n : Nat} {ds : List D} (h : GenI m g n) (e : g ≠ p) : GenI (stS m p ds) g n := by
  obtain ⟨a, s, c, h1, h2⟩ := h
  exact ⟨a, s, c, by rw [stS_ne e]; exact h1, h2⟩
theorem GenI.del {g p : Addr} {n : Nat} (h : GenI m g n) (e : g ≠ p) : GenI (stD m p) g n := by
  obtain ⟨a, s, c, h1, h2⟩ := h
  exact ⟨a, s, c, by unfold stD; rw [if_neg e]; exact h1, h2⟩
/-- a row each item of which may draw k times -/
theorem we_drawn {wi : TI} {g : TG} {te : TE} {vs js : List Nat} {Q : Sv → Sto → Prop} {ge : Addr} (k n : Nat) (A : Nat → List D → Prop) (hjs : ∀ j ∈ js, j ∈ vs)
    (h : WI K r m wi fun ds m1 => m1 = m ∧ ds.length ≤ 100000 ∧ GenI m ge (n + k * ds.length) ∧ A 0 [] ∧
      (∀ i d acc m', ds[i]? = some d → A i acc → GenI m' ge (n + k * (ds.length - i)) → WG K g js (.val d) (wipeR r vs) m' fun r2 => WE K r2 m' te fun s m3 => ∃ x, s = .val x ∧ A (i + 1) (acc ++ [x]) ∧ GenI m3 ge (n + k * (ds.length - i - 1)) ∧ Fr m' m3 ge) ∧
      (∀ acc m', A ds.length acc → GenI m' ge n → Fr m m' ge → Q (.val (.lst acc)) m')) : WE K r m (tLc wi g tYes te vs) Q := by
  refine we_free (we_lcO hjs fun σ H R e st kk => h σ H R e st fun J H' ds mz x so io ⟨em, hl, hg, h0, turn, fin⟩ => kk J H' ds mz x so io ⟨hl, fun p hp => ?_⟩)
  subst em
  have gp : ge ≠ p := fun e => by
    obtain ⟨ds, z⟩ := hg.some
    rw [e, hp] at z
    cases z
  refine ⟨fun i acc m' => A i acc ∧ GenI m' ge (n + k * (ds.length - i)) ∧ ∀ q, q ≠ ge → q ≠ p → m' q = mz q, ⟨h0, hg.other gp, fun q _ h2 => stS_ne h2⟩, ?_, ?_⟩
  · rintro i d acc m' hd _ hm ⟨hA, hG, hF⟩
    refine fun v1 σ1 H1 QV1 e1 st1 rs1 k1 => turn i d acc m' hd hA hG v1 σ1 H1 QV1 e1 st1 rs1 fun σ2 r2 e2 l2 n2 q2 => k1 σ2 r2 e2 l2 n2 (wt_yes ?_)
    rw [if_pos rfl]
    refine q2.imp fun s m3 ⟨x, es, h1, h2, h3⟩ => ⟨x, es, by rw [h3 p (fun z => gp z.symm)]; exact hm, h1, ?_, fun q a b => by rw [stS_ne b, h3 q a, hF q a b]⟩
    have : n + k * (ds.length - (i + 1)) = n + k * (ds.length - i - 1) := rfl
    exact h2.other gp
  · rintro acc m' hm ⟨hA, hG, hF⟩
    refine ⟨p, _, rfl, hp, hm, fin acc (stD m' p) hA ?_ ?_⟩
    · have : n + k * (ds.length - ds.length) = n := by simp
      rw [this] at hG
      exact hG.del gp
    · intro q hq
      unfold stD
      by_cases z : q = p
      · rw [if_pos z, z, hp]
      · rw [if_neg z, hF q hq z]
end
end Cr

/-! Cr9: what the laws draw. -/
namespace Cr
open PySem PySem.Spec PyProof.Rows L2
local macro_rules | `(tactic| walk_at "w") => `(tactic| first
  | with_reducible refine ws_seq ?_ | with_reducible refine ws_asg ?_ | with_reducible refine ws_ret ?_ | with_reducible refine ws_retN ?_ | with_reducible refine ws_drop ?_ | with_reducible refine ws_if ?_
  | with_reducible refine ws_next ?_ | with_reducible refine ws_par ?_ | with_reducible refine ws_par3 ?_
  | with_reducible refine we_int ?_ | with_reducible refine we_str ?_ | with_reducible refine we_bl ?_ | with_reducible refine we_non ?_ | with_reducible refine we_op ?_ | with_reducible refine we_un ?_
  | with_reducible refine we_cb ?_ | with_reducible refine we_if ?_ | with_reducible refine we_tup ?_ | with_reducible refine we_call ?_ | with_reducible refine wa_cons ?_ | with_reducible refine wa_nil ?_
  | with_reducible refine wt_val ?_ | with_reducible refine wt_test ?_ | with_reducible refine wt_and ?_ | with_reducible refine wt_or ?_ | with_reducible refine wt_not ?_ | with_reducible refine wt_yes ?_
  | with_reducible refine we_andV ?_ | with_reducible refine we_orV ?_ | with_reducible refine we_notV ?_ | with_reducible refine we_chain ?_ | with_reducible refine we_slice ?_ | with_reducible refine wo_none ?_ | with_reducible refine wo_some ?_
  | with_reducible refine we_bits ?_ | refine we_var (by rfl) ?_)
local macro_rules | `(tactic| walk_at "i2") => `(tactic| refine ⟨_, _, _, rfl, rfl, .int _ _, ?_⟩)
local macro_rules | `(tactic| walk_at "in") => `(tactic| refine ⟨_, _, rfl, .int _, ?_⟩)
/-! ### the hash -/
def T_law_hash : Tr := fun ss m Q => ∃ s i : Int, ss = [.val (.int s), .val (.int i)] ∧ 0 ≤ s ∧ s < 2147483647 ∧ 0 ≤ i ∧ i ≤ 1000000000000 ∧ ∀ v : Int, 0 ≤ v → v < 2147483647 → Q (.val (.int v)) m
def t_law_hash (K : PySem.W.Frag) : TS := (tSeq (tAsg (tOp (rD2 K RMod) (tCB (rDN K RInt) (tCons (tOp (rD2 K RAdd) (tOp (rD2 K RAdd) (tOp (rD2 K RAdd) (tOp (rD2 K RMul) (tVar 0) (tC (.int 1140671))) (tOp (rD2 K RMul) (tOp (rD2 K RMul) (tC (.int 27644437)) (tVar 1)) (tVar 1))) (tOp (rD2 K RMul) (tC (.int 131)) (tVar 1))) (tC (.int 19))) tNil)) (tC (.int 2147483629))) (gName 2)) (tSeq (tAsg (tOp (rD2 K RMod) (tCB (rDN K RInt) (tCons (tOp (rD2 K RAdd) (tOp (rD2 K RAdd) (tOp (rD2 K RMul) (tVar 2) (tVar 2)) (tOp (rD2 K RMul) (tC (.int 62089)) (tVar 1))) (tC (.int 32416187))) tNil)) (tC (.int 2147483587))) (gName 2)) (tRet (tOp (rD2 K RMod) (tCB (rDN K RInt) (tCons (tOp (rD2 K RMul) (tVar 2) (tC (.int 48271))) tNil)) (tC (.int 2147483647))))))
theorem m_law_hash {K : PySem.W.Frag} : Ok K ["seed", "index", "mixed"] T_law_hash (t_law_hash K) := by
  rintro ss m Q ⟨s, i, rfl, h1, h2, h3, h4, q⟩
  unfold t_law_hash
  have mk : ∀ {a b : Int}, a.natAbs ≤ 10 ^ 30 → b.natAbs ≤ 10 ^ 30 → a.natAbs.log2 + b.natAbs.log2 < 1000000 := fun ha hb => mulOk ha hb (by decide +kernel)
  repeat walk_at "w"
  refine ⟨_, _, _, rfl, rfl, .int (mk (by omega) (by omega)), ?_⟩
  repeat walk_at "w"
  refine ⟨_, _, _, rfl, rfl, .int (mk (by omega) (by omega)), ?_⟩
  repeat walk_at "w"
  refine ⟨_, _, _, rfl, rfl, .int (mk (by omega) (by omega)), ?_⟩
  walk_at "i2"
  repeat walk_at "w"
  refine ⟨_, _, _, rfl, rfl, .int (mk (by omega) (by omega)), ?_⟩
  walk_at "i2"
  repeat walk_at "w"
  walk_at "i2"
  repeat walk_at "w"
  walk_at "in"
  repeat walk_at "w"
  refine ⟨_, _, _, rfl, rfl, .int (by decide), ?_⟩
  generalize hx : ((s * 1140671 + 27644437 * i * i + 131 * i + 19) % 2147483629) = x
  have x1 : 0 ≤ x := by rw [← hx]; exact Int.emod_nonneg _ (by decide)
  have x2 : x < 2147483629 := by rw [← hx]; exact Int.emod_lt_of_pos _ (by decide)
  repeat walk_at "w"
  refine ⟨_, _, _, rfl, rfl, .int (mk (by omega) (by omega)), ?_⟩
  repeat walk_at "w"
  refine ⟨_, _, _, rfl, rfl, .int (mk (by omega) (by omega)), ?_⟩
  walk_at "i2"
  repeat walk_at "w"
  walk_at "i2"
  repeat walk_at "w"
  walk_at "in"
  repeat walk_at "w"
  refine ⟨_, _, _, rfl, rfl, .int (by decide), ?_⟩
  generalize hy : ((x * x + 62089 * i + 32416187) % 2147483587) = y
  have y1 : 0 ≤ y := by rw [← hy]; exact Int.emod_nonneg _ (by decide)
  have y2 : y < 2147483629 := by rw [← hy]; have := Int.emod_lt_of_pos (x * x + 62089 * i + 32416187) (b := 2147483587) (by decide); omega
  repeat walk_at "w"
  refine ⟨_, _, _, rfl, rfl, .int (mk (by omega) (by omega)), ?_⟩
  repeat walk_at "w"
  walk_at "in"
  repeat walk_at "w"
  refine ⟨_, _, _, rfl, rfl, .int (by decide), ?_⟩
  exact q _ (Int.emod_nonneg _ (by decide)) (Int.emod_lt_of_pos _ (by decide))
theorem vw_adr {m : Sto} {a : Addr} {ds : List D} (h : m a = some ds) : vw m (.adr a) = some (.lst ds) := by show (m a).map D.lst = _; rw [h]; rfl
/-! ### a number below a bound -/
def bMax : Int := 2 ^ 3000
theorem bMax_eq : bMax = 2 ^ 3000 := rfl
theorem bMax_bits {b : Int} (h1 : 0 < b) (h2 : b < bMax) : Builtin.Int.intBits b ≤ 3000 ∧ b.natAbs.log2 < 9000 := by
  have h : b.natAbs < 2 ^ 3000 := by
    have e : (b.natAbs : Int) = b := by omega
    have h3 : (b.natAbs : Int) < ((2 ^ 3000 : Nat) : Int) := by rw [e]; exact h2
    exact Int.ofNat_lt.mp h3
  exact ⟨PySem.intBits_le_iff.mpr h, Nat.lt_of_le_of_lt (log2_lt h) (by decide)⟩
def T_law_random : Tr := fun ss m Q => ∃ (g : Addr) (b : Int) (n : Nat), ss = [.adr g, .val (.int b)] ∧ GenI m g (n + 1) ∧ 0 < b ∧ b < bMax ∧ ∀ (v : Int) (m' : Sto), 0 ≤ v → v < b → GenI m' g n → Fr m m' g → Q (.val (.int v)) m'
def t_law_random (K : PySem.W.Frag) : TS := (tSeq (tIfS (tTest (tOp (rD2 K RGt) (tOp (rD2 K RIx) (tVar 0) (tC (.int 0))) (tC (.int 0)))) (tSeq (tAsg (tOp (rD2 K RMod) (tCB (rDN K RInt) (tCons (tOp (rD2 K RIx) (tVar 0) (tC (.int 0))) tNil)) (tVar 1)) (gName 2)) (tSeq (tAsg (tOp (rD2 K RFdiv) (tOp (rD2 K RIx) (tVar 0) (tC (.int 0))) (tVar 1)) (gSub (tVar 0) (tC (.int 0)) rSetL)) (tRet (tVar 2)))) tNext) (tSeq (tAsg (tC (.int 0)) (gName 2)) (tSeq (tFor (iRng1 (tCons (tOp (rD2 K RAdd) (tC (.int 1)) (tOp (rD2 K RFdiv) (tBits (tVar 1)) (tC (.int 30)))) tNil)) (gName 3) (tSeq (tAsg (tOp (rD2 K RAdd) (tOp (rD2 K RIx) (tVar 0) (tC (.int 2))) (tC (.int 1))) (gSub (tVar 0) (tC (.int 2)) rSetL)) (tAsg (tOp (rD2 K RAdd) (tOp (rD2 K RMul) (tVar 2) (tC (.int 2147483587))) (tCall (SpD K T_law_hash) [] E0 (tCons (tOp (rD2 K RIx) (tVar 0) (tC (.int 1))) (tCons (tOp (rD2 K RIx) (tVar 0) (tC (.int 2))) tNil)))) (gName 2)))) (tRet (tOp (rD2 K RMod) (tCB (rDN K RInt) (tCons (tVar 2) tNil)) (tVar 1))))))
theorem m_law_random {K : PySem.W.Frag} : Ok K ["generator", "bound", "drawn", "turn"] T_law_random (t_law_random K) := by
  rintro ss m Q ⟨g, b, n, rfl, ⟨a, s, c, hg, s1, s2, c1, c2⟩, b1, b2, q⟩
  obtain ⟨bb1, bb2⟩ := bMax_bits b1 b2
  unfold t_law_random
  repeat walk_at "w"
  refine ⟨_, _, _, vw_adr hg, rfl, .lst rfl, ?_⟩
  repeat walk_at "w"
  walk_at "i2"
  refine ⟨_, rfl, ite_dec (fun ha => ?_) (fun ha => ?_)⟩
  · repeat walk_at "w"
    refine ⟨_, _, _, vw_adr hg, rfl, .lst rfl, ?_⟩
    repeat walk_at "w"
    walk_at "in"
    repeat walk_at "w"
    refine ⟨_, _, _, rfl, rfl, .int b1, ?_⟩
    walk_at "w"
    refine ws_setI ?_
    repeat walk_at "w"
    refine ⟨_, _, _, vw_adr hg, rfl, .lst rfl, ?_⟩
    repeat walk_at "w"
    refine ⟨_, _, _, rfl, rfl, .int b1 bb2, ?_⟩
    repeat walk_at "w"
    refine ⟨_, g, _, _, _, rfl, rfl, rfl, hg, rfl, ?_⟩
    repeat walk_at "w"
    refine q _ _ (Int.emod_nonneg _ (by omega)) (Int.emod_lt_of_pos _ b1) ⟨_, _, _, stS_same, s1, s2, c1, by omega⟩ Fr.st
  · repeat walk_at "w"
    refine ws_for [3] (wi_rng1 ?_)
    repeat walk_at "w"
    refine ⟨_, rfl, ?_⟩
    repeat walk_at "w"
    refine ⟨_, _, _, rfl, rfl, .int (by decide) (by decide +kernel), ?_⟩
    walk_at "i2"
    walk_at "w"
    have hn : (0 : Int) ≤ 1 + (Builtin.Int.intBits b : Int) / 30 ∧ 1 + (Builtin.Int.intBits b : Int) / 30 ≤ 101 := by omega
    generalize hN : 1 + (Builtin.Int.intBits b : Int) / 30 = N at hn
    refine ⟨N, rfl, by omega, by omega, fun i r' m' => ∃ (x c' : Int) (z : Option Sv), r' = [some (.adr g), some (.val (.int b)), some (.val (.int x)), z] ∧ 0 ≤ x ∧ x < 2 ^ (31 * i) ∧ m' g = some [.int a, .int s, .int c'] ∧ c' = c + i ∧ Fr m m' g, ⟨0, c, none, rfl, by decide, by decide, hg, by omega, Fr.refl⟩, ?_, ?_⟩
    · rintro i d r' m' hd ⟨x, c', z, rfl, x0, x1, hg', hc, hf⟩
      have hi : (i : Int) < N := by
        have := (List.getElem?_eq_some_iff.mp hd).1
        simp [rngD] at this
        omega
      refine wg_name ?_
      walk_at "w"
      refine ws_setI ?_
      repeat walk_at "w"
      refine ⟨_, _, _, vw_adr hg', rfl, .lst rfl, ?_⟩
      repeat walk_at "w"
      walk_at "i2"
      repeat walk_at "w"
      refine ⟨_, g, _, _, _, rfl, rfl, rfl, hg', rfl, ?_⟩
      repeat walk_at "w"
      have hx : x.natAbs.log2 ≤ 31 * i := log2_lt (by
        have e : (x.natAbs : Int) = x := by omega
        have h3 : (x.natAbs : Int) < ((2 ^ (31 * i) : Nat) : Int) := by rw [e]; simpa using x1
        have h4 := Int.ofNat_lt.mp h3
        rw [Nat.pow_succ]
        omega)
      refine ⟨_, _, _, rfl, rfl, .int (by have : (2147483587 : Int).natAbs.log2 = 30 := by decide +kernel
                                          omega), ?_⟩
      repeat walk_at "w"
      refine ⟨_, _, _, vw_adr stS_same, rfl, .lst rfl, ?_⟩
      repeat walk_at "w"
      refine ⟨_, _, _, vw_adr stS_same, rfl, .lst rfl, ?_⟩
      repeat walk_at "w"
      refine ⟨s, c' + 1, rfl, s1, s2, by omega, by omega, fun v v1 v2 => ?_⟩
      walk_at "i2"
      refine ⟨x * 2147483587 + v, c' + 1, _, rfl, by omega, ?_, stS_same, by omega, hf.trans Fr.st⟩
      have e : (2 : Int) ^ (31 * (i + 1)) = 2 ^ (31 * i) * 2147483648 := by rw [Nat.mul_add, Int.pow_add]; rfl
      rw [e]
      generalize (2 : Int) ^ (31 * i) = A at x1 ⊢
      omega
    · rintro r' m' ⟨x, c', z, rfl, x0, x1, hg', hc, hf⟩
      have hl : ((rngD 0 N.toNat).length : Int) = N := by simp [rngD]; omega
      repeat walk_at "w"
      walk_at "in"
      repeat walk_at "w"
      refine ⟨_, _, _, rfl, rfl, .int b1, ?_⟩
      exact q _ _ (Int.emod_nonneg _ (by omega)) (Int.emod_lt_of_pos _ b1) ⟨_, _, _, hg', s1, s2, by omega, by omega⟩ hf
end Cr

/-! CrA: generators, forms and points that laws draw. -/
namespace Cr
open PySem PySem.Spec PyProof.Rows L2
local macro_rules | `(tactic| walk_at "w") => `(tactic| first
  | with_reducible refine ws_seq ?_ | with_reducible refine ws_asg ?_ | with_reducible refine ws_ret ?_ | with_reducible refine ws_retN ?_ | with_reducible refine ws_drop ?_ | with_reducible refine ws_if ?_
  | with_reducible refine ws_next ?_ | with_reducible refine ws_par ?_ | with_reducible refine ws_par3 ?_
  | with_reducible refine we_int ?_ | with_reducible refine we_str ?_ | with_reducible refine we_bl ?_ | with_reducible refine we_non ?_ | with_reducible refine we_op ?_ | with_reducible refine we_un ?_
  | with_reducible refine we_cb ?_ | with_reducible refine we_if ?_ | with_reducible refine we_tup ?_ | with_reducible refine we_call ?_ | with_reducible refine wa_cons ?_ | with_reducible refine wa_nil ?_
  | with_reducible refine wt_val ?_ | with_reducible refine wt_test ?_ | with_reducible refine wt_and ?_ | with_reducible refine wt_or ?_ | with_reducible refine wt_not ?_ | with_reducible refine wt_yes ?_
  | with_reducible refine we_andV ?_ | with_reducible refine we_orV ?_ | with_reducible refine we_notV ?_ | with_reducible refine we_chain ?_ | with_reducible refine we_slice ?_ | with_reducible refine wo_none ?_ | with_reducible refine wo_some ?_
  | with_reducible refine we_bits ?_ | refine we_var (by rfl) ?_)
local macro_rules | `(tactic| walk_at "i2") => `(tactic| refine ⟨_, _, _, rfl, rfl, .int _ _, ?_⟩)
local macro_rules | `(tactic| walk_at "in") => `(tactic| refine ⟨_, _, rfl, .int _, ?_⟩)
theorem cut_ints (ns : List Int) (lo hi : Option Int) : ∃ xs : List Int, cutD (ns.map D.int) lo hi = xs.map D.int ∧ xs.length ≤ ns.length := by
  unfold cutD
  rw [List.length_map, ← List.map_drop, ← List.map_take]
  exact ⟨_, rfl, by simp; omega⟩
/-! ### the script -/
def T_law_cell : Tr := fun ss m Q => ∃ (ns : List Int) (i : Int), ss = [.val (.scr ns), .val (.int i)] ∧ 0 ≤ i ∧ (∀ z ∈ ns, Builtin.Int.intBits z ≤ 1048576) ∧ ∀ v : Int, Builtin.Int.intBits v ≤ 1048576 → Q (.val (.int v)) m
def t_law_cell (K : PySem.W.Frag) : TS := (tSeq (tIfS (tTest (tOp (rD2 K RLt) (tVar 1) (tCB (rDN K RLen) (tCons (tVar 0) tNil)))) (tRet (tOp (rD2 K RIx) (tVar 0) (tVar 1))) tNext) (tRet (tOp (rD2 K RMod) (tCB (rDN K RSum) (tCons (tSl (rSlD K) (tVar 0) tNoPart (tPart (tC (.int 1)))) tNil)) (tC (.int 1000003)))))
theorem m_law_cell {K : PySem.W.Frag} : Ok K ["script", "index"] T_law_cell (t_law_cell K) := by
  rintro ss m Q ⟨ns, i, rfl, i0, hb, q⟩
  unfold t_law_cell
  repeat walk_at "w"
  refine ⟨_, _, rfl, .scr _, ?_⟩
  walk_at "i2"
  refine ⟨_, rfl, ite_dec (fun hi => ?_) (fun hi => ?_)⟩
  · repeat walk_at "w"
    have h : i.toNat < ns.length := by omega
    refine ⟨_, _, _, rfl, rfl, .scr (n := ns[i.toNat]) (by unfold atI ixN; rw [if_pos i0, if_pos hi]; exact List.getElem?_eq_getElem h), ?_⟩
    exact q _ (hb _ (List.getElem_mem h))
  · repeat walk_at "w"
    refine ⟨1, rfl, ?_⟩
    obtain ⟨xs, e, _⟩ := cut_ints ns none (some 1)
    refine ⟨_, _, rfl, .scr _ _ _, ?_⟩
    repeat walk_at "w"
    refine ⟨[.lst (xs.map .int)], _, by rw [← e]; rfl, .lst _, ?_⟩
    repeat walk_at "w"
    refine ⟨_, _, _, rfl, rfl, .int (by decide), ?_⟩
    refine q _ (PySem.intBits_le_iff.mpr ?_)
    have h1 := Int.emod_nonneg xs.sum (b := 1000003) (by decide)
    have h2 := Int.emod_lt_of_pos xs.sum (b := 1000003) (by decide)
    refine Nat.lt_of_lt_of_le (m := 2 ^ 20) ?_ (Nat.pow_le_pow_right (by decide) (by decide))
    show (xs.sum % 1000003).natAbs < 1048576
    omega
def T_law_generator : Tr := fun ss m Q => ∃ (ns : List Int) (i : Int), ss = [.val (.scr ns), .val (.int i)] ∧ 0 ≤ i ∧ i ≤ 1000 ∧ (∀ z ∈ ns, Builtin.Int.intBits z ≤ 1048576) ∧ ∀ (p : Addr) (m' : Sto), m p = none → GenI m' p 1000000 → Fr m m' p → Q (.adr p) m'
def t_law_generator (K : PySem.W.Frag) : TS := (tSeq (tAsg (tCall (SpD K T_law_cell) [] E0 (tCons (tVar 0) (tCons (tVar 1) tNil))) (gName 2)) (tRet (tLst (tCons (tOp (rD2 K RMod) (tCB (rDN K RInt) (tCons (tCB (rDN K RMax) (tCons (tOp (rD2 K RSub) (tVar 2) (tOp (rD2 K RPow) (tC (.int 10)) (tC (.int 18)))) (tCons (tC (.int 0)) tNil))) tNil)) (tOp (rD2 K RPow) (tOp (rD2 K RPow) (tC (.int 10)) (tC (.int 60))) (tC (.int 10)))) (tCons (tOp (rD2 K RMod) (tCB (rDN K RInt) (tCons (tVar 2) tNil)) (tC (.int 2147483647))) (tCons (tOp (rD2 K RMul) (tC (.int 1000)) (tVar 1)) tNil))))))
theorem m_law_generator {K : PySem.W.Frag} : Ok K ["script", "index", "seed"] T_law_generator (t_law_generator K) := by
  rintro ss m Q ⟨ns, i, rfl, i0, i1, hb, q⟩
  unfold t_law_generator
  repeat walk_at "w"
  refine ⟨ns, i, rfl, i0, hb, fun v hv => ?_⟩
  walk_at "w"
  refine we_lstO ?_
  repeat walk_at "w"
  refine ⟨_, _, _, rfl, rfl, .int (by decide) (by decide), ?_⟩
  walk_at "i2"
  repeat walk_at "w"
  refine ⟨_, _, rfl, .int _ _, ?_⟩
  repeat walk_at "w"
  walk_at "in"
  repeat walk_at "w"
  refine ⟨_, _, _, rfl, rfl, .int (by decide) (by decide +kernel), ?_⟩
  repeat walk_at "w"
  refine ⟨_, _, _, rfl, rfl, .int (by decide) (by decide +kernel), ?_⟩
  refine ⟨_, _, _, rfl, rfl, .int (by decide +kernel), ?_⟩
  repeat walk_at "w"
  walk_at "in"
  repeat walk_at "w"
  refine ⟨_, _, _, rfl, rfl, .int (by decide), ?_⟩
  repeat walk_at "w"
  refine ⟨_, _, _, rfl, rfl, .int (mulOk (B := 1000) (C := 1000) (by decide) (by omega) (by decide +kernel)), ?_⟩
  repeat walk_at "w"
  refine ⟨[.int _, .int _, .int _], rfl, by show (3 : Nat) ≤ 100000; decide, fun p hp => q p _ hp ⟨_, _, _, stS_same, Int.emod_nonneg _ (by decide), Int.emod_lt_of_pos _ (by decide), by omega, by omega⟩ Fr.st⟩
/-! ### forms and points -/
def Row (l : Nat) (B : Int) (ns : List Int) : Prop := ns.length = l ∧ ∀ x ∈ ns, 0 ≤ x ∧ x ≤ B
theorem Row.snoc {l : Nat} {B x : Int} {ns : List Int} (h : Row l B ns) (h1 : 0 ≤ x) (h2 : x ≤ B) : Row (l + 1) B (ns ++ [x]) := ⟨by rw [List.length_append, h.1]; rfl, fun y q => by
  rcases List.mem_append.mp q with q | q
  · exact h.2 y q
  · have := List.mem_singleton.mp q
    subst this
    exact ⟨h1, h2⟩⟩
theorem Row.mono {l : Nat} {B C : Int} {ns : List Int} (h : Row l B ns) (le : B ≤ C) : Row l C ns := ⟨h.1, fun x q => ⟨(h.2 x q).1, Int.le_trans (h.2 x q).2 le⟩⟩
def T_law_form : Tr := fun ss m Q => ∃ (g : Addr) (k n : Nat) (B : Int), ss = [.adr g, .val (.int k), .val (.int B)] ∧ k ≤ 1000 ∧ 0 ≤ B ∧ B + 1 < bMax ∧ GenI m g (n + (k + 1)) ∧ ∀ (ns : List Int) (m' : Sto), Row (k + 1) B ns → GenI m' g n → Fr m m' g → Q (.val (tI ns)) m'
def t_law_form (K : PySem.W.Frag) : TS := (tRet (tCB (rDN K RTup) (tCons (tLc (iRng1 (tCons (tOp (rD2 K RAdd) (tVar 1) (tC (.int 1))) tNil)) (gName 3) tYes (tCall (SpD K T_law_random) [] E0 (tCons (tVar 0) (tCons (tOp (rD2 K RAdd) (tVar 2) (tC (.int 1))) tNil))) [3]) tNil)))
theorem rng_len (j : Int) (n : Nat) : (rngD j n).length = n := by simp [rngD]
theorem m_law_form {K : PySem.W.Frag} : Ok K ["generator", "many", "most", "turn"] T_law_form (t_law_form K) := by
  rintro ss m Q ⟨g, k, n, B, rfl, hk, hB, hB2, hg, q⟩
  unfold t_law_form
  repeat walk_at "w"
  refine we_drawn (ge := g) (js := [3]) 1 n (fun i acc => ∃ ns, acc = ns.map .int ∧ Row i B ns) (by decide) (wi_rng1 ?_)
  repeat walk_at "w"
  walk_at "i2"
  walk_at "w"
  have e1 : ((k : Int) + 1).toNat = k + 1 := by omega
  refine ⟨_, rfl, by omega, by omega, rfl, by rw [rng_len]; omega, by rw [rng_len, e1, Nat.one_mul]; exact hg, ⟨[], rfl, rfl, by simp⟩, ?_, ?_⟩
  · rintro i d acc m' hd ⟨ns, rfl, hr⟩ hG
    have hi := (List.getElem?_eq_some_iff.mp hd).1
    refine wg_name ?_
    repeat walk_at "w"
    walk_at "i2"
    repeat walk_at "w"
    refine ⟨g, B + 1, n + 1 * ((rngD 0 ((k : Int) + 1).toNat).length - i - 1), rfl, ?_, by omega, hB2, fun v m3 v0 v1 hG3 hF => ⟨.int v, rfl, ⟨ns ++ [v], by rw [List.map_append]; rfl, hr.snoc v0 (by omega)⟩, hG3, hF⟩⟩
    exact hG.mono (by omega)
  · rintro acc m' ⟨ns, rfl, hr⟩ hG hF
    rw [rng_len, e1] at hr
    repeat walk_at "w"
    refine ⟨_, _, rfl, .lst _, ?_⟩
    exact q ns m' hr hG hF
def T_law_point : Tr := fun ss m Q => ∃ (g : Addr) (k n : Nat) (B : Int), ss = [.adr g, .val (.int k), .val (.int B)] ∧ k ≤ 1000 ∧ 0 ≤ B ∧ B + 1 < bMax ∧ GenI m g (n + k) ∧ ∀ (ns : List Int) (m' : Sto), Row k B ns → GenI m' g n → Fr m m' g → Q (.val (lI ns)) m'
def t_law_point (K : PySem.W.Frag) : TS := (tRet (tLc (iRng1 (tCons (tVar 1) tNil)) (gName 3) tYes (tCall (SpD K T_law_random) [] E0 (tCons (tVar 0) (tCons (tOp (rD2 K RAdd) (tVar 2) (tC (.int 1))) tNil))) [3]))
theorem m_law_point {K : PySem.W.Frag} : Ok K ["generator", "many", "most", "turn"] T_law_point (t_law_point K) := by
  rintro ss m Q ⟨g, k, n, B, rfl, hk, hB, hB2, hg, q⟩
  unfold t_law_point
  repeat walk_at "w"
  refine we_drawn (ge := g) (js := [3]) 1 n (fun i acc => ∃ ns, acc = ns.map .int ∧ Row i B ns) (by decide) (wi_rng1 ?_)
  repeat walk_at "w"
  have e1 : ((k : Int)).toNat = k := by omega
  refine ⟨_, rfl, by omega, by omega, rfl, by rw [rng_len]; omega, by rw [rng_len, e1, Nat.one_mul]; exact hg, ⟨[], rfl, rfl, by simp⟩, ?_, ?_⟩
  · rintro i d acc m' hd ⟨ns, rfl, hr⟩ hG
    have hi := (List.getElem?_eq_some_iff.mp hd).1
    refine wg_name ?_
    repeat walk_at "w"
    walk_at "i2"
    repeat walk_at "w"
    refine ⟨g, B + 1, n + 1 * ((rngD 0 ((k : Int)).toNat).length - i - 1), rfl, ?_, by omega, hB2, fun v m3 v0 v1 hG3 hF => ⟨.int v, rfl, ⟨ns ++ [v], by rw [List.map_append]; rfl, hr.snoc v0 (by omega)⟩, hG3, hF⟩⟩
    exact hG.mono (by omega)
  · rintro acc m' ⟨ns, rfl, hr⟩ hG hF
    rw [rng_len, e1] at hr
    exact q ns m' hr hG hF
end Cr

/-! CrB: sums over rows. -/
namespace Cr
open PySem PySem.Spec PyProof.Rows L2
local macro_rules | `(tactic| walk_at "w") => `(tactic| first
  | with_reducible refine ws_seq ?_ | with_reducible refine ws_asg ?_ | with_reducible refine ws_ret ?_ | with_reducible refine ws_retN ?_ | with_reducible refine ws_drop ?_ | with_reducible refine ws_if ?_
  | with_reducible refine ws_next ?_ | with_reducible refine ws_par ?_ | with_reducible refine ws_par3 ?_
  | with_reducible refine we_int ?_ | with_reducible refine we_str ?_ | with_reducible refine we_bl ?_ | with_reducible refine we_non ?_ | with_reducible refine we_op ?_ | with_reducible refine we_un ?_
  | with_reducible refine we_cb ?_ | with_reducible refine we_if ?_ | with_reducible refine we_tup ?_ | with_reducible refine we_call ?_ | with_reducible refine wa_cons ?_ | with_reducible refine wa_nil ?_
  | with_reducible refine wt_val ?_ | with_reducible refine wt_test ?_ | with_reducible refine wt_and ?_ | with_reducible refine wt_or ?_ | with_reducible refine wt_not ?_ | with_reducible refine wt_yes ?_
  | with_reducible refine we_andV ?_ | with_reducible refine we_orV ?_ | with_reducible refine we_notV ?_ | with_reducible refine we_chain ?_ | with_reducible refine we_slice ?_ | with_reducible refine wo_none ?_ | with_reducible refine wo_some ?_
  | with_reducible refine we_bits ?_ | refine we_var (by rfl) ?_)
local macro_rules | `(tactic| walk_at "i2") => `(tactic| refine ⟨_, _, _, rfl, rfl, .int _ _, ?_⟩)
local macro_rules | `(tactic| walk_at "in") => `(tactic| refine ⟨_, _, rfl, .int _, ?_⟩)
theorem cut_tail (f : List D) : cutD f (some 1) none = f.tail := by
  unfold cutD
  have e : HT.sIx f.length 0 (some 1) = min 1 f.length := HT.sIx_nat f.length 0 1
  rw [e, HT.sIx_none]
  cases f with
  | nil => rfl
  | cons c cs =>
    have : min 1 (c :: cs).length = 1 := by simp
    rw [this]
    simp
theorem zw (g : Int → Int → Int) : ∀ xs ys : List Int, ((xs.zip ys).filter fun _ => true).map (fun p => D.int (g p.1 p.2)) = (List.zipWith g xs ys).map .int
  | [], _ => rfl
  | _ :: _, [] => rfl
  | x :: xs, y :: ys => by
    have ih := zw g xs ys
    rw [List.zip_cons_cons, List.filter_cons, if_pos rfl, List.map_cons, List.zipWith_cons_cons, List.map_cons, ih]
theorem we_zipW {K : PySem.W.Frag} {r : Ro} {m : Sto} {st : Bool} {a b : Nat} {ta : TA} {te : TE} {Q : Sv → Sto → Prop} (xs ys : List Int) (g : Int → Int → Int) (hl : xs.length ≤ 100000) (hst : st = true → xs.length = ys.length)
    (ha : WA K r m ta fun ss m1 => m1 = m ∧ ∃ b1 b2, ss = [.val (sqD b1 (xs.map .int)), .val (sqD b2 (ys.map .int))])
    (ht : ∀ x y, x ∈ xs → y ∈ ys → ∀ m', WE K (((wipeR r [a, b]).set a (some (.val (.int x)))).set b (some (.val (.int y)))) m' te fun s m3 => s = .val (.int (g x y)) ∧ m3 = m')
    (q : Q (.val (lI (List.zipWith g xs ys))) m) : WE K r m (tLc (iZ K st ta) (gTup K 2 (gCons (gName a) (gCons (gName b) gNil))) tYes te [a, b]) Q := by
  refine we_zipI xs ys (fun _ _ => true) (fun x y => .int (g x y)) hl hst ha (fun x y hm m' => wt_yes ⟨rfl, rfl, fun _ => ht x y (List.of_mem_zip hm).1 (List.of_mem_zip hm).2 m'⟩) ?_
  rw [zw]; exact q
/-! ### sums, differences, below -/
abbrev bSz (ns : List Int) : Prop := ∀ x ∈ ns, x.natAbs ≤ 10 ^ 400
theorem smul_ok {x y : Int} (h1 : x.natAbs ≤ 10 ^ 400) (h2 : y.natAbs ≤ 10 ^ 400) : x.natAbs.log2 + y.natAbs.log2 < 1000000 := mulOk h1 h2 (by decide +kernel)
def valI (f ps : List Int) : Int := f.headD 0 + (List.zipWith (· * ·) f.tail ps).sum
def T_law_value : Tr := fun ss m Q => ∃ (f ps : List Int) (b : Bool), ss = [.val (tI f), .val (sqD b (ps.map .int))] ∧ f ≠ [] ∧ f.length ≤ 1000 ∧ bSz f ∧ bSz ps ∧ Q (.val (.int (valI f ps))) m
def t_law_value (K : PySem.W.Frag) : TS := (tRet (tOp (rD2 K RAdd) (tOp (rD2 K RIx) (tVar 0) (tC (.int 0))) (tCB (rDN K RSum) (tCons (tLc (iZ K false (tCons (tSl (rSlD K) (tVar 0) (tPart (tC (.int 1))) tNoPart) (tCons (tVar 1) tNil))) (gTup K 2 (gCons (gName 2) (gCons (gName 3) gNil))) tYes (tOp (rD2 K RMul) (tVar 2) (tVar 3)) [2, 3]) tNil))))
theorem m_law_value {K : PySem.W.Frag} : Ok K ["form", "point", "number", "count"] T_law_value (t_law_value K) := by
  rintro ss m Q ⟨f, ps, b, rfl, hne, hl, h1, h2, q⟩
  unfold t_law_value
  cases f with
  | nil => exact absurd rfl hne
  | cons c cs =>
    repeat walk_at "w"
    refine ⟨_, _, _, rfl, rfl, .tup (d := .int c) (by unfold atI ixN; rw [if_pos (by decide), if_pos (by rw [List.length_map]; show (0 : Int) < ((cs.length + 1 : Nat) : Int); omega)]; rfl), ?_⟩
    repeat walk_at "w"
    refine we_zipW cs ps (· * ·) (by have : cs.length + 1 ≤ 1000 := hl; omega) (fun z => by cases z) ?_ (fun x y hx hy m' => ?_) ?_
    · repeat walk_at "w"
      refine ⟨1, rfl, ?_⟩
      repeat walk_at "w"
      refine ⟨_, _, rfl, .tup _ _ _, ?_⟩
      repeat walk_at "w"
      refine ⟨rfl, true, b, ?_⟩
      rw [cut_tail]
      rfl
    · repeat walk_at "w"
      exact ⟨_, _, _, rfl, rfl, .int (smul_ok (h1 _ (List.mem_cons_of_mem _ hx)) (h2 _ hy)), rfl, rfl⟩
    · repeat walk_at "w"
      refine ⟨[lI _], _, rfl, .lst _, ?_⟩
      refine ⟨_, _, _, rfl, rfl, .int _ _, ?_⟩
      exact q
def T_law_added : Tr := fun ss m Q => ∃ xs ys : List Int, ss = [.val (tI xs), .val (tI ys)] ∧ xs.length ≤ 100000 ∧ Q (.val (tI (List.zipWith (· + ·) xs ys))) m
def t_law_added (K : PySem.W.Frag) : TS := (tRet (tCB (rDN K RTup) (tCons (tLc (iZ K false (tCons (tVar 0) (tCons (tVar 1) tNil))) (gTup K 2 (gCons (gName 2) (gCons (gName 3) gNil))) tYes (tOp (rD2 K RAdd) (tVar 2) (tVar 3)) [2, 3]) tNil)))
theorem m_law_added {K : PySem.W.Frag} : Ok K ["one", "other", "low", "high"] T_law_added (t_law_added K) := by
  rintro ss m Q ⟨xs, ys, rfl, hl, q⟩
  unfold t_law_added
  repeat walk_at "w"
  refine we_zipW xs ys (· + ·) hl (fun z => by cases z) ?_ (fun x y hx hy m' => ?_) ?_
  · repeat walk_at "w"
    exact ⟨rfl, true, true, rfl⟩
  · repeat walk_at "w"
    exact ⟨_, _, _, rfl, rfl, .int _ _, rfl, rfl⟩
  · repeat walk_at "w"
    exact ⟨[lI _], _, rfl, .lst _, q⟩
def T_law_less : Tr := fun ss m Q => ∃ xs ys : List Int, ss = [.val (tI xs), .val (tI ys)] ∧ xs.length ≤ 100000 ∧ Q (.val (tI (List.zipWith (· - ·) xs ys))) m
def t_law_less (K : PySem.W.Frag) : TS := (tRet (tCB (rDN K RTup) (tCons (tLc (iZ K false (tCons (tVar 0) (tCons (tVar 1) tNil))) (gTup K 2 (gCons (gName 2) (gCons (gName 3) gNil))) tYes (tOp (rD2 K RSub) (tVar 2) (tVar 3)) [2, 3]) tNil)))
theorem m_law_less {K : PySem.W.Frag} : Ok K ["one", "other", "low", "high"] T_law_less (t_law_less K) := by
  rintro ss m Q ⟨xs, ys, rfl, hl, q⟩
  unfold t_law_less
  repeat walk_at "w"
  refine we_zipW xs ys (· - ·) hl (fun z => by cases z) ?_ (fun x y hx hy m' => ?_) ?_
  · repeat walk_at "w"
    exact ⟨rfl, true, true, rfl⟩
  · repeat walk_at "w"
    exact ⟨_, _, _, rfl, rfl, .int _ _, rfl, rfl⟩
  · repeat walk_at "w"
    exact ⟨[lI _], _, rfl, .lst _, q⟩
def lessAll (xs ys : List Int) : Bool := (xs.zip ys).all fun p => decide (p.1 ≤ p.2)
theorem below_nil (xs ys : List Int) : decide (((xs.zip ys).filter fun p => decide (p.2 < p.1)).map (·.1) = []) = lessAll xs ys := by
  unfold lessAll
  generalize xs.zip ys = l
  induction l with
  | nil => rfl
  | cons p l ih =>
    rw [List.filter_cons, List.all_cons, ← ih]
    by_cases h : p.2 < p.1
    · rw [if_pos (decide_eq_true h)]
      have : ¬ p.1 ≤ p.2 := by omega
      simp [this]
    · rw [if_neg (by simpa using h)]
      have : p.1 ≤ p.2 := by omega
      simp [this]
def T_law_below : Tr := fun ss m Q => ∃ xs ys : List Int, ss = [.val (tI xs), .val (tI ys)] ∧ xs.length ≤ 100000 ∧ Q (.val (.bl (lessAll xs ys))) m
theorem below_ok {K : PySem.W.Frag} {st : Bool} {m : Sto} {Q : Sv → Sto → Prop} (xs ys : List Int) (hl : xs.length ≤ 100000) (hst : st = true → xs.length = ys.length) (q : Q (.val (.bl (lessAll xs ys))) m) :
    WE K (startR ["one", "other", "low", "high"] [.val (tI xs), .val (tI ys)]) m (tOp (rD2 K REqR) (tLc (iZ K st (tCons (tVar 0) (tCons (tVar 1) tNil))) (gTup K 2 (gCons (gName 2) (gCons (gName 3) gNil))) (tTest (tOp (rD2 K RGt) (tVar 2) (tVar 3))) (tVar 2) [2, 3]) (tLst tNil)) Q := by
  refine we_op (we_zipI xs ys (fun x y => decide (y < x)) (fun x _ => .int x) hl hst ?_ (fun x y _ m' => ?_) ?_)
  · repeat walk_at "w"
    exact ⟨rfl, true, true, rfl⟩
  · repeat walk_at "w"
    refine ⟨_, _, _, rfl, rfl, .int _ _, ?_⟩
    refine ⟨_, rfl, rfl, rfl, fun _ => ?_⟩
    repeat walk_at "w"
    exact ⟨rfl, rfl⟩
  · refine we_lst ?_
    repeat walk_at "w"
    refine ⟨[], rfl, by decide, ?_⟩
    have e : (((xs.zip ys).filter fun p => decide (p.2 < p.1)).map fun p => D.int p.1) = (((xs.zip ys).filter fun p => decide (p.2 < p.1)).map (·.1)).map .int := by rw [List.map_map]; rfl
    refine ⟨_, _, _, rfl, rfl, .mk (by rw [e]; exact req_nil _), ?_⟩
    rw [below_nil]
    exact q
def t_law_below (K : PySem.W.Frag) : TS := (tRet (tOp (rD2 K REqR) (tLc (iZ K false (tCons (tVar 0) (tCons (tVar 1) tNil))) (gTup K 2 (gCons (gName 2) (gCons (gName 3) gNil))) (tTest (tOp (rD2 K RGt) (tVar 2) (tVar 3))) (tVar 2) [2, 3]) (tLst tNil)))
theorem m_law_below {K : PySem.W.Frag} : Ok K ["one", "other", "low", "high"] T_law_below (t_law_below K) := by
  rintro ss m Q ⟨xs, ys, rfl, hl, q⟩
  unfold t_law_below
  walk_at "w"
  exact below_ok xs ys hl (fun z => by cases z) q
/-- [[0] * many] + three points -/
def T_law_spots : Tr := fun ss m Q => ∃ (g : Addr) (k n : Nat), ss = [.adr g, .val (.int k)] ∧ k ≤ 1000 ∧ GenI m g (n + 3 * k) ∧ ∀ (ps : List (List Int)) (m' : Sto), ps.length = 4 → (∀ p ∈ ps, Row k 3 p) → GenI m' g n → Fr m m' g → Q (.val (.lst (ps.map lI))) m'
def t_law_spots (K : PySem.W.Frag) : TS := (tRet (tOp (rD2 K RAdd) (tLst (tCons (tOp (rD2 K RMul) (tLst (tCons (tC (.int 0)) tNil)) (tVar 1)) tNil)) (tLc (iRng1 (tCons (tC (.int 3)) tNil)) (gName 2) tYes (tCall (SpD K T_law_point) [] E0 (tCons (tVar 0) (tCons (tVar 1) (tCons (tC (.int 3)) tNil)))) [2])))
theorem rep_ints (k : Nat) : (List.replicate k [D.int 0]).flatten = (List.replicate k (0 : Int)).map D.int := by
  induction k with
  | zero => rfl
  | succ k ih => rw [List.replicate_succ, List.replicate_succ, List.flatten_cons, ih]; rfl
theorem m_law_spots {K : PySem.W.Frag} : Ok K ["generator", "many", "turn"] T_law_spots (t_law_spots K) := by
  rintro ss m Q ⟨g, k, n, rfl, hk, hg, q⟩
  unfold t_law_spots
  repeat walk_at "w"
  refine we_lst ?_
  repeat walk_at "w"
  refine we_lst ?_
  repeat walk_at "w"
  refine ⟨[.int 0], rfl, by decide, ?_⟩
  repeat walk_at "w"
  refine ⟨_, _, _, rfl, rfl, .lst (by omega) (by omega) (by simp [szD]; omega), ?_⟩
  repeat walk_at "w"
  have e0 : ((k : Int)).toNat = k := by omega
  refine ⟨[lI (List.replicate k 0)], by rw [e0, rep_ints]; rfl, by show (1 : Nat) ≤ 100000; decide, ?_⟩
  refine we_drawn (ge := g) (js := [2]) k n (fun i acc => ∃ ps : List (List Int), acc = ps.map lI ∧ ps.length = i ∧ ∀ p ∈ ps, Row k 3 p) (by decide) (wi_rng1 ?_)
  repeat walk_at "w"
  refine ⟨3, rfl, by omega, by omega, rfl, by decide, (by rw [rng_len]; exact hg.mono (by show n + k * 3 ≤ _; omega)), ⟨[], rfl, rfl, by simp⟩, ?_, ?_⟩
  · rintro i d acc m' hd ⟨ps, rfl, hpl, hps⟩ hG
    have hi := (List.getElem?_eq_some_iff.mp hd).1
    rw [rng_len] at hi hG ⊢
    refine wg_name ?_
    repeat walk_at "w"
    have e3 : (3 : Int).toNat - i = (3 : Int).toNat - i - 1 + 1 := by omega
    refine ⟨g, k, n + k * ((3 : Int).toNat - i - 1), 3, rfl, hk, by decide, by decide +kernel, by rw [e3, Nat.mul_add, Nat.mul_one] at hG; exact hG.mono (by omega), fun ns m3 hr hG3 hF => ⟨_, rfl, ⟨ps ++ [ns], by rw [List.map_append]; rfl, by rw [List.length_append, hpl]; rfl, ?_⟩, hG3, hF⟩⟩
    intro p hp
    rcases List.mem_append.mp hp with h | h
    · exact hps p h
    · rw [List.mem_singleton.mp h]; exact hr
  · rintro acc m' ⟨ps, rfl, hpl, hps⟩ hG hF
    rw [rng_len] at hpl
    refine ⟨_, _, _, rfl, rfl, .lst (by simp [szD, hpl]), ?_⟩
    refine q (List.replicate k 0 :: ps) m' (by simp [hpl]) (fun p hp => ?_) hG hF
    rcases List.mem_cons.mp hp with h | h
    · rw [h]
      exact ⟨by simp, fun x hx => by rw [List.eq_of_mem_replicate hx]; decide⟩
    · exact hps p h
end Cr

/-! CrK: kinds. -/
namespace Cr
open PySem PySem.Spec PyProof.Rows L2
local macro_rules | `(tactic| walk_at "w") => `(tactic| first
  | with_reducible refine ws_seq ?_ | with_reducible refine ws_asg ?_ | with_reducible refine ws_ret ?_ | with_reducible refine ws_retN ?_ | with_reducible refine ws_drop ?_ | with_reducible refine ws_if ?_
  | with_reducible refine ws_next ?_ | with_reducible refine ws_par ?_ | with_reducible refine ws_par3 ?_
  | with_reducible refine we_int ?_ | with_reducible refine we_str ?_ | with_reducible refine we_bl ?_ | with_reducible refine we_non ?_ | with_reducible refine we_op ?_ | with_reducible refine we_un ?_
  | with_reducible refine we_cb ?_ | with_reducible refine we_if ?_ | with_reducible refine we_tup ?_ | with_reducible refine we_call ?_ | with_reducible refine wa_cons ?_ | with_reducible refine wa_nil ?_
  | with_reducible refine wt_val ?_ | with_reducible refine wt_test ?_ | with_reducible refine wt_and ?_ | with_reducible refine wt_or ?_ | with_reducible refine wt_not ?_ | with_reducible refine wt_yes ?_
  | with_reducible refine we_andV ?_ | with_reducible refine we_orV ?_ | with_reducible refine we_notV ?_ | with_reducible refine we_chain ?_ | with_reducible refine we_slice ?_ | with_reducible refine wo_none ?_ | with_reducible refine wo_some ?_
  | with_reducible refine we_bits ?_ | refine we_var (by rfl) ?_)
local macro_rules | `(tactic| walk_at "i2") => `(tactic| refine ⟨_, _, _, rfl, rfl, .int _ _, ?_⟩)
local macro_rules | `(tactic| walk_at "in") => `(tactic| refine ⟨_, _, rfl, .int _, ?_⟩)
/-! ### plain data -/
def Plain (d : D) : Prop := ∃ p, d.py = some p ∧ p.canLay0 = true ∧ p.depth ≤ 60
theorem plain_int (i : Int) : Plain (.int i) := ⟨_, rfl, by simp [PyData.canLay0], by simp [PyData.depth]⟩
theorem plain_bl (i : Bool) : Plain (.bl i) := ⟨_, rfl, by simp [PyData.canLay0], by simp [PyData.depth]⟩
theorem plain_non : Plain .non := ⟨_, rfl, by simp [PyData.canLay0], by simp [PyData.depth]⟩
theorem plain_tI (ns : List Int) : Plain (tI ns) := ⟨_, py_tI ns, by simp only [PyData.canLay0, canLayAll_ints], by have := depthAll_ints ns; simp only [PyData.depth]; omega⟩
theorem plain_lI (ns : List Int) : Plain (lI ns) := ⟨_, py_lI ns, by simp only [PyData.canLay0, canLayAll_ints], by have := depthAll_ints ns; simp only [PyData.depth]; omega⟩
theorem pyA_of : ∀ {ds : List D}, (∀ d ∈ ds, Plain d) → ∃ ps, D.pyA ds = some ps ∧ ps.length = ds.length ∧ PyData.canLayAll0 ps = true ∧ PyData.depthAll ps ≤ 60
  | [], _ => ⟨[], rfl, rfl, by simp [PyData.canLayAll0], by simp [PyData.depthAll]⟩
  | d :: ds, h => by
    obtain ⟨p, h1, h2, h3⟩ := h d List.mem_cons_self
    obtain ⟨ps, i1, i2, i3, i4⟩ := pyA_of fun e q => h e (List.mem_cons_of_mem _ q)
    refine ⟨p :: ps, by simp [D.pyA, h1, i1], by rw [List.length_cons, List.length_cons, i2], by simp [PyData.canLayAll0, h2, i3], ?_⟩
    simp only [PyData.depthAll]
    omega
theorem reqL_nil {ds : List D} (h : ∀ d ∈ ds, Plain d) : REq (.lst ds) (.lst []) ds.isEmpty := by
  obtain ⟨ps, h1, h2, h3, h4⟩ := pyA_of h
  have k1 : SeqAt.shaped (.list ps) = true := by
    unfold SeqAt.shaped
    rw [Bool.and_eq_true]
    exact ⟨by simpa only [PyData.canLay0] using h3, decide_eq_true (by simp only [PyData.depth]; omega)⟩
  have e := REq.deep (a := .lst ds) (b := .lst []) (by simp only [D.py, h1]; rfl) (by rfl) k1 (shaped_lI [])
  have e2 : PyData.eqv (.list ps) (.list (([] : List Int).map .int)) = ds.isEmpty := by
    simp only [PyData.eqv, List.map_nil]
    cases ps with
    | nil =>
      cases ds with
      | nil => simp [PyData.eqvAll]
      | cons _ _ => cases h2
    | cons p ps =>
      cases ds with
      | nil => cases h2
      | cons _ _ => simp [PyData.eqvAll]
  rw [e2] at e
  exact e
theorem Plain.tn {d : D} (h : Plain d) : d.tn.isSome = true := by
  obtain ⟨p, h1, _⟩ := h
  cases d <;> first | rfl | (simp [D.py] at h1)
def isInt : D → Bool
  | .int _ => true
  | .bl _ => true
  | _ => false
def isBl : D → Bool
  | .bl _ => true
  | _ => false
def isStr : D → Bool
  | .str _ => true
  | _ => false
def isTup : D → Bool
  | .tup _ => true
  | _ => false
def isLst : D → Bool
  | .lst _ => true
  | .scr _ => true
  | _ => false
theorem isi_int {d : D} (h : d.tn.isSome = true) : RIsi [d, .ty "int"] (.v (.bl (isInt d))) := by
  cases d <;> first | exact .one (b := true) rfl (by decide +kernel) | exact .one (b := false) rfl (by decide +kernel) | cases h
theorem isi_bl {d : D} (h : d.tn.isSome = true) : RIsi [d, .ty "bool"] (.v (.bl (isBl d))) := by
  cases d <;> first | exact .one (b := true) rfl (by decide +kernel) | exact .one (b := false) rfl (by decide +kernel) | cases h
theorem isi_str {d : D} (h : d.tn.isSome = true) : RIsi [d, .ty "str"] (.v (.bl (isStr d))) := by
  cases d <;> first | exact .one (b := true) rfl (by decide +kernel) | exact .one (b := false) rfl (by decide +kernel) | cases h
theorem isi_tup {d : D} (h : d.tn.isSome = true) : RIsi [d, .ty "tuple"] (.v (.bl (isTup d))) := by
  cases d <;> first | exact .one (b := true) rfl (by decide +kernel) | exact .one (b := false) rfl (by decide +kernel) | cases h
theorem isi_lst {d : D} (h : d.tn.isSome = true) : RIsi [d, .ty "list"] (.v (.bl (isLst d))) := by
  cases d <;> first | exact .one (b := true) rfl (by decide +kernel) | exact .one (b := false) rfl (by decide +kernel) | cases h
/-! ### kinds -/
def wholeD : D → Bool
  | .int _ => true
  | _ => false
def T_is_whole : Tr := fun ss m Q => ∃ d, ss = [.val d] ∧ Plain d ∧ Q (.val (.bl (wholeD d))) m
def t_is_whole (K : PySem.W.Frag) : TS := (tRet (tAndV (tCB (rDN K RIsi) (tCons (tVar 0) (tCons (tC (.ty "int")) tNil))) (tNotV (tCB (rDN K RIsi) (tCons (tVar 0) (tCons (tC (.ty "bool")) tNil))))))
theorem we_ty {K : PySem.W.Frag} {r : Ro} {m : Sto} {n : String} {Q : Sv → Sto → Prop} (q : Q (.val (.ty n)) m) : WE K r m (tC (.ty n)) Q := we_c (fun _ => .ty n) q
theorem m_is_whole {K : PySem.W.Frag} : Ok K ["value"] T_is_whole (t_is_whole K) := by
  rintro ss m Q ⟨d, rfl, hp, q⟩
  unfold t_is_whole
  repeat walk_at "w"
  refine we_ty ?_
  repeat walk_at "w"
  refine ⟨[d, .ty "int"], _, rfl, isi_int hp.tn, ?_⟩
  refine ⟨_, rfl, ite_b (fun h => ?_) (fun h => ?_)⟩
  · repeat walk_at "w"
    refine we_ty ?_
    repeat walk_at "w"
    refine ⟨[d, .ty "bool"], _, rfl, isi_bl hp.tn, ?_⟩
    refine ⟨_, rfl, ?_⟩
    have e : wholeD d = !isBl d := by cases d <;> first | rfl | cases h
    rw [← e]
    exact q
  · have e : wholeD d = false := by cases d <;> first | rfl | cases h
    rw [← e]
    exact q
def hiD : Option Int → D
  | none => .non
  | some i => .int i
def betD (d : D) (lo : Int) (hi : Option Int) : Bool := match d with
  | .int i => decide (lo ≤ i) && (match hi with | none => true | some h => decide (i ≤ h))
  | _ => false
def T_is_between : Tr := fun ss m Q => ∃ (d : D) (lo : Int) (hi : Option Int), ss = [.val d, .val (.int lo), .val (hiD hi)] ∧ Plain d ∧ Q (.val (.bl (betD d lo hi))) m
def t_is_between (K : PySem.W.Frag) : TS := (tRet (tAndV (tCall (SpD K T_is_whole) [] E0 (tCons (tVar 0) tNil)) (tAndV (tOp (rD2 K RLe) (tVar 1) (tVar 0)) (tOrV (tOp (rD2 K RIsR) (tVar 2) (tC .non)) (tOp (rD2 K RLe) (tVar 0) (tVar 2))))))
theorem m_is_between {K : PySem.W.Frag} : Ok K ["value", "low", "high"] T_is_between (t_is_between K) := by
  rintro ss m Q ⟨d, lo, hi, rfl, hp, q⟩
  unfold t_is_between
  repeat walk_at "w"
  refine ⟨d, rfl, hp, ?_⟩
  cases d with
  | int i =>
    refine ⟨true, rfl, ?_⟩
    rw [if_pos rfl]
    repeat walk_at "w"
    walk_at "i2"
    refine ⟨_, rfl, ite_dec (fun h => ?_) (fun h => ?_)⟩
    · cases hi with
      | none =>
        repeat walk_at "w"
        refine ⟨_, _, _, rfl, rfl, .mk (.non _), ?_⟩
        refine ⟨true, rfl, ?_⟩
        rw [if_pos rfl]
        simpa [betD, h, Rs.d] using q
      | some z =>
        repeat walk_at "w"
        refine ⟨_, _, _, rfl, rfl, .mk (.non _), ?_⟩
        refine ⟨false, rfl, ?_⟩
        rw [if_neg Bool.false_ne_true]
        repeat walk_at "w"
        walk_at "i2"
        simpa [betD, h, Rs.d] using q
    · simpa [betD, h, Rs.d] using q
  | _ => exact ⟨false, rfl, q⟩
def cntD (d : D) : Bool := betD d 0 none
def T_are_counts : Tr := fun ss m Q => ∃ (b : Bool) (ds : List D), ss = [.val (sqD b ds)] ∧ ds.length ≤ 100000 ∧ (∀ d ∈ ds, Plain d) ∧ Q (.val (.bl (ds.all cntD))) m
def t_are_counts (K : PySem.W.Frag) : TS := (tRet (tOp (rD2 K REqR) (tLc (iD K (tVar 0)) (gName 1) (tNot (tB (tCall (SpD K T_is_between) [] E0 (tCons (tVar 1) (tCons (tC (.int 0)) (tCons (tC .non) tNil)))))) (tVar 1) [1]) (tLst tNil)))
theorem all_empty (f : D → Bool) (ds : List D) : ((ds.filter fun d => !f d).map fun d => d).isEmpty = ds.all f := by
  rw [List.map_id']
  induction ds with
  | nil => rfl
  | cons d ds ih =>
    rw [List.filter_cons, List.all_cons, ← ih]
    cases f d <;> simp
theorem m_are_counts {K : PySem.W.Frag} : Ok K ["items", "item"] T_are_counts (t_are_counts K) := by
  rintro ss m Q ⟨b, ds, rfl, hl, hp, q⟩
  unfold t_are_counts
  repeat walk_at "w"
  refine we_lc (js := [1]) (by decide) (wi_D ?_)
  repeat walk_at "w"
  refine ⟨b, ds, rfl, hl, rfl, fun d => !cntD d, fun d => d, fun d hd m' => ?_, ?_⟩
  · refine wg_name ?_
    repeat walk_at "w"
    refine ⟨d, 0, none, rfl, hp d hd, ?_⟩
    refine ⟨_, rfl, rfl, rfl, fun _ => ?_⟩
    repeat walk_at "w"
    exact ⟨rfl, rfl⟩
  · refine we_lst ?_
    repeat walk_at "w"
    refine ⟨[], rfl, by decide, ?_⟩
    refine ⟨_, _, _, rfl, rfl, .mk (reqL_nil fun d hd => ?_), ?_⟩
    · rw [List.map_id'] at hd
      exact hp d (List.mem_filter.mp hd).1
    · rw [all_empty]
      exact q
def formD (k : Int) : D → Bool
  | .tup ds => decide ((ds.length : Int) = k + 1) && ds.all cntD
  | _ => false
def PlainV (d : D) : Prop := d.tn.isSome = true ∧ ∀ ds, d = .tup ds → ds.length ≤ 100000 ∧ ∀ e ∈ ds, Plain e
theorem plainV_tI {ns : List Int} (h : ns.length ≤ 100000) : PlainV (tI ns) := ⟨rfl, fun ds e => by
  cases e
  refine ⟨by rw [List.length_map]; exact h, fun e he => ?_⟩
  obtain ⟨i, _, rfl⟩ := List.mem_map.mp he
  exact plain_int i⟩
def T_is_form_for : Tr := fun ss m Q => ∃ (k : Int) (d : D), ss = [.val (.int k), .val d] ∧ PlainV d ∧ Q (.val (.bl (formD k d))) m
def t_is_form_for (K : PySem.W.Frag) : TS := (tRet (tAndV (tCB (rDN K RIsi) (tCons (tVar 1) (tCons (tC (.ty "tuple")) tNil))) (tAndV (tOp (rD2 K REqR) (tCB (rDN K RLen) (tCons (tVar 1) tNil)) (tOp (rD2 K RAdd) (tVar 0) (tC (.int 1)))) (tCall (SpD K T_are_counts) [] E0 (tCons (tVar 1) tNil)))))
theorem m_is_form_for {K : PySem.W.Frag} : Ok K ["many", "value"] T_is_form_for (t_is_form_for K) := by
  rintro ss m Q ⟨k, d, rfl, ⟨hp, hv⟩, q⟩
  unfold t_is_form_for
  repeat walk_at "w"
  refine we_ty ?_
  repeat walk_at "w"
  refine ⟨[d, .ty "tuple"], _, rfl, isi_tup hp, ?_⟩
  refine ⟨_, rfl, ite_b (fun h => ?_) (fun h => ?_)⟩
  · cases d with
    | tup ds =>
      obtain ⟨h1, h2⟩ := hv ds rfl
      repeat walk_at "w"
      refine ⟨_, _, rfl, .tup _, ?_⟩
      repeat walk_at "w"
      walk_at "i2"
      refine ⟨_, _, _, rfl, rfl, .mk (.int _ _), ?_⟩
      refine ⟨_, rfl, ite_dec (fun h => ?_) (fun h => ?_)⟩
      · repeat walk_at "w"
        refine ⟨true, ds, rfl, h1, h2, ?_⟩
        have e : formD k (.tup ds) = ds.all cntD := by simp [formD, h]
        rw [← e]
        exact q
      · have e : formD k (.tup ds) = false := by simp [formD, h]
        rw [← e]
        exact q
    | _ => cases h
  · have e : formD k d = false := by cases d <;> first | rfl | cases h
    rw [← e]
    exact q
/-! ### checks that let -/
def T_check_number : Tr := fun ss m Q => ∃ (i lo : Int) (hi : Option Int), ss = [.val (.int i), .val (.int lo), .val (hiD hi)] ∧ betD (.int i) lo hi = true ∧ Q (.val .non) m
def t_check_number (K : PySem.W.Frag) : TS := (tIfS (tNot (tB (tCall (SpD K T_is_between) [] E0 (tCons (tVar 0) (tCons (tVar 1) (tCons (tVar 2) tNil)))))) tNever tNext)
theorem m_check_number {K : PySem.W.Frag} : Ok K ["number", "low", "high"] T_check_number (t_check_number K) := by
  rintro ss m Q ⟨i, lo, hi, rfl, h, q⟩
  unfold t_check_number
  repeat walk_at "w"
  refine ⟨.int i, lo, hi, rfl, plain_int i, ?_⟩
  rw [h]
  refine ⟨true, rfl, ?_⟩
  show if (!true) = true then _ else _
  rw [if_neg (by decide)]
  walk_at "w"
  exact q
def T_check_many : Tr := fun ss m Q => ∃ i : Int, ss = [.val (.int i)] ∧ 0 ≤ i ∧ i ≤ 3 ∧ Q (.val .non) m
def t_check_many (K : PySem.W.Frag) : TS := (tDrop (tCall (SpD K T_check_number) [] E0 (tCons (tVar 0) (tCons (tC (.int 0)) (tCons (tC (.int 3)) tNil)))))
theorem m_check_many {K : PySem.W.Frag} : Ok K ["many"] T_check_many (t_check_many K) := by
  rintro ss m Q ⟨i, rfl, h1, h2, q⟩
  unfold t_check_many
  repeat walk_at "w"
  exact ⟨i, 0, some 3, rfl, by simp [betD, h1, h2], q⟩
theorem formD_tI {k : Nat} {B : Int} {ns : List Int} (h : Row (k + 1) B ns) : formD k (tI ns) = true := by
  have h1 : (ns.map D.int).all cntD = true := by
    rw [List.all_map, List.all_eq_true]
    intro x hx
    have := (h.2 x hx).1
    simp [cntD, betD, this]
  show (decide (((ns.map D.int).length : Int) = (k : Int) + 1) && (ns.map D.int).all cntD) = true
  rw [h1, Bool.and_true, List.length_map, h.1]
  exact decide_eq_true (by omega)
def T_check_form : Tr := fun ss m Q => ∃ (k : Nat) (B : Int) (ns : List Int), ss = [.val (.int k), .val (tI ns)] ∧ k ≤ 1000 ∧ Row (k + 1) B ns ∧ Q (.val .non) m
def t_check_form (K : PySem.W.Frag) : TS := (tIfS (tNot (tB (tCall (SpD K T_is_form_for) [] E0 (tCons (tVar 0) (tCons (tVar 1) tNil))))) tNever tNext)
theorem m_check_form {K : PySem.W.Frag} : Ok K ["many", "form"] T_check_form (t_check_form K) := by
  rintro ss m Q ⟨k, B, ns, rfl, hk, hr, q⟩
  unfold t_check_form
  repeat walk_at "w"
  refine ⟨k, tI ns, rfl, plainV_tI (by rw [hr.1]; omega), ?_⟩
  rw [formD_tI hr]
  refine ⟨true, rfl, ?_⟩
  show if (!true) = true then _ else _
  rw [if_neg (by decide)]
  walk_at "w"
  exact q
/-! ### forms -/
def T_form_below : Tr := fun ss m Q => ∃ xs ys : List Int, ss = [.val (tI xs), .val (tI ys)] ∧ xs.length ≤ 100000 ∧ xs.length = ys.length ∧ Q (.val (.bl (lessAll xs ys))) m
def t_form_below (K : PySem.W.Frag) : TS := (tRet (tOp (rD2 K REqR) (tLc (iZ K true (tCons (tVar 0) (tCons (tVar 1) tNil))) (gTup K 2 (gCons (gName 2) (gCons (gName 3) gNil))) (tTest (tOp (rD2 K RGt) (tVar 2) (tVar 3))) (tVar 2) [2, 3]) (tLst tNil)))
theorem m_form_below {K : PySem.W.Frag} : Ok K ["one", "other", "low", "high"] T_form_below (t_form_below K) := by
  rintro ss m Q ⟨xs, ys, rfl, hl, he, q⟩
  unfold t_form_below
  walk_at "w"
  exact below_ok xs ys hl (fun _ => he) q
def T_form_sum : Tr := fun ss m Q => ∃ xs ys : List Int, ss = [.val (tI xs), .val (tI ys)] ∧ xs.length ≤ 100000 ∧ xs.length = ys.length ∧ Q (.val (tI (List.zipWith (· + ·) xs ys))) m
def t_form_sum (K : PySem.W.Frag) : TS := (tRet (tCB (rDN K RTup) (tCons (tLc (iZ K true (tCons (tVar 0) (tCons (tVar 1) tNil))) (gTup K 2 (gCons (gName 2) (gCons (gName 3) gNil))) tYes (tOp (rD2 K RAdd) (tVar 2) (tVar 3)) [2, 3]) tNil)))
theorem m_form_sum {K : PySem.W.Frag} : Ok K ["one", "other", "low", "high"] T_form_sum (t_form_sum K) := by
  rintro ss m Q ⟨xs, ys, rfl, hl, he, q⟩
  unfold t_form_sum
  repeat walk_at "w"
  refine we_zipW xs ys (· + ·) hl (fun _ => he) ?_ (fun x y hx hy m' => ?_) ?_
  · repeat walk_at "w"
    exact ⟨rfl, true, true, rfl⟩
  · repeat walk_at "w"
    exact ⟨_, _, _, rfl, rfl, .int _ _, rfl, rfl⟩
  · repeat walk_at "w"
    exact ⟨[lI _], _, rfl, .lst _, q⟩
def T_form_times : Tr := fun ss m Q => ∃ (c : Int) (xs : List Int), ss = [.val (.int c), .val (tI xs)] ∧ xs.length ≤ 100000 ∧ c.natAbs ≤ 10 ^ 400 ∧ bSz xs ∧ Q (.val (tI (xs.map (c * ·)))) m
def t_form_times (K : PySem.W.Frag) : TS := (tRet (tCB (rDN K RTup) (tCons (tLc (iD K (tVar 1)) (gName 2) tYes (tOp (rD2 K RMul) (tVar 0) (tVar 2)) [2]) tNil)))
theorem m_form_times {K : PySem.W.Frag} : Ok K ["number", "form", "item"] T_form_times (t_form_times K) := by
  rintro ss m Q ⟨c, xs, rfl, hl, hc, hx, q⟩
  unfold t_form_times
  repeat walk_at "w"
  refine we_eachI xs (fun _ => true) (fun x => .int (c * x)) hl (wi_D ?_) (fun x hxm m' => ?_) ?_
  · repeat walk_at "w"
    exact ⟨true, xs.map .int, rfl, rfl, rfl⟩
  · repeat walk_at "w"
    refine ⟨rfl, rfl, fun _ => ?_⟩
    repeat walk_at "w"
    exact ⟨_, _, _, rfl, rfl, .int (smul_ok hc (hx x hxm)), rfl, rfl⟩
  · repeat walk_at "w"
    have e : (xs.filter fun _ => true).map (fun x => D.int (c * x)) = (xs.map (c * ·)).map .int := by rw [List.filter_eq_self.mpr (fun _ _ => rfl), List.map_map]; rfl
    rw [e]
    exact ⟨[lI _], _, rfl, .lst _, q⟩
end Cr

/-! CrS: texts; items taken from owned lists. -/
namespace Cr
open PySem PySem.Spec PyProof.Rows L2
section
variable {K : PySem.W.Frag} {M : Dm} {r : Ro} {m : Sto} {P : Eds}
theorem strs_rp {K : PySem.W.Frag} {H : Hp} : ∀ {vs : List V} {zs : List Str}, RpA K H vs (zs.map D.str) → vs = zs.map V.str
  | _, [], h => by cases h; rfl
  | _, z :: zs, h => by
    cases h with
    | cons h t =>
      cases h
      rw [strs_rp t]
      rfl
/-- sep.join(..) -/
abbrev rJoin (K : PySem.W.Frag) : V → List V → Hp → VK → Prop := fun x xs H Q => ∃ a p, ∃ ys : List Str, x = .str a ∧ xs = [.ref p] ∧ (SqL K H p (ys.map V.str) ∨ SqT K H p (ys.map V.str)) ∧
      (ys.map (·.length)).sum + ys.length * a.length ≤ 16777216 ∧ Q (.str (Txt.join a ys)) H
theorem we_join {to te : TE} {Q : Sv → Sto → Prop} (h : WE K r m to fun s m1 => ∃ a, s = .val (.str a) ∧ WE K r m1 te fun t m2 => ∃ (b : Bool) (zs : List Str), vw m2 t = some (sqD b (zs.map .str)) ∧ (zs.map (·.length)).sum + zs.length * a.length ≤ 16777216 ∧ Q (.val (.str (Txt.join a zs))) m2) :
    WE K r m (tM1 (rJoin K) to te) Q := fun σ H QV e st k =>
  h σ H _ e st fun v H1 s m1 x1 so1 rs1 ⟨a, es, q⟩ => by
    subst es
    have rs1' : Rp K (hid (dom m1) H1) v (.str a) := rs1
    cases rs1'
    refine ⟨⟨a, rfl⟩, q σ H1 _ (e.mono x1) so1 fun u H2 t m2 x2 so2 rs2 ⟨b, zs, hv, hz, q2⟩ => ?_⟩
    have ru := RpW.of rs2 so2 hv
    cases b with
    | false =>
      obtain ⟨p, xs, rfl, hx, ra⟩ := (show RpW K (dom m2) H2 u (.lst (zs.map .str)) from ru).lst
      rw [strs_rp ra] at hx
      exact ⟨a, p, zs, rfl, rfl, .inl (Evl.sq_of hx), hz, k _ H2 (.val (.str _)) m2 (x1.trans x2) so2 (show Rp _ _ _ _ from .str _) q2⟩
    | true =>
      obtain ⟨p, xs, rfl, hx, ra⟩ := (show RpW K (dom m2) H2 u (.tup (zs.map .str)) from ru).tup
      rw [strs_rp ra] at hx
      exact ⟨a, p, zs, rfl, rfl, .inr (sqT_hid hx), hz, k _ H2 (.val (.str _)) m2 (x1.trans x2) so2 (show Rp _ _ _ _ from .str _) q2⟩
abbrev rStrip : V → List V → Hp → VK → Prop := fun x xs H Q => ∃ a b, x = .str a ∧ xs = [.str b] ∧ a.length ≤ sizeLine ∧ Q (.str (Txt.stripChars a b)) H
abbrev rFind : V → List V → Hp → VK → Prop := fun x xs H Q => ∃ a b, x = .str a ∧ xs = [.str b] ∧ Q (.int (Txt.find a b)) H
/-- a method of one text with one text -/
theorem we_s1 {g : Str → Str → Str} {to te : TE} {Q : Sv → Sto → Prop} (h : WE K r m to fun s m1 => ∃ a, s = .val (.str a) ∧ WE K r m1 te fun t m2 => ∃ b, t = .val (.str b) ∧ a.length ≤ sizeLine ∧ Q (.val (.str (g a b))) m2) :
    WE K r m (tBM K "str" (fun x xs H Q => ∃ a b, x = .str a ∧ xs = [.str b] ∧ a.length ≤ sizeLine ∧ Q (.str (g a b)) H) to (tCons te tNil)) Q := fun σ H QV e st k =>
  h σ H _ e st fun v H1 s m1 x1 so1 rs1 ⟨a, es, q⟩ => by
    subst es
    have rs1' : Rp K (hid (dom m1) H1) v (.str a) := rs1
    cases rs1'
    refine ⟨rfl, q σ H1 _ (e.mono x1) so1 fun u H2 t m2 x2 so2 rs2 ⟨b, et, hl, q2⟩ => ?_⟩
    subst et
    have rs2' : Rp K (hid (dom m2) H2) u (.str b) := rs2
    cases rs2'
    exact ⟨a, b, rfl, rfl, hl, k _ H2 (.val (.str _)) m2 (x1.trans x2) so2 (show Rp _ _ _ _ from .str _) q2⟩
theorem we_find {to te : TE} {Q : Sv → Sto → Prop} (h : WE K r m to fun s m1 => ∃ a, s = .val (.str a) ∧ WE K r m1 te fun t m2 => ∃ b, t = .val (.str b) ∧ Q (.val (.int (Txt.find a b))) m2) :
    WE K r m (tBM K "str" rFind to (tCons te tNil)) Q := fun σ H QV e st k =>
  h σ H _ e st fun v H1 s m1 x1 so1 rs1 ⟨a, es, q⟩ => by
    subst es
    have rs1' : Rp K (hid (dom m1) H1) v (.str a) := rs1
    cases rs1'
    refine ⟨rfl, q σ H1 _ (e.mono x1) so1 fun u H2 t m2 x2 so2 rs2 ⟨b, et, q2⟩ => ?_⟩
    subst et
    have rs2' : Rp K (hid (dom m2) H2) u (.str b) := rs2
    cases rs2'
    exact ⟨a, b, rfl, rfl, k _ H2 (.val (.int _)) m2 (x1.trans x2) so2 (show Rp _ _ _ _ from .int _) q2⟩
/-- the last item of an owned list is taken -/
theorem we_pop {to : TE} {Q : Sv → Sto → Prop} (h : WE K r m to fun s m1 => ∃ p ds d, s = .adr p ∧ m1 p = some (ds ++ [d]) ∧ Q (.val d) (stS m1 p ds)) : WE K r m (tBM0 K "list" rPop to) Q := fun σ H QV e st k =>
  h σ H _ e st fun v H1 s m1 x1 so1 rs1 ⟨p, ds, d, es, hm, q⟩ => by
    subst es
    obtain ⟨rfl, _⟩ := rs1
    obtain ⟨xs, hx, ra⟩ := so1 p _ hm
    have hl := ra.length
    rw [List.length_append] at hl
    have hl1 : xs.length = ds.length + 1 := hl
    obtain ⟨y, hy, ry⟩ := ra.get (i := xs.length - 1) (d := d) (by rw [hl1, Nat.add_sub_cancel, List.getElem?_append_right (Nat.le_refl _), Nat.sub_self]; rfl)
    have rd : RpA K (hid (dom m1) H1) xs.dropLast ds := by
      have := ra.take ds.length
      rw [List.take_left' rfl] at this
      rw [List.dropLast_eq_take, hl1, Nat.add_sub_cancel]
      exact this
    have w : Xt (dom m1) H1 (dom (stS m1 p ds)) (upd H1 p (.lst xs.dropLast)) := by
      rw [dom_stS hm]
      exact Xt.wr (dom_some hm)
    exact ⟨.inl ⟨rfl, xs, Evl.sq_of hx⟩, p, xs, y, rfl, rfl, hx, hy, k y _ (.val d) (stS m1 p ds) (x1.trans w) (so1.wr hm rd) (Rp.mono w.ex ry) q⟩
theorem RpA.erase {K : PySem.W.Frag} {H : Hp} : ∀ {vs : List V} {ds : List D} (i : Nat), RpA K H vs ds → RpA K H (vs.eraseIdx i) (ds.eraseIdx i)
  | _, _, _, .nil => .nil
  | _, _, 0, .cons _ t => t
  | _, _, i + 1, .cons h t => .cons h (RpA.erase i t)
theorem we_popAt {to ti : TE} {Q : Sv → Sto → Prop} (h : WE K r m to fun s m1 => ∃ p ds1, s = .adr p ∧ m1 p = some ds1 ∧ WE K r m1 ti fun t m2 => ∃ (i : Int) (j : Nat) (ds : List D) (d : D), t = .val (.int i) ∧ m2 p = some ds ∧ ds.length ≤ 100000 ∧ ixN ds.length i = some j ∧ ds[j]? = some d ∧ Q (.val d) (stS m2 p (ds.eraseIdx j))) :
    WE K r m (tBM K "list" rPopAt to (tCons ti tNil)) Q := fun σ H QV e st k =>
  h σ H _ e st fun v H1 s m1 x1 so1 rs1 ⟨p, ds1, es, hm1, q⟩ => by
    subst es
    obtain ⟨rfl, _⟩ := rs1
    obtain ⟨xs1, hx1, _⟩ := so1 p _ hm1
    refine ⟨.inl ⟨rfl, xs1, Evl.sq_of hx1⟩, q σ H1 _ (e.mono x1) so1 fun u H2 t m2 x2 so2 rs2 ⟨i, j, ds, d, et, hm, hl, hj, hd, q2⟩ => ?_⟩
    subst et
    have rs2' : Rp K (hid (dom m2) H2) u (.int i) := rs2
    cases rs2'
    obtain ⟨xs, hx, ra⟩ := so2 p _ hm
    obtain ⟨s1, s2, s3, s4⟩ := ixN_seq hj
    obtain ⟨y, hy, ry⟩ := ra.get hd
    have w : Xt (dom m2) H2 (dom (stS m2 p (ds.eraseIdx j))) (upd H2 p (.lst (xs.eraseIdx j))) := by
      rw [dom_stS hm]
      exact Xt.wr (dom_some hm)
    exact ⟨p, xs, i, j, y, rfl, rfl, hx, by omega, by omega, by rw [ra.length]; exact s1, hy, k y _ (.val d) (stS m2 p _) ((x1.trans x2).trans w) (so2.wr hm (ra.erase j)) (Rp.mono w.ex ry) q2⟩
end
end Cr

/-! CrT: texts as rows of signs. -/
namespace Cr
open PySem PySem.Spec PyProof.Rows L2
local macro_rules | `(tactic| walk_at "w") => `(tactic| first
  | with_reducible refine ws_seq ?_ | with_reducible refine ws_asg ?_ | with_reducible refine ws_ret ?_ | with_reducible refine ws_retN ?_ | with_reducible refine ws_drop ?_ | with_reducible refine ws_if ?_
  | with_reducible refine ws_next ?_ | with_reducible refine ws_par ?_ | with_reducible refine ws_par3 ?_
  | with_reducible refine we_int ?_ | with_reducible refine we_str ?_ | with_reducible refine we_bl ?_ | with_reducible refine we_non ?_ | with_reducible refine we_op ?_ | with_reducible refine we_un ?_
  | with_reducible refine we_cb ?_ | with_reducible refine we_if ?_ | with_reducible refine we_tup ?_ | with_reducible refine we_call ?_ | with_reducible refine wa_cons ?_ | with_reducible refine wa_nil ?_
  | with_reducible refine wt_val ?_ | with_reducible refine wt_test ?_ | with_reducible refine wt_and ?_ | with_reducible refine wt_or ?_ | with_reducible refine wt_not ?_ | with_reducible refine wt_yes ?_
  | with_reducible refine we_andV ?_ | with_reducible refine we_orV ?_ | with_reducible refine we_notV ?_ | with_reducible refine we_chain ?_ | with_reducible refine we_slice ?_ | with_reducible refine wo_none ?_ | with_reducible refine wo_some ?_
  | with_reducible refine we_bits ?_ | refine we_var (by rfl) ?_)
local macro_rules | `(tactic| walk_at "i2") => `(tactic| refine ⟨_, _, _, rfl, rfl, .int _ _, ?_⟩)
local macro_rules | `(tactic| walk_at "in") => `(tactic| refine ⟨_, _, rfl, .int _, ?_⟩)
def S (l : List Nat) : Str := ⟨l.toArray⟩
abbrev dS (l : List Nat) : D := .str (S l)
theorem S_len (l : List Nat) : (S l).length = l.length := by show l.toArray.size = _; simp
theorem S_app (a b : List Nat) : S a ++ S b = S (a ++ b) := by
  show (⟨a.toArray ++ b.toArray⟩ : Str) = ⟨(a ++ b).toArray⟩
  simp
theorem S_inj {a b : List Nat} (h : S a = S b) : a = b := by
  injection h with h
  simpa using h
theorem S_of (z : Str) : z = S z.cps.toList := by
  obtain ⟨a⟩ := z
  show (⟨a⟩ : Str) = ⟨a.toList.toArray⟩
  simp
theorem radd_S {a b : List Nat} (h : a.length + b.length ≤ szD) : RAdd (dS a) (dS b) (.v (dS (a ++ b))) := by
  have := RAdd.str (a := S a) (b := S b) (by rw [S_len, S_len]; exact h)
  rw [S_app] at this
  exact this
theorem rix_S {l : List Nat} {i : Int} {c : Nat} (hl : l.length ≤ szD) (h : atI l i = some c) : RIx (dS l) (.int i) (.v (dS [c])) := .str (by rw [S_len]; exact hl) (by show atI l.toArray.toList i = _; simpa using h)
def cutL (l : List Nat) (lo hi : Option Int) : List Nat := (l.drop (HT.sIx l.length 0 lo)).take (HT.sIx l.length l.length hi - HT.sIx l.length 0 lo)
theorem rsl_S {l : List Nat} (hl : l.length ≤ szD) (lo hi : Option Int) : RSl (dS l) lo hi (.v (dS (cutL l lo hi))) := by
  have := RSl.str (z := S l) (by rw [S_len]; exact hl) lo hi
  have e : cutS (S l) lo hi = S (cutL l lo hi) := by
    unfold cutS cutL
    rw [S_len]
    show (⟨_⟩ : Str) = ⟨_⟩
    simp [S]
  rw [e] at this
  exact this
theorem rmul_S {l : List Nat} {k : Int} (h1 : -1000000 ≤ k) (h2 : k ≤ 1000000) (h3 : l.length * k.toNat ≤ szD) : RMul (dS l) (.int k) (.v (dS (List.replicate k.toNat l).flatten)) := by
  have := RMul.str (a := S l) h1 h2 (by rw [S_len]; exact h3)
  have e : (⟨(List.replicate k.toNat (S l).cps.toList).flatten.toArray⟩ : Str) = S (List.replicate k.toNat l).flatten := by
    show (⟨_⟩ : Str) = ⟨_⟩
    simp [S]
  rw [e] at this
  exact this
theorem rlen_S {l : List Nat} (hl : l.length ≤ szD) : RLen [dS l] (.v (.int l.length)) := by
  have := RLen.str (z := S l) (by rw [S_len]; exact hl)
  rw [S_len] at this
  exact this
theorem req_S (a b : List Nat) : REq (dS a) (dS b) (decide (a = b)) := by
  have := REq.str (S a) (S b)
  have e : decide (S a = S b) = decide (a = b) := by
    by_cases h : a = b
    · rw [decide_eq_true h, h, decide_eq_true rfl]
    · rw [decide_eq_false h, decide_eq_false fun z => h (S_inj z)]
  rw [e] at this
  exact this
theorem join_S (ls : List (List Nat)) : Txt.join (S []) (ls.map S) = S ls.flatten := by
  have key : ∀ (ps : List (List Nat)) (acc : Array Nat), (ps.map S).foldl (fun acc p => acc ++ (S []).cps ++ p.cps) acc = (acc.toList ++ ps.flatten).toArray := by
    intro ps
    induction ps with
    | nil => intro acc; simp
    | cons p ps ih =>
      intro acc
      rw [List.map_cons, List.foldl_cons, ih]
      simp [S]
  show Builtin.Str.glued (S []) (ls.map S) = _
  unfold Builtin.Str.glued
  cases ls with
  | nil => rfl
  | cons a r =>
    show (⟨(r.map S).foldl (fun acc p => acc ++ (S []).cps ++ p.cps) (S a).cps⟩ : Str) = _
    rw [key]
    simp [S]
theorem strip_S {l L : List Nat} (h : ∀ c ∈ l, c ∈ L) : Txt.stripChars (S l) (S L) = S [] := by
  have hg : ∀ c ∈ l, (S L).cps.contains c = true := fun c hc => by
    show L.toArray.contains c = true
    simpa using h c hc
  have htw : l.takeWhile (S L).cps.contains = l := by
    generalize (S L).cps.contains = f at hg
    clear h
    induction l with
    | nil => rfl
    | cons a r ih => rw [List.takeWhile_cons, hg a List.mem_cons_self, ih fun c hc => hg c (List.mem_cons_of_mem _ hc)]; rfl
  have e0 : stripLo (S L).cps.contains true (S l) = l.length := by
    unfold stripLo
    rw [if_pos rfl]
    show (l.toArray.toList.takeWhile _).length = _
    rw [List.toList_toArray, htw]
  have e1 : stripHi (S L).cps.contains true (S l) l.length = l.length := by
    unfold stripHi
    rw [if_pos rfl, S_len]
    show l.length - ((l.toArray.toList.drop l.length).reverse.takeWhile _).length = _
    rw [List.toList_toArray, List.drop_length]
    simp
  unfold Txt.stripChars Txt.stripBy stripSame stripped
  rw [e0, e1, S_len]
  by_cases hl : l = []
  · subst hl
    simp
  · have : (l.length == 0) = false := by
      cases l with
      | nil => exact absurd rfl hl
      | cons a b => rfl
    rw [this, Bool.false_and, if_neg Bool.false_ne_true]
    show (⟨l.toArray.extract l.length l.length⟩ : Str) = _
    simp [S]
/-! ### words of small letters -/
def abc : List Nat := [97, 98, 99, 100, 101, 102, 103, 104, 105, 106, 107, 108, 109, 110, 111, 112, 113, 114, 115, 116, 117, 118, 119, 120, 121, 122]
theorem abc_eq : ("abcdefghijklmnopqrstuvwxyz" : Str) = S abc := by decide +kernel
/-- a word: small letters, not too long -/
def Wd (n : Nat) (l : List Nat) : Prop := l.length ≤ n ∧ ∀ c ∈ l, c ∈ abc
theorem Wd.mono {n k : Nat} {l : List Nat} (h : Wd n l) (hk : n ≤ k) : Wd k l := ⟨Nat.le_trans h.1 hk, h.2⟩
theorem Wd.app {n k : Nat} {a b : List Nat} (h : Wd n a) (h2 : Wd k b) : Wd (n + k) (a ++ b) := ⟨by rw [List.length_append]; have := h.1; have := h2.1; omega, fun c hc => (List.mem_append.mp hc).elim (h.2 c) (h2.2 c)⟩
theorem Wd.sub {n : Nat} {a b : List Nat} (h : Wd n a) (hl : b.length ≤ n) (hb : ∀ c ∈ b, c ∈ a) : Wd n b := ⟨hl, fun c hc => h.2 c (hb c hc)⟩
theorem cutL_sub (l : List Nat) (lo hi : Option Int) : ∀ c ∈ cutL l lo hi, c ∈ l := fun c hc => List.mem_of_mem_drop (List.mem_of_mem_take hc)
theorem cutL_len (l : List Nat) (lo hi : Option Int) : (cutL l lo hi).length ≤ l.length := by unfold cutL; simp; omega
theorem Wd.cut {n : Nat} {a : List Nat} (h : Wd n a) (lo hi : Option Int) : Wd n (cutL a lo hi) := h.sub (Nat.le_trans (cutL_len a lo hi) h.1) (cutL_sub a lo hi)
theorem rep_mem {l : List Nat} : ∀ {n : Nat} {c : Nat}, c ∈ (List.replicate n l).flatten → c ∈ l
  | 0, c, h => by simp at h
  | n + 1, c, h => by
    rw [List.replicate_succ, List.flatten_cons] at h
    exact (List.mem_append.mp h).elim id rep_mem
theorem rep_len (l : List Nat) (n : Nat) : (List.replicate n l).flatten.length = n * l.length := by
  induction n with
  | zero => simp
  | succ n ih => rw [List.replicate_succ, List.flatten_cons, List.length_append, ih, Nat.succ_mul]; omega
theorem Wd.rep {n : Nat} {a : List Nat} (h : Wd n a) (k : Nat) : Wd (k * n) (List.replicate k a).flatten := ⟨by rw [rep_len]; exact Nat.mul_le_mul_left k h.1, fun c hc => h.2 c (rep_mem hc)⟩
end Cr

/-! CrU: letters and words drawn; pieces. -/
namespace Cr
open PySem PySem.Spec PyProof.Rows L2
local macro_rules | `(tactic| walk_at "w") => `(tactic| first
  | with_reducible refine ws_seq ?_ | with_reducible refine ws_asg ?_ | with_reducible refine ws_ret ?_ | with_reducible refine ws_retN ?_ | with_reducible refine ws_drop ?_ | with_reducible refine ws_if ?_
  | with_reducible refine ws_next ?_ | with_reducible refine ws_par ?_ | with_reducible refine ws_par3 ?_
  | with_reducible refine we_int ?_ | with_reducible refine we_str ?_ | with_reducible refine we_bl ?_ | with_reducible refine we_non ?_ | with_reducible refine we_op ?_ | with_reducible refine we_un ?_
  | with_reducible refine we_cb ?_ | with_reducible refine we_if ?_ | with_reducible refine we_tup ?_ | with_reducible refine we_call ?_ | with_reducible refine wa_cons ?_ | with_reducible refine wa_nil ?_
  | with_reducible refine wt_val ?_ | with_reducible refine wt_test ?_ | with_reducible refine wt_and ?_ | with_reducible refine wt_or ?_ | with_reducible refine wt_not ?_ | with_reducible refine wt_yes ?_
  | with_reducible refine we_andV ?_ | with_reducible refine we_orV ?_ | with_reducible refine we_notV ?_ | with_reducible refine we_chain ?_ | with_reducible refine we_slice ?_ | with_reducible refine wo_none ?_ | with_reducible refine wo_some ?_
  | with_reducible refine we_bits ?_ | refine we_var (by rfl) ?_)
local macro_rules | `(tactic| walk_at "i2") => `(tactic| refine ⟨_, _, _, rfl, rfl, .int _ _, ?_⟩)
local macro_rules | `(tactic| walk_at "in") => `(tactic| refine ⟨_, _, rfl, .int _, ?_⟩)
theorem ws_retD {K : PySem.W.Frag} {M : Dm} {r : Ro} {m : Sto} {P : Eds} {te : TE} {p : Addr} (hM : M p = false) (h : WE K r m te fun s m1 => ∃ d ds, s = .val d ∧ m1 p = some ds ∧ P.rt (.val d) (stD m1 p)) : WS K M r m (tRet te) P := fun σ H H0 D' e st x dd =>
  h σ H _ e st fun v H1 s m1 x1 so1 rs ⟨d, ds, es, hm, q⟩ => by
    subst es
    have rs' : Rp K (hid (dom m1) H1) v d := rs
    exact dd.rt v H1 (.val d) (stD m1 p) ((x.trans x1).frz hM) (so1.frz hm).1 (Rp.mono (hid_sub stD_sub) rs') q
theorem GenI.ne {m : Sto} {g p : Addr} {n : Nat} (h : GenI m g n) (hp : m p = none) : g ≠ p := fun e => by
  obtain ⟨ds, z⟩ := h.some
  rw [e, hp] at z
  cases z
/-- signs, each a text of its own -/
abbrev sg (c : Nat) : D := dS [c]
abbrev S1 (c : Nat) : Str := S [c]
theorem abc_signs : (("abcdefghijklmnopqrstuvwxyz" : Str).cps.toList.map fun c => D.str ⟨#[c]⟩) = abc.map sg := by
  rw [abc_eq]
  rfl
theorem flat_one : ∀ ls : List Nat, (ls.map fun c => [c]).flatten = ls
  | [] => rfl
  | a :: r => by rw [List.map_cons, List.flatten_cons, flat_one r]; rfl
theorem erase_map {α β : Type} (f : α → β) : ∀ (l : List α) (i : Nat), (l.map f).eraseIdx i = (l.eraseIdx i).map f
  | [], _ => rfl
  | _ :: _, 0 => rfl
  | a :: l, i + 1 => by
    show f a :: (l.map f).eraseIdx i = f a :: (l.eraseIdx i).map f
    rw [erase_map f l i]
def T_law_letters : Tr := fun ss m Q => ∃ (g : Addr) (n : Nat), ss = [.adr g] ∧ GenI m g (n + 3) ∧ ∀ (l : List Nat) (m' : Sto), l.length = 3 → l.Nodup → (∀ c ∈ l, c ∈ abc) → GenI m' g n → Fr m m' g → Q (.val (dS l)) m'
def t_law_letters (K : PySem.W.Frag) : TS := (tSeq (tAsg (tCB (rDN K RLst) (tCons (tC (.str ("abcdefghijklmnopqrstuvwxyz" : Str))) tNil)) (gName 1)) (tRet (tM1 (rJoin K) (tC (.str ("" : Str))) (tLc (iRng1 (tCons (tC (.int 3)) tNil)) (gName 2) tYes (tBM K "list" rPopAt (tVar 1) (tCons (tCall (SpD K T_law_random) [] E0 (tCons (tVar 0) (tCons (tCB (rDN K RLen) (tCons (tVar 1) tNil)) tNil))) tNil)) [2]))))
theorem m_law_letters {K : PySem.W.Frag} : Ok K ["generator", "left", "turn"] T_law_letters (t_law_letters K) := by
  rintro ss m Q ⟨g, n, rfl, hg, q⟩
  have bm : ∀ x : Int, x ≤ 10 ^ 30 → x < bMax := fun x h => Int.lt_of_le_of_lt h (by decide +kernel)
  unfold t_law_letters
  refine ws_seq (ws_asg (we_cbO ?_))
  repeat walk_at "w"
  refine ⟨[.str "abcdefghijklmnopqrstuvwxyz"], abc.map sg, rfl, ?_, fun p hp => ?_⟩
  · have := RLst.str (z := ("abcdefghijklmnopqrstuvwxyz" : Str)) (by rw [abc_eq, S_len]; decide)
    rw [abc_signs] at this
    exact this
  have gp := hg.ne hp
  refine ws_retD (p := p) (dom_none.mpr hp) (we_join (we_str ⟨_, rfl, ?_⟩))
  refine we_free (we_lcO (js := [2]) (by decide) (wi_rng1 (wa_cons (we_int (wa_nil ⟨3, rfl, by decide, by decide, by decide, fun pc hpc => ?_⟩)))))
  have gpc : g ≠ pc := fun e => by
    obtain ⟨ds, z⟩ := (hg.other (ds := abc.map sg) gp).some
    rw [e, hpc] at z
    cases z
  have ppc : p ≠ pc := fun e => by
    rw [← e, stS_same] at hpc
    cases hpc
  refine ⟨fun i acc m' => ∃ (ls rem : List Nat), acc = ls.map sg ∧ ls.length = i ∧ i ≤ 3 ∧ (ls ++ rem).Perm abc ∧ m' p = some (rem.map sg) ∧ GenI m' g (n + (3 - i)) ∧ ∀ x, x ≠ g → x ≠ p → x ≠ pc → m' x = m x, ⟨[], abc, rfl, rfl, by decide, List.Perm.refl _, by rw [stS_ne ppc]; exact stS_same, (hg.other gp).other gpc, fun x h1 h2 h3 => by rw [stS_ne h3, stS_ne h2]⟩, ?_, ?_⟩
  · rintro i d acc m' hd _ hm ⟨ls, rem, rfl, hl, hi3, hperm, hmp, hG, hF⟩
    have hi : i < 3 := by
      have := (List.getElem?_eq_some_iff.mp hd).1
      rw [rng_len] at this
      exact this
    have hlen : ls.length + rem.length = 26 := by
      have := hperm.length_eq
      rw [List.length_append] at this
      exact this
    refine wg_name (wt_yes ?_)
    rw [if_pos rfl]
    refine we_popAt (we_var (by rfl) ⟨p, _, rfl, hmp, ?_⟩)
    repeat walk_at "w"
    refine ⟨[.lst (rem.map sg)], _, by show [vw m' (.adr p)] = [some _]; rw [vw_adr hmp], .lst _, ?_⟩
    walk_at "w"
    have hrl : ((rem.map sg).length : Int) = 26 - (i : Int) := by rw [List.length_map]; omega
    refine ⟨g, _, n + (3 - (i + 1)), rfl, hG.mono (by omega), by show (0 : Int) < ((rem.map sg).length : Int); omega, bm _ (by omega), fun v m3 v0 v1 hG3 hF3 => ?_⟩
    obtain ⟨j, rfl⟩ := Int.eq_ofNat_of_zero_le v0
    have hj : j < rem.length := by rw [List.length_map] at v1; omega
    refine ⟨(j : Int), j, rem.map sg, sg rem[j], rfl, by rw [hF3 p gp.symm]; exact hmp, by rw [List.length_map]; omega, Evl.ixN_nat (by rw [List.length_map]; exact hj), by rw [List.getElem?_map, List.getElem?_eq_getElem hj]; rfl, ?_⟩
    have hpc3 : m3 pc = some (ls.map sg) := by rw [hF3 pc gpc.symm]; exact hm
    refine ⟨sg rem[j], rfl, by rw [stS_ne ppc.symm]; exact hpc3, ls ++ [rem[j]], rem.eraseIdx j, by rw [List.map_append]; rfl, by rw [List.length_append, hl]; rfl, by omega, ?_, ?_, ?_, ?_⟩
    · refine List.Perm.trans ?_ hperm
      rw [List.append_assoc]
      refine List.Perm.append_left _ ?_
      have e : rem = rem.take j ++ rem[j] :: rem.drop (j + 1) := by rw [List.getElem_cons_drop, List.take_append_drop]
      rw [List.eraseIdx_eq_take_drop_succ]
      refine List.Perm.trans ?_ (List.Perm.of_eq e.symm)
      exact (show (rem[j] :: (rem.take j ++ rem.drop (j + 1))).Perm _ from List.perm_middle.symm)
    · rw [stS_ne ppc, erase_map]
      exact stS_same
    · exact (hG3.other gp).other gpc
    · intro x h1 h2 h3
      rw [stS_ne h3, stS_ne h2, hF3 x h1]
      exact hF x h1 h2 h3
  · rintro acc m' hm ⟨ls, rem, rfl, hl, hi3, hperm, hmp, hG, hF⟩
    rw [rng_len] at hl hG
    have hl3 : ls.length = 3 := hl
    have nd : (ls ++ rem).Nodup := hperm.nodup_iff.mpr (by decide)
    have hne : ∀ c ∈ ls, c ∈ abc := fun c hc => hperm.mem_iff.mp (List.mem_append_left _ hc)
    refine ⟨pc, _, rfl, hpc, hm, false, ls.map S1, by show some (D.lst (ls.map sg)) = some (.lst ((ls.map S1).map .str)); rw [List.map_map]; rfl, ?_, D.str _, rem.map sg, rfl, ?_, ?_⟩
    · have : ((ls.map S1).map (·.length)).sum = ls.length := by
        clear hl hl3 nd hne hperm hm
        induction ls with
        | nil => rfl
        | cons a r ih => rw [List.map_cons, List.map_cons, List.sum_cons, ih, List.length_cons, S_len]; simp; omega
      rw [this, List.length_map, hl3]
      decide
    · unfold stD
      rw [if_neg ppc]
      exact hmp
    · have ej : Txt.join ("" : Str) (ls.map S1) = S ls := by
        have := join_S (ls.map fun c => [c])
        rw [List.map_map] at this
        have e2 : (ls.map fun c => [c]).flatten = ls := flat_one ls
        rw [e2] at this
        exact this
      rw [ej]
      refine q ls _ hl3 (List.Nodup.sublist (List.sublist_append_left _ _) nd) hne ?_ ?_
      · have := (hG.del gpc).del gp
        exact this
      · intro x hx
        unfold stD
        by_cases h1 : x = p
        · rw [if_pos h1, h1]; exact hp.symm
        · rw [if_neg h1]
          by_cases h2 : x = pc
          · rw [if_pos h2, h2]
            rw [stS_ne ppc.symm] at hpc
            exact hpc.symm
          · rw [if_neg h2]
            exact hF x hx h1 h2
end Cr

/-! CrV: words drawn; pieces. -/
namespace Cr
open PySem PySem.Spec PyProof.Rows L2
local macro_rules | `(tactic| walk_at "w") => `(tactic| first
  | with_reducible refine ws_seq ?_ | with_reducible refine ws_asg ?_ | with_reducible refine ws_ret ?_ | with_reducible refine ws_retN ?_ | with_reducible refine ws_drop ?_ | with_reducible refine ws_if ?_
  | with_reducible refine ws_next ?_ | with_reducible refine ws_par ?_ | with_reducible refine ws_par3 ?_
  | with_reducible refine we_int ?_ | with_reducible refine we_str ?_ | with_reducible refine we_bl ?_ | with_reducible refine we_non ?_ | with_reducible refine we_op ?_ | with_reducible refine we_un ?_
  | with_reducible refine we_cb ?_ | with_reducible refine we_if ?_ | with_reducible refine we_tup ?_ | with_reducible refine we_call ?_ | with_reducible refine wa_cons ?_ | with_reducible refine wa_nil ?_
  | with_reducible refine wt_val ?_ | with_reducible refine wt_test ?_ | with_reducible refine wt_and ?_ | with_reducible refine wt_or ?_ | with_reducible refine wt_not ?_ | with_reducible refine wt_yes ?_
  | with_reducible refine we_andV ?_ | with_reducible refine we_orV ?_ | with_reducible refine we_notV ?_ | with_reducible refine we_chain ?_ | with_reducible refine we_slice ?_ | with_reducible refine wo_none ?_ | with_reducible refine wo_some ?_
  | with_reducible refine we_bits ?_ | refine we_var (by rfl) ?_)
local macro_rules | `(tactic| walk_at "i2") => `(tactic| refine ⟨_, _, _, rfl, rfl, .int _ _, ?_⟩)
local macro_rules | `(tactic| walk_at "in") => `(tactic| refine ⟨_, _, rfl, .int _, ?_⟩)
/-! ### a word drawn -/
def T_law_word : Tr := fun ss m Q => ∃ (g : Addr) (sgn : List Nat) (lo hi n : Nat), ss = [.adr g, .val (dS sgn), .val (.int lo), .val (.int hi)] ∧ sgn ≠ [] ∧ sgn.length ≤ 1000 ∧ lo ≤ hi ∧ hi ≤ 1000 ∧ GenI m g (n + (1 + hi)) ∧
  ∀ (w : List Nat) (m' : Sto), lo ≤ w.length → w.length ≤ hi → (∀ c ∈ w, c ∈ sgn) → GenI m' g n → Fr m m' g → Q (.val (dS w)) m'
def t_law_word (K : PySem.W.Frag) : TS := (tSeq (tAsg (tOp (rD2 K RAdd) (tVar 2) (tCall (SpD K T_law_random) [] E0 (tCons (tVar 0) (tCons (tOp (rD2 K RAdd) (tOp (rD2 K RSub) (tVar 3) (tVar 2)) (tC (.int 1))) tNil)))) (gName 4)) (tRet (tM1 (rJoin K) (tC (.str ("" : Str))) (tLc (iRng1 (tCons (tVar 4) tNil)) (gName 5) tYes (tOp (rD2 K RIx) (tVar 1) (tCall (SpD K T_law_random) [] E0 (tCons (tVar 0) (tCons (tCB (rDN K RLen) (tCons (tVar 1) tNil)) tNil)))) [5]))))
theorem len_S1 (ls : List Nat) : ((ls.map S1).map (·.length)).sum = ls.length := by
  induction ls with
  | nil => rfl
  | cons a r ih => rw [List.map_cons, List.map_cons, List.sum_cons, ih, List.length_cons, S_len]; simp; omega
theorem join_S1 (ls : List Nat) : Txt.join ("" : Str) (ls.map S1) = S ls := by
  have := join_S (ls.map fun c => [c])
  rw [List.map_map, flat_one] at this
  exact this
theorem atI_natV {α : Type} {xs : List α} {i : Nat} (h : i < xs.length) : atI xs (i : Int) = some xs[i] := by
  unfold atI ixN
  rw [if_pos (by omega), if_pos (by omega)]
  simp [h]
theorem m_law_word {K : PySem.W.Frag} : Ok K ["generator", "signs", "least", "most", "many", "turn"] T_law_word (t_law_word K) := by
  rintro ss m Q ⟨g, sgn, lo, hi, n, rfl, hne, hsl, hlh, hh, hg, q⟩
  have bm : ∀ x : Int, x ≤ 10 ^ 30 → x < bMax := fun x h => Int.lt_of_le_of_lt h (by decide +kernel)
  have hs0 : 0 < sgn.length := by
    cases sgn with
    | nil => exact absurd rfl hne
    | cons a b => simp
  unfold t_law_word
  repeat walk_at "w"
  walk_at "i2"
  repeat walk_at "w"
  walk_at "i2"
  walk_at "w"
  refine ⟨g, _, n + hi, rfl, hg.mono (by omega), by omega, bm _ (by omega), fun v m1 v0 v1 hG hF => ?_⟩
  walk_at "i2"
  obtain ⟨k, hk⟩ := Int.eq_ofNat_of_zero_le v0
  subst hk
  refine ws_ret (we_join (we_str ⟨_, rfl, ?_⟩))
  refine we_drawn (ge := g) (js := [5]) 1 n (fun i acc => ∃ ls : List Nat, acc = ls.map sg ∧ ls.length = i ∧ ∀ c ∈ ls, c ∈ sgn) (by decide) (wi_rng1 ?_)
  walk_at "w"
  walk_at "w"
  walk_at "w"
  have e1 : ((lo : Int) + (k : Int)).toNat = lo + k := by omega
  have hkh : lo + k ≤ hi := by omega
  refine ⟨_, rfl, by omega, by omega, rfl, by rw [rng_len]; omega, by rw [rng_len, e1, Nat.one_mul]; exact hG.mono (by omega), ⟨[], rfl, rfl, by simp⟩, ?_, ?_⟩
  · rintro i d acc m' hd ⟨ls, rfl, hl, hls⟩ hG2
    have hi2 := (List.getElem?_eq_some_iff.mp hd).1
    rw [rng_len] at hi2 hG2 ⊢
    refine wg_name ?_
    repeat walk_at "w"
    refine ⟨_, _, rfl, rlen_S (by show _ ≤ 100000; omega), ?_⟩
    walk_at "w"
    refine ⟨g, _, n + 1 * (((lo : Int) + (k : Int)).toNat - i - 1), rfl, hG2.mono (by omega), by show (0 : Int) < (sgn.length : Int); omega, bm _ (by show (sgn.length : Int) ≤ 10 ^ 30; omega), fun v m3 v0 v1 hG3 hF3 => ?_⟩
    obtain ⟨j, rfl⟩ := Int.eq_ofNat_of_zero_le v0
    have hj : j < sgn.length := by
      have : (j : Int) < (sgn.length : Int) := v1
      omega
    refine ⟨_, _, _, rfl, rfl, rix_S (by show _ ≤ 100000; omega) (atI_natV hj), ?_⟩
    refine ⟨sg sgn[j], rfl, ⟨ls ++ [sgn[j]], by rw [List.map_append]; rfl, by rw [List.length_append, hl]; rfl, fun c hc => ?_⟩, hG3, hF3⟩
    rcases List.mem_append.mp hc with h | h
    · exact hls c h
    · rw [List.mem_singleton.mp h]; exact List.getElem_mem hj
  · rintro acc m' ⟨ls, rfl, hl, hls⟩ hG2 hF2
    rw [rng_len, e1] at hl
    refine ⟨false, ls.map S1, by show some (D.lst (ls.map sg)) = some (.lst ((ls.map S1).map .str)); rw [List.map_map]; rfl, ?_, ?_⟩
    · rw [len_S1, List.length_map]
      show ls.length + ls.length * 0 ≤ 16777216
      omega
    · rw [join_S1]
      exact q ls m' (by omega) (by omega) hls hG2 (hF.trans hF2)
/-! ### letters, pieces -/
def letD (d : D) (most : Int) : Bool := match d with
  | .str z => decide ((z.length : Int) ≤ most)
  | _ => false
def LetOk (d : D) : Prop := d.tn.isSome = true ∧ ∀ z, d = .str z → ∃ l, z = S l ∧ l.length ≤ szD ∧ ∀ c ∈ l, c ∈ abc
def T_is_letters : Tr := fun ss m Q => ∃ (d : D) (most : Int), ss = [.val d, .val (.int most)] ∧ LetOk d ∧ Q (.val (.bl (letD d most))) m
def t_is_letters (K : PySem.W.Frag) : TS := (tRet (tAndV (tCB (rDN K RIsi) (tCons (tVar 0) (tCons (tC (.ty "str")) tNil))) (tAndV (tOp (rD2 K RLe) (tCB (rDN K RLen) (tCons (tVar 0) tNil)) (tVar 1)) (tOp (rD2 K REqR) (tBM K "str" rStrip (tVar 0) (tCons (tC (.str ("abcdefghijklmnopqrstuvwxyz" : Str))) tNil)) (tC (.str ("" : Str)))))))
theorem m_is_letters {K : PySem.W.Frag} : Ok K ["value", "most"] T_is_letters (t_is_letters K) := by
  rintro ss m Q ⟨d, most, rfl, ⟨ht, hz⟩, q⟩
  unfold t_is_letters
  repeat walk_at "w"
  refine we_ty ?_
  repeat walk_at "w"
  refine ⟨[d, .ty "str"], _, rfl, isi_str ht, _, rfl, ite_b (fun h => ?_) (fun h => ?_)⟩
  · cases d with
    | str z =>
      obtain ⟨l, rfl, hl, hab⟩ := hz z rfl
      repeat walk_at "w"
      refine ⟨_, _, rfl, rlen_S hl, ?_⟩
      repeat walk_at "w"
      walk_at "i2"
      have e : letD (dS l) most = decide ((l.length : Int) ≤ most) := by show decide (((S l).length : Int) ≤ most) = _; rw [S_len]
      rw [e] at q
      refine ⟨_, rfl, ite_dec (fun h => ?_) (fun h => ?_)⟩
      · refine we_op (we_s1 (we_var (by rfl) ⟨_, rfl, we_str ⟨_, rfl, by rw [S_len]; exact szD_line hl, ?_⟩⟩))
        rw [abc_eq, strip_S hab]
        refine we_str ⟨_, _, _, rfl, rfl, .mk (req_S [] []), ?_⟩
        rw [decide_eq_true h] at q
        exact q
      · rw [decide_eq_false h] at q
        exact q
    | _ => cases h
  · have e : letD d most = false := by cases d <;> first | rfl | cases h
    rw [e] at q
    exact q
theorem letOk_S {l : List Nat} (h : l.length ≤ szD) (ha : ∀ c ∈ l, c ∈ abc) : LetOk (dS l) := ⟨rfl, fun z e => by
  cases e
  exact ⟨l, rfl, h, ha⟩⟩
theorem letD_S (l : List Nat) (most : Int) : letD (dS l) most = decide ((l.length : Int) ≤ most) := by show decide (((S l).length : Int) ≤ most) = _; rw [S_len]
def pieceD (k : Int) : D → Bool
  | .tup [a, b] => letD a 2000 && formD k b
  | _ => false
def PcOk (d : D) : Prop := d.tn.isSome = true ∧ (∀ ds, d = .tup ds → ds.length ≤ szD) ∧ ∀ a b, d = .tup [a, b] → LetOk a ∧ PlainV b
def T_is_piece : Tr := fun ss m Q => ∃ (k : Int) (d : D), ss = [.val (.int k), .val d] ∧ PcOk d ∧ Q (.val (.bl (pieceD k d))) m
def t_is_piece (K : PySem.W.Frag) : TS := (tSeq (tIfS (tOr (tNot (tB (tCB (rDN K RIsi) (tCons (tVar 1) (tCons (tC (.ty "tuple")) tNil))))) (tTest (tOp (rD2 K RNeR) (tCB (rDN K RLen) (tCons (tVar 1) tNil)) (tC (.int 2))))) (tRet (tC (.bl false))) tNext) (tRet (tAndV (tCall (SpD K T_is_letters) [] E0 (tCons (tOp (rD2 K RIx) (tVar 1) (tC (.int 0))) (tCons (tC (.int 2000)) tNil))) (tCall (SpD K T_is_form_for) [] E0 (tCons (tVar 0) (tCons (tOp (rD2 K RIx) (tVar 1) (tC (.int 1))) tNil))))))
theorem m_is_piece {K : PySem.W.Frag} : Ok K ["many", "value"] T_is_piece (t_is_piece K) := by
  rintro ss m Q ⟨k, d, rfl, ⟨ht, hl, hp⟩, q⟩
  unfold t_is_piece
  repeat walk_at "w"
  refine we_ty ?_
  repeat walk_at "w"
  refine ⟨[d, .ty "tuple"], _, rfl, isi_tup ht, _, rfl, ?_⟩
  refine ite_b (fun h => ?_) (fun h => ?_)
  · have e : isTup d = false := by simpa using h
    rw [if_pos rfl]
    repeat walk_at "w"
    have e2 : pieceD k d = false := by cases d <;> first | rfl | cases e
    rw [e2] at q
    exact q
  · have e : isTup d = true := by simpa using h
    cases d with
    | tup ds =>
      repeat walk_at "w"
      refine ⟨_, _, rfl, .tup _, ?_⟩
      repeat walk_at "w"
      refine ⟨_, _, _, rfl, rfl, .mk (.int _ _), _, rfl, ?_⟩
      match ds, hp, q with
      | [a, b], hp, q =>
        obtain ⟨ha, hb⟩ := hp a b rfl
        rw [show (!decide ((([a, b] : List D).length : Int) = 2)) = false from rfl, if_neg Bool.false_ne_true]
        repeat walk_at "w"
        refine ⟨_, _, _, rfl, rfl, .tup (d := a) rfl, ?_⟩
        repeat walk_at "w"
        refine ⟨a, 2000, rfl, ha, _, rfl, ite_b (fun h => ?_) (fun h => ?_)⟩
        · repeat walk_at "w"
          refine ⟨_, _, _, rfl, rfl, .tup (d := b) rfl, ?_⟩
          walk_at "w"
          refine ⟨k, b, rfl, hb, ?_⟩
          have e3 : pieceD k (.tup [a, b]) = formD k b := by show (letD a 2000 && formD k b) = _; rw [h]; rfl
          rw [e3] at q
          exact q
        · have e3 : pieceD k (.tup [a, b]) = false := by show (letD a 2000 && formD k b) = _; rw [h]; rfl
          rw [e3] at q
          exact q
      | [], hp, q =>
        rw [show (!decide ((([] : List D).length : Int) = 2)) = true from rfl, if_pos rfl]
        repeat walk_at "w"
        exact q
      | [a], hp, q =>
        rw [show (!decide ((([a] : List D).length : Int) = 2)) = true from rfl, if_pos rfl]
        repeat walk_at "w"
        exact q
      | a :: b :: c :: r, hp, q =>
        rw [show (!decide (((a :: b :: c :: r : List D).length : Int) = 2)) = true by rw [decide_eq_false (by simp only [List.length_cons]; omega)]; rfl, if_pos rfl]
        repeat walk_at "w"
        exact q
    | _ => cases e
abbrev Pc := List Nat × List Int
def pD (p : Pc) : D := .tup [dS p.1, tI p.2]
abbrev psD (ps : List Pc) : D := .lst (ps.map pD)
def openB (f : List Int) : Bool := decide (0 < f.tail.sum)
def T_is_open_form : Tr := fun ss m Q => ∃ f : List Int, ss = [.val (tI f)] ∧ Q (.val (.bl (openB f))) m
def t_is_open_form (K : PySem.W.Frag) : TS := (tRet (tOp (rD2 K RGt) (tCB (rDN K RSum) (tCons (tSl (rSlD K) (tVar 0) (tPart (tC (.int 1))) tNoPart) tNil)) (tC (.int 0))))
theorem m_is_open_form {K : PySem.W.Frag} : Ok K ["form"] T_is_open_form (t_is_open_form K) := by
  rintro ss m Q ⟨f, rfl, q⟩
  unfold t_is_open_form
  repeat walk_at "w"
  refine ⟨1, rfl, ?_⟩
  walk_at "w"
  refine ⟨_, _, rfl, .tup _ _ _, ?_⟩
  repeat walk_at "w"
  refine ⟨[.tup (f.tail.map .int)], _, by rw [cut_tail, List.map_tail]; rfl, .tup _, ?_⟩
  repeat walk_at "w"
  walk_at "i2"
  exact q
end Cr

/-! CrW: measures and checks of pieces. -/
namespace Cr
open PySem PySem.Spec PyProof.Rows L2
local macro_rules | `(tactic| walk_at "w") => `(tactic| first
  | with_reducible refine ws_seq ?_ | with_reducible refine ws_asg ?_ | with_reducible refine ws_ret ?_ | with_reducible refine ws_retN ?_ | with_reducible refine ws_drop ?_ | with_reducible refine ws_if ?_
  | with_reducible refine ws_next ?_ | with_reducible refine ws_par ?_ | with_reducible refine ws_par3 ?_
  | with_reducible refine we_int ?_ | with_reducible refine we_str ?_ | with_reducible refine we_bl ?_ | with_reducible refine we_non ?_ | with_reducible refine we_op ?_ | with_reducible refine we_un ?_
  | with_reducible refine we_cb ?_ | with_reducible refine we_if ?_ | with_reducible refine we_tup ?_ | with_reducible refine we_call ?_ | with_reducible refine wa_cons ?_ | with_reducible refine wa_nil ?_
  | with_reducible refine wt_val ?_ | with_reducible refine wt_test ?_ | with_reducible refine wt_and ?_ | with_reducible refine wt_or ?_ | with_reducible refine wt_not ?_ | with_reducible refine wt_yes ?_
  | with_reducible refine we_andV ?_ | with_reducible refine we_orV ?_ | with_reducible refine we_notV ?_ | with_reducible refine we_chain ?_ | with_reducible refine we_slice ?_ | with_reducible refine wo_none ?_ | with_reducible refine wo_some ?_
  | with_reducible refine we_bits ?_ | refine we_var (by rfl) ?_)
local macro_rules | `(tactic| walk_at "i2") => `(tactic| refine ⟨_, _, _, rfl, rfl, .int _ _, ?_⟩)
local macro_rules | `(tactic| walk_at "in") => `(tactic| refine ⟨_, _, rfl, .int _, ?_⟩)
theorem atI_nat0 {α : Type} {xs : List α} {x : α} (h : xs[0]? = some x) : atI xs (0 : Int) = some x := by
  cases xs with
  | nil => cases h
  | cons a r =>
    unfold atI ixN
    rw [if_pos (by decide), if_pos (by simp only [List.length_cons]; omega)]
    exact h
open Classical in
theorem we_mapP {K : PySem.W.Frag} {r : Ro} {m : Sto} {a b : Nat} {wi : TI} {te : TE} {Q : Sv → Sto → Prop} (ps : List Pc) (g : Pc → D) (hl : ps.length ≤ 100000)
    (ha : WI K r m wi fun ds m1 => ds = ps.map pD ∧ m1 = m)
    (ht : ∀ p ∈ ps, ∀ m', WE K (((wipeR r [a, b]).set a (some (.val (dS p.1)))).set b (some (.val (tI p.2)))) m' te fun s m3 => s = .val (g p) ∧ m3 = m')
    (q : Q (.val (.lst (ps.map g))) m) : WE K r m (tLc wi (gTup K 2 (gCons (gName a) (gCons (gName b) gNil))) tYes te [a, b]) Q := by
  have inj : ∀ {p p' : Pc}, pD p = pD p' → p = p' := fun {p p'} h => by
    injection h with h
    injection h with h1 h2
    injection h2 with h2 _
    injection h1 with h1
    injection h2 with h2
    exact Prod.ext (S_inj h1) (map_int_inj h2)
  let v : D → D := fun d => if h : ∃ p, pD p = d then g h.choose else .non
  have hv : ∀ p, v (pD p) = g p := fun p => by
    have h : ∃ p', pD p' = pD p := ⟨p, rfl⟩
    show (if h : ∃ p', pD p' = pD p then g h.choose else .non) = _
    rw [dif_pos h, inj h.choose_spec]
  refine we_lc (js := [a] ++ ([b] ++ [])) (by simp) fun σ H R e so k => ha σ H R e so fun J H' ds m' x so' io ⟨e1, e2⟩ => k J H' ds m' x so' io ⟨by rw [e1, List.length_map]; exact hl, e2, fun _ => true, v, fun d hd m' => ?_, ?_⟩
  · rw [e1] at hd
    obtain ⟨p, hp, rfl⟩ := List.mem_map.mp hd
    exact wg_tup rfl (wgs_cons (wg_name (wgs_cons (wg_name (wgs_nil (wt_yes ⟨rfl, rfl, fun _ => by rw [hv]; exact ht p hp m'⟩))))))
  · rw [e1, List.filter_eq_self.mpr (fun _ _ => rfl), List.map_map]
    have : v ∘ pD = g := funext hv
    rw [this]
    exact q
/-! ### measures -/
def measP (p : Pc) : Int := (p.1.length : Int) * (p.2.headD 0 + (if openB p.2 = true then 1 else 0))
def measI (ps : List Pc) : Int := (ps.map measP).sum
/-- the letters, the numbers of a piece are such that all is reckoned -/
def PcS (p : Pc) : Prop := p.1.length ≤ 100000 ∧ p.2 ≠ [] ∧ bSz p.2 ∧ p.2.length ≤ 1000
def T_measure : Tr := fun ss m Q => ∃ ps : List Pc, ss = [.val (psD ps)] ∧ ps.length ≤ 100000 ∧ (∀ p ∈ ps, PcS p) ∧ Q (.val (.int (measI ps))) m
def t_measure (K : PySem.W.Frag) : TS := (tRet (tCB (rDN K RSum) (tCons (tLc (iD K (tVar 0)) (gTup K 2 (gCons (gName 1) (gCons (gName 2) gNil))) tYes (tOp (rD2 K RMul) (tCB (rDN K RLen) (tCons (tVar 1) tNil)) (tOp (rD2 K RAdd) (tOp (rD2 K RIx) (tVar 2) (tC (.int 0))) (tCB (rDN K RInt) (tCons (tCall (SpD K T_is_open_form) [] E0 (tCons (tVar 2) tNil)) tNil)))) [1, 2]) tNil)))
theorem m_measure {K : PySem.W.Frag} : Ok K ["pieces", "word", "form"] T_measure (t_measure K) := by
  rintro ss m Q ⟨ps, rfl, hl, hps, q⟩
  unfold t_measure
  repeat walk_at "w"
  refine we_mapP ps (fun p => .int (measP p)) hl (wi_D ?_) (fun p hp m' => ?_) ?_
  · repeat walk_at "w"
    exact ⟨false, _, rfl, rfl, rfl⟩
  · obtain ⟨h1, h2, h3, h4⟩ := hps p hp
    obtain ⟨w, f⟩ := p
    cases f with
    | nil => exact absurd rfl h2
    | cons c cs =>
      have hc := h3 c List.mem_cons_self
      repeat walk_at "w"
      refine ⟨_, _, rfl, rlen_S h1, ?_⟩
      repeat walk_at "w"
      refine ⟨_, _, _, rfl, rfl, .tup (d := .int c) (atI_nat0 rfl), ?_⟩
      repeat walk_at "w"
      refine ⟨c :: cs, rfl, ?_⟩
      walk_at "w"
      refine ⟨_, _, rfl, .bl _, ?_⟩
      walk_at "i2"
      have hb : (c + (if openB (c :: cs) = true then 1 else 0)).natAbs ≤ 10 ^ 401 := by
        have h5 : (if openB (c :: cs) = true then (1 : Int) else 0).natAbs ≤ 1 := by split <;> decide
        have h6 : (c + (if openB (c :: cs) = true then 1 else 0)).natAbs ≤ c.natAbs + 1 := by omega
        exact Nat.le_trans h6 (Nat.le_trans (Nat.add_le_add_right hc 1) (by decide +kernel))
      refine ⟨_, _, _, rfl, rfl, .int (mulOk (B := 100000) (C := 10 ^ 401) (by simpa using h1) hb (by decide +kernel)), rfl, rfl⟩
  · repeat walk_at "w"
    refine ⟨[lI (ps.map measP)], _, ?_, .lst _, q⟩
    show [some (D.lst (ps.map fun p => .int (measP p)))] = [some (D.lst ((ps.map measP).map .int))]
    rw [List.map_map]
    rfl
/-! ### good pieces -/
structure Good (k : Nat) (p : Pc) : Prop where
  wd : Wd 2000 p.1
  fm : ∃ B : Int, Row (k + 1) B p.2 ∧ B ≤ 10 ^ 300
theorem Good.s {k : Nat} {p : Pc} (h : Good k p) (hk : k ≤ 3) : PcS p := by
  obtain ⟨B, hr, hB⟩ := h.fm
  refine ⟨by have := h.wd.1; omega, ?_, ?_, by rw [hr.1]; omega⟩
  · intro e
    have := hr.1
    rw [e] at this
    cases this
  · intro x hx
    have h1 := hr.2 x hx
    have h2 : x.natAbs ≤ 10 ^ 300 := by
      have h3 : (x.natAbs : Int) ≤ ((10 ^ 300 : Nat) : Int) := by
        rw [show (x.natAbs : Int) = x by omega]
        exact Int.le_trans h1.2 (Int.le_trans hB (by decide +kernel))
      exact Int.ofNat_le.mp h3
    exact Nat.le_trans h2 (Nat.pow_le_pow_right (by decide) (by decide))
theorem Good.pc {k : Nat} {p : Pc} (h : Good k p) (hk : k ≤ 3) : PcOk (pD p) ∧ pieceD k (pD p) = true := by
  obtain ⟨B, hr, hB⟩ := h.fm
  have hw := h.wd.1
  refine ⟨⟨rfl, fun ds e => by cases e; show (2 : Nat) ≤ 100000; decide, fun a b e => by
    cases e
    exact ⟨letOk_S (by show _ ≤ 100000; omega) h.wd.2, plainV_tI (by rw [hr.1]; omega)⟩⟩, ?_⟩
  show (letD (dS p.1) 2000 && formD k (tI p.2)) = true
  rw [letD_S, formD_tI hr, Bool.and_true]
  exact decide_eq_true (by omega)
def T_check_pieces : Tr := fun ss m Q => ∃ (k : Nat) (ps : List Pc), ss = [.val (.int k), .val (psD ps)] ∧ k ≤ 3 ∧ ps.length ≤ 5000 ∧ (∀ p ∈ ps, Good k p) ∧ measI ps ≤ 2000 ∧ Q (.val .non) m
def t_check_pieces (K : PySem.W.Frag) : TS := (tSeq (tDrop (tCall (SpD K T_check_many) [] E0 (tCons (tVar 0) tNil))) (tSeq (tIfS (tOr (tNot (tB (tCB (rDN K RIsi) (tCons (tVar 1) (tCons (tC (.ty "list")) tNil))))) (tTest (tOp (rD2 K RGt) (tCB (rDN K RLen) (tCons (tVar 1) tNil)) (tC (.int 5000))))) tNever tNext) (tSeq (tFor (iD K (tVar 1)) (gName 2) (tIfS (tNot (tB (tCall (SpD K T_is_piece) [] E0 (tCons (tVar 0) (tCons (tVar 2) tNil))))) tNever tNext)) (tIfS (tTest (tOp (rD2 K RGt) (tCall (SpD K T_measure) [] E0 (tCons (tVar 1) tNil)) (tC (.int 2000)))) tNever tNext))))
theorem wt_orF {K : PySem.W.Frag} {r : Ro} {m : Sto} {A B : TT} {Q : Bool → Sto → Prop} (hA : WT K r m A fun x m1 => x = false ∧ m1 = m) (hB : WT K r m B fun x m1 => x = false ∧ m1 = m) (q : Q false m) : WT K r m (tOr A B) Q :=
  wt_or (hA.imp fun x m1 ⟨h1, h2⟩ => by
    subst h1 h2
    exact hB.imp fun y m2 ⟨h3, h4⟩ => by subst h3 h4; exact q)
theorem if_no {A B : Prop} (h : B) : if false = true then A else B := by rw [if_neg (by decide)]; exact h
theorem m_check_pieces {K : PySem.W.Frag} : Ok K ["many", "pieces", "item"] T_check_pieces (t_check_pieces K) := by
  rintro ss m Q ⟨k, ps, rfl, hk, hl, hps, hm, q⟩
  unfold t_check_pieces
  repeat walk_at "w"
  refine ⟨k, rfl, by omega, by omega, ?_⟩
  refine ws_seq (ws_if (wt_orF ?_ ?_ (if_no ?_)))
  · repeat walk_at "w"
    refine we_ty ?_
    repeat walk_at "w"
    exact ⟨[psD ps, .ty "list"], _, rfl, isi_lst rfl, true, rfl, rfl, rfl⟩
  · repeat walk_at "w"
    refine ⟨_, _, rfl, .lst _, ?_⟩
    repeat walk_at "w"
    refine ⟨_, _, _, rfl, rfl, .int _ _, _, rfl, ?_, rfl⟩
    exact decide_eq_false (by rw [List.length_map]; omega)
  walk_at "w"
  refine ws_seq (ws_for [2] (wi_D ?_))
  repeat walk_at "w"
  refine ⟨false, ps.map pD, rfl, fun i r' m' => m' = m ∧ ∃ z, r' = [some (.val (.int k)), some (.val (psD ps)), z], ⟨rfl, _, rfl⟩, ?_, ?_⟩
  · rintro i d r' m' hd ⟨rfl, z, rfl⟩
    obtain ⟨p, hp, rfl⟩ := List.mem_map.mp (List.mem_of_getElem? hd)
    obtain ⟨h1, h2⟩ := (hps p hp).pc hk
    refine wg_name ?_
    repeat walk_at "w"
    refine ⟨k, pD p, rfl, h1, ?_⟩
    rw [h2]
    refine ⟨true, rfl, ?_⟩
    show if (!true) = true then _ else _
    rw [if_neg (by decide)]
    walk_at "w"
    exact ⟨rfl, _, rfl⟩
  · rintro r' m' ⟨rfl, z, rfl⟩
    repeat walk_at "w"
    refine ⟨ps, rfl, by omega, fun p hp => (hps p hp).s hk, ?_⟩
    repeat walk_at "w"
    refine ⟨_, _, _, rfl, rfl, .int _ _, _, rfl, ?_⟩
    rw [show decide ((2000 : Int) < measI ps) = false from decide_eq_false (by omega), if_neg Bool.false_ne_true]
    walk_at "w"
    exact q
def T_plain : Tr := fun ss m Q => ∃ (k : Nat) (c : Int), ss = [.val (.int k), .val (.int c)] ∧ k ≤ 3 ∧ Q (.val (tI (c :: List.replicate k 0))) m
def t_plain (K : PySem.W.Frag) : TS := (tRet (tOp (rD2 K RAdd) (tTup (tCons (tVar 1) tNil)) (tOp (rD2 K RMul) (tTup (tCons (tC (.int 0)) tNil)) (tVar 0))))
theorem m_plain {K : PySem.W.Frag} : Ok K ["many", "number"] T_plain (t_plain K) := by
  rintro ss m Q ⟨k, c, rfl, hk, q⟩
  unfold t_plain
  repeat walk_at "w"
  refine ⟨[.int c], rfl, by show (1 : Nat) ≤ 100000; decide, ?_⟩
  repeat walk_at "w"
  refine ⟨[.int 0], rfl, by decide, ?_⟩
  repeat walk_at "w"
  refine ⟨_, _, _, rfl, rfl, .tup (by omega) (by omega) (by decide), ?_⟩
  have e0 : ((k : Int)).toNat = k := by omega
  refine ⟨_, _, _, rfl, rfl, .tup ?_, ?_⟩
  · rw [e0, rep_ints]
    simp [szD]
    omega
  · rw [e0, rep_ints]
    exact q
end Cr

/-! Wm: words in plain Lean: periods, powers, roots, borders, turns. -/
namespace Wm
def Per (d : Nat) (w : List Nat) : Prop := ∀ i, i + d < w.length → w[i]? = w[i + d]?
theorem per_sub {p q : Nat} {w : List Nat} (hpq : p < q) (hp : Per p w) (hq : Per q w) (hl : p + q ≤ w.length) : Per (q - p) w := fun i hi => by
  by_cases h : i + q < w.length
  · have h1 := hq i h
    have h2 := hp (i + (q - p)) (by omega)
    rw [show i + (q - p) + p = i + q by omega] at h2
    rw [h1, h2]
  · have h1 := hp (i - p) (by omega)
    rw [show i - p + p = i by omega] at h1
    have h2 := hq (i - p) (by omega)
    rw [show i - p + q = i + (q - p) by omega] at h2
    rw [← h1, h2]
/-- two periods that fit: their greatest common divisor is one -/
theorem per_gcd {w : List Nat} : ∀ (n p q : Nat), p + q ≤ n → 0 < p → 0 < q → Per p w → Per q w → p + q ≤ w.length → Per (Nat.gcd p q) w
  | 0, p, q, h, h1, h2, _, _, _ => by omega
  | n + 1, p, q, h, h1, h2, hp, hq, hl => by
    rcases Nat.lt_trichotomy p q with c | c | c
    · have := per_gcd n p (q - p) (by omega) h1 (by omega) hp (per_sub c hp hq hl) (by omega)
      rw [Nat.gcd_sub_self_right (by omega)] at this
      exact this
    · subst c
      rw [Nat.gcd_self]
      exact hp
    · have := per_gcd n (p - q) q (by omega) (by omega) h2 (per_sub c hq hp (by omega)) hq (by omega)
      rw [Nat.gcd_sub_self_left (by omega)] at this
      exact this
def rep (t : Nat) (u : List Nat) : List Nat := (List.replicate t u).flatten
theorem rep_zero (u : List Nat) : rep 0 u = [] := rfl
theorem rep_succ (t : Nat) (u : List Nat) : rep (t + 1) u = u ++ rep t u := by unfold rep; rw [List.replicate_succ, List.flatten_cons]
theorem rep_len (t : Nat) (u : List Nat) : (rep t u).length = t * u.length := by
  induction t with
  | zero => simp [rep]
  | succ t ih => rw [rep_succ, List.length_append, ih, Nat.succ_mul]; omega
theorem rep_add (s t : Nat) (u : List Nat) : rep (s + t) u = rep s u ++ rep t u := by
  induction s with
  | zero => simp [rep]
  | succ s ih => rw [Nat.succ_add, rep_succ, rep_succ, ih, List.append_assoc]
theorem rep_one (u : List Nat) : rep 1 u = u := by rw [rep_succ, rep_zero, List.append_nil]
theorem rep_mul (s t : Nat) (u : List Nat) : rep (s * t) u = rep s (rep t u) := by
  induction s with
  | zero => simp [rep]
  | succ s ih => rw [Nat.succ_mul, Nat.add_comm, rep_add, ih, rep_succ]
theorem rep_nil (t : Nat) : rep t [] = [] := List.eq_nil_of_length_eq_zero (by rw [rep_len]; simp)
/-- the sign of a power at a place -/
theorem rep_get (u : List Nat) : ∀ (t i : Nat), i < t * u.length → (rep t u)[i]? = u[i % u.length]?
  | 0, i, h => by omega
  | t + 1, i, h => by
    rw [rep_succ]
    by_cases hi : i < u.length
    · rw [List.getElem?_append_left hi, Nat.mod_eq_of_lt hi]
    · rw [List.getElem?_append_right (by omega), rep_get u t (i - u.length) (by rw [Nat.succ_mul] at h; omega), ← Nat.mod_eq_sub_mod (by omega)]
theorem per_rep (t : Nat) (u : List Nat) : Per u.length (rep t u) := fun i hi => by
  rw [rep_len] at hi
  rw [rep_get u t i (by omega), rep_get u t (i + u.length) hi, Nat.add_mod_right]
theorem per_get {d : Nat} {w : List Nat} (h : Per d w) (hd : 0 < d) : ∀ (n i : Nat), i ≤ n → i < w.length → w[i]? = w[i % d]?
  | 0, i, hn, hi => by
    have : i = 0 := by omega
    rw [this, Nat.zero_mod]
  | n + 1, i, hn, hi => by
    by_cases c : i < d
    · rw [Nat.mod_eq_of_lt c]
    · have h1 := h (i - d) (by omega)
      rw [show i - d + d = i by omega] at h1
      rw [← h1, per_get h hd n (i - d) (by omega) (by omega), ← Nat.mod_eq_sub_mod (by omega)]
theorem rep_of_per {d t : Nat} {w : List Nat} (hd : 0 < d) (h : Per d w) (hl : w.length = t * d) : w = rep t (w.take d) := by
  by_cases ht : t = 0
  · subst ht
    have : w = [] := List.eq_nil_of_length_eq_zero (by omega)
    rw [this]; rfl
  have hdl : d ≤ w.length := by rw [hl]; exact Nat.le_mul_of_pos_left _ (by omega)
  have hul : (w.take d).length = d := by rw [List.length_take]; omega
  refine List.ext_getElem? fun i => ?_
  by_cases hi : i < w.length
  · rw [rep_get _ _ _ (by rw [hul, ← hl]; exact hi), hul, List.getElem?_take, if_pos (Nat.mod_lt _ hd)]
    exact per_get h hd i i (Nat.le_refl _) hi
  · rw [List.getElem?_eq_none (by omega), List.getElem?_eq_none (by rw [rep_len, hul, ← hl]; omega)]
/-- not a power -/
def Prim (w : List Nat) : Prop := w ≠ [] ∧ ∀ d, 0 < d → d < w.length → d ∣ w.length → ¬ Per d w
/-- the least period -/
def Least (p : Nat) (w : List Nat) : Prop := 0 < p ∧ p ≤ w.length ∧ Per p w ∧ ∀ d, 0 < d → d < p → ¬ Per d w
theorem least_prim {p : Nat} {w : List Nat} (h : Least p w) (hn : ¬ p ∣ w.length) : Prim w := by
  obtain ⟨h1, h2, h3, h4⟩ := h
  refine ⟨fun e => by rw [e] at h2; simp at h2; omega, fun d d0 dl dd hd => ?_⟩
  have hpd : p ≤ d := Nat.le_of_not_lt fun c => h4 d d0 c hd
  obtain ⟨t, ht⟩ := dd
  have t2 : 2 ≤ t := by
    rcases Nat.lt_or_ge t 2 with c | c
    · have : t = 0 ∨ t = 1 := by omega
      rcases this with e | e
      · rw [e] at ht; omega
      · rw [e] at ht; omega
    · exact c
  have h5 : d * 2 ≤ d * t := Nat.mul_le_mul_left d t2
  have hg := per_gcd (p + d) p d (Nat.le_refl _) h1 d0 h3 hd (by omega)
  have g0 : 0 < Nat.gcd p d := Nat.gcd_pos_of_pos_left _ h1
  have gp : Nat.gcd p d ≤ p := Nat.le_of_dvd h1 (Nat.gcd_dvd_left _ _)
  have ge : Nat.gcd p d = p := by
    rcases Nat.lt_or_ge (Nat.gcd p d) p with c | c
    · exact absurd hg (h4 _ g0 c)
    · omega
  have : p ∣ d := by rw [← ge]; exact Nat.gcd_dvd_right _ _
  exact hn (by rw [ht]; exact Nat.dvd_trans this (Nat.dvd_mul_right _ _))
theorem least_root {p : Nat} {w : List Nat} (h : Least p w) (hn : p ∣ w.length) : Prim (w.take p) ∧ w = rep (w.length / p) (w.take p) := by
  obtain ⟨h1, h2, h3, h4⟩ := h
  have hul : (w.take p).length = p := by rw [List.length_take]; omega
  have hw : w = rep (w.length / p) (w.take p) := rep_of_per h1 h3 (by rw [Nat.div_mul_cancel hn])
  refine ⟨⟨fun e => by rw [e] at hul; simp at hul; omega, fun d d0 dl dd hd => ?_⟩, hw⟩
  rw [hul] at dl dd
  obtain ⟨s, hs⟩ := dd
  have e1 : w.take p = rep s ((w.take p).take d) := rep_of_per d0 hd (by rw [hul, hs, Nat.mul_comm])
  have e2 : ((w.take p).take d).length = d := by rw [List.length_take, hul]; omega
  have := per_rep (w.length / p * s) ((w.take p).take d)
  rw [rep_mul, ← e1, ← hw, e2] at this
  exact h4 d d0 dl this
theorem prim_least {w : List Nat} (h : Prim w) {p : Nat} (hp : Least p w) : p = w.length ∨ ¬ p ∣ w.length := by
  by_cases c : p = w.length
  · exact .inl c
  · exact .inr fun dd => h.2 p hp.1 (by have := hp.2.1; omega) dd hp.2.2.1
/-! ### borders -/
def Bord (w : List Nat) (l b : Nat) : Prop := ∀ i, i < b → w[i]? = w[l - b + i]?
def IsB (w : List Nat) (l b : Nat) : Prop := b < l ∧ Bord w l b ∧ ∀ c, c < l → Bord w l c → c ≤ b
theorem bord_zero (w : List Nat) (l : Nat) : Bord w l 0 := fun i h => by omega
theorem bord_in {w : List Nat} {l b c : Nat} (hb : Bord w l b) (hbl : b ≤ l) (hc : Bord w l c) (hcb : c ≤ b) : Bord w b c := fun i hi => by
  have h1 := hc i hi
  have h2 := hb (b - c + i) (by omega)
  rw [show l - b + (b - c + i) = l - c + i by omega] at h2
  rw [h1, h2]
theorem bord_out {w : List Nat} {l b c : Nat} (hb : Bord w l b) (hbl : b ≤ l) (hc : Bord w b c) (hcb : c ≤ b) : Bord w l c := fun i hi => by
  have h1 := hc i hi
  have h2 := hb (b - c + i) (by omega)
  rw [show l - b + (b - c + i) = l - c + i by omega] at h2
  rw [h1, h2]
theorem bord_succ {w : List Nat} {l b : Nat} (hbl : b ≤ l) : Bord w (l + 1) (b + 1) ↔ Bord w l b ∧ w[b]? = w[l]? := by
  constructor
  · intro h
    refine ⟨fun i hi => ?_, ?_⟩
    · have := h i (by omega)
      rw [show l + 1 - (b + 1) + i = l - b + i by omega] at this
      exact this
    · have := h b (by omega)
      rw [show l + 1 - (b + 1) + b = l by omega] at this
      exact this
  · rintro ⟨h1, h2⟩ i hi
    rw [show l + 1 - (b + 1) + i = l - b + i by omega]
    by_cases c : i < b
    · exact h1 i c
    · have : i = b := by omega
      rw [this, h2]
      congr 1
      omega
/-- the walk down: many is a border of the first l, no longer one goes on -/
def Down (w : List Nat) (l b : Nat) : Prop := b < l ∧ Bord w l b ∧ ∀ c, b < c → c < l → Bord w l c → w[c]? ≠ w[l]?
theorem down_start {w : List Nat} {l b : Nat} (h : IsB w l b) : Down w l b := ⟨h.1, h.2.1, fun c h1 h2 h3 => absurd (h.2.2 c h2 h3) (by omega)⟩
theorem down_step {w : List Nat} {l b c : Nat} (h : Down w l b) (hb : 0 < b) (hne : w[b]? ≠ w[l]?) (hc : IsB w b c) : Down w l c := by
  refine ⟨Nat.lt_trans hc.1 h.1, bord_out h.2.1 (Nat.le_of_lt h.1) hc.2.1 (Nat.le_of_lt hc.1), fun d h1 h2 h3 => ?_⟩
  rcases Nat.lt_trichotomy d b with q | q | q
  · exact absurd (hc.2.2 d q (bord_in h.2.1 (Nat.le_of_lt h.1) h3 (Nat.le_of_lt q))) (by omega)
  · rw [q]; exact hne
  · exact h.2.2 d q h2 h3
theorem down_yes {w : List Nat} {l b : Nat} (h : Down w l b) (he : w[b]? = w[l]?) : IsB w (l + 1) (b + 1) := by
  refine ⟨by have := h.1; omega, (bord_succ (Nat.le_of_lt h.1)).mpr ⟨h.2.1, he⟩, fun c h1 h2 => ?_⟩
  cases c with
  | zero => omega
  | succ c =>
    obtain ⟨h3, h4⟩ := (bord_succ (by omega)).mp h2
    rcases Nat.lt_or_ge b c with q | q
    · exact absurd h4 (h.2.2 c q (by omega) h3)
    · omega
theorem down_no {w : List Nat} {l : Nat} (h : Down w l 0) (hne : w[0]? ≠ w[l]?) : IsB w (l + 1) 0 := by
  refine ⟨by omega, bord_zero _ _, fun c h1 h2 => ?_⟩
  cases c with
  | zero => omega
  | succ c =>
    obtain ⟨h3, h4⟩ := (bord_succ (by omega)).mp h2
    cases c with
    | zero => exact absurd h4 hne
    | succ c => exact absurd h4 (h.2.2 (c + 1) (by omega) (by omega) h3)
theorem per_bord {w : List Nat} {d : Nat} (hd : d ≤ w.length) : Per d w ↔ Bord w w.length (w.length - d) := by
  constructor
  · intro h i hi
    rw [show w.length - (w.length - d) + i = i + d by omega]
    exact h i (by omega)
  · intro h i hi
    have := h i (by omega)
    rw [show w.length - (w.length - d) + i = i + d by omega] at this
    exact this
theorem least_of_bord {w : List Nat} {b : Nat} (h : IsB w w.length b) : Least (w.length - b) w := by
  obtain ⟨h1, h2, h3⟩ := h
  refine ⟨by omega, by omega, (per_bord (by omega)).mpr (by rw [show w.length - (w.length - b) = b by omega]; exact h2), fun d d0 dl hd => ?_⟩
  have := h3 (w.length - d) (by omega) ((per_bord (by omega)).mp hd)
  omega
/-! ### turns -/
def turn (w : List Nat) (k : Nat) : List Nat := w.drop k ++ w.take k
theorem turn_len (w : List Nat) (k : Nat) : (turn w k).length = w.length := by unfold turn; rw [List.length_append, List.length_drop, List.length_take]; omega
theorem turn_back {w : List Nat} {k : Nat} (hk : k ≤ w.length) : turn (turn w k) (w.length - k) = w := by
  unfold turn
  rw [List.drop_left' (by rw [List.length_drop]), List.take_left' (by rw [List.length_drop]), List.take_append_drop]
theorem turn_get {w : List Nat} {k i : Nat} (hk : k ≤ w.length) (hi : i < w.length) : (turn w k)[i]? = w[(i + k) % w.length]? := by
  unfold turn
  by_cases h : i + k < w.length
  · rw [List.getElem?_append_left (by rw [List.length_drop]; omega), List.getElem?_drop, Nat.mod_eq_of_lt h, Nat.add_comm]
  · rw [List.getElem?_append_right (by rw [List.length_drop]; omega), List.length_drop, List.getElem?_take, if_pos (by omega)]
    have : (i + k) % w.length = i + k - w.length := by
      rw [Nat.mod_eq_sub_mod (by omega), Nat.mod_eq_of_lt (by omega)]
    rw [this]
    congr 1
    omega
theorem per_turn {w : List Nat} {k d : Nat} (hk : k ≤ w.length) (hd : 0 < d) (hdv : d ∣ w.length) (h : Per d w) : Per d (turn w k) := fun i hi => by
  rw [turn_len] at hi
  rw [turn_get hk (by omega), turn_get hk hi]
  have hn : 0 < w.length := by omega
  have e : ∀ j, w[j % w.length]? = w[j % d]? := fun j => by
    rw [per_get h hd (j % w.length) (j % w.length) (Nat.le_refl _) (Nat.mod_lt _ hn), Nat.mod_mod_of_dvd j hdv]
  rw [e, e, show i + d + k = i + k + d by omega, Nat.add_mod_right]
theorem prim_turn {w : List Nat} {k : Nat} (hk : k ≤ w.length) (h : Prim w) : Prim (turn w k) := by
  refine ⟨fun e => h.1 (List.eq_nil_of_length_eq_zero (by rw [← turn_len w k, e]; rfl)), fun d d0 dl dd hd => ?_⟩
  rw [turn_len] at dl dd
  have := per_turn (w := turn w k) (k := w.length - k) (d := d) (by rw [turn_len]; omega) d0 (by rw [turn_len]; exact dd) hd
  rw [turn_back hk] at this
  exact h.2 d d0 dl dd this
/-! ### what goes back along a word taken without end -/
def goB (w : List Nat) (m : Nat) : List Nat := w.drop (w.length - m % w.length) ++ rep (m / w.length) w
theorem goB_zero {w : List Nat} : goB w 0 = [] := by
  unfold goB
  rw [Nat.zero_mod, Nat.zero_div, Nat.sub_zero, List.drop_length]
  rfl
theorem goB_len {w : List Nat} (hw : w ≠ []) (m : Nat) : (goB w m).length = m := by
  have hn : 0 < w.length := by
    cases w with
    | nil => exact absurd rfl hw
    | cons a b => simp
  unfold goB
  rw [List.length_append, List.length_drop, rep_len]
  have := Nat.mod_lt m hn
  have e := Nat.div_add_mod m w.length
  rw [Nat.mul_comm] at e
  omega
theorem goB_succ {w : List Nat} {m c : Nat} (hc : w[w.length - 1 - m % w.length]? = some c) : goB w (m + 1) = c :: goB w m := by
  have hlt := (List.getElem?_eq_some_iff.mp hc).1
  have hn : 0 < w.length := by omega
  have hm := Nat.mod_lt m hn
  have cons : ∀ (k : Nat), w[k]? = some c → w.drop k = c :: w.drop (k + 1) := fun k hk => by
    obtain ⟨h1, h2⟩ := List.getElem?_eq_some_iff.mp hk
    rw [List.drop_eq_getElem_cons h1, h2]
  unfold goB
  by_cases h : m % w.length + 1 < w.length
  · have e1 : (m + 1) % w.length = m % w.length + 1 := by
      rw [Nat.add_mod, Nat.mod_eq_of_lt (show 1 < w.length by omega), Nat.mod_eq_of_lt h]
    have e2 : (m + 1) / w.length = m / w.length := by
      rw [Nat.succ_div, if_neg]
      · rfl
      · intro hd
        have := Nat.mod_eq_zero_of_dvd hd
        omega
    rw [e1, e2, show w.length - (m % w.length + 1) = w.length - 1 - m % w.length by omega, cons _ hc, show w.length - 1 - m % w.length + 1 = w.length - m % w.length by omega]
    rfl
  · have e0 : m % w.length = w.length - 1 := by omega
    have hd : w.length ∣ m + 1 := by
      refine Nat.dvd_of_mod_eq_zero ?_
      have e := Nat.div_add_mod m w.length
      have : m + 1 = w.length * (m / w.length) + w.length := by omega
      rw [this, ← Nat.mul_succ, Nat.mul_mod_right]
    have e1 : (m + 1) % w.length = 0 := Nat.mod_eq_zero_of_dvd hd
    have e2 : (m + 1) / w.length = m / w.length + 1 := by rw [Nat.succ_div, if_pos hd]
    rw [e1, e2, Nat.sub_zero, List.drop_length, rep_succ, List.nil_append, e0]
    rw [e0] at hc
    have h0 : w.length - 1 - (w.length - 1) = 0 := by omega
    rw [h0] at hc
    have := cons 0 hc
    rw [List.drop_zero] at this
    rw [show w.length - (w.length - 1) = 0 + 1 by omega, ← List.cons_append, ← this]
/-- the power moves ahead of what goes back along it -/
theorem goB_swap {w : List Nat} (m v : Nat) : goB w m ++ rep v w = rep v (turn w (w.length - m % w.length)) ++ goB w m := by
  have one : goB w m ++ w = turn w (w.length - m % w.length) ++ goB w m := by
    unfold goB turn
    generalize w.length - m % w.length = k
    rw [List.append_assoc, List.append_assoc]
    congr 1
    have : rep (m / w.length) w ++ w = w ++ rep (m / w.length) w := by
      have h1 := rep_add (m / w.length) 1 w
      have h2 := rep_succ (m / w.length) w
      rw [rep_one] at h1
      rw [← h1, h2]
    rw [this, ← List.append_assoc, List.take_append_drop]
  induction v with
  | zero => rw [rep_zero, rep_zero, List.append_nil, List.nil_append]
  | succ v ih =>
    have h1 : rep (v + 1) w = rep v w ++ w := by rw [rep_add, rep_one]
    rw [h1, ← List.append_assoc, ih, List.append_assoc, one, ← List.append_assoc]
    have h2 : rep (v + 1) (turn w (w.length - m % w.length)) = rep v (turn w (w.length - m % w.length)) ++ turn w (w.length - m % w.length) := by rw [rep_add, rep_one]
    rw [h2]
theorem turn_last {w : List Nat} (hw : w ≠ []) (m : Nat) : (turn w (w.length - m % w.length)).getLast? = w[w.length - 1 - m % w.length]? := by
  have hn : 0 < w.length := by
    cases w with
    | nil => exact absurd rfl hw
    | cons a b => simp
  have hm := Nat.mod_lt m hn
  rw [List.getLast?_eq_getElem?, turn_len, turn_get (by omega) (by omega)]
  congr 1
  rw [show w.length - 1 + (w.length - m % w.length) = w.length - 1 - m % w.length + w.length by omega, Nat.add_mod_right, Nat.mod_eq_of_lt (by omega)]
/-! ### a word in itself twice -/
theorem prim_twice {w : List Nat} (h : Prim w) {j : Nat} (j0 : 0 < j) (hj : j < w.length) : turn w j ≠ w := fun e => by
  have hp : Per j (w ++ w) := fun i hi => by
    rw [List.length_append] at hi
    have g : ∀ x, x < w.length + w.length → (w ++ w)[x]? = w[x % w.length]? := fun x hx => by
      by_cases c : x < w.length
      · rw [List.getElem?_append_left c, Nat.mod_eq_of_lt c]
      · rw [List.getElem?_append_right (by omega), Nat.mod_eq_sub_mod (by omega), Nat.mod_eq_of_lt (by omega)]
    rw [g i (by omega), g (i + j) hi]
    have := turn_get (w := w) (k := j) (i := i % w.length) (by omega) (Nat.mod_lt _ (by omega))
    rw [e] at this
    rw [this, Nat.mod_add_mod]
  have hn : Per w.length (w ++ w) := fun i hi => by
    rw [List.length_append] at hi
    rw [List.getElem?_append_left (by omega), List.getElem?_append_right (by omega), Nat.add_sub_cancel]
  have hg := per_gcd (j + w.length) j w.length (Nat.le_refl _) j0 (by omega) hp hn (by rw [List.length_append]; omega)
  have g0 : 0 < Nat.gcd j w.length := Nat.gcd_pos_of_pos_left _ j0
  have gj : Nat.gcd j w.length ≤ j := Nat.le_of_dvd j0 (Nat.gcd_dvd_left _ _)
  refine h.2 (Nat.gcd j w.length) g0 (by omega) (Nat.gcd_dvd_right _ _) fun i hi => ?_
  have := hg i (by rw [List.length_append]; omega)
  rw [List.getElem?_append_left (by omega), List.getElem?_append_left hi] at this
  exact this
theorem notprim_twice {w : List Nat} (hw : w ≠ []) (h : ¬ Prim w) : ∃ j, 0 < j ∧ j < w.length ∧ turn w j = w := by
  have : ∃ d, 0 < d ∧ d < w.length ∧ d ∣ w.length ∧ Per d w := Classical.byContradiction fun c => h ⟨hw, fun d d0 dl dd hd => c ⟨d, d0, dl, dd, hd⟩⟩
  obtain ⟨d, d0, dl, dd, hd⟩ := this
  refine ⟨d, d0, dl, List.ext_getElem? fun i => ?_⟩
  by_cases hi : i < w.length
  · rw [turn_get (by omega) hi, per_get hd d0 ((i + d) % w.length) _ (Nat.le_refl _) (Nat.mod_lt _ (by omega)), Nat.mod_mod_of_dvd _ dd, Nat.add_mod_right]
    exact (per_get hd d0 i i (Nat.le_refl _) hi).symm
  · rw [List.getElem?_eq_none (by rw [turn_len]; omega), List.getElem?_eq_none (by omega)]
end Wm

/-! N12: normal lists in plain Lean. The stack is read from its top. -/
namespace L12
open PySem PySem.Spec PyProof.Rows L2 Cr
abbrev add (xs ys : List Int) : List Int := List.zipWith (· + ·) xs ys
def fx (k : Nat) : List Int := 1 :: List.replicate k 0
def pushW (k : Nat) (w : List Nat) : List Pc → List Pc
  | [] => if w = [] then [] else [(w, fx k)]
  | p :: r => if w = [] then p :: r else if p.2 = fx k then (p.1 ++ w, fx k) :: r else (w, fx k) :: p :: r
/-- how far a text goes back along a word -/
def goN (w text : List Nat) : Nat → Nat → Nat
  | 0, m => m
  | n + 1, m => if m < text.length ∧ text[text.length - 1 - m]? = w[w.length - 1 - m % w.length]? then goN w text n (m + 1) else m
def go (w text : List Nat) : Nat := goN w text text.length 0
def meet (k : Nat) (w : List Nat) (form : List Int) : List Pc → List Pc
  | [] => [(w, form)]
  | p :: r => if p.2 ≠ fx k ∧ p.1 = w then (w, add p.2 form) :: r else (w, form) :: p :: r
def pushP (k : Nat) (w : List Nat) (form : List Int) : List Pc → List Pc
  | [] => meet k w form []
  | p :: r => if p.2 = fx k then
      pushW k (p.1.drop (p.1.length - go w p.1)) (meet k (Wm.turn w (w.length - go w p.1 % w.length)) form (pushW k (p.1.take (p.1.length - go w p.1)) r))
    else meet k w form (p :: r)
theorem pushW_nil (k : Nat) (w : List Nat) : pushW k w [] = if w = [] then [] else [(w, fx k)] := rfl
theorem pushW_cons (k : Nat) (w : List Nat) (p : Pc) (r : List Pc) : pushW k w (p :: r) = if w = [] then p :: r else if p.2 = fx k then (p.1 ++ w, fx k) :: r else (w, fx k) :: p :: r := rfl
theorem meet_cons (k : Nat) (w : List Nat) (form : List Int) (p : Pc) (r : List Pc) : meet k w form (p :: r) = if p.2 ≠ fx k ∧ p.1 = w then (w, add p.2 form) :: r else (w, form) :: p :: r := rfl
theorem pushP_cons (k : Nat) (w : List Nat) (form : List Int) (p : Pc) (r : List Pc) : pushP k w form (p :: r) = if p.2 = fx k then
      pushW k (p.1.drop (p.1.length - go w p.1)) (meet k (Wm.turn w (w.length - go w p.1 % w.length)) form (pushW k (p.1.take (p.1.length - go w p.1)) r))
    else meet k w form (p :: r) := rfl
/-! ### going back -/
theorem goN_spec {w text : List Nat} (hw : w ≠ []) : ∀ (n m : Nat), m + n = text.length → text.drop (text.length - m) = Wm.goB w m →
    goN w text n m ≤ text.length ∧ text.drop (text.length - goN w text n m) = Wm.goB w (goN w text n m) ∧
      (goN w text n m = text.length ∨ text[text.length - 1 - goN w text n m]? ≠ w[w.length - 1 - goN w text n m % w.length]?)
  | 0, m, h, hb => ⟨by show m ≤ _; omega, hb, .inl (by show m = _; omega)⟩
  | n + 1, m, h, hb => by
    have hn : 0 < w.length := by
      cases w with
      | nil => exact absurd rfl hw
      | cons a b => simp
    unfold goN
    by_cases c : m < text.length ∧ text[text.length - 1 - m]? = w[w.length - 1 - m % w.length]?
    · rw [if_pos c]
      have hlt : text.length - 1 - m < text.length := by omega
      have e1 : text[text.length - 1 - m]? = some text[text.length - 1 - m] := List.getElem?_eq_getElem hlt
      refine goN_spec hw n (m + 1) (by omega) ?_
      rw [Wm.goB_succ (c := text[text.length - 1 - m]) (by rw [← c.2, e1]), show text.length - (m + 1) = text.length - 1 - m by omega, List.drop_eq_getElem_cons hlt, show text.length - 1 - m + 1 = text.length - m by omega, hb]
    · rw [if_neg c]
      refine ⟨by omega, hb, .inr fun e => c ⟨by omega, e⟩⟩
theorem go_spec {w text : List Nat} (hw : w ≠ []) : go w text ≤ text.length ∧ text.drop (text.length - go w text) = Wm.goB w (go w text) ∧
    (go w text = text.length ∨ text[text.length - 1 - go w text]? ≠ w[w.length - 1 - go w text % w.length]?) :=
  goN_spec hw text.length 0 (by omega) (by rw [Nat.sub_zero, List.drop_length, Wm.goB_zero])
/-! ### normal -/
def PN (k : Nat) (p : Pc) : Prop := p.1 ≠ [] ∧ p.2.length = k + 1 ∧ (∀ x ∈ p.2, 0 ≤ x) ∧ (p.2 = fx k ∨ (Wm.Prim p.1 ∧ p.2.headD 0 = 0 ∧ 0 < p.2.tail.sum))
/-- below, above -/
def Adj (k : Nat) (q p : Pc) : Prop := ¬ (q.2 = fx k ∧ p.2 = fx k) ∧ (q.2 ≠ fx k → p.2 ≠ fx k → q.1 ≠ p.1) ∧ (q.2 = fx k → q.1.getLast? ≠ p.1.getLast?)
def NS (k : Nat) : List Pc → Prop
  | [] => True
  | p :: r => PN k p ∧ (∀ q, r.head? = some q → Adj k q p) ∧ NS k r
theorem fx_row (k : Nat) : (fx k).length = k + 1 ∧ ∀ x ∈ fx k, 0 ≤ x := ⟨by simp [fx], fun x hx => by
  rcases List.mem_cons.mp hx with h | h
  · omega
  · rw [List.eq_of_mem_replicate h]; omega⟩
theorem pn_fx {k : Nat} {w : List Nat} (h : w ≠ []) : PN k (w, fx k) := ⟨h, (fx_row k).1, (fx_row k).2, .inl rfl⟩
theorem ns_pushW {k : Nat} {w : List Nat} {st : List Pc} (h : NS k st) : NS k (pushW k w st) := by
  cases st with
  | nil =>
    rw [pushW_nil]
    by_cases hw : w = []
    · rw [if_pos hw]; trivial
    · rw [if_neg hw]; exact ⟨pn_fx hw, fun q e => (by cases e), trivial⟩
  | cons p r =>
    rw [pushW_cons]
    by_cases hw : w = []
    · rw [if_pos hw]; exact h
    · rw [if_neg hw]
      obtain ⟨h1, h2, h3⟩ := h
      by_cases hf : p.2 = fx k
      · rw [if_pos hf]
        refine ⟨pn_fx (fun e => h1.1 (List.append_eq_nil_iff.mp e).1), fun q hq => ?_, h3⟩
        obtain ⟨a1, a2, a3⟩ := h2 q hq
        have hq' : q.2 ≠ fx k := fun e => a1 ⟨e, hf⟩
        exact ⟨fun e => hq' e.1, fun _ e => absurd rfl e, fun e => absurd e hq'⟩
      · rw [if_neg hf]
        refine ⟨pn_fx hw, fun q hq => ?_, h1, h2, h3⟩
        cases hq
        exact ⟨fun e => hf e.1, fun _ e => absurd rfl e, fun e => absurd e hf⟩
theorem head_fx (k : Nat) : (fx k).headD 0 = 1 := rfl
theorem ne_fx {k : Nat} {f : List Int} (h : f.headD 0 = 0) : f ≠ fx k := fun e => by rw [e, head_fx] at h; omega
theorem add_facts {k : Nat} {f g : List Int} (hf : f.length = k + 1) (hg : g.length = k + 1) (f0 : ∀ x ∈ f, 0 ≤ x) (g0 : ∀ x ∈ g, 0 ≤ x) :
    (add f g).length = k + 1 ∧ (∀ x ∈ add f g, 0 ≤ x) ∧ (add f g).headD 0 = f.headD 0 + g.headD 0 ∧ (add f g).tail.sum = f.tail.sum + g.tail.sum := by
  cases f with
  | nil => simp at hf
  | cons a f =>
    cases g with
    | nil => simp at hg
    | cons b g =>
      have hs : ∀ (f g : List Int), f.length = g.length → (List.zipWith (· + ·) f g).sum = f.sum + g.sum := by
        intro f
        induction f with
        | nil => intro g h; cases g with | nil => rfl | cons _ _ => cases h
        | cons x f ih =>
          intro g h
          cases g with
          | nil => cases h
          | cons y g =>
            rw [List.zipWith_cons_cons, List.sum_cons, ih g (by simpa using h), List.sum_cons, List.sum_cons]
            omega
      have hm : ∀ (f g : List Int), (∀ x ∈ f, 0 ≤ x) → (∀ x ∈ g, 0 ≤ x) → ∀ x ∈ List.zipWith (· + ·) f g, (0 : Int) ≤ x := by
        intro f
        induction f with
        | nil => intro g _ _ x hx; simp at hx
        | cons y f ih =>
          intro g h1 h2 x hx
          cases g with
          | nil => simp at hx
          | cons z g =>
            rw [List.zipWith_cons_cons] at hx
            rcases List.mem_cons.mp hx with h | h
            · have := h1 y List.mem_cons_self
              have := h2 z List.mem_cons_self
              omega
            · exact ih g (fun x q => h1 x (List.mem_cons_of_mem _ q)) (fun x q => h2 x (List.mem_cons_of_mem _ q)) x h
      refine ⟨?_, hm _ _ f0 g0, rfl, ?_⟩
      · simp only [add, List.length_zipWith]
        omega
      · show (List.zipWith (· + ·) f g).sum = f.sum + g.sum
        exact hs f g (by simpa using hf.trans hg.symm)
/-- a power meets what stands below it -/
theorem ns_meet {k : Nat} {w : List Nat} {form : List Int} {st : List Pc} (h : NS k st) (hw : Wm.Prim w) (hl : form.length = k + 1) (h0 : ∀ x ∈ form, 0 ≤ x) (hh : form.headD 0 = 0) (hs : 0 < form.tail.sum)
    (hlast : ∀ q, st.head? = some q → q.2 = fx k → q.1.getLast? ≠ w.getLast?) : NS k (meet k w form st) := by
  have pn : PN k (w, form) := ⟨hw.1, hl, h0, .inr ⟨hw, hh, hs⟩⟩
  cases st with
  | nil => exact ⟨pn, fun q e => (by cases e), trivial⟩
  | cons p r =>
    rw [meet_cons]
    obtain ⟨h1, h2, h3⟩ := h
    by_cases c : p.2 ≠ fx k ∧ p.1 = w
    · rw [if_pos c]
      have hp := h1.2.2.2.resolve_left c.1
      obtain ⟨a1, a2, a3, a4⟩ := add_facts h1.2.1 hl h1.2.2.1 h0
      have hne : add p.2 form ≠ fx k := ne_fx (by rw [a3, hp.2.1, hh]; rfl)
      refine ⟨⟨hw.1, a1, a2, .inr ⟨hw, by rw [a3, hp.2.1, hh]; rfl, by rw [a4]; have := hp.2.2; omega⟩⟩, fun q hq => ?_, h3⟩
      obtain ⟨b1, b2, b3⟩ := h2 q hq
      refine ⟨fun e => hne e.2, fun e _ => ?_, fun e => ?_⟩
      · have := b2 e c.1
        rw [c.2] at this
        exact this
      · have := b3 e
        rw [c.2] at this
        exact this
    · rw [if_neg c]
      refine ⟨pn, fun q hq => ?_, h1, h2, h3⟩
      cases hq
      exact ⟨fun e => ne_fx hh e.2, fun e _ e2 => c ⟨e, e2⟩, hlast p rfl⟩
theorem ns_pushP {k : Nat} {w : List Nat} {form : List Int} {st : List Pc} (h : NS k st) (hw : Wm.Prim w) (hl : form.length = k + 1) (h0 : ∀ x ∈ form, 0 ≤ x) (hh : form.headD 0 = 0) (hs : 0 < form.tail.sum) : NS k (pushP k w form st) := by
  cases st with
  | nil => exact ns_meet h hw hl h0 hh hs fun q e => (by cases e)
  | cons p r =>
    rw [pushP_cons]
    by_cases hf : p.2 = fx k
    · rw [if_pos hf]
      obtain ⟨h1, h2, h3⟩ := h
      obtain ⟨g1, g2, g3⟩ := go_spec (text := p.1) hw.1
      generalize hby : go w p.1 = by' at g1 g2 g3 ⊢
      refine ns_pushW (ns_meet (ns_pushW h3) (Wm.prim_turn (by omega) hw) hl h0 hh hs fun q hq hqf => ?_)
      rw [Wm.turn_last hw.1]
      by_cases ht : p.1.take (p.1.length - by') = []
      · exfalso
        have : pushW k (p.1.take (p.1.length - by')) r = r := by
          cases r with
          | nil => show (if _ then _ else _) = _; rw [if_pos ht]
          | cons a b => show (if _ then _ else _) = _; rw [if_pos ht]
        rw [this] at hq
        exact (h2 q hq).1 ⟨hqf, hf⟩
      · have hlen : 0 < p.1.length - by' := by
          rcases Nat.eq_zero_or_pos (p.1.length - by') with e | e
          · rw [e, List.take_zero] at ht; exact absurd rfl ht
          · exact e
        have g4 := g3.resolve_left (by omega)
        have e1 : (p.1.take (p.1.length - by')).getLast? = p.1[p.1.length - 1 - by']? := by
          rw [List.getLast?_eq_getElem?, List.length_take, List.getElem?_take, if_pos (by omega)]
          congr 1
          omega
        cases r with
        | nil =>
          have : pushW k (p.1.take (p.1.length - by')) [] = [(p.1.take (p.1.length - by'), fx k)] := by show (if _ then _ else _) = _; rw [if_neg ht]
          rw [this] at hq
          cases hq
          show (p.1.take (p.1.length - by')).getLast? ≠ _
          rw [e1]
          exact g4
        | cons a b =>
          have ha : a.2 ≠ fx k := fun e => (h2 a rfl).1 ⟨e, hf⟩
          have : pushW k (p.1.take (p.1.length - by')) (a :: b) = (p.1.take (p.1.length - by'), fx k) :: a :: b := by show (if _ then _ else _) = _; rw [if_neg ht, if_neg ha]
          rw [this] at hq
          cases hq
          show (p.1.take (p.1.length - by')).getLast? ≠ _
          rw [e1]
          exact g4
    · rw [if_neg hf]
      exact ns_meet h hw hl h0 hh hs fun q hq hqf => by cases hq; exact absurd hqf hf
/-! ### what is written -/
def Nn (t : List Int) : Prop := ∀ x ∈ t, 0 ≤ x
theorem zw_nonneg : ∀ {f t : List Int}, (∀ x ∈ f, 0 ≤ x) → Nn t → 0 ≤ (List.zipWith (· * ·) f t).sum
  | [], t, _, _ => by simp
  | _ :: _, [], _, _ => by simp
  | x :: f, y :: t, h1, h2 => by
    have := zw_nonneg (f := f) (t := t) (fun z q => h1 z (List.mem_cons_of_mem _ q)) (fun z q => h2 z (List.mem_cons_of_mem _ q))
    have := Int.mul_nonneg (h1 x List.mem_cons_self) (h2 y List.mem_cons_self)
    rw [List.zipWith_cons_cons, List.sum_cons]
    omega
theorem val_nonneg {f t : List Int} (hf : ∀ x ∈ f, 0 ≤ x) (ht : Nn t) : 0 ≤ valI f t := by
  cases f with
  | nil => simp [valI]
  | cons a f =>
    have := zw_nonneg (f := f) (t := t) (fun z q => hf z (List.mem_cons_of_mem _ q)) ht
    have := hf a List.mem_cons_self
    simp only [valI, List.headD_cons, List.tail_cons]
    omega
theorem val_fx (k : Nat) (t : List Int) : valI (fx k) t = 1 := by
  have : ∀ (k : Nat) (t : List Int), (List.zipWith (· * ·) (List.replicate k (0 : Int)) t).sum = 0 := by
    intro k
    induction k with
    | zero => intro t; simp
    | succ k ih =>
      intro t
      cases t with
      | nil => simp
      | cons x t => rw [List.replicate_succ, List.zipWith_cons_cons, List.sum_cons, ih]; simp
  simp only [valI, fx, List.headD_cons, List.tail_cons, this, Int.add_zero]
theorem val_add {f g t : List Int} (h : f.length = g.length) (h0 : f ≠ []) : valI (add f g) t = valI f t + valI g t := by
  have key : ∀ (f g t : List Int), f.length = g.length → (List.zipWith (· * ·) (List.zipWith (· + ·) f g) t).sum = (List.zipWith (· * ·) f t).sum + (List.zipWith (· * ·) g t).sum := by
    intro f
    induction f with
    | nil => intro g t h; cases g with | nil => simp | cons _ _ => cases h
    | cons x f ih =>
      intro g t h
      cases g with
      | nil => cases h
      | cons y g =>
        cases t with
        | nil => simp
        | cons z t =>
          simp only [List.zipWith_cons_cons, List.sum_cons]
          rw [ih g t (by simpa using h), Int.add_mul]
          omega
  cases f with
  | nil => exact absurd rfl h0
  | cons x f =>
    cases g with
    | nil => cases h
    | cons y g =>
      have := key f g t (by simpa using h)
      simp only [valI, add, List.zipWith_cons_cons, List.headD_cons, List.tail_cons] at this ⊢
      omega
def wrR (t : List Int) : List Pc → List Nat
  | [] => []
  | p :: r => wrR t r ++ Wm.rep (valI p.2 t).toNat p.1
theorem wr_fx (k : Nat) (t : List Int) (w : List Nat) : Wm.rep (valI (fx k) t).toNat w = w := by
  rw [val_fx]
  exact Wm.rep_one w
theorem wr_pushW {k : Nat} {t : List Int} {w : List Nat} (st : List Pc) : wrR t (pushW k w st) = wrR t st ++ w := by
  cases st with
  | nil =>
    rw [pushW_nil]
    by_cases hw : w = []
    · rw [if_pos hw, hw]; simp [wrR]
    · rw [if_neg hw]; show [] ++ Wm.rep (valI (fx k) t).toNat w = [] ++ w; rw [wr_fx]
  | cons p r =>
    rw [pushW_cons]
    by_cases hw : w = []
    · rw [if_pos hw, hw, List.append_nil]
    · rw [if_neg hw]
      by_cases hf : p.2 = fx k
      · rw [if_pos hf]
        show wrR t r ++ Wm.rep (valI (fx k) t).toNat (p.1 ++ w) = wrR t r ++ Wm.rep (valI p.2 t).toNat p.1 ++ w
        rw [hf, wr_fx, wr_fx, List.append_assoc]
      · rw [if_neg hf]
        show wrR t (p :: r) ++ Wm.rep (valI (fx k) t).toNat w = _
        rw [wr_fx]
theorem wr_meet {k : Nat} {t : List Int} {w : List Nat} {form : List Int} {st : List Pc} (ht : Nn t) (h : NS k st) (hl : form.length = k + 1) (h0 : ∀ x ∈ form, 0 ≤ x) : wrR t (meet k w form st) = wrR t st ++ Wm.rep (valI form t).toNat w := by
  cases st with
  | nil => rfl
  | cons p r =>
    rw [meet_cons]
    by_cases c : p.2 ≠ fx k ∧ p.1 = w
    · rw [if_pos c]
      show wrR t r ++ Wm.rep (valI (add p.2 form) t).toNat w = wrR t r ++ Wm.rep (valI p.2 t).toNat p.1 ++ _
      have n1 := val_nonneg (t := t) h.1.2.2.1 ht
      have n2 := val_nonneg (t := t) h0 ht
      rw [val_add (by rw [hl, h.1.2.1]) (fun e => by have := h.1.2.1; rw [e] at this; cases this), show (valI p.2 t + valI form t).toNat = (valI p.2 t).toNat + (valI form t).toNat by omega, Wm.rep_add, c.2, List.append_assoc]
    · rw [if_neg c]
      rfl
theorem wr_pushP {k : Nat} {t : List Int} {w : List Nat} {form : List Int} {st : List Pc} (ht : Nn t) (h : NS k st) (hw : w ≠ []) (hl : form.length = k + 1) (h0 : ∀ x ∈ form, 0 ≤ x) : wrR t (pushP k w form st) = wrR t st ++ Wm.rep (valI form t).toNat w := by
  cases st with
  | nil => rfl
  | cons p r =>
    rw [pushP_cons]
    by_cases hf : p.2 = fx k
    · rw [if_pos hf]
      obtain ⟨g1, g2, g3⟩ := go_spec (text := p.1) hw
      generalize go w p.1 = by' at g1 g2 g3 ⊢
      rw [wr_pushW, wr_meet ht (ns_pushW h.2.2) hl h0, wr_pushW, g2, List.append_assoc, ← Wm.goB_swap, ← g2]
      show _ = wrR t r ++ Wm.rep (valI p.2 t).toNat p.1 ++ _
      rw [hf, wr_fx, List.append_assoc, List.append_assoc, ← List.append_assoc (p.1.take _), List.take_append_drop]
    · rw [if_neg hf]
      exact wr_meet ht h hl h0
/-! ### the measure -/
def meR (st : List Pc) : Int := (st.map measP).sum
theorem open_fx (k : Nat) : openB (fx k) = false := by
  have : (List.replicate k (0 : Int)).sum = 0 := by
    induction k with
    | zero => rfl
    | succ k ih => rw [List.replicate_succ, List.sum_cons, ih]; rfl
  show decide (0 < (List.replicate k (0 : Int)).sum) = false
  rw [this]
  rfl
theorem me_fx (k : Nat) (w : List Nat) : measP (w, fx k) = w.length := by
  show (w.length : Int) * ((fx k).headD 0 + (if openB (fx k) = true then 1 else 0)) = _
  rw [open_fx, head_fx, if_neg Bool.false_ne_true]
  omega
theorem me_pow {w : List Nat} {f : List Int} (hh : f.headD 0 = 0) (hs : 0 < f.tail.sum) : measP (w, f) = w.length := by
  show (w.length : Int) * (f.headD 0 + (if openB f = true then 1 else 0)) = _
  rw [hh, show openB f = true from decide_eq_true hs, if_pos rfl]
  omega
theorem meR_cons (p : Pc) (r : List Pc) : meR (p :: r) = measP p + meR r := by unfold meR; rw [List.map_cons, List.sum_cons]
theorem me_pushW {k : Nat} {w : List Nat} (st : List Pc) : meR (pushW k w st) = meR st + w.length := by
  cases st with
  | nil =>
    rw [pushW_nil]
    by_cases hw : w = []
    · rw [if_pos hw, hw]; rfl
    · rw [if_neg hw, meR_cons, me_fx]; show (w.length : Int) + 0 = 0 + _; omega
  | cons p r =>
    rw [pushW_cons]
    by_cases hw : w = []
    · rw [if_pos hw, hw]; show _ = _ + (0 : Int); omega
    · rw [if_neg hw]
      by_cases hf : p.2 = fx k
      · rw [if_pos hf, meR_cons, meR_cons, me_fx]
        have : measP p = p.1.length := by
          have := me_fx k p.1
          rw [← hf] at this
          exact this
        rw [this, List.length_append]
        omega
      · rw [if_neg hf, meR_cons, me_fx]
        omega
theorem me_meet {k : Nat} {w : List Nat} {form : List Int} {st : List Pc} (h : NS k st) (hl : form.length = k + 1) (h0 : ∀ x ∈ form, 0 ≤ x) (hh : form.headD 0 = 0) (hs : 0 < form.tail.sum) : meR (meet k w form st) ≤ meR st + w.length := by
  cases st with
  | nil =>
    show meR [(w, form)] ≤ _
    rw [meR_cons, me_pow hh hs]
    show (w.length : Int) + 0 ≤ 0 + _
    omega
  | cons p r =>
    rw [meet_cons]
    by_cases c : p.2 ≠ fx k ∧ p.1 = w
    · rw [if_pos c, meR_cons, meR_cons]
      have hp := h.1.2.2.2.resolve_left c.1
      obtain ⟨a1, a2, a3, a4⟩ := add_facts h.1.2.1 hl h.1.2.2.1 h0
      rw [me_pow (by rw [a3, hp.2.1, hh]; rfl) (by rw [a4]; have := hp.2.2; omega)]
      have : measP p = p.1.length := me_pow hp.2.1 hp.2.2
      omega
    · rw [if_neg c, meR_cons, me_pow hh hs]
      omega
theorem me_pushP {k : Nat} {w : List Nat} {form : List Int} {st : List Pc} (h : NS k st) (hl : form.length = k + 1) (h0 : ∀ x ∈ form, 0 ≤ x) (hh : form.headD 0 = 0) (hs : 0 < form.tail.sum) : meR (pushP k w form st) ≤ meR st + w.length := by
  cases st with
  | nil => exact me_meet h hl h0 hh hs
  | cons p r =>
    rw [pushP_cons]
    by_cases hf : p.2 = fx k
    · rw [if_pos hf, me_pushW]
      have h1 := me_meet (w := Wm.turn w (w.length - go w p.1 % w.length)) (form := form) (ns_pushW (w := p.1.take (p.1.length - go w p.1)) h.2.2) hl h0 hh hs
      rw [me_pushW, Wm.turn_len, List.length_take] at h1
      rw [meR_cons, List.length_drop]
      have : measP p = p.1.length := by
        have := me_fx k p.1
        rw [← hf] at this
        exact this
      omega
    · rw [if_neg hf]
      exact me_meet h hl h0 hh hs
/-! ### roots -/
theorem least_uniq {p q : Nat} {w : List Nat} (hp : Wm.Least p w) (hq : Wm.Least q w) : p = q := by
  rcases Nat.lt_trichotomy p q with c | c | c
  · exact absurd hp.2.2.1 (hq.2.2.2 p hp.1 c)
  · exact c
  · exact absurd hq.2.2.1 (hp.2.2.2 q hq.1 c)
theorem least_ex {w : List Nat} (hw : w ≠ []) : ∃ p, Wm.Least p w := by
  have hn : 0 < w.length := by
    cases w with
    | nil => exact absurd rfl hw
    | cons a b => simp
  have key : ∀ n, 0 < n → n ≤ w.length → Wm.Per n w → ∃ p, Wm.Least p w := by
    intro n
    induction n using Nat.strongRecOn with
    | ind n ih =>
      intro h0 h1 h2
      by_cases c : ∃ d, 0 < d ∧ d < n ∧ Wm.Per d w
      · obtain ⟨d, d0, dl, hd⟩ := c
        exact ih d dl d0 (by omega) hd
      · exact ⟨n, h0, h1, h2, fun d d0 dl hd => c ⟨d, d0, dl, hd⟩⟩
  exact key w.length hn (Nat.le_refl _) fun i hi => by omega
open Classical in
noncomputable def lp (w : List Nat) : Nat := if h : ∃ p, Wm.Least p w then h.choose else 0
theorem lp_eq {p : Nat} {w : List Nat} (h : Wm.Least p w) : lp w = p := by
  unfold lp
  rw [dif_pos ⟨p, h⟩]
  exact least_uniq (Exists.choose_spec (⟨p, h⟩ : ∃ p, Wm.Least p w)) h
theorem lp_least {w : List Nat} (hw : w ≠ []) : Wm.Least (lp w) w := by
  obtain ⟨p, h⟩ := least_ex hw
  rw [lp_eq h]
  exact h
noncomputable def rootW (w : List Nat) : List Nat := if w.length % lp w = 0 then w.take (lp w) else w
noncomputable def rootN (w : List Nat) : Nat := if w.length % lp w = 0 then w.length / lp w else 1
theorem root_facts {w : List Nat} (hw : w ≠ []) : Wm.Prim (rootW w) ∧ w = Wm.rep (rootN w) (rootW w) ∧ 0 < rootN w ∧ (rootW w).length ≤ w.length := by
  have h := lp_least hw
  unfold rootW rootN
  by_cases c : w.length % lp w = 0
  · rw [if_pos c, if_pos c]
    obtain ⟨h1, h2⟩ := Wm.least_root h (Nat.dvd_of_mod_eq_zero c)
    exact ⟨h1, h2, Nat.div_pos h.2.1 h.1, by rw [List.length_take]; omega⟩
  · rw [if_neg c, if_neg c]
    exact ⟨Wm.least_prim h fun d => c (Nat.mod_eq_zero_of_dvd d), (Wm.rep_one w).symm, by decide, Nat.le_refl _⟩
theorem root_prim {w : List Nat} (h : Wm.Prim w) : rootW w = w ∧ rootN w = 1 := by
  have hl := lp_least h.1
  unfold rootW rootN
  rcases Wm.prim_least h hl with c | c
  · have hn : 0 < w.length := by have := hl.1; omega
    rw [c, Nat.mod_self, if_pos rfl, if_pos rfl, List.take_length, Nat.div_self hn]
    exact ⟨rfl, rfl⟩
  · have : ¬ w.length % lp w = 0 := fun e => c (Nat.dvd_of_mod_eq_zero e)
    rw [if_neg this, if_neg this]
    exact ⟨rfl, rfl⟩
/-! ### the list made normal -/
def powF (f : List Int) (n : Nat) : List Int := (0 :: f.tail).map ((n : Int) * ·)
noncomputable def step (k : Nat) (st : List Pc) (p : Pc) : List Pc :=
  if p.1 = [] then st else pushW k (Wm.rep (p.2.headD 0).toNat p.1) (if openB p.2 = true then pushP k (rootW p.1) (powF p.2 (rootN p.1)) st else st)
noncomputable def normR (k : Nat) (ps : List Pc) : List Pc := ps.foldl (step k) []
def PF (k : Nat) (p : Pc) : Prop := p.2.length = k + 1 ∧ ∀ x ∈ p.2, 0 ≤ x
theorem powF_facts {k : Nat} {f : List Int} {n : Nat} (hn : 0 < n) (hl : f.length = k + 1) (h0 : ∀ x ∈ f, 0 ≤ x) :
    (powF f n).length = k + 1 ∧ (∀ x ∈ powF f n, 0 ≤ x) ∧ (powF f n).headD 0 = 0 ∧ (powF f n).tail.sum = (n : Int) * f.tail.sum ∧ ∀ t, valI (powF f n) t = (n : Int) * (List.zipWith (· * ·) f.tail t).sum := by
  cases f with
  | nil => simp at hl
  | cons a f =>
    have sm : ∀ f : List Int, (f.map ((n : Int) * ·)).sum = (n : Int) * f.sum := by
      intro f
      induction f with
      | nil => simp
      | cons x f ih => rw [List.map_cons, List.sum_cons, ih, List.sum_cons, Int.mul_add]
    have zm : ∀ (f t : List Int), (List.zipWith (· * ·) (f.map ((n : Int) * ·)) t).sum = (n : Int) * (List.zipWith (· * ·) f t).sum := by
      intro f
      induction f with
      | nil => intro t; simp
      | cons x f ih =>
        intro t
        cases t with
        | nil => simp
        | cons y t => rw [List.map_cons, List.zipWith_cons_cons, List.zipWith_cons_cons, List.sum_cons, List.sum_cons, ih, Int.mul_add, Int.mul_assoc]
    refine ⟨by unfold powF; rw [List.length_map]; exact hl, fun x hx => ?_, by unfold powF; rw [List.map_cons]; show (n : Int) * 0 = 0; omega, sm f, fun t => ?_⟩
    · unfold powF at hx
      obtain ⟨y, hy, rfl⟩ := List.mem_map.mp hx
      have : 0 ≤ y := by
        rcases List.mem_cons.mp hy with h | h
        · omega
        · exact h0 y (List.mem_cons_of_mem _ h)
      exact Int.mul_nonneg (by omega) this
    · show (n : Int) * 0 + (List.zipWith (· * ·) (f.map ((n : Int) * ·)) t).sum = _
      rw [zm]
      show (n : Int) * 0 + _ = (n : Int) * (List.zipWith (· * ·) f t).sum
      omega
theorem zero_tail {f t : List Int} (h0 : ∀ x ∈ f, 0 ≤ x) (hs : ¬ 0 < f.sum) : (List.zipWith (· * ·) f t).sum = 0 := by
  have hz : ∀ f : List Int, (∀ x ∈ f, 0 ≤ x) → 0 ≤ f.sum ∧ (f.sum ≤ 0 → ∀ x ∈ f, x = 0) := by
    intro f
    induction f with
    | nil => intro _; exact ⟨by simp, fun _ x hx => by cases hx⟩
    | cons a f ih =>
      intro h
      obtain ⟨i1, i2⟩ := ih fun x q => h x (List.mem_cons_of_mem _ q)
      have ha := h a List.mem_cons_self
      rw [List.sum_cons]
      refine ⟨by omega, fun e x hx => ?_⟩
      rcases List.mem_cons.mp hx with q | q
      · omega
      · exact i2 (by omega) x q
  have hall := (hz f h0).2 (by omega)
  clear h0 hs hz
  induction f generalizing t with
  | nil => simp
  | cons a f ih =>
    cases t with
    | nil => simp
    | cons y t => rw [List.zipWith_cons_cons, List.sum_cons, ih fun x q => hall x (List.mem_cons_of_mem _ q), hall a List.mem_cons_self]; simp
theorem val_split (f t : List Int) : valI f t = f.headD 0 + (List.zipWith (· * ·) f.tail t).sum := rfl
theorem pf_tail {k : Nat} {p : Pc} (h : PF k p) : ∀ x ∈ p.2.tail, 0 ≤ x := fun x hx => h.2 x (List.mem_of_mem_tail hx)
theorem pf_head {k : Nat} {p : Pc} (h : PF k p) : 0 ≤ p.2.headD 0 := by
  cases e : p.2 with
  | nil => exact Int.le_refl _
  | cons a f => exact h.2 a (by rw [e]; exact List.mem_cons_self)
theorem step_ns {k : Nat} {st : List Pc} {p : Pc} (h : NS k st) (hp : PF k p) : NS k (step k st p) := by
  unfold step
  by_cases hw : p.1 = []
  · rw [if_pos hw]; exact h
  · rw [if_neg hw]
    refine ns_pushW ?_
    by_cases ho : openB p.2 = true
    · rw [if_pos ho]
      obtain ⟨r1, r2, r3, r4⟩ := root_facts hw
      obtain ⟨a1, a2, a3, a4, a5⟩ := powF_facts r3 hp.1 hp.2
      exact ns_pushP h r1 a1 a2 a3 (by rw [a4]; exact Int.mul_pos (by omega) (of_decide_eq_true ho))
    · rw [if_neg ho]; exact h
theorem step_wr {k : Nat} {t : List Int} {st : List Pc} {p : Pc} (ht : Nn t) (h : NS k st) (hp : PF k p) : wrR t (step k st p) = wrR t st ++ Wm.rep (valI p.2 t).toNat p.1 := by
  unfold step
  have hh := pf_head hp
  by_cases hw : p.1 = []
  · rw [if_pos hw, hw, Wm.rep_nil, List.append_nil]
  · rw [if_neg hw, wr_pushW]
    by_cases ho : openB p.2 = true
    · rw [if_pos ho]
      obtain ⟨r1, r2, r3, r4⟩ := root_facts hw
      obtain ⟨a1, a2, a3, a4, a5⟩ := powF_facts r3 hp.1 hp.2
      have hz := zw_nonneg (t := t) (pf_tail hp) ht
      rw [wr_pushP ht h r1.1 a1 a2, a5, val_split, List.append_assoc]
      congr 1
      generalize hZ : (List.zipWith (· * ·) p.2.tail t).sum = Z at hz
      obtain ⟨z, rfl⟩ := Int.eq_ofNat_of_zero_le hz
      have e1 : ((rootN p.1 : Int) * (z : Int)).toNat = z * rootN p.1 := by rw [← Int.natCast_mul, Int.toNat_natCast, Nat.mul_comm]
      rw [e1, Wm.rep_mul, ← r2, ← Wm.rep_add]
      congr 1
      omega
    · rw [if_neg ho]
      have hs : ¬ 0 < p.2.tail.sum := fun e => ho (decide_eq_true e)
      rw [val_split, zero_tail (pf_tail hp) hs, Int.add_zero]
theorem step_me {k : Nat} {st : List Pc} {p : Pc} (h : NS k st) (hp : PF k p) : meR (step k st p) ≤ meR st + measP p := by
  unfold step
  have hh := pf_head hp
  have hm : measP p = (p.1.length : Int) * (p.2.headD 0 + (if openB p.2 = true then 1 else 0)) := rfl
  by_cases hw : p.1 = []
  · rw [if_pos hw, hm, hw]; show _ ≤ _ + (0 : Int) * _; rw [Int.zero_mul]; omega
  · rw [if_neg hw, me_pushW, Wm.rep_len]
    have e1 : (((p.2.headD 0).toNat * p.1.length : Nat) : Int) = (p.1.length : Int) * p.2.headD 0 := by
      rw [Int.natCast_mul, Int.toNat_of_nonneg hh, Int.mul_comm]
    rw [e1]
    by_cases ho : openB p.2 = true
    · rw [if_pos ho]
      obtain ⟨r1, r2, r3, r4⟩ := root_facts hw
      obtain ⟨a1, a2, a3, a4, a5⟩ := powF_facts r3 hp.1 hp.2
      have := me_pushP (w := rootW p.1) (form := powF p.2 (rootN p.1)) h a1 a2 a3 (by rw [a4]; exact Int.mul_pos (by omega) (of_decide_eq_true ho))
      rw [hm, if_pos ho, Int.mul_add]
      omega
    · rw [if_neg ho, hm, if_neg ho, Int.add_zero]
      omega
theorem fold_all {k : Nat} : ∀ (ps : List Pc) (st : List Pc), NS k st → (∀ p ∈ ps, PF k p) → NS k (ps.foldl (step k) st) ∧ meR (ps.foldl (step k) st) ≤ meR st + measI ps ∧
    ∀ t, Nn t → wrR t (ps.foldl (step k) st) = wrR t st ++ (ps.map fun p => Wm.rep (valI p.2 t).toNat p.1).flatten
  | [], st, h, _ => ⟨h, by show meR st ≤ meR st + 0; omega, fun t _ => by simp⟩
  | p :: ps, st, h, hp => by
    have h1 := hp p List.mem_cons_self
    obtain ⟨i1, i2, i3⟩ := fold_all ps (step k st p) (step_ns h h1) fun q hq => hp q (List.mem_cons_of_mem _ hq)
    have h2 := step_me h h1
    refine ⟨i1, ?_, fun t ht => ?_⟩
    · have e : measI (p :: ps) = measP p + measI ps := by unfold measI; rw [List.map_cons, List.sum_cons]
      rw [e, List.foldl_cons]
      omega
    · rw [List.foldl_cons, i3 t ht, step_wr ht h h1, List.map_cons, List.flatten_cons, List.append_assoc]
/-! ### a normal list goes through unchanged -/
theorem go_zero {w text : List Nat} (ht : text ≠ []) (hw : w ≠ []) (h : text.getLast? ≠ w.getLast?) : go w text = 0 := by
  have hn : 0 < text.length := by
    cases text with
    | nil => exact absurd rfl ht
    | cons a b => simp
  unfold go
  obtain ⟨n, e⟩ : ∃ n, text.length = n + 1 := ⟨text.length - 1, by omega⟩
  rw [e]
  show (if _ then _ else _) = 0
  rw [if_neg]
  rintro ⟨_, c⟩
  rw [Nat.zero_mod, Nat.sub_zero, Nat.sub_zero] at c
  rw [List.getLast?_eq_getElem?, List.getLast?_eq_getElem?] at h
  exact h c
theorem step_same {k : Nat} {st : List Pc} {p : Pc} (h : NS k (p :: st)) : step k st p = p :: st := by
  obtain ⟨h1, h2, h3⟩ := h
  unfold step
  rw [if_neg h1.1]
  rcases h1.2.2.2 with hf | ⟨hp, hh, hs⟩
  · rw [hf, open_fx, if_neg Bool.false_ne_true, head_fx]
    show pushW k (Wm.rep 1 p.1) st = _
    rw [Wm.rep_one]
    have ep : p = (p.1, fx k) := Prod.ext rfl hf
    cases st with
    | nil => rw [pushW_nil, if_neg h1.1, ← ep]
    | cons q r =>
      have hq : q.2 ≠ fx k := fun e => (h2 q rfl).1 ⟨e, hf⟩
      rw [pushW_cons, if_neg h1.1, if_neg hq, ← ep]
  · obtain ⟨e1, e2⟩ := root_prim hp
    have ef : powF p.2 1 = p.2 := by
      cases e : p.2 with
      | nil => rw [e] at hs; simp at hs
      | cons a f =>
        have ha : a = 0 := by rw [e] at hh; exact hh
        unfold powF
        rw [ha]
        have : ∀ l : List Int, l.map (((1 : Nat) : Int) * ·) = l := fun l => by
          induction l with
          | nil => rfl
          | cons x l ih => rw [List.map_cons, ih]; congr 1; omega
        exact this _
    have em : ∀ q r, st = q :: r → q.2 ≠ fx k → meet k p.1 p.2 st = p :: st := fun q r e hq => by
      subst e
      rw [meet_cons, if_neg]
      rintro ⟨_, c⟩
      exact (h2 q rfl).2.1 hq (ne_fx hh) c
    rw [if_pos (show openB p.2 = true from decide_eq_true hs), hh]
    show pushW k [] _ = _
    have ew : ∀ l : List Pc, pushW k [] l = l := fun l => by cases l <;> rfl
    rw [ew, e1, e2, ef]
    cases st with
    | nil => rfl
    | cons q r =>
      rw [pushP_cons]
      by_cases hf : q.2 = fx k
      · rw [if_pos hf]
        have hl := (h2 q rfl).2.2 hf
        have hq1 := h3.1.1
        rw [go_zero hq1 hp.1 hl, Nat.sub_zero, List.drop_length, List.take_length, ew, Nat.zero_mod, Nat.sub_zero]
        have et : Wm.turn p.1 p.1.length = p.1 := by unfold Wm.turn; rw [List.drop_length, List.take_length]; rfl
        have eq' : q = (q.1, fx k) := Prod.ext rfl hf
        have ep : pushW k q.1 r = q :: r := by
          cases r with
          | nil => rw [pushW_nil, if_neg hq1, ← eq']
          | cons a b =>
            have ha : a.2 ≠ fx k := fun e => (h3.2.1 a rfl).1 ⟨e, hf⟩
            rw [pushW_cons, if_neg hq1, if_neg ha, ← eq']
        rw [et, ep, meet_cons, if_neg fun c => c.1 hf]
      · rw [if_neg hf]
        exact em q r rfl hf
theorem fold_same {k : Nat} : ∀ (l : List Pc), NS k l → normR k l.reverse = l
  | [], _ => rfl
  | p :: l, h => by
    unfold normR
    rw [List.reverse_cons, List.foldl_append]
    have := fold_same l h.2.2
    unfold normR at this
    rw [this]
    exact step_same h
theorem norm_ns {k : Nat} {ps : List Pc} (h : ∀ p ∈ ps, PF k p) : NS k (normR k ps) := (fold_all ps [] trivial h).1
/-- normal just if it goes through unchanged -/
theorem norm_iff {k : Nat} {ps : List Pc} (h : ∀ p ∈ ps, PF k p) : (normR k ps).reverse = ps ↔ NS k ps.reverse := by
  constructor
  · intro e
    have := norm_ns h
    rw [← e, List.reverse_reverse]
    exact this
  · intro hn
    have := fold_same _ hn
    rw [List.reverse_reverse] at this
    rw [this, List.reverse_reverse]
end L12

namespace L12
open PySem PySem.Spec PyProof.Rows L2 Cr
abbrev nI (bs : List Nat) : List D := bs.map fun (b : Nat) => D.int b
def T_check_full_word : Tr := fun ss m Q => ∃ (w : List Nat) (n : Nat), ss = [.val (dS w), .val (.int n)] ∧ w ≠ [] ∧ Wd n w ∧ n ≤ 100000 ∧ Q (.val .non) m
def T_borders : Tr := fun ss m Q => ∃ w : List Nat, ss = [.val (dS w)] ∧ w ≠ [] ∧ w.length ≤ 20000 ∧ ∀ bs : List Nat, bs.length = w.length → (∀ j b, bs[j]? = some b → Wm.IsB w (j + 1) b) → Q (.val (.lst (nI bs))) m
def T_period_of : Tr := fun ss m Q => ∃ w : List Nat, ss = [.val (dS w)] ∧ w ≠ [] ∧ w.length ≤ 20000 ∧ Q (.val (.int (lp w))) m
def T_root : Tr := fun ss m Q => ∃ w : List Nat, ss = [.val (dS w)] ∧ w ≠ [] ∧ Wd 20000 w ∧ Q (.val (.tup [dS (rootW w), .int (rootN w)])) m
def T_going_back : Tr := fun ss m Q => ∃ w t : List Nat, ss = [.val (dS w), .val (dS t)] ∧ w ≠ [] ∧ w.length ≤ 100000 ∧ t.length ≤ 100000 ∧ Q (.val (.int (go w t))) m
def T_turned_back : Tr := fun ss m Q => ∃ (w : List Nat) (b : Nat), ss = [.val (dS w), .val (.int b)] ∧ w ≠ [] ∧ w.length ≤ 100000 ∧ Q (.val (dS (Wm.turn w (w.length - b % w.length)))) m
abbrev stk (st : List Pc) : List D := st.reverse.map pD
def OkS (st : List Pc) (n : Nat) : Prop := st.length < 100000 ∧ ∀ q ∈ st, (∀ c ∈ q.1, c ∈ abc) ∧ q.1.length + n ≤ 100000
def T_push_word : Tr := fun ss m Q => ∃ (p : Addr) (k : Nat) (w : List Nat) (st : List Pc), ss = [.adr p, .val (dS w), .val (tI (fx k))] ∧ m p = some (stk st) ∧ OkS st w.length ∧ Q (.val .non) (stS m p (stk (pushW k w st)))
def tot (st : List Pc) : Nat := (st.map fun q => q.1.length).sum
/-- a stack of which all is reckoned: letters, forms of one length, not too long with n letters more -/
def OkT (k : Nat) (st : List Pc) (n : Nat) : Prop := st.length + 3 < 100000 ∧ (∀ q ∈ st, (∀ c ∈ q.1, c ∈ abc) ∧ q.2.length = k + 1) ∧ tot st + n ≤ 100000
def T_push_power : Tr := fun ss m Q => ∃ (p : Addr) (k : Nat) (w : List Nat) (form : List Int) (st : List Pc), ss = [.adr p, .val (dS w), .val (tI form), .val (tI (fx k))] ∧ m p = some (stk st) ∧ w ≠ [] ∧ (∀ c ∈ w, c ∈ abc) ∧ k ≤ 3 ∧ form.length = k + 1 ∧ OkT k st w.length ∧
  Q (.val .non) (stS m p (stk (pushP k w form st)))
def T_normal_pieces : Tr := fun ss m Q => ∃ (k : Nat) (ps : List Pc), ss = [.val (.int k), .val (psD ps)] ∧ k ≤ 3 ∧ ps.length ≤ 5000 ∧ (∀ p ∈ ps, Good k p) ∧ measI ps ≤ 20000 ∧ Q (.val (.tup (stk (normR k ps)))) m
def T_normal : Tr := fun ss m Q => ∃ (k : Nat) (ps : List Pc), ss = [.val (.int k), .val (psD ps)] ∧ k ≤ 3 ∧ ps.length ≤ 5000 ∧ (∀ p ∈ ps, Good k p) ∧ measI ps ≤ 2000 ∧ ∀ p, m p = none → Q (.adr p) (stS m p (stk (normR k ps)))
abbrev T_law_plain : Tr := T_plain
abbrev T_law_measure : Tr := T_measure
def T_law_yes : Tr := fun ss m Q => ∃ b : Bool, ss = [.val (.bl b), .val (.bl b)] ∧ Q (.val (.bl true)) m
/-- what the pieces write at a point -/
def wrI (ps : List Pc) (t : List Int) : List Nat := (ps.map fun p => Wm.rep (valI p.2 t).toNat p.1).flatten
def T_law_write : Tr := fun ss m Q => ∃ (k : Nat) (ps : List Pc) (t : List Int), ss = [.val (psD ps), .val (lI t)] ∧ k ≤ 3 ∧ ps.length ≤ 5000 ∧ (∀ p ∈ ps, Good k p) ∧ bSz t ∧ (∀ x ∈ t, 0 ≤ x) ∧ (∀ p ∈ ps, p.1 ≠ [] → valI p.2 t ≤ 1000000 ∧ p.1.length * (valI p.2 t).toNat ≤ 100000) ∧ (wrI ps t).length ≤ 1000000 ∧ Q (.val (dS (wrI ps t))) m
noncomputable def primB (w : List Nat) : Bool := @decide (Wm.Prim w) (Classical.propDecidable _)
noncomputable def nsB (k : Nat) (ps : List Pc) : Bool := @decide (NS k ps.reverse) (Classical.propDecidable _)
def T_law_primitive : Tr := fun ss m Q => ∃ w : List Nat, ss = [.val (dS w)] ∧ w.length ≤ 20000 ∧ Q (.val (.bl (primB w))) m
def T_law_is_normal : Tr := fun ss m Q => ∃ (k : Nat) (ps : List Pc), ss = [.val (.int k), .val (psD ps)] ∧ k ≤ 3 ∧ ps.length ≤ 5000 ∧ (∀ p ∈ ps, Good k p) ∧ Q (.val (.bl (nsB k ps))) m
def T_law_are_pieces : Tr := fun ss m Q => ∃ (k : Nat) (ps : List Pc), ss = [.val (.int k), .val (psD ps)] ∧ k ≤ 3 ∧ ps.length ≤ 5000 ∧ (∀ p ∈ ps, Good k p) ∧ Q (.val (.bl true)) m
/-- values, and whether each is a normal list -/
inductive IsN (k : Nat) : D → Bool → Prop
  | tup (ds : List D) : IsN k (.tup ds) false
  | bad {ds : List D} : ds.length ≤ 5000 → (∀ d ∈ ds, PcOk d ∧ Plain d) → (∃ d ∈ ds, pieceD k d = false) → IsN k (.lst ds) false
  | big {ps : List Pc} : ps.length ≤ 5000 → (∀ p ∈ ps, Good k p) → 2000 < measI ps → IsN k (psD ps) false
  | ok {ps : List Pc} : ps.length ≤ 5000 → (∀ p ∈ ps, Good k p) → measI ps ≤ 2000 → IsN k (psD ps) (nsB k ps)
def T_is_normal : Tr := fun ss m Q => ∃ (k : Nat) (v : D) (b : Bool), ss = [.val (.int k), .val v] ∧ k ≤ 3 ∧ IsN k v b ∧ Q (.val (.bl b)) m
/-- a small piece -/
def SmP (k : Nat) (p : Pc) : Prop := p.1.length ≤ 24 ∧ (∀ c ∈ p.1, c ∈ abc) ∧ Row (k + 1) 3 p.2
def T_law_piece : Tr := fun ss m Q => ∃ (g : Addr) (k n : Nat) (sgn base : List Nat) (B : Int), ss = [.adr g, .val (.int k), .val (dS sgn), .val (dS base), .val (.int B)] ∧ k ≤ 3 ∧ sgn.length = 3 ∧ (∀ c ∈ sgn, c ∈ abc) ∧ base ≠ [] ∧ base.length ≤ 3 ∧ (∀ c ∈ base, c ∈ abc) ∧ 1 ≤ B ∧ B ≤ 3 ∧ GenI m g (n + 20) ∧
  ∀ (p : Pc) (m' : Sto), SmP k p → GenI m' g n → Fr m m' g → Q (.val (pD p)) m'
def T_law_raw : Tr := fun ss m Q => ∃ (g : Addr) (k n c : Nat) (sgn : List Nat) (B : Int), ss = [.adr g, .val (.int k), .val (dS sgn), .val (.int c), .val (.int B)] ∧ k ≤ 3 ∧ sgn.length = 3 ∧ (∀ c ∈ sgn, c ∈ abc) ∧ c ≤ 7 ∧ 1 ≤ B ∧ B ≤ 3 ∧ GenI m g (n + 400) ∧
  ∀ (ps : List Pc) (m' : Sto), ps.length = c → (∀ p ∈ ps, SmP k p) → GenI m' g n → Fr m m' g → Q (.val (psD ps)) m'
def T_law_right : Tr := fun ss m Q => ∃ (g : Addr), ss = [.adr g] ∧ GenI m g 1000000 ∧ ∀ m', Q (.val (.bl true)) m'
def T_law : Tr := LawT 63
end L12

namespace L12
open PySem PySem.Spec PyProof.Rows L2 Cr
abbrev N_law_cell : List Str := ["script", "index"]
abbrev P_law_cell : List Str := ["script", "index"]
def t_law_cell (K : PySem.W.Frag) : TS := (tSeq (tIfS (tTest (tOp (rD2 K RLt) (tVar 1) (tCB (rDN K RLen) (tCons (tVar 0) tNil)))) (tRet (tOp (rD2 K RIx) (tVar 0) (tVar 1))) tNext) (tRet (tOp (rD2 K RMod) (tCB (rDN K RSum) (tCons (tSl (rSlD K) (tVar 0) tNoPart (tPart (tC (.int 1)))) tNil)) (tC (.int 1000003)))))
abbrev N_law_generator : List Str := ["script", "index", "seed"]
abbrev P_law_generator : List Str := ["script", "index"]
def t_law_generator (K : PySem.W.Frag) : TS := (tSeq (tAsg (tCall (SpD K T_law_cell) [] E0 (tCons (tVar 0) (tCons (tVar 1) tNil))) (gName 2)) (tRet (tLst (tCons (tOp (rD2 K RMod) (tCB (rDN K RInt) (tCons (tCB (rDN K RMax) (tCons (tOp (rD2 K RSub) (tVar 2) (tOp (rD2 K RPow) (tC (.int 10)) (tC (.int 18)))) (tCons (tC (.int 0)) tNil))) tNil)) (tOp (rD2 K RPow) (tOp (rD2 K RPow) (tC (.int 10)) (tC (.int 60))) (tC (.int 10)))) (tCons (tOp (rD2 K RMod) (tCB (rDN K RInt) (tCons (tVar 2) tNil)) (tC (.int 2147483647))) (tCons (tOp (rD2 K RMul) (tC (.int 1000)) (tVar 1)) tNil))))))
abbrev N_law_hash : List Str := ["seed", "index", "mixed"]
abbrev P_law_hash : List Str := ["seed", "index"]
def t_law_hash (K : PySem.W.Frag) : TS := (tSeq (tAsg (tOp (rD2 K RMod) (tCB (rDN K RInt) (tCons (tOp (rD2 K RAdd) (tOp (rD2 K RAdd) (tOp (rD2 K RAdd) (tOp (rD2 K RMul) (tVar 0) (tC (.int 1140671))) (tOp (rD2 K RMul) (tOp (rD2 K RMul) (tC (.int 27644437)) (tVar 1)) (tVar 1))) (tOp (rD2 K RMul) (tC (.int 131)) (tVar 1))) (tC (.int 19))) tNil)) (tC (.int 2147483629))) (gName 2)) (tSeq (tAsg (tOp (rD2 K RMod) (tCB (rDN K RInt) (tCons (tOp (rD2 K RAdd) (tOp (rD2 K RAdd) (tOp (rD2 K RMul) (tVar 2) (tVar 2)) (tOp (rD2 K RMul) (tC (.int 62089)) (tVar 1))) (tC (.int 32416187))) tNil)) (tC (.int 2147483587))) (gName 2)) (tRet (tOp (rD2 K RMod) (tCB (rDN K RInt) (tCons (tOp (rD2 K RMul) (tVar 2) (tC (.int 48271))) tNil)) (tC (.int 2147483647))))))
abbrev N_law_random : List Str := ["generator", "bound", "drawn", "turn"]
abbrev P_law_random : List Str := ["generator", "bound"]
def t_law_random (K : PySem.W.Frag) : TS := (tSeq (tIfS (tTest (tOp (rD2 K RGt) (tOp (rD2 K RIx) (tVar 0) (tC (.int 0))) (tC (.int 0)))) (tSeq (tAsg (tOp (rD2 K RMod) (tCB (rDN K RInt) (tCons (tOp (rD2 K RIx) (tVar 0) (tC (.int 0))) tNil)) (tVar 1)) (gName 2)) (tSeq (tAsg (tOp (rD2 K RFdiv) (tOp (rD2 K RIx) (tVar 0) (tC (.int 0))) (tVar 1)) (gSub (tVar 0) (tC (.int 0)) rSetL)) (tRet (tVar 2)))) tNext) (tSeq (tAsg (tC (.int 0)) (gName 2)) (tSeq (tFor (iRng1 (tCons (tOp (rD2 K RAdd) (tC (.int 1)) (tOp (rD2 K RFdiv) (tBits (tVar 1)) (tC (.int 30)))) tNil)) (gName 3) (tSeq (tAsg (tOp (rD2 K RAdd) (tOp (rD2 K RIx) (tVar 0) (tC (.int 2))) (tC (.int 1))) (gSub (tVar 0) (tC (.int 2)) rSetL)) (tAsg (tOp (rD2 K RAdd) (tOp (rD2 K RMul) (tVar 2) (tC (.int 2147483587))) (tCall (SpD K T_law_hash) [] E0 (tCons (tOp (rD2 K RIx) (tVar 0) (tC (.int 1))) (tCons (tOp (rD2 K RIx) (tVar 0) (tC (.int 2))) tNil)))) (gName 2)))) (tRet (tOp (rD2 K RMod) (tCB (rDN K RInt) (tCons (tVar 2) tNil)) (tVar 1))))))
abbrev N_law_letters : List Str := ["generator", "left", "turn"]
abbrev P_law_letters : List Str := ["generator"]
def t_law_letters (K : PySem.W.Frag) : TS := (tSeq (tAsg (tCB (rDN K RLst) (tCons (tC (.str ("abcdefghijklmnopqrstuvwxyz" : Str))) tNil)) (gName 1)) (tRet (tM1 (rJoin K) (tC (.str ("" : Str))) (tLc (iRng1 (tCons (tC (.int 3)) tNil)) (gName 2) tYes (tBM K "list" rPopAt (tVar 1) (tCons (tCall (SpD K T_law_random) [] E0 (tCons (tVar 0) (tCons (tCB (rDN K RLen) (tCons (tVar 1) tNil)) tNil))) tNil)) [2]))))
abbrev N_law_word : List Str := ["generator", "signs", "least", "most", "many", "turn"]
abbrev P_law_word : List Str := ["generator", "signs", "least", "most"]
def t_law_word (K : PySem.W.Frag) : TS := (tSeq (tAsg (tOp (rD2 K RAdd) (tVar 2) (tCall (SpD K T_law_random) [] E0 (tCons (tVar 0) (tCons (tOp (rD2 K RAdd) (tOp (rD2 K RSub) (tVar 3) (tVar 2)) (tC (.int 1))) tNil)))) (gName 4)) (tRet (tM1 (rJoin K) (tC (.str ("" : Str))) (tLc (iRng1 (tCons (tVar 4) tNil)) (gName 5) tYes (tOp (rD2 K RIx) (tVar 1) (tCall (SpD K T_law_random) [] E0 (tCons (tVar 0) (tCons (tCB (rDN K RLen) (tCons (tVar 1) tNil)) tNil)))) [5]))))
abbrev N_law_plain : List Str := ["many", "number"]
abbrev P_law_plain : List Str := ["many", "number"]
def t_law_plain (K : PySem.W.Frag) : TS := (tRet (tOp (rD2 K RAdd) (tTup (tCons (tVar 1) tNil)) (tOp (rD2 K RMul) (tTup (tCons (tC (.int 0)) tNil)) (tVar 0))))
abbrev N_law_form : List Str := ["generator", "many", "most", "turn"]
abbrev P_law_form : List Str := ["generator", "many", "most"]
def t_law_form (K : PySem.W.Frag) : TS := (tRet (tCB (rDN K RTup) (tCons (tLc (iRng1 (tCons (tOp (rD2 K RAdd) (tVar 1) (tC (.int 1))) tNil)) (gName 3) tYes (tCall (SpD K T_law_random) [] E0 (tCons (tVar 0) (tCons (tOp (rD2 K RAdd) (tVar 2) (tC (.int 1))) tNil))) [3]) tNil)))
abbrev N_law_piece : List Str := ["generator", "many", "signs", "base", "most", "way", "turn", "turned"]
abbrev P_law_piece : List Str := ["generator", "many", "signs", "base", "most"]
def t_law_piece (K : PySem.W.Frag) : TS := (tSeq (tPar 5 6 (tCons (tCall (SpD K T_law_random) [] E0 (tCons (tVar 0) (tCons (tC (.int 8)) tNil))) (tCons (tCall (SpD K T_law_random) [] E0 (tCons (tVar 0) (tCons (tC (.int 4)) tNil))) tNil))) (tSeq (tAsg (tSl (rSlD K) (tOp (rD2 K RAdd) (tVar 3) (tVar 3)) (tPart (tOp (rD2 K RMod) (tCB (rDN K RInt) (tCons (tVar 6) tNil)) (tCB (rDN K RLen) (tCons (tVar 3) tNil)))) (tPart (tOp (rD2 K RAdd) (tOp (rD2 K RMod) (tCB (rDN K RInt) (tCons (tVar 6) tNil)) (tCB (rDN K RLen) (tCons (tVar 3) tNil))) (tCB (rDN K RLen) (tCons (tVar 3) tNil))))) (gName 7)) (tSeq (tIfS (tTest (tOp (rD2 K REqR) (tVar 5) (tC (.int 0)))) (tRet (tTup (tCons (tCall (SpD K T_law_word) [] E0 (tCons (tVar 0) (tCons (tVar 2) (tCons (tC (.int 0)) (tCons (tC (.int 4)) tNil))))) (tCons (tCall (SpD K T_law_plain) [] E0 (tCons (tVar 1) (tCons (tCall (SpD K T_law_random) [] E0 (tCons (tVar 0) (tCons (tC (.int 3)) tNil))) tNil))) tNil)))) tNext) (tSeq (tIfS (tTest (tOp (rD2 K REqR) (tVar 5) (tC (.int 1)))) (tRet (tTup (tCons (tOp (rD2 K RMul) (tVar 7) (tOp (rD2 K RAdd) (tC (.int 1)) (tCB (rDN K RInt) (tCons (tOp (rD2 K REqR) (tVar 6) (tC (.int 3))) tNil)))) (tCons (tCall (SpD K T_law_form) [] E0 (tCons (tVar 0) (tCons (tVar 1) (tCons (tVar 4) tNil)))) tNil)))) tNext) (tSeq (tIfS (tTest (tOp (rD2 K REqR) (tVar 5) (tC (.int 2)))) (tRet (tTup (tCons (tSl (rSlD K) (tOp (rD2 K RMul) (tVar 7) (tC (.int 4))) tNoPart (tPart (tCall (SpD K T_law_random) [] E0 (tCons (tVar 0) (tCons (tOp (rD2 K RAdd) (tOp (rD2 K RMul) (tC (.int 2)) (tCB (rDN K RLen) (tCons (tVar 3) tNil))) (tC (.int 2))) tNil))))) (tCons (tCall (SpD K T_law_plain) [] E0 (tCons (tVar 1) (tCons (tC (.int 1)) tNil))) tNil)))) tNext) (tSeq (tIfS (tTest (tOp (rD2 K REqR) (tVar 5) (tC (.int 3)))) (tRet (tTup (tCons (tSl (rSlD K) (tVar 3) (tPart (tOp (rD2 K RSub) (tCB (rDN K RLen) (tCons (tVar 3) tNil)) (tC (.int 1)))) tNoPart) (tCons (tCall (SpD K T_law_plain) [] E0 (tCons (tVar 1) (tCons (tC (.int 1)) tNil))) tNil)))) tNext) (tSeq (tIfS (tTest (tOp (rD2 K REqR) (tVar 5) (tC (.int 4)))) (tRet (tTup (tCons (tVar 3) (tCons (tOp (rD2 K RAdd) (tTup (tCons (tC (.int 0)) tNil)) (tSl (rSlD K) (tCall (SpD K T_law_form) [] E0 (tCons (tVar 0) (tCons (tVar 1) (tCons (tVar 4) tNil)))) (tPart (tC (.int 1))) tNoPart)) tNil)))) tNext) (tSeq (tIfS (tTest (tOp (rD2 K REqR) (tVar 5) (tC (.int 5)))) (tRet (tTup (tCons (tOp (rD2 K RIx) (tVar 2) (tCall (SpD K T_law_random) [] E0 (tCons (tVar 0) (tCons (tC (.int 2)) tNil)))) (tCons (tCall (SpD K T_law_form) [] E0 (tCons (tVar 0) (tCons (tVar 1) (tCons (tVar 4) tNil)))) tNil)))) tNext) (tRet (tTup (tCons (tCall (SpD K T_law_word) [] E0 (tCons (tVar 0) (tCons (tSl (rSlD K) (tVar 2) tNoPart (tPart (tC (.int 2)))) (tCons (tC (.int 1)) (tCons (tC (.int 3)) tNil))))) (tCons (tCall (SpD K T_law_form) [] E0 (tCons (tVar 0) (tCons (tVar 1) (tCons (tVar 4) tNil)))) tNil))))))))))))
abbrev N_law_raw : List Str := ["generator", "many", "signs", "count", "most", "found", "base", "turn"]
abbrev P_law_raw : List Str := ["generator", "many", "signs", "count", "most"]
def t_law_raw (K : PySem.W.Frag) : TS := (tSeq (tPar 5 6 (tCons (tLst tNil) (tCons (tCall (SpD K T_law_word) [] E0 (tCons (tVar 0) (tCons (tSl (rSlD K) (tVar 2) tNoPart (tPart (tOp (rD2 K RAdd) (tC (.int 2)) (tCall (SpD K T_law_random) [] E0 (tCons (tVar 0) (tCons (tC (.int 2)) tNil)))))) (tCons (tC (.int 1)) (tCons (tC (.int 3)) tNil))))) tNil))) (tSeq (tFor (iRng1 (tCons (tVar 3) tNil)) (gName 7) (tSeq (tDrop (tBM K "list" rAppend (tVar 5) (tCons (tCall (SpD K T_law_piece) [] E0 (tCons (tVar 0) (tCons (tVar 1) (tCons (tVar 2) (tCons (tVar 6) (tCons (tVar 4) tNil)))))) tNil))) (tIfS (tTest (tOp (rD2 K REqR) (tCall (SpD K T_law_random) [] E0 (tCons (tVar 0) (tCons (tC (.int 5)) tNil))) (tC (.int 0)))) (tAsg (tCall (SpD K T_law_word) [] E0 (tCons (tVar 0) (tCons (tVar 2) (tCons (tC (.int 1)) (tCons (tC (.int 3)) tNil))))) (gName 6)) tNext))) (tRet (tVar 5))))
abbrev N_is_whole : List Str := ["value"]
abbrev P_is_whole : List Str := ["value"]
def t_is_whole (K : PySem.W.Frag) : TS := (tRet (tAndV (tCB (rDN K RIsi) (tCons (tVar 0) (tCons (tC (.ty "int")) tNil))) (tNotV (tCB (rDN K RIsi) (tCons (tVar 0) (tCons (tC (.ty "bool")) tNil))))))
abbrev N_is_between : List Str := ["value", "low", "high"]
abbrev P_is_between : List Str := ["value", "low", "high"]
def t_is_between (K : PySem.W.Frag) : TS := (tRet (tAndV (tCall (SpD K T_is_whole) [] E0 (tCons (tVar 0) tNil)) (tAndV (tOp (rD2 K RLe) (tVar 1) (tVar 0)) (tOrV (tOp (rD2 K RIsR) (tVar 2) (tC .non)) (tOp (rD2 K RLe) (tVar 0) (tVar 2))))))
abbrev N_check_number : List Str := ["number", "low", "high"]
abbrev P_check_number : List Str := ["number", "low", "high"]
def t_check_number (K : PySem.W.Frag) : TS := (tIfS (tNot (tB (tCall (SpD K T_is_between) [] E0 (tCons (tVar 0) (tCons (tVar 1) (tCons (tVar 2) tNil)))))) tNever tNext)
abbrev N_check_many : List Str := ["many"]
abbrev P_check_many : List Str := ["many"]
def t_check_many (K : PySem.W.Frag) : TS := (tDrop (tCall (SpD K T_check_number) [] E0 (tCons (tVar 0) (tCons (tC (.int 0)) (tCons (tC (.int 3)) tNil)))))
abbrev N_is_letters : List Str := ["value", "most"]
abbrev P_is_letters : List Str := ["value", "most"]
def t_is_letters (K : PySem.W.Frag) : TS := (tRet (tAndV (tCB (rDN K RIsi) (tCons (tVar 0) (tCons (tC (.ty "str")) tNil))) (tAndV (tOp (rD2 K RLe) (tCB (rDN K RLen) (tCons (tVar 0) tNil)) (tVar 1)) (tOp (rD2 K REqR) (tBM K "str" rStrip (tVar 0) (tCons (tC (.str ("abcdefghijklmnopqrstuvwxyz" : Str))) tNil)) (tC (.str ("" : Str)))))))
abbrev N_are_counts : List Str := ["items", "item"]
abbrev P_are_counts : List Str := ["items"]
def t_are_counts (K : PySem.W.Frag) : TS := (tRet (tOp (rD2 K REqR) (tLc (iD K (tVar 0)) (gName 1) (tNot (tB (tCall (SpD K T_is_between) [] E0 (tCons (tVar 1) (tCons (tC (.int 0)) (tCons (tC .non) tNil)))))) (tVar 1) [1]) (tLst tNil)))
abbrev N_is_form_for : List Str := ["many", "value"]
abbrev P_is_form_for : List Str := ["many", "value"]
def t_is_form_for (K : PySem.W.Frag) : TS := (tRet (tAndV (tCB (rDN K RIsi) (tCons (tVar 1) (tCons (tC (.ty "tuple")) tNil))) (tAndV (tOp (rD2 K REqR) (tCB (rDN K RLen) (tCons (tVar 1) tNil)) (tOp (rD2 K RAdd) (tVar 0) (tC (.int 1)))) (tCall (SpD K T_are_counts) [] E0 (tCons (tVar 1) tNil)))))
abbrev N_is_piece : List Str := ["many", "value"]
abbrev P_is_piece : List Str := ["many", "value"]
def t_is_piece (K : PySem.W.Frag) : TS := (tSeq (tIfS (tOr (tNot (tB (tCB (rDN K RIsi) (tCons (tVar 1) (tCons (tC (.ty "tuple")) tNil))))) (tTest (tOp (rD2 K RNeR) (tCB (rDN K RLen) (tCons (tVar 1) tNil)) (tC (.int 2))))) (tRet (tC (.bl false))) tNext) (tRet (tAndV (tCall (SpD K T_is_letters) [] E0 (tCons (tOp (rD2 K RIx) (tVar 1) (tC (.int 0))) (tCons (tC (.int 2000)) tNil))) (tCall (SpD K T_is_form_for) [] E0 (tCons (tVar 0) (tCons (tOp (rD2 K RIx) (tVar 1) (tC (.int 1))) tNil))))))
abbrev N_is_open_form : List Str := ["form"]
abbrev P_is_open_form : List Str := ["form"]
def t_is_open_form (K : PySem.W.Frag) : TS := (tRet (tOp (rD2 K RGt) (tCB (rDN K RSum) (tCons (tSl (rSlD K) (tVar 0) (tPart (tC (.int 1))) tNoPart) tNil)) (tC (.int 0))))
abbrev N_measure : List Str := ["pieces", "word", "form"]
abbrev P_measure : List Str := ["pieces"]
def t_measure (K : PySem.W.Frag) : TS := (tRet (tCB (rDN K RSum) (tCons (tLc (iD K (tVar 0)) (gTup K 2 (gCons (gName 1) (gCons (gName 2) gNil))) tYes (tOp (rD2 K RMul) (tCB (rDN K RLen) (tCons (tVar 1) tNil)) (tOp (rD2 K RAdd) (tOp (rD2 K RIx) (tVar 2) (tC (.int 0))) (tCB (rDN K RInt) (tCons (tCall (SpD K T_is_open_form) [] E0 (tCons (tVar 2) tNil)) tNil)))) [1, 2]) tNil)))
abbrev N_check_pieces : List Str := ["many", "pieces", "item"]
abbrev P_check_pieces : List Str := ["many", "pieces"]
def t_check_pieces (K : PySem.W.Frag) : TS := (tSeq (tDrop (tCall (SpD K T_check_many) [] E0 (tCons (tVar 0) tNil))) (tSeq (tIfS (tOr (tNot (tB (tCB (rDN K RIsi) (tCons (tVar 1) (tCons (tC (.ty "list")) tNil))))) (tTest (tOp (rD2 K RGt) (tCB (rDN K RLen) (tCons (tVar 1) tNil)) (tC (.int 5000))))) tNever tNext) (tSeq (tFor (iD K (tVar 1)) (gName 2) (tIfS (tNot (tB (tCall (SpD K T_is_piece) [] E0 (tCons (tVar 0) (tCons (tVar 2) tNil))))) tNever tNext)) (tIfS (tTest (tOp (rD2 K RGt) (tCall (SpD K T_measure) [] E0 (tCons (tVar 1) tNil)) (tC (.int 2000)))) tNever tNext))))
abbrev N_plain : List Str := ["many", "number"]
abbrev P_plain : List Str := ["many", "number"]
def t_plain (K : PySem.W.Frag) : TS := (tRet (tOp (rD2 K RAdd) (tTup (tCons (tVar 1) tNil)) (tOp (rD2 K RMul) (tTup (tCons (tC (.int 0)) tNil)) (tVar 0))))
abbrev N_check_full_word : List Str := ["word", "most"]
abbrev P_check_full_word : List Str := ["word", "most"]
def t_check_full_word (K : PySem.W.Frag) : TS := (tIfS (tOr (tNot (tB (tCall (SpD K T_is_letters) [] E0 (tCons (tVar 0) (tCons (tVar 1) tNil))))) (tTest (tOp (rD2 K REqR) (tVar 0) (tC (.str ("" : Str)))))) tNever tNext)
abbrev N_borders : List Str := ["word", "found", "place", "many"]
abbrev P_borders : List Str := ["word"]
def t_borders (K : PySem.W.Frag) : TS := (tSeq (tAsg (tLst (tCons (tC (.int 0)) tNil)) (gName 1)) (tSeq (tFor (iRng2 (tCons (tC (.int 1)) (tCons (tCB (rDN K RLen) (tCons (tVar 0) tNil)) tNil))) (gName 2) (tSeq (tAsg (tOp (rD2 K RIx) (tVar 1) (tOp (rD2 K RSub) (tVar 2) (tC (.int 1)))) (gName 3)) (tSeq (tWhile (tAnd (tTest (tOp (rD2 K RGt) (tVar 3) (tC (.int 0)))) (tTest (tOp (rD2 K RNeR) (tOp (rD2 K RIx) (tVar 0) (tVar 2)) (tOp (rD2 K RIx) (tVar 0) (tVar 3))))) (tAsg (tOp (rD2 K RIx) (tVar 1) (tOp (rD2 K RSub) (tVar 3) (tC (.int 1)))) (gName 3))) (tSeq (tIfS (tTest (tOp (rD2 K REqR) (tOp (rD2 K RIx) (tVar 0) (tVar 2)) (tOp (rD2 K RIx) (tVar 0) (tVar 3)))) (tAsg (tOp (rD2 K RAdd) (tVar 3) (tC (.int 1))) (gName 3)) tNext) (tDrop (tBM K "list" rAppend (tVar 1) (tCons (tVar 3) tNil))))))) (tRet (tVar 1))))
abbrev N_period_of : List Str := ["word"]
abbrev P_period_of : List Str := ["word"]
def t_period_of (K : PySem.W.Frag) : TS := (tRet (tOp (rD2 K RSub) (tCB (rDN K RLen) (tCons (tVar 0) tNil)) (tOp (rD2 K RIx) (tCall (SpD K T_borders) [] E0 (tCons (tVar 0) tNil)) (tUn (rD1 K RNeg) (tC (.int 1))))))
abbrev N_root : List Str := ["word", "many"]
abbrev P_root : List Str := ["word"]
def t_root (K : PySem.W.Frag) : TS := (tSeq (tDrop (tCall (SpD K T_check_full_word) [] E0 (tCons (tVar 0) (tCons (tC (.int 20000)) tNil)))) (tSeq (tAsg (tCall (SpD K T_period_of) [] E0 (tCons (tVar 0) tNil)) (gName 1)) (tSeq (tIfS (tTest (tOp (rD2 K RNeR) (tOp (rD2 K RMod) (tCB (rDN K RLen) (tCons (tVar 0) tNil)) (tVar 1)) (tC (.int 0)))) (tRet (tTup (tCons (tVar 0) (tCons (tC (.int 1)) tNil)))) tNext) (tRet (tTup (tCons (tSl (rSlD K) (tVar 0) tNoPart (tPart (tVar 1))) (tCons (tOp (rD2 K RFdiv) (tCB (rDN K RLen) (tCons (tVar 0) tNil)) (tVar 1)) tNil)))))))
abbrev N_form_times : List Str := ["number", "form", "item"]
abbrev P_form_times : List Str := ["number", "form"]
def t_form_times (K : PySem.W.Frag) : TS := (tRet (tCB (rDN K RTup) (tCons (tLc (iD K (tVar 1)) (gName 2) tYes (tOp (rD2 K RMul) (tVar 0) (tVar 2)) [2]) tNil)))
abbrev N_going_back : List Str := ["word", "text", "many"]
abbrev P_going_back : List Str := ["word", "text"]
def t_going_back (K : PySem.W.Frag) : TS := (tSeq (tAsg (tC (.int 0)) (gName 2)) (tSeq (tWhile (tAnd (tTest (tOp (rD2 K RLt) (tVar 2) (tCB (rDN K RLen) (tCons (tVar 1) tNil)))) (tTest (tOp (rD2 K REqR) (tOp (rD2 K RIx) (tVar 1) (tOp (rD2 K RSub) (tOp (rD2 K RSub) (tCB (rDN K RLen) (tCons (tVar 1) tNil)) (tC (.int 1))) (tVar 2))) (tOp (rD2 K RIx) (tVar 0) (tOp (rD2 K RSub) (tOp (rD2 K RSub) (tCB (rDN K RLen) (tCons (tVar 0) tNil)) (tC (.int 1))) (tOp (rD2 K RMod) (tVar 2) (tCB (rDN K RLen) (tCons (tVar 0) tNil)))))))) (tAsg (tOp (rD2 K RAdd) (tVar 2) (tC (.int 1))) (gName 2))) (tRet (tVar 2))))
abbrev N_turned_back : List Str := ["word", "by", "at"]
abbrev P_turned_back : List Str := ["word", "by"]
def t_turned_back (K : PySem.W.Frag) : TS := (tSeq (tAsg (tOp (rD2 K RSub) (tCB (rDN K RLen) (tCons (tVar 0) tNil)) (tOp (rD2 K RMod) (tVar 1) (tCB (rDN K RLen) (tCons (tVar 0) tNil)))) (gName 2)) (tRet (tOp (rD2 K RAdd) (tSl (rSlD K) (tVar 0) (tPart (tVar 2)) tNoPart) (tSl (rSlD K) (tVar 0) tNoPart (tPart (tVar 2))))))
abbrev N_push_word : List Str := ["stack", "word", "fixed"]
abbrev P_push_word : List Str := ["stack", "word", "fixed"]
def t_push_word (K : PySem.W.Frag) : TS := (tIfS (tTest (tOp (rD2 K RNeR) (tVar 1) (tC (.str ("" : Str))))) (tIfS (tAnd (tTest (tOp (rD2 K RNeR) (tVar 0) (tLst tNil))) (tTest (tOp (rD2 K REqR) (tOp (rD2 K RIx) (tOp (rD2 K RIx) (tVar 0) (tUn (rD1 K RNeg) (tC (.int 1)))) (tC (.int 1))) (tVar 2)))) (tAsg (tTup (tCons (tOp (rD2 K RAdd) (tOp (rD2 K RIx) (tOp (rD2 K RIx) (tVar 0) (tUn (rD1 K RNeg) (tC (.int 1)))) (tC (.int 0))) (tVar 1)) (tCons (tVar 2) tNil))) (gSub (tVar 0) (tUn (rD1 K RNeg) (tC (.int 1))) rSetL)) (tDrop (tBM K "list" rAppend (tVar 0) (tCons (tTup (tCons (tVar 1) (tCons (tVar 2) tNil))) tNil)))) tNext)
abbrev N_form_sum : List Str := ["one", "other", "low", "high"]
abbrev P_form_sum : List Str := ["one", "other"]
def t_form_sum (K : PySem.W.Frag) : TS := (tRet (tCB (rDN K RTup) (tCons (tLc (iZ K true (tCons (tVar 0) (tCons (tVar 1) tNil))) (gTup K 2 (gCons (gName 2) (gCons (gName 3) gNil))) tYes (tOp (rD2 K RAdd) (tVar 2) (tVar 3)) [2, 3]) tNil)))
abbrev N_push_power : List Str := ["stack", "word", "form", "fixed", "carried", "ahead", "by"]
abbrev P_push_power : List Str := ["stack", "word", "form", "fixed"]
def t_push_power (K : PySem.W.Frag) : TS := (tSeq (tAsg (tC (.str ("" : Str))) (gName 4)) (tSeq (tIfS (tAnd (tTest (tOp (rD2 K RNeR) (tVar 0) (tLst tNil))) (tTest (tOp (rD2 K REqR) (tOp (rD2 K RIx) (tOp (rD2 K RIx) (tVar 0) (tUn (rD1 K RNeg) (tC (.int 1)))) (tC (.int 1))) (tVar 3)))) (tSeq (tAsg (tOp (rD2 K RIx) (tBM0 K "list" rPop (tVar 0)) (tC (.int 0))) (gName 5)) (tSeq (tAsg (tCall (SpD K T_going_back) [] E0 (tCons (tVar 1) (tCons (tVar 5) tNil))) (gName 6)) (tSeq (tPar 4 1 (tCons (tSl (rSlD K) (tVar 5) (tPart (tOp (rD2 K RSub) (tCB (rDN K RLen) (tCons (tVar 5) tNil)) (tVar 6))) tNoPart) (tCons (tCall (SpD K T_turned_back) [] E0 (tCons (tVar 1) (tCons (tVar 6) tNil))) tNil))) (tDrop (tCall (SpD K T_push_word) [] E0 (tCons (tVar 0) (tCons (tSl (rSlD K) (tVar 5) tNoPart (tPart (tOp (rD2 K RSub) (tCB (rDN K RLen) (tCons (tVar 5) tNil)) (tVar 6)))) (tCons (tVar 3) tNil)))))))) tNext) (tSeq (tIfS (tAnd (tTest (tOp (rD2 K RNeR) (tVar 0) (tLst tNil))) (tAnd (tTest (tOp (rD2 K RNeR) (tOp (rD2 K RIx) (tOp (rD2 K RIx) (tVar 0) (tUn (rD1 K RNeg) (tC (.int 1)))) (tC (.int 1))) (tVar 3))) (tTest (tOp (rD2 K REqR) (tOp (rD2 K RIx) (tOp (rD2 K RIx) (tVar 0) (tUn (rD1 K RNeg) (tC (.int 1)))) (tC (.int 0))) (tVar 1))))) (tAsg (tTup (tCons (tVar 1) (tCons (tCall (SpD K T_form_sum) [] E0 (tCons (tOp (rD2 K RIx) (tOp (rD2 K RIx) (tVar 0) (tUn (rD1 K RNeg) (tC (.int 1)))) (tC (.int 1))) (tCons (tVar 2) tNil))) tNil))) (gSub (tVar 0) (tUn (rD1 K RNeg) (tC (.int 1))) rSetL)) (tDrop (tBM K "list" rAppend (tVar 0) (tCons (tTup (tCons (tVar 1) (tCons (tVar 2) tNil))) tNil)))) (tDrop (tCall (SpD K T_push_word) [] E0 (tCons (tVar 0) (tCons (tVar 4) (tCons (tVar 3) tNil))))))))
abbrev N_normal_pieces : List Str := ["many", "pieces", "fixed", "stack", "word", "form", "part", "times"]
abbrev P_normal_pieces : List Str := ["many", "pieces"]
def t_normal_pieces (K : PySem.W.Frag) : TS := (tSeq (tPar 2 3 (tCons (tCall (SpD K T_plain) [] E0 (tCons (tVar 0) (tCons (tC (.int 1)) tNil))) (tCons (tLst tNil) tNil))) (tSeq (tFor (iD K (tVar 1)) (gTup K 2 (gCons (gName 4) (gCons (gName 5) gNil))) (tIfS (tTest (tOp (rD2 K RNeR) (tVar 4) (tC (.str ("" : Str))))) (tSeq (tIfS (tB (tCall (SpD K T_is_open_form) [] E0 (tCons (tVar 5) tNil))) (tSeq (tAsg (tCall (SpD K T_root) [] E0 (tCons (tVar 4) tNil)) (gTup K 2 (gCons (gName 6) (gCons (gName 7) gNil)))) (tDrop (tCall (SpD K T_push_power) [] E0 (tCons (tVar 3) (tCons (tVar 6) (tCons (tCall (SpD K T_form_times) [] E0 (tCons (tVar 7) (tCons (tOp (rD2 K RAdd) (tTup (tCons (tC (.int 0)) tNil)) (tSl (rSlD K) (tVar 5) (tPart (tC (.int 1))) tNoPart)) tNil))) (tCons (tVar 2) tNil))))))) tNext) (tDrop (tCall (SpD K T_push_word) [] E0 (tCons (tVar 3) (tCons (tOp (rD2 K RMul) (tVar 4) (tOp (rD2 K RIx) (tVar 5) (tC (.int 0)))) (tCons (tVar 2) tNil)))))) tNext)) (tRet (tCB (rDN K RTup) (tCons (tVar 3) tNil)))))
abbrev N_normal : List Str := ["many", "pieces"]
abbrev P_normal : List Str := ["many", "pieces"]
def t_normal (K : PySem.W.Frag) : TS := (tSeq (tDrop (tCall (SpD K T_check_pieces) [] E0 (tCons (tVar 0) (tCons (tVar 1) tNil)))) (tRet (tCB (rDN K RLst) (tCons (tCall (SpD K T_normal_pieces) [] E0 (tCons (tVar 0) (tCons (tVar 1) tNil))) tNil))))
abbrev N_law_are_pieces : List Str := ["many", "pieces", "item", "number"]
abbrev P_law_are_pieces : List Str := ["many", "pieces"]
def t_law_are_pieces (K : PySem.W.Frag) : TS := (tSeq (tIfS (tNot (tB (tCB (rDN K RIsi) (tCons (tVar 1) (tCons (tC (.ty "list")) tNil))))) (tRet (tC (.bl false))) tNext) (tSeq (tFor (iD K (tVar 1)) (gName 2) (tSeq (tIfS (tOr (tNot (tB (tCB (rDN K RIsi) (tCons (tVar 2) (tCons (tC (.ty "tuple")) tNil))))) (tOr (tTest (tOp (rD2 K RNeR) (tCB (rDN K RLen) (tCons (tVar 2) tNil)) (tC (.int 2)))) (tNot (tB (tCB (rDN K RIsi) (tCons (tOp (rD2 K RIx) (tVar 2) (tC (.int 0))) (tCons (tC (.ty "str")) tNil))))))) (tRet (tC (.bl false))) tNext) (tSeq (tIfS (tOr (tNot (tB (tCB (rDN K RIsi) (tCons (tOp (rD2 K RIx) (tVar 2) (tC (.int 1))) (tCons (tC (.ty "tuple")) tNil))))) (tTest (tOp (rD2 K RNeR) (tCB (rDN K RLen) (tCons (tOp (rD2 K RIx) (tVar 2) (tC (.int 1))) tNil)) (tOp (rD2 K RAdd) (tVar 0) (tC (.int 1)))))) (tRet (tC (.bl false))) tNext) (tIfS (tTest (tOp (rD2 K RNeR) (tLc (iD K (tOp (rD2 K RIx) (tVar 2) (tC (.int 1)))) (gName 3) (tOr (tNot (tB (tCB (rDN K RIsi) (tCons (tVar 3) (tCons (tC (.ty "int")) tNil))))) (tB (tCB (rDN K RIsi) (tCons (tVar 3) (tCons (tC (.ty "bool")) tNil))))) (tVar 3) [3]) (tLst tNil))) (tRet (tC (.bl false))) tNext)))) (tRet (tC (.bl true)))))
abbrev N_law_primitive : List Str := ["word"]
abbrev P_law_primitive : List Str := ["word"]
def t_law_primitive (K : PySem.W.Frag) : TS := (tRet (tAndV (tOp (rD2 K RNeR) (tVar 0) (tC (.str ("" : Str)))) (tOp (rD2 K REqR) (tBM K "str" rFind (tSl (rSlD K) (tOp (rD2 K RAdd) (tVar 0) (tVar 0)) (tPart (tC (.int 1))) tNoPart) (tCons (tVar 0) tNil)) (tOp (rD2 K RSub) (tCB (rDN K RLen) (tCons (tVar 0) tNil)) (tC (.int 1))))))
abbrev N_law_is_normal : List Str := ["many", "pieces", "word", "form", "one", "other", "fixed", "behind"]
abbrev P_law_is_normal : List Str := ["many", "pieces"]
def t_law_is_normal (K : PySem.W.Frag) : TS := (tSeq (tFor (iD K (tVar 1)) (gTup K 2 (gCons (gName 2) (gCons (gName 3) gNil))) (tSeq (tIfS (tAnd (tNot (tB (tCall (SpD K T_law_primitive) [] E0 (tCons (tVar 2) tNil)))) (tTest (tOp (rD2 K RNeR) (tVar 3) (tCall (SpD K T_law_plain) [] E0 (tCons (tVar 0) (tCons (tC (.int 1)) tNil)))))) (tRet (tC (.bl false))) tNext) (tIfS (tOr (tTest (tOp (rD2 K REqR) (tVar 2) (tC (.str ("" : Str))))) (tAnd (tTest (tOp (rD2 K RNeR) (tVar 3) (tCall (SpD K T_law_plain) [] E0 (tCons (tVar 0) (tCons (tC (.int 1)) tNil))))) (tOr (tTest (tOp (rD2 K RNeR) (tOp (rD2 K RIx) (tVar 3) (tC (.int 0))) (tC (.int 0)))) (tTest (tOp (rD2 K REqR) (tCB (rDN K RSum) (tCons (tVar 3) tNil)) (tC (.int 0))))))) (tRet (tC (.bl false))) tNext))) (tSeq (tFor (iZ K false (tCons (tVar 1) (tCons (tSl (rSlD K) (tVar 1) (tPart (tC (.int 1))) tNoPart) tNil))) (gTup K 2 (gCons (gName 4) (gCons (gName 5) gNil))) (tSeq (tPar 6 7 (tCons (tOp (rD2 K REqR) (tOp (rD2 K RIx) (tVar 4) (tC (.int 1))) (tCall (SpD K T_law_plain) [] E0 (tCons (tVar 0) (tCons (tC (.int 1)) tNil)))) (tCons (tOp (rD2 K REqR) (tOp (rD2 K RIx) (tVar 5) (tC (.int 1))) (tCall (SpD K T_law_plain) [] E0 (tCons (tVar 0) (tCons (tC (.int 1)) tNil)))) tNil))) (tSeq (tIfS (tOr (tAnd (tB (tVar 6)) (tB (tVar 7))) (tAnd (tNot (tB (tVar 6))) (tAnd (tNot (tB (tVar 7))) (tTest (tOp (rD2 K REqR) (tOp (rD2 K RIx) (tVar 4) (tC (.int 0))) (tOp (rD2 K RIx) (tVar 5) (tC (.int 0)))))))) (tRet (tC (.bl false))) tNext) (tIfS (tAnd (tB (tVar 6)) (tTest (tOp (rD2 K REqR) (tOp (rD2 K RIx) (tOp (rD2 K RIx) (tVar 4) (tC (.int 0))) (tOp (rD2 K RSub) (tCB (rDN K RLen) (tCons (tOp (rD2 K RIx) (tVar 4) (tC (.int 0))) tNil)) (tC (.int 1)))) (tOp (rD2 K RIx) (tOp (rD2 K RIx) (tVar 5) (tC (.int 0))) (tOp (rD2 K RSub) (tCB (rDN K RLen) (tCons (tOp (rD2 K RIx) (tVar 5) (tC (.int 0))) tNil)) (tC (.int 1))))))) (tRet (tC (.bl false))) tNext)))) (tRet (tC (.bl true)))))
abbrev N_law_point : List Str := ["generator", "many", "most", "turn"]
abbrev P_law_point : List Str := ["generator", "many", "most"]
def t_law_point (K : PySem.W.Frag) : TS := (tRet (tLc (iRng1 (tCons (tVar 1) tNil)) (gName 3) tYes (tCall (SpD K T_law_random) [] E0 (tCons (tVar 0) (tCons (tOp (rD2 K RAdd) (tVar 2) (tC (.int 1))) tNil))) [3]))
abbrev N_law_value : List Str := ["form", "point", "number", "count"]
abbrev P_law_value : List Str := ["form", "point"]
def t_law_value (K : PySem.W.Frag) : TS := (tRet (tOp (rD2 K RAdd) (tOp (rD2 K RIx) (tVar 0) (tC (.int 0))) (tCB (rDN K RSum) (tCons (tLc (iZ K false (tCons (tSl (rSlD K) (tVar 0) (tPart (tC (.int 1))) tNoPart) (tCons (tVar 1) tNil))) (gTup K 2 (gCons (gName 2) (gCons (gName 3) gNil))) tYes (tOp (rD2 K RMul) (tVar 2) (tVar 3)) [2, 3]) tNil))))
abbrev N_law_write : List Str := ["pieces", "point", "word", "form"]
abbrev P_law_write : List Str := ["pieces", "point"]
def t_law_write (K : PySem.W.Frag) : TS := (tRet (tM1 (rJoin K) (tC (.str ("" : Str))) (tLc (iD K (tVar 0)) (gTup K 2 (gCons (gName 2) (gCons (gName 3) gNil))) (tTest (tOp (rD2 K RNeR) (tVar 2) (tC (.str ("" : Str))))) (tOp (rD2 K RMul) (tVar 2) (tCall (SpD K T_law_value) [] E0 (tCons (tVar 3) (tCons (tVar 1) tNil)))) [2, 3])))
abbrev N_law_measure : List Str := ["pieces", "word", "form"]
abbrev P_law_measure : List Str := ["pieces"]
def t_law_measure (K : PySem.W.Frag) : TS := (tRet (tCB (rDN K RSum) (tCons (tLc (iD K (tVar 0)) (gTup K 2 (gCons (gName 1) (gCons (gName 2) gNil))) tYes (tOp (rD2 K RMul) (tCB (rDN K RLen) (tCons (tVar 1) tNil)) (tOp (rD2 K RAdd) (tOp (rD2 K RIx) (tVar 2) (tC (.int 0))) (tCB (rDN K RInt) (tCons (tOp (rD2 K RGt) (tCB (rDN K RSum) (tCons (tSl (rSlD K) (tVar 2) (tPart (tC (.int 1))) tNoPart) tNil)) (tC (.int 0))) tNil)))) [1, 2]) tNil)))
abbrev N_is_normal : List Str := ["many", "value", "item"]
abbrev P_is_normal : List Str := ["many", "value"]
def t_is_normal (K : PySem.W.Frag) : TS := (tSeq (tDrop (tCall (SpD K T_check_many) [] E0 (tCons (tVar 0) tNil))) (tSeq (tIfS (tOr (tNot (tB (tCB (rDN K RIsi) (tCons (tVar 1) (tCons (tC (.ty "list")) tNil))))) (tTest (tOp (rD2 K RGt) (tCB (rDN K RLen) (tCons (tVar 1) tNil)) (tC (.int 5000))))) (tRet (tC (.bl false))) tNext) (tSeq (tIfS (tOr (tTest (tOp (rD2 K RNeR) (tLc (iD K (tVar 1)) (gName 2) (tNot (tB (tCall (SpD K T_is_piece) [] E0 (tCons (tVar 0) (tCons (tVar 2) tNil))))) (tVar 2) [2]) (tLst tNil))) (tTest (tOp (rD2 K RGt) (tCall (SpD K T_measure) [] E0 (tCons (tVar 1) tNil)) (tC (.int 2000))))) (tRet (tC (.bl false))) tNext) (tRet (tOp (rD2 K REqR) (tCall (SpD K T_normal_pieces) [] E0 (tCons (tVar 0) (tCons (tVar 1) tNil))) (tCB (rDN K RTup) (tCons (tVar 1) tNil)))))))
abbrev N_law_yes : List Str := ["told", "due"]
abbrev P_law_yes : List Str := ["told", "due"]
def t_law_yes (K : PySem.W.Frag) : TS := (tRet (tAndV (tCB (rDN K RIsi) (tCons (tVar 0) (tCons (tC (.ty "bool")) tNil))) (tOp (rD2 K REqR) (tVar 0) (tVar 1))))
abbrev N_law_right : List Str := ["generator", "many", "letters", "pieces", "given", "told", "points", "again", "unit", "fixed", "low", "long", "spoilt", "turn", "point", "item"]
abbrev P_law_right : List Str := ["generator"]
def t_law_right (K : PySem.W.Frag) : TS := (tSeq (tAsg (tTup (tCons (tCall (SpD K T_law_random) [] E0 (tCons (tVar 0) (tCons (tC (.int 4)) tNil))) (tCons (tCall (SpD K T_law_letters) [] E0 (tCons (tVar 0) tNil)) tNil))) (gTup K 2 (gCons (gName 1) (gCons (gName 2) gNil)))) (tSeq (tAsg (tCall (SpD K T_law_raw) [] E0 (tCons (tVar 0) (tCons (tVar 1) (tCons (tVar 2) (tCons (tCall (SpD K T_law_random) [] E0 (tCons (tVar 0) (tCons (tC (.int 8)) tNil))) (tCons (tOp (rD2 K RAdd) (tC (.int 1)) (tCall (SpD K T_law_random) [] E0 (tCons (tVar 0) (tCons (tC (.int 3)) tNil)))) tNil)))))) (gName 3)) (tSeq (tAsg (tCB (rDN K RLst) (tCons (tVar 3) tNil)) (gName 4)) (tSeq (tAsg (tCall (SpD K T_normal) [] E0 (tCons (tVar 1) (tCons (tVar 4) tNil))) (gName 5)) (tSeq (tIfS (tOr (tTest (tOp (rD2 K RNeR) (tVar 4) (tVar 3))) (tOr (tNot (tB (tCall (SpD K T_law_are_pieces) [] E0 (tCons (tVar 1) (tCons (tVar 5) tNil))))) (tNot (tB (tCall (SpD K T_law_is_normal) [] E0 (tCons (tVar 1) (tCons (tVar 5) tNil))))))) (tRet (tC (.bl false))) tNext) (tSeq (tAsg (tOp (rD2 K RAdd) (tLst (tCons (tOp (rD2 K RMul) (tLst (tCons (tC (.int 0)) tNil)) (tVar 1)) tNil)) (tLc (iRng1 (tCons (tC (.int 3)) tNil)) (gName 13) tYes (tCall (SpD K T_law_point) [] E0 (tCons (tVar 0) (tCons (tVar 1) (tCons (tC (.int 3)) tNil)))) [13])) (gName 6)) (tSeq (tIfS (tTest (tOp (rD2 K RNeR) (tLc (iD K (tVar 6)) (gName 14) (tTest (tOp (rD2 K RNeR) (tCall (SpD K T_law_write) [] E0 (tCons (tVar 5) (tCons (tVar 14) tNil))) (tCall (SpD K T_law_write) [] E0 (tCons (tVar 3) (tCons (tVar 14) tNil))))) (tVar 14) [14]) (tLst tNil))) (tRet (tC (.bl false))) tNext) (tSeq (tIfS (tOr (tTest (tOp (rD2 K RGt) (tCall (SpD K T_law_measure) [] E0 (tCons (tVar 5) tNil)) (tCall (SpD K T_law_measure) [] E0 (tCons (tVar 3) tNil)))) (tTest (tOp (rD2 K RNeR) (tCall (SpD K T_normal) [] E0 (tCons (tVar 1) (tCons (tCB (rDN K RLst) (tCons (tVar 5) tNil)) tNil))) (tVar 5)))) (tRet (tC (.bl false))) tNext) (tSeq (tAsg (tCB (rDN K RLst) (tCons (tVar 3) tNil)) (gName 7)) (tSeq (tDrop (tCall (SpD K T_is_normal) [] E0 (tCons (tVar 1) (tCons (tVar 7) tNil)))) (tSeq (tIfS (tOr (tTest (tOp (rD2 K RNeR) (tVar 7) (tVar 3))) (tOr (tTest (tOp (rD2 K RIsN) (tCall (SpD K T_is_normal) [] E0 (tCons (tVar 1) (tCons (tCB (rDN K RLst) (tCons (tVar 5) tNil)) tNil))) (tC (.bl true)))) (tNot (tB (tCall (SpD K T_law_yes) [] E0 (tCons (tCall (SpD K T_is_normal) [] E0 (tCons (tVar 1) (tCons (tVar 3) tNil))) (tCons (tCall (SpD K T_law_is_normal) [] E0 (tCons (tVar 1) (tCons (tVar 3) tNil))) tNil))))))) (tRet (tC (.bl false))) tNext) (tSeq (tAsg (tCB (rDN K RLst) (tCons (tVar 5) tNil)) (gName 7)) (tSeq (tDrop (tBM K "list" rAppend (tCall (SpD K T_normal) [] E0 (tCons (tVar 1) (tCons (tVar 7) tNil))) (tCons (tC .non) tNil))) (tSeq (tIfS (tOr (tTest (tOp (rD2 K RNeR) (tVar 7) (tVar 5))) (tTest (tOp (rD2 K RNeR) (tCall (SpD K T_normal) [] E0 (tCons (tVar 1) (tCons (tVar 7) tNil))) (tVar 5)))) (tRet (tC (.bl false))) tNext) (tSeq (tPar 8 9 (tCons (tTup (tCons (tOp (rD2 K RIx) (tVar 2) (tC (.int 1))) (tCons (tOp (rD2 K RAdd) (tTup (tCons (tC (.int 0)) (tCons (tC (.int 1)) tNil))) (tOp (rD2 K RMul) (tTup (tCons (tC (.int 0)) tNil)) (tOp (rD2 K RSub) (tVar 1) (tC (.int 1))))) tNil))) (tCons (tCall (SpD K T_law_plain) [] E0 (tCons (tVar 1) (tCons (tC (.int 1)) tNil))) tNil))) (tSeq (tFor (iD K (tLst (tCons (tC (.int 999)) (tCons (tC (.int 1000)) tNil)))) (gName 10) (tSeq (tAsg (tLst (tCons (tTup (tCons (tOp (rD2 K RMul) (tOp (rD2 K RIx) (tVar 2) (tC (.int 0))) (tC (.int 1000))) (tCons (tVar 9) tNil))) (tCons (tVar 8) (tCons (tTup (tCons (tOp (rD2 K RMul) (tOp (rD2 K RIx) (tVar 2) (tC (.int 2))) (tVar 10)) (tCons (tVar 9) tNil))) tNil)))) (gName 11)) (tIfS (tAnd (tTest (tOp (rD2 K RGt) (tVar 1) (tC (.int 0)))) (tNot (tB (tCall (SpD K T_law_yes) [] E0 (tCons (tCall (SpD K T_is_normal) [] E0 (tCons (tVar 1) (tCons (tVar 11) tNil))) (tCons (tOp (rD2 K REqR) (tVar 10) (tC (.int 999))) tNil)))))) (tRet (tC (.bl false))) tNext))) (tSeq (tAsg (tLst (tCons (tCB (rDN K RTup) (tCons (tVar 5) tNil)) (tCons (tOp (rD2 K RAdd) (tVar 5) (tLst (tCons (tTup (tCons (tC (.str ("" : Str))) (tCons (tCall (SpD K T_law_plain) [] E0 (tCons (tVar 1) (tCons (tC (.int 1)) tNil))) tNil))) tNil))) (tCons (tOp (rD2 K RAdd) (tVar 5) (tLst (tCons (tC .non) tNil))) (tCons (tOp (rD2 K RAdd) (tVar 5) (tLst (tCons (tTup (tCons (tSl (rSlD K) (tVar 2) tNoPart (tPart (tC (.int 1)))) (tCons (tOp (rD2 K RMul) (tTup (tCons (tC (.int 0)) tNil)) (tOp (rD2 K RAdd) (tVar 1) (tC (.int 1)))) tNil))) tNil))) tNil))))) (gName 12)) (tSeq (tAsg (tOp (rD2 K RAdd) (tVar 12) (tLst (tCons (tOp (rD2 K RAdd) (tVar 5) (tLst (tCons (tTup (tCons (tOp (rD2 K RMul) (tSl (rSlD K) (tVar 2) tNoPart (tPart (tC (.int 1)))) (tC (.int 2001))) (tCons (tCall (SpD K T_law_plain) [] E0 (tCons (tVar 1) (tCons (tC (.int 1)) tNil))) tNil))) tNil))) (tCons (tOp (rD2 K RAdd) (tVar 5) (tLst (tCons (tLst (tCons (tSl (rSlD K) (tVar 2) tNoPart (tPart (tC (.int 1)))) (tCons (tCall (SpD K T_law_plain) [] E0 (tCons (tVar 1) (tCons (tC (.int 1)) tNil))) tNil))) tNil))) tNil)))) (gName 12)) (tRet (tOp (rD2 K REqR) (tLc (iD K (tVar 12)) (gName 15) (tTest (tOp (rD2 K RIsN) (tCall (SpD K T_is_normal) [] E0 (tCons (tVar 1) (tCons (tVar 15) tNil))) (tC (.bl false)))) (tVar 15) [15]) (tLst tNil)))))))))))))))))))))
abbrev N_law : List Str := ["script", "index"]
abbrev P_law : List Str := ["script"]
def t_law (K : PySem.W.Frag) : TS := (tSeq (tFor (iRng1 (tCons (tC (.int 3)) tNil)) (gName 1) (tIfS (tNot (tB (tCall (SpD K T_law_right) [] E0 (tCons (tCall (SpD K T_law_generator) [] E0 (tCons (tVar 0) (tCons (tVar 1) tNil))) tNil)))) (tRet (tC (.bl false))) tNext)) (tRet (tC (.bl true))))
end L12

namespace L12
open PySem PySem.Spec PyProof.Rows L2 Cr
def top (i : Nat) : Stmt := PySem.Challenge.pw_countreaders_k12_normal_lists.main.body.getD i (.Pass ⟨0, 0, 0, 0⟩)
structure Bl (mg : Str → Option Value) : Prop where
  len : mg "len" = none
  sum : mg "sum" = none
  int : mg "int" = none
  max : mg "max" = none
  range : mg "range" = none
  list : mg "list" = none
  tuple : mg "tuple" = none
  isinstance : mg "isinstance" = none
  bool : mg "bool" = none
  str : mg "str" = none
  zip : mg "zip" = none
abbrev s_law_cell : Stmt := top 45
theorem sc_law_cell : FnScope N_law_cell P_law_cell (defScope s_law_cell) := ⟨rfl, rfl, rfl, by decide +kernel, rfl, by decide +kernel, by decide +kernel⟩
abbrev s_law_generator : Stmt := top 46
theorem sc_law_generator : FnScope N_law_generator P_law_generator (defScope s_law_generator) := ⟨rfl, rfl, rfl, by decide +kernel, rfl, by decide +kernel, by decide +kernel⟩
abbrev s_law_hash : Stmt := top 43
theorem sc_law_hash : FnScope N_law_hash P_law_hash (defScope s_law_hash) := ⟨rfl, rfl, rfl, by decide +kernel, rfl, by decide +kernel, by decide +kernel⟩
abbrev s_law_random : Stmt := top 44
theorem sc_law_random : FnScope N_law_random P_law_random (defScope s_law_random) := ⟨rfl, rfl, rfl, by decide +kernel, rfl, by decide +kernel, by decide +kernel⟩
abbrev s_law_letters : Stmt := top 47
theorem sc_law_letters : FnScope N_law_letters P_law_letters (defScope s_law_letters) := ⟨rfl, rfl, rfl, by decide +kernel, rfl, by decide +kernel, by decide +kernel⟩
abbrev s_law_word : Stmt := top 48
theorem sc_law_word : FnScope N_law_word P_law_word (defScope s_law_word) := ⟨rfl, rfl, rfl, by decide +kernel, rfl, by decide +kernel, by decide +kernel⟩
abbrev s_law_plain : Stmt := top 50
theorem sc_law_plain : FnScope N_law_plain P_law_plain (defScope s_law_plain) := ⟨rfl, rfl, rfl, by decide +kernel, rfl, by decide +kernel, by decide +kernel⟩
abbrev s_law_form : Stmt := top 49
theorem sc_law_form : FnScope N_law_form P_law_form (defScope s_law_form) := ⟨rfl, rfl, rfl, by decide +kernel, rfl, by decide +kernel, by decide +kernel⟩
abbrev s_law_piece : Stmt := top 54
theorem sc_law_piece : FnScope N_law_piece P_law_piece (defScope s_law_piece) := ⟨rfl, rfl, rfl, by decide +kernel, rfl, by decide +kernel, by decide +kernel⟩
abbrev s_law_raw : Stmt := top 55
theorem sc_law_raw : FnScope N_law_raw P_law_raw (defScope s_law_raw) := ⟨rfl, rfl, rfl, by decide +kernel, rfl, by decide +kernel, by decide +kernel⟩
abbrev s_is_whole : Stmt := top 11
theorem sc_is_whole : FnScope N_is_whole P_is_whole (defScope s_is_whole) := ⟨rfl, rfl, rfl, by decide +kernel, rfl, by decide +kernel, by decide +kernel⟩
abbrev s_is_between : Stmt := top 12
theorem sc_is_between : FnScope N_is_between P_is_between (defScope s_is_between) := ⟨rfl, rfl, rfl, by decide +kernel, rfl, by decide +kernel, by decide +kernel⟩
abbrev s_check_number : Stmt := top 16
theorem sc_check_number : FnScope N_check_number P_check_number (defScope s_check_number) := ⟨rfl, rfl, rfl, by decide +kernel, rfl, by decide +kernel, by decide +kernel⟩
abbrev s_check_many : Stmt := top 17
theorem sc_check_many : FnScope N_check_many P_check_many (defScope s_check_many) := ⟨rfl, rfl, rfl, by decide +kernel, rfl, by decide +kernel, by decide +kernel⟩
abbrev s_is_letters : Stmt := top 14
theorem sc_is_letters : FnScope N_is_letters P_is_letters (defScope s_is_letters) := ⟨rfl, rfl, rfl, by decide +kernel, rfl, by decide +kernel, by decide +kernel⟩
abbrev s_are_counts : Stmt := top 13
theorem sc_are_counts : FnScope N_are_counts P_are_counts (defScope s_are_counts) := ⟨rfl, rfl, rfl, by decide +kernel, rfl, by decide +kernel, by decide +kernel⟩
abbrev s_is_form_for : Stmt := top 15
theorem sc_is_form_for : FnScope N_is_form_for P_is_form_for (defScope s_is_form_for) := ⟨rfl, rfl, rfl, by decide +kernel, rfl, by decide +kernel, by decide +kernel⟩
abbrev s_is_piece : Stmt := top 32
theorem sc_is_piece : FnScope N_is_piece P_is_piece (defScope s_is_piece) := ⟨rfl, rfl, rfl, by decide +kernel, rfl, by decide +kernel, by decide +kernel⟩
abbrev s_is_open_form : Stmt := top 21
theorem sc_is_open_form : FnScope N_is_open_form P_is_open_form (defScope s_is_open_form) := ⟨rfl, rfl, rfl, by decide +kernel, rfl, by decide +kernel, by decide +kernel⟩
abbrev s_measure : Stmt := top 33
theorem sc_measure : FnScope N_measure P_measure (defScope s_measure) := ⟨rfl, rfl, rfl, by decide +kernel, rfl, by decide +kernel, by decide +kernel⟩
abbrev s_check_pieces : Stmt := top 34
theorem sc_check_pieces : FnScope N_check_pieces P_check_pieces (defScope s_check_pieces) := ⟨rfl, rfl, rfl, by decide +kernel, rfl, by decide +kernel, by decide +kernel⟩
abbrev s_plain : Stmt := top 20
theorem sc_plain : FnScope N_plain P_plain (defScope s_plain) := ⟨rfl, rfl, rfl, by decide +kernel, rfl, by decide +kernel, by decide +kernel⟩
abbrev s_check_full_word : Stmt := top 18
theorem sc_check_full_word : FnScope N_check_full_word P_check_full_word (defScope s_check_full_word) := ⟨rfl, rfl, rfl, by decide +kernel, rfl, by decide +kernel, by decide +kernel⟩
abbrev s_borders : Stmt := top 25
theorem sc_borders : FnScope N_borders P_borders (defScope s_borders) := ⟨rfl, rfl, rfl, by decide +kernel, rfl, by decide +kernel, by decide +kernel⟩
abbrev s_period_of : Stmt := top 26
theorem sc_period_of : FnScope N_period_of P_period_of (defScope s_period_of) := ⟨rfl, rfl, rfl, by decide +kernel, rfl, by decide +kernel, by decide +kernel⟩
abbrev s_root : Stmt := top 27
theorem sc_root : FnScope N_root P_root (defScope s_root) := ⟨rfl, rfl, rfl, by decide +kernel, rfl, by decide +kernel, by decide +kernel⟩
abbrev s_form_times : Stmt := top 23
theorem sc_form_times : FnScope N_form_times P_form_times (defScope s_form_times) := ⟨rfl, rfl, rfl, by decide +kernel, rfl, by decide +kernel, by decide +kernel⟩
abbrev s_going_back : Stmt := top 35
theorem sc_going_back : FnScope N_going_back P_going_back (defScope s_going_back) := ⟨rfl, rfl, rfl, by decide +kernel, rfl, by decide +kernel, by decide +kernel⟩
abbrev s_turned_back : Stmt := top 36
theorem sc_turned_back : FnScope N_turned_back P_turned_back (defScope s_turned_back) := ⟨rfl, rfl, rfl, by decide +kernel, rfl, by decide +kernel, by decide +kernel⟩
abbrev s_push_word : Stmt := top 37
theorem sc_push_word : FnScope N_push_word P_push_word (defScope s_push_word) := ⟨rfl, rfl, rfl, by decide +kernel, rfl, by decide +kernel, by decide +kernel⟩
abbrev s_form_sum : Stmt := top 22
theorem sc_form_sum : FnScope N_form_sum P_form_sum (defScope s_form_sum) := ⟨rfl, rfl, rfl, by decide +kernel, rfl, by decide +kernel, by decide +kernel⟩
abbrev s_push_power : Stmt := top 38
theorem sc_push_power : FnScope N_push_power P_push_power (defScope s_push_power) := ⟨rfl, rfl, rfl, by decide +kernel, rfl, by decide +kernel, by decide +kernel⟩
abbrev s_normal_pieces : Stmt := top 39
theorem sc_normal_pieces : FnScope N_normal_pieces P_normal_pieces (defScope s_normal_pieces) := ⟨rfl, rfl, rfl, by decide +kernel, rfl, by decide +kernel, by decide +kernel⟩
abbrev s_normal : Stmt := top 40
theorem sc_normal : FnScope N_normal P_normal (defScope s_normal) := ⟨rfl, rfl, rfl, by decide +kernel, rfl, by decide +kernel, by decide +kernel⟩
abbrev s_law_are_pieces : Stmt := top 58
theorem sc_law_are_pieces : FnScope N_law_are_pieces P_law_are_pieces (defScope s_law_are_pieces) := ⟨rfl, rfl, rfl, by decide +kernel, rfl, by decide +kernel, by decide +kernel⟩
abbrev s_law_primitive : Stmt := top 56
theorem sc_law_primitive : FnScope N_law_primitive P_law_primitive (defScope s_law_primitive) := ⟨rfl, rfl, rfl, by decide +kernel, rfl, by decide +kernel, by decide +kernel⟩
abbrev s_law_is_normal : Stmt := top 57
theorem sc_law_is_normal : FnScope N_law_is_normal P_law_is_normal (defScope s_law_is_normal) := ⟨rfl, rfl, rfl, by decide +kernel, rfl, by decide +kernel, by decide +kernel⟩
abbrev s_law_point : Stmt := top 53
theorem sc_law_point : FnScope N_law_point P_law_point (defScope s_law_point) := ⟨rfl, rfl, rfl, by decide +kernel, rfl, by decide +kernel, by decide +kernel⟩
abbrev s_law_value : Stmt := top 51
theorem sc_law_value : FnScope N_law_value P_law_value (defScope s_law_value) := ⟨rfl, rfl, rfl, by decide +kernel, rfl, by decide +kernel, by decide +kernel⟩
abbrev s_law_write : Stmt := top 52
theorem sc_law_write : FnScope N_law_write P_law_write (defScope s_law_write) := ⟨rfl, rfl, rfl, by decide +kernel, rfl, by decide +kernel, by decide +kernel⟩
abbrev s_law_measure : Stmt := top 59
theorem sc_law_measure : FnScope N_law_measure P_law_measure (defScope s_law_measure) := ⟨rfl, rfl, rfl, by decide +kernel, rfl, by decide +kernel, by decide +kernel⟩
abbrev s_is_normal : Stmt := top 41
theorem sc_is_normal : FnScope N_is_normal P_is_normal (defScope s_is_normal) := ⟨rfl, rfl, rfl, by decide +kernel, rfl, by decide +kernel, by decide +kernel⟩
abbrev s_law_yes : Stmt := top 60
theorem sc_law_yes : FnScope N_law_yes P_law_yes (defScope s_law_yes) := ⟨rfl, rfl, rfl, by decide +kernel, rfl, by decide +kernel, by decide +kernel⟩
abbrev s_law_right : Stmt := top 61
theorem sc_law_right : FnScope N_law_right P_law_right (defScope s_law_right) := ⟨rfl, rfl, rfl, by decide +kernel, rfl, by decide +kernel, by decide +kernel⟩
abbrev s_law : Stmt := top 62
theorem sc_law : FnScope N_law P_law (defScope s_law) := ⟨rfl, rfl, rfl, by decide +kernel, rfl, by decide +kernel, by decide +kernel⟩
section
variable {P : Program} {w : World} {K : PySem.W.Frag} {mg : Str → Option Value} {base : Heap} {f : Addr} {fd : FuncData}
theorem ok_law_cell (B : Bl mg) (F : FunD K "_law_cell" "_law_cell" (defArgs s_law_cell) (defBody s_law_cell) (defScope s_law_cell) [] [] f fd) (gF : mg "_law_cell" = some (.ref f)) (m : Ok K N_law_cell T_law_cell (t_law_cell K)) : Has P w K mg base "_law_cell" 1 P_law_cell T_law_cell := by
  have len : ∀ ss m Q, T_law_cell ss m Q → ss.length = (P_law_cell).length := by
    intro ss m Q h
    repeat (obtain ⟨_, h⟩ := h)
    subst_vars
    rfl
  refine has_ok F gF sc_law_cell len (fun _ _ _ _ _ _ us hl => match us, hl with | [_, _], _ => rfl) m fun cdv A outer s H hg hr => ?_
  exact (pss_cons (ps_if (pt_cmpR op_ltD (pv 1) (pe_callB call_lenD (by rfl) B.len (by decide +kernel) (pa_cons (pv 0) pa_nil)) (nomark _)) (pss_one (ps_ret (pe_ix ix_D (pv 0) (pv 1) (fun _ _ => rfl)))) pss_nil)
      (pss_one (ps_ret (pe_op op_modD (pe_callB (call_sumD rfl) (by rfl) B.sum (by decide +kernel) (pa_cons (pe_slice sl_D (pv 0) po_none (po_some pe_int)) pa_nil)) pe_int))))
theorem ok_law_generator (B : Bl mg) (g_law_cell : Has P w K mg base "_law_cell" 1 P_law_cell T_law_cell) (F : FunD K "_law_generator" "_law_generator" (defArgs s_law_generator) (defBody s_law_generator) (defScope s_law_generator) [] [] f fd) (gF : mg "_law_generator" = some (.ref f)) (m : Ok K N_law_generator T_law_generator (t_law_generator K)) : Has P w K mg base "_law_generator" 2 P_law_generator T_law_generator := by
  have len : ∀ ss m Q, T_law_generator ss m Q → ss.length = (P_law_generator).length := by
    intro ss m Q h
    repeat (obtain ⟨_, h⟩ := h)
    subst_vars
    rfl
  refine has_ok F gF sc_law_generator len (fun _ _ _ _ _ _ us hl => match us, hl with | [_, _], _ => rfl) m fun cdv A outer s H hg hr => ?_
  exact (pss_cons (ps_set (i := 2) sc_law_generator.nd rfl (by first | exact Or.inl rfl | exact Or.inr rfl) (pe_U g_law_cell hg (hr.mono (by decide)) (by rfl) (pa_cons (pv 0) (pa_cons (pv 1) pa_nil))))
      (pss_one (ps_ret (pe_lst (pa_cons (pe_op op_modD (pe_callTy call_intD (by rfl) B.int (by decide +kernel) (pa_cons (pe_callB (call_maxD rfl) (by rfl) B.max (by decide +kernel) (pa_cons (pe_op op_subD (pv 2) (pe_op op_powD pe_int pe_int)) (pa_cons pe_int pa_nil))) pa_nil)) (pe_op op_powD (pe_op op_powD pe_int pe_int) pe_int)) (pa_cons (pe_op op_modD (pe_callTy call_intD (by rfl) B.int (by decide +kernel) (pa_cons (pv 2) pa_nil)) pe_int) (pa_cons (pe_op op_mulD pe_int (pv 1)) pa_nil)))))))
theorem ok_law_hash (B : Bl mg) (F : FunD K "_law_hash" "_law_hash" (defArgs s_law_hash) (defBody s_law_hash) (defScope s_law_hash) [] [] f fd) (gF : mg "_law_hash" = some (.ref f)) (m : Ok K N_law_hash T_law_hash (t_law_hash K)) : Has P w K mg base "_law_hash" 1 P_law_hash T_law_hash := by
  have len : ∀ ss m Q, T_law_hash ss m Q → ss.length = (P_law_hash).length := by
    intro ss m Q h
    repeat (obtain ⟨_, h⟩ := h)
    subst_vars
    rfl
  refine has_ok F gF sc_law_hash len (fun _ _ _ _ _ _ us hl => match us, hl with | [_, _], _ => rfl) m fun cdv A outer s H hg hr => ?_
  exact (pss_cons (ps_set (i := 2) sc_law_hash.nd rfl (by first | exact Or.inl rfl | exact Or.inr rfl) (pe_op op_modD (pe_callTy call_intD (by rfl) B.int (by decide +kernel) (pa_cons (pe_op op_addD (pe_op op_addD (pe_op op_addD (pe_op op_mulD (pv 0) pe_int) (pe_op op_mulD (pe_op op_mulD pe_int (pv 1)) (pv 1))) (pe_op op_mulD pe_int (pv 1))) pe_int) pa_nil)) pe_int))
      (pss_cons (ps_set (i := 2) sc_law_hash.nd rfl (by first | exact Or.inl rfl | exact Or.inr rfl) (pe_op op_modD (pe_callTy call_intD (by rfl) B.int (by decide +kernel) (pa_cons (pe_op op_addD (pe_op op_addD (pe_op op_mulD (pv 2) (pv 2)) (pe_op op_mulD pe_int (pv 1))) pe_int) pa_nil)) pe_int))
      (pss_one (ps_ret (pe_op op_modD (pe_callTy call_intD (by rfl) B.int (by decide +kernel) (pa_cons (pe_op op_mulD (pv 2) pe_int) pa_nil)) pe_int)))))
theorem ok_law_random (B : Bl mg) (g_law_hash : Has P w K mg base "_law_hash" 1 P_law_hash T_law_hash) (F : FunD K "_law_random" "_law_random" (defArgs s_law_random) (defBody s_law_random) (defScope s_law_random) [] [] f fd) (gF : mg "_law_random" = some (.ref f)) (m : Ok K N_law_random T_law_random (t_law_random K)) : Has P w K mg base "_law_random" 2 P_law_random T_law_random := by
  have len : ∀ ss m Q, T_law_random ss m Q → ss.length = (P_law_random).length := by
    intro ss m Q h
    repeat (obtain ⟨_, h⟩ := h)
    subst_vars
    rfl
  refine has_ok F gF sc_law_random len (fun _ _ _ _ _ _ us hl => match us, hl with | [_, _], _ => rfl) m fun cdv A outer s H hg hr => ?_
  exact (pss_cons (ps_if (pt_cmpR op_gtD (pe_ix ix_D (pv 0) pe_int (fun _ _ => rfl)) pe_int (nomark _)) (pss_cons (ps_set (i := 2) sc_law_random.nd rfl (by first | exact Or.inl rfl | exact Or.inr rfl) (pe_op op_modD (pe_callTy call_intD (by rfl) B.int (by decide +kernel) (pa_cons (pe_ix ix_D (pv 0) pe_int (fun _ _ => rfl)) pa_nil)) (pv 1)))
      (pss_cons (ps_asg (pe_op op_fdivD (pe_ix ix_D (pv 0) pe_int (fun _ _ => rfl)) (pv 1)) (pg_sub (pv 0) pe_int set_list))
      (pss_one (ps_ret (pv 2))))) pss_nil)
      (pss_cons (ps_set (i := 2) sc_law_random.nd rfl (by first | exact Or.inl rfl | exact Or.inr rfl) pe_int)
      (pss_cons (ps_for PassesOwn.never rfl (pi_range1 (by rfl) B.range (pa_cons (pe_op op_addD pe_int (pe_op op_fdivD (pe_bits (pv 1)) pe_int)) pa_nil)) (pg_name (i := 3) sc_law_random.nd rfl (by first | exact Or.inl rfl | exact Or.inr rfl)) (pss_cons (ps_asg (pe_op op_addD (pe_ix ix_D (pv 0) pe_int (fun _ _ => rfl)) pe_int) (pg_sub (pv 0) pe_int set_list))
      (pss_one (ps_set (i := 2) sc_law_random.nd rfl (by first | exact Or.inl rfl | exact Or.inr rfl) (pe_op op_addD (pe_op op_mulD (pv 2) pe_int) (pe_U g_law_hash hg (hr.mono (by decide)) (by rfl) (pa_cons (pe_ix ix_D (pv 0) pe_int (fun _ _ => rfl)) (pa_cons (pe_ix ix_D (pv 0) pe_int (fun _ _ => rfl)) pa_nil))))))))
      (pss_one (ps_ret (pe_op op_modD (pe_callTy call_intD (by rfl) B.int (by decide +kernel) (pa_cons (pv 2) pa_nil)) (pv 1)))))))
theorem ok_law_letters (B : Bl mg) (g_law_random : Has P w K mg base "_law_random" 2 P_law_random T_law_random) (F : FunD K "_law_letters" "_law_letters" (defArgs s_law_letters) (defBody s_law_letters) (defScope s_law_letters) [] [] f fd) (gF : mg "_law_letters" = some (.ref f)) (m : Ok K N_law_letters T_law_letters (t_law_letters K)) : Has P w K mg base "_law_letters" 3 P_law_letters T_law_letters := by
  have len : ∀ ss m Q, T_law_letters ss m Q → ss.length = (P_law_letters).length := by
    intro ss m Q h
    repeat (obtain ⟨_, h⟩ := h)
    subst_vars
    rfl
  refine has_ok F gF sc_law_letters len (fun _ _ _ _ _ _ us hl => match us, hl with | [_], _ => rfl) m fun cdv A outer s H hg hr => ?_
  exact (pss_cons (ps_set (i := 1) sc_law_letters.nd rfl (by first | exact Or.inl rfl | exact Or.inr rfl) (pe_callTy (call_lstD rfl) (by rfl) B.list (by decide +kernel) (pa_cons pe_str pa_nil)))
      (pss_one (ps_ret (pe_join pe_str (pe_lc (own := [("turn", 2)]) rfl sc_law_letters.nd (pi_range1 (by rfl) B.range (pa_cons pe_int pa_nil)) (blkOk_by (own := [("turn", 2)]) (N := N_law_letters) (sc := defScope s_law_letters) (by decide +kernel)) (fun _ _ _ _ _ => (pg_name (i := 2) sc_law_letters.nd rfl (by first | exact Or.inl rfl | exact Or.inr rfl))) (fun _ _ _ _ _ => pts_nil) (fun _ _ _ _ _ => (pe_bm PySem.F.plainAttrs_list PySem.F.slot_list_pop PySem.F.type_list_pop mt_popAt (pv 1) (pa_cons (pe_U g_law_random hg (hr.mono (by decide)) (by rfl) (pa_cons (pv 0) (pa_cons (pe_callB call_lenD (by rfl) B.len (by decide +kernel) (pa_cons (pv 1) pa_nil)) pa_nil))) pa_nil))))))))
theorem ok_law_word (B : Bl mg) (g_law_random : Has P w K mg base "_law_random" 2 P_law_random T_law_random) (F : FunD K "_law_word" "_law_word" (defArgs s_law_word) (defBody s_law_word) (defScope s_law_word) [] [] f fd) (gF : mg "_law_word" = some (.ref f)) (m : Ok K N_law_word T_law_word (t_law_word K)) : Has P w K mg base "_law_word" 3 P_law_word T_law_word := by
  have len : ∀ ss m Q, T_law_word ss m Q → ss.length = (P_law_word).length := by
    intro ss m Q h
    repeat (obtain ⟨_, h⟩ := h)
    subst_vars
    rfl
  refine has_ok F gF sc_law_word len (fun _ _ _ _ _ _ us hl => match us, hl with | [_, _, _, _], _ => rfl) m fun cdv A outer s H hg hr => ?_
  exact (pss_cons (ps_set (i := 4) sc_law_word.nd rfl (by first | exact Or.inl rfl | exact Or.inr rfl) (pe_op op_addD (pv 2) (pe_U g_law_random hg (hr.mono (by decide)) (by rfl) (pa_cons (pv 0) (pa_cons (pe_op op_addD (pe_op op_subD (pv 3) (pv 2)) pe_int) pa_nil)))))
      (pss_one (ps_ret (pe_join pe_str (pe_lc (own := [("turn", 5)]) rfl sc_law_word.nd (pi_range1 (by rfl) B.range (pa_cons (pv 4) pa_nil)) (blkOk_by (own := [("turn", 5)]) (N := N_law_word) (sc := defScope s_law_word) (by decide +kernel)) (fun _ _ _ _ _ => (pg_name (i := 5) sc_law_word.nd rfl (by first | exact Or.inl rfl | exact Or.inr rfl))) (fun _ _ _ _ _ => pts_nil) (fun _ _ _ _ _ => (pe_ix ix_D (pv 1) (pe_U g_law_random hg (hr.mono (by decide)) (by rfl) (pa_cons (pv 0) (pa_cons (pe_callB call_lenD (by rfl) B.len (by decide +kernel) (pa_cons (pv 1) pa_nil)) pa_nil))) (fun _ _ => rfl))))))))
theorem ok_law_plain (B : Bl mg) (F : FunD K "_law_plain" "_law_plain" (defArgs s_law_plain) (defBody s_law_plain) (defScope s_law_plain) [] [] f fd) (gF : mg "_law_plain" = some (.ref f)) (m : Ok K N_law_plain T_law_plain (t_law_plain K)) : Has P w K mg base "_law_plain" 1 P_law_plain T_law_plain := by
  have len : ∀ ss m Q, T_law_plain ss m Q → ss.length = (P_law_plain).length := by
    intro ss m Q h
    repeat (obtain ⟨_, h⟩ := h)
    subst_vars
    rfl
  refine has_ok F gF sc_law_plain len (fun _ _ _ _ _ _ us hl => match us, hl with | [_, _], _ => rfl) m fun cdv A outer s H hg hr => ?_
  exact (pss_one (ps_ret (pe_op op_addD (pe_tup (pa_cons (pv 1) pa_nil)) (pe_op op_mulD (pe_tup (pa_cons pe_int pa_nil)) (pv 0)))))
theorem ok_law_form (B : Bl mg) (g_law_random : Has P w K mg base "_law_random" 2 P_law_random T_law_random) (F : FunD K "_law_form" "_law_form" (defArgs s_law_form) (defBody s_law_form) (defScope s_law_form) [] [] f fd) (gF : mg "_law_form" = some (.ref f)) (m : Ok K N_law_form T_law_form (t_law_form K)) : Has P w K mg base "_law_form" 3 P_law_form T_law_form := by
  have len : ∀ ss m Q, T_law_form ss m Q → ss.length = (P_law_form).length := by
    intro ss m Q h
    repeat (obtain ⟨_, h⟩ := h)
    subst_vars
    rfl
  refine has_ok F gF sc_law_form len (fun _ _ _ _ _ _ us hl => match us, hl with | [_, _, _], _ => rfl) m fun cdv A outer s H hg hr => ?_
  exact (pss_one (ps_ret (pe_callTy call_tupD (by rfl) B.tuple (by decide +kernel) (pa_cons (pe_lc (own := [("turn", 3)]) rfl sc_law_form.nd (pi_range1 (by rfl) B.range (pa_cons (pe_op op_addD (pv 1) pe_int) pa_nil)) (blkOk_by (own := [("turn", 3)]) (N := N_law_form) (sc := defScope s_law_form) (by decide +kernel)) (fun _ _ _ _ _ => (pg_name (i := 3) sc_law_form.nd rfl (by first | exact Or.inl rfl | exact Or.inr rfl))) (fun _ _ _ _ _ => pts_nil) (fun _ _ _ _ _ => (pe_U g_law_random hg (hr.mono (by decide)) (by rfl) (pa_cons (pv 0) (pa_cons (pe_op op_addD (pv 2) pe_int) pa_nil))))) pa_nil))))
theorem ok_law_piece (B : Bl mg) (g_law_random : Has P w K mg base "_law_random" 2 P_law_random T_law_random) (g_law_plain : Has P w K mg base "_law_plain" 1 P_law_plain T_law_plain) (g_law_word : Has P w K mg base "_law_word" 3 P_law_word T_law_word) (g_law_form : Has P w K mg base "_law_form" 3 P_law_form T_law_form) (F : FunD K "_law_piece" "_law_piece" (defArgs s_law_piece) (defBody s_law_piece) (defScope s_law_piece) [] [] f fd) (gF : mg "_law_piece" = some (.ref f)) (m : Ok K N_law_piece T_law_piece (t_law_piece K)) : Has P w K mg base "_law_piece" 4 P_law_piece T_law_piece := by
  have len : ∀ ss m Q, T_law_piece ss m Q → ss.length = (P_law_piece).length := by
    intro ss m Q h
    repeat (obtain ⟨_, h⟩ := h)
    subst_vars
    rfl
  refine has_ok F gF sc_law_piece len (fun _ _ _ _ _ _ us hl => match us, hl with | [_, _, _, _, _], _ => rfl) m fun cdv A outer s H hg hr => ?_
  exact (pss_cons (ps_par (i := 5) (j := 6) rfl sc_law_piece.nd rfl rfl (by decide) rfl rfl (pa_cons (pe_U g_law_random hg (hr.mono (by decide)) (by rfl) (pa_cons (pv 0) (pa_cons pe_int pa_nil))) (pa_cons (pe_U g_law_random hg (hr.mono (by decide)) (by rfl) (pa_cons (pv 0) (pa_cons pe_int pa_nil))) pa_nil)) rfl)
      (pss_cons (ps_set (i := 7) sc_law_piece.nd rfl (by first | exact Or.inl rfl | exact Or.inr rfl) (pe_slice sl_D (pe_op op_addD (pv 3) (pv 3)) (po_some (pe_op op_modD (pe_callTy call_intD (by rfl) B.int (by decide +kernel) (pa_cons (pv 6) pa_nil)) (pe_callB call_lenD (by rfl) B.len (by decide +kernel) (pa_cons (pv 3) pa_nil)))) (po_some (pe_op op_addD (pe_op op_modD (pe_callTy call_intD (by rfl) B.int (by decide +kernel) (pa_cons (pv 6) pa_nil)) (pe_callB call_lenD (by rfl) B.len (by decide +kernel) (pa_cons (pv 3) pa_nil))) (pe_callB call_lenD (by rfl) B.len (by decide +kernel) (pa_cons (pv 3) pa_nil))))))
      (pss_cons (ps_if (pt_cmpR (op_eqDD hr.units) (pv 5) pe_int (nomark _)) (pss_one (ps_ret (pe_tup (pa_cons (pe_U g_law_word hg (hr.mono (by decide)) (by rfl) (pa_cons (pv 0) (pa_cons (pv 2) (pa_cons pe_int (pa_cons pe_int pa_nil))))) (pa_cons (pe_U g_law_plain hg (hr.mono (by decide)) (by rfl) (pa_cons (pv 1) (pa_cons (pe_U g_law_random hg (hr.mono (by decide)) (by rfl) (pa_cons (pv 0) (pa_cons pe_int pa_nil))) pa_nil))) pa_nil))))) pss_nil)
      (pss_cons (ps_if (pt_cmpR (op_eqDD hr.units) (pv 5) pe_int (nomark _)) (pss_one (ps_ret (pe_tup (pa_cons (pe_op op_mulD (pv 7) (pe_op op_addD pe_int (pe_callTy call_intD (by rfl) B.int (by decide +kernel) (pa_cons (pe_cmpR (op_eqDD hr.units) (pv 6) pe_int (nomark _)) pa_nil)))) (pa_cons (pe_U g_law_form hg (hr.mono (by decide)) (by rfl) (pa_cons (pv 0) (pa_cons (pv 1) (pa_cons (pv 4) pa_nil)))) pa_nil))))) pss_nil)
      (pss_cons (ps_if (pt_cmpR (op_eqDD hr.units) (pv 5) pe_int (nomark _)) (pss_one (ps_ret (pe_tup (pa_cons (pe_slice sl_D (pe_op op_mulD (pv 7) pe_int) po_none (po_some (pe_U g_law_random hg (hr.mono (by decide)) (by rfl) (pa_cons (pv 0) (pa_cons (pe_op op_addD (pe_op op_mulD pe_int (pe_callB call_lenD (by rfl) B.len (by decide +kernel) (pa_cons (pv 3) pa_nil))) pe_int) pa_nil))))) (pa_cons (pe_U g_law_plain hg (hr.mono (by decide)) (by rfl) (pa_cons (pv 1) (pa_cons pe_int pa_nil))) pa_nil))))) pss_nil)
      (pss_cons (ps_if (pt_cmpR (op_eqDD hr.units) (pv 5) pe_int (nomark _)) (pss_one (ps_ret (pe_tup (pa_cons (pe_slice sl_D (pv 3) (po_some (pe_op op_subD (pe_callB call_lenD (by rfl) B.len (by decide +kernel) (pa_cons (pv 3) pa_nil)) pe_int)) po_none) (pa_cons (pe_U g_law_plain hg (hr.mono (by decide)) (by rfl) (pa_cons (pv 1) (pa_cons pe_int pa_nil))) pa_nil))))) pss_nil)
      (pss_cons (ps_if (pt_cmpR (op_eqDD hr.units) (pv 5) pe_int (nomark _)) (pss_one (ps_ret (pe_tup (pa_cons (pv 3) (pa_cons (pe_op op_addD (pe_tup (pa_cons pe_int pa_nil)) (pe_slice sl_D (pe_U g_law_form hg (hr.mono (by decide)) (by rfl) (pa_cons (pv 0) (pa_cons (pv 1) (pa_cons (pv 4) pa_nil)))) (po_some pe_int) po_none)) pa_nil))))) pss_nil)
      (pss_cons (ps_if (pt_cmpR (op_eqDD hr.units) (pv 5) pe_int (nomark _)) (pss_one (ps_ret (pe_tup (pa_cons (pe_ix ix_D (pv 2) (pe_U g_law_random hg (hr.mono (by decide)) (by rfl) (pa_cons (pv 0) (pa_cons pe_int pa_nil))) (fun _ _ => rfl)) (pa_cons (pe_U g_law_form hg (hr.mono (by decide)) (by rfl) (pa_cons (pv 0) (pa_cons (pv 1) (pa_cons (pv 4) pa_nil)))) pa_nil))))) pss_nil)
      (pss_one (ps_ret (pe_tup (pa_cons (pe_U g_law_word hg (hr.mono (by decide)) (by rfl) (pa_cons (pv 0) (pa_cons (pe_slice sl_D (pv 2) po_none (po_some pe_int)) (pa_cons pe_int (pa_cons pe_int pa_nil))))) (pa_cons (pe_U g_law_form hg (hr.mono (by decide)) (by rfl) (pa_cons (pv 0) (pa_cons (pv 1) (pa_cons (pv 4) pa_nil)))) pa_nil)))))))))))))
theorem ok_law_raw (B : Bl mg) (g_law_random : Has P w K mg base "_law_random" 2 P_law_random T_law_random) (g_law_word : Has P w K mg base "_law_word" 3 P_law_word T_law_word) (g_law_piece : Has P w K mg base "_law_piece" 4 P_law_piece T_law_piece) (F : FunD K "_law_raw" "_law_raw" (defArgs s_law_raw) (defBody s_law_raw) (defScope s_law_raw) [] [] f fd) (gF : mg "_law_raw" = some (.ref f)) (m : Ok K N_law_raw T_law_raw (t_law_raw K)) : Has P w K mg base "_law_raw" 5 P_law_raw T_law_raw := by
  have len : ∀ ss m Q, T_law_raw ss m Q → ss.length = (P_law_raw).length := by
    intro ss m Q h
    repeat (obtain ⟨_, h⟩ := h)
    subst_vars
    rfl
  refine has_ok F gF sc_law_raw len (fun _ _ _ _ _ _ us hl => match us, hl with | [_, _, _, _, _], _ => rfl) m fun cdv A outer s H hg hr => ?_
  exact (pss_cons (ps_par (i := 5) (j := 6) rfl sc_law_raw.nd rfl rfl (by decide) rfl rfl (pa_cons (pe_lst pa_nil) (pa_cons (pe_U g_law_word hg (hr.mono (by decide)) (by rfl) (pa_cons (pv 0) (pa_cons (pe_slice sl_D (pv 2) po_none (po_some (pe_op op_addD pe_int (pe_U g_law_random hg (hr.mono (by decide)) (by rfl) (pa_cons (pv 0) (pa_cons pe_int pa_nil)))))) (pa_cons pe_int (pa_cons pe_int pa_nil))))) pa_nil)) rfl)
      (pss_cons (ps_for PassesOwn.never rfl (pi_range1 (by rfl) B.range (pa_cons (pv 3) pa_nil)) (pg_name (i := 7) sc_law_raw.nd rfl (by first | exact Or.inl rfl | exact Or.inr rfl)) (pss_cons (ps_expr (pe_bm PySem.F.plainAttrs_list PySem.F.slot_list_append PySem.F.type_list_append mt_append (pv 5) (pa_cons (pe_U g_law_piece hg (hr.mono (by decide)) (by rfl) (pa_cons (pv 0) (pa_cons (pv 1) (pa_cons (pv 2) (pa_cons (pv 6) (pa_cons (pv 4) pa_nil)))))) pa_nil)))
      (pss_one (ps_if (pt_cmpR (op_eqDD hr.units) (pe_U g_law_random hg (hr.mono (by decide)) (by rfl) (pa_cons (pv 0) (pa_cons pe_int pa_nil))) pe_int (nomark _)) (pss_one (ps_set (i := 6) sc_law_raw.nd rfl (by first | exact Or.inl rfl | exact Or.inr rfl) (pe_U g_law_word hg (hr.mono (by decide)) (by rfl) (pa_cons (pv 0) (pa_cons (pv 2) (pa_cons pe_int (pa_cons pe_int pa_nil))))))) pss_nil))))
      (pss_one (ps_ret (pv 5)))))
theorem ok_is_whole (B : Bl mg) (F : FunD K "is_whole" "is_whole" (defArgs s_is_whole) (defBody s_is_whole) (defScope s_is_whole) [] [] f fd) (gF : mg "is_whole" = some (.ref f)) (m : Ok K N_is_whole T_is_whole (t_is_whole K)) : Has P w K mg base "is_whole" 1 P_is_whole T_is_whole := by
  have len : ∀ ss m Q, T_is_whole ss m Q → ss.length = (P_is_whole).length := by
    intro ss m Q h
    repeat (obtain ⟨_, h⟩ := h)
    subst_vars
    rfl
  refine has_ok F gF sc_is_whole len (fun _ _ _ _ _ _ us hl => match us, hl with | [_], _ => rfl) m fun cdv A outer s H hg hr => ?_
  exact (pss_one (ps_ret (pe_and (pe_callB call_isiD (by rfl) B.isinstance (by decide +kernel) (pa_cons (pv 0) (pa_cons (pe_bltn rfl B.int (by decide +kernel) rfl) pa_nil))) (pe_one (pe_not (pe_callB call_isiD (by rfl) B.isinstance (by decide +kernel) (pa_cons (pv 0) (pa_cons (pe_bltn rfl B.bool (by decide +kernel) rfl) pa_nil))))))))
theorem ok_is_between (B : Bl mg) (g_is_whole : Has P w K mg base "is_whole" 1 P_is_whole T_is_whole) (F : FunD K "is_between" "is_between" (defArgs s_is_between) (defBody s_is_between) (defScope s_is_between) [] [] f fd) (gF : mg "is_between" = some (.ref f)) (m : Ok K N_is_between T_is_between (t_is_between K)) : Has P w K mg base "is_between" 2 P_is_between T_is_between := by
  have len : ∀ ss m Q, T_is_between ss m Q → ss.length = (P_is_between).length := by
    intro ss m Q h
    repeat (obtain ⟨_, h⟩ := h)
    subst_vars
    rfl
  refine has_ok F gF sc_is_between len (fun _ _ _ _ _ _ us hl => match us, hl with | [_, _, _], _ => rfl) m fun cdv A outer s H hg hr => ?_
  exact (pss_one (ps_ret (pe_and (pe_U g_is_whole hg (hr.mono (by decide)) (by rfl) (pa_cons (pv 0) pa_nil)) (pe_and (pe_cmpR op_leD (pv 1) (pv 0) (nomark _)) (pe_one (pe_or (pe_cmpR op_isD (pv 2) pe_non (nomark _)) (pe_one (pe_cmpR op_leD (pv 0) (pv 2) (nomark _)))))))))
theorem ok_check_number (B : Bl mg) (g_is_between : Has P w K mg base "is_between" 2 P_is_between T_is_between) (F : FunD K "check_number" "check_number" (defArgs s_check_number) (defBody s_check_number) (defScope s_check_number) [] [] f fd) (gF : mg "check_number" = some (.ref f)) (m : Ok K N_check_number T_check_number (t_check_number K)) : Has P w K mg base "check_number" 3 P_check_number T_check_number := by
  have len : ∀ ss m Q, T_check_number ss m Q → ss.length = (P_check_number).length := by
    intro ss m Q h
    repeat (obtain ⟨_, h⟩ := h)
    subst_vars
    rfl
  refine has_ok F gF sc_check_number len (fun _ _ _ _ _ _ us hl => match us, hl with | [_, _, _], _ => rfl) m fun cdv A outer s H hg hr => ?_
  exact (pss_one (ps_if (pt_not (pt_val (pe_U g_is_between hg (hr.mono (by decide)) (by rfl) (pa_cons (pv 0) (pa_cons (pv 1) (pa_cons (pv 2) pa_nil)))))) (pss_one ps_never) pss_nil))
theorem ok_check_many (B : Bl mg) (cMOST_UNKNOWNS0 : ∃ t, mg "MOST_UNKNOWNS" = some (.int 3 t)) (g_check_number : Has P w K mg base "check_number" 3 P_check_number T_check_number) (F : FunD K "check_many" "check_many" (defArgs s_check_many) (defBody s_check_many) (defScope s_check_many) [] [] f fd) (gF : mg "check_many" = some (.ref f)) (m : Ok K N_check_many T_check_many (t_check_many K)) : Has P w K mg base "check_many" 4 P_check_many T_check_many := by
  obtain ⟨tMOST_UNKNOWNS, cMOST_UNKNOWNS⟩ := cMOST_UNKNOWNS0
  have len : ∀ ss m Q, T_check_many ss m Q → ss.length = (P_check_many).length := by
    intro ss m Q h
    repeat (obtain ⟨_, h⟩ := h)
    subst_vars
    rfl
  refine has_ok F gF sc_check_many len (fun _ _ _ _ _ _ us hl => match us, hl with | [_], _ => rfl) m fun cdv A outer s H hg hr => ?_
  exact (pss_one (ps_expr (pe_U g_check_number hg (hr.mono (by decide)) (by rfl) (pa_cons (pv 0) (pa_cons pe_int (pa_cons (pe_glob rfl cMOST_UNKNOWNS ⟨_, rfl⟩) pa_nil))))))
theorem ok_is_letters (B : Bl mg) (cLETTERS0 : ∃ t, mg "LETTERS" = some (.str ("abcdefghijklmnopqrstuvwxyz" : Str) t)) (F : FunD K "is_letters" "is_letters" (defArgs s_is_letters) (defBody s_is_letters) (defScope s_is_letters) [] [] f fd) (gF : mg "is_letters" = some (.ref f)) (m : Ok K N_is_letters T_is_letters (t_is_letters K)) : Has P w K mg base "is_letters" 1 P_is_letters T_is_letters := by
  obtain ⟨tLETTERS, cLETTERS⟩ := cLETTERS0
  have len : ∀ ss m Q, T_is_letters ss m Q → ss.length = (P_is_letters).length := by
    intro ss m Q h
    repeat (obtain ⟨_, h⟩ := h)
    subst_vars
    rfl
  refine has_ok F gF sc_is_letters len (fun _ _ _ _ _ _ us hl => match us, hl with | [_, _], _ => rfl) m fun cdv A outer s H hg hr => ?_
  exact (pss_one (ps_ret (pe_and (pe_callB call_isiD (by rfl) B.isinstance (by decide +kernel) (pa_cons (pv 0) (pa_cons (pe_bltn rfl B.str (by decide +kernel) rfl) pa_nil))) (pe_and (pe_cmpR op_leD (pe_callB call_lenD (by rfl) B.len (by decide +kernel) (pa_cons (pv 0) pa_nil)) (pv 1) (nomark _)) (pe_one (pe_cmpR (op_eqDD hr.units) (pe_bm PySem.F.plainAttrs_str PySem.F.slot_str_strip PySem.F.type_str_strip mt_stripChars (pv 0) (pa_cons (pe_glob rfl cLETTERS ⟨_, rfl⟩) pa_nil)) pe_str (nomark _)))))))
theorem ok_are_counts (B : Bl mg) (g_is_between : Has P w K mg base "is_between" 2 P_is_between T_is_between) (F : FunD K "are_counts" "are_counts" (defArgs s_are_counts) (defBody s_are_counts) (defScope s_are_counts) [] [] f fd) (gF : mg "are_counts" = some (.ref f)) (m : Ok K N_are_counts T_are_counts (t_are_counts K)) : Has P w K mg base "are_counts" 3 P_are_counts T_are_counts := by
  have len : ∀ ss m Q, T_are_counts ss m Q → ss.length = (P_are_counts).length := by
    intro ss m Q h
    repeat (obtain ⟨_, h⟩ := h)
    subst_vars
    rfl
  refine has_ok F gF sc_are_counts len (fun _ _ _ _ _ _ us hl => match us, hl with | [_], _ => rfl) m fun cdv A outer s H hg hr => ?_
  exact (pss_one (ps_ret (pe_cmpR (op_eqDD hr.units) (pe_lc (own := [("item", 1)]) rfl sc_are_counts.nd (pi_D (pv 0)) (blkOk_by (own := [("item", 1)]) (N := N_are_counts) (sc := defScope s_are_counts) (by decide +kernel)) (fun _ _ _ _ _ => (pg_name (i := 1) sc_are_counts.nd rfl (by first | exact Or.inl rfl | exact Or.inr rfl))) (fun _ _ _ _ _ => (pts_one (pt_not (pt_val (pe_U g_is_between hg (hr.mono (by decide)) (by rfl) (pa_cons (pv 1) (pa_cons pe_int (pa_cons pe_non pa_nil)))))))) (fun _ _ _ _ _ => (pv 1))) (pe_lst pa_nil) (nomark _))))
theorem ok_is_form_for (B : Bl mg) (g_are_counts : Has P w K mg base "are_counts" 3 P_are_counts T_are_counts) (F : FunD K "is_form_for" "is_form_for" (defArgs s_is_form_for) (defBody s_is_form_for) (defScope s_is_form_for) [] [] f fd) (gF : mg "is_form_for" = some (.ref f)) (m : Ok K N_is_form_for T_is_form_for (t_is_form_for K)) : Has P w K mg base "is_form_for" 4 P_is_form_for T_is_form_for := by
  have len : ∀ ss m Q, T_is_form_for ss m Q → ss.length = (P_is_form_for).length := by
    intro ss m Q h
    repeat (obtain ⟨_, h⟩ := h)
    subst_vars
    rfl
  refine has_ok F gF sc_is_form_for len (fun _ _ _ _ _ _ us hl => match us, hl with | [_, _], _ => rfl) m fun cdv A outer s H hg hr => ?_
  exact (pss_one (ps_ret (pe_and (pe_callB call_isiD (by rfl) B.isinstance (by decide +kernel) (pa_cons (pv 1) (pa_cons (pe_bltn rfl B.tuple (by decide +kernel) rfl) pa_nil))) (pe_and (pe_cmpR (op_eqDD hr.units) (pe_callB call_lenD (by rfl) B.len (by decide +kernel) (pa_cons (pv 1) pa_nil)) (pe_op op_addD (pv 0) pe_int) (nomark _)) (pe_one (pe_U g_are_counts hg (hr.mono (by decide)) (by rfl) (pa_cons (pv 1) pa_nil)))))))
theorem ok_is_piece (B : Bl mg) (cMOST_PIECE_LETTERS0 : ∃ t, mg "MOST_PIECE_LETTERS" = some (.int 2000 t)) (g_is_letters : Has P w K mg base "is_letters" 1 P_is_letters T_is_letters) (g_is_form_for : Has P w K mg base "is_form_for" 4 P_is_form_for T_is_form_for) (F : FunD K "is_piece" "is_piece" (defArgs s_is_piece) (defBody s_is_piece) (defScope s_is_piece) [] [] f fd) (gF : mg "is_piece" = some (.ref f)) (m : Ok K N_is_piece T_is_piece (t_is_piece K)) : Has P w K mg base "is_piece" 5 P_is_piece T_is_piece := by
  obtain ⟨tMOST_PIECE_LETTERS, cMOST_PIECE_LETTERS⟩ := cMOST_PIECE_LETTERS0
  have len : ∀ ss m Q, T_is_piece ss m Q → ss.length = (P_is_piece).length := by
    intro ss m Q h
    repeat (obtain ⟨_, h⟩ := h)
    subst_vars
    rfl
  refine has_ok F gF sc_is_piece len (fun _ _ _ _ _ _ us hl => match us, hl with | [_, _], _ => rfl) m fun cdv A outer s H hg hr => ?_
  exact (pss_cons (ps_if (PW.pt (pw_or (pt_not (pt_val (pe_callB call_isiD (by rfl) B.isinstance (by decide +kernel) (pa_cons (pv 1) (pa_cons (pe_bltn rfl B.tuple (by decide +kernel) rfl) pa_nil))))) (pw_or1 (pt_cmpR (op_neDD hr.units) (pe_callB call_lenD (by rfl) B.len (by decide +kernel) (pa_cons (pv 1) pa_nil)) pe_int (nomark _))))) (pss_one (ps_ret pe_bl)) pss_nil)
      (pss_one (ps_ret (pe_and (pe_U g_is_letters hg (hr.mono (by decide)) (by rfl) (pa_cons (pe_ix ix_D (pv 1) pe_int (fun _ _ => rfl)) (pa_cons (pe_glob rfl cMOST_PIECE_LETTERS ⟨_, rfl⟩) pa_nil))) (pe_one (pe_U g_is_form_for hg (hr.mono (by decide)) (by rfl) (pa_cons (pv 0) (pa_cons (pe_ix ix_D (pv 1) pe_int (fun _ _ => rfl)) pa_nil))))))))
theorem ok_is_open_form (B : Bl mg) (F : FunD K "is_open_form" "is_open_form" (defArgs s_is_open_form) (defBody s_is_open_form) (defScope s_is_open_form) [] [] f fd) (gF : mg "is_open_form" = some (.ref f)) (m : Ok K N_is_open_form T_is_open_form (t_is_open_form K)) : Has P w K mg base "is_open_form" 1 P_is_open_form T_is_open_form := by
  have len : ∀ ss m Q, T_is_open_form ss m Q → ss.length = (P_is_open_form).length := by
    intro ss m Q h
    repeat (obtain ⟨_, h⟩ := h)
    subst_vars
    rfl
  refine has_ok F gF sc_is_open_form len (fun _ _ _ _ _ _ us hl => match us, hl with | [_], _ => rfl) m fun cdv A outer s H hg hr => ?_
  exact (pss_one (ps_ret (pe_cmpR op_gtD (pe_callB (call_sumD rfl) (by rfl) B.sum (by decide +kernel) (pa_cons (pe_slice sl_D (pv 0) (po_some pe_int) po_none) pa_nil)) pe_int (nomark _))))
theorem ok_measure (B : Bl mg) (g_is_open_form : Has P w K mg base "is_open_form" 1 P_is_open_form T_is_open_form) (F : FunD K "measure" "measure" (defArgs s_measure) (defBody s_measure) (defScope s_measure) [] [] f fd) (gF : mg "measure" = some (.ref f)) (m : Ok K N_measure T_measure (t_measure K)) : Has P w K mg base "measure" 2 P_measure T_measure := by
  have len : ∀ ss m Q, T_measure ss m Q → ss.length = (P_measure).length := by
    intro ss m Q h
    repeat (obtain ⟨_, h⟩ := h)
    subst_vars
    rfl
  refine has_ok F gF sc_measure len (fun _ _ _ _ _ _ us hl => match us, hl with | [_], _ => rfl) m fun cdv A outer s H hg hr => ?_
  exact (pss_one (ps_ret (pe_callB (call_sumD rfl) (by rfl) B.sum (by decide +kernel) (pa_cons (pe_lc (own := [("word", 1), ("form", 2)]) rfl sc_measure.nd (pi_D (pv 0)) (blkOk_by (own := [("word", 1), ("form", 2)]) (N := N_measure) (sc := defScope s_measure) (by decide +kernel)) (fun _ _ _ _ _ => (pg_tup rfl (pgs_cons (pg_name (i := 1) sc_measure.nd rfl (by first | exact Or.inl rfl | exact Or.inr rfl)) (pgs_cons (pg_name (i := 2) sc_measure.nd rfl (by first | exact Or.inl rfl | exact Or.inr rfl)) pgs_nil)))) (fun _ _ _ _ _ => pts_nil) (fun _ _ _ _ _ => (pe_op op_mulD (pe_callB call_lenD (by rfl) B.len (by decide +kernel) (pa_cons (pv 1) pa_nil)) (pe_op op_addD (pe_ix ix_D (pv 2) pe_int (fun _ _ => rfl)) (pe_callTy call_intD (by rfl) B.int (by decide +kernel) (pa_cons (pe_U g_is_open_form hg (hr.mono (by decide)) (by rfl) (pa_cons (pv 2) pa_nil)) pa_nil)))))) pa_nil))))
theorem ok_check_pieces (B : Bl mg) (cMOST_PIECES0 : ∃ t, mg "MOST_PIECES" = some (.int 5000 t)) (cMOST_MEASURE0 : ∃ t, mg "MOST_MEASURE" = some (.int 2000 t)) (g_check_many : Has P w K mg base "check_many" 4 P_check_many T_check_many) (g_is_piece : Has P w K mg base "is_piece" 5 P_is_piece T_is_piece) (g_measure : Has P w K mg base "measure" 2 P_measure T_measure) (F : FunD K "check_pieces" "check_pieces" (defArgs s_check_pieces) (defBody s_check_pieces) (defScope s_check_pieces) [] [] f fd) (gF : mg "check_pieces" = some (.ref f)) (m : Ok K N_check_pieces T_check_pieces (t_check_pieces K)) : Has P w K mg base "check_pieces" 6 P_check_pieces T_check_pieces := by
  obtain ⟨tMOST_PIECES, cMOST_PIECES⟩ := cMOST_PIECES0
  obtain ⟨tMOST_MEASURE, cMOST_MEASURE⟩ := cMOST_MEASURE0
  have len : ∀ ss m Q, T_check_pieces ss m Q → ss.length = (P_check_pieces).length := by
    intro ss m Q h
    repeat (obtain ⟨_, h⟩ := h)
    subst_vars
    rfl
  refine has_ok F gF sc_check_pieces len (fun _ _ _ _ _ _ us hl => match us, hl with | [_, _], _ => rfl) m fun cdv A outer s H hg hr => ?_
  exact (pss_cons (ps_expr (pe_U g_check_many hg (hr.mono (by decide)) (by rfl) (pa_cons (pv 0) pa_nil)))
      (pss_cons (ps_if (PW.pt (pw_or (pt_not (pt_val (pe_callB call_isiD (by rfl) B.isinstance (by decide +kernel) (pa_cons (pv 1) (pa_cons (pe_bltn rfl B.list (by decide +kernel) rfl) pa_nil))))) (pw_or1 (pt_cmpR op_gtD (pe_callB call_lenD (by rfl) B.len (by decide +kernel) (pa_cons (pv 1) pa_nil)) (pe_glob rfl cMOST_PIECES ⟨_, rfl⟩) (nomark _))))) (pss_one ps_never) pss_nil)
      (pss_cons (ps_for PassesOwn.never rfl (pi_D (pv 1)) (pg_name (i := 2) sc_check_pieces.nd rfl (by first | exact Or.inl rfl | exact Or.inr rfl)) (pss_one (ps_if (pt_not (pt_val (pe_U g_is_piece hg (hr.mono (by decide)) (by rfl) (pa_cons (pv 0) (pa_cons (pv 2) pa_nil))))) (pss_one ps_never) pss_nil)))
      (pss_one (ps_if (pt_cmpR op_gtD (pe_U g_measure hg (hr.mono (by decide)) (by rfl) (pa_cons (pv 1) pa_nil)) (pe_glob rfl cMOST_MEASURE ⟨_, rfl⟩) (nomark _)) (pss_one ps_never) pss_nil)))))
theorem ok_plain (B : Bl mg) (F : FunD K "plain" "plain" (defArgs s_plain) (defBody s_plain) (defScope s_plain) [] [] f fd) (gF : mg "plain" = some (.ref f)) (m : Ok K N_plain T_plain (t_plain K)) : Has P w K mg base "plain" 1 P_plain T_plain := by
  have len : ∀ ss m Q, T_plain ss m Q → ss.length = (P_plain).length := by
    intro ss m Q h
    repeat (obtain ⟨_, h⟩ := h)
    subst_vars
    rfl
  refine has_ok F gF sc_plain len (fun _ _ _ _ _ _ us hl => match us, hl with | [_, _], _ => rfl) m fun cdv A outer s H hg hr => ?_
  exact (pss_one (ps_ret (pe_op op_addD (pe_tup (pa_cons (pv 1) pa_nil)) (pe_op op_mulD (pe_tup (pa_cons pe_int pa_nil)) (pv 0)))))
theorem ok_check_full_word (B : Bl mg) (g_is_letters : Has P w K mg base "is_letters" 1 P_is_letters T_is_letters) (F : FunD K "check_full_word" "check_full_word" (defArgs s_check_full_word) (defBody s_check_full_word) (defScope s_check_full_word) [] [] f fd) (gF : mg "check_full_word" = some (.ref f)) (m : Ok K N_check_full_word T_check_full_word (t_check_full_word K)) : Has P w K mg base "check_full_word" 2 P_check_full_word T_check_full_word := by
  have len : ∀ ss m Q, T_check_full_word ss m Q → ss.length = (P_check_full_word).length := by
    intro ss m Q h
    repeat (obtain ⟨_, h⟩ := h)
    subst_vars
    rfl
  refine has_ok F gF sc_check_full_word len (fun _ _ _ _ _ _ us hl => match us, hl with | [_, _], _ => rfl) m fun cdv A outer s H hg hr => ?_
  exact (pss_one (ps_if (PW.pt (pw_or (pt_not (pt_val (pe_U g_is_letters hg (hr.mono (by decide)) (by rfl) (pa_cons (pv 0) (pa_cons (pv 1) pa_nil))))) (pw_or1 (pt_cmpR (op_eqDD hr.units) (pv 0) pe_str (nomark _))))) (pss_one ps_never) pss_nil))
theorem ok_borders (B : Bl mg) (F : FunD K "borders" "borders" (defArgs s_borders) (defBody s_borders) (defScope s_borders) [] [] f fd) (gF : mg "borders" = some (.ref f)) (m : Ok K N_borders T_borders (t_borders K)) : Has P w K mg base "borders" 1 P_borders T_borders := by
  have len : ∀ ss m Q, T_borders ss m Q → ss.length = (P_borders).length := by
    intro ss m Q h
    repeat (obtain ⟨_, h⟩ := h)
    subst_vars
    rfl
  refine has_ok F gF sc_borders len (fun _ _ _ _ _ _ us hl => match us, hl with | [_], _ => rfl) m fun cdv A outer s H hg hr => ?_
  exact (pss_cons (ps_set (i := 1) sc_borders.nd rfl (by first | exact Or.inl rfl | exact Or.inr rfl) (pe_lst (pa_cons pe_int pa_nil)))
      (pss_cons (ps_for PassesOwn.never rfl (pi_range2 (by rfl) B.range (pa_cons pe_int (pa_cons (pe_callB call_lenD (by rfl) B.len (by decide +kernel) (pa_cons (pv 0) pa_nil)) pa_nil))) (pg_name (i := 2) sc_borders.nd rfl (by first | exact Or.inl rfl | exact Or.inr rfl)) (pss_cons (ps_set (i := 3) sc_borders.nd rfl (by first | exact Or.inl rfl | exact Or.inr rfl) (pe_ix ix_D (pv 1) (pe_op op_subD (pv 2) pe_int) (fun _ _ => rfl)))
      (pss_cons (ps_while PassesOwn.never (PW.pt (pw_and (pt_cmpR op_gtD (pv 3) pe_int (nomark _)) (pw_and1 (pt_cmpR (op_neDD hr.units) (pe_ix ix_D (pv 0) (pv 2) (fun _ _ => rfl)) (pe_ix ix_D (pv 0) (pv 3) (fun _ _ => rfl)) (nomark _))))) (pss_one (ps_set (i := 3) sc_borders.nd rfl (by first | exact Or.inl rfl | exact Or.inr rfl) (pe_ix ix_D (pv 1) (pe_op op_subD (pv 3) pe_int) (fun _ _ => rfl)))))
      (pss_cons (ps_if (pt_cmpR (op_eqDD hr.units) (pe_ix ix_D (pv 0) (pv 2) (fun _ _ => rfl)) (pe_ix ix_D (pv 0) (pv 3) (fun _ _ => rfl)) (nomark _)) (pss_one (ps_set (i := 3) sc_borders.nd rfl (by first | exact Or.inl rfl | exact Or.inr rfl) (pe_op op_addD (pv 3) pe_int))) pss_nil)
      (pss_one (ps_expr (pe_bm PySem.F.plainAttrs_list PySem.F.slot_list_append PySem.F.type_list_append mt_append (pv 1) (pa_cons (pv 3) pa_nil))))))))
      (pss_one (ps_ret (pv 1)))))
theorem ok_period_of (B : Bl mg) (g_borders : Has P w K mg base "borders" 1 P_borders T_borders) (F : FunD K "period_of" "period_of" (defArgs s_period_of) (defBody s_period_of) (defScope s_period_of) [] [] f fd) (gF : mg "period_of" = some (.ref f)) (m : Ok K N_period_of T_period_of (t_period_of K)) : Has P w K mg base "period_of" 2 P_period_of T_period_of := by
  have len : ∀ ss m Q, T_period_of ss m Q → ss.length = (P_period_of).length := by
    intro ss m Q h
    repeat (obtain ⟨_, h⟩ := h)
    subst_vars
    rfl
  refine has_ok F gF sc_period_of len (fun _ _ _ _ _ _ us hl => match us, hl with | [_], _ => rfl) m fun cdv A outer s H hg hr => ?_
  exact (pss_one (ps_ret (pe_op op_subD (pe_callB call_lenD (by rfl) B.len (by decide +kernel) (pa_cons (pv 0) pa_nil)) (pe_ix ix_D (pe_U g_borders hg (hr.mono (by decide)) (by rfl) (pa_cons (pv 0) pa_nil)) (pe_un un_negD pe_int) (fun _ _ => rfl)))))
theorem ok_root (B : Bl mg) (cMOST_LETTERS0 : ∃ t, mg "MOST_LETTERS" = some (.int 20000 t)) (g_check_full_word : Has P w K mg base "check_full_word" 2 P_check_full_word T_check_full_word) (g_period_of : Has P w K mg base "period_of" 2 P_period_of T_period_of) (F : FunD K "root" "root" (defArgs s_root) (defBody s_root) (defScope s_root) [] [] f fd) (gF : mg "root" = some (.ref f)) (m : Ok K N_root T_root (t_root K)) : Has P w K mg base "root" 3 P_root T_root := by
  obtain ⟨tMOST_LETTERS, cMOST_LETTERS⟩ := cMOST_LETTERS0
  have len : ∀ ss m Q, T_root ss m Q → ss.length = (P_root).length := by
    intro ss m Q h
    repeat (obtain ⟨_, h⟩ := h)
    subst_vars
    rfl
  refine has_ok F gF sc_root len (fun _ _ _ _ _ _ us hl => match us, hl with | [_], _ => rfl) m fun cdv A outer s H hg hr => ?_
  exact (pss_cons (ps_expr (pe_U g_check_full_word hg (hr.mono (by decide)) (by rfl) (pa_cons (pv 0) (pa_cons (pe_glob rfl cMOST_LETTERS ⟨_, rfl⟩) pa_nil))))
      (pss_cons (ps_set (i := 1) sc_root.nd rfl (by first | exact Or.inl rfl | exact Or.inr rfl) (pe_U g_period_of hg (hr.mono (by decide)) (by rfl) (pa_cons (pv 0) pa_nil)))
      (pss_cons (ps_if (pt_cmpR (op_neDD hr.units) (pe_op op_modD (pe_callB call_lenD (by rfl) B.len (by decide +kernel) (pa_cons (pv 0) pa_nil)) (pv 1)) pe_int (nomark _)) (pss_one (ps_ret (pe_tup (pa_cons (pv 0) (pa_cons pe_int pa_nil))))) pss_nil)
      (pss_one (ps_ret (pe_tup (pa_cons (pe_slice sl_D (pv 0) po_none (po_some (pv 1))) (pa_cons (pe_op op_fdivD (pe_callB call_lenD (by rfl) B.len (by decide +kernel) (pa_cons (pv 0) pa_nil)) (pv 1)) pa_nil))))))))
theorem ok_form_times (B : Bl mg) (F : FunD K "form_times" "form_times" (defArgs s_form_times) (defBody s_form_times) (defScope s_form_times) [] [] f fd) (gF : mg "form_times" = some (.ref f)) (m : Ok K N_form_times T_form_times (t_form_times K)) : Has P w K mg base "form_times" 1 P_form_times T_form_times := by
  have len : ∀ ss m Q, T_form_times ss m Q → ss.length = (P_form_times).length := by
    intro ss m Q h
    repeat (obtain ⟨_, h⟩ := h)
    subst_vars
    rfl
  refine has_ok F gF sc_form_times len (fun _ _ _ _ _ _ us hl => match us, hl with | [_, _], _ => rfl) m fun cdv A outer s H hg hr => ?_
  exact (pss_one (ps_ret (pe_callTy call_tupD (by rfl) B.tuple (by decide +kernel) (pa_cons (pe_lc (own := [("item", 2)]) rfl sc_form_times.nd (pi_D (pv 1)) (blkOk_by (own := [("item", 2)]) (N := N_form_times) (sc := defScope s_form_times) (by decide +kernel)) (fun _ _ _ _ _ => (pg_name (i := 2) sc_form_times.nd rfl (by first | exact Or.inl rfl | exact Or.inr rfl))) (fun _ _ _ _ _ => pts_nil) (fun _ _ _ _ _ => (pe_op op_mulD (pv 0) (pv 2)))) pa_nil))))
theorem ok_going_back (B : Bl mg) (F : FunD K "going_back" "going_back" (defArgs s_going_back) (defBody s_going_back) (defScope s_going_back) [] [] f fd) (gF : mg "going_back" = some (.ref f)) (m : Ok K N_going_back T_going_back (t_going_back K)) : Has P w K mg base "going_back" 1 P_going_back T_going_back := by
  have len : ∀ ss m Q, T_going_back ss m Q → ss.length = (P_going_back).length := by
    intro ss m Q h
    repeat (obtain ⟨_, h⟩ := h)
    subst_vars
    rfl
  refine has_ok F gF sc_going_back len (fun _ _ _ _ _ _ us hl => match us, hl with | [_, _], _ => rfl) m fun cdv A outer s H hg hr => ?_
  exact (pss_cons (ps_set (i := 2) sc_going_back.nd rfl (by first | exact Or.inl rfl | exact Or.inr rfl) pe_int)
      (pss_cons (ps_while PassesOwn.never (PW.pt (pw_and (pt_cmpR op_ltD (pv 2) (pe_callB call_lenD (by rfl) B.len (by decide +kernel) (pa_cons (pv 1) pa_nil)) (nomark _)) (pw_and1 (pt_cmpR (op_eqDD hr.units) (pe_ix ix_D (pv 1) (pe_op op_subD (pe_op op_subD (pe_callB call_lenD (by rfl) B.len (by decide +kernel) (pa_cons (pv 1) pa_nil)) pe_int) (pv 2)) (fun _ _ => rfl)) (pe_ix ix_D (pv 0) (pe_op op_subD (pe_op op_subD (pe_callB call_lenD (by rfl) B.len (by decide +kernel) (pa_cons (pv 0) pa_nil)) pe_int) (pe_op op_modD (pv 2) (pe_callB call_lenD (by rfl) B.len (by decide +kernel) (pa_cons (pv 0) pa_nil)))) (fun _ _ => rfl)) (nomark _))))) (pss_one (ps_set (i := 2) sc_going_back.nd rfl (by first | exact Or.inl rfl | exact Or.inr rfl) (pe_op op_addD (pv 2) pe_int))))
      (pss_one (ps_ret (pv 2)))))
theorem ok_turned_back (B : Bl mg) (F : FunD K "turned_back" "turned_back" (defArgs s_turned_back) (defBody s_turned_back) (defScope s_turned_back) [] [] f fd) (gF : mg "turned_back" = some (.ref f)) (m : Ok K N_turned_back T_turned_back (t_turned_back K)) : Has P w K mg base "turned_back" 1 P_turned_back T_turned_back := by
  have len : ∀ ss m Q, T_turned_back ss m Q → ss.length = (P_turned_back).length := by
    intro ss m Q h
    repeat (obtain ⟨_, h⟩ := h)
    subst_vars
    rfl
  refine has_ok F gF sc_turned_back len (fun _ _ _ _ _ _ us hl => match us, hl with | [_, _], _ => rfl) m fun cdv A outer s H hg hr => ?_
  exact (pss_cons (ps_set (i := 2) sc_turned_back.nd rfl (by first | exact Or.inl rfl | exact Or.inr rfl) (pe_op op_subD (pe_callB call_lenD (by rfl) B.len (by decide +kernel) (pa_cons (pv 0) pa_nil)) (pe_op op_modD (pv 1) (pe_callB call_lenD (by rfl) B.len (by decide +kernel) (pa_cons (pv 0) pa_nil)))))
      (pss_one (ps_ret (pe_op op_addD (pe_slice sl_D (pv 0) (po_some (pv 2)) po_none) (pe_slice sl_D (pv 0) po_none (po_some (pv 2)))))))
theorem ok_push_word (B : Bl mg) (F : FunD K "push_word" "push_word" (defArgs s_push_word) (defBody s_push_word) (defScope s_push_word) [] [] f fd) (gF : mg "push_word" = some (.ref f)) (m : Ok K N_push_word T_push_word (t_push_word K)) : Has P w K mg base "push_word" 1 P_push_word T_push_word := by
  have len : ∀ ss m Q, T_push_word ss m Q → ss.length = (P_push_word).length := by
    intro ss m Q h
    repeat (obtain ⟨_, h⟩ := h)
    subst_vars
    rfl
  refine has_ok F gF sc_push_word len (fun _ _ _ _ _ _ us hl => match us, hl with | [_, _, _], _ => rfl) m fun cdv A outer s H hg hr => ?_
  exact (pss_one (ps_if (pt_cmpR (op_neDD hr.units) (pv 1) pe_str (nomark _)) (pss_one (ps_if (PW.pt (pw_and (pt_cmpR (op_neDD hr.units) (pv 0) (pe_lst pa_nil) (nomark _)) (pw_and1 (pt_cmpR (op_eqDD hr.units) (pe_ix ix_D (pe_ix ix_D (pv 0) (pe_un un_negD pe_int) (fun _ _ => rfl)) pe_int (fun _ _ => rfl)) (pv 2) (nomark _))))) (pss_one (ps_asg (pe_tup (pa_cons (pe_op op_addD (pe_ix ix_D (pe_ix ix_D (pv 0) (pe_un un_negD pe_int) (fun _ _ => rfl)) pe_int (fun _ _ => rfl)) (pv 1)) (pa_cons (pv 2) pa_nil))) (pg_sub (pv 0) (pe_un un_negD pe_int) set_list))) (pss_one (ps_expr (pe_bm PySem.F.plainAttrs_list PySem.F.slot_list_append PySem.F.type_list_append mt_append (pv 0) (pa_cons (pe_tup (pa_cons (pv 1) (pa_cons (pv 2) pa_nil))) pa_nil)))))) pss_nil))
theorem ok_form_sum (B : Bl mg) (F : FunD K "form_sum" "form_sum" (defArgs s_form_sum) (defBody s_form_sum) (defScope s_form_sum) [] [] f fd) (gF : mg "form_sum" = some (.ref f)) (m : Ok K N_form_sum T_form_sum (t_form_sum K)) : Has P w K mg base "form_sum" 1 P_form_sum T_form_sum := by
  have len : ∀ ss m Q, T_form_sum ss m Q → ss.length = (P_form_sum).length := by
    intro ss m Q h
    repeat (obtain ⟨_, h⟩ := h)
    subst_vars
    rfl
  refine has_ok F gF sc_form_sum len (fun _ _ _ _ _ _ us hl => match us, hl with | [_, _], _ => rfl) m fun cdv A outer s H hg hr => ?_
  exact (pss_one (ps_ret (pe_callTy call_tupD (by rfl) B.tuple (by decide +kernel) (pa_cons (pe_lc (own := [("low", 2), ("high", 3)]) rfl sc_form_sum.nd (pi_zipS (by rfl) B.zip (pa_cons (pv 0) (pa_cons (pv 1) pa_nil))) (blkOk_by (own := [("low", 2), ("high", 3)]) (N := N_form_sum) (sc := defScope s_form_sum) (by decide +kernel)) (fun _ _ _ _ _ => (pg_tup rfl (pgs_cons (pg_name (i := 2) sc_form_sum.nd rfl (by first | exact Or.inl rfl | exact Or.inr rfl)) (pgs_cons (pg_name (i := 3) sc_form_sum.nd rfl (by first | exact Or.inl rfl | exact Or.inr rfl)) pgs_nil)))) (fun _ _ _ _ _ => pts_nil) (fun _ _ _ _ _ => (pe_op op_addD (pv 2) (pv 3)))) pa_nil))))
theorem ok_push_power (B : Bl mg) (g_going_back : Has P w K mg base "going_back" 1 P_going_back T_going_back) (g_turned_back : Has P w K mg base "turned_back" 1 P_turned_back T_turned_back) (g_push_word : Has P w K mg base "push_word" 1 P_push_word T_push_word) (g_form_sum : Has P w K mg base "form_sum" 1 P_form_sum T_form_sum) (F : FunD K "push_power" "push_power" (defArgs s_push_power) (defBody s_push_power) (defScope s_push_power) [] [] f fd) (gF : mg "push_power" = some (.ref f)) (m : Ok K N_push_power T_push_power (t_push_power K)) : Has P w K mg base "push_power" 2 P_push_power T_push_power := by
  have len : ∀ ss m Q, T_push_power ss m Q → ss.length = (P_push_power).length := by
    intro ss m Q h
    repeat (obtain ⟨_, h⟩ := h)
    subst_vars
    rfl
  refine has_ok F gF sc_push_power len (fun _ _ _ _ _ _ us hl => match us, hl with | [_, _, _, _], _ => rfl) m fun cdv A outer s H hg hr => ?_
  exact (pss_cons (ps_set (i := 4) sc_push_power.nd rfl (by first | exact Or.inl rfl | exact Or.inr rfl) pe_str)
      (pss_cons (ps_if (PW.pt (pw_and (pt_cmpR (op_neDD hr.units) (pv 0) (pe_lst pa_nil) (nomark _)) (pw_and1 (pt_cmpR (op_eqDD hr.units) (pe_ix ix_D (pe_ix ix_D (pv 0) (pe_un un_negD pe_int) (fun _ _ => rfl)) pe_int (fun _ _ => rfl)) (pv 3) (nomark _))))) (pss_cons (ps_set (i := 5) sc_push_power.nd rfl (by first | exact Or.inl rfl | exact Or.inr rfl) (pe_ix ix_D (pe_bm0 PySem.F.plainAttrs_list PySem.F.slot_list_pop PySem.F.type_list_pop mt_pop (pv 0)) pe_int (fun _ _ => rfl)))
      (pss_cons (ps_set (i := 6) sc_push_power.nd rfl (by first | exact Or.inl rfl | exact Or.inr rfl) (pe_U g_going_back hg (hr.mono (by decide)) (by rfl) (pa_cons (pv 1) (pa_cons (pv 5) pa_nil))))
      (pss_cons (ps_par (i := 4) (j := 1) rfl sc_push_power.nd rfl rfl (by decide) rfl rfl (pa_cons (pe_slice sl_D (pv 5) (po_some (pe_op op_subD (pe_callB call_lenD (by rfl) B.len (by decide +kernel) (pa_cons (pv 5) pa_nil)) (pv 6))) po_none) (pa_cons (pe_U g_turned_back hg (hr.mono (by decide)) (by rfl) (pa_cons (pv 1) (pa_cons (pv 6) pa_nil))) pa_nil)) rfl)
      (pss_one (ps_expr (pe_U g_push_word hg (hr.mono (by decide)) (by rfl) (pa_cons (pv 0) (pa_cons (pe_slice sl_D (pv 5) po_none (po_some (pe_op op_subD (pe_callB call_lenD (by rfl) B.len (by decide +kernel) (pa_cons (pv 5) pa_nil)) (pv 6)))) (pa_cons (pv 3) pa_nil))))))))) pss_nil)
      (pss_cons (ps_if (PW.pt (pw_and (pt_cmpR (op_neDD hr.units) (pv 0) (pe_lst pa_nil) (nomark _)) (pw_and (pt_cmpR (op_neDD hr.units) (pe_ix ix_D (pe_ix ix_D (pv 0) (pe_un un_negD pe_int) (fun _ _ => rfl)) pe_int (fun _ _ => rfl)) (pv 3) (nomark _)) (pw_and1 (pt_cmpR (op_eqDD hr.units) (pe_ix ix_D (pe_ix ix_D (pv 0) (pe_un un_negD pe_int) (fun _ _ => rfl)) pe_int (fun _ _ => rfl)) (pv 1) (nomark _)))))) (pss_one (ps_asg (pe_tup (pa_cons (pv 1) (pa_cons (pe_U g_form_sum hg (hr.mono (by decide)) (by rfl) (pa_cons (pe_ix ix_D (pe_ix ix_D (pv 0) (pe_un un_negD pe_int) (fun _ _ => rfl)) pe_int (fun _ _ => rfl)) (pa_cons (pv 2) pa_nil))) pa_nil))) (pg_sub (pv 0) (pe_un un_negD pe_int) set_list))) (pss_one (ps_expr (pe_bm PySem.F.plainAttrs_list PySem.F.slot_list_append PySem.F.type_list_append mt_append (pv 0) (pa_cons (pe_tup (pa_cons (pv 1) (pa_cons (pv 2) pa_nil))) pa_nil)))))
      (pss_one (ps_expr (pe_U g_push_word hg (hr.mono (by decide)) (by rfl) (pa_cons (pv 0) (pa_cons (pv 4) (pa_cons (pv 3) pa_nil)))))))))
theorem ok_normal_pieces (B : Bl mg) (g_plain : Has P w K mg base "plain" 1 P_plain T_plain) (g_is_open_form : Has P w K mg base "is_open_form" 1 P_is_open_form T_is_open_form) (g_root : Has P w K mg base "root" 3 P_root T_root) (g_form_times : Has P w K mg base "form_times" 1 P_form_times T_form_times) (g_push_power : Has P w K mg base "push_power" 2 P_push_power T_push_power) (g_push_word : Has P w K mg base "push_word" 1 P_push_word T_push_word) (F : FunD K "normal_pieces" "normal_pieces" (defArgs s_normal_pieces) (defBody s_normal_pieces) (defScope s_normal_pieces) [] [] f fd) (gF : mg "normal_pieces" = some (.ref f)) (m : Ok K N_normal_pieces T_normal_pieces (t_normal_pieces K)) : Has P w K mg base "normal_pieces" 4 P_normal_pieces T_normal_pieces := by
  have len : ∀ ss m Q, T_normal_pieces ss m Q → ss.length = (P_normal_pieces).length := by
    intro ss m Q h
    repeat (obtain ⟨_, h⟩ := h)
    subst_vars
    rfl
  refine has_ok F gF sc_normal_pieces len (fun _ _ _ _ _ _ us hl => match us, hl with | [_, _], _ => rfl) m fun cdv A outer s H hg hr => ?_
  exact (pss_cons (ps_par (i := 2) (j := 3) rfl sc_normal_pieces.nd rfl rfl (by decide) rfl rfl (pa_cons (pe_U g_plain hg (hr.mono (by decide)) (by rfl) (pa_cons (pv 0) (pa_cons pe_int pa_nil))) (pa_cons (pe_lst pa_nil) pa_nil)) rfl)
      (pss_cons (ps_for PassesOwn.never rfl (pi_D (pv 1)) (pg_tup rfl (pgs_cons (pg_name (i := 4) sc_normal_pieces.nd rfl (by first | exact Or.inl rfl | exact Or.inr rfl)) (pgs_cons (pg_name (i := 5) sc_normal_pieces.nd rfl (by first | exact Or.inl rfl | exact Or.inr rfl)) pgs_nil))) (pss_one (ps_if (pt_cmpR (op_neDD hr.units) (pv 4) pe_str (nomark _)) (pss_cons (ps_if (pt_val (pe_U g_is_open_form hg (hr.mono (by decide)) (by rfl) (pa_cons (pv 5) pa_nil))) (pss_cons (ps_asg (pe_U g_root hg (hr.mono (by decide)) (by rfl) (pa_cons (pv 4) pa_nil)) (pg_tup rfl (pgs_cons (pg_name (i := 6) sc_normal_pieces.nd rfl (by first | exact Or.inl rfl | exact Or.inr rfl)) (pgs_cons (pg_name (i := 7) sc_normal_pieces.nd rfl (by first | exact Or.inl rfl | exact Or.inr rfl)) pgs_nil))))
      (pss_one (ps_expr (pe_U g_push_power hg (hr.mono (by decide)) (by rfl) (pa_cons (pv 3) (pa_cons (pv 6) (pa_cons (pe_U g_form_times hg (hr.mono (by decide)) (by rfl) (pa_cons (pv 7) (pa_cons (pe_op op_addD (pe_tup (pa_cons pe_int pa_nil)) (pe_slice sl_D (pv 5) (po_some pe_int) po_none)) pa_nil))) (pa_cons (pv 2) pa_nil)))))))) pss_nil)
      (pss_one (ps_expr (pe_U g_push_word hg (hr.mono (by decide)) (by rfl) (pa_cons (pv 3) (pa_cons (pe_op op_mulD (pv 4) (pe_ix ix_D (pv 5) pe_int (fun _ _ => rfl))) (pa_cons (pv 2) pa_nil))))))) pss_nil)))
      (pss_one (ps_ret (pe_callTy call_tupD (by rfl) B.tuple (by decide +kernel) (pa_cons (pv 3) pa_nil))))))
theorem ok_normal (B : Bl mg) (g_check_pieces : Has P w K mg base "check_pieces" 6 P_check_pieces T_check_pieces) (g_normal_pieces : Has P w K mg base "normal_pieces" 4 P_normal_pieces T_normal_pieces) (F : FunD K "normal" "normal" (defArgs s_normal) (defBody s_normal) (defScope s_normal) [] [] f fd) (gF : mg "normal" = some (.ref f)) (m : Ok K N_normal T_normal (t_normal K)) : Has P w K mg base "normal" 7 P_normal T_normal := by
  have len : ∀ ss m Q, T_normal ss m Q → ss.length = (P_normal).length := by
    intro ss m Q h
    repeat (obtain ⟨_, h⟩ := h)
    subst_vars
    rfl
  refine has_ok F gF sc_normal len (fun _ _ _ _ _ _ us hl => match us, hl with | [_, _], _ => rfl) m fun cdv A outer s H hg hr => ?_
  exact (pss_cons (ps_expr (pe_U g_check_pieces hg (hr.mono (by decide)) (by rfl) (pa_cons (pv 0) (pa_cons (pv 1) pa_nil))))
      (pss_one (ps_ret (pe_callTy (call_lstD rfl) (by rfl) B.list (by decide +kernel) (pa_cons (pe_U g_normal_pieces hg (hr.mono (by decide)) (by rfl) (pa_cons (pv 0) (pa_cons (pv 1) pa_nil))) pa_nil)))))
theorem ok_law_are_pieces (B : Bl mg) (F : FunD K "_law_are_pieces" "_law_are_pieces" (defArgs s_law_are_pieces) (defBody s_law_are_pieces) (defScope s_law_are_pieces) [] [] f fd) (gF : mg "_law_are_pieces" = some (.ref f)) (m : Ok K N_law_are_pieces T_law_are_pieces (t_law_are_pieces K)) : Has P w K mg base "_law_are_pieces" 1 P_law_are_pieces T_law_are_pieces := by
  have len : ∀ ss m Q, T_law_are_pieces ss m Q → ss.length = (P_law_are_pieces).length := by
    intro ss m Q h
    repeat (obtain ⟨_, h⟩ := h)
    subst_vars
    rfl
  refine has_ok F gF sc_law_are_pieces len (fun _ _ _ _ _ _ us hl => match us, hl with | [_, _], _ => rfl) m fun cdv A outer s H hg hr => ?_
  exact (pss_cons (ps_if (pt_not (pt_val (pe_callB call_isiD (by rfl) B.isinstance (by decide +kernel) (pa_cons (pv 1) (pa_cons (pe_bltn rfl B.list (by decide +kernel) rfl) pa_nil))))) (pss_one (ps_ret pe_bl)) pss_nil)
      (pss_cons (ps_for PassesOwn.never rfl (pi_D (pv 1)) (pg_name (i := 2) sc_law_are_pieces.nd rfl (by first | exact Or.inl rfl | exact Or.inr rfl)) (pss_cons (ps_if (PW.pt (pw_or (pt_not (pt_val (pe_callB call_isiD (by rfl) B.isinstance (by decide +kernel) (pa_cons (pv 2) (pa_cons (pe_bltn rfl B.tuple (by decide +kernel) rfl) pa_nil))))) (pw_or (pt_cmpR (op_neDD hr.units) (pe_callB call_lenD (by rfl) B.len (by decide +kernel) (pa_cons (pv 2) pa_nil)) pe_int (nomark _)) (pw_or1 (pt_not (pt_val (pe_callB call_isiD (by rfl) B.isinstance (by decide +kernel) (pa_cons (pe_ix ix_D (pv 2) pe_int (fun _ _ => rfl)) (pa_cons (pe_bltn rfl B.str (by decide +kernel) rfl) pa_nil))))))))) (pss_one (ps_ret pe_bl)) pss_nil)
      (pss_cons (ps_if (PW.pt (pw_or (pt_not (pt_val (pe_callB call_isiD (by rfl) B.isinstance (by decide +kernel) (pa_cons (pe_ix ix_D (pv 2) pe_int (fun _ _ => rfl)) (pa_cons (pe_bltn rfl B.tuple (by decide +kernel) rfl) pa_nil))))) (pw_or1 (pt_cmpR (op_neDD hr.units) (pe_callB call_lenD (by rfl) B.len (by decide +kernel) (pa_cons (pe_ix ix_D (pv 2) pe_int (fun _ _ => rfl)) pa_nil)) (pe_op op_addD (pv 0) pe_int) (nomark _))))) (pss_one (ps_ret pe_bl)) pss_nil)
      (pss_one (ps_if (pt_cmpR (op_neDD hr.units) (pe_lc (own := [("number", 3)]) rfl sc_law_are_pieces.nd (pi_D (pe_ix ix_D (pv 2) pe_int (fun _ _ => rfl))) (blkOk_by (own := [("number", 3)]) (N := N_law_are_pieces) (sc := defScope s_law_are_pieces) (by decide +kernel)) (fun _ _ _ _ _ => (pg_name (i := 3) sc_law_are_pieces.nd rfl (by first | exact Or.inl rfl | exact Or.inr rfl))) (fun _ _ _ _ _ => (pts_one (PW.pt (pw_or (pt_not (pt_val (pe_callB call_isiD (by rfl) B.isinstance (by decide +kernel) (pa_cons (pv 3) (pa_cons (pe_bltn rfl B.int (by decide +kernel) rfl) pa_nil))))) (pw_or1 (pt_val (pe_callB call_isiD (by rfl) B.isinstance (by decide +kernel) (pa_cons (pv 3) (pa_cons (pe_bltn rfl B.bool (by decide +kernel) rfl) pa_nil))))))))) (fun _ _ _ _ _ => (pv 3))) (pe_lst pa_nil) (nomark _)) (pss_one (ps_ret pe_bl)) pss_nil)))))
      (pss_one (ps_ret pe_bl))))
theorem ok_law_primitive (B : Bl mg) (F : FunD K "_law_primitive" "_law_primitive" (defArgs s_law_primitive) (defBody s_law_primitive) (defScope s_law_primitive) [] [] f fd) (gF : mg "_law_primitive" = some (.ref f)) (m : Ok K N_law_primitive T_law_primitive (t_law_primitive K)) : Has P w K mg base "_law_primitive" 1 P_law_primitive T_law_primitive := by
  have len : ∀ ss m Q, T_law_primitive ss m Q → ss.length = (P_law_primitive).length := by
    intro ss m Q h
    repeat (obtain ⟨_, h⟩ := h)
    subst_vars
    rfl
  refine has_ok F gF sc_law_primitive len (fun _ _ _ _ _ _ us hl => match us, hl with | [_], _ => rfl) m fun cdv A outer s H hg hr => ?_
  exact (pss_one (ps_ret (pe_and (pe_cmpR (op_neDD hr.units) (pv 0) pe_str (nomark _)) (pe_one (pe_cmpR (op_eqDD hr.units) (pe_bm PySem.F.plainAttrs_str PySem.F.slot_str_find PySem.F.type_str_find mt_find (pe_slice sl_D (pe_op op_addD (pv 0) (pv 0)) (po_some pe_int) po_none) (pa_cons (pv 0) pa_nil)) (pe_op op_subD (pe_callB call_lenD (by rfl) B.len (by decide +kernel) (pa_cons (pv 0) pa_nil)) pe_int) (nomark _))))))
theorem ok_law_is_normal (B : Bl mg) (g_law_primitive : Has P w K mg base "_law_primitive" 1 P_law_primitive T_law_primitive) (g_law_plain : Has P w K mg base "_law_plain" 1 P_law_plain T_law_plain) (F : FunD K "_law_is_normal" "_law_is_normal" (defArgs s_law_is_normal) (defBody s_law_is_normal) (defScope s_law_is_normal) [] [] f fd) (gF : mg "_law_is_normal" = some (.ref f)) (m : Ok K N_law_is_normal T_law_is_normal (t_law_is_normal K)) : Has P w K mg base "_law_is_normal" 2 P_law_is_normal T_law_is_normal := by
  have len : ∀ ss m Q, T_law_is_normal ss m Q → ss.length = (P_law_is_normal).length := by
    intro ss m Q h
    repeat (obtain ⟨_, h⟩ := h)
    subst_vars
    rfl
  refine has_ok F gF sc_law_is_normal len (fun _ _ _ _ _ _ us hl => match us, hl with | [_, _], _ => rfl) m fun cdv A outer s H hg hr => ?_
  exact (pss_cons (ps_for PassesOwn.never rfl (pi_D (pv 1)) (pg_tup rfl (pgs_cons (pg_name (i := 2) sc_law_is_normal.nd rfl (by first | exact Or.inl rfl | exact Or.inr rfl)) (pgs_cons (pg_name (i := 3) sc_law_is_normal.nd rfl (by first | exact Or.inl rfl | exact Or.inr rfl)) pgs_nil))) (pss_cons (ps_if (PW.pt (pw_and (pt_not (pt_val (pe_U g_law_primitive hg (hr.mono (by decide)) (by rfl) (pa_cons (pv 2) pa_nil)))) (pw_and1 (pt_cmpR (op_neDD hr.units) (pv 3) (pe_U g_law_plain hg (hr.mono (by decide)) (by rfl) (pa_cons (pv 0) (pa_cons pe_int pa_nil))) (nomark _))))) (pss_one (ps_ret pe_bl)) pss_nil)
      (pss_one (ps_if (PW.pt (pw_or (pt_cmpR (op_eqDD hr.units) (pv 2) pe_str (nomark _)) (pw_or1 (PW.pt (pw_and (pt_cmpR (op_neDD hr.units) (pv 3) (pe_U g_law_plain hg (hr.mono (by decide)) (by rfl) (pa_cons (pv 0) (pa_cons pe_int pa_nil))) (nomark _)) (pw_and1 (PW.pt (pw_or (pt_cmpR (op_neDD hr.units) (pe_ix ix_D (pv 3) pe_int (fun _ _ => rfl)) pe_int (nomark _)) (pw_or1 (pt_cmpR (op_eqDD hr.units) (pe_callB (call_sumD rfl) (by rfl) B.sum (by decide +kernel) (pa_cons (pv 3) pa_nil)) pe_int (nomark _))))))))))) (pss_one (ps_ret pe_bl)) pss_nil))))
      (pss_cons (ps_for PassesOwn.never rfl (pi_zipN (by rfl) B.zip (pa_cons (pv 1) (pa_cons (pe_slice sl_D (pv 1) (po_some pe_int) po_none) pa_nil))) (pg_tup rfl (pgs_cons (pg_name (i := 4) sc_law_is_normal.nd rfl (by first | exact Or.inl rfl | exact Or.inr rfl)) (pgs_cons (pg_name (i := 5) sc_law_is_normal.nd rfl (by first | exact Or.inl rfl | exact Or.inr rfl)) pgs_nil))) (pss_cons (ps_par (i := 6) (j := 7) rfl sc_law_is_normal.nd rfl rfl (by decide) rfl rfl (pa_cons (pe_cmpR (op_eqDD hr.units) (pe_ix ix_D (pv 4) pe_int (fun _ _ => rfl)) (pe_U g_law_plain hg (hr.mono (by decide)) (by rfl) (pa_cons (pv 0) (pa_cons pe_int pa_nil))) (nomark _)) (pa_cons (pe_cmpR (op_eqDD hr.units) (pe_ix ix_D (pv 5) pe_int (fun _ _ => rfl)) (pe_U g_law_plain hg (hr.mono (by decide)) (by rfl) (pa_cons (pv 0) (pa_cons pe_int pa_nil))) (nomark _)) pa_nil)) rfl)
      (pss_cons (ps_if (PW.pt (pw_or (PW.pt (pw_and (pt_val (pv 6)) (pw_and1 (pt_val (pv 7))))) (pw_or1 (PW.pt (pw_and (pt_not (pt_val (pv 6))) (pw_and (pt_not (pt_val (pv 7))) (pw_and1 (pt_cmpR (op_eqDD hr.units) (pe_ix ix_D (pv 4) pe_int (fun _ _ => rfl)) (pe_ix ix_D (pv 5) pe_int (fun _ _ => rfl)) (nomark _))))))))) (pss_one (ps_ret pe_bl)) pss_nil)
      (pss_one (ps_if (PW.pt (pw_and (pt_val (pv 6)) (pw_and1 (pt_cmpR (op_eqDD hr.units) (pe_ix ix_D (pe_ix ix_D (pv 4) pe_int (fun _ _ => rfl)) (pe_op op_subD (pe_callB call_lenD (by rfl) B.len (by decide +kernel) (pa_cons (pe_ix ix_D (pv 4) pe_int (fun _ _ => rfl)) pa_nil)) pe_int) (fun _ _ => rfl)) (pe_ix ix_D (pe_ix ix_D (pv 5) pe_int (fun _ _ => rfl)) (pe_op op_subD (pe_callB call_lenD (by rfl) B.len (by decide +kernel) (pa_cons (pe_ix ix_D (pv 5) pe_int (fun _ _ => rfl)) pa_nil)) pe_int) (fun _ _ => rfl)) (nomark _))))) (pss_one (ps_ret pe_bl)) pss_nil)))))
      (pss_one (ps_ret pe_bl))))
theorem ok_law_point (B : Bl mg) (g_law_random : Has P w K mg base "_law_random" 2 P_law_random T_law_random) (F : FunD K "_law_point" "_law_point" (defArgs s_law_point) (defBody s_law_point) (defScope s_law_point) [] [] f fd) (gF : mg "_law_point" = some (.ref f)) (m : Ok K N_law_point T_law_point (t_law_point K)) : Has P w K mg base "_law_point" 3 P_law_point T_law_point := by
  have len : ∀ ss m Q, T_law_point ss m Q → ss.length = (P_law_point).length := by
    intro ss m Q h
    repeat (obtain ⟨_, h⟩ := h)
    subst_vars
    rfl
  refine has_ok F gF sc_law_point len (fun _ _ _ _ _ _ us hl => match us, hl with | [_, _, _], _ => rfl) m fun cdv A outer s H hg hr => ?_
  exact (pss_one (ps_ret (pe_lc (own := [("turn", 3)]) rfl sc_law_point.nd (pi_range1 (by rfl) B.range (pa_cons (pv 1) pa_nil)) (blkOk_by (own := [("turn", 3)]) (N := N_law_point) (sc := defScope s_law_point) (by decide +kernel)) (fun _ _ _ _ _ => (pg_name (i := 3) sc_law_point.nd rfl (by first | exact Or.inl rfl | exact Or.inr rfl))) (fun _ _ _ _ _ => pts_nil) (fun _ _ _ _ _ => (pe_U g_law_random hg (hr.mono (by decide)) (by rfl) (pa_cons (pv 0) (pa_cons (pe_op op_addD (pv 2) pe_int) pa_nil)))))))
theorem ok_law_value (B : Bl mg) (F : FunD K "_law_value" "_law_value" (defArgs s_law_value) (defBody s_law_value) (defScope s_law_value) [] [] f fd) (gF : mg "_law_value" = some (.ref f)) (m : Ok K N_law_value T_law_value (t_law_value K)) : Has P w K mg base "_law_value" 1 P_law_value T_law_value := by
  have len : ∀ ss m Q, T_law_value ss m Q → ss.length = (P_law_value).length := by
    intro ss m Q h
    repeat (obtain ⟨_, h⟩ := h)
    subst_vars
    rfl
  refine has_ok F gF sc_law_value len (fun _ _ _ _ _ _ us hl => match us, hl with | [_, _], _ => rfl) m fun cdv A outer s H hg hr => ?_
  exact (pss_one (ps_ret (pe_op op_addD (pe_ix ix_D (pv 0) pe_int (fun _ _ => rfl)) (pe_callB (call_sumD rfl) (by rfl) B.sum (by decide +kernel) (pa_cons (pe_lc (own := [("number", 2), ("count", 3)]) rfl sc_law_value.nd (pi_zipN (by rfl) B.zip (pa_cons (pe_slice sl_D (pv 0) (po_some pe_int) po_none) (pa_cons (pv 1) pa_nil))) (blkOk_by (own := [("number", 2), ("count", 3)]) (N := N_law_value) (sc := defScope s_law_value) (by decide +kernel)) (fun _ _ _ _ _ => (pg_tup rfl (pgs_cons (pg_name (i := 2) sc_law_value.nd rfl (by first | exact Or.inl rfl | exact Or.inr rfl)) (pgs_cons (pg_name (i := 3) sc_law_value.nd rfl (by first | exact Or.inl rfl | exact Or.inr rfl)) pgs_nil)))) (fun _ _ _ _ _ => pts_nil) (fun _ _ _ _ _ => (pe_op op_mulD (pv 2) (pv 3)))) pa_nil)))))
theorem ok_law_write (B : Bl mg) (g_law_value : Has P w K mg base "_law_value" 1 P_law_value T_law_value) (F : FunD K "_law_write" "_law_write" (defArgs s_law_write) (defBody s_law_write) (defScope s_law_write) [] [] f fd) (gF : mg "_law_write" = some (.ref f)) (m : Ok K N_law_write T_law_write (t_law_write K)) : Has P w K mg base "_law_write" 2 P_law_write T_law_write := by
  have len : ∀ ss m Q, T_law_write ss m Q → ss.length = (P_law_write).length := by
    intro ss m Q h
    repeat (obtain ⟨_, h⟩ := h)
    subst_vars
    rfl
  refine has_ok F gF sc_law_write len (fun _ _ _ _ _ _ us hl => match us, hl with | [_, _], _ => rfl) m fun cdv A outer s H hg hr => ?_
  exact (pss_one (ps_ret (pe_join pe_str (pe_lc (own := [("word", 2), ("form", 3)]) rfl sc_law_write.nd (pi_D (pv 0)) (blkOk_by (own := [("word", 2), ("form", 3)]) (N := N_law_write) (sc := defScope s_law_write) (by decide +kernel)) (fun _ _ _ _ _ => (pg_tup rfl (pgs_cons (pg_name (i := 2) sc_law_write.nd rfl (by first | exact Or.inl rfl | exact Or.inr rfl)) (pgs_cons (pg_name (i := 3) sc_law_write.nd rfl (by first | exact Or.inl rfl | exact Or.inr rfl)) pgs_nil)))) (fun _ _ _ _ _ => (pts_one (pt_cmpR (op_neDD hr.units) (pv 2) pe_str (nomark _)))) (fun _ _ _ _ _ => (pe_op op_mulD (pv 2) (pe_U g_law_value hg (hr.mono (by decide)) (by rfl) (pa_cons (pv 3) (pa_cons (pv 1) pa_nil)))))))))
theorem ok_law_measure (B : Bl mg) (F : FunD K "_law_measure" "_law_measure" (defArgs s_law_measure) (defBody s_law_measure) (defScope s_law_measure) [] [] f fd) (gF : mg "_law_measure" = some (.ref f)) (m : Ok K N_law_measure T_law_measure (t_law_measure K)) : Has P w K mg base "_law_measure" 1 P_law_measure T_law_measure := by
  have len : ∀ ss m Q, T_law_measure ss m Q → ss.length = (P_law_measure).length := by
    intro ss m Q h
    repeat (obtain ⟨_, h⟩ := h)
    subst_vars
    rfl
  refine has_ok F gF sc_law_measure len (fun _ _ _ _ _ _ us hl => match us, hl with | [_], _ => rfl) m fun cdv A outer s H hg hr => ?_
  exact (pss_one (ps_ret (pe_callB (call_sumD rfl) (by rfl) B.sum (by decide +kernel) (pa_cons (pe_lc (own := [("word", 1), ("form", 2)]) rfl sc_law_measure.nd (pi_D (pv 0)) (blkOk_by (own := [("word", 1), ("form", 2)]) (N := N_law_measure) (sc := defScope s_law_measure) (by decide +kernel)) (fun _ _ _ _ _ => (pg_tup rfl (pgs_cons (pg_name (i := 1) sc_law_measure.nd rfl (by first | exact Or.inl rfl | exact Or.inr rfl)) (pgs_cons (pg_name (i := 2) sc_law_measure.nd rfl (by first | exact Or.inl rfl | exact Or.inr rfl)) pgs_nil)))) (fun _ _ _ _ _ => pts_nil) (fun _ _ _ _ _ => (pe_op op_mulD (pe_callB call_lenD (by rfl) B.len (by decide +kernel) (pa_cons (pv 1) pa_nil)) (pe_op op_addD (pe_ix ix_D (pv 2) pe_int (fun _ _ => rfl)) (pe_callTy call_intD (by rfl) B.int (by decide +kernel) (pa_cons (pe_cmpR op_gtD (pe_callB (call_sumD rfl) (by rfl) B.sum (by decide +kernel) (pa_cons (pe_slice sl_D (pv 2) (po_some pe_int) po_none) pa_nil)) pe_int (nomark _)) pa_nil)))))) pa_nil))))
theorem ok_is_normal (B : Bl mg) (cMOST_PIECES0 : ∃ t, mg "MOST_PIECES" = some (.int 5000 t)) (cMOST_MEASURE0 : ∃ t, mg "MOST_MEASURE" = some (.int 2000 t)) (g_check_many : Has P w K mg base "check_many" 4 P_check_many T_check_many) (g_is_piece : Has P w K mg base "is_piece" 5 P_is_piece T_is_piece) (g_measure : Has P w K mg base "measure" 2 P_measure T_measure) (g_normal_pieces : Has P w K mg base "normal_pieces" 4 P_normal_pieces T_normal_pieces) (F : FunD K "is_normal" "is_normal" (defArgs s_is_normal) (defBody s_is_normal) (defScope s_is_normal) [] [] f fd) (gF : mg "is_normal" = some (.ref f)) (m : Ok K N_is_normal T_is_normal (t_is_normal K)) : Has P w K mg base "is_normal" 6 P_is_normal T_is_normal := by
  obtain ⟨tMOST_PIECES, cMOST_PIECES⟩ := cMOST_PIECES0
  obtain ⟨tMOST_MEASURE, cMOST_MEASURE⟩ := cMOST_MEASURE0
  have len : ∀ ss m Q, T_is_normal ss m Q → ss.length = (P_is_normal).length := by
    intro ss m Q h
    repeat (obtain ⟨_, h⟩ := h)
    subst_vars
    rfl
  refine has_ok F gF sc_is_normal len (fun _ _ _ _ _ _ us hl => match us, hl with | [_, _], _ => rfl) m fun cdv A outer s H hg hr => ?_
  exact (pss_cons (ps_expr (pe_U g_check_many hg (hr.mono (by decide)) (by rfl) (pa_cons (pv 0) pa_nil)))
      (pss_cons (ps_if (PW.pt (pw_or (pt_not (pt_val (pe_callB call_isiD (by rfl) B.isinstance (by decide +kernel) (pa_cons (pv 1) (pa_cons (pe_bltn rfl B.list (by decide +kernel) rfl) pa_nil))))) (pw_or1 (pt_cmpR op_gtD (pe_callB call_lenD (by rfl) B.len (by decide +kernel) (pa_cons (pv 1) pa_nil)) (pe_glob rfl cMOST_PIECES ⟨_, rfl⟩) (nomark _))))) (pss_one (ps_ret pe_bl)) pss_nil)
      (pss_cons (ps_if (PW.pt (pw_or (pt_cmpR (op_neDD hr.units) (pe_lc (own := [("item", 2)]) rfl sc_is_normal.nd (pi_D (pv 1)) (blkOk_by (own := [("item", 2)]) (N := N_is_normal) (sc := defScope s_is_normal) (by decide +kernel)) (fun _ _ _ _ _ => (pg_name (i := 2) sc_is_normal.nd rfl (by first | exact Or.inl rfl | exact Or.inr rfl))) (fun _ _ _ _ _ => (pts_one (pt_not (pt_val (pe_U g_is_piece hg (hr.mono (by decide)) (by rfl) (pa_cons (pv 0) (pa_cons (pv 2) pa_nil))))))) (fun _ _ _ _ _ => (pv 2))) (pe_lst pa_nil) (nomark _)) (pw_or1 (pt_cmpR op_gtD (pe_U g_measure hg (hr.mono (by decide)) (by rfl) (pa_cons (pv 1) pa_nil)) (pe_glob rfl cMOST_MEASURE ⟨_, rfl⟩) (nomark _))))) (pss_one (ps_ret pe_bl)) pss_nil)
      (pss_one (ps_ret (pe_cmpR (op_eqDD hr.units) (pe_U g_normal_pieces hg (hr.mono (by decide)) (by rfl) (pa_cons (pv 0) (pa_cons (pv 1) pa_nil))) (pe_callTy call_tupD (by rfl) B.tuple (by decide +kernel) (pa_cons (pv 1) pa_nil)) (nomark _)))))))
theorem ok_law_yes (B : Bl mg) (F : FunD K "_law_yes" "_law_yes" (defArgs s_law_yes) (defBody s_law_yes) (defScope s_law_yes) [] [] f fd) (gF : mg "_law_yes" = some (.ref f)) (m : Ok K N_law_yes T_law_yes (t_law_yes K)) : Has P w K mg base "_law_yes" 1 P_law_yes T_law_yes := by
  have len : ∀ ss m Q, T_law_yes ss m Q → ss.length = (P_law_yes).length := by
    intro ss m Q h
    repeat (obtain ⟨_, h⟩ := h)
    subst_vars
    rfl
  refine has_ok F gF sc_law_yes len (fun _ _ _ _ _ _ us hl => match us, hl with | [_, _], _ => rfl) m fun cdv A outer s H hg hr => ?_
  exact (pss_one (ps_ret (pe_and (pe_callB call_isiD (by rfl) B.isinstance (by decide +kernel) (pa_cons (pv 0) (pa_cons (pe_bltn rfl B.bool (by decide +kernel) rfl) pa_nil))) (pe_one (pe_cmpR (op_eqDD hr.units) (pv 0) (pv 1) (nomark _))))))
theorem ok_law_right (B : Bl mg) (g_law_letters : Has P w K mg base "_law_letters" 3 P_law_letters T_law_letters) (g_law_random : Has P w K mg base "_law_random" 2 P_law_random T_law_random) (g_law_raw : Has P w K mg base "_law_raw" 5 P_law_raw T_law_raw) (g_normal : Has P w K mg base "normal" 7 P_normal T_normal) (g_law_are_pieces : Has P w K mg base "_law_are_pieces" 1 P_law_are_pieces T_law_are_pieces) (g_law_is_normal : Has P w K mg base "_law_is_normal" 2 P_law_is_normal T_law_is_normal) (g_law_point : Has P w K mg base "_law_point" 3 P_law_point T_law_point) (g_law_write : Has P w K mg base "_law_write" 2 P_law_write T_law_write) (g_law_measure : Has P w K mg base "_law_measure" 1 P_law_measure T_law_measure) (g_is_normal : Has P w K mg base "is_normal" 6 P_is_normal T_is_normal) (g_law_yes : Has P w K mg base "_law_yes" 1 P_law_yes T_law_yes) (g_law_plain : Has P w K mg base "_law_plain" 1 P_law_plain T_law_plain) (F : FunD K "_law_right" "_law_right" (defArgs s_law_right) (defBody s_law_right) (defScope s_law_right) [] [] f fd) (gF : mg "_law_right" = some (.ref f)) (m : Ok K N_law_right T_law_right (t_law_right K)) : Has P w K mg base "_law_right" 8 P_law_right T_law_right := by
  have len : ∀ ss m Q, T_law_right ss m Q → ss.length = (P_law_right).length := by
    intro ss m Q h
    repeat (obtain ⟨_, h⟩ := h)
    subst_vars
    rfl
  refine has_ok F gF sc_law_right len (fun _ _ _ _ _ _ us hl => match us, hl with | [_], _ => rfl) m fun cdv A outer s H hg hr => ?_
  exact (pss_cons (ps_asg (pe_tup (pa_cons (pe_U g_law_random hg (hr.mono (by decide)) (by rfl) (pa_cons (pv 0) (pa_cons pe_int pa_nil))) (pa_cons (pe_U g_law_letters hg (hr.mono (by decide)) (by rfl) (pa_cons (pv 0) pa_nil)) pa_nil))) (pg_tup rfl (pgs_cons (pg_name (i := 1) sc_law_right.nd rfl (by first | exact Or.inl rfl | exact Or.inr rfl)) (pgs_cons (pg_name (i := 2) sc_law_right.nd rfl (by first | exact Or.inl rfl | exact Or.inr rfl)) pgs_nil))))
      (pss_cons (ps_set (i := 3) sc_law_right.nd rfl (by first | exact Or.inl rfl | exact Or.inr rfl) (pe_U g_law_raw hg (hr.mono (by decide)) (by rfl) (pa_cons (pv 0) (pa_cons (pv 1) (pa_cons (pv 2) (pa_cons (pe_U g_law_random hg (hr.mono (by decide)) (by rfl) (pa_cons (pv 0) (pa_cons pe_int pa_nil))) (pa_cons (pe_op op_addD pe_int (pe_U g_law_random hg (hr.mono (by decide)) (by rfl) (pa_cons (pv 0) (pa_cons pe_int pa_nil)))) pa_nil)))))))
      (pss_cons (ps_set (i := 4) sc_law_right.nd rfl (by first | exact Or.inl rfl | exact Or.inr rfl) (pe_callTy (call_lstD rfl) (by rfl) B.list (by decide +kernel) (pa_cons (pv 3) pa_nil)))
      (pss_cons (ps_set (i := 5) sc_law_right.nd rfl (by first | exact Or.inl rfl | exact Or.inr rfl) (pe_U g_normal hg (hr.mono (by decide)) (by rfl) (pa_cons (pv 1) (pa_cons (pv 4) pa_nil))))
      (pss_cons (ps_if (PW.pt (pw_or (pt_cmpR (op_neDD hr.units) (pv 4) (pv 3) (nomark _)) (pw_or (pt_not (pt_val (pe_U g_law_are_pieces hg (hr.mono (by decide)) (by rfl) (pa_cons (pv 1) (pa_cons (pv 5) pa_nil))))) (pw_or1 (pt_not (pt_val (pe_U g_law_is_normal hg (hr.mono (by decide)) (by rfl) (pa_cons (pv 1) (pa_cons (pv 5) pa_nil))))))))) (pss_one (ps_ret pe_bl)) pss_nil)
      (pss_cons (ps_set (i := 6) sc_law_right.nd rfl (by first | exact Or.inl rfl | exact Or.inr rfl) (pe_op op_addD (pe_lst (pa_cons (pe_op op_mulD (pe_lst (pa_cons pe_int pa_nil)) (pv 1)) pa_nil)) (pe_lc (own := [("turn", 13)]) rfl sc_law_right.nd (pi_range1 (by rfl) B.range (pa_cons pe_int pa_nil)) (blkOk_by (own := [("turn", 13)]) (N := N_law_right) (sc := defScope s_law_right) (by decide +kernel)) (fun _ _ _ _ _ => (pg_name (i := 13) sc_law_right.nd rfl (by first | exact Or.inl rfl | exact Or.inr rfl))) (fun _ _ _ _ _ => pts_nil) (fun _ _ _ _ _ => (pe_U g_law_point hg (hr.mono (by decide)) (by rfl) (pa_cons (pv 0) (pa_cons (pv 1) (pa_cons pe_int pa_nil))))))))
      (pss_cons (ps_if (pt_cmpR (op_neDD hr.units) (pe_lc (own := [("point", 14)]) rfl sc_law_right.nd (pi_D (pv 6)) (blkOk_by (own := [("point", 14)]) (N := N_law_right) (sc := defScope s_law_right) (by decide +kernel)) (fun _ _ _ _ _ => (pg_name (i := 14) sc_law_right.nd rfl (by first | exact Or.inl rfl | exact Or.inr rfl))) (fun _ _ _ _ _ => (pts_one (pt_cmpR (op_neDD hr.units) (pe_U g_law_write hg (hr.mono (by decide)) (by rfl) (pa_cons (pv 5) (pa_cons (pv 14) pa_nil))) (pe_U g_law_write hg (hr.mono (by decide)) (by rfl) (pa_cons (pv 3) (pa_cons (pv 14) pa_nil))) (nomark _)))) (fun _ _ _ _ _ => (pv 14))) (pe_lst pa_nil) (nomark _)) (pss_one (ps_ret pe_bl)) pss_nil)
      (pss_cons (ps_if (PW.pt (pw_or (pt_cmpR op_gtD (pe_U g_law_measure hg (hr.mono (by decide)) (by rfl) (pa_cons (pv 5) pa_nil)) (pe_U g_law_measure hg (hr.mono (by decide)) (by rfl) (pa_cons (pv 3) pa_nil)) (nomark _)) (pw_or1 (pt_cmpR (op_neDD hr.units) (pe_U g_normal hg (hr.mono (by decide)) (by rfl) (pa_cons (pv 1) (pa_cons (pe_callTy (call_lstD rfl) (by rfl) B.list (by decide +kernel) (pa_cons (pv 5) pa_nil)) pa_nil))) (pv 5) (nomark _))))) (pss_one (ps_ret pe_bl)) pss_nil)
      (pss_cons (ps_set (i := 7) sc_law_right.nd rfl (by first | exact Or.inl rfl | exact Or.inr rfl) (pe_callTy (call_lstD rfl) (by rfl) B.list (by decide +kernel) (pa_cons (pv 3) pa_nil)))
      (pss_cons (ps_expr (pe_U g_is_normal hg (hr.mono (by decide)) (by rfl) (pa_cons (pv 1) (pa_cons (pv 7) pa_nil))))
      (pss_cons (ps_if (PW.pt (pw_or (pt_cmpR (op_neDD hr.units) (pv 7) (pv 3) (nomark _)) (pw_or (pt_cmpR op_isnotD (pe_U g_is_normal hg (hr.mono (by decide)) (by rfl) (pa_cons (pv 1) (pa_cons (pe_callTy (call_lstD rfl) (by rfl) B.list (by decide +kernel) (pa_cons (pv 5) pa_nil)) pa_nil))) pe_bl (nomark _)) (pw_or1 (pt_not (pt_val (pe_U g_law_yes hg (hr.mono (by decide)) (by rfl) (pa_cons (pe_U g_is_normal hg (hr.mono (by decide)) (by rfl) (pa_cons (pv 1) (pa_cons (pv 3) pa_nil))) (pa_cons (pe_U g_law_is_normal hg (hr.mono (by decide)) (by rfl) (pa_cons (pv 1) (pa_cons (pv 3) pa_nil))) pa_nil))))))))) (pss_one (ps_ret pe_bl)) pss_nil)
      (pss_cons (ps_set (i := 7) sc_law_right.nd rfl (by first | exact Or.inl rfl | exact Or.inr rfl) (pe_callTy (call_lstD rfl) (by rfl) B.list (by decide +kernel) (pa_cons (pv 5) pa_nil)))
      (pss_cons (ps_expr (pe_bm PySem.F.plainAttrs_list PySem.F.slot_list_append PySem.F.type_list_append mt_append (pe_U g_normal hg (hr.mono (by decide)) (by rfl) (pa_cons (pv 1) (pa_cons (pv 7) pa_nil))) (pa_cons pe_non pa_nil)))
      (pss_cons (ps_if (PW.pt (pw_or (pt_cmpR (op_neDD hr.units) (pv 7) (pv 5) (nomark _)) (pw_or1 (pt_cmpR (op_neDD hr.units) (pe_U g_normal hg (hr.mono (by decide)) (by rfl) (pa_cons (pv 1) (pa_cons (pv 7) pa_nil))) (pv 5) (nomark _))))) (pss_one (ps_ret pe_bl)) pss_nil)
      (pss_cons (ps_par (i := 8) (j := 9) rfl sc_law_right.nd rfl rfl (by decide) rfl rfl (pa_cons (pe_tup (pa_cons (pe_ix ix_D (pv 2) pe_int (fun _ _ => rfl)) (pa_cons (pe_op op_addD (pe_tup (pa_cons pe_int (pa_cons pe_int pa_nil))) (pe_op op_mulD (pe_tup (pa_cons pe_int pa_nil)) (pe_op op_subD (pv 1) pe_int))) pa_nil))) (pa_cons (pe_U g_law_plain hg (hr.mono (by decide)) (by rfl) (pa_cons (pv 1) (pa_cons pe_int pa_nil))) pa_nil)) rfl)
      (pss_cons (ps_for PassesOwn.never rfl (pi_D (pe_lst (pa_cons pe_int (pa_cons pe_int pa_nil)))) (pg_name (i := 10) sc_law_right.nd rfl (by first | exact Or.inl rfl | exact Or.inr rfl)) (pss_cons (ps_set (i := 11) sc_law_right.nd rfl (by first | exact Or.inl rfl | exact Or.inr rfl) (pe_lst (pa_cons (pe_tup (pa_cons (pe_op op_mulD (pe_ix ix_D (pv 2) pe_int (fun _ _ => rfl)) pe_int) (pa_cons (pv 9) pa_nil))) (pa_cons (pv 8) (pa_cons (pe_tup (pa_cons (pe_op op_mulD (pe_ix ix_D (pv 2) pe_int (fun _ _ => rfl)) (pv 10)) (pa_cons (pv 9) pa_nil))) pa_nil)))))
      (pss_one (ps_if (PW.pt (pw_and (pt_cmpR op_gtD (pv 1) pe_int (nomark _)) (pw_and1 (pt_not (pt_val (pe_U g_law_yes hg (hr.mono (by decide)) (by rfl) (pa_cons (pe_U g_is_normal hg (hr.mono (by decide)) (by rfl) (pa_cons (pv 1) (pa_cons (pv 11) pa_nil))) (pa_cons (pe_cmpR (op_eqDD hr.units) (pv 10) pe_int (nomark _)) pa_nil)))))))) (pss_one (ps_ret pe_bl)) pss_nil))))
      (pss_cons (ps_set (i := 12) sc_law_right.nd rfl (by first | exact Or.inl rfl | exact Or.inr rfl) (pe_lst (pa_cons (pe_callTy call_tupD (by rfl) B.tuple (by decide +kernel) (pa_cons (pv 5) pa_nil)) (pa_cons (pe_op op_addD (pv 5) (pe_lst (pa_cons (pe_tup (pa_cons pe_str (pa_cons (pe_U g_law_plain hg (hr.mono (by decide)) (by rfl) (pa_cons (pv 1) (pa_cons pe_int pa_nil))) pa_nil))) pa_nil))) (pa_cons (pe_op op_addD (pv 5) (pe_lst (pa_cons pe_non pa_nil))) (pa_cons (pe_op op_addD (pv 5) (pe_lst (pa_cons (pe_tup (pa_cons (pe_slice sl_D (pv 2) po_none (po_some pe_int)) (pa_cons (pe_op op_mulD (pe_tup (pa_cons pe_int pa_nil)) (pe_op op_addD (pv 1) pe_int)) pa_nil))) pa_nil))) pa_nil))))))
      (pss_cons (ps_set (i := 12) sc_law_right.nd rfl (by first | exact Or.inl rfl | exact Or.inr rfl) (pe_op op_addD (pv 12) (pe_lst (pa_cons (pe_op op_addD (pv 5) (pe_lst (pa_cons (pe_tup (pa_cons (pe_op op_mulD (pe_slice sl_D (pv 2) po_none (po_some pe_int)) pe_int) (pa_cons (pe_U g_law_plain hg (hr.mono (by decide)) (by rfl) (pa_cons (pv 1) (pa_cons pe_int pa_nil))) pa_nil))) pa_nil))) (pa_cons (pe_op op_addD (pv 5) (pe_lst (pa_cons (pe_lst (pa_cons (pe_slice sl_D (pv 2) po_none (po_some pe_int)) (pa_cons (pe_U g_law_plain hg (hr.mono (by decide)) (by rfl) (pa_cons (pv 1) (pa_cons pe_int pa_nil))) pa_nil))) pa_nil))) pa_nil)))))
      (pss_one (ps_ret (pe_cmpR (op_eqDD hr.units) (pe_lc (own := [("item", 15)]) rfl sc_law_right.nd (pi_D (pv 12)) (blkOk_by (own := [("item", 15)]) (N := N_law_right) (sc := defScope s_law_right) (by decide +kernel)) (fun _ _ _ _ _ => (pg_name (i := 15) sc_law_right.nd rfl (by first | exact Or.inl rfl | exact Or.inr rfl))) (fun _ _ _ _ _ => (pts_one (pt_cmpR op_isnotD (pe_U g_is_normal hg (hr.mono (by decide)) (by rfl) (pa_cons (pv 1) (pa_cons (pv 15) pa_nil))) pe_bl (nomark _)))) (fun _ _ _ _ _ => (pv 15))) (pe_lst pa_nil) (nomark _))))))))))))))))))))))
theorem ok_law (B : Bl mg) (g_law_generator : Has P w K mg base "_law_generator" 2 P_law_generator T_law_generator) (g_law_right : Has P w K mg base "_law_right" 8 P_law_right T_law_right) (F : FunD K "law" "law" (defArgs s_law) (defBody s_law) (defScope s_law) [] [] f fd) (gF : mg "law" = some (.ref f)) (m : Ok K N_law T_law (t_law K)) : FnG P w K mg base 9 f fd P_law (SpD K T_law) := by
  have len : ∀ ss m Q, T_law ss m Q → ss.length = (P_law).length := by
    intro ss m Q h
    repeat (obtain ⟨_, h⟩ := h)
    subst_vars
    rfl
  refine fnG_ok F sc_law len m fun cdv A outer s H hg hr => ?_
  exact (pss_cons (ps_for PassesOwn.never rfl (pi_range1 (by rfl) B.range (pa_cons pe_int pa_nil)) (pg_name (i := 1) sc_law.nd rfl (by first | exact Or.inl rfl | exact Or.inr rfl)) (pss_one (ps_if (pt_not (pt_val (pe_U g_law_right hg (hr.mono (by decide)) (by rfl) (pa_cons (pe_U g_law_generator hg (hr.mono (by decide)) (by rfl) (pa_cons (pv 0) (pa_cons (pv 1) pa_nil))) pa_nil)))) (pss_one (ps_ret pe_bl)) pss_nil)))
      (pss_one (ps_ret pe_bl)))
end
end L12

namespace L12
open PySem PySem.Spec PyProof.Rows L2 Cr
local macro_rules | `(tactic| walk_at "w") => `(tactic| first
  | with_reducible refine ws_seq ?_ | with_reducible refine ws_asg ?_ | with_reducible refine ws_ret ?_ | with_reducible refine ws_retN ?_ | with_reducible refine ws_drop ?_ | with_reducible refine ws_if ?_
  | with_reducible refine ws_next ?_ | with_reducible refine ws_par ?_ | with_reducible refine ws_par3 ?_
  | with_reducible refine we_int ?_ | with_reducible refine we_str ?_ | with_reducible refine we_bl ?_ | with_reducible refine we_non ?_ | with_reducible refine we_op ?_ | with_reducible refine we_un ?_
  | with_reducible refine we_cb ?_ | with_reducible refine we_if ?_ | with_reducible refine we_tup ?_ | with_reducible refine we_call ?_ | with_reducible refine wa_cons ?_ | with_reducible refine wa_nil ?_
  | with_reducible refine wt_val ?_ | with_reducible refine wt_test ?_ | with_reducible refine wt_and ?_ | with_reducible refine wt_or ?_ | with_reducible refine wt_not ?_ | with_reducible refine wt_yes ?_
  | with_reducible refine we_andV ?_ | with_reducible refine we_orV ?_ | with_reducible refine we_notV ?_ | with_reducible refine we_chain ?_ | with_reducible refine we_slice ?_ | with_reducible refine wo_none ?_ | with_reducible refine wo_some ?_
  | with_reducible refine we_bits ?_ | refine we_var (by rfl) ?_)
local macro_rules | `(tactic| walk_at "i2") => `(tactic| refine ⟨_, _, _, rfl, rfl, .int _ _, ?_⟩)
local macro_rules | `(tactic| walk_at "in") => `(tactic| refine ⟨_, _, rfl, .int _, ?_⟩)
theorem wt_andP2 {K : PySem.W.Frag} {r : Ro} {m : Sto} {A B : TT} {Q : Bool → Sto → Prop} (a b : Bool) (hA : WT K r m A fun x m1 => x = a ∧ m1 = m) (hB : a = true → WT K r m B fun x m1 => x = b ∧ m1 = m) (q : Q (a && b) m) : WT K r m (tAnd A B) Q :=
  wt_and (hA.imp fun x m1 ⟨h1, h2⟩ => by
    subst h1 h2
    cases x with
    | true => exact (hB rfl).imp fun y m2 ⟨h3, h4⟩ => by subst h3 h4; exact q
    | false => exact q)
theorem m_check_full_word {K : PySem.W.Frag} : Ok K ["word", "most"] T_check_full_word (t_check_full_word K) := by
  rintro ss m Q ⟨w, n, rfl, hne, hw, hn, q⟩
  have hl := hw.1
  unfold t_check_full_word
  refine ws_if (wt_orF ?_ ?_ (if_no ?_))
  · repeat walk_at "w"
    refine ⟨dS w, n, rfl, letOk_S (by show _ ≤ 100000; omega) hw.2, ?_⟩
    rw [letD_S, decide_eq_true (by omega)]
    exact ⟨true, rfl, rfl, rfl⟩
  · repeat walk_at "w"
    refine ⟨_, _, _, rfl, rfl, .mk (req_S w []), _, rfl, decide_eq_false hne, rfl⟩
  · walk_at "w"
    exact q
theorem S_idx {w : List Nat} {i : Nat} (hl : w.length ≤ 100000) (h : i < w.length) : RIx (dS w) (.int (i : Int)) (.v (dS [w[i]])) := rix_S hl (atI_natV h)
theorem nI_idx {bs : List Nat} {i b : Nat} (h : bs[i]? = some b) : RIx (.lst (nI bs)) (.int (i : Int)) (.v (.int (b : Int))) := .lst (by
  have hi := (List.getElem?_eq_some_iff.mp h).1
  have := atI_natV (xs := nI bs) (i := i) (by rw [List.length_map]; exact hi)
  rw [this]
  rw [← List.getElem?_eq_getElem, List.getElem?_map, h]
  rfl)
theorem m_going_back {K : PySem.W.Frag} : Ok K ["word", "text", "many"] T_going_back (t_going_back K) := by
  rintro ss m Q ⟨w, t, rfl, hne, hwl, htl, q⟩
  have hn : 0 < w.length := by
    cases w with
    | nil => exact absurd rfl hne
    | cons a b => simp
  unfold t_going_back
  repeat walk_at "w"
  refine ws_while (fun n r' m' => m' = m ∧ ∃ j : Nat, r' = [some (.val (dS w)), some (.val (dS t)), some (.val (.int j))] ∧ j + n = t.length ∧ goN w t n j = go w t) t.length ⟨rfl, 0, rfl, by omega, rfl⟩ ?_
  rintro n r' m' ⟨rfl, j, rfl, hj, hg⟩
  by_cases hjl : j < t.length
  · have hti : t.length - 1 - j < t.length := by omega
    have hwi : w.length - 1 - j % w.length < w.length := by omega
    have hm := Nat.mod_lt j hn
    refine wt_andP2 true (decide ([t[t.length - 1 - j]] = [w[w.length - 1 - j % w.length]])) ?_ (fun _ => ?_) ?_
    · repeat walk_at "w"
      refine ⟨_, _, rfl, rlen_S htl, ?_⟩
      refine ⟨_, _, _, rfl, rfl, .int _ _, _, rfl, decide_eq_true (by omega), rfl⟩
    · repeat walk_at "w"
      refine ⟨_, _, rfl, rlen_S htl, ?_⟩
      repeat walk_at "w"
      walk_at "i2"
      repeat walk_at "w"
      walk_at "i2"
      have e1 : (t.length : Int) - 1 - (j : Int) = ((t.length - 1 - j : Nat) : Int) := by omega
      refine ⟨_, _, _, rfl, rfl, by rw [e1]; exact S_idx htl hti, ?_⟩
      repeat walk_at "w"
      refine ⟨_, _, rfl, rlen_S hwl, ?_⟩
      repeat walk_at "w"
      walk_at "i2"
      repeat walk_at "w"
      refine ⟨_, _, rfl, rlen_S hwl, ?_⟩
      refine ⟨_, _, _, rfl, rfl, .int (by omega), ?_⟩
      walk_at "i2"
      have e2 : (w.length : Int) - 1 - (j : Int) % (w.length : Int) = ((w.length - 1 - j % w.length : Nat) : Int) := by
        rw [← Int.natCast_emod]
        omega
      refine ⟨_, _, _, rfl, rfl, by rw [e2]; exact S_idx hwl hwi, ?_⟩
      exact ⟨_, _, _, rfl, rfl, .mk (req_S _ _), _, rfl, rfl, rfl⟩
    · rw [Bool.true_and]
      have en : n = (n - 1) + 1 := by omega
      have hg2 := hg
      rw [en] at hg2
      have cond : (j < t.length ∧ t[t.length - 1 - j]? = w[w.length - 1 - j % w.length]?) ↔ [t[t.length - 1 - j]] = [w[w.length - 1 - j % w.length]] := by
        rw [List.getElem?_eq_getElem hti, List.getElem?_eq_getElem hwi]
        constructor
        · rintro ⟨_, h⟩; rw [Option.some.inj h]
        · intro h; exact ⟨hjl, by rw [List.cons.inj h |>.1]⟩
      have hstep : goN w t ((n - 1) + 1) j = if j < t.length ∧ t[t.length - 1 - j]? = w[w.length - 1 - j % w.length]? then goN w t (n - 1) (j + 1) else j := rfl
      refine ite_dec (fun h => ?_) (fun h => ?_)
      · repeat walk_at "w"
        walk_at "i2"
        refine ⟨n - 1, by omega, rfl, j + 1, rfl, by omega, ?_⟩
        rw [hstep, if_pos (cond.mpr h)] at hg2
        exact hg2
      · rw [hstep, if_neg fun c => h (cond.mp c)] at hg2
        repeat walk_at "w"
        rw [hg2]
        exact q
  · refine wt_andP2 false false ?_ (fun h => (by cases h)) ?_
    · repeat walk_at "w"
      refine ⟨_, _, rfl, rlen_S htl, ?_⟩
      refine ⟨_, _, _, rfl, rfl, .int _ _, _, rfl, decide_eq_false (by omega), rfl⟩
    · rw [Bool.and_false]
      refine if_no ?_
      have : n = 0 := by omega
      subst this
      have hg' : j = go w t := hg
      repeat walk_at "w"
      rw [hg']
      exact q
theorem cutL_from {w : List Nat} {k : Nat} (h : k ≤ w.length) : cutL w (some (k : Int)) none = w.drop k := by
  unfold cutL
  rw [HT.sIx_nat, HT.sIx_none, Nat.min_eq_left h, List.take_of_length_le]
  rw [List.length_drop]
  exact Nat.le_refl _
theorem cutL_to {w : List Nat} {k : Nat} (h : k ≤ w.length) : cutL w none (some (k : Int)) = w.take k := by
  unfold cutL
  rw [HT.sIx_nat, HT.sIx_none, Nat.min_eq_left h]
  rfl
theorem m_turned_back {K : PySem.W.Frag} : Ok K ["word", "by", "at"] T_turned_back (t_turned_back K) := by
  rintro ss m Q ⟨w, b, rfl, hne, hwl, q⟩
  have hn : 0 < w.length := by
    cases w with
    | nil => exact absurd rfl hne
    | cons a b => simp
  have hm := Nat.mod_lt b hn
  unfold t_turned_back
  repeat walk_at "w"
  refine ⟨_, _, rfl, rlen_S hwl, ?_⟩
  repeat walk_at "w"
  refine ⟨_, _, rfl, rlen_S hwl, ?_⟩
  refine ⟨_, _, _, rfl, rfl, .int (by omega), ?_⟩
  walk_at "i2"
  have e : (w.length : Int) - (b : Int) % (w.length : Int) = ((w.length - b % w.length : Nat) : Int) := by
    rw [← Int.natCast_emod]
    omega
  rw [show (Rs.v (D.int ((w.length : Int) - (b : Int) % (w.length : Int)))).d = D.int ((w.length - b % w.length : Nat) : Int) by rw [e]; rfl]
  generalize hk : w.length - b % w.length = k at q ⊢
  repeat walk_at "w"
  refine ⟨_, rfl, ?_⟩
  walk_at "w"
  refine ⟨_, _, rfl, rsl_S hwl _ _, ?_⟩
  repeat walk_at "w"
  refine ⟨_, rfl, ?_⟩
  refine ⟨_, _, rfl, rsl_S hwl _ _, ?_⟩
  rw [cutL_from (by omega), cutL_to (by omega)]
  refine ⟨_, _, _, rfl, rfl, radd_S (by show _ ≤ 100000; rw [List.length_drop, List.length_take]; omega), ?_⟩
  exact q
theorem frz_at {r : Ro} {i : Nat} {p : Addr} {ds : List D} (h : r[i]? = some (some (.adr p))) : (r.map (frzS p ds))[i]? = some (some (.val (.lst ds))) := by
  rw [List.getElem?_map, h]
  simp [frzS]
theorem nI_snoc (bs : List Nat) (b : Nat) : nI bs ++ [D.int (b : Int)] = nI (bs ++ [b]) := by unfold nI; rw [List.map_append]; rfl
theorem m_borders {K : PySem.W.Frag} : Ok K ["word", "found", "place", "many"] T_borders (t_borders K) := by
  rintro ss m Q ⟨w, rfl, hne, hwl, q⟩
  have hn : 0 < w.length := by
    cases w with
    | nil => exact absurd rfl hne
    | cons a b => simp
  have hwl' : w.length ≤ 100000 := by omega
  unfold t_borders
  refine ws_seq (ws_asg (we_lstO ?_))
  repeat walk_at "w"
  refine ⟨[.int 0], rfl, by decide, fun p hp => ?_⟩
  refine ws_seq (ws_for [2] (wi_rng2 ?_))
  repeat walk_at "w"
  refine ⟨_, _, rfl, rlen_S hwl', ?_⟩
  walk_at "w"
  refine ⟨1, w.length, rfl, ⟨by decide, by decide, by omega, by omega⟩, fun i r' m' => ∃ (bs : List Nat) (z2 z3 : Option Sv), r' = [some (.val (dS w)), some (.adr p), z2, z3] ∧ m' p = some (nI bs) ∧ bs.length = i + 1 ∧ (∀ j b, bs[j]? = some b → Wm.IsB w (j + 1) b) ∧ ∀ x, x ≠ p → m' x = m x,
    ⟨[0], none, none, rfl, stS_same, rfl, fun j b hb => ?_, fun x hx => stS_ne hx⟩, ?_, ?_⟩
  · cases j with
    | zero =>
      have : b = 0 := (Option.some.inj hb).symm
      rw [this]
      exact ⟨by decide, Wm.bord_zero _ _, fun c h _ => by omega⟩
    | succ j => cases hb
  · rintro i d r' m' hd ⟨bs, z2, z3, rfl, hm, hbl, hbs, hF⟩
    have hi : i < w.length - 1 := by
      have := (List.getElem?_eq_some_iff.mp hd).1
      rw [rng_len] at this
      omega
    have hdd : d = .int ((i + 1 : Nat) : Int) := by
      unfold rngD at hd
      rw [List.getElem?_map, List.getElem?_range (by omega)] at hd
      have := (Option.some.inj hd).symm
      rw [this]
      show D.int (1 + (i : Int)) = _
      congr 1
      omega
    subst hdd
    have hpl : i + 1 < w.length := by omega
    refine wg_name ?_
    repeat walk_at "w"
    walk_at "i2"
    have hbi : i < bs.length := by omega
    have hb0 := List.getElem?_eq_getElem hbi
    have e0 : ((i + 1 : Nat) : Int) - 1 = (i : Int) := by omega
    refine ⟨_, _, _, vw_adr hm, rfl, by rw [e0]; exact nI_idx hb0, ?_⟩
    refine ws_seq (ws_while (fun n r' m1 => m1 = m' ∧ r' = [some (.val (dS w)), some (.adr p), some (.val (.int ((i + 1 : Nat) : Int))), some (.val (.int (n : Nat)))] ∧ Wm.Down w (i + 1) n) bs[i] ⟨rfl, rfl, Wm.down_start (hbs i _ hb0)⟩ ?_)
    rintro n r' m1 ⟨rfl, rfl, hdn⟩
    have hnl : n < w.length := by have := hdn.1; omega
    have hgn := List.getElem?_eq_getElem hnl
    have hgp := List.getElem?_eq_getElem hpl
    have cond : ([w[i + 1]] = [w[n]]) ↔ w[n]? = w[i + 1]? := by
      rw [hgn, hgp]
      constructor
      · intro h; rw [(List.cons.inj h).1]
      · intro h; rw [Option.some.inj h]
    refine wt_andP2 (decide (0 < n)) (!decide ([w[i + 1]] = [w[n]])) ?_ (fun _ => ?_) ?_
    · repeat walk_at "w"
      refine ⟨_, _, _, rfl, rfl, .int _ _, _, rfl, ?_, rfl⟩
      by_cases h : 0 < n
      · rw [decide_eq_true h, decide_eq_true (by omega)]
      · rw [decide_eq_false h, decide_eq_false (by omega)]
    · repeat walk_at "w"
      refine ⟨_, _, _, rfl, rfl, S_idx hwl' hpl, ?_⟩
      repeat walk_at "w"
      refine ⟨_, _, _, rfl, rfl, S_idx hwl' hnl, ?_⟩
      exact ⟨_, _, _, rfl, rfl, .mk (req_S _ _), _, rfl, rfl, rfl⟩
    refine ite_b (fun h => ?_) (fun h => ?_)
    · have h' : 0 < n ∧ ¬ [w[i + 1]] = [w[n]] := by simpa using h
      repeat walk_at "w"
      walk_at "i2"
      have hbn : n - 1 < bs.length := by have := hdn.1; omega
      have hb1 := List.getElem?_eq_getElem hbn
      have e1 : (n : Int) - 1 = ((n - 1 : Nat) : Int) := by omega
      refine ⟨_, _, _, vw_adr hm, rfl, by rw [e1]; exact nI_idx hb1, ?_⟩
      have hc := hbs (n - 1) _ hb1
      rw [show n - 1 + 1 = n by omega] at hc
      exact ⟨bs[n - 1], hc.1, rfl, rfl, Wm.down_step hdn h'.1 (fun e => h'.2 (cond.mpr e)) hc⟩
    · have fin : ∀ (b : Nat) (r : Ro), Wm.IsB w (i + 2) b → r = [some (.val (dS w)), some (.adr p), some (.val (.int ((i + 1 : Nat) : Int))), some (.val (.int (b : Nat)))] → ∃ (bs' : List Nat) (z2 z3 : Option Sv), r = [some (.val (dS w)), some (.adr p), z2, z3] ∧ (stS m1 p (nI bs ++ [D.int (b : Int)])) p = some (nI bs') ∧ bs'.length = i + 1 + 1 ∧ (∀ j b, bs'[j]? = some b → Wm.IsB w (j + 1) b) ∧ ∀ x, x ≠ p → (stS m1 p (nI bs ++ [D.int (b : Int)])) x = m x := by
        intro b r hb hr
        refine ⟨bs ++ [b], _, _, hr, by rw [stS_same, nI_snoc], by rw [List.length_append, hbl]; rfl, fun j c hc => ?_, fun x hx => by rw [stS_ne hx]; exact hF x hx⟩
        by_cases hj : j < bs.length
        · rw [List.getElem?_append_left hj] at hc
          exact hbs j c hc
        · rw [List.getElem?_append_right (by omega)] at hc
          have hj2 : j = bs.length := by
            have := (List.getElem?_eq_some_iff.mp hc).1
            simp at this
            omega
          rw [hj2, Nat.sub_self] at hc
          have : c = b := (Option.some.inj hc).symm
          rw [this, hj2, hbl]
          exact hb
      have hbsz : (nI bs).length < 100000 := by unfold nI; rw [List.length_map]; omega
      repeat walk_at "w"
      refine ⟨_, _, _, rfl, rfl, S_idx hwl' hpl, ?_⟩
      repeat walk_at "w"
      refine ⟨_, _, _, rfl, rfl, S_idx hwl' hnl, ?_⟩
      refine ⟨_, _, _, rfl, rfl, .mk (req_S _ _), _, rfl, ite_dec (fun he => ?_) (fun he => ?_)⟩
      · repeat walk_at "w"
        walk_at "i2"
        refine ws_app (we_var (by rfl) ⟨p, _, rfl, hm, we_var (by rfl) ⟨.int ((n : Int) + 1), nI bs, rfl, hm, hbsz, ?_⟩⟩)
        have e3 : ((n : Int) + 1) = ((n + 1 : Nat) : Int) := by omega
        rw [e3]
        exact fin (n + 1) _ (Wm.down_yes hdn (cond.mp he)) (by rw [← e3]; rfl)
      · walk_at "w"
        refine ws_app (we_var (by rfl) ⟨p, _, rfl, hm, we_var (by rfl) ⟨.int (n : Int), nI bs, rfl, hm, hbsz, ?_⟩⟩)
        have n0 : n = 0 := by
          have : ¬ (0 < n ∧ ¬ [w[i + 1]] = [w[n]]) := fun c => by
            have : (decide (0 < n) && !decide ([w[i + 1]] = [w[n]])) = true := by simpa using c
            rw [this] at h
            cases h
          rcases Nat.eq_zero_or_pos n with z | z
          · exact z
          · exact absurd ⟨z, he⟩ this
        subst n0
        exact fin 0 _ (Wm.down_no hdn fun e => he (cond.mpr e)) rfl
  · rintro r' m' ⟨bs, z2, z3, rfl, hm, hbl, hbs, hF⟩
    rw [rng_len] at hbl
    refine ws_frz hm (dom_none.mpr hp) (ws_ret (we_var (s := .val (.lst (nI bs))) (frz_at rfl) ?_))
    have em : stD m' p = m := by
      funext x
      unfold stD
      by_cases hx : x = p
      · rw [if_pos hx, hx, hp]
      · rw [if_neg hx]; exact hF x hx
    rw [em]
    exact q bs (by omega) hbs
theorem m_period_of {K : PySem.W.Frag} : Ok K ["word"] T_period_of (t_period_of K) := by
  rintro ss m Q ⟨w, rfl, hne, hwl, q⟩
  have hn : 0 < w.length := by
    cases w with
    | nil => exact absurd rfl hne
    | cons a b => simp
  unfold t_period_of
  repeat walk_at "w"
  refine ⟨_, _, rfl, rlen_S (by show _ ≤ 100000; omega), ?_⟩
  repeat walk_at "w"
  refine ⟨w, rfl, hne, hwl, fun bs hbl hbs => ?_⟩
  repeat walk_at "w"
  refine ⟨_, _, rfl, .int _, ?_⟩
  have hlast : w.length - 1 < bs.length := by omega
  have hb := List.getElem?_eq_getElem hlast
  have hix : atI (nI bs) (-1) = some (.int (bs[w.length - 1] : Nat)) := by
    unfold atI ixN
    have : (nI bs).length = w.length := by unfold nI; rw [List.length_map, hbl]
    rw [this, if_neg (by decide), if_pos (by omega)]
    show (nI bs)[((-1 : Int) + (w.length : Int)).toNat]? = _
    rw [show ((-1 : Int) + (w.length : Int)).toNat = w.length - 1 by omega, List.getElem?_map, hb]
    rfl
  refine ⟨_, _, _, rfl, rfl, .lst hix, ?_⟩
  have hB := hbs (w.length - 1) _ hb
  rw [show w.length - 1 + 1 = w.length by omega] at hB
  have hL := Wm.least_of_bord hB
  have he := lp_eq hL
  walk_at "i2"
  rw [he] at q
  have e2 : (w.length : Int) - ((bs[w.length - 1] : Nat) : Int) = ((w.length - bs[w.length - 1] : Nat) : Int) := by
    have := hB.1
    omega
  show Q (.val (.int ((w.length : Int) - ((bs[w.length - 1] : Nat) : Int)))) m
  rw [e2]
  exact q
theorem m_root {K : PySem.W.Frag} : Ok K ["word", "many"] T_root (t_root K) := by
  rintro ss m Q ⟨w, rfl, hne, hw, q⟩
  have hl := hw.1
  have hL := lp_least hne
  have hwl : w.length ≤ 100000 := by omega
  unfold t_root
  repeat walk_at "w"
  refine ⟨w, 20000, rfl, hne, hw, by decide, ?_⟩
  repeat walk_at "w"
  refine ⟨w, rfl, hne, hl, ?_⟩
  repeat walk_at "w"
  refine ⟨_, _, rfl, rlen_S hwl, ?_⟩
  have h1 := hL.1
  repeat walk_at "w"
  refine ⟨_, _, _, rfl, rfl, .int (by omega), ?_⟩
  repeat walk_at "w"
  refine ⟨_, _, _, rfl, rfl, .mk (.int _ _), _, rfl, ?_⟩
  have em : (w.length : Int) % (lp w : Int) = ((w.length % lp w : Nat) : Int) := by rw [Int.natCast_emod]
  unfold rootW rootN at q
  by_cases c : w.length % lp w = 0
  · rw [if_pos c, if_pos c] at q
    rw [show decide ((w.length : Int) % (lp w : Int) = 0) = true from decide_eq_true (by rw [em, c]; rfl)]
    refine if_no ?_
    repeat walk_at "w"
    refine ⟨_, rfl, ?_⟩
    refine ⟨_, _, rfl, rsl_S hwl _ _, ?_⟩
    rw [cutL_to hL.2.1]
    repeat walk_at "w"
    refine ⟨_, _, rfl, rlen_S hwl, ?_⟩
    repeat walk_at "w"
    refine ⟨_, _, _, rfl, rfl, .int (by omega) (Nat.lt_of_le_of_lt (log2_mono (b := 100000) (by simp; have := hL.2.1; omega)) (by decide +kernel)), ?_⟩
    walk_at "w"
    refine ⟨[dS (w.take (lp w)), .int ((w.length : Int) / (lp w : Int))], rfl, by show (2 : Nat) ≤ 100000; decide, ?_⟩
    rw [← Int.natCast_ediv]
    exact q
  · rw [if_neg c, if_neg c] at q
    rw [show decide ((w.length : Int) % (lp w : Int) = 0) = false from decide_eq_false (by rw [em]; omega)]
    rw [if_pos (show (!false) = true from rfl)]
    repeat walk_at "w"
    exact ⟨[dS w, .int 1], rfl, by show (2 : Nat) ≤ 100000; decide, q⟩
end L12

namespace L12
open PySem PySem.Spec PyProof.Rows L2 Cr
local macro_rules | `(tactic| walk_at "w") => `(tactic| first
  | with_reducible refine ws_seq ?_ | with_reducible refine ws_asg ?_ | with_reducible refine ws_ret ?_ | with_reducible refine ws_retN ?_ | with_reducible refine ws_drop ?_ | with_reducible refine ws_if ?_
  | with_reducible refine ws_next ?_ | with_reducible refine ws_par ?_ | with_reducible refine ws_par3 ?_
  | with_reducible refine we_int ?_ | with_reducible refine we_str ?_ | with_reducible refine we_bl ?_ | with_reducible refine we_non ?_ | with_reducible refine we_op ?_ | with_reducible refine we_un ?_
  | with_reducible refine we_cb ?_ | with_reducible refine we_if ?_ | with_reducible refine we_tup ?_ | with_reducible refine we_call ?_ | with_reducible refine wa_cons ?_ | with_reducible refine wa_nil ?_
  | with_reducible refine wt_val ?_ | with_reducible refine wt_test ?_ | with_reducible refine wt_and ?_ | with_reducible refine wt_or ?_ | with_reducible refine wt_not ?_ | with_reducible refine wt_yes ?_
  | with_reducible refine we_andV ?_ | with_reducible refine we_orV ?_ | with_reducible refine we_notV ?_ | with_reducible refine we_chain ?_ | with_reducible refine we_slice ?_ | with_reducible refine wo_none ?_ | with_reducible refine wo_some ?_
  | with_reducible refine we_bits ?_ | refine we_var (by rfl) ?_)
local macro_rules | `(tactic| walk_at "i2") => `(tactic| refine ⟨_, _, _, rfl, rfl, .int _ _, ?_⟩)
local macro_rules | `(tactic| walk_at "in") => `(tactic| refine ⟨_, _, rfl, .int _, ?_⟩)
theorem abc_small : ∀ c ∈ abc, c < 1114112 := by decide
theorem plain_pD {p : Pc} (h : ∀ c ∈ p.1, c ∈ abc) : Plain (pD p) := by
  refine ⟨.tuple [.str (S p.1), .tuple (p.2.map .int)], ?_, ?_, ?_⟩
  · show D.py (.tup [dS p.1, tI p.2]) = _
    simp only [D.py, D.pyA, Cr.pyA_ints]
    rfl
  · have hs : (S p.1).cps.all (· < 1114112) = true := by
      show p.1.toArray.all (· < 1114112) = true
      rw [List.all_toArray, List.all_eq_true]
      intro c hc
      exact decide_eq_true (abc_small c (h c hc))
    have hs' : PyData.strOk (S p.1) = true := hs
    simp only [PyData.canLay0, PyData.canLayAll0, Cr.canLayAll_ints, hs', Bool.and_self]
  · have := Cr.depthAll_ints p.2
    simp only [PyData.depth, PyData.depthAll]
    omega
theorem stk_cons (q : Pc) (r : List Pc) : stk (q :: r) = stk r ++ [pD q] := by unfold stk; rw [List.reverse_cons, List.map_append]; rfl
theorem stk_len (st : List Pc) : (stk st).length = st.length := by unfold stk; rw [List.length_map, List.length_reverse]
theorem top_ix (q : Pc) (r : List Pc) : atI (stk (q :: r)) (-1) = some (pD q) := by
  rw [stk_cons]
  unfold atI ixN
  rw [List.length_append, if_neg (by decide), if_pos (by simp; omega)]
  show (stk r ++ [pD q])[((-1 : Int) + (((stk r).length + [pD q].length : Nat) : Int)).toNat]? = _
  rw [show ((-1 : Int) + (((stk r).length + [pD q].length : Nat) : Int)).toNat = (stk r).length by simp only [List.length_cons, List.length_nil]; omega, List.getElem?_append_right (Nat.le_refl _), Nat.sub_self]
  rfl
theorem top_ixN (q : Pc) (r : List Pc) : ixN (stk (q :: r)).length (-1) = some r.length := by
  unfold ixN
  rw [stk_len, if_neg (by decide), if_pos (by simp only [List.length_cons]; omega)]
  congr 1
  simp only [List.length_cons]
  omega
theorem top_set (q q' : Pc) (r : List Pc) : (stk (q :: r)).set r.length (pD q') = stk (q' :: r) := by
  rw [stk_cons, stk_cons, ← stk_len r, List.set_append_right _ _ (Nat.le_refl _), Nat.sub_self]
  rfl
theorem stk_nil_eq (st : List Pc) (h : ∀ q ∈ st, ∀ c ∈ q.1, c ∈ abc) : REq (.lst (stk st)) (.lst []) (decide (st = [])) := by
  have := reqL_nil (ds := stk st) fun d hd => by
    obtain ⟨q, hq, rfl⟩ := List.mem_map.mp hd
    exact plain_pD (h q (List.mem_reverse.mp hq))
  have e : (stk st).isEmpty = decide (st = []) := by
    cases st with
    | nil => rfl
    | cons q r => rw [stk_cons]; simp
  rw [e] at this
  exact this
theorem wt_andP3 {K : PySem.W.Frag} {r : Ro} {m : Sto} {A B : TT} {Q : Bool → Sto → Prop} (a b : Bool) (hA : WT K r m A fun x m1 => x = a ∧ m1 = m) (hB : a = true → WT K r m B fun x m1 => x = b ∧ m1 = m) (q : Q (a && b) m) : WT K r m (tAnd A B) Q :=
  wt_and (hA.imp fun x m1 ⟨h1, h2⟩ => by
    subst h1 h2
    cases x with
    | true => exact (hB rfl).imp fun y m2 ⟨h3, h4⟩ => by subst h3 h4; exact q
    | false => exact q)
/-- stack != [] -/
theorem wt_some {K : PySem.W.Frag} {r : Ro} {m : Sto} {i : Nat} {p : Addr} {st : List Pc} (hi : r[i]? = some (some (.adr p))) (hm : m p = some (stk st)) (h : ∀ q ∈ st, ∀ c ∈ q.1, c ∈ abc) :
    WT K r m (tTest (tOp (rD2 K RNeR) (tVar i) (tLst tNil))) fun x m1 => x = (!decide (st = [])) ∧ m1 = m :=
  wt_test (we_op (we_var hi (we_lst (wa_nil ⟨[], rfl, by decide, _, _, _, vw_adr hm, rfl, .mk (stk_nil_eq st h), _, rfl, rfl, rfl⟩))))
/-- stack[-1] -/
theorem we_top {K : PySem.W.Frag} {r : Ro} {m : Sto} {i : Nat} {p : Addr} {q : Pc} {st : List Pc} {Q : Sv → Sto → Prop} (hi : r[i]? = some (some (.adr p))) (hm : m p = some (stk (q :: st))) (k : Q (.val (pD q)) m) :
    WE K r m (tOp (rD2 K RIx) (tVar i) (tUn (rD1 K RNeg) (tC (.int 1)))) Q :=
  we_op (we_var hi (we_un (we_int ⟨_, _, rfl, .int _, _, _, _, vw_adr hm, rfl, .lst (top_ix q st), k⟩)))
theorem m_push_word {K : PySem.W.Frag} : Ok K ["stack", "word", "fixed"] T_push_word (t_push_word K) := by
  rintro ss m Q ⟨p, k, w, st, rfl, hm, ⟨hsl, hst⟩, q⟩
  have hab : ∀ q ∈ st, ∀ c ∈ q.1, c ∈ abc := fun q hq => (hst q hq).1
  unfold t_push_word
  repeat walk_at "w"
  refine ⟨_, _, _, rfl, rfl, .mk (req_S w []), _, rfl, ?_⟩
  by_cases hw : w = []
  · subst hw
    rw [decide_eq_true rfl]
    refine if_no ?_
    walk_at "w"
    have e : pushW k [] st = st := by cases st <;> rfl
    rw [e, stS_self hm] at q
    exact q
  · rw [decide_eq_false hw, if_pos (show (!false) = true from rfl)]
    cases st with
    | nil =>
      refine ws_if (wt_andP3 false false (wt_some rfl hm hab) (fun h => (by cases h)) (if_no ?_))
      refine ws_app (we_var rfl ⟨p, _, rfl, hm, we_tup (wa_cons (we_var rfl (wa_cons (we_var rfl (wa_nil ⟨[dS w, tI (fx k)], rfl, by show (2 : Nat) ≤ 100000; decide, _, _, rfl, hm, by show (0 : Nat) < 100000; decide, ?_⟩)))))⟩)
      rw [pushW_nil, if_neg hw] at q
      exact q
    | cons t r =>
      refine ws_if (wt_andP3 true (decide (t.2 = fx k)) (wt_some rfl hm hab) (fun _ => ?_) ?_)
      · refine wt_test (we_op (we_op (we_top rfl hm (we_int ⟨_, _, _, rfl, rfl, .tup (d := tI t.2) rfl, ?_⟩))))
        refine we_var rfl ⟨_, _, _, rfl, rfl, .mk (req_tI _ _), _, rfl, rfl, rfl⟩
      rw [Bool.true_and]
      refine ite_dec (fun hf => ?_) (fun hf => ?_)
      · refine ws_setI (we_tup (wa_cons (we_op (we_op (we_top rfl hm (we_int ⟨_, _, _, rfl, rfl, .tup (d := dS t.1) rfl, ?_⟩)))) ))
        refine we_var rfl ⟨_, _, _, rfl, rfl, radd_S (by show _ ≤ 100000; exact (hst t List.mem_cons_self).2), ?_⟩
        refine wa_cons (we_var rfl (wa_nil ⟨[dS (t.1 ++ w), tI (fx k)], rfl, by show (2 : Nat) ≤ 100000; decide, ?_⟩))
        refine we_var rfl (we_un (we_int ⟨_, _, rfl, .int _, ?_⟩))
        refine ⟨_, p, _, _, _, rfl, rfl, rfl, hm, top_ixN t r, ?_⟩
        have e := top_set t (t.1 ++ w, fx k) r
        rw [pushW_cons, if_neg hw, if_pos hf, ← e] at q
        exact q
      · refine ws_app (we_var rfl ⟨p, _, rfl, hm, we_tup (wa_cons (we_var rfl (wa_cons (we_var rfl (wa_nil ⟨[dS w, tI (fx k)], rfl, by show (2 : Nat) ≤ 100000; decide, _, _, rfl, hm, by rw [stk_len]; exact hsl, ?_⟩)))))⟩)
        rw [pushW_cons, if_neg hw, if_neg hf, stk_cons] at q
        exact q
theorem tot_cons (q : Pc) (r : List Pc) : tot (q :: r) = q.1.length + tot r := by unfold tot; rw [List.map_cons, List.sum_cons]
theorem tot_mem {q : Pc} : ∀ {st : List Pc}, q ∈ st → q.1.length ≤ tot st
  | [], h => by cases h
  | t :: r, h => by
    rw [tot_cons]
    rcases List.mem_cons.mp h with e | e
    · rw [e]; omega
    · have := tot_mem e; omega
theorem OkT.s {k n : Nat} {st : List Pc} (h : OkT k st n) : OkS st n := ⟨by have := h.1; omega, fun q hq => ⟨(h.2.1 q hq).1, by have := tot_mem hq; have := h.2.2; omega⟩⟩
theorem okT_pushW {k : Nat} {w : List Nat} {st : List Pc} (h : (∀ q ∈ st, (∀ c ∈ q.1, c ∈ abc) ∧ q.2.length = k + 1)) (hw : ∀ c ∈ w, c ∈ abc) :
    (∀ q ∈ pushW k w st, (∀ c ∈ q.1, c ∈ abc) ∧ q.2.length = k + 1) ∧ tot (pushW k w st) = tot st + w.length ∧ (pushW k w st).length ≤ st.length + 1 := by
  cases st with
  | nil =>
    rw [pushW_nil]
    by_cases c : w = []
    · rw [if_pos c, c]; exact ⟨fun q hq => (by cases hq), rfl, by simp⟩
    · rw [if_neg c]
      refine ⟨fun q hq => ?_, by rw [tot_cons]; show w.length + 0 = 0 + w.length; omega, by simp⟩
      rw [List.mem_singleton.mp hq]
      exact ⟨hw, (fx_row k).1⟩
  | cons t r =>
    rw [pushW_cons]
    by_cases c : w = []
    · rw [if_pos c, c]; exact ⟨h, rfl, by simp⟩
    · rw [if_neg c]
      by_cases d : t.2 = fx k
      · rw [if_pos d]
        refine ⟨fun q hq => ?_, by rw [tot_cons, tot_cons, List.length_append]; omega, by simp⟩
        rcases List.mem_cons.mp hq with e | e
        · rw [e]
          exact ⟨fun c hc => (List.mem_append.mp hc).elim ((h t List.mem_cons_self).1 c) (hw c), (fx_row k).1⟩
        · exact h q (List.mem_cons_of_mem _ e)
      · rw [if_neg d]
        refine ⟨fun q hq => ?_, by rw [tot_cons (w, fx k)]; show w.length + tot (t :: r) = _; omega, by simp⟩
        rcases List.mem_cons.mp hq with e | e
        · rw [e]; exact ⟨hw, (fx_row k).1⟩
        · exact h q e
abbrev t_rest (K : PySem.W.Frag) : TS := (tSeq (tIfS (tAnd (tTest (tOp (rD2 K RNeR) (tVar 0) (tLst tNil))) (tAnd (tTest (tOp (rD2 K RNeR) (tOp (rD2 K RIx) (tOp (rD2 K RIx) (tVar 0) (tUn (rD1 K RNeg) (tC (.int 1)))) (tC (.int 1))) (tVar 3))) (tTest (tOp (rD2 K REqR) (tOp (rD2 K RIx) (tOp (rD2 K RIx) (tVar 0) (tUn (rD1 K RNeg) (tC (.int 1)))) (tC (.int 0))) (tVar 1))))) (tAsg (tTup (tCons (tVar 1) (tCons (tCall (SpD K T_form_sum) [] E0 (tCons (tOp (rD2 K RIx) (tOp (rD2 K RIx) (tVar 0) (tUn (rD1 K RNeg) (tC (.int 1)))) (tC (.int 1))) (tCons (tVar 2) tNil))) tNil))) (gSub (tVar 0) (tUn (rD1 K RNeg) (tC (.int 1))) rSetL)) (tDrop (tBM K "list" rAppend (tVar 0) (tCons (tTup (tCons (tVar 1) (tCons (tVar 2) tNil))) tNil)))) (tDrop (tCall (SpD K T_push_word) [] E0 (tCons (tVar 0) (tCons (tVar 4) (tCons (tVar 3) tNil))))))
theorem rest_ok {K : PySem.W.Frag} {M : Dm} {r : Ro} {m : Sto} {P : Eds} {p : Addr} {k : Nat} {w c : List Nat} {form : List Int} {st : List Pc} (h0 : r[0]? = some (some (.adr p))) (h1 : r[1]? = some (some (.val (dS w)))) (h2 : r[2]? = some (some (.val (tI form)))) (h3 : r[3]? = some (some (.val (tI (fx k))))) (h4 : r[4]? = some (some (.val (dS c))))
    (hm : m p = some (stk st)) (hwa : ∀ x ∈ w, x ∈ abc) (hca : ∀ x ∈ c, x ∈ abc) (hk : k ≤ 3) (hl : form.length = k + 1) (hst : st.length + 2 < 100000) (hq : ∀ q ∈ st, (∀ c ∈ q.1, c ∈ abc) ∧ q.2.length = k + 1) (htot : tot st + w.length + c.length ≤ 100000)
    (q : P.nx r (stS m p (stk (pushW k c (meet k w form st))))) : WS K M r m (t_rest K) P := by
  have hab : ∀ q ∈ st, ∀ c ∈ q.1, c ∈ abc := fun x hx => (hq x hx).1
  have fin : ∀ st', st' = meet k w form st → st'.length < 100000 → (∀ q ∈ st', (∀ c ∈ q.1, c ∈ abc) ∧ q.1.length + c.length ≤ 100000) → WS K M r (stS m p (stk st')) (tDrop (tCall (SpD K T_push_word) [] E0 (tCons (tVar 0) (tCons (tVar 4) (tCons (tVar 3) tNil))))) P := by
    rintro st' rfl e1 e2
    refine ws_drop (we_call (wa_cons (we_var h0 (wa_cons (we_var h4 (wa_cons (we_var h3 (wa_nil ⟨p, k, c, _, rfl, stS_same, ⟨e1, e2⟩, ?_⟩))))))))
    rw [stS_stS]
    exact q
  have wl : w.length + c.length ≤ 100000 := by omega
  have app : ∀ st', st' = (w, form) :: st → st' = meet k w form st → WS K M r m (tDrop (tBM K "list" rAppend (tVar 0) (tCons (tTup (tCons (tVar 1) (tCons (tVar 2) tNil))) tNil))) { P with nx := fun r' m' => WS K M r' m' (tDrop (tCall (SpD K T_push_word) [] E0 (tCons (tVar 0) (tCons (tVar 4) (tCons (tVar 3) tNil))))) P } := by
    rintro st' rfl e
    refine ws_app (we_var h0 ⟨p, _, rfl, hm, we_tup (wa_cons (we_var h1 (wa_cons (we_var h2 (wa_nil ⟨[dS w, tI form], rfl, by show (2 : Nat) ≤ 100000; decide, _, _, rfl, hm, by rw [stk_len]; omega, ?_⟩)))))⟩)
    have := fin _ e (by simp only [List.length_cons]; omega) (fun x hx => by
      rcases List.mem_cons.mp hx with e | e
      · rw [e]; exact ⟨hwa, wl⟩
      · exact ⟨hab x e, by have := tot_mem e; omega⟩)
    rw [stk_cons] at this
    exact this
  refine ws_seq ?_
  cases st with
  | nil =>
    refine ws_if (wt_andP3 false false (wt_some h0 hm hab) (fun h => (by cases h)) (if_no ?_))
    exact app _ rfl rfl
  | cons t s =>
    have ht := hq t List.mem_cons_self
    refine ws_if (wt_andP3 true (!decide (t.2 = fx k) && decide (t.1 = w)) (wt_some h0 hm hab) (fun _ => wt_andP3 (!decide (t.2 = fx k)) (decide (t.1 = w)) ?_ (fun _ => ?_) ⟨rfl, rfl⟩) ?_)
    · refine wt_test (we_op (we_op (we_top h0 hm (we_int ⟨_, _, _, rfl, rfl, .tup (d := tI t.2) rfl, ?_⟩))))
      exact we_var h3 ⟨_, _, _, rfl, rfl, .mk (req_tI _ _), _, rfl, rfl, rfl⟩
    · refine wt_test (we_op (we_op (we_top h0 hm (we_int ⟨_, _, _, rfl, rfl, .tup (d := dS t.1) rfl, ?_⟩))))
      exact we_var h1 ⟨_, _, _, rfl, rfl, .mk (req_S _ _), _, rfl, rfl, rfl⟩
    rw [Bool.true_and]
    refine ite_b (fun hc => ?_) (fun hc => ?_)
    · have hc' : t.2 ≠ fx k ∧ t.1 = w := by simpa using hc
      refine ws_setI (we_tup (wa_cons (we_var h1 (wa_cons (we_call (wa_cons (we_op (we_top h0 hm (we_int ⟨_, _, _, rfl, rfl, .tup (d := tI t.2) rfl, ?_⟩))) ))))))
      refine wa_cons (we_var h2 (wa_nil ⟨t.2, form, rfl, by rw [ht.2]; omega, by rw [ht.2, hl], ?_⟩))
      refine wa_nil ⟨[dS w, tI (add t.2 form)], rfl, by show (2 : Nat) ≤ 100000; decide, ?_⟩
      refine we_var h0 (we_un (we_int ⟨_, _, rfl, .int _, ?_⟩))
      refine ⟨_, p, _, _, _, rfl, rfl, rfl, hm, top_ixN t s, ?_⟩
      have e := top_set t (w, add t.2 form) s
      have em : (w, add t.2 form) :: s = meet k w form (t :: s) := by rw [meet_cons, if_pos hc']
      have := fin _ em (by simp only [List.length_cons] at hst ⊢; omega) (fun x hx => by
        rcases List.mem_cons.mp hx with e | e
        · rw [e]; exact ⟨hwa, wl⟩
        · exact ⟨hab x (List.mem_cons_of_mem _ e), by have := tot_mem e; rw [tot_cons] at htot; omega⟩)
      rw [← e] at this
      exact this
    · refine app _ rfl ?_
      rw [meet_cons, if_neg]
      intro c2
      have : (!decide (t.2 = fx k) && decide (t.1 = w)) = true := by simpa using c2
      rw [this] at hc
      cases hc
theorem cut_from {w : List Nat} {k : Nat} (h : k ≤ w.length) : cutL w (some (k : Int)) none = w.drop k := by
  unfold cutL
  rw [HT.sIx_nat, HT.sIx_none, Nat.min_eq_left h, List.take_of_length_le]
  rw [List.length_drop]
  exact Nat.le_refl _
theorem cut_to {w : List Nat} {k : Nat} (h : k ≤ w.length) : cutL w none (some (k : Int)) = w.take k := by
  unfold cutL
  rw [HT.sIx_nat, HT.sIx_none, Nat.min_eq_left h]
  rfl
theorem m_push_power {K : PySem.W.Frag} : Ok K ["stack", "word", "form", "fixed", "carried", "ahead", "by"] T_push_power (t_push_power K) := by
  rintro ss m Q ⟨p, k, w, form, st, rfl, hm, hne, hwa, hk, hl, hok, q⟩
  obtain ⟨o1, o2, o3⟩ := id hok
  have hab : ∀ q ∈ st, ∀ c ∈ q.1, c ∈ abc := fun x hx => (o2 x hx).1
  unfold t_push_power
  refine ws_seq (ws_asg (we_str ?_))
  cases st with
  | nil =>
    refine ws_seq (ws_if (wt_andP3 false false (wt_some rfl hm hab) (fun h => (by cases h)) (if_no (ws_next ?_))))
    refine rest_ok (c := []) rfl rfl rfl rfl rfl hm hwa (fun x hx => (by cases hx)) hk hl (by omega) o2 (by simpa using o3) ?_
    have e : pushW k [] (meet k w form []) = pushP k w form [] := rfl
    rw [e]
    exact q
  | cons t r =>
    have ht := o2 t List.mem_cons_self
    have htl : t.1.length ≤ 100000 := by have := tot_mem (q := t) (st := t :: r) List.mem_cons_self; omega
    have hwl : w.length ≤ 100000 := by omega
    refine ws_seq (ws_if (wt_andP3 true (decide (t.2 = fx k)) (wt_some rfl hm hab) (fun _ => ?_) ?_))
    · refine wt_test (we_op (we_op (we_top rfl hm (we_int ⟨_, _, _, rfl, rfl, .tup (d := tI t.2) rfl, ?_⟩))))
      exact we_var rfl ⟨_, _, _, rfl, rfl, .mk (req_tI _ _), _, rfl, rfl, rfl⟩
    rw [Bool.true_and]
    refine ite_dec (fun hf => ?_) (fun hf => ?_)
    · obtain ⟨g1, g2, g3⟩ := go_spec (text := t.1) hne
      rw [pushP_cons, if_pos hf] at q
      generalize hby : go w t.1 = b at g1 g2 g3 q
      refine ws_seq (ws_asg (we_op (we_pop (we_var rfl ⟨p, stk r, pD t, rfl, by rw [hm, stk_cons], we_int ⟨_, _, _, rfl, rfl, .tup (d := dS t.1) rfl, ?_⟩⟩))))
      refine ws_seq (ws_asg (we_call (wa_cons (we_var rfl (wa_cons (we_var rfl (wa_nil ⟨w, t.1, rfl, hne, hwl, htl, ?_⟩)))))))
      rw [hby]
      have e1 : (t.1.length : Int) - (b : Int) = ((t.1.length - b : Nat) : Int) := by omega
      refine ws_seq (ws_par ?_)
      repeat walk_at "w"
      refine ⟨_, _, rfl, rlen_S htl, ?_⟩
      repeat walk_at "w"
      walk_at "i2"
      refine ⟨_, rfl, ?_⟩
      walk_at "w"
      refine ⟨_, _, rfl, rsl_S htl _ _, ?_⟩
      rw [e1, cut_from (by omega)]
      repeat walk_at "w"
      refine ⟨w, b, rfl, hne, hwl, ?_⟩
      walk_at "w"
      refine ⟨_, _, rfl, ?_⟩
      repeat walk_at "w"
      refine ⟨_, _, rfl, rlen_S htl, ?_⟩
      repeat walk_at "w"
      walk_at "i2"
      refine ⟨_, rfl, ?_⟩
      refine ⟨_, _, rfl, rsl_S htl _ _, ?_⟩
      rw [e1, cut_to (by omega)]
      have hr : ∀ q ∈ r, (∀ c ∈ q.1, c ∈ abc) ∧ q.2.length = k + 1 := fun x hx => o2 x (List.mem_cons_of_mem _ hx)
      rw [tot_cons] at o3
      simp only [List.length_cons] at o1
      have htk : ∀ c ∈ t.1.take (t.1.length - b), c ∈ abc := fun c hc => ht.1 c (List.mem_of_mem_take hc)
      obtain ⟨p1, p2, p3⟩ := okT_pushW (w := t.1.take (t.1.length - b)) hr htk
      have tkl : (t.1.take (t.1.length - b)).length = t.1.length - b := by rw [List.length_take]; omega
      repeat walk_at "w"
      refine (⟨p, k, _, r, rfl, stS_same, ⟨by omega, fun x hx => ⟨(hr x hx).1, by have := tot_mem hx; omega⟩⟩, ?_⟩)
      rw [stS_stS]
      have hm2 := Nat.mod_lt b (show 0 < w.length by
        cases w with
        | nil => exact absurd rfl hne
        | cons a b => simp)
      refine rest_ok (c := t.1.drop (t.1.length - b)) (w := Wm.turn w (w.length - b % w.length)) rfl rfl rfl rfl rfl stS_same (fun x hx => ?_) (fun x hx => ht.1 x (List.mem_of_mem_drop hx)) hk hl (by omega) p1 ?_ ?_
      · unfold Wm.turn at hx
        rcases List.mem_append.mp hx with h | h
        · exact hwa x (List.mem_of_mem_drop h)
        · exact hwa x (List.mem_of_mem_take h)
      · rw [p2, tkl, Wm.turn_len, List.length_drop]
        omega
      · rw [stS_stS]
        exact q
    · refine ws_next ?_
      refine rest_ok (c := []) rfl rfl rfl rfl rfl hm hwa (fun x hx => (by cases hx)) hk hl (by omega) o2 (by simpa using o3) ?_
      have e : ∀ l : List Pc, pushW k [] l = l := fun l => by cases l <;> rfl
      rw [e]
      rw [pushP_cons, if_neg hf] at q
      exact q
/-! ### what a step leaves of letters, forms, lengths -/
def Lt (k : Nat) (st : List Pc) : Prop := ∀ q ∈ st, (∀ c ∈ q.1, c ∈ abc) ∧ q.2.length = k + 1
theorem lt_meet {k : Nat} {w : List Nat} {form : List Int} {st : List Pc} (h : Lt k st) (hw : ∀ c ∈ w, c ∈ abc) (hl : form.length = k + 1) : Lt k (meet k w form st) ∧ tot (meet k w form st) ≤ tot st + w.length ∧ (meet k w form st).length ≤ st.length + 1 := by
  have app : Lt k ((w, form) :: st) := fun q hq => by
    rcases List.mem_cons.mp hq with e | e
    · rw [e]; exact ⟨hw, hl⟩
    · exact h q e
  have app2 : tot ((w, form) :: st) ≤ tot st + w.length := by rw [tot_cons]; show w.length + tot st ≤ _; omega
  cases st with
  | nil => exact ⟨app, app2, by simp [meet]⟩
  | cons t r =>
    rw [meet_cons]
    by_cases c : t.2 ≠ fx k ∧ t.1 = w
    · rw [if_pos c]
      refine ⟨fun q hq => ?_, by rw [tot_cons, tot_cons]; show w.length + tot r ≤ _; omega, by simp⟩
      rcases List.mem_cons.mp hq with e | e
      · rw [e]
        exact ⟨hw, by show (add t.2 form).length = _; simp only [add, List.length_zipWith, (h t List.mem_cons_self).2, hl]; omega⟩
      · exact h q (List.mem_cons_of_mem _ e)
    · rw [if_neg c]
      exact ⟨app, app2, by simp⟩
theorem lt_pushP {k : Nat} {w : List Nat} {form : List Int} {st : List Pc} (h : Lt k st) (hne : w ≠ []) (hw : ∀ c ∈ w, c ∈ abc) (hl : form.length = k + 1) : Lt k (pushP k w form st) ∧ tot (pushP k w form st) ≤ tot st + w.length ∧ (pushP k w form st).length ≤ st.length + 2 := by
  cases st with
  | nil =>
    obtain ⟨a, b, c⟩ := lt_meet h hw hl
    exact ⟨a, b, Nat.le_trans c (by omega)⟩
  | cons t r =>
    rw [pushP_cons]
    by_cases hf : t.2 = fx k
    · rw [if_pos hf]
      obtain ⟨g1, _, _⟩ := go_spec (text := t.1) hne
      generalize go w t.1 = b at g1 ⊢
      have ht := h t List.mem_cons_self
      have hr : Lt k r := fun q hq => h q (List.mem_cons_of_mem _ hq)
      obtain ⟨p1, p2, p3⟩ := okT_pushW (w := t.1.take (t.1.length - b)) hr fun c hc => ht.1 c (List.mem_of_mem_take hc)
      have hwt : ∀ c ∈ Wm.turn w (w.length - b % w.length), c ∈ abc := fun c hc => by
        unfold Wm.turn at hc
        rcases List.mem_append.mp hc with e | e
        · exact hw c (List.mem_of_mem_drop e)
        · exact hw c (List.mem_of_mem_take e)
      obtain ⟨q1, q2, q3⟩ := lt_meet (form := form) p1 hwt hl
      obtain ⟨r1, r2, r3⟩ := okT_pushW (w := t.1.drop (t.1.length - b)) q1 fun c hc => ht.1 c (List.mem_of_mem_drop hc)
      refine ⟨r1, ?_, by simp only [List.length_cons]; omega⟩
      rw [r2, tot_cons]
      rw [p2, Wm.turn_len] at q2
      rw [List.length_take] at q2
      rw [List.length_drop]
      omega
    · rw [if_neg hf]
      obtain ⟨a, b, c⟩ := lt_meet h hw hl
      exact ⟨a, b, Nat.le_trans c (by omega)⟩
theorem lt_step {k : Nat} {st : List Pc} {p : Pc} (h : Lt k st) (hp : PF k p) (hw : ∀ c ∈ p.1, c ∈ abc) : Lt k (step k st p) ∧ (tot (step k st p) : Int) ≤ tot st + measP p ∧ (step k st p).length ≤ st.length + 3 := by
  unfold step
  have hh := pf_head hp
  have hm : measP p = (p.1.length : Int) * (p.2.headD 0 + (if openB p.2 = true then 1 else 0)) := rfl
  by_cases hne : p.1 = []
  · rw [if_pos hne]
    exact ⟨h, by rw [hm, hne]; show _ ≤ _ + (0 : Int) * _; rw [Int.zero_mul]; omega, by omega⟩
  · rw [if_neg hne]
    have e1 : (((p.2.headD 0).toNat * p.1.length : Nat) : Int) = (p.1.length : Int) * p.2.headD 0 := by
      rw [Int.natCast_mul, Int.toNat_of_nonneg hh, Int.mul_comm]
    have hrep : ∀ c ∈ Wm.rep (p.2.headD 0).toNat p.1, c ∈ abc := fun c hc => hw c (rep_mem hc)
    by_cases ho : openB p.2 = true
    · rw [if_pos ho]
      obtain ⟨r1, r2, r3, r4⟩ := root_facts hne
      obtain ⟨a1, _⟩ := powF_facts r3 hp.1 hp.2
      have hrw : ∀ c ∈ rootW p.1, c ∈ abc := fun c hc => by
        unfold rootW at hc
        split at hc
        · exact hw c (List.mem_of_mem_take hc)
        · exact hw c hc
      obtain ⟨q1, q2, q3⟩ := lt_pushP (form := powF p.2 (rootN p.1)) h r1.1 hrw a1
      obtain ⟨s1, s2, s3⟩ := okT_pushW q1 hrep
      refine ⟨s1, ?_, by omega⟩
      rw [s2, Wm.rep_len, hm, if_pos ho, Int.mul_add]
      omega
    · rw [if_neg ho]
      obtain ⟨s1, s2, s3⟩ := okT_pushW h hrep
      refine ⟨s1, ?_, by omega⟩
      rw [s2, Wm.rep_len, hm, if_neg ho, Int.add_zero]
      omega
end L12

namespace L12
open PySem PySem.Spec PyProof.Rows L2 Cr
local macro_rules | `(tactic| walk_at "w") => `(tactic| first
  | with_reducible refine ws_seq ?_ | with_reducible refine ws_asg ?_ | with_reducible refine ws_ret ?_ | with_reducible refine ws_retN ?_ | with_reducible refine ws_drop ?_ | with_reducible refine ws_if ?_
  | with_reducible refine ws_next ?_ | with_reducible refine ws_par ?_ | with_reducible refine ws_par3 ?_
  | with_reducible refine we_int ?_ | with_reducible refine we_str ?_ | with_reducible refine we_bl ?_ | with_reducible refine we_non ?_ | with_reducible refine we_op ?_ | with_reducible refine we_un ?_
  | with_reducible refine we_cb ?_ | with_reducible refine we_if ?_ | with_reducible refine we_tup ?_ | with_reducible refine we_call ?_ | with_reducible refine wa_cons ?_ | with_reducible refine wa_nil ?_
  | with_reducible refine wt_val ?_ | with_reducible refine wt_test ?_ | with_reducible refine wt_and ?_ | with_reducible refine wt_or ?_ | with_reducible refine wt_not ?_ | with_reducible refine wt_yes ?_
  | with_reducible refine we_andV ?_ | with_reducible refine we_orV ?_ | with_reducible refine we_notV ?_ | with_reducible refine we_chain ?_ | with_reducible refine we_slice ?_ | with_reducible refine wo_none ?_ | with_reducible refine wo_some ?_
  | with_reducible refine we_bits ?_ | refine we_var (by rfl) ?_)
local macro_rules | `(tactic| walk_at "i2") => `(tactic| refine ⟨_, _, _, rfl, rfl, .int _ _, ?_⟩)
local macro_rules | `(tactic| walk_at "in") => `(tactic| refine ⟨_, _, rfl, .int _, ?_⟩)
theorem good_pf {k : Nat} {p : Pc} (h : Good k p) : PF k p := by
  obtain ⟨B, hr, _⟩ := h.fm
  exact ⟨hr.1, fun x hx => (hr.2 x hx).1⟩
theorem measP_nonneg {k : Nat} {p : Pc} (h : PF k p) : 0 ≤ measP p ∧ (p.1.length : Int) * p.2.headD 0 ≤ measP p := by
  have hm : measP p = (p.1.length : Int) * (p.2.headD 0 + (if openB p.2 = true then 1 else 0)) := rfl
  have hh := pf_head h
  have h1 : (0 : Int) ≤ (if openB p.2 = true then 1 else 0) := by split <;> decide
  rw [hm, Int.mul_add]
  have h2 := Int.mul_nonneg (show (0 : Int) ≤ (p.1.length : Int) by omega) hh
  have h3 := Int.mul_nonneg (show (0 : Int) ≤ (p.1.length : Int) by omega) h1
  omega
theorem measI_take {k : Nat} : ∀ {ps : List Pc} (i : Nat), (∀ p ∈ ps, PF k p) → measI (ps.take i) ≤ measI ps
  | [], i, _ => by simp
  | p :: ps, 0, h => by
    have h1 := (measP_nonneg (h p List.mem_cons_self)).1
    have h2 := measI_take (ps := ps) 0 fun q hq => h q (List.mem_cons_of_mem _ hq)
    have e : measI (p :: ps) = measP p + measI ps := by unfold measI; rw [List.map_cons, List.sum_cons]
    rw [e]
    simp only [List.take_zero] at h2 ⊢
    omega
  | p :: ps, i + 1, h => by
    have h2 := measI_take (ps := ps) i fun q hq => h q (List.mem_cons_of_mem _ hq)
    have e : ∀ (p : Pc) (ps : List Pc), measI (p :: ps) = measP p + measI ps := fun p ps => by unfold measI; rw [List.map_cons, List.sum_cons]
    rw [List.take_succ_cons, e, e]
    omega
theorem measI_snoc (ps : List Pc) (p : Pc) : measI (ps ++ [p]) = measI ps + measP p := by unfold measI; rw [List.map_append, List.sum_append]; simp
theorem m_normal_pieces {K : PySem.W.Frag} : Ok K ["many", "pieces", "fixed", "stack", "word", "form", "part", "times"] T_normal_pieces (t_normal_pieces K) := by
  rintro ss m Q ⟨k, ps, rfl, hk, hpl, hps, hme, q⟩
  have hpf : ∀ p ∈ ps, PF k p := fun p hp => good_pf (hps p hp)
  unfold t_normal_pieces
  refine ws_seq (ws_par ?_)
  repeat walk_at "w"
  refine ⟨k, 1, rfl, hk, ?_⟩
  refine wa_cons (we_lstO (wa_nil ⟨[], rfl, by decide, fun p hp => wa_nil ⟨_, _, rfl, ?_⟩⟩))
  refine ws_seq (ws_for ([4] ++ ([5] ++ [])) (wi_D (we_var rfl ⟨false, ps.map pD, rfl, fun i r' m' => ∃ (z4 z5 z6 z7 : Option Sv), r' = [some (.val (.int k)), some (.val (psD ps)), some (.val (tI (fx k))), some (.adr p), z4, z5, z6, z7] ∧ m' = stS m p (stk ((ps.take i).foldl (step k) [])) ∧ Lt k ((ps.take i).foldl (step k) []) ∧ (tot ((ps.take i).foldl (step k) []) : Int) ≤ measI (ps.take i) ∧ ((ps.take i).foldl (step k) []).length ≤ 3 * i,
    ⟨none, none, none, none, rfl, rfl, fun q hq => (by cases hq), by show (0 : Int) ≤ 0; decide, Nat.le_refl _⟩, ?_, ?_⟩)))
  · rintro i d r' m' hd ⟨z4, z5, z6, z7, rfl, rfl, hlt, htot, hsl⟩
    obtain ⟨pc, hpc, hdd⟩ : ∃ pc, ps[i]? = some pc ∧ d = pD pc := by
      rw [List.getElem?_map] at hd
      cases e : ps[i]? with
      | none => rw [e] at hd; cases hd
      | some pc => rw [e] at hd; exact ⟨pc, rfl, (Option.some.inj hd).symm⟩
    subst hdd
    have hmem := List.mem_of_getElem? hpc
    have hil := (List.getElem?_eq_some_iff.mp hpc).1
    have hgood := hps pc hmem
    have hf := hpf pc hmem
    have hwa := hgood.wd.2
    have hwl := hgood.wd.1
    have htk : ps.take (i + 1) = ps.take i ++ [pc] := by rw [List.take_add_one, hpc]; rfl
    have hfold : (ps.take (i + 1)).foldl (step k) [] = step k ((ps.take i).foldl (step k) []) pc := by rw [htk, List.foldl_append]; rfl
    have hmt := measI_take (i + 1) hpf
    rw [htk, measI_snoc] at hmt
    obtain ⟨n1, n2⟩ := measP_nonneg hf
    generalize hst : (ps.take i).foldl (step k) [] = st at *
    obtain ⟨l1, l2, l3⟩ := lt_step hlt hf hwa
    have nxt : ∀ (r : Ro) (m2 : Sto), (∃ z4 z5 z6 z7, r = [some (.val (.int k)), some (.val (psD ps)), some (.val (tI (fx k))), some (.adr p), z4, z5, z6, z7]) → m2 = stS m p (stk (step k st pc)) →
        ∃ (z4 z5 z6 z7 : Option Sv), r = [some (.val (.int k)), some (.val (psD ps)), some (.val (tI (fx k))), some (.adr p), z4, z5, z6, z7] ∧ m2 = stS m p (stk ((ps.take (i + 1)).foldl (step k) [])) ∧ Lt k ((ps.take (i + 1)).foldl (step k) []) ∧ (tot ((ps.take (i + 1)).foldl (step k) []) : Int) ≤ measI (ps.take (i + 1)) ∧ ((ps.take (i + 1)).foldl (step k) []).length ≤ 3 * (i + 1) := by
      rintro r m2 ⟨a, b, c, d, hr⟩ hm2
      rw [hfold, htk, measI_snoc]
      exact ⟨a, b, c, d, hr, hm2, l1, by omega, by omega⟩
    refine wg_tup rfl (wgs_cons (wg_name (wgs_cons (wg_name (wgs_nil ?_)))))
    refine ws_if (wt_test (we_op (we_var rfl (we_str ⟨_, _, _, rfl, rfl, .mk (req_S pc.1 []), _, rfl, ?_⟩))))
    by_cases hw : pc.1 = []
    · rw [decide_eq_true hw]
      refine if_no (ws_next (nxt _ _ ⟨_, _, _, _, rfl⟩ ?_))
      unfold step
      rw [if_pos hw]
    · rw [decide_eq_false hw, if_pos (show (!false) = true from rfl)]
      obtain ⟨B, hrow, hB⟩ := hgood.fm
      have hS := hgood.s hk
      obtain ⟨f0, fs, hfe⟩ : ∃ f0 fs, pc.2 = f0 :: fs := by
        cases e : pc.2 with
        | nil => exact absurd e hS.2.1
        | cons a b => exact ⟨a, b, rfl⟩
      have h0 : pc.2.headD 0 = f0 := by rw [hfe]; rfl
      have f0n := pf_head hf
      rw [h0] at f0n n2
      obtain ⟨z, rfl⟩ := Int.eq_ofNat_of_zero_le f0n
      have wpos : 0 < pc.1.length := by
        cases e : pc.1 with
        | nil => exact absurd e hw
        | cons a b => simp
      have ltot : (pc.1.length : Int) * (z : Int) ≤ 20000 := by omega
      have ltotN : pc.1.length * z ≤ 20000 := by rw [← Int.natCast_mul] at ltot; omega
      have zle : z ≤ 20000 := Nat.le_trans (Nat.le_mul_of_pos_left z wpos) ltotN
      have hstep : step k st pc = pushW k (Wm.rep z pc.1) (if openB pc.2 = true then pushP k (rootW pc.1) (powF pc.2 (rootN pc.1)) st else st) := by
        unfold step
        rw [if_neg hw, h0]
        rfl
      -- the push of the word itself
      have pw : ∀ (M : Dm) (P : Eds) (r : Ro) (st1 : List Pc), r[2]? = some (some (.val (tI (fx k)))) → r[3]? = some (some (.adr p)) → r[4]? = some (some (.val (dS pc.1))) → r[5]? = some (some (.val (tI pc.2))) → Lt k st1 → (tot st1 : Int) + 20000 ≤ 100000 → st1.length < 100000 → step k st pc = pushW k (Wm.rep z pc.1) st1 →
          P.nx r (stS m p (stk (step k st pc))) → WS K M r (stS m p (stk st1)) (tDrop (tCall (SpD K T_push_word) [] E0 (tCons (tVar 3) (tCons (tOp (rD2 K RMul) (tVar 4) (tOp (rD2 K RIx) (tVar 5) (tC (.int 0)))) (tCons (tVar 2) tNil))))) P := by
        intro M P r st1 r2 r3 r4 r5 a1 a2 a3 a4 a5
        refine ws_drop (we_call (wa_cons (we_var r3 (wa_cons (we_op (we_var r4 (we_op (we_var r5 (we_int ⟨_, _, _, rfl, rfl, .tup (d := .int z) (atI_nat0 (by rw [hfe]; rfl)), ?_⟩))))))))) 
        refine ⟨_, _, _, rfl, rfl, rmul_S (by omega) (by omega) (by show _ ≤ 100000; rw [Int.toNat_natCast]; omega), ?_⟩
        rw [Int.toNat_natCast]
        refine wa_cons (we_var r2 (wa_nil ⟨p, k, Wm.rep z pc.1, st1, rfl, stS_same, ⟨a3, fun x hx => ⟨(a1 x hx).1, ?_⟩⟩, ?_⟩))
        · have := tot_mem hx
          rw [Wm.rep_len, Nat.mul_comm]
          omega
        · rw [stS_stS, ← a4]
          exact a5
      have htm : (tot st : Int) ≤ 20000 := by omega
      refine ws_seq (ws_if (wt_val (we_call (wa_cons (we_var rfl (wa_nil ⟨pc.2, rfl, _, rfl, ite_b (fun ho => ?_) (fun ho => ?_)⟩))))))
      · obtain ⟨r1, r2, r3, r4⟩ := root_facts hw
        obtain ⟨b1, _⟩ := powF_facts r3 hf.1 hf.2
        have hrw : ∀ c ∈ rootW pc.1, c ∈ abc := fun c hc => by
          unfold rootW at hc
          split at hc
          · exact hwa c (List.mem_of_mem_take hc)
          · exact hwa c hc
        have hrn : rootN pc.1 ≤ pc.1.length := by
          unfold rootN
          split
          · exact Nat.div_le_self _ _
          · exact wpos
        refine ws_seq (ws_asgG ([6] ++ ([7] ++ [])) (we_call (wa_cons (we_var rfl (wa_nil ⟨pc.1, rfl, hw, hgood.wd.mono (by decide), ?_⟩)))))
        refine wg_tup rfl (wgs_cons (wg_name (wgs_cons (wg_name (wgs_nil ?_)))))
        obtain ⟨q1, q2, q3⟩ := lt_pushP (form := powF pc.2 (rootN pc.1)) hlt r1.1 hrw b1
        refine ws_drop ?_
        repeat walk_at "w"
        refine ⟨[.int 0], rfl, by show (1 : Nat) ≤ 100000; decide, ?_⟩
        repeat walk_at "w"
        refine ⟨_, rfl, ?_⟩
        walk_at "w"
        refine ⟨_, _, rfl, .tup _ _ _, ?_⟩
        refine ⟨_, _, _, rfl, rfl, .tup ?_, ?_⟩
        · rw [cut_tail, List.length_tail, List.length_map, hf.1]
          show 1 + (k + 1 - 1) ≤ 100000
          omega
        refine wa_nil ⟨(rootN pc.1 : Int), 0 :: pc.2.tail, ?_, ?_, ?_, ?_, ?_⟩
        · rw [cut_tail, ← List.map_tail]
          rfl
        · rw [List.length_cons, List.length_tail, hf.1]; omega
        · have : (rootN pc.1 : Int).natAbs ≤ 2000 := by omega
          exact Nat.le_trans this (by decide +kernel)
        · intro x hx
          rcases List.mem_cons.mp hx with e | e
          · rw [e]; decide +kernel
          · exact hS.2.2.1 x (List.mem_of_mem_tail e)
        refine wa_cons (we_var rfl (wa_nil ⟨p, k, rootW pc.1, powF pc.2 (rootN pc.1), st, rfl, stS_same, r1.1, hrw, hk, b1, ⟨by omega, hlt, by omega⟩, ?_⟩))
        rw [stS_stS]
        refine pw _ _ _ _ rfl rfl rfl rfl q1 (by omega) (by omega) (by rw [hstep, if_pos ho]) (nxt _ _ ⟨_, _, _, _, rfl⟩ rfl)
      · refine ws_next (pw _ _ _ _ rfl rfl rfl rfl hlt (by omega) (by omega) (by rw [hstep, ho]; rfl) (nxt _ _ ⟨_, _, _, _, rfl⟩ rfl))
  · rintro r' m' ⟨z4, z5, z6, z7, rfl, rfl, hlt, htot, hsl⟩
    rw [List.length_map, List.take_length]
    refine ws_retD (p := p) (dom_none.mpr hp) (we_cb (wa_cons (we_var rfl (wa_nil ⟨[.lst (stk (normR k ps))], _, ?_, .lst _, _, _, rfl, stS_same, ?_⟩))))
    · show [vw _ (.adr p)] = [some _]
      rw [vw_adr stS_same]
      rfl
    · rw [stD_stS hp]
      exact q
end L12

namespace L12
open PySem PySem.Spec PyProof.Rows L2 Cr
local macro_rules | `(tactic| walk_at "w") => `(tactic| first
  | with_reducible refine ws_seq ?_ | with_reducible refine ws_asg ?_ | with_reducible refine ws_ret ?_ | with_reducible refine ws_retN ?_ | with_reducible refine ws_drop ?_ | with_reducible refine ws_if ?_
  | with_reducible refine ws_next ?_ | with_reducible refine ws_par ?_ | with_reducible refine ws_par3 ?_
  | with_reducible refine we_int ?_ | with_reducible refine we_str ?_ | with_reducible refine we_bl ?_ | with_reducible refine we_non ?_ | with_reducible refine we_op ?_ | with_reducible refine we_un ?_
  | with_reducible refine we_cb ?_ | with_reducible refine we_if ?_ | with_reducible refine we_tup ?_ | with_reducible refine we_call ?_ | with_reducible refine wa_cons ?_ | with_reducible refine wa_nil ?_
  | with_reducible refine wt_val ?_ | with_reducible refine wt_test ?_ | with_reducible refine wt_and ?_ | with_reducible refine wt_or ?_ | with_reducible refine wt_not ?_ | with_reducible refine wt_yes ?_
  | with_reducible refine we_andV ?_ | with_reducible refine we_orV ?_ | with_reducible refine we_notV ?_ | with_reducible refine we_chain ?_ | with_reducible refine we_slice ?_ | with_reducible refine wo_none ?_ | with_reducible refine wo_some ?_
  | with_reducible refine we_bits ?_ | refine we_var (by rfl) ?_)
local macro_rules | `(tactic| walk_at "i2") => `(tactic| refine ⟨_, _, _, rfl, rfl, .int _ _, ?_⟩)
local macro_rules | `(tactic| walk_at "in") => `(tactic| refine ⟨_, _, rfl, .int _, ?_⟩)
theorem m_normal {K : PySem.W.Frag} : Ok K ["many", "pieces"] T_normal (t_normal K) := by
  rintro ss m Q ⟨k, ps, rfl, hk, hpl, hps, hme, q⟩
  unfold t_normal
  repeat walk_at "w"
  refine ⟨k, ps, rfl, hk, hpl, hps, hme, ?_⟩
  refine ws_ret (we_cbO ?_)
  repeat walk_at "w"
  refine ⟨k, ps, rfl, hk, hpl, hps, by omega, ?_⟩
  repeat walk_at "w"
  exact ⟨_, _, rfl, .tup _, q⟩
theorem m_law_plain {K : PySem.W.Frag} : Ok K ["many", "number"] T_law_plain (t_law_plain K) := m_plain
theorem m_law_yes {K : PySem.W.Frag} : Ok K ["told", "due"] T_law_yes (t_law_yes K) := by
  rintro ss m Q ⟨b, rfl, q⟩
  unfold t_law_yes
  repeat walk_at "w"
  refine we_ty ?_
  repeat walk_at "w"
  refine ⟨[.bl b, .ty "bool"], _, rfl, isi_bl rfl, true, rfl, ?_⟩
  rw [if_pos rfl]
  repeat walk_at "w"
  refine ⟨_, _, _, rfl, rfl, .mk (.bl _ _), ?_⟩
  rw [decide_eq_true rfl]
  exact q
theorem m_law_measure {K : PySem.W.Frag} : Ok K ["pieces", "word", "form"] T_law_measure (t_law_measure K) := by
  rintro ss m Q ⟨ps, rfl, hl, hps, q⟩
  unfold t_law_measure
  repeat walk_at "w"
  refine we_mapP ps (fun p => .int (measP p)) hl (wi_D ?_) (fun p hp m' => ?_) ?_
  · repeat walk_at "w"
    exact ⟨false, _, rfl, rfl, rfl⟩
  · obtain ⟨h1, h2, h3, h4⟩ := hps p hp
    obtain ⟨w, f⟩ := p
    cases f with
    | nil => exact absurd rfl h2
    | cons c cs =>
      have hc := h3 c List.mem_cons_self
      repeat walk_at "w"
      refine ⟨_, _, rfl, rlen_S h1, ?_⟩
      repeat walk_at "w"
      refine ⟨_, _, _, rfl, rfl, .tup (d := .int c) (atI_nat0 rfl), ?_⟩
      repeat walk_at "w"
      refine ⟨1, rfl, ?_⟩
      walk_at "w"
      refine ⟨_, _, rfl, .tup _ _ _, ?_⟩
      repeat walk_at "w"
      refine ⟨[.tup (cs.map .int)], _, by rw [cut_tail]; rfl, .tup _, ?_⟩
      repeat walk_at "w"
      walk_at "i2"
      walk_at "w"
      refine ⟨_, _, rfl, .bl _, ?_⟩
      walk_at "i2"
      have hb : (c + (if openB (c :: cs) = true then 1 else 0)).natAbs ≤ 10 ^ 401 := by
        have h5 : (if openB (c :: cs) = true then (1 : Int) else 0).natAbs ≤ 1 := by split <;> decide
        have h6 : (c + (if openB (c :: cs) = true then 1 else 0)).natAbs ≤ c.natAbs + 1 := by omega
        exact Nat.le_trans h6 (Nat.le_trans (Nat.add_le_add_right hc 1) (by decide +kernel))
      exact ⟨_, _, _, rfl, rfl, .int (mulOk (B := 100000) (C := 10 ^ 401) (by simpa using h1) hb (by decide +kernel)), rfl, rfl⟩
  · repeat walk_at "w"
    refine ⟨[lI (ps.map measP)], _, ?_, .lst _, q⟩
    show [some (D.lst (ps.map fun p => .int (measP p)))] = [some (D.lst ((ps.map measP).map .int))]
    rw [List.map_map]
    rfl
end L12

namespace L12
open PySem PySem.Spec PyProof.Rows L2 Cr
local macro_rules | `(tactic| walk_at "w") => `(tactic| first
  | with_reducible refine ws_seq ?_ | with_reducible refine ws_asg ?_ | with_reducible refine ws_ret ?_ | with_reducible refine ws_retN ?_ | with_reducible refine ws_drop ?_ | with_reducible refine ws_if ?_
  | with_reducible refine ws_next ?_ | with_reducible refine ws_par ?_ | with_reducible refine ws_par3 ?_
  | with_reducible refine we_int ?_ | with_reducible refine we_str ?_ | with_reducible refine we_bl ?_ | with_reducible refine we_non ?_ | with_reducible refine we_op ?_ | with_reducible refine we_un ?_
  | with_reducible refine we_cb ?_ | with_reducible refine we_if ?_ | with_reducible refine we_tup ?_ | with_reducible refine we_call ?_ | with_reducible refine wa_cons ?_ | with_reducible refine wa_nil ?_
  | with_reducible refine wt_val ?_ | with_reducible refine wt_test ?_ | with_reducible refine wt_and ?_ | with_reducible refine wt_or ?_ | with_reducible refine wt_not ?_ | with_reducible refine wt_yes ?_
  | with_reducible refine we_andV ?_ | with_reducible refine we_orV ?_ | with_reducible refine we_notV ?_ | with_reducible refine we_chain ?_ | with_reducible refine we_slice ?_ | with_reducible refine wo_none ?_ | with_reducible refine wo_some ?_
  | with_reducible refine we_bits ?_ | refine we_var (by rfl) ?_)
local macro_rules | `(tactic| walk_at "i2") => `(tactic| refine ⟨_, _, _, rfl, rfl, .int _ _, ?_⟩)
local macro_rules | `(tactic| walk_at "in") => `(tactic| refine ⟨_, _, rfl, .int _, ?_⟩)
theorem pD_inj {p p' : Pc} (h : pD p = pD p') : p = p' := by
  injection h with h
  injection h with h1 h2
  injection h2 with h2 _
  injection h1 with h1
  injection h2 with h2
  exact Prod.ext (S_inj h1) (map_int_inj h2)
open Classical in
/-- a row made of pieces, some of them left out -/
theorem we_someP {K : PySem.W.Frag} {r : Ro} {m : Sto} {a b : Nat} {wi : TI} {tt : TT} {te : TE} {Q : Sv → Sto → Prop} (ps : List Pc) (f : Pc → Bool) (g : Pc → D) (hl : ps.length ≤ 100000)
    (ha : WI K r m wi fun ds m1 => ds = ps.map pD ∧ m1 = m)
    (ht : ∀ p ∈ ps, ∀ m', WT K (((wipeR r [a, b]).set a (some (.val (dS p.1)))).set b (some (.val (tI p.2)))) m' tt fun c m2 => c = f p ∧ m2 = m' ∧
      (c = true → WE K (((wipeR r [a, b]).set a (some (.val (dS p.1)))).set b (some (.val (tI p.2)))) m' te fun s m3 => s = .val (g p) ∧ m3 = m'))
    (q : Q (.val (.lst ((ps.filter f).map g))) m) : WE K r m (tLc wi (gTup K 2 (gCons (gName a) (gCons (gName b) gNil))) tt te [a, b]) Q := by
  let v : D → D := fun d => if h : ∃ p, pD p = d then g h.choose else .non
  let u : D → Bool := fun d => if h : ∃ p, pD p = d then f h.choose else false
  have hv : ∀ p, v (pD p) = g p := fun p => by
    have h : ∃ p', pD p' = pD p := ⟨p, rfl⟩
    show (if h : ∃ p', pD p' = pD p then g h.choose else .non) = _
    rw [dif_pos h, pD_inj h.choose_spec]
  have hu : ∀ p, u (pD p) = f p := fun p => by
    have h : ∃ p', pD p' = pD p := ⟨p, rfl⟩
    show (if h : ∃ p', pD p' = pD p then f h.choose else false) = _
    rw [dif_pos h, pD_inj h.choose_spec]
  have e3 : ∀ qs : List Pc, ((qs.map pD).filter u).map v = (qs.filter f).map g := fun qs => by
    induction qs with
    | nil => rfl
    | cons p qs ih =>
      rw [List.map_cons, List.filter_cons, List.filter_cons, hu]
      cases f p with
      | true => rw [if_pos rfl, if_pos rfl, List.map_cons, List.map_cons, hv, ih]
      | false => rw [if_neg Bool.false_ne_true, if_neg Bool.false_ne_true, ih]
  refine we_lc (js := [a] ++ ([b] ++ [])) (by simp) fun σ H R e so k => ha σ H R e so fun J H' ds m' x so' io ⟨e1, e2⟩ => k J H' ds m' x so' io ⟨by rw [e1, List.length_map]; exact hl, e2, u, v, fun d hd m' => ?_, ?_⟩
  · rw [e1] at hd
    obtain ⟨p, hp, rfl⟩ := List.mem_map.mp hd
    rw [hv, hu]
    exact wg_tup rfl (wgs_cons (wg_name (wgs_cons (wg_name (wgs_nil (ht p hp m'))))))
  · rw [e1, e3]
    exact q
theorem wrI_some (ps : List Pc) (t : List Int) : ((ps.filter fun p => !decide (p.1 = [])).map fun p => Wm.rep (valI p.2 t).toNat p.1).flatten = wrI ps t := by
  unfold wrI
  induction ps with
  | nil => rfl
  | cons p ps ih =>
    rw [List.filter_cons, List.map_cons, List.flatten_cons]
    by_cases h : p.1 = []
    · rw [decide_eq_true h, if_neg (by decide), ih, h, Wm.rep_nil]; rfl
    · rw [decide_eq_false h, if_pos (show (!false) = true from rfl), List.map_cons, List.flatten_cons, ih]
theorem m_law_write {K : PySem.W.Frag} : Ok K ["pieces", "point", "word", "form"] T_law_write (t_law_write K) := by
  rintro ss m Q ⟨k, ps, t, rfl, hk, hpl, hps, hts, ht0, hsz, hlen, q⟩
  unfold t_law_write
  refine ws_ret (we_join (we_str ⟨_, rfl, ?_⟩))
  refine we_someP ps (fun p => !decide (p.1 = [])) (fun p => dS (Wm.rep (valI p.2 t).toNat p.1)) (by omega) (wi_D ?_) (fun p hp m' => ?_) ?_
  · repeat walk_at "w"
    exact ⟨false, _, rfl, rfl, rfl⟩
  · have hg := hps p hp
    have hS := hg.s hk
    have hn := val_nonneg (t := t) (good_pf hg).2 ht0
    refine wt_test (we_op (we_var rfl (we_str ⟨_, _, _, rfl, rfl, .mk (req_S p.1 []), _, rfl, rfl, rfl, fun hc => ?_⟩)))
    have hne : p.1 ≠ [] := by simpa using hc
    obtain ⟨z1, z2⟩ := hsz p hp hne
    refine we_op (we_var rfl (we_call (wa_cons (we_var rfl (wa_cons (we_var rfl (wa_nil ⟨p.2, t, false, rfl, hS.2.1, hS.2.2.2, hS.2.2.1, hts, ?_⟩)))))))
    exact ⟨_, _, _, rfl, rfl, rmul_S (by omega) z1 z2, rfl, rfl⟩
  · refine ⟨false, (ps.filter fun p => !decide (p.1 = [])).map fun p => S (Wm.rep (valI p.2 t).toNat p.1), ?_, ?_, ?_⟩
    · show some (D.lst _) = some (D.lst _)
      rw [List.map_map]
      rfl
    · have e : ∀ qs : List Pc, ((qs.map fun p => S (Wm.rep (valI p.2 t).toNat p.1)).map (·.length)).sum = ((qs.map fun p => Wm.rep (valI p.2 t).toNat p.1).flatten).length := by
        intro qs
        induction qs with
        | nil => rfl
        | cons a b ih => rw [List.map_cons, List.map_cons, List.sum_cons, ih, List.map_cons, List.flatten_cons, List.length_append, S_len]
      rw [e, wrI_some]
      show (wrI ps t).length + _ * 0 ≤ 16777216
      omega
    · have e : (ps.filter fun p => !decide (p.1 = [])).map (fun p => S (Wm.rep (valI p.2 t).toNat p.1)) = ((ps.filter fun p => !decide (p.1 = [])).map fun p => Wm.rep (valI p.2 t).toNat p.1).map S := by rw [List.map_map]; rfl
      have j := join_S ((ps.filter fun p => !decide (p.1 = [])).map fun p => Wm.rep (valI p.2 t).toNat p.1)
      rw [wrI_some, ← e] at j
      have j' : Txt.join ("" : Str) ((ps.filter fun p => !decide (p.1 = [])).map fun p => S (Wm.rep (valI p.2 t).toNat p.1)) = S (wrI ps t) := j
      rw [j']
      exact q
end L12

namespace L12
open PySem PySem.Spec PyProof.Rows L2 Cr
local macro_rules | `(tactic| walk_at "w") => `(tactic| first
  | with_reducible refine ws_seq ?_ | with_reducible refine ws_asg ?_ | with_reducible refine ws_ret ?_ | with_reducible refine ws_retN ?_ | with_reducible refine ws_drop ?_ | with_reducible refine ws_if ?_
  | with_reducible refine ws_next ?_ | with_reducible refine ws_par ?_ | with_reducible refine ws_par3 ?_
  | with_reducible refine we_int ?_ | with_reducible refine we_str ?_ | with_reducible refine we_bl ?_ | with_reducible refine we_non ?_ | with_reducible refine we_op ?_ | with_reducible refine we_un ?_
  | with_reducible refine we_cb ?_ | with_reducible refine we_if ?_ | with_reducible refine we_tup ?_ | with_reducible refine we_call ?_ | with_reducible refine wa_cons ?_ | with_reducible refine wa_nil ?_
  | with_reducible refine wt_val ?_ | with_reducible refine wt_test ?_ | with_reducible refine wt_and ?_ | with_reducible refine wt_or ?_ | with_reducible refine wt_not ?_ | with_reducible refine wt_yes ?_
  | with_reducible refine we_andV ?_ | with_reducible refine we_orV ?_ | with_reducible refine we_notV ?_ | with_reducible refine we_chain ?_ | with_reducible refine we_slice ?_ | with_reducible refine wo_none ?_ | with_reducible refine wo_some ?_
  | with_reducible refine we_bits ?_ | refine we_var (by rfl) ?_)
local macro_rules | `(tactic| walk_at "i2") => `(tactic| refine ⟨_, _, _, rfl, rfl, .int _ _, ?_⟩)
local macro_rules | `(tactic| walk_at "in") => `(tactic| refine ⟨_, _, rfl, .int _, ?_⟩)
/-! ### the first place of a word in a word -/
def atL (a b : List Nat) (i : Nat) : Prop := i + b.length ≤ a.length ∧ (a.drop i).take b.length = b
theorem at_S (a b : List Nat) (i : Nat) : StrLaws.At (S a) (S b) (S a).length i ↔ atL a b i := by
  unfold StrLaws.At atL
  rw [S_len, S_len, StrLaws.subAt_eq, S_len]
  show _ ∧ ((a.toArray.toList.drop i).take b.length == b.toArray.toList) = true ↔ _
  rw [beq_iff_eq]
theorem find_S (a b : List Nat) : (Txt.find (S a) (S b) = -1 ∧ ∀ i, ¬ atL a b i) ∨ ∃ i : Nat, Txt.find (S a) (S b) = i ∧ atL a b i ∧ ∀ k, k < i → ¬ atL a b k := by
  rcases StrLaws.occ_head (S a) (S b) 1 (Nat.le_refl _) with ⟨h, hn⟩ | ⟨i, r, h, ha, hn⟩
  · refine .inl ⟨?_, fun i hi => hn i ((at_S a b i).mpr hi)⟩
    unfold Txt.find
    rw [h]
  · refine .inr ⟨i, ?_, (at_S a b i).mp ha, fun k hk hc => hn k hk ((at_S a b k).mpr hc)⟩
    unfold Txt.find
    rw [h]
theorem atL_turn {w : List Nat} {i : Nat} : atL ((w ++ w).drop 1) w i ↔ i + 1 ≤ w.length ∧ (w = [] ∨ Wm.turn w (i + 1) = w) ∧ 0 < w.length ∨ (w = [] ∧ i = 0) := by
  unfold atL
  rw [List.length_drop, List.length_append, List.drop_drop]
  by_cases hw : w = []
  · subst hw
    simp
  · have hn : 0 < w.length := by
      cases w with
      | nil => exact absurd rfl hw
      | cons a b => simp
    have e : ∀ j, j ≤ w.length → ((w ++ w).drop j).take w.length = Wm.turn w j := fun j hj => by
      rw [List.drop_append_of_le_length hj, List.take_append, List.take_of_length_le (by rw [List.length_drop]; omega), List.length_drop, show w.length - (w.length - j) = j by omega]
      rfl
    constructor
    · rintro ⟨h1, h2⟩
      rw [Nat.add_comm 1 i, e (i + 1) (by omega)] at h2
      exact .inl ⟨by omega, .inr h2, hn⟩
    · rintro (⟨h1, h2, _⟩ | ⟨h, _⟩)
      · refine ⟨by omega, ?_⟩
        rw [Nat.add_comm 1 i, e (i + 1) h1]
        exact h2.resolve_left hw
      · exact absurd h hw
theorem find_prim {w : List Nat} (hw : w ≠ []) : (Txt.find (S ((w ++ w).drop 1)) (S w) = (w.length : Int) - 1) ↔ Wm.Prim w := by
  have hn : 0 < w.length := by
    cases w with
    | nil => exact absurd rfl hw
    | cons a b => simp
  have last : atL ((w ++ w).drop 1) w (w.length - 1) := atL_turn.mpr (.inl ⟨by omega, .inr (by rw [show w.length - 1 + 1 = w.length by omega]; unfold Wm.turn; rw [List.drop_length, List.take_length]; rfl), hn⟩)
  rcases find_S ((w ++ w).drop 1) w with ⟨_, hno⟩ | ⟨i, he, hi, hk⟩
  · exact absurd last (hno _)
  · rw [he]
    constructor
    · intro h
      refine Classical.byContradiction fun hp => ?_
      obtain ⟨j, j0, jl, ht⟩ := Wm.notprim_twice hw hp
      refine hk (j - 1) (by omega) (atL_turn.mpr (.inl ⟨by omega, .inr ?_, hn⟩))
      rw [show j - 1 + 1 = j by omega]
      exact ht
    · intro hp
      rcases atL_turn.mp hi with ⟨h1, h2, _⟩ | ⟨h, _⟩
      · have h3 := h2.resolve_left hw
        have : ¬ i + 1 < w.length := fun hlt => Wm.prim_twice hp (by omega) hlt h3
        omega
      · exact absurd h hw
theorem cutL_tail (l : List Nat) : cutL l (some 1) none = l.drop 1 := by
  unfold cutL
  have e : HT.sIx l.length 0 (some 1) = min 1 l.length := by
    unfold HT.sIx
    simp
  have e2 : HT.sIx l.length l.length none = l.length := rfl
  rw [e, e2]
  cases l with
  | nil => rfl
  | cons a r =>
    rw [show min 1 (a :: r).length = 1 by simp only [List.length_cons]; omega]
    show (r.take _) = r
    exact List.take_of_length_le (by simp)
theorem primB_yes {w : List Nat} (h : Wm.Prim w) : primB w = true := @decide_eq_true _ (Classical.propDecidable _) h
theorem primB_no {w : List Nat} (h : ¬ Wm.Prim w) : primB w = false := @decide_eq_false _ (Classical.propDecidable _) h
theorem m_law_primitive {K : PySem.W.Frag} : Ok K ["word"] T_law_primitive (t_law_primitive K) := by
  rintro ss m Q ⟨w, rfl, hl, q⟩
  unfold t_law_primitive
  refine ws_ret (we_andV (we_op (we_var rfl (we_str ⟨_, _, _, rfl, rfl, .mk (req_S w []), _, rfl, ?_⟩))))
  by_cases hw : w = []
  · rw [decide_eq_true hw]
    refine if_no ?_
    have : primB w = false := primB_no fun h => h.1 hw
    rw [this] at q
    exact q
  · rw [decide_eq_false hw, if_pos (show (!false) = true from rfl)]
    refine we_op (we_find ?_)
    refine we_slice ?_
    repeat walk_at "w"
    refine ⟨_, _, _, rfl, rfl, radd_S (by show _ ≤ 100000; omega), ?_⟩
    repeat walk_at "w"
    refine ⟨1, rfl, ?_⟩
    walk_at "w"
    refine ⟨_, _, rfl, rsl_S (by rw [List.length_append]; show _ ≤ 100000; omega) _ _, ?_⟩
    refine ⟨_, rfl, ?_⟩
    repeat walk_at "w"
    refine ⟨_, rfl, ?_⟩
    repeat walk_at "w"
    refine ⟨_, _, rfl, rlen_S (by show _ ≤ 100000; omega), ?_⟩
    repeat walk_at "w"
    walk_at "i2"
    refine ⟨_, _, _, rfl, rfl, .mk (.int _ _), ?_⟩
    rw [cutL_tail]
    have e : (decide (Txt.find (S ((w ++ w).drop 1)) (S w) = (w.length : Int) - 1)) = primB w := by
      by_cases h : Wm.Prim w
      · rw [decide_eq_true ((find_prim hw).mpr h), primB_yes h]
      · rw [decide_eq_false (fun z => h ((find_prim hw).mp z)), primB_no h]
    rw [e]
    exact q
end L12

namespace L12
open PySem PySem.Spec PyProof.Rows L2 Cr
local macro_rules | `(tactic| walk_at "w") => `(tactic| first
  | with_reducible refine ws_seq ?_ | with_reducible refine ws_asg ?_ | with_reducible refine ws_ret ?_ | with_reducible refine ws_retN ?_ | with_reducible refine ws_drop ?_ | with_reducible refine ws_if ?_
  | with_reducible refine ws_next ?_ | with_reducible refine ws_par ?_ | with_reducible refine ws_par3 ?_
  | with_reducible refine we_int ?_ | with_reducible refine we_str ?_ | with_reducible refine we_bl ?_ | with_reducible refine we_non ?_ | with_reducible refine we_op ?_ | with_reducible refine we_un ?_
  | with_reducible refine we_cb ?_ | with_reducible refine we_if ?_ | with_reducible refine we_tup ?_ | with_reducible refine we_call ?_ | with_reducible refine wa_cons ?_ | with_reducible refine wa_nil ?_
  | with_reducible refine wt_val ?_ | with_reducible refine wt_test ?_ | with_reducible refine wt_and ?_ | with_reducible refine wt_or ?_ | with_reducible refine wt_not ?_ | with_reducible refine wt_yes ?_
  | with_reducible refine we_andV ?_ | with_reducible refine we_orV ?_ | with_reducible refine we_notV ?_ | with_reducible refine we_chain ?_ | with_reducible refine we_slice ?_ | with_reducible refine wo_none ?_ | with_reducible refine wo_some ?_
  | with_reducible refine we_bits ?_ | refine we_var (by rfl) ?_)
local macro_rules | `(tactic| walk_at "i2") => `(tactic| refine ⟨_, _, _, rfl, rfl, .int _ _, ?_⟩)
local macro_rules | `(tactic| walk_at "in") => `(tactic| refine ⟨_, _, rfl, .int _, ?_⟩)
/-! ### lists of pieces compared -/
def pyP (p : Pc) : PyData := .tuple [.str (S p.1), .tuple (p.2.map .int)]
theorem py_pD (p : Pc) : (pD p).py = some (pyP p) := by
  show D.py (.tup [dS p.1, tI p.2]) = _
  have h : D.py (dS p.1) = some (.str (S p.1)) := rfl
  simp only [D.py, D.pyA, Cr.pyA_ints]
  rfl
theorem pyA_ps : ∀ ps : List Pc, D.pyA (ps.map pD) = some (ps.map pyP)
  | [] => rfl
  | p :: ps => by
    show D.pyA (pD p :: ps.map pD) = _
    simp only [D.pyA, py_pD, pyA_ps ps]
    rfl
theorem eqv_pyP (p q : Pc) : PyData.eqv (pyP p) (pyP q) = decide (p = q) := by
  obtain ⟨a, f⟩ := p
  obtain ⟨b, g⟩ := q
  have e1 : PyData.eqv (.str (S a)) (.str (S b)) = decide (a = b) := by
    simp only [PyData.eqv]
    by_cases h : a = b
    · rw [h]; simp
    · rw [decide_eq_false h]
      simp only [beq_eq_false_iff_ne, ne_eq]
      exact fun z => h (S_inj z)
  simp only [pyP, PyData.eqv, PyData.eqvAll, eqvAll_ints] at e1 ⊢
  rw [e1]
  by_cases h : a = b
  · by_cases h2 : f = g
    · simp [h, h2]
    · simp [h, h2]
  · simp [h]
theorem eqvAll_ps : ∀ xs ys : List Pc, PyData.eqvAll (xs.map pyP) (ys.map pyP) = decide (xs = ys)
  | [], [] => by simp [PyData.eqvAll]
  | [], _ :: _ => by simp [PyData.eqvAll]
  | _ :: _, [] => by simp [PyData.eqvAll]
  | x :: xs, y :: ys => by
    simp only [List.map_cons, PyData.eqvAll, eqv_pyP, eqvAll_ps xs ys]
    by_cases h : x = y
    · by_cases h2 : xs = ys
      · simp [h, h2]
      · simp [h, h2]
    · simp [h]
theorem shape_ps : ∀ {ps : List Pc}, (∀ p ∈ ps, ∀ c ∈ p.1, c ∈ abc) → PyData.canLayAll0 (ps.map pyP) = true ∧ PyData.depthAll (ps.map pyP) ≤ 60
  | [], _ => ⟨by simp [PyData.canLayAll0], by simp [PyData.depthAll]⟩
  | p :: ps, h => by
    obtain ⟨i1, i2⟩ := shape_ps (ps := ps) fun q hq => h q (List.mem_cons_of_mem _ hq)
    obtain ⟨pp, h1, h2, h3⟩ := plain_pD (h p List.mem_cons_self)
    rw [py_pD] at h1
    cases h1
    refine ⟨by rw [List.map_cons]; simp only [PyData.canLayAll0, h2, i1, Bool.and_self], ?_⟩
    rw [List.map_cons]
    simp only [PyData.depthAll]
    omega
theorem shapedT {ps : List Pc} (h : ∀ p ∈ ps, ∀ c ∈ p.1, c ∈ abc) : SeqAt.shaped (.tuple (ps.map pyP)) = true := by
  obtain ⟨h1, h2⟩ := shape_ps h
  unfold SeqAt.shaped
  rw [Bool.and_eq_true]
  exact ⟨by simpa only [PyData.canLay0] using h1, decide_eq_true (by simp only [PyData.depth]; omega)⟩
theorem shapedL {ps : List Pc} (h : ∀ p ∈ ps, ∀ c ∈ p.1, c ∈ abc) : SeqAt.shaped (.list (ps.map pyP)) = true := by
  obtain ⟨h1, h2⟩ := shape_ps h
  unfold SeqAt.shaped
  rw [Bool.and_eq_true]
  exact ⟨by simpa only [PyData.canLay0] using h1, decide_eq_true (by simp only [PyData.depth]; omega)⟩
theorem reqT_ps {xs ys : List Pc} (hx : ∀ p ∈ xs, ∀ c ∈ p.1, c ∈ abc) (hy : ∀ p ∈ ys, ∀ c ∈ p.1, c ∈ abc) : REq (.tup (xs.map pD)) (.tup (ys.map pD)) (decide (xs = ys)) := by
  have h := REq.deep (a := .tup (xs.map pD)) (b := .tup (ys.map pD)) (by simp only [D.py, pyA_ps]; rfl) (by simp only [D.py, pyA_ps]; rfl) (shapedT hx) (shapedT hy)
  rw [show PyData.eqv (.tuple (xs.map pyP)) (.tuple (ys.map pyP)) = decide (xs = ys) by simp only [PyData.eqv, eqvAll_ps]] at h
  exact h
theorem reqL_ps {xs ys : List Pc} (hx : ∀ p ∈ xs, ∀ c ∈ p.1, c ∈ abc) (hy : ∀ p ∈ ys, ∀ c ∈ p.1, c ∈ abc) : REq (psD xs) (psD ys) (decide (xs = ys)) := by
  have h := REq.deep (a := psD xs) (b := psD ys) (by simp only [D.py, pyA_ps]; rfl) (by simp only [D.py, pyA_ps]; rfl) (shapedL hx) (shapedL hy)
  rw [show PyData.eqv (.list (xs.map pyP)) (.list (ys.map pyP)) = decide (xs = ys) by simp only [PyData.eqv, eqvAll_ps]] at h
  exact h
/-! ### tests that leave the store -/
theorem wtA {K : PySem.W.Frag} {r : Ro} {m : Sto} {A B : TT} {a b : Bool} (hA : WT K r m A fun x m1 => x = a ∧ m1 = m) (hB : a = true → WT K r m B fun x m1 => x = b ∧ m1 = m) : WT K r m (tAnd A B) fun x m1 => x = (a && b) ∧ m1 = m :=
  wt_andP2 a b hA hB ⟨rfl, rfl⟩
theorem wtO {K : PySem.W.Frag} {r : Ro} {m : Sto} {A B : TT} {a b : Bool} (hA : WT K r m A fun x m1 => x = a ∧ m1 = m) (hB : a = false → WT K r m B fun x m1 => x = b ∧ m1 = m) : WT K r m (tOr A B) fun x m1 => x = (a || b) ∧ m1 = m :=
  wt_or (hA.imp fun x m1 ⟨h1, h2⟩ => by
    subst h1 h2
    cases x with
    | true => exact ⟨rfl, rfl⟩
    | false => exact (hB rfl).imp fun y m2 ⟨h3, h4⟩ => ⟨by rw [h3]; rfl, h4⟩)
theorem wtN {K : PySem.W.Frag} {r : Ro} {m : Sto} {A : TT} {a : Bool} (hA : WT K r m A fun x m1 => x = a ∧ m1 = m) : WT K r m (tNot A) fun x m1 => x = (!a) ∧ m1 = m :=
  wt_not (hA.imp fun x m1 ⟨h1, h2⟩ => ⟨by rw [h1], h2⟩)
theorem wsIf {K : PySem.W.Frag} {M : Dm} {r : Ro} {m : Sto} {c : TT} {t u : TS} {P : Eds} {b : Bool} (h : WT K r m c fun x m1 => x = b ∧ m1 = m) (h1 : b = true → WS K M r m t P) (h2 : b = false → WS K M r m u P) : WS K M r m (tIfS c t u) P :=
  ws_if (h.imp fun x m1 ⟨e1, e2⟩ => by
    subst e1 e2
    cases x with
    | true => exact (if_pos rfl).mpr (h1 rfl)
    | false => exact if_no (h2 rfl))
/-! ### are they pieces -/
theorem get_pD {ps : List Pc} {i : Nat} {d : D} (h : (ps.map pD)[i]? = some d) : ∃ p, ps[i]? = some p ∧ d = pD p := by
  rw [List.getElem?_map] at h
  cases e : ps[i]? with
  | none => rw [e] at h; cases h
  | some p => rw [e] at h; exact ⟨p, rfl, (Option.some.inj h).symm⟩
theorem m_law_are_pieces {K : PySem.W.Frag} : Ok K ["many", "pieces", "item", "number"] T_law_are_pieces (t_law_are_pieces K) := by
  rintro ss m Q ⟨k, ps, rfl, hk, hl, hps, q⟩
  unfold t_law_are_pieces
  refine ws_seq (wsIf (b := false) (wtN (a := true) (wt_val ?_)) (fun h => (by cases h)) fun _ => ?_)
  · repeat walk_at "w"
    refine we_ty ?_
    repeat walk_at "w"
    exact ⟨[psD ps, .ty "list"], _, rfl, isi_lst rfl, true, rfl, rfl, rfl⟩
  walk_at "w"
  refine ws_seq (ws_for [2] (wi_D ?_))
  repeat walk_at "w"
  refine ⟨false, ps.map pD, rfl, fun i r' m' => m' = m ∧ ∃ z z3, r' = [some (.val (.int k)), some (.val (psD ps)), z, z3], ⟨rfl, _, _, rfl⟩, ?_, ?_⟩
  · rintro i d r' m' hd ⟨rfl, z, z3, rfl⟩
    obtain ⟨p, hp, rfl⟩ := get_pD hd
    obtain ⟨B, hr, hB⟩ := (hps p (List.mem_of_getElem? hp)).fm
    refine wg_name ?_
    show WS K _ [some (.val (.int k)), some (.val (psD ps)), some (.val (pD p)), z3] m' _ _
    refine ws_seq (wsIf (b := false) (wtO (a := false) (b := false) (wtN (a := true) (wt_val ?_)) fun _ => wtO (a := false) (b := false) (wt_test ?_) fun _ => wtN (a := true) (wt_val ?_)) (fun h => (by cases h)) fun _ => ?_)
    · repeat walk_at "w"
      refine we_ty ?_
      repeat walk_at "w"
      exact ⟨[pD p, .ty "tuple"], _, rfl, isi_tup rfl, true, rfl, rfl, rfl⟩
    · repeat walk_at "w"
      refine ⟨_, _, rfl, .tup _, ?_⟩
      repeat walk_at "w"
      exact ⟨_, _, _, rfl, rfl, .mk (.int _ _), _, rfl, rfl, rfl⟩
    · repeat walk_at "w"
      refine ⟨_, _, _, rfl, rfl, .tup (d := dS p.1) rfl, ?_⟩
      repeat walk_at "w"
      refine we_ty ?_
      repeat walk_at "w"
      exact ⟨[dS p.1, .ty "str"], _, rfl, isi_str rfl, true, rfl, rfl, rfl⟩
    walk_at "w"
    refine ws_seq (wsIf (b := false) (wtO (a := false) (b := false) (wtN (a := true) (wt_val ?_)) fun _ => (wt_test ?_)) (fun h => (by cases h)) fun _ => ?_)
    · repeat walk_at "w"
      refine ⟨_, _, _, rfl, rfl, .tup (d := tI p.2) rfl, ?_⟩
      repeat walk_at "w"
      refine we_ty ?_
      repeat walk_at "w"
      exact ⟨[tI p.2, .ty "tuple"], _, rfl, isi_tup rfl, true, rfl, rfl, rfl⟩
    · repeat walk_at "w"
      refine ⟨_, _, _, rfl, rfl, .tup (d := tI p.2) rfl, ?_⟩
      repeat walk_at "w"
      refine ⟨_, _, rfl, .tup _, ?_⟩
      repeat walk_at "w"
      walk_at "i2"
      refine ⟨_, _, _, rfl, rfl, .mk (.int _ _), _, rfl, ?_, rfl⟩
      rw [decide_eq_true (by rw [List.length_map, hr.1]; omega)]
      rfl
    walk_at "w"
    refine wsIf (b := false) (wt_test ?_) (fun h => (by cases h)) fun _ => ?_
    · refine we_op ?_
      refine we_lc (js := [3]) (by decide) (wi_D ?_)
      repeat walk_at "w"
      refine ⟨_, _, _, rfl, rfl, .tup (d := tI p.2) rfl, ?_⟩
      refine ⟨true, p.2.map .int, rfl, by rw [List.length_map, hr.1]; omega, rfl, fun _ => false, fun d => d, fun d hd m' => ?_, ?_⟩
      · obtain ⟨x, hx, rfl⟩ := List.mem_map.mp hd
        refine wg_name ?_
        refine (wtO (a := false) (b := false) (wtN (a := true) (wt_val ?_)) fun _ => wt_val ?_).imp fun b m2 ⟨h1, h2⟩ => ⟨h1, h2, fun h => by rw [h1] at h; cases h⟩
        · repeat walk_at "w"
          refine we_ty ?_
          repeat walk_at "w"
          exact ⟨[.int x, .ty "int"], _, rfl, isi_int rfl, true, rfl, rfl, rfl⟩
        · repeat walk_at "w"
          refine we_ty ?_
          repeat walk_at "w"
          exact ⟨[.int x, .ty "bool"], _, rfl, isi_bl rfl, false, rfl, rfl, rfl⟩
      · have e : ((p.2.map D.int).filter fun _ => false).map (fun d => d) = [] := by simp
        rw [e]
        refine we_lst (wa_nil ⟨[], rfl, by decide, _, _, _, rfl, rfl, .mk (req_nil []), _, rfl, rfl, rfl⟩)
    walk_at "w"
    exact ⟨rfl, _, _, rfl⟩
  · rintro r' m' ⟨rfl, z, z3, rfl⟩
    repeat walk_at "w"
    exact q
end L12

namespace L12
open PySem PySem.Spec PyProof.Rows L2 Cr
local macro_rules | `(tactic| walk_at "w") => `(tactic| first
  | with_reducible refine ws_seq ?_ | with_reducible refine ws_asg ?_ | with_reducible refine ws_ret ?_ | with_reducible refine ws_retN ?_ | with_reducible refine ws_drop ?_ | with_reducible refine ws_if ?_
  | with_reducible refine ws_next ?_ | with_reducible refine ws_par ?_ | with_reducible refine ws_par3 ?_
  | with_reducible refine we_int ?_ | with_reducible refine we_str ?_ | with_reducible refine we_bl ?_ | with_reducible refine we_non ?_ | with_reducible refine we_op ?_ | with_reducible refine we_un ?_
  | with_reducible refine we_cb ?_ | with_reducible refine we_if ?_ | with_reducible refine we_tup ?_ | with_reducible refine we_call ?_ | with_reducible refine wa_cons ?_ | with_reducible refine wa_nil ?_
  | with_reducible refine wt_val ?_ | with_reducible refine wt_test ?_ | with_reducible refine wt_and ?_ | with_reducible refine wt_or ?_ | with_reducible refine wt_not ?_ | with_reducible refine wt_yes ?_
  | with_reducible refine we_andV ?_ | with_reducible refine we_orV ?_ | with_reducible refine we_notV ?_ | with_reducible refine we_chain ?_ | with_reducible refine we_slice ?_ | with_reducible refine wo_none ?_ | with_reducible refine wo_some ?_
  | with_reducible refine we_bits ?_ | refine we_var (by rfl) ?_)
local macro_rules | `(tactic| walk_at "i2") => `(tactic| refine ⟨_, _, _, rfl, rfl, .int _ _, ?_⟩)
local macro_rules | `(tactic| walk_at "in") => `(tactic| refine ⟨_, _, rfl, .int _, ?_⟩)
/-! ### normal, by all rules -/
theorem zip_snoc : ∀ (qs : List Pc) (p : Pc), (qs ++ [p]).zip ((qs ++ [p]).drop 1) = qs.zip (qs.drop 1) ++ qs.getLast?.toList.map fun q => (q, p)
  | [], p => rfl
  | [a], p => rfl
  | a :: b :: r, p => by
    have ih := zip_snoc (b :: r) p
    have e : (a :: b :: r).getLast? = (b :: r).getLast? := List.getLast?_cons_cons
    rw [e]
    show (a, b) :: ((b :: r) ++ [p]).zip (((b :: r) ++ [p]).drop 1) = (a, b) :: ((b :: r).zip ((b :: r).drop 1)) ++ _
    rw [ih]
    rfl
theorem ns_rev {k : Nat} : ∀ l : List Pc, NS k l ↔ (∀ p ∈ l.reverse, PN k p) ∧ ∀ x ∈ l.reverse.zip (l.reverse.drop 1), Adj k x.1 x.2
  | [] => by
    constructor
    · intro _
      refine ⟨?_, ?_⟩
      · intro p hp; cases hp
      · intro x hx; cases hx
    · intro _; trivial
  | p :: r => by
    have ih := ns_rev (k := k) r
    have hz := zip_snoc r.reverse p
    rw [List.reverse_cons, hz, List.getLast?_reverse]
    constructor
    · rintro ⟨h1, h2, h3⟩
      obtain ⟨i1, i2⟩ := ih.mp h3
      refine ⟨fun q hq => ?_, fun x hx => ?_⟩
      · rcases List.mem_append.mp hq with h | h
        · exact i1 q h
        · rw [List.mem_singleton.mp h]; exact h1
      · rcases List.mem_append.mp hx with h | h
        · exact i2 x h
        · obtain ⟨q, hq, rfl⟩ := List.mem_map.mp h
          exact h2 q (Option.mem_toList.mp hq)
    · rintro ⟨h1, h2⟩
      refine ⟨h1 p (by simp), fun q hq => h2 (q, p) (List.mem_append_right _ (List.mem_map.mpr ⟨q, Option.mem_toList.mpr hq, rfl⟩)), ih.mpr ⟨fun q hq => h1 q (List.mem_append_left _ hq), fun x hx => h2 x (List.mem_append_left _ hx)⟩⟩
theorem ns_iff {k : Nat} (ps : List Pc) : NS k ps.reverse ↔ (∀ p ∈ ps, PN k p) ∧ ∀ x ∈ ps.zip (ps.drop 1), Adj k x.1 x.2 := by
  have := ns_rev (k := k) ps.reverse
  rw [List.reverse_reverse] at this
  exact this
theorem nsB_no {k : Nat} {ps : List Pc} (h : ¬ NS k ps.reverse) : nsB k ps = false := @decide_eq_false _ (Classical.propDecidable _) h
theorem nsB_yes {k : Nat} {ps : List Pc} (h : NS k ps.reverse) : nsB k ps = true := @decide_eq_true _ (Classical.propDecidable _) h
theorem sum_split {f : List Int} : f.sum = f.headD 0 + f.tail.sum := by
  cases f with
  | nil => rfl
  | cons a b => rw [List.sum_cons]; rfl
theorem sum_nonneg : ∀ {f : List Int}, (∀ x ∈ f, 0 ≤ x) → 0 ≤ f.sum
  | [], _ => Int.le_refl _
  | a :: f, h => by
    rw [List.sum_cons]
    have := h a List.mem_cons_self
    have := sum_nonneg (f := f) fun x hx => h x (List.mem_cons_of_mem _ hx)
    omega
/-- the two tests of a piece -/
theorem pn_iff {k : Nat} {p : Pc} (h : Good k p) : PN k p ↔ ((!primB p.1) && !decide (p.2 = fx k)) = false ∧ (decide (p.1 = []) || ((!decide (p.2 = fx k)) && ((!decide (p.2.headD 0 = 0)) || decide (p.2.sum = 0)))) = false := by
  have hf := good_pf h
  have ht := sum_nonneg (pf_tail hf)
  have hp : primB p.1 = true ↔ Wm.Prim p.1 := by unfold primB; exact @decide_eq_true_iff _ (Classical.propDecidable _)
  have hs := sum_split (f := p.2)
  unfold PN
  by_cases hx : p.2 = fx k
  · by_cases hw : p.1 = []
    · simp [hx, hw]
    · simp only [hx, hw, decide_true, decide_false, Bool.not_true, Bool.and_false, Bool.false_and, Bool.or_false, Bool.false_or]
      have := pn_fx (k := k) hw
      exact ⟨fun _ => ⟨trivial, trivial⟩, fun _ => ⟨this.1, this.2.1, this.2.2.1, .inl trivial⟩⟩
  · by_cases hw : p.1 = []
    · simp [hw]
    · simp only [hx, hw, decide_false, Bool.not_false, Bool.and_true, Bool.true_and, Bool.false_or, Bool.or_eq_false_iff, Bool.not_eq_false', decide_eq_true_eq, decide_eq_false_iff_not, hp]
      constructor
      · rintro ⟨_, _, _, h1 | ⟨h2, h3, h4⟩⟩
        · exact absurd h1 (by simp)
        · exact ⟨h2, h3, by omega⟩
      · rintro ⟨h1, h2, h3⟩
        exact ⟨hw, hf.1, hf.2, .inr ⟨h1, h2, by omega⟩⟩
theorem adj_iff {k : Nat} {q p : Pc} {a b : Nat} (hq : q.1.getLast? = some a) (hp : p.1.getLast? = some b) : Adj k q p ↔
    ((decide (q.2 = fx k) && decide (p.2 = fx k)) || ((!decide (q.2 = fx k)) && ((!decide (p.2 = fx k)) && decide (q.1 = p.1)))) = false ∧ (decide (q.2 = fx k) && decide ([a] = [b])) = false := by
  unfold Adj
  rw [hq, hp]
  by_cases h1 : q.2 = fx k
  · by_cases h2 : p.2 = fx k
    · simp [h1, h2]
    · simp [h1, h2]
  · by_cases h2 : p.2 = fx k
    · simp [h1, h2]
    · simp [h1, h2]
section
variable {K : PySem.W.Frag} {r : Ro} {m : Sto}
theorem we_fx {k : Nat} {Q : Sv → Sto → Prop} (hk : k ≤ 3) (h0 : r[0]? = some (some (.val (.int k)))) (q : Q (.val (tI (fx k))) m) : WE K r m (tCall (SpD K T_law_plain) [] E0 (tCons (tVar 0) (tCons (tC (.int 1)) tNil))) Q :=
  we_call (wa_cons (we_var h0 (wa_cons (we_int (wa_nil ⟨k, 1, rfl, hk, q⟩)))))
theorem wt_neFx {i k : Nat} {f : List Int} (hk : k ≤ 3) (h0 : r[0]? = some (some (.val (.int k)))) (hi : r[i]? = some (some (.val (tI f)))) :
    WT K r m (tTest (tOp (rD2 K RNeR) (tVar i) (tCall (SpD K T_law_plain) [] E0 (tCons (tVar 0) (tCons (tC (.int 1)) tNil))))) fun x m1 => x = (!decide (f = fx k)) ∧ m1 = m :=
  wt_test (we_op (we_var hi (we_fx hk h0 ⟨_, _, _, rfl, rfl, .mk (req_tI _ _), _, rfl, rfl, rfl⟩)))
/-- a part of a piece -/
theorem we_p0 {i : Nat} {p : Pc} {Q : Sv → Sto → Prop} (hi : r[i]? = some (some (.val (pD p)))) (q : Q (.val (dS p.1)) m) : WE K r m (tOp (rD2 K RIx) (tVar i) (tC (.int 0))) Q :=
  we_op (we_var hi (we_int ⟨_, _, _, rfl, rfl, .tup (d := dS p.1) rfl, q⟩))
theorem we_p1 {i : Nat} {p : Pc} {Q : Sv → Sto → Prop} (hi : r[i]? = some (some (.val (pD p)))) (q : Q (.val (tI p.2)) m) : WE K r m (tOp (rD2 K RIx) (tVar i) (tC (.int 1))) Q :=
  we_op (we_var hi (we_int ⟨_, _, _, rfl, rfl, .tup (d := tI p.2) rfl, q⟩))
/-- the last letter of a piece -/
theorem we_last {i : Nat} {p : Pc} {c : Nat} {Q : Sv → Sto → Prop} (hi : r[i]? = some (some (.val (pD p)))) (hl : p.1.length ≤ 100000) (hc : p.1.getLast? = some c) (q : Q (.val (dS [c])) m) :
    WE K r m (tOp (rD2 K RIx) (tOp (rD2 K RIx) (tVar i) (tC (.int 0))) (tOp (rD2 K RSub) (tCB (rDN K RLen) (tCons (tOp (rD2 K RIx) (tVar i) (tC (.int 0))) tNil)) (tC (.int 1)))) Q := by
  refine we_op (we_p0 hi (we_op (we_cb (wa_cons (we_p0 hi (wa_nil ⟨_, _, rfl, rlen_S hl, we_int ⟨_, _, _, rfl, rfl, .int _ _, ?_⟩⟩))))))
  refine ⟨_, _, _, rfl, rfl, rix_S (c := c) hl ?_, q⟩
  have hn : 0 < p.1.length := by
    cases e : p.1 with
    | nil => rw [e] at hc; cases hc
    | cons a b => simp
  have e1 : ((p.1.length : Int) - 1) = ((p.1.length - 1 : Nat) : Int) := by omega
  rw [e1, atI_natV (by omega)]
  rw [List.getLast?_eq_getElem?, List.getElem?_eq_getElem (by omega)] at hc
  exact hc
end
theorem zipD_ps (ps : List Pc) : zipD (ps.map pD) ((ps.drop 1).map pD) = (ps.zip (ps.drop 1)).map fun x => .tup [pD x.1, pD x.2] := by
  unfold zipD
  rw [List.zip_map, List.map_map]
  rfl
theorem m_law_is_normal {K : PySem.W.Frag} : Ok K ["many", "pieces", "word", "form", "one", "other", "fixed", "behind"] T_law_is_normal (t_law_is_normal K) := by
  rintro ss m Q ⟨k, ps, rfl, hk, hl, hps, q⟩
  unfold t_law_is_normal
  refine ws_seq (ws_for ([2] ++ ([3] ++ [])) (wi_D (we_var rfl ⟨false, ps.map pD, rfl, fun i r' m' => m' = m ∧ (∃ z2 z3, r' = [some (.val (.int k)), some (.val (psD ps)), z2, z3, none, none, none, none]) ∧ ∀ p ∈ ps.take i, PN k p, ⟨rfl, ⟨none, none, rfl⟩, by simp⟩, ?_, ?_⟩)))
  · rintro i d r' m' hd ⟨rfl, ⟨z2, z3, rfl⟩, hI⟩
    obtain ⟨p, hp, rfl⟩ := get_pD hd
    have hmem := List.mem_of_getElem? hp
    have hg := hps p hmem
    have hS := hg.s hk
    have hpn := pn_iff hg
    have bad : ¬ PN k p → Q (.val (.bl false)) m' := fun h => by
      have := nsB_no (k := k) (ps := ps) fun z => h (((ns_iff ps).mp z).1 p hmem)
      rw [this] at q
      exact q
    obtain ⟨f0, fs, hfe⟩ : ∃ f0 fs, p.2 = f0 :: fs := by
      cases e : p.2 with
      | nil => exact absurd e hS.2.1
      | cons a b => exact ⟨a, b, rfl⟩
    refine wg_tup rfl (wgs_cons (wg_name (wgs_cons (wg_name (wgs_nil ?_)))))
    refine ws_seq (wsIf (wtA (wtN (wt_val (we_call (wa_cons (we_var rfl (wa_nil ⟨p.1, rfl, by have := hg.wd.1; omega, _, rfl, rfl, rfl⟩)))))) fun _ => wt_neFx hk rfl rfl) (fun h => ?_) fun h1 => ?_)
    · exact ws_ret (we_bl (bad fun z => by rw [(hpn.mp z).1] at h; cases h))
    walk_at "w"
    refine wsIf (wtO (wt_test (we_op (we_var rfl (we_str ⟨_, _, _, rfl, rfl, .mk (req_S p.1 []), _, rfl, rfl, rfl⟩)))) fun _ => wtA (wt_neFx hk rfl rfl) fun _ => wtO (b := decide (p.2.sum = 0)) (a := !decide (p.2.headD 0 = 0)) (wt_test ?_) fun _ => wt_test ?_) (fun h => ?_) fun h2 => ?_
    · refine we_op (we_op (we_var rfl (we_int ⟨_, _, _, rfl, rfl, .tup (d := .int f0) (atI_nat0 (by rw [hfe]; rfl)), we_int ⟨_, _, _, rfl, rfl, .mk (.int _ _), _, rfl, ?_, rfl⟩⟩)))
      rw [hfe]
      rfl
    · exact we_op (we_cb (wa_cons (we_var rfl (wa_nil ⟨[tI p.2], _, rfl, .tup _, we_int ⟨_, _, _, rfl, rfl, .mk (.int _ _), _, rfl, rfl, rfl⟩⟩))))
    · exact ws_ret (we_bl (bad fun z => by rw [(hpn.mp z).2] at h; cases h))
    refine ws_next ⟨rfl, ⟨_, _, rfl⟩, fun x hx => ?_⟩
    rw [List.take_add_one, hp] at hx
    rcases List.mem_append.mp hx with z | z
    · exact hI x z
    · rw [List.mem_singleton.mp z]
      exact hpn.mpr ⟨h1, h2⟩
  rintro r' m' ⟨rfl, ⟨z2, z3, rfl⟩, hI⟩
  rw [List.length_map, List.take_length] at hI
  refine ws_seq (ws_for ([4] ++ ([5] ++ [])) (wi_Z (wa_cons (we_var rfl (wa_cons (we_slice (we_var rfl (wo_some (we_int ⟨1, rfl, wo_none ⟨_, _, rfl, .lst _ _ _, wa_nil ⟨false, false, ps.map pD, (ps.drop 1).map pD, ?_, (fun z => by cases z), fun i r' m2 => m2 = m' ∧ (∃ z4 z5 z6 z7, r' = [some (.val (.int k)), some (.val (psD ps)), z2, z3, z4, z5, z6, z7]) ∧ ∀ x ∈ (ps.zip (ps.drop 1)).take i, Adj k x.1 x.2, ⟨rfl, ⟨none, none, none, none, rfl⟩, by simp⟩, ?_, ?_⟩⟩⟩)))))))))
  · rw [cut_tail, List.drop_one, List.map_tail]
    rfl
  · rw [zipD_ps]
    rintro i d r' m2 hd ⟨rfl, ⟨z4, z5, z6, z7, rfl⟩, hA⟩
    rw [List.getElem?_map] at hd
    obtain ⟨⟨o, p⟩, hx, rfl⟩ : ∃ x, (ps.zip (ps.drop 1))[i]? = some x ∧ d = .tup [pD x.1, pD x.2] := by
      cases e : (ps.zip (ps.drop 1))[i]? with
      | none => rw [e] at hd; cases hd
      | some x => rw [e] at hd; exact ⟨x, rfl, (Option.some.inj hd).symm⟩
    have hmem := List.mem_of_getElem? hx
    have mo := (List.of_mem_zip hmem).1
    have mp := List.mem_of_mem_drop (List.of_mem_zip hmem).2
    have last : ∀ x ∈ ps, ∃ c, x.1.getLast? = some c ∧ x.1.length ≤ 100000 := fun x hx => by
      have h1 := (hI x hx).1
      have h2 := (hps x hx).wd.1
      cases e : x.1.getLast? with
      | none => exact absurd (List.getLast?_eq_none_iff.mp e) h1
      | some c => exact ⟨c, rfl, by omega⟩
    obtain ⟨a, ha, la⟩ := last o mo
    obtain ⟨b, hb, lb⟩ := last p mp
    have hadj := adj_iff (k := k) ha hb
    have bad : ¬ Adj k o p → Q (.val (.bl false)) m2 := fun h => by
      have := nsB_no (k := k) (ps := ps) fun z => h (((ns_iff ps).mp z).2 _ hmem)
      rw [this] at q
      exact q
    refine wg_tup rfl (wgs_cons (wg_name (wgs_cons (wg_name (wgs_nil ?_)))))
    refine ws_seq (ws_par (wa_cons (we_op (we_p1 rfl (we_fx hk rfl ⟨_, _, _, rfl, rfl, .mk (req_tI _ _), wa_cons (we_op (we_p1 rfl (we_fx hk rfl ⟨_, _, _, rfl, rfl, .mk (req_tI _ _), wa_nil ⟨_, _, rfl, ?_⟩⟩)))⟩)))))
    show WS K _ [some (.val (.int k)), some (.val (psD ps)), z2, z3, some (.val (pD o)), some (.val (pD p)), some (.val (.bl (decide (o.2 = fx k)))), some (.val (.bl (decide (p.2 = fx k))))] m2 _ _
    have v6 : ∀ {Q : Bool → Sto → Prop}, Q (decide (o.2 = fx k)) m2 → WT K [some (.val (.int k)), some (.val (psD ps)), z2, z3, some (.val (pD o)), some (.val (pD p)), some (.val (.bl (decide (o.2 = fx k)))), some (.val (.bl (decide (p.2 = fx k))))] m2 (tB (tVar 6)) Q := fun h => wt_val (we_var rfl ⟨_, rfl, h⟩)
    have v7 : ∀ {Q : Bool → Sto → Prop}, Q (decide (p.2 = fx k)) m2 → WT K [some (.val (.int k)), some (.val (psD ps)), z2, z3, some (.val (pD o)), some (.val (pD p)), some (.val (.bl (decide (o.2 = fx k)))), some (.val (.bl (decide (p.2 = fx k))))] m2 (tB (tVar 7)) Q := fun h => wt_val (we_var rfl ⟨_, rfl, h⟩)
    refine ws_seq (wsIf (wtO (wtA (v6 ⟨rfl, rfl⟩) fun _ => v7 ⟨rfl, rfl⟩) fun _ => wtA (wtN (v6 ⟨rfl, rfl⟩)) fun _ => wtA (wtN (v7 ⟨rfl, rfl⟩)) fun _ => wt_test (we_op (we_p0 rfl (we_p0 rfl ⟨_, _, _, rfl, rfl, .mk (req_S _ _), _, rfl, rfl, rfl⟩)))) (fun h => ?_) fun h1 => ?_)
    · exact ws_ret (we_bl (bad fun z => by rw [(hadj.mp z).1] at h; cases h))
    refine ws_next ?_
    refine wsIf (wtA (v6 ⟨rfl, rfl⟩) fun _ => wt_test (we_op (we_last rfl la ha (we_last rfl lb hb ⟨_, _, _, rfl, rfl, .mk (req_S _ _), _, rfl, rfl, rfl⟩)))) (fun h => ?_) fun h2 => ?_
    · exact ws_ret (we_bl (bad fun z => by rw [(hadj.mp z).2] at h; cases h))
    refine ws_next ⟨rfl, ⟨_, _, _, _, rfl⟩, fun x hx' => ?_⟩
    rw [List.take_add_one, hx] at hx'
    rcases List.mem_append.mp hx' with z | z
    · exact hA x z
    · rw [List.mem_singleton.mp z]
      exact hadj.mpr ⟨h1, h2⟩
  · rintro r' m2 ⟨rfl, ⟨z4, z5, z6, z7, rfl⟩, hA⟩
    rw [zipD_ps, List.length_map, List.take_length] at hA
    refine ws_ret (we_bl ?_)
    have := nsB_yes ((ns_iff ps).mpr ⟨hI, hA⟩)
    rw [this] at q
    exact q
/-! ### is it normal -/
theorem fold_lt {k : Nat} : ∀ (ps st : List Pc), Lt k st → (∀ p ∈ ps, PF k p) → (∀ p ∈ ps, ∀ c ∈ p.1, c ∈ abc) → Lt k (ps.foldl (step k) st)
  | [], st, h, _, _ => h
  | p :: ps, st, h, h1, h2 => fold_lt ps (step k st p) (lt_step h (h1 p List.mem_cons_self) (h2 p List.mem_cons_self)).1 (fun q hq => h1 q (List.mem_cons_of_mem _ hq)) fun q hq => h2 q (List.mem_cons_of_mem _ hq)
theorem norm_lt {k : Nat} {ps : List Pc} (h1 : ∀ p ∈ ps, PF k p) (h2 : ∀ p ∈ ps, ∀ c ∈ p.1, c ∈ abc) : Lt k (normR k ps) := fold_lt ps [] (fun q hq => by cases hq) h1 h2
theorem m_is_normal {K : PySem.W.Frag} : Ok K ["many", "value", "item"] T_is_normal (t_is_normal K) := by
  rintro ss m Q ⟨k, v, b, rfl, hk, hv, q⟩
  unfold t_is_normal
  refine ws_seq (ws_drop (we_call (wa_cons (we_var rfl (wa_nil ⟨k, rfl, by omega, by omega, ?_⟩)))))
  -- a list that is short
  have isl : ∀ {ds : List D}, ds.length ≤ 5000 → WT K [some (.val (.int k)), some (.val (.lst ds)), none] m (tOr (tNot (tB (tCB (rDN K RIsi) (tCons (tVar 1) (tCons (tC (.ty "list")) tNil))))) (tTest (tOp (rD2 K RGt) (tCB (rDN K RLen) (tCons (tVar 1) tNil)) (tC (.int 5000))))) fun x m1 => x = (false || false) ∧ m1 = m := fun {ds} hl =>
    wtO (wtN (a := true) (wt_val (we_cb (wa_cons (we_var rfl (wa_cons (we_ty (wa_nil ⟨[.lst ds, .ty "list"], _, rfl, isi_lst rfl, true, rfl, rfl, rfl⟩)))))))) fun _ =>
      wt_test (we_op (we_cb (wa_cons (we_var rfl (wa_nil ⟨[.lst ds], _, rfl, .lst _, we_int ⟨_, _, _, rfl, rfl, .int _ _, _, rfl, decide_eq_false (by omega), rfl⟩⟩)))))
  have pieces : ∀ {ds : List D}, ds.length ≤ 5000 → (∀ d ∈ ds, PcOk d ∧ Plain d) → WT K [some (.val (.int k)), some (.val (.lst ds)), none] m (tTest (tOp (rD2 K RNeR) (tLc (iD K (tVar 1)) (gName 2) (tNot (tB (tCall (SpD K T_is_piece) [] E0 (tCons (tVar 0) (tCons (tVar 2) tNil))))) (tVar 2) [2]) (tLst tNil))) fun x m1 => x = (!ds.all (pieceD k)) ∧ m1 = m := fun {ds} hl hd => by
    refine wt_test (we_op (we_lc (js := [2]) (by decide) (wi_D (we_var rfl ⟨false, ds, rfl, by omega, rfl, fun d => !pieceD k d, fun d => d, fun d hdm m' => ?_, ?_⟩))))
    · exact wg_name ((wtN (wt_val (we_call (wa_cons (we_var rfl (wa_cons (we_var rfl (wa_nil ⟨k, d, rfl, (hd d hdm).1, _, rfl, rfl, rfl⟩)))))))).imp fun x m2 ⟨h1, h2⟩ => ⟨h1, h2, fun _ => we_var rfl ⟨rfl, rfl⟩⟩)
    · refine we_lst (wa_nil ⟨[], rfl, by decide, _, _, _, rfl, rfl, .mk (reqL_nil fun d hd' => ?_), _, rfl, ?_, rfl⟩)
      · obtain ⟨e, he, rfl⟩ := List.mem_map.mp hd'
        exact (hd e (List.mem_filter.mp he).1).2
      · rw [all_empty]
  cases hv with
  | tup ds =>
    refine ws_seq (wsIf (b := true) (wt_or ?_) (fun _ => ws_ret (we_bl q)) (fun h => (by cases h)))
    refine (wtN (a := false) (wt_val (we_cb (wa_cons (we_var rfl (wa_cons (we_ty (wa_nil ⟨[.tup ds, .ty "list"], _, rfl, isi_lst rfl, false, rfl, rfl, rfl⟩)))))))).imp fun x m1 ⟨h1, h2⟩ => ?_
    subst h1 h2
    exact ⟨rfl, rfl⟩
  | bad hl hd hb =>
    rename_i ds
    refine ws_seq (wsIf (isl hl) (fun h => (by cases h)) fun _ => ws_next (ws_seq (wsIf (b := true) (wt_or ?_) (fun _ => ws_ret (we_bl q)) (fun h => (by cases h)))))
    refine (pieces hl hd).imp fun x m1 ⟨h1, h2⟩ => ?_
    subst h2
    have : (!(ds.all (pieceD k))) = true := by
      obtain ⟨d, hd1, hd2⟩ := hb
      rw [Bool.not_eq_true', List.all_eq_false]
      exact ⟨d, hd1, by rw [hd2]; exact Bool.false_ne_true⟩
    rw [h1, this]
    exact ⟨rfl, rfl⟩
  | big hl hg hme =>
    rename_i ps
    refine ws_seq (wsIf (isl (ds := ps.map pD) (by rw [List.length_map]; exact hl)) (fun h => (by cases h)) fun _ => ws_next (ws_seq (wsIf (b := true) ?_ (fun _ => ws_ret (we_bl q)) (fun h => (by cases h)))))
    refine WT.imp (Q := fun x m1 => x = (!(ps.map pD).all (pieceD k) || true) ∧ m1 = m) (wtO (pieces (ds := ps.map pD) (by rw [List.length_map]; exact hl) ?_) fun _ => wt_test (we_op (we_call (wa_cons (we_var rfl (wa_nil ⟨ps, rfl, by omega, fun p hp => (hg p hp).s hk, we_int ⟨_, _, _, rfl, rfl, .int _ _, _, rfl, decide_eq_true hme, rfl⟩⟩)))))) fun x m1 ⟨h1, h2⟩ => ⟨by rw [h1, Bool.or_true], h2⟩
    intro d hd
    obtain ⟨p, hp, rfl⟩ := List.mem_map.mp hd
    exact ⟨((hg p hp).pc hk).1, plain_pD (hg p hp).wd.2⟩
  | ok hl hg hme =>
    rename_i ps
    have ha : (ps.map pD).all (pieceD k) = true := by
      rw [List.all_eq_true]
      intro d hd
      obtain ⟨p, hp, rfl⟩ := List.mem_map.mp hd
      exact ((hg p hp).pc hk).2
    refine ws_seq (wsIf (isl (ds := ps.map pD) (by rw [List.length_map]; exact hl)) (fun h => (by cases h)) fun _ => ws_next (ws_seq (wsIf (b := false) ?_ (fun h => (by cases h)) fun _ => ?_)))
    · refine WT.imp (Q := fun x m1 => x = (!(ps.map pD).all (pieceD k) || false) ∧ m1 = m) (wtO (pieces (ds := ps.map pD) (by rw [List.length_map]; exact hl) ?_) (fun _ => wt_test (we_op (we_call (wa_cons (we_var rfl (wa_nil ⟨ps, rfl, by omega, fun p hp => (hg p hp).s hk, we_int ⟨_, _, _, rfl, rfl, .int _ _, _, rfl, decide_eq_false (by omega), rfl⟩⟩))))))) fun x m1 ⟨h1, h2⟩ => ⟨by rw [h1, ha]; rfl, h2⟩
      intro d hd
      obtain ⟨p, hp, rfl⟩ := List.mem_map.mp hd
      exact ⟨((hg p hp).pc hk).1, plain_pD (hg p hp).wd.2⟩
    refine ws_next (ws_ret (we_op (we_call (wa_cons (we_var rfl (wa_cons (we_var rfl (wa_nil ⟨k, ps, rfl, hk, hl, hg, by omega, we_cb (wa_cons (we_var rfl (wa_nil ⟨[psD ps], _, rfl, .lst _, ?_⟩)))⟩))))))))
    have hpf : ∀ p ∈ ps, PF k p := fun p hp => good_pf (hg p hp)
    refine ⟨_, _, _, rfl, rfl, .mk (reqT_ps (xs := (normR k ps).reverse) ?_ fun p hp => (hg p hp).wd.2), ?_⟩
    · intro p hp
      exact (norm_lt hpf (fun p hp => (hg p hp).wd.2) p (List.mem_reverse.mp hp)).1
    · have e : decide ((normR k ps).reverse = ps) = nsB k ps := by
        by_cases h : NS k ps.reverse
        · rw [decide_eq_true ((norm_iff hpf).mpr h), nsB_yes h]
        · rw [decide_eq_false fun z => h ((norm_iff hpf).mp z), nsB_no h]
      rw [e]
      exact q
end L12

namespace L12
open PySem PySem.Spec PyProof.Rows L2 Cr
local macro_rules | `(tactic| walk_at "w") => `(tactic| first
  | with_reducible refine ws_seq ?_ | with_reducible refine ws_asg ?_ | with_reducible refine ws_ret ?_ | with_reducible refine ws_retN ?_ | with_reducible refine ws_drop ?_ | with_reducible refine ws_if ?_
  | with_reducible refine ws_next ?_ | with_reducible refine ws_par ?_ | with_reducible refine ws_par3 ?_
  | with_reducible refine we_int ?_ | with_reducible refine we_str ?_ | with_reducible refine we_bl ?_ | with_reducible refine we_non ?_ | with_reducible refine we_op ?_ | with_reducible refine we_un ?_
  | with_reducible refine we_cb ?_ | with_reducible refine we_if ?_ | with_reducible refine we_tup ?_ | with_reducible refine we_call ?_ | with_reducible refine wa_cons ?_ | with_reducible refine wa_nil ?_
  | with_reducible refine wt_val ?_ | with_reducible refine wt_test ?_ | with_reducible refine wt_and ?_ | with_reducible refine wt_or ?_ | with_reducible refine wt_not ?_ | with_reducible refine wt_yes ?_
  | with_reducible refine we_andV ?_ | with_reducible refine we_orV ?_ | with_reducible refine we_notV ?_ | with_reducible refine we_chain ?_ | with_reducible refine we_slice ?_ | with_reducible refine wo_none ?_ | with_reducible refine wo_some ?_
  | with_reducible refine we_bits ?_ | refine we_var (by rfl) ?_)
local macro_rules | `(tactic| walk_at "i2") => `(tactic| refine ⟨_, _, _, rfl, rfl, .int _ _, ?_⟩)
local macro_rules | `(tactic| walk_at "in") => `(tactic| refine ⟨_, _, rfl, .int _, ?_⟩)
theorem bm {x : Int} (h : x ≤ 10 ^ 30) : x < bMax := Int.lt_of_le_of_lt h (by decide +kernel)
section
variable {K : PySem.W.Frag} {r : Ro} {m : Sto}
theorem we_rnd {i : Nat} {g : Addr} {b : Int} (n : Nat) {te : TE} {Q : Sv → Sto → Prop} (hi : r[i]? = some (some (.adr g))) (ht : WE K r m te fun s m1 => s = .val (.int b) ∧ m1 = m) (hG : GenI m g (n + 1)) (h0 : 0 < b) (h1 : b ≤ 10 ^ 30)
    (q : ∀ v m', 0 ≤ v → v < b → GenI m' g n → Fr m m' g → Q (.val (.int v)) m') : WE K r m (tCall (SpD K T_law_random) [] E0 (tCons (tVar i) (tCons te tNil))) Q :=
  we_call (wa_cons (we_var hi (wa_cons (ht.imp fun s m1 ⟨e1, e2⟩ => by
    subst e1 e2
    exact wa_nil ⟨g, b, n, rfl, hG, h0, bm h1, q⟩))))
theorem we_rndC {i : Nat} {g : Addr} {b : Int} (n : Nat) {Q : Sv → Sto → Prop} (hi : r[i]? = some (some (.adr g))) (hG : GenI m g (n + 1)) (h0 : 0 < b) (h1 : b ≤ 10 ^ 30)
    (q : ∀ v m', 0 ≤ v → v < b → GenI m' g n → Fr m m' g → Q (.val (.int v)) m') : WE K r m (tCall (SpD K T_law_random) [] E0 (tCons (tVar i) (tCons (tC (.int b)) tNil))) Q :=
  we_rnd n hi (we_int ⟨rfl, rfl⟩) hG h0 h1 q
theorem we_frm {a b c : Nat} {g : Addr} {k : Nat} {B : Int} (n : Nat) {Q : Sv → Sto → Prop} (ha : r[a]? = some (some (.adr g))) (hb : r[b]? = some (some (.val (.int k)))) (hc : r[c]? = some (some (.val (.int B)))) (hG : GenI m g (n + (k + 1))) (hk : k ≤ 1000) (h0 : 0 ≤ B) (h1 : B + 1 ≤ 10 ^ 30)
    (q : ∀ ns m', Row (k + 1) B ns → GenI m' g n → Fr m m' g → Q (.val (tI ns)) m') : WE K r m (tCall (SpD K T_law_form) [] E0 (tCons (tVar a) (tCons (tVar b) (tCons (tVar c) tNil)))) Q :=
  we_call (wa_cons (we_var ha (wa_cons (we_var hb (wa_cons (we_var hc (wa_nil ⟨g, k, n, B, rfl, hk, h0, bm h1, hG, q⟩)))))))
theorem we_eqI {i : Nat} {a b : Int} (hi : r[i]? = some (some (.val (.int a)))) : WT K r m (tTest (tOp (rD2 K REqR) (tVar i) (tC (.int b)))) fun x m1 => x = decide (a = b) ∧ m1 = m :=
  wt_test (we_op (we_var hi (we_int ⟨_, _, _, rfl, rfl, .mk (.int _ _), _, rfl, rfl, rfl⟩)))
theorem row_plain {k : Nat} {c : Int} (h0 : 0 ≤ c) (h3 : c ≤ 3) : Row (k + 1) 3 (c :: List.replicate k 0) := ⟨by simp, fun x hx => by
  rcases List.mem_cons.mp hx with h | h
  · rw [h]; exact ⟨h0, h3⟩
  · rw [List.eq_of_mem_replicate h]; decide⟩
end
theorem m_law_piece {K : PySem.W.Frag} : Ok K ["generator", "many", "signs", "base", "most", "way", "turn", "turned"] T_law_piece (t_law_piece K) := by
  rintro ss m Q ⟨g, k, n, sgn, base, B, rfl, hk, hsl, hsa, hbn, hbl, hba, hB, hB3, hG, q⟩
  have hbpos : 0 < base.length := by
    cases base with
    | nil => exact absurd rfl hbn
    | cons a b => simp
  unfold t_law_piece
  refine ws_seq (ws_par (wa_cons (we_rndC (n + 19) rfl hG (by decide) (by decide) fun way m1 w0 w1 hG1 hF1 => wa_cons (we_rndC (n + 18) rfl hG1 (by decide) (by decide) fun turn m2 t0 t1 hG2 hF2 => wa_nil ⟨_, _, rfl, ?_⟩))))
  show WS K _ [some (.adr g), some (.val (.int k)), some (.val (dS sgn)), some (.val (dS base)), some (.val (.int B)), some (.val (.int way)), some (.val (.int turn)), none] m2 _ _
  -- turned
  have hF12 := hF1.trans hF2
  refine ws_seq (ws_asg ?_)
  refine we_slice (we_op (we_var rfl (we_var rfl ⟨_, _, _, rfl, rfl, radd_S (by show _ ≤ 100000; omega), wo_some ?_⟩)))
  refine we_op (we_cb (wa_cons (we_var rfl (wa_nil ⟨_, _, rfl, .int _, we_cb (wa_cons (we_var rfl (wa_nil ⟨_, _, rfl, rlen_S (by show _ ≤ 100000; omega), _, _, _, rfl, rfl, .int (by omega), _, rfl, wo_some ?_⟩)))⟩))))
  refine we_op (we_op (we_cb (wa_cons (we_var rfl (wa_nil ⟨_, _, rfl, .int _, we_cb (wa_cons (we_var rfl (wa_nil ⟨_, _, rfl, rlen_S (by show _ ≤ 100000; omega), _, _, _, rfl, rfl, .int (by omega), we_cb (wa_cons (we_var rfl (wa_nil ⟨_, _, rfl, rlen_S (by show _ ≤ 100000; omega), _, _, _, rfl, rfl, .int _ _, _, rfl, ?_⟩)))⟩)))⟩)))))
  refine ⟨_, _, rfl, rsl_S (by rw [List.length_append]; show _ ≤ 100000; omega) _ _, ?_⟩
  generalize htd : cutL (base ++ base) _ _ = td
  have tdl : td.length ≤ 6 := by
    rw [← htd]
    have := cutL_len (base ++ base) (some (turn % (base.length : Int))) (some (turn % (base.length : Int) + (base.length : Int)))
    rw [List.length_append] at this
    omega
  have tda : ∀ c ∈ td, c ∈ abc := fun c hc => by
    rw [← htd] at hc
    rcases List.mem_append.mp (cutL_sub _ _ _ c hc) with h | h <;> exact hba c h
  show WS K _ [some (.adr g), some (.val (.int k)), some (.val (dS sgn)), some (.val (dS base)), some (.val (.int B)), some (.val (.int way)), some (.val (.int turn)), some (.val (dS td))] m2 _ _
  have fin : ∀ (p : Pc) (m3 : Sto), SmP k p → GenI m3 g n → Fr m2 m3 g → Q (.val (.tup [dS p.1, tI p.2])) m3 := fun p m3 h1 h2 h3 => q p m3 h1 h2 (hF12.trans h3)
  have two : ∀ a b : D, [Sv.val a, Sv.val b] = [a, b].map Sv.val := fun a b => rfl
  -- 0
  refine ws_seq (wsIf (we_eqI rfl) (fun _ => ?_) fun h0 => ?_)
  · refine ws_ret (we_tup (wa_cons (we_call (wa_cons (we_var rfl (wa_cons (we_var rfl (wa_cons (we_int (wa_cons (we_int (wa_nil ⟨g, sgn, 0, 4, n + 1, rfl, (fun e => by rw [e] at hsl; cases hsl), by omega, by decide, by decide, hG2.mono (by omega), fun w m3 l0 l1 hw hG3 hF3 => ?_⟩))))))))))))
    refine wa_cons (we_call (wa_cons (we_var rfl (wa_cons (we_rndC n rfl hG3 (by decide) (by decide) fun v m4 v0 v1 hG4 hF4 => wa_nil ⟨k, v, rfl, hk, wa_nil ⟨[dS w, _], rfl, by show (2 : Nat) ≤ 100000; decide, ?_⟩⟩)))))
    exact fin (w, v :: List.replicate k 0) m4 ⟨by show w.length ≤ 24; omega, fun c hc => hsa c (hw c hc), row_plain v0 (by omega)⟩ hG4 (hF3.trans hF4)
  walk_at "w"
  -- 1
  have frm : ∀ {m3 : Sto} {w : List Nat}, w.length ≤ 24 → (∀ c ∈ w, c ∈ abc) → GenI m3 g (n + (k + 1)) → Fr m2 m3 g →
      WA K [some (.adr g), some (.val (.int k)), some (.val (dS sgn)), some (.val (dS base)), some (.val (.int B)), some (.val (.int way)), some (.val (.int turn)), some (.val (dS td))] m3 (tCons (tCall (SpD K T_law_form) [] E0 (tCons (tVar 0) (tCons (tVar 1) (tCons (tVar 4) tNil)))) tNil) fun ss m1 => ∃ ds : List D, Sv.val (dS w) :: ss = ds.map Sv.val ∧ ds.length ≤ 100000 ∧ Q (.val (.tup ds)) m1 := fun {m3 w} h1 h2 h3 h4 =>
    wa_cons (we_frm n rfl rfl rfl h3 (by omega) (by omega) (by omega) fun ns m4 hr hG4 hF4 => wa_nil ⟨[dS w, tI ns], rfl, by show (2 : Nat) ≤ 100000; decide, fin (w, ns) m4 ⟨h1, h2, hr.mono hB3⟩ hG4 (h4.trans hF4)⟩)
  have pl1 : ∀ {m3 : Sto} {w : List Nat}, w.length ≤ 24 → (∀ c ∈ w, c ∈ abc) → GenI m3 g n → Fr m2 m3 g →
      WA K [some (.adr g), some (.val (.int k)), some (.val (dS sgn)), some (.val (dS base)), some (.val (.int B)), some (.val (.int way)), some (.val (.int turn)), some (.val (dS td))] m3 (tCons (tCall (SpD K T_law_plain) [] E0 (tCons (tVar 1) (tCons (tC (.int 1)) tNil))) tNil) fun ss m1 => ∃ ds : List D, Sv.val (dS w) :: ss = ds.map Sv.val ∧ ds.length ≤ 100000 ∧ Q (.val (.tup ds)) m1 := fun {m3 w} h1 h2 h3 h4 =>
    wa_cons (we_call (wa_cons (we_var rfl (wa_cons (we_int (wa_nil ⟨k, 1, rfl, hk, wa_nil ⟨[dS w, _], rfl, by show (2 : Nat) ≤ 100000; decide, fin (w, 1 :: List.replicate k 0) m3 ⟨h1, h2, row_plain (by decide) (by decide)⟩ h3 h4⟩⟩))))))
  refine ws_seq (wsIf (we_eqI rfl) (fun _ => ?_) fun h1 => ?_)
  · refine ws_ret (we_tup (wa_cons (we_op (we_var rfl (we_op (we_int (we_cb (wa_cons (we_op (we_var rfl (we_int ⟨_, _, _, rfl, rfl, .mk (.int _ _), wa_nil ⟨_, _, rfl, .bl _, _, _, _, rfl, rfl, .int _ _, ?_⟩⟩)))))))))))
    have hj : ∀ x : Bool, (1 : Int) + (if x then 1 else 0) = 1 ∨ (1 : Int) + (if x then 1 else 0) = 2 := fun x => by cases x <;> simp
    generalize hjj : (1 : Int) + (if decide (turn = 3) = true then 1 else 0) = j
    have hj12 : j = 1 ∨ j = 2 := by rw [← hjj]; exact hj _
    have htl : td.length * j.toNat ≤ 12 := by rcases hj12 with h | h <;> rw [h] <;> simp <;> omega
    refine ⟨_, _, _, rfl, rfl, rmul_S (by omega) (by omega) (by show _ ≤ 100000; omega), ?_⟩
    refine frm (by rw [rep_len, Nat.mul_comm]; omega) (fun c hc => tda c (rep_mem hc)) (hG2.mono (by omega)) Fr.refl
  walk_at "w"
  -- 2
  refine ws_seq (wsIf (we_eqI rfl) (fun _ => ?_) fun h2 => ?_)
  · refine ws_ret (we_tup (wa_cons (we_slice (we_op (we_var rfl (we_int ⟨_, _, _, rfl, rfl, rmul_S (by decide) (by decide) (by show td.length * 4 ≤ 100000; omega), wo_none (wo_some ?_)⟩))))))
    refine we_rnd (b := 2 * (base.length : Int) + 2) (n + 10) rfl ?_ (hG2.mono (by omega)) (by omega) (by omega) fun v m3 v0 v1 hG3 hF3 => ⟨v, rfl, _, _, rfl, rsl_S (by rw [rep_len]; show 4 * td.length ≤ 100000; omega) _ _, ?_⟩
    · exact we_op (we_op (we_int (we_cb (wa_cons (we_var rfl (wa_nil ⟨_, _, rfl, rlen_S (by show _ ≤ 100000; omega), _, _, _, rfl, rfl, .int (mulOk (B := 2) (C := 100000) (by decide) (by omega) (by decide +kernel)), we_int ⟨_, _, _, rfl, rfl, .int _ _, rfl, rfl⟩⟩))))))
    · refine pl1 ?_ (fun c hc => tda c (rep_mem (cutL_sub _ _ _ c hc))) (hG3.mono (by omega)) hF3
      refine Nat.le_trans (cutL_len _ _ _) ?_
      rw [rep_len]
      show 4 * td.length ≤ 24
      omega
  walk_at "w"
  -- 3
  refine ws_seq (wsIf (we_eqI rfl) (fun _ => ?_) fun h3 => ?_)
  · refine ws_ret (we_tup (wa_cons (we_slice (we_var rfl (wo_some (we_op (we_cb (wa_cons (we_var rfl (wa_nil ⟨_, _, rfl, rlen_S (by show _ ≤ 100000; omega), we_int ⟨_, _, _, rfl, rfl, .int _ _, _, rfl, wo_none ⟨_, _, rfl, rsl_S (by show _ ≤ 100000; omega) _ _, ?_⟩⟩⟩))))))))))
    exact pl1 (Nat.le_trans (cutL_len _ _ _) (by omega)) (fun c hc => hba c (cutL_sub _ _ _ c hc)) (hG2.mono (by omega)) Fr.refl
  walk_at "w"
  -- 4
  refine ws_seq (wsIf (we_eqI rfl) (fun _ => ?_) fun h4 => ?_)
  · refine ws_ret (we_tup (wa_cons (we_var rfl (wa_cons (we_op (we_tup (wa_cons (we_int (wa_nil ⟨[.int 0], rfl, by show (1 : Nat) ≤ 100000; decide, we_slice (we_frm n rfl rfl rfl (hG2.mono (by omega)) (by omega) (by omega) (by omega) fun ns m3 hr hG3 hF3 => wo_some (we_int ⟨1, rfl, wo_none ⟨_, _, rfl, .tup _ _ _, ?_⟩⟩))⟩)))))))))
    rw [cut_tail, ← List.map_tail]
    refine ⟨_, _, _, rfl, rfl, .tup ?_, wa_nil ⟨[dS base, tI (0 :: ns.tail)], rfl, by show (2 : Nat) ≤ 100000; decide, fin (base, 0 :: ns.tail) m3 ⟨by show base.length ≤ 24; omega, hba, ?_⟩ hG3 hF3⟩⟩
    · rw [List.length_map, List.length_tail, hr.1]
      show 1 + (k + 1 - 1) ≤ 100000
      omega
    · refine ⟨by rw [List.length_cons, List.length_tail, hr.1]; rfl, fun x hx => ?_⟩
      rcases List.mem_cons.mp hx with h | h
      · rw [h]; decide
      · have := hr.2 x (List.mem_of_mem_tail h)
        exact ⟨this.1, by omega⟩
  walk_at "w"
  -- 5
  refine ws_seq (wsIf (we_eqI rfl) (fun _ => ?_) fun h5 => ?_)
  · refine ws_ret (we_tup (wa_cons (we_op (we_var rfl (we_rndC (n + 10) rfl (hG2.mono (by omega)) (by decide) (by decide) fun v m3 v0 v1 hG3 hF3 => ?_)))))
    obtain ⟨j, rfl⟩ := Int.eq_ofNat_of_zero_le v0
    have hj : j < sgn.length := by omega
    refine ⟨_, _, _, rfl, rfl, rix_S (by show _ ≤ 100000; omega) (atI_natV hj), ?_⟩
    refine frm (by simp) (fun c hc => ?_) (hG3.mono (by omega)) hF3
    rw [List.mem_singleton.mp hc]
    exact hsa _ (List.getElem_mem hj)
  walk_at "w"
  -- 6
  refine ws_ret (we_tup (wa_cons (we_call (wa_cons (we_var rfl (wa_cons (we_slice (we_var rfl (wo_none (wo_some (we_int ⟨2, rfl, _, _, rfl, rsl_S (by show _ ≤ 100000; omega) _ _, wa_cons (we_int (wa_cons (we_int (wa_nil ⟨g, cutL sgn none (some 2), 1, 3, n + 10, rfl, ?_, ?_, by decide, by decide, hG2.mono (by omega), fun w m3 l0 l1 hw hG3 hF3 => ?_⟩))))⟩)))))))))))
  · intro e
    obtain ⟨a, b, c, rfl⟩ : ∃ a b c, sgn = [a, b, c] := by
      match sgn, hsl with
      | [a, b, c], _ => exact ⟨a, b, c, rfl⟩
    cases e
  · exact Nat.le_trans (cutL_len _ _ _) (by omega)
  · exact frm (by omega) (fun c hc => hsa c (cutL_sub _ _ _ c (hw c hc))) (hG3.mono (by omega)) hF3
theorem m_law_raw {K : PySem.W.Frag} : Ok K ["generator", "many", "signs", "count", "most", "found", "base", "turn"] T_law_raw (t_law_raw K) := by
  rintro ss m Q ⟨g, k, n, c, sgn, B, rfl, hk, hsl, hsa, hc, hB, hB3, hG, q⟩
  have hsn : sgn ≠ [] := fun e => by rw [e] at hsl; cases hsl
  unfold t_law_raw
  refine ws_seq (ws_par (wa_cons (we_lstO (wa_nil ⟨[], rfl, by decide, fun p hp => ?_⟩))))
  have gp := hG.ne hp
  refine wa_cons (we_call (wa_cons (we_var rfl (wa_cons (we_slice (we_var rfl (wo_none (wo_some (we_op (we_int (we_rndC (n + 399) rfl (hG.other gp) (by decide) (by decide) fun v m1 v0 v1 hG1 hF1 => ⟨_, _, _, rfl, rfl, .int _ _, _, rfl, _, _, rfl, rsl_S (by show _ ≤ 100000; omega) _ _, ?_⟩)))))))))))
  refine wa_cons (we_int (wa_cons (we_int (wa_nil ⟨g, cutL sgn none (some (2 + v)), 1, 3, n + 300, rfl, ?_, ?_, by decide, by decide, hG1.mono (by omega), fun w m2 l0 l1 hw hG2 hF2 => wa_nil ⟨_, _, rfl, ?_⟩⟩))))
  · intro e
    obtain ⟨a, b, c, rfl⟩ : ∃ a b c, sgn = [a, b, c] := by
      match sgn, hsl with
      | [a, b, c], _ => exact ⟨a, b, c, rfl⟩
    rcases (show v = 0 ∨ v = 1 by omega) with h | h <;> rw [h] at e <;> cases e
  · exact Nat.le_trans (cutL_len _ _ _) (by omega)
  show WS K _ [some (.adr g), some (.val (.int k)), some (.val (dS sgn)), some (.val (.int c)), some (.val (.int B)), some (.adr p), some (.val (dS w)), none] m2 _ _
  have hF02 : ∀ q, q ≠ g → q ≠ p → m2 q = m q := fun q h1 h2 => by rw [hF2 q h1, hF1 q h1, stS_ne h2]
  have hm2p : m2 p = some [] := by rw [hF2 p gp.symm, hF1 p gp.symm, stS_same]
  refine ws_seq (ws_for [7] (wi_rng1 (wa_cons (we_var rfl (wa_nil ⟨_, rfl, by omega, by omega, fun i r' m' => ∃ (ps : List Pc) (base : List Nat) (z7 : Option Sv), r' = [some (.adr g), some (.val (.int k)), some (.val (dS sgn)), some (.val (.int c)), some (.val (.int B)), some (.adr p), some (.val (dS base)), z7] ∧
    m' p = some (ps.map pD) ∧ ps.length = i ∧ (∀ x ∈ ps, SmP k x) ∧ base ≠ [] ∧ base.length ≤ 3 ∧ (∀ x ∈ base, x ∈ abc) ∧ GenI m' g (n + 30 * (c - i)) ∧ ∀ q, q ≠ g → q ≠ p → m' q = m q, ?_, ?_, ?_⟩)))))
  · exact ⟨[], w, none, rfl, hm2p, rfl, fun x hx => (by cases hx), fun e => (by rw [e] at l0; cases l0), l1, fun x hx => hsa x (cutL_sub _ _ _ x (hw x hx)), hG2.mono (by omega), hF02⟩
  · rintro i d r' m' hd ⟨ps, base, z7, rfl, hmp, hpl, hps, hbn, hbl, hba, hGi, hFi⟩
    have hi := (List.getElem?_eq_some_iff.mp hd).1
    rw [rng_len] at hi
    have hic : i < c := by omega
    have e3 : n + 30 * (c - i) = (n + 30 * (c - (i + 1))) + 30 := by omega
    rw [e3] at hGi
    generalize hn' : n + 30 * (c - (i + 1)) = n' at *
    refine wg_name ?_
    refine ws_seq (ws_app (we_var rfl ⟨p, _, rfl, hmp, we_call (wa_cons (we_var rfl (wa_cons (we_var rfl (wa_cons (we_var rfl (wa_cons (we_var rfl (wa_cons (we_var rfl (wa_nil ⟨g, k, n' + 10, sgn, base, B, rfl, hk, hsl, hsa, hbn, hbl, hba, hB, hB3, hGi, fun x m3 hx hG3 hF3 => ⟨pD x, ps.map pD, rfl, by rw [hF3 p gp.symm]; exact hmp, by rw [List.length_map]; omega, ?_⟩⟩)))))))))))⟩))
    have e4 : ps.map pD ++ [pD x] = (ps ++ [x]).map pD := by rw [List.map_append]; rfl
    rw [e4]
    have all : ∀ y ∈ ps ++ [x], SmP k y := fun y hy => by
      rcases List.mem_append.mp hy with h | h
      · exact hps y h
      · rw [List.mem_singleton.mp h]; exact hx
    have hlen : (ps ++ [x]).length = i + 1 := by rw [List.length_append, hpl]; rfl
    have hF3' : ∀ q, q ≠ g → q ≠ p → (stS m3 p ((ps ++ [x]).map pD)) q = m q := fun q h1 h2 => by rw [stS_ne h2, hF3 q h1, hFi q h1 h2]
    refine ws_if (wt_test (we_op (we_rndC (n' + 9) rfl (hG3.other gp) (by decide) (by decide) fun v m4 v0 v1 hG4 hF4 => we_int ⟨_, _, _, rfl, rfl, .mk (.int _ _), _, rfl, ite_b (fun _ => ?_) fun _ => ?_⟩)))
    · refine ws_asg (we_call (wa_cons (we_var rfl (wa_cons (we_var rfl (wa_cons (we_int (wa_cons (we_int (wa_nil ⟨g, sgn, 1, 3, n', rfl, hsn, by omega, by decide, by decide, hG4.mono (by omega), fun w2 m5 a0 a1 hw2 hG5 hF5 => ?_⟩))))))))))
      refine ⟨ps ++ [x], w2, _, rfl, by rw [hF5 p gp.symm, hF4 p gp.symm, stS_same], hlen, all, fun e => (by rw [e] at a0; cases a0), a1, fun z hz => hsa z (hw2 z hz), hn' ▸ hG5, fun q h1 h2 => by rw [hF5 q h1, hF4 q h1, hF3' q h1 h2]⟩
    · refine ws_next ⟨ps ++ [x], base, _, rfl, by rw [hF4 p gp.symm, stS_same], hlen, all, hbn, hbl, hba, hG4.mono (by omega), fun q h1 h2 => by rw [hF4 q h1, hF3' q h1 h2]⟩
  · rintro r' m' ⟨ps, base, z7, rfl, hmp, hpl, hps, _, _, _, hGi, hFi⟩
    rw [rng_len] at hpl hGi
    refine ws_frz (p := p) hmp (dom_none.mpr hp) (ws_ret (we_var (s := .val (psD ps)) ?_ ?_))
    · show some (frzS p (ps.map pD) (some (.adr p))) = _
      show some (if p = p then some (Sv.val (.lst (ps.map pD))) else some (.adr p)) = _
      rw [if_pos rfl]
    · refine q ps _ (by omega) hps ((hGi.mono (by omega)).del gp) fun q hq => ?_
      unfold stD
      by_cases h : q = p
      · rw [if_pos h, h, hp]
      · rw [if_neg h, hFi q hq h]
end L12

namespace L12
open PySem PySem.Spec PyProof.Rows L2 Cr
local macro_rules | `(tactic| walk_at "w") => `(tactic| first
  | with_reducible refine ws_seq ?_ | with_reducible refine ws_asg ?_ | with_reducible refine ws_ret ?_ | with_reducible refine ws_retN ?_ | with_reducible refine ws_drop ?_ | with_reducible refine ws_if ?_
  | with_reducible refine ws_next ?_ | with_reducible refine ws_par ?_ | with_reducible refine ws_par3 ?_
  | with_reducible refine we_int ?_ | with_reducible refine we_str ?_ | with_reducible refine we_bl ?_ | with_reducible refine we_non ?_ | with_reducible refine we_op ?_ | with_reducible refine we_un ?_
  | with_reducible refine we_cb ?_ | with_reducible refine we_if ?_ | with_reducible refine we_tup ?_ | with_reducible refine we_call ?_ | with_reducible refine wa_cons ?_ | with_reducible refine wa_nil ?_
  | with_reducible refine wt_val ?_ | with_reducible refine wt_test ?_ | with_reducible refine wt_and ?_ | with_reducible refine wt_or ?_ | with_reducible refine wt_not ?_ | with_reducible refine wt_yes ?_
  | with_reducible refine we_andV ?_ | with_reducible refine we_orV ?_ | with_reducible refine we_notV ?_ | with_reducible refine we_chain ?_ | with_reducible refine we_slice ?_ | with_reducible refine wo_none ?_ | with_reducible refine wo_some ?_
  | with_reducible refine we_bits ?_ | refine we_var (by rfl) ?_)
local macro_rules | `(tactic| walk_at "i2") => `(tactic| refine ⟨_, _, _, rfl, rfl, .int _ _, ?_⟩)
local macro_rules | `(tactic| walk_at "in") => `(tactic| refine ⟨_, _, rfl, .int _, ?_⟩)
/-! ### what is told, plain -/
theorem smP_good {k : Nat} {p : Pc} (h : SmP k p) : Good k p := ⟨⟨by have := h.1; omega, h.2.1⟩, 3, h.2.2, by decide +kernel⟩
theorem zw_le : ∀ {f t : List Int} {n : Nat}, f.length = n → (∀ x ∈ f, 0 ≤ x ∧ x ≤ 3) → (∀ x ∈ t, 0 ≤ x ∧ x ≤ 3) → (List.zipWith (· * ·) f t).sum ≤ 9 * (n : Int)
  | [], t, n, _, _, _ => by simp; omega
  | a :: f, [], n, _, _, _ => by simp; omega
  | a :: f, b :: t, n, hn, hf, ht => by
    have ih := zw_le (f := f) (t := t) rfl (fun x hx => hf x (List.mem_cons_of_mem _ hx)) fun x hx => ht x (List.mem_cons_of_mem _ hx)
    obtain ⟨a0, a1⟩ := hf a List.mem_cons_self
    obtain ⟨b0, b1⟩ := ht b List.mem_cons_self
    rw [List.zipWith_cons_cons, List.sum_cons]
    have h1 : a * b ≤ 3 * b := Int.mul_le_mul_of_nonneg_right a1 b0
    have h2 : n = f.length + 1 := by rw [← hn]; rfl
    omega
theorem val_sm {k : Nat} {f t : List Int} (hk : k ≤ 3) (hf : Row (k + 1) 3 f) (ht : Row k 3 t) : valI f t ≤ 30 := by
  unfold valI
  cases f with
  | nil => simp
  | cons c cs =>
    have h1 := hf.2 c List.mem_cons_self
    have h2 := zw_le (f := cs) (t := t) (n := k) (by simpa using hf.1) (fun x hx => hf.2 x (List.mem_cons_of_mem _ hx)) ht.2
    show c + (List.zipWith (· * ·) cs t).sum ≤ 30
    omega
theorem wrI_cons (p : Pc) (ps : List Pc) (t : List Int) : wrI (p :: ps) t = Wm.rep (valI p.2 t).toNat p.1 ++ wrI ps t := rfl
theorem wrI_len {k : Nat} {t : List Int} (hk : k ≤ 3) (ht : Row k 3 t) : ∀ {ps : List Pc}, (∀ p ∈ ps, SmP k p) → (wrI ps t).length ≤ 720 * ps.length
  | [], _ => Nat.zero_le _
  | p :: ps, h => by
    have ih := wrI_len hk ht (ps := ps) fun q hq => h q (List.mem_cons_of_mem _ hq)
    obtain ⟨h1, h2, h3⟩ := h p List.mem_cons_self
    rw [wrI_cons, List.length_append, Wm.rep_len, List.length_cons]
    have h4 := val_sm hk h3 ht
    have h5 : (valI p.2 t).toNat ≤ 30 := by omega
    have h6 := Nat.mul_le_mul h5 h1
    omega
theorem meas_len {k : Nat} : ∀ {ps : List Pc}, (∀ p ∈ ps, SmP k p) → measI ps ≤ 96 * (ps.length : Int)
  | [], _ => by show (0 : Int) ≤ _; omega
  | p :: ps, h => by
    have ih := meas_len (ps := ps) fun q hq => h q (List.mem_cons_of_mem _ hq)
    obtain ⟨h1, h2, h3⟩ := h p List.mem_cons_self
    have e : measI (p :: ps) = measP p + measI ps := by unfold measI; rw [List.map_cons, List.sum_cons]
    rw [e, List.length_cons]
    have h4 : measP p ≤ 96 := by
      unfold measP
      have h5 : p.2.headD 0 + (if openB p.2 = true then 1 else 0) ≤ 4 := by
        have h6 : p.2.headD 0 ≤ 3 := by
          cases e2 : p.2 with
          | nil => decide
          | cons a b =>
            rw [e2] at h3
            exact (h3.2 a List.mem_cons_self).2
        split <;> omega
      have h7 : (p.1.length : Int) * (p.2.headD 0 + (if openB p.2 = true then 1 else 0)) ≤ (p.1.length : Int) * 4 := Int.mul_le_mul_of_nonneg_left h5 (by omega)
      omega
    omega
theorem wrI_rev (t : List Int) : ∀ rs : List Pc, wrI rs.reverse t = wrR t rs
  | [] => rfl
  | p :: rs => by
    show _ = wrR t rs ++ Wm.rep (valI p.2 t).toNat p.1
    rw [← wrI_rev t rs, List.reverse_cons]
    unfold wrI
    rw [List.map_append, List.flatten_append]
    simp
theorem measI_rev (rs : List Pc) : measI rs.reverse = meR rs := by
  unfold measI meR
  rw [List.map_reverse]
  induction rs with
  | nil => rfl
  | cons p r ih => rw [List.map_cons, List.reverse_cons, List.sum_append, ih, List.sum_cons]; simp; omega
theorem pn_me {k : Nat} {p : Pc} (h : PN k p) : measP p = p.1.length := by
  obtain ⟨_, _, _, h | ⟨_, h2, h3⟩⟩ := h
  · have := me_fx k p.1
    rw [← h] at this
    exact this
  · exact me_pow (w := p.1) (f := p.2) h2 h3
theorem ns_pn {k : Nat} : ∀ {rs : List Pc}, NS k rs → ∀ p ∈ rs, PN k p
  | [], _, p, hp => by cases hp
  | q :: rs, h, p, hp => by
    rcases List.mem_cons.mp hp with e | e
    · rw [e]; exact h.1
    · exact ns_pn h.2.2 p e
theorem pn_pos {k : Nat} {p : Pc} (h : PN k p) : 0 < p.1.length := by
  cases e : p.1 with
  | nil => exact absurd e h.1
  | cons a b => simp
theorem ns_len {k : Nat} : ∀ {rs : List Pc}, NS k rs → (rs.length : Int) ≤ meR rs ∧ ∀ p ∈ rs, (p.1.length : Int) ≤ meR rs
  | [], _ => ⟨by show (0 : Int) ≤ 0; decide, fun p hp => by cases hp⟩
  | q :: rs, h => by
    obtain ⟨i1, i2⟩ := ns_len h.2.2
    have h1 := pn_me h.1
    have h2 := pn_pos h.1
    rw [meR_cons, h1]
    refine ⟨by rw [List.length_cons]; omega, fun p hp => ?_⟩
    rcases List.mem_cons.mp hp with e | e
    · rw [e]; omega
    · have := i2 p e; omega
theorem wr_mem {t : List Int} : ∀ {rs : List Pc} {p : Pc}, p ∈ rs → p.1.length * (valI p.2 t).toNat ≤ (wrR t rs).length
  | [], p, hp => by cases hp
  | q :: rs, p, hp => by
    show _ ≤ (wrR t rs ++ Wm.rep (valI q.2 t).toNat q.1).length
    rw [List.length_append, Wm.rep_len]
    rcases List.mem_cons.mp hp with e | e
    · rw [e, Nat.mul_comm]; omega
    · have := wr_mem (t := t) e; omega
theorem zw_ones : ∀ {f : List Int} {n : Nat}, f.length = n → (List.zipWith (· * ·) f (List.replicate n (1 : Int))).sum = f.sum
  | [], n, _ => by simp
  | a :: f, 0, h => by cases h
  | a :: f, n + 1, h => by rw [List.replicate_succ, List.zipWith_cons_cons, List.sum_cons, zw_ones (f := f) (by simpa using h), List.sum_cons, Int.mul_one]
theorem mem_le_sum : ∀ {f : List Int}, (∀ x ∈ f, 0 ≤ x) → ∀ x ∈ f, x ≤ f.sum
  | [], _, x, hx => by cases hx
  | a :: f, h, x, hx => by
    have h1 := h a List.mem_cons_self
    have h2 := sum_nonneg (f := f) fun x hx => h x (List.mem_cons_of_mem _ hx)
    rw [List.sum_cons]
    rcases List.mem_cons.mp hx with e | e
    · rw [e]; omega
    · have := mem_le_sum (f := f) (fun x hx => h x (List.mem_cons_of_mem _ hx)) x e
      omega
structure Told (k : Nat) (ps td : List Pc) : Prop where
  ns : NS k td.reverse
  len : td.length ≤ 700
  good : ∀ p ∈ td, Good k p
  meas : measI td ≤ measI ps ∧ measI td ≤ 700
  wr : ∀ t, (∀ x ∈ t, 0 ≤ x) → wrI td t = wrI ps t
  wl : ∀ t, Row k 3 t → (wrI td t).length ≤ 5040 ∧ ∀ p ∈ td, p.1 ≠ [] → valI p.2 t ≤ 1000000 ∧ p.1.length * (valI p.2 t).toNat ≤ 100000
  fix : normR k td = td.reverse
theorem told_of {k : Nat} {ps : List Pc} (hk : k ≤ 3) (hl : ps.length ≤ 7) (hps : ∀ p ∈ ps, SmP k p) : Told k ps (normR k ps).reverse := by
  have hpf : ∀ p ∈ ps, PF k p := fun p hp => good_pf (smP_good (hps p hp))
  obtain ⟨h1, h2, h3⟩ := fold_all ps [] trivial hpf
  have h1' : NS k (normR k ps) := h1
  have hm := meas_len hps
  have h2' : meR (normR k ps) ≤ measI ps := by
    have : meR (normR k ps) ≤ 0 + measI ps := h2
    omega
  have h3' : ∀ t, Nn t → wrR t (normR k ps) = wrI ps t := fun t ht => by
    have : wrR t (normR k ps) = [] ++ wrI ps t := h3 t ht
    rw [List.nil_append] at this
    exact this
  obtain ⟨l1, l2⟩ := ns_len h1'
  have hlt := norm_lt hpf fun p hp => (hps p hp).2.1
  have wlen : ∀ t, Row k 3 t → (wrR t (normR k ps)).length ≤ 5040 := fun t ht => by
    rw [h3' t fun x hx => (ht.2 x hx).1]
    have := wrI_len hk ht hps
    omega
  refine ⟨by rw [List.reverse_reverse]; exact h1', by rw [List.length_reverse]; omega, fun p hp => ?_, ⟨by rw [measI_rev]; exact h2', by rw [measI_rev]; omega⟩, fun t ht => by rw [wrI_rev]; exact h3' t ht, fun t ht => ⟨by rw [wrI_rev]; exact wlen t ht, fun p hp hne => ?_⟩, ?_⟩
  · have hp' := List.mem_reverse.mp hp
    have pn := ns_pn h1' p hp'
    have pos := pn_pos pn
    have hones : Row k 3 (List.replicate k (1 : Int)) := ⟨by simp, fun x hx => by rw [List.eq_of_mem_replicate hx]; decide⟩
    have w1 := wlen _ hones
    have w2 := wr_mem (t := List.replicate k (1 : Int)) hp'
    refine ⟨⟨by have := l2 p hp'; omega, (hlt p hp').1⟩, 5040, ⟨pn.2.1, fun x hx => ⟨pn.2.2.1 x hx, ?_⟩⟩, by decide +kernel⟩
    have e : valI p.2 (List.replicate k 1) = p.2.sum := by
      unfold valI
      rw [zw_ones (by rw [List.length_tail, pn.2.1]; rfl)]
      exact sum_split.symm
    rw [e] at w2
    have s := mem_le_sum pn.2.2.1 x hx
    have : (p.2.sum).toNat ≤ p.1.length * (p.2.sum).toNat := Nat.le_mul_of_pos_left _ pos
    omega
  · have w1 := wlen t ht
    have w2 := wr_mem (t := t) (List.mem_reverse.mp hp)
    have pos := pn_pos (ns_pn h1' p (List.mem_reverse.mp hp))
    have : (valI p.2 t).toNat ≤ p.1.length * (valI p.2 t).toNat := Nat.le_mul_of_pos_left _ pos
    omega
  · rw [List.reverse_reverse]
    exact fold_same _ h1'
theorem Told.yes {k : Nat} {ps td : List Pc} (h : Told k ps td) : nsB k td = true := nsB_yes h.ns
/-- a list with one more piece that is none of a normal list -/
theorem not_more {k : Nat} {td : List Pc} {p : Pc} (h : ¬ PN k p) : nsB k (td ++ [p]) = false := nsB_no fun z => h (((ns_iff _).mp z).1 p (by simp))
theorem measI_more {k : Nat} {td ps : List Pc} (h : Told k ps td) (p : Pc) (hp : measP p = 0) : measI (td ++ [p]) ≤ 2000 := by
  rw [measI_snoc, hp]
  have := h.meas.2
  omega
theorem isn_more {k : Nat} {ps td : List Pc} (h : Told k ps td) {p : Pc} (hg : Good k p) (hp : measP p = 0) (hn : ¬ PN k p) : IsN k (psD (td ++ [p])) false := by
  have := IsN.ok (k := k) (ps := td ++ [p]) (by rw [List.length_append, List.length_singleton]; have := h.len; omega) (fun q hq => by
    rcases List.mem_append.mp hq with e | e
    · exact h.good q e
    · rw [List.mem_singleton.mp e]; exact hg) (measI_more h p hp)
  rw [not_more hn] at this
  exact this
theorem isn_bad {k : Nat} {ps td : List Pc} (hk : k ≤ 3) (h : Told k ps td) {d : D} (h1 : PcOk d) (h2 : Plain d) (h3 : pieceD k d = false) : IsN k (.lst (td.map pD ++ [d])) false := by
  refine .bad (by rw [List.length_append, List.length_singleton, List.length_map]; have := h.len; omega) (fun e he => ?_) ⟨d, by simp, h3⟩
  rcases List.mem_append.mp he with q | q
  · obtain ⟨p, hp, rfl⟩ := List.mem_map.mp q
    exact ⟨((h.good p hp).pc hk).1, plain_pD (h.good p hp).wd.2⟩
  · rw [List.mem_singleton.mp q]
    exact ⟨h1, h2⟩
theorem fx_good (k : Nat) {w : List Nat} (h : Wd 2000 w) : Good k (w, fx k) := ⟨h, 1, ⟨(fx_row k).1, fun x hx => by
  rcases List.mem_cons.mp hx with e | e
  · rw [e]; decide
  · rw [List.eq_of_mem_replicate e]; decide⟩, by decide +kernel⟩
theorem isn_empty {k : Nat} {ps td : List Pc} (h : Told k ps td) : IsN k (psD (td ++ [([], fx k)])) false :=
  isn_more h (fx_good k ⟨Nat.zero_le _, fun c hc => by cases hc⟩) (me_fx k []) fun z => z.1 rfl
theorem isn_zero {k : Nat} {ps td : List Pc} {c : Nat} (h : Told k ps td) (hc : c ∈ abc) : IsN k (psD (td ++ [([c], List.replicate (k + 1) 0)])) false := by
  have h0 : ∀ n : Nat, (List.replicate n (0 : Int)).sum = 0 := fun n => by
    induction n with
    | zero => rfl
    | succ n ih => rw [List.replicate_succ, List.sum_cons, ih]; rfl
  refine isn_more h ⟨⟨by show 1 ≤ 2000; decide, fun x hx => by rw [List.mem_singleton.mp hx]; exact hc⟩, 0, ⟨by simp, fun x hx => by rw [List.eq_of_mem_replicate hx]; decide⟩, by decide +kernel⟩ ?_ ?_
  · show ((([c] : List Nat).length : Nat) : Int) * ((List.replicate (k + 1) (0 : Int)).headD 0 + (if openB (List.replicate (k + 1) 0) = true then 1 else 0)) = 0
    have : openB (List.replicate (k + 1) (0 : Int)) = false := by
      unfold openB
      rw [List.replicate_succ, List.tail_cons, h0]
      rfl
    rw [this, List.replicate_succ]
    rfl
  · rintro ⟨_, _, _, e | ⟨_, _, e⟩⟩
    · have := congrArg (fun f : List Int => f.headD 0) e
      simp only [List.replicate_succ, head_fx, List.headD_cons] at this
      cases this
    · simp only [List.replicate_succ, List.tail_cons] at e
      rw [h0] at e
      omega
/-- the unit power of the first unknown -/
def unF (k : Nat) : List Int := 0 :: 1 :: List.replicate (k - 1) 0
theorem prim_one (c : Nat) : Wm.Prim [c] := ⟨by simp, fun d d0 dl _ => by simp at dl; omega⟩
theorem rep1_last (c n : Nat) (h : 0 < n) : ((List.replicate n [c]).flatten).getLast? = some c := by
  obtain ⟨j, rfl⟩ : ∃ j, n = j + 1 := ⟨n - 1, by omega⟩
  rw [List.replicate_succ', List.flatten_append]
  simp
theorem long_facts {k a b c n : Nat} (hk : 1 ≤ k) (hk3 : k ≤ 3) (hab : a ≠ b) (ha : a ∈ abc) (hb : b ∈ abc) (hc : c ∈ abc) (hn : 0 < n) (hn2 : n ≤ 1000) :
    IsN k (psD [((List.replicate 1000 [a]).flatten, fx k), ([b], unF k), ((List.replicate n [c]).flatten, fx k)]) (decide (n ≤ 999)) := by
  have l1 : ((List.replicate 1000 [a]).flatten).length = 1000 := by rw [rep_len]; rfl
  have l3 : ((List.replicate n [c]).flatten).length = n := by rw [rep_len]; simp
  have m1 : ∀ x ∈ (List.replicate 1000 [a]).flatten, x ∈ abc := fun x hx => by rw [List.mem_singleton.mp (rep_mem hx)]; exact ha
  have m3 : ∀ x ∈ (List.replicate n [c]).flatten, x ∈ abc := fun x hx => by rw [List.mem_singleton.mp (rep_mem hx)]; exact hc
  have g1 := rep1_last a 1000 (by decide)
  generalize (List.replicate 1000 [a]).flatten = w1 at *
  generalize (List.replicate n [c]).flatten = w3 at *
  have uf : Row (k + 1) 1 (unF k) := ⟨by unfold unF; simp; omega, fun x hx => by
    unfold unF at hx
    rcases List.mem_cons.mp hx with e | hx
    · rw [e]; decide
    · rcases List.mem_cons.mp hx with e | e
      · rw [e]; decide
      · rw [List.eq_of_mem_replicate e]; decide⟩
  have us : 0 < (unF k).tail.sum := by
    show 0 < ((1 : Int) :: List.replicate (k - 1) 0).sum
    rw [List.sum_cons]
    have : ∀ n : Nat, (List.replicate n (0 : Int)).sum = 0 := fun n => by
      induction n with
      | zero => rfl
      | succ n ih => rw [List.replicate_succ, List.sum_cons, ih]; rfl
    rw [this]
    decide
  have un : unF k ≠ fx k := ne_fx rfl
  have hg : ∀ p ∈ [(w1, fx k), ([b], unF k), (w3, fx k)], Good k p := fun p hp => by
    rcases List.mem_cons.mp hp with e | hp
    · rw [e]; exact fx_good k ⟨by rw [l1]; decide, m1⟩
    · rcases List.mem_cons.mp hp with e | hp
      · rw [e]; exact ⟨⟨by show 1 ≤ 2000; decide, fun x hx => by rw [List.mem_singleton.mp hx]; exact hb⟩, 1, uf, by decide +kernel⟩
      · rw [List.mem_singleton.mp hp]; exact fx_good k ⟨by rw [l3]; omega, m3⟩
  have hm : measI [(w1, fx k), ([b], unF k), (w3, fx k)] = 1001 + n := by
    show measP (w1, fx k) + (measP ([b], unF k) + (measP (w3, fx k) + 0)) = _
    rw [me_fx, me_fx, me_pow rfl us, l1, l3]
    show (1000 : Int) + (1 + ((n : Int) + 0)) = _
    omega
  by_cases h : n ≤ 999
  · rw [decide_eq_true h]
    have ns : nsB k [(w1, fx k), ([b], unF k), (w3, fx k)] = true := nsB_yes ((ns_iff _).mpr ⟨fun p hp => ?_, fun x hx => ?_⟩)
    · have := IsN.ok (k := k) (ps := [(w1, fx k), ([b], unF k), (w3, fx k)]) (by show 3 ≤ 5000; decide) hg (by rw [hm]; omega)
      rw [ns] at this
      exact this
    · rcases List.mem_cons.mp hp with e | hp
      · rw [e]; exact pn_fx fun z => by rw [z] at l1; cases l1
      · rcases List.mem_cons.mp hp with e | hp
        · rw [e]; exact ⟨by simp, uf.1, fun x hx => (uf.2 x hx).1, .inr ⟨prim_one b, rfl, us⟩⟩
        · rw [List.mem_singleton.mp hp]; exact pn_fx fun z => by rw [z] at l3; simp at l3; omega
    · rcases List.mem_cons.mp hx with e | hx
      · rw [e]
        refine ⟨fun z => un z.2, fun z => absurd rfl z, fun _ z => ?_⟩
        rw [g1] at z
        injection z with z
        exact hab z
      · rw [List.mem_singleton.mp hx]
        exact ⟨fun z => un z.1, fun _ z => absurd rfl z, fun z => absurd z un⟩
  · rw [decide_eq_false h]
    exact .big (by show 3 ≤ 5000; decide) hg (by rw [hm]; omega)
end L12

namespace L12
open PySem PySem.Spec PyProof.Rows L2 Cr
local macro_rules | `(tactic| walk_at "w") => `(tactic| first
  | with_reducible refine ws_seq ?_ | with_reducible refine ws_asg ?_ | with_reducible refine ws_ret ?_ | with_reducible refine ws_retN ?_ | with_reducible refine ws_drop ?_ | with_reducible refine ws_if ?_
  | with_reducible refine ws_next ?_ | with_reducible refine ws_par ?_ | with_reducible refine ws_par3 ?_
  | with_reducible refine we_int ?_ | with_reducible refine we_str ?_ | with_reducible refine we_bl ?_ | with_reducible refine we_non ?_ | with_reducible refine we_op ?_ | with_reducible refine we_un ?_
  | with_reducible refine we_cb ?_ | with_reducible refine we_if ?_ | with_reducible refine we_tup ?_ | with_reducible refine we_call ?_ | with_reducible refine wa_cons ?_ | with_reducible refine wa_nil ?_
  | with_reducible refine wt_val ?_ | with_reducible refine wt_test ?_ | with_reducible refine wt_and ?_ | with_reducible refine wt_or ?_ | with_reducible refine wt_not ?_ | with_reducible refine wt_yes ?_
  | with_reducible refine we_andV ?_ | with_reducible refine we_orV ?_ | with_reducible refine we_notV ?_ | with_reducible refine we_chain ?_ | with_reducible refine we_slice ?_ | with_reducible refine wo_none ?_ | with_reducible refine wo_some ?_
  | with_reducible refine we_bits ?_ | refine we_var (by rfl) ?_)
local macro_rules | `(tactic| walk_at "i2") => `(tactic| refine ⟨_, _, _, rfl, rfl, .int _ _, ?_⟩)
local macro_rules | `(tactic| walk_at "in") => `(tactic| refine ⟨_, _, rfl, .int _, ?_⟩)
local macro_rules | `(tactic| walk_at "n") => `(tactic| simp only [List.set_cons_succ, List.set_cons_zero])
section
variable {K : PySem.W.Frag} {r : Ro} {m : Sto}
theorem we_copy {i : Nat} {ds : List D} {Q : Sv → Sto → Prop} (hi : r[i]? = some (some (.val (.lst ds)))) (q : Q (.val (.lst ds)) m) : WE K r m (tCB (rDN K RLst) (tCons (tVar i) tNil)) Q :=
  we_cb (wa_cons (we_var hi (wa_nil ⟨[.lst ds], _, rfl, .lst _, q⟩)))
/-- what normal returns, let free -/
theorem we_norm {te : TE} {k : Nat} {ps : List Pc} {Q : Sv → Sto → Prop} (h1 : r[1]? = some (some (.val (.int k)))) (ht : WE K r m te fun s m1 => s = .val (psD ps) ∧ m1 = m) (hk : k ≤ 3) (hl : ps.length ≤ 5000) (hg : ∀ p ∈ ps, Good k p) (hm : measI ps ≤ 2000)
    (q : Q (.val (.lst (stk (normR k ps)))) m) : WE K r m (tCall (SpD K T_normal) [] E0 (tCons (tVar 1) (tCons te tNil))) Q :=
  we_free (we_call (wa_cons (we_var h1 (wa_cons (ht.imp fun s m1 ⟨e1, e2⟩ => by
    subst e1 e2
    exact wa_nil ⟨k, ps, rfl, hk, hl, hg, hm, fun p hp => ⟨p, _, rfl, hp, stS_same, by rw [stD_stS hp]; exact q⟩⟩)))))
theorem we_isn {te : TE} {k : Nat} {v : D} {b : Bool} {Q : Sv → Sto → Prop} (h1 : r[1]? = some (some (.val (.int k)))) (ht : WE K r m te fun s m1 => s = .val v ∧ m1 = m) (hk : k ≤ 3) (hv : IsN k v b)
    (q : Q (.val (.bl b)) m) : WE K r m (tCall (SpD K T_is_normal) [] E0 (tCons (tVar 1) (tCons te tNil))) Q :=
  we_call (wa_cons (we_var h1 (wa_cons (ht.imp fun s m1 ⟨e1, e2⟩ => by
    subst e1 e2
    exact wa_nil ⟨k, v, b, rfl, hk, hv, q⟩))))
theorem we_pl {te : TE} {k : Nat} {Q : Sv → Sto → Prop} (h1 : r[1]? = some (some (.val (.int k)))) (hk : k ≤ 3) (q : Q (.val (tI (fx k))) m) : WE K r m (tCall (SpD K T_law_plain) [] E0 (tCons (tVar 1) (tCons (tC (.int 1)) tNil))) Q :=
  we_call (wa_cons (we_var h1 (wa_cons (we_int (wa_nil ⟨k, 1, rfl, hk, q⟩)))))
theorem we_wr {i j k : Nat} {ps : List Pc} {t : List Int} {Q : Sv → Sto → Prop} (hi : r[i]? = some (some (.val (psD ps)))) (hj : r[j]? = some (some (.val (lI t)))) (hk : k ≤ 3) (hl : ps.length ≤ 5000) (hg : ∀ p ∈ ps, Good k p) (ht : Row k 3 t)
    (hv : ∀ p ∈ ps, p.1 ≠ [] → valI p.2 t ≤ 1000000 ∧ p.1.length * (valI p.2 t).toNat ≤ 100000) (hw : (wrI ps t).length ≤ 1000000) (q : Q (.val (dS (wrI ps t))) m) : WE K r m (tCall (SpD K T_law_write) [] E0 (tCons (tVar i) (tCons (tVar j) tNil))) Q :=
  we_call (wa_cons (we_var hi (wa_cons (we_var hj (wa_nil ⟨k, ps, t, rfl, hk, hl, hg, fun x hx => by
    have := ht.2 x hx
    have h3 : x.natAbs ≤ 3 := by omega
    exact Nat.le_trans h3 (by decide +kernel), fun x hx => (ht.2 x hx).1, hv, hw, q⟩)))))
end
theorem lists3 {l : List Nat} (h : l.length = 3) (hn : l.Nodup) : ∃ a b c, l = [a, b, c] ∧ a ≠ b := by
  match l, h with
  | [a, b, c], _ => exact ⟨a, b, c, rfl, by simp at hn; exact hn.1.1⟩
theorem plain_lst {c : Nat} (hc : c ∈ abc) (k : Nat) : Plain (.lst [dS [c], tI (fx k)]) := by
  refine ⟨.list [.str (S [c]), .tuple ((fx k).map .int)], ?_, ?_, ?_⟩
  · show D.py (.lst [dS [c], tI (fx k)]) = _
    simp only [D.py, D.pyA, Cr.pyA_ints]
    rfl
  · have hs : (S [c]).cps.all (· < 1114112) = true := by
      show [c].toArray.all (· < 1114112) = true
      rw [List.all_toArray, List.all_eq_true]
      intro x hx
      rw [List.mem_singleton.mp hx]
      exact decide_eq_true (abc_small c hc)
    have hs' : PyData.strOk (S [c]) = true := hs
    simp only [PyData.canLay0, PyData.canLayAll0, Cr.canLayAll_ints, hs', Bool.and_self]
  · have := Cr.depthAll_ints (fx k)
    simp only [PyData.depth, PyData.depthAll]
    omega
theorem m_law_right {K : PySem.W.Frag} : Ok K N_law_right T_law_right (t_law_right K) := by
  rintro ss m Q ⟨g, rfl, hg, q⟩
  unfold t_law_right
  rw [show startR N_law_right [Sv.adr g] = [some (.adr g), none, none, none, none, none, none, none, none, none, none, none, none, none, none, none] from rfl]
  -- many, letters
  refine ws_seq (ws_asgG ([1] ++ ([2] ++ [])) (we_tup (wa_cons (we_rndC 999999 rfl hg (by decide) (by decide) fun vk m1 vk0 vk1 hG1 hF1 => wa_cons (we_call (wa_cons (we_var rfl (wa_nil ⟨g, 999996, rfl, hG1, fun l m2 hll hln hla hG2 hF2 => wa_nil ⟨[.int vk, dS l], rfl, by show (2 : Nat) ≤ 100000; decide, ?_⟩⟩))))))))
  obtain ⟨k, rfl⟩ := Int.eq_ofNat_of_zero_le vk0
  have hk : k ≤ 3 := by omega
  refine wg_tup rfl (wgs_cons (wg_name (wgs_cons (wg_name (wgs_nil ?_)))))
  -- pieces
  walk_at "n"
  refine ws_seq (ws_asg (we_call (wa_cons (we_var rfl (wa_cons (we_var rfl (wa_cons (we_var rfl (wa_cons (we_rndC 999995 rfl hG2 (by decide) (by decide) fun vc m3 vc0 vc1 hG3 hF3 => wa_cons (we_op (we_int (we_rndC 999994 rfl hG3 (by decide) (by decide) fun vB m4 vB0 vB1 hG4 hF4 => ⟨_, _, _, rfl, rfl, .int _ _, wa_nil ?_⟩)))))))))))))
  obtain ⟨c, rfl⟩ := Int.eq_ofNat_of_zero_le vc0
  refine ⟨g, k, 999000, c, l, 1 + vB, rfl, hk, hll, hla, by omega, by omega, by omega, hG4.mono (by omega), fun ps m5 hpl hps hG5 hF5 => ?_⟩
  have hpl7 : ps.length ≤ 7 := by omega
  have hgp : ∀ p ∈ ps, Good k p := fun p hp => smP_good (hps p hp)
  have hme := meas_len hps
  have hme2 : measI ps ≤ 2000 := by omega
  have td := told_of hk hpl7 hps
  generalize htd : (normR k ps).reverse = told at td
  have hst : stk (normR k ps) = told.map pD := by rw [← htd]
  have hst2 : stk (normR k told) = told.map pD := by
    show (normR k told).reverse.map pD = _
    rw [td.fix, List.reverse_reverse]
  have tl := td.len
  have tm := td.meas
  have abp : ∀ p ∈ ps, ∀ c ∈ p.1, c ∈ abc := fun p hp => (hps p hp).2.1
  have abt : ∀ p ∈ told, ∀ c ∈ p.1, c ∈ abc := fun p hp => (td.good p hp).wd.2
  -- given, told
  walk_at "n"
  refine ws_seq (ws_asg (we_copy rfl ?_))
  walk_at "n"
  refine ws_seq (ws_asg (we_norm rfl (we_var rfl ⟨rfl, rfl⟩) hk (by omega) hgp hme2 ?_))
  rw [hst]
  walk_at "n"
  refine ws_seq (wsIf (b := false) (wtO (a := false) (wt_test (we_op (we_var rfl (we_var rfl ⟨_, _, _, rfl, rfl, .mk (reqL_ps abp abp), _, rfl, by rw [decide_eq_true rfl]; rfl, rfl⟩)))) fun _ =>
    wtO (a := false) (b := false) (wtN (a := true) (wt_val (we_call (wa_cons (we_var rfl (wa_cons (we_var rfl (wa_nil ⟨k, told, rfl, hk, by omega, td.good, true, rfl, rfl, rfl⟩)))))))) fun _ =>
      wtN (a := true) (wt_val (we_call (wa_cons (we_var rfl (wa_cons (we_var rfl (wa_nil ⟨k, told, rfl, hk, by omega, td.good, _, rfl, td.yes, rfl⟩)))))))) (fun h => (by cases h)) fun _ => ws_next ?_)
  -- points
  refine ws_seq (ws_asg (we_op (we_lst (wa_cons (we_op (we_lst (wa_cons (we_int (wa_nil ⟨[.int 0], rfl, by show (1 : Nat) ≤ 100000; decide, we_var rfl ⟨_, _, _, rfl, rfl, .lst (by omega) (by omega) (by simp [szD]; omega), wa_nil ?_⟩⟩)))))))))
  have e0 : ((k : Int)).toNat = k := by omega
  refine ⟨[lI (List.replicate k 0)], by rw [e0, rep_ints]; rfl, by show (1 : Nat) ≤ 100000; decide, ?_⟩
  refine we_drawn (ge := g) (js := [13]) k 900000 (fun i acc => ∃ ps : List (List Int), acc = ps.map lI ∧ ps.length = i ∧ ∀ p ∈ ps, Row k 3 p) (by decide) (wi_rng1 (wa_cons (we_int (wa_nil ?_))))
  refine ⟨3, rfl, by omega, by omega, rfl, by decide, (by rw [rng_len]; exact hG5.mono (by show 900000 + k * 3 ≤ _; omega)), ⟨[], rfl, rfl, by simp⟩, ?_, ?_⟩
  · rintro i d acc m' hd ⟨ps, rfl, hpl, hps⟩ hG
    have hi := (List.getElem?_eq_some_iff.mp hd).1
    rw [rng_len] at hi hG ⊢
    refine wg_name ?_
    repeat walk_at "w"
    have e3 : (3 : Int).toNat - i = (3 : Int).toNat - i - 1 + 1 := by omega
    refine ⟨g, k, 900000 + k * ((3 : Int).toNat - i - 1), 3, rfl, by omega, by decide, by decide +kernel, by rw [e3, Nat.mul_add, Nat.mul_one] at hG; exact hG.mono (by omega), fun ns m3 hr hG3 hF => ⟨_, rfl, ⟨ps ++ [ns], by rw [List.map_append]; rfl, by rw [List.length_append, hpl]; rfl, ?_⟩, hG3, hF⟩⟩
    intro p hp
    rcases List.mem_append.mp hp with h | h
    · exact hps p h
    · rw [List.mem_singleton.mp h]; exact hr
  rintro acc m6 ⟨pts, rfl, hptl, hpts⟩ hG6 hF6
  rw [rng_len] at hptl
  refine ⟨_, _, _, rfl, rfl, .lst (by simp [szD, hptl]), ?_⟩
  have hall : ∀ t ∈ List.replicate k (0 : Int) :: pts, Row k 3 t := fun t ht => by
    rcases List.mem_cons.mp ht with h | h
    · rw [h]
      exact ⟨by simp, fun x hx => by rw [List.eq_of_mem_replicate hx]; decide⟩
    · exact hpts t h
  have hpl4 : (List.replicate k (0 : Int) :: pts).length = 4 := by rw [List.length_cons, hptl]; rfl
  show WS K _ [some (.adr g), some (.val (.int k)), some (.val (dS l)), some (.val (psD ps)), some (.val (psD ps)), some (.val (psD told)), some (.val (.lst ((List.replicate k (0 : Int) :: pts).map lI))), none, none, none, none, none, none, none, none, none] m6 _ _
  generalize List.replicate k (0 : Int) :: pts = points at hall hpl4
  -- the words at the points
  refine ws_seq (wsIf (b := false) (wt_test (we_op (we_lc (js := [14]) (by decide) (wi_D (we_var rfl ⟨false, points.map lI, rfl, by rw [List.length_map]; omega, rfl, fun _ => false, fun d => d, fun d hd m' => ?_, ?_⟩))))) (fun h => (by cases h)) fun _ => ws_next ?_)
  · obtain ⟨t, ht, rfl⟩ := List.mem_map.mp hd
    have hr := hall t ht
    obtain ⟨w1, w2⟩ := td.wl t hr
    have hw := td.wr t fun x hx => (hr.2 x hx).1
    have w3 := wrI_len hk hr hps
    refine wg_name ?_
    refine (wt_test (we_op (we_wr rfl rfl hk (by omega) td.good hr w2 (by omega) (we_wr rfl rfl hk (by omega) hgp hr ?_ (by omega) ⟨_, _, _, rfl, rfl, .mk (req_S _ _), _, rfl, ?_, rfl⟩)))).imp fun b m2 (h : b = false ∧ m2 = m') => ⟨h.1, h.2, fun hb => by rw [h.1] at hb; cases hb⟩
    · intro p hp hne
      obtain ⟨h1, h2, h3⟩ := hps p hp
      have v30 := val_sm hk h3 hr
      refine ⟨by omega, ?_⟩
      have : p.1.length * (valI p.2 t).toNat ≤ 24 * 30 := Nat.mul_le_mul h1 (by omega)
      omega
    · rw [decide_eq_true hw]
      rfl
  · have e : ((points.map lI).filter fun _ => false).map (fun d => d) = [] := by simp
    rw [e]
    exact we_lst (wa_nil ⟨[], rfl, by decide, _, _, _, rfl, rfl, .mk (req_nil []), _, rfl, rfl, rfl⟩)
  -- measures, normal again
  have gs : ∀ {qs : List Pc}, (∀ p ∈ qs, Good k p) → ∀ p ∈ qs, PcS p := fun h p hp => (h p hp).s hk
  refine ws_seq (wsIf (b := false) (wtO (a := false) (b := false) (wt_test (we_op (we_call (wa_cons (we_var rfl (wa_nil ⟨told, rfl, by omega, gs td.good, we_call (wa_cons (we_var rfl (wa_nil ⟨ps, rfl, by omega, gs hgp, _, _, _, rfl, rfl, .int _ _, _, rfl, decide_eq_false (by omega), rfl⟩)))⟩)))))) fun _ =>
    wt_test (we_op (we_norm rfl (we_copy rfl ⟨rfl, rfl⟩) hk (by omega) td.good (by omega) ?_))) (fun h => (by cases h)) fun _ => ws_next ?_)
  · rw [hst2]
    exact we_var rfl ⟨_, _, _, rfl, rfl, .mk (reqL_ps abt abt), _, rfl, by rw [decide_eq_true rfl]; rfl, rfl⟩
  -- again
  have isT : IsN k (psD told) true := by
    have := IsN.ok (k := k) (ps := told) (by omega) td.good (by omega)
    rw [td.yes] at this
    exact this
  have isP : IsN k (psD ps) (nsB k ps) := .ok (by omega) hgp hme2
  refine ws_seq (ws_asg (we_copy rfl ?_))
  walk_at "n"
  refine ws_seq (ws_drop (we_isn rfl (we_var rfl ⟨rfl, rfl⟩) hk isP ?_))
  refine ws_seq (wsIf (b := false) (wtO (a := false) (b := false) (wt_test (we_op (we_var rfl (we_var rfl ⟨_, _, _, rfl, rfl, .mk (reqL_ps abp abp), _, rfl, by rw [decide_eq_true rfl]; rfl, rfl⟩)))) fun _ =>
    wtO (a := false) (b := false) (wt_test (we_op (we_isn rfl (we_copy rfl ⟨rfl, rfl⟩) hk isT (we_bl ⟨_, _, _, rfl, rfl, .mk (.bl _ _), _, rfl, rfl, rfl⟩)))) fun _ =>
      wtN (a := true) (wt_val (we_call (wa_cons (we_isn rfl (we_var rfl ⟨rfl, rfl⟩) hk isP (wa_cons (we_call (wa_cons (we_var rfl (wa_cons (we_var rfl (wa_nil ⟨k, ps, rfl, hk, by omega, hgp, wa_nil ⟨_, rfl, _, rfl, rfl, rfl⟩⟩)))))))))))) (fun h => (by cases h)) fun _ => ws_next ?_)
  refine ws_seq (ws_asg (we_copy rfl ?_))
  walk_at "n"
  refine ws_seq (ws_app (we_call (wa_cons (we_var rfl (wa_cons (we_var rfl (wa_nil ⟨k, told, rfl, hk, by omega, td.good, by omega, fun p hp => ⟨p, _, rfl, stS_same, we_non ⟨.non, _, rfl, stS_same, ?_, ?_⟩⟩⟩)))))))
  · rw [hst2, List.length_map]
    omega
  generalize stS (stS m6 p _) p _ = m7
  refine ws_seq (wsIf (b := false) (wtO (a := false) (b := false) (wt_test (we_op (we_var rfl (we_var rfl ⟨_, _, _, rfl, rfl, .mk (reqL_ps abt abt), _, rfl, by rw [decide_eq_true rfl]; rfl, rfl⟩)))) fun _ =>
    wt_test (we_op (we_norm rfl (we_var rfl ⟨rfl, rfl⟩) hk (by omega) td.good (by omega) ?_))) (fun h => (by cases h)) fun _ => ws_next ?_)
  · rw [hst2]
    exact we_var rfl ⟨_, _, _, rfl, rfl, .mk (reqL_ps abt abt), _, rfl, by rw [decide_eq_true rfl]; rfl, rfl⟩
  -- unit, fixed
  obtain ⟨a, b, c2, rfl, hab⟩ := lists3 hll hln
  have ha := hla a (by simp)
  have hb := hla b (by simp)
  have hc := hla c2 (by simp)
  have lt3 : ([a, b, c2] : List Nat).length ≤ szD := by show 3 ≤ 100000; decide
  refine ws_seq (ws_par (wa_cons (we_tup (wa_cons (we_op (we_var rfl (we_int ⟨_, _, _, rfl, rfl, rix_S (c := b) lt3 rfl, wa_cons (we_op (we_tup (wa_cons (we_int (wa_cons (we_int (wa_nil ⟨[.int 0, .int 1], rfl, by show (2 : Nat) ≤ 100000; decide, ?_⟩)))))))⟩)))))))
  refine we_op (we_tup (wa_cons (we_int (wa_nil ⟨[.int 0], rfl, by show (1 : Nat) ≤ 100000; decide, we_op (we_var rfl (we_int ⟨_, _, _, rfl, rfl, .int _ _, _, _, _, rfl, rfl, .tup (by omega) (by omega) (by decide), ?_⟩))⟩))))
  have e1 : ((k : Int) - 1).toNat = k - 1 := by omega
  refine ⟨_, _, _, rfl, rfl, .tup (by rw [e1, rep_ints]; simp [szD]; omega), wa_nil ⟨[dS [b], tI (unF k)], ?_, by show (2 : Nat) ≤ 100000; decide, ?_⟩⟩
  · rw [e1, rep_ints]
    rfl
  refine wa_cons (we_pl (te := tVar 0) rfl hk (wa_nil ⟨_, _, rfl, ?_⟩))
  walk_at "n"
  -- long ones
  refine ws_seq (ws_for [10] (wi_D (we_lst (wa_cons (we_int (wa_cons (we_int (wa_nil ⟨[.int 999, .int 1000], rfl, by show (2 : Nat) ≤ 100000; decide, false, [.int 999, .int 1000], rfl, fun i r' m' => m' = m7 ∧ ∃ z10 z11, r' = [some (.adr g), some (.val (.int k)), some (.val (dS [a, b, c2])), some (.val (psD ps)), some (.val (psD ps)), some (.val (psD told)), some (.val (.lst (points.map lI))), some (.val (psD told)), some (.val (pD ([b], unF k))), some (.val (tI (fx k))), z10, z11, none, none, none, none], ⟨rfl, none, none, rfl⟩, ?_, ?_⟩))))))))
  · rintro i d r' m' hd ⟨rfl, z10, z11, rfl⟩
    obtain ⟨n, rfl, hn0, hn1⟩ : ∃ n : Nat, d = .int n ∧ 999 ≤ n ∧ n ≤ 1000 := by
      match i, hd with
      | 0, h => cases h; exact ⟨999, rfl, by omega, by omega⟩
      | 1, h => cases h; exact ⟨1000, rfl, by omega, by omega⟩
    refine wg_name ?_
    walk_at "n"
    refine ws_seq (ws_asg (we_lst (wa_cons (we_tup (wa_cons (we_op (we_op (we_var rfl (we_int ⟨_, _, _, rfl, rfl, rix_S (c := a) lt3 rfl, we_int ⟨_, _, _, rfl, rfl, rmul_S (by decide) (by decide) (by show 1 * 1000 ≤ 100000; decide), wa_cons (we_var rfl (wa_nil ⟨[dS (List.replicate 1000 [a]).flatten, tI (fx k)], rfl, by show (2 : Nat) ≤ 100000; decide, wa_cons (we_var rfl ?_)⟩))⟩⟩)))))))))
    refine wa_cons (we_tup (wa_cons (we_op (we_op (we_var rfl (we_int ⟨_, _, _, rfl, rfl, rix_S (c := c2) lt3 rfl, we_var rfl ⟨_, _, _, rfl, rfl, rmul_S (by omega) (by omega) (by rw [Int.toNat_natCast]; show 1 * n ≤ 100000; omega), wa_cons (we_var rfl (wa_nil ⟨[dS (List.replicate n [c2]).flatten, tI (fx k)], ?_, by show (2 : Nat) ≤ 100000; decide, wa_nil ?_⟩))⟩⟩))))))
    · rw [Int.toNat_natCast]
      rfl
    refine ⟨[((List.replicate 1000 [a]).flatten, fx k), ([b], unF k), ((List.replicate n [c2]).flatten, fx k)].map pD, rfl, by show (3 : Nat) ≤ 100000; decide, ?_⟩
    walk_at "n"
    have nxt : ∀ z11, ∃ z10 z11', [some (Sv.adr g), some (.val (.int k)), some (.val (dS [a, b, c2])), some (.val (psD ps)), some (.val (psD ps)), some (.val (psD told)), some (.val (.lst (points.map lI))), some (.val (psD told)), some (.val (pD ([b], unF k))), some (.val (tI (fx k))), some (.val (.int n)), z11, none, none, none, none] = [some (Sv.adr g), some (.val (.int k)), some (.val (dS [a, b, c2])), some (.val (psD ps)), some (.val (psD ps)), some (.val (psD told)), some (.val (.lst (points.map lI))), some (.val (psD told)), some (.val (pD ([b], unF k))), some (.val (tI (fx k))), z10, z11', none, none, none, none] := fun z11 => ⟨_, _, rfl⟩
    by_cases hk0 : 0 < k
    · refine wsIf (b := false) (wtA (a := true) (b := false) (wt_test (we_op (we_var rfl (we_int ⟨_, _, _, rfl, rfl, .int _ _, _, rfl, decide_eq_true (by omega), rfl⟩)))) fun _ => wtN (a := true) (wt_val (we_call (wa_cons (we_isn rfl (we_var rfl ⟨rfl, rfl⟩) hk (long_facts hk0 hk hab ha hb hc (by omega) hn1) (wa_cons (we_op (we_var rfl (we_int ⟨_, _, _, rfl, rfl, .mk (.int _ _), wa_nil ⟨decide (n ≤ 999), ?_, _, rfl, rfl, rfl⟩⟩))))))))) (fun h => (by cases h)) fun _ => ws_next ⟨rfl, nxt _⟩
      have e : decide ((n : Int) = 999) = decide (n ≤ 999) := decide_eq_decide.mpr (by omega)
      show [Sv.val (.bl (decide (n ≤ 999))), .val (.bl (decide ((n : Int) = 999)))] = _
      rw [e]
    · refine wsIf (b := false) (wtA (a := false) (b := true) (wt_test (we_op (we_var rfl (we_int ⟨_, _, _, rfl, rfl, .int _ _, _, rfl, decide_eq_false (by omega), rfl⟩)))) fun h => (by cases h)) (fun h => (by cases h)) fun _ => ws_next ⟨rfl, nxt _⟩
  rintro r' m' ⟨rfl, z10, z11, rfl⟩
  -- spoilt ones
  have td1 : (told.map pD).length + 1 ≤ szD := by rw [List.length_map]; show _ ≤ 100000; omega
  have isZ := isn_zero td ha
  have isE := isn_empty td
  have isNon : IsN k (.lst (told.map pD ++ [.non])) false := isn_bad hk td ⟨rfl, fun ds e => (by cases e), fun a b e => (by cases e)⟩ plain_non rfl
  have isL : IsN k (.lst (told.map pD ++ [.lst [dS [a], tI (fx k)]])) false := isn_bad hk td ⟨rfl, fun ds e => (by cases e), fun a b e => (by cases e)⟩ (plain_lst ha k) rfl
  have len2001 : ((List.replicate 2001 [a]).flatten).length = 2001 := by rw [rep_len]; rfl
  have mem2001 : ∀ x ∈ (List.replicate 2001 [a]).flatten, x ∈ abc := fun x hx => by rw [List.mem_singleton.mp (rep_mem hx)]; exact ha
  have isB : IsN k (.lst (told.map pD ++ [pD ((List.replicate 2001 [a]).flatten, fx k)])) false := by
    generalize (List.replicate 2001 [a]).flatten = w at len2001 mem2001
    refine isn_bad hk td ⟨rfl, fun ds e => by cases e; show (2 : Nat) ≤ 100000; decide, fun x y e => by
      cases e
      exact ⟨letOk_S (by show w.length ≤ 100000; omega) mem2001, plainV_tI (by rw [(fx_row k).1]; omega)⟩⟩ (plain_pD (p := (w, fx k)) mem2001) ?_
    show (letD (dS w) 2000 && _) = false
    rw [letD_S, len2001]
    rfl
  have cut1 : cutL [a, b, c2] none (some 1) = [a] := rfl
  have sl : ∀ {m1 : Sto} {r1 : Ro} {Q1 : Sv → Sto → Prop}, r1[2]? = some (some (.val (dS [a, b, c2]))) → Q1 (.val (dS [a])) m1 → WE K r1 m1 (tSl (rSlD K) (tVar 2) tNoPart (tPart (tC (.int 1)))) Q1 := fun h2 q => we_slice (we_var h2 (wo_none (wo_some (we_int ⟨1, rfl, _, _, rfl, rsl_S lt3 _ _, q⟩))))
  have two : (2 : Nat) ≤ 100000 := by decide
  have one : (1 : Nat) ≤ 100000 := by decide
  refine ws_seq (ws_asg (we_lst (wa_cons (we_cb (wa_cons (we_var rfl (wa_nil ⟨[psD told], _, rfl, .lst _, ?_⟩)))))))
  refine wa_cons (we_op (we_var rfl (we_lst (wa_cons (we_tup (wa_cons (we_str (wa_cons (we_pl (te := tVar 0) rfl hk (wa_nil ⟨[dS [], tI (fx k)], rfl, two, wa_nil ⟨[pD ([], fx k)], rfl, one, _, _, _, rfl, rfl, .lst td1, ?_⟩⟩))))))))))
  refine wa_cons (we_op (we_var rfl (we_lst (wa_cons (we_non (wa_nil ⟨[.non], rfl, one, _, _, _, rfl, rfl, .lst td1, ?_⟩))))))
  refine wa_cons (we_op (we_var rfl (we_lst (wa_cons (we_tup (wa_cons (sl rfl (wa_cons (we_op (we_tup (wa_cons (we_int (wa_nil ⟨[.int 0], rfl, one, we_op (we_var rfl (we_int ⟨_, _, _, rfl, rfl, .int _ _, _, _, _, rfl, rfl, .tup (by omega) (by omega) (by decide), wa_nil ⟨[dS [a], tI (List.replicate (k + 1) 0)], ?_, two, wa_nil ⟨[pD ([a], List.replicate (k + 1) 0)], rfl, one, _, _, _, rfl, rfl, .lst td1, ?_⟩⟩⟩))⟩)))))))))))))
  · have e2 : ((k : Int) + 1).toNat = k + 1 := by omega
    rw [e2, rep_ints]
    rfl
  refine wa_nil ⟨[.tup (told.map pD), .lst (told.map pD ++ [pD ([], fx k)]), .lst (told.map pD ++ [.non]), .lst (told.map pD ++ [pD ([a], List.replicate (k + 1) 0)])], rfl, by show (4 : Nat) ≤ 100000; decide, ?_⟩
  walk_at "n"
  refine ws_seq (ws_asg (we_op (we_var rfl (we_lst (wa_cons (we_op (we_var rfl (we_lst (wa_cons (we_tup (wa_cons (we_op (sl rfl (we_int ⟨_, _, _, rfl, rfl, rmul_S (by decide) (by decide) (by show 1 * 2001 ≤ 100000; decide), wa_cons (we_pl (te := tVar 0) rfl hk (wa_nil ⟨[dS (List.replicate 2001 [a]).flatten, tI (fx k)], rfl, two, wa_nil ⟨[pD ((List.replicate 2001 [a]).flatten, fx k)], rfl, one, _, _, _, rfl, rfl, .lst td1, ?_⟩⟩))⟩))))))))))))))
  refine wa_cons (we_op (we_var rfl (we_lst (wa_cons (we_lst (wa_cons (sl rfl (wa_cons (we_pl (te := tVar 0) rfl hk (wa_nil ⟨[dS [a], tI (fx k)], rfl, two, wa_nil ⟨[.lst [dS [a], tI (fx k)]], rfl, one, _, _, _, rfl, rfl, .lst td1, ?_⟩⟩))))))))))
  refine wa_nil ⟨[.lst (told.map pD ++ [pD ((List.replicate 2001 [a]).flatten, fx k)]), .lst (told.map pD ++ [.lst [dS [a], tI (fx k)]])], rfl, two, _, _, _, rfl, rfl, .lst (by show 6 ≤ 100000; decide), ?_⟩
  walk_at "n"
  refine ws_ret (we_op (we_lc (js := [15]) (by decide) (wi_D (we_var rfl ⟨false, [.tup (told.map pD), .lst (told.map pD ++ [pD ([], fx k)]), .lst (told.map pD ++ [.non]), .lst (told.map pD ++ [pD ([a], List.replicate (k + 1) 0)]), .lst (told.map pD ++ [pD ((List.replicate 2001 [a]).flatten, fx k)]), .lst (told.map pD ++ [.lst [dS [a], tI (fx k)]])], rfl, by show 6 ≤ 100000; decide, rfl, fun _ => false, fun d => d, fun d hd m' => ?_, ?_⟩))))
  · have hN : IsN k d false := by
      have mz : ∀ p : Pc, psD (told ++ [p]) = .lst (told.map pD ++ [pD p]) := fun p => by show D.lst _ = _; rw [List.map_append]; rfl
      rcases List.mem_cons.mp hd with e | hd
      · rw [e]; exact .tup _
      rcases List.mem_cons.mp hd with e | hd
      · rw [e, ← mz]; exact isE
      rcases List.mem_cons.mp hd with e | hd
      · rw [e]; exact isNon
      rcases List.mem_cons.mp hd with e | hd
      · rw [e, ← mz]; exact isZ
      rcases List.mem_cons.mp hd with e | hd
      · rw [e]; exact isB
      · rw [List.mem_singleton.mp hd]; exact isL
    refine wg_name ?_
    exact (wt_test (we_op (we_isn rfl (we_var rfl ⟨rfl, rfl⟩) hk hN (we_bl ⟨_, _, _, rfl, rfl, .mk (.bl _ _), _, rfl, rfl, rfl⟩)))).imp fun b m2 (h : b = false ∧ m2 = m') => ⟨h.1, h.2, fun hb => by rw [h.1] at hb; cases hb⟩
  · rw [List.filter_eq_nil_iff.mpr (fun _ _ => Bool.false_ne_true)]
    exact we_lst (wa_nil ⟨[], rfl, by decide, _, _, _, rfl, rfl, .mk (req_nil []), q _⟩)
theorem rng_get {n i : Nat} {d : D} (h : (rngD 0 n)[i]? = some d) : d = .int i ∧ i < n := by
  have hi := (List.getElem?_eq_some_iff.mp h).1
  rw [rng_len] at hi
  unfold rngD at h
  rw [List.getElem?_map, List.getElem?_range hi] at h
  refine ⟨?_, hi⟩
  have h2 := Option.some.inj h
  rw [← h2]
  show D.int (0 + (i : Int)) = D.int i
  rw [Int.zero_add]
theorem m_law {K : PySem.W.Frag} : Ok K N_law T_law (t_law K) := by
  rintro ss m Q ⟨ns, rfl, hl, hb, hm, q⟩
  unfold t_law
  walk_at "w"
  refine ws_for [1] (wi_rng1 ?_)
  repeat walk_at "w"
  refine ⟨3, rfl, by decide, by decide, fun i r' m' => ∃ z, r' = [some (.val (.scr ns)), z], ⟨_, rfl⟩, ?_, ?_⟩
  · rintro i d r' m' hd ⟨z, rfl⟩
    obtain ⟨rfl, hi⟩ := rng_get hd
    have hi2 : i < 3 := hi
    refine wg_name ?_
    repeat walk_at "w"
    refine ⟨ns, i, rfl, by omega, by omega, hb, fun p m2 hp hG hF => ?_⟩
    repeat walk_at "w"
    refine ⟨p, rfl, hG, fun m3 => ?_⟩
    refine ⟨true, rfl, ?_⟩
    show if (!true) = true then _ else _
    rw [if_neg (by decide)]
    walk_at "w"
    exact ⟨_, rfl⟩
  · rintro r' m' ⟨z, rfl⟩
    repeat walk_at "w"
    exact q _
end L12

namespace L12
open PySem PySem.Spec PyProof.Rows L2 Cr
def d_law_cell : He.DefD := ⟨("_law_cell", none), "_law_cell", "_law_cell", defArgs s_law_cell, defBody s_law_cell, defScope s_law_cell, [], []⟩
def d_law_generator : He.DefD := ⟨("_law_generator", none), "_law_generator", "_law_generator", defArgs s_law_generator, defBody s_law_generator, defScope s_law_generator, [], []⟩
def d_law_hash : He.DefD := ⟨("_law_hash", none), "_law_hash", "_law_hash", defArgs s_law_hash, defBody s_law_hash, defScope s_law_hash, [], []⟩
def d_law_random : He.DefD := ⟨("_law_random", none), "_law_random", "_law_random", defArgs s_law_random, defBody s_law_random, defScope s_law_random, [], []⟩
def d_law_letters : He.DefD := ⟨("_law_letters", none), "_law_letters", "_law_letters", defArgs s_law_letters, defBody s_law_letters, defScope s_law_letters, [], []⟩
def d_law_word : He.DefD := ⟨("_law_word", none), "_law_word", "_law_word", defArgs s_law_word, defBody s_law_word, defScope s_law_word, [], []⟩
def d_law_plain : He.DefD := ⟨("_law_plain", none), "_law_plain", "_law_plain", defArgs s_law_plain, defBody s_law_plain, defScope s_law_plain, [], []⟩
def d_law_form : He.DefD := ⟨("_law_form", none), "_law_form", "_law_form", defArgs s_law_form, defBody s_law_form, defScope s_law_form, [], []⟩
def d_law_piece : He.DefD := ⟨("_law_piece", none), "_law_piece", "_law_piece", defArgs s_law_piece, defBody s_law_piece, defScope s_law_piece, [], []⟩
def d_law_raw : He.DefD := ⟨("_law_raw", none), "_law_raw", "_law_raw", defArgs s_law_raw, defBody s_law_raw, defScope s_law_raw, [], []⟩
def d_is_whole : He.DefD := ⟨("is_whole", none), "is_whole", "is_whole", defArgs s_is_whole, defBody s_is_whole, defScope s_is_whole, [], []⟩
def d_is_between : He.DefD := ⟨("is_between", none), "is_between", "is_between", defArgs s_is_between, defBody s_is_between, defScope s_is_between, [], []⟩
def d_check_number : He.DefD := ⟨("check_number", none), "check_number", "check_number", defArgs s_check_number, defBody s_check_number, defScope s_check_number, [], []⟩
def d_check_many : He.DefD := ⟨("check_many", none), "check_many", "check_many", defArgs s_check_many, defBody s_check_many, defScope s_check_many, [], []⟩
def d_is_letters : He.DefD := ⟨("is_letters", none), "is_letters", "is_letters", defArgs s_is_letters, defBody s_is_letters, defScope s_is_letters, [], []⟩
def d_are_counts : He.DefD := ⟨("are_counts", none), "are_counts", "are_counts", defArgs s_are_counts, defBody s_are_counts, defScope s_are_counts, [], []⟩
def d_is_form_for : He.DefD := ⟨("is_form_for", none), "is_form_for", "is_form_for", defArgs s_is_form_for, defBody s_is_form_for, defScope s_is_form_for, [], []⟩
def d_is_piece : He.DefD := ⟨("is_piece", none), "is_piece", "is_piece", defArgs s_is_piece, defBody s_is_piece, defScope s_is_piece, [], []⟩
def d_is_open_form : He.DefD := ⟨("is_open_form", none), "is_open_form", "is_open_form", defArgs s_is_open_form, defBody s_is_open_form, defScope s_is_open_form, [], []⟩
def d_measure : He.DefD := ⟨("measure", none), "measure", "measure", defArgs s_measure, defBody s_measure, defScope s_measure, [], []⟩
def d_check_pieces : He.DefD := ⟨("check_pieces", none), "check_pieces", "check_pieces", defArgs s_check_pieces, defBody s_check_pieces, defScope s_check_pieces, [], []⟩
def d_plain : He.DefD := ⟨("plain", none), "plain", "plain", defArgs s_plain, defBody s_plain, defScope s_plain, [], []⟩
def d_check_full_word : He.DefD := ⟨("check_full_word", none), "check_full_word", "check_full_word", defArgs s_check_full_word, defBody s_check_full_word, defScope s_check_full_word, [], []⟩
def d_borders : He.DefD := ⟨("borders", none), "borders", "borders", defArgs s_borders, defBody s_borders, defScope s_borders, [], []⟩
def d_period_of : He.DefD := ⟨("period_of", none), "period_of", "period_of", defArgs s_period_of, defBody s_period_of, defScope s_period_of, [], []⟩
def d_root : He.DefD := ⟨("root", none), "root", "root", defArgs s_root, defBody s_root, defScope s_root, [], []⟩
def d_form_times : He.DefD := ⟨("form_times", none), "form_times", "form_times", defArgs s_form_times, defBody s_form_times, defScope s_form_times, [], []⟩
def d_going_back : He.DefD := ⟨("going_back", none), "going_back", "going_back", defArgs s_going_back, defBody s_going_back, defScope s_going_back, [], []⟩
def d_turned_back : He.DefD := ⟨("turned_back", none), "turned_back", "turned_back", defArgs s_turned_back, defBody s_turned_back, defScope s_turned_back, [], []⟩
def d_push_word : He.DefD := ⟨("push_word", none), "push_word", "push_word", defArgs s_push_word, defBody s_push_word, defScope s_push_word, [], []⟩
def d_form_sum : He.DefD := ⟨("form_sum", none), "form_sum", "form_sum", defArgs s_form_sum, defBody s_form_sum, defScope s_form_sum, [], []⟩
def d_push_power : He.DefD := ⟨("push_power", none), "push_power", "push_power", defArgs s_push_power, defBody s_push_power, defScope s_push_power, [], []⟩
def d_normal_pieces : He.DefD := ⟨("normal_pieces", none), "normal_pieces", "normal_pieces", defArgs s_normal_pieces, defBody s_normal_pieces, defScope s_normal_pieces, [], []⟩
def d_normal : He.DefD := ⟨("normal", none), "normal", "normal", defArgs s_normal, defBody s_normal, defScope s_normal, [], []⟩
def d_law_are_pieces : He.DefD := ⟨("_law_are_pieces", none), "_law_are_pieces", "_law_are_pieces", defArgs s_law_are_pieces, defBody s_law_are_pieces, defScope s_law_are_pieces, [], []⟩
def d_law_primitive : He.DefD := ⟨("_law_primitive", none), "_law_primitive", "_law_primitive", defArgs s_law_primitive, defBody s_law_primitive, defScope s_law_primitive, [], []⟩
def d_law_is_normal : He.DefD := ⟨("_law_is_normal", none), "_law_is_normal", "_law_is_normal", defArgs s_law_is_normal, defBody s_law_is_normal, defScope s_law_is_normal, [], []⟩
def d_law_point : He.DefD := ⟨("_law_point", none), "_law_point", "_law_point", defArgs s_law_point, defBody s_law_point, defScope s_law_point, [], []⟩
def d_law_value : He.DefD := ⟨("_law_value", none), "_law_value", "_law_value", defArgs s_law_value, defBody s_law_value, defScope s_law_value, [], []⟩
def d_law_write : He.DefD := ⟨("_law_write", none), "_law_write", "_law_write", defArgs s_law_write, defBody s_law_write, defScope s_law_write, [], []⟩
def d_law_measure : He.DefD := ⟨("_law_measure", none), "_law_measure", "_law_measure", defArgs s_law_measure, defBody s_law_measure, defScope s_law_measure, [], []⟩
def d_is_normal : He.DefD := ⟨("is_normal", none), "is_normal", "is_normal", defArgs s_is_normal, defBody s_is_normal, defScope s_is_normal, [], []⟩
def d_law_yes : He.DefD := ⟨("_law_yes", none), "_law_yes", "_law_yes", defArgs s_law_yes, defBody s_law_yes, defScope s_law_yes, [], []⟩
def d_law_right : He.DefD := ⟨("_law_right", none), "_law_right", "_law_right", defArgs s_law_right, defBody s_law_right, defScope s_law_right, [], []⟩
def d_law : He.DefD := ⟨("law", none), "law", "law", defArgs s_law, defBody s_law, defScope s_law, [], []⟩
def fn : List He.DefD := [d_law_cell, d_law_generator, d_law_hash, d_law_random, d_law_letters, d_law_word, d_law_plain, d_law_form, d_law_piece, d_law_raw, d_is_whole, d_is_between, d_check_number, d_check_many, d_is_letters, d_are_counts, d_is_form_for, d_is_piece, d_is_open_form, d_measure, d_check_pieces, d_plain, d_check_full_word, d_borders, d_period_of, d_root, d_form_times, d_going_back, d_turned_back, d_push_word, d_form_sum, d_push_power, d_normal_pieces, d_normal, d_law_are_pieces, d_law_primitive, d_law_is_normal, d_law_point, d_law_value, d_law_write, d_law_measure, d_is_normal, d_law_yes, d_law_right, d_law]
def fa : List He.Fa := [.glo "_law_cell", .glo "_law_generator", .glo "_law_hash", .glo "_law_random", .glo "_law_letters", .glo "_law_word", .glo "_law_plain", .glo "_law_form", .glo "_law_piece", .glo "_law_raw", .glo "is_whole", .glo "is_between", .glo "check_number", .glo "check_many", .glo "is_letters", .glo "are_counts", .glo "is_form_for", .glo "is_piece", .glo "is_open_form", .glo "measure", .glo "check_pieces", .glo "plain", .glo "check_full_word", .glo "borders", .glo "period_of", .glo "root", .glo "form_times", .glo "going_back", .glo "turned_back", .glo "push_word", .glo "form_sum", .glo "push_power", .glo "normal_pieces", .glo "normal", .glo "_law_are_pieces", .glo "_law_primitive", .glo "_law_is_normal", .glo "_law_point", .glo "_law_value", .glo "_law_write", .glo "_law_measure", .glo "is_normal", .glo "_law_yes", .glo "_law_right", .glo "law", .free "len", .free "sum", .free "int", .free "max", .free "range", .free "list", .free "tuple", .free "isinstance", .free "bool", .free "str", .free "zip", .int "MOST_UNKNOWNS" 3, .str "LETTERS" ("abcdefghijklmnopqrstuvwxyz" : Str), .int "MOST_PIECE_LETTERS" 2000, .int "MOST_PIECES" 5000, .int "MOST_MEASURE" 2000, .int "MOST_LETTERS" 20000]
def ex (K : PySem.W.Frag) : Bool := true
def loose : List Str := [("CountError" : Str), ("InvalidNumber" : Str), ("InvalidWord" : Str), ("InvalidPieces" : Str), ("InvalidPiece" : Str), ("TooLong" : Str), ("LETTERS" : Str), ("MOST_UNKNOWNS" : Str), ("MOST_LETTERS" : Str), ("is_whole" : Str), ("is_between" : Str), ("are_counts" : Str), ("is_letters" : Str), ("is_form_for" : Str), ("check_number" : Str), ("check_many" : Str), ("check_full_word" : Str), ("plain" : Str), ("is_open_form" : Str), ("form_sum" : Str), ("form_times" : Str), ("borders" : Str), ("period_of" : Str), ("root" : Str), ("MOST_PIECES" : Str), ("MOST_MEASURE" : Str), ("MOST_PIECE_LETTERS" : Str), ("is_piece" : Str), ("measure" : Str), ("check_pieces" : Str), ("going_back" : Str), ("turned_back" : Str), ("push_word" : Str), ("push_power" : Str), ("normal_pieces" : Str), ("normal" : Str), ("is_normal" : Str), ("_law_hash" : Str), ("_law_random" : Str), ("_law_cell" : Str), ("_law_generator" : Str), ("_law_letters" : Str), ("_law_word" : Str), ("_law_form" : Str), ("_law_plain" : Str), ("_law_value" : Str), ("_law_write" : Str), ("_law_point" : Str), ("_law_piece" : Str), ("_law_raw" : Str), ("_law_primitive" : Str), ("_law_is_normal" : Str), ("_law_are_pieces" : Str), ("_law_measure" : Str), ("_law_yes" : Str), ("_law_right" : Str)]
abbrev R : PySem.W.OpenRow := PySem.W.OpenLaw.row PySem.Challenge.rw_countreaders_k12_normal_lists
abbrev hk : PySem.W.Hook := hookM 4 fa fn ex
def ob (s : PySem.W.SharedT) : He.AlD × Bool := obsM 4 fa fn ex (HandSHeadRun.getT s)
theorem ob_eq (s : PySem.W.SharedT) : ob s = hk.obs s.abs := obsM_eq (HandSHeadRun.getT_eq s)
theorem run (w : World) : HandSHeadRun.RunEq R (PySem.W.view R.prog [62]) hk ob 8000 loose w := by
  intro os
  kernel_rfl
theorem facts {P : Program} {w : World} {K : PySem.W.Frag} {h : Heap} {mg : Str → Option Value} {f : Addr} (X : K.In h) (G : h.Ns mainGlobals mg) (hfa : mg ("law" : Str) = some (.ref f)) (c : He.SaysD fa fn K) (hex : ex K = true) :
    ∃ fd : FuncData, (∀ (s : Shared) (v : Value), BindsTo s fd ⟨[v], []⟩ [("script", v)]) ∧ ∀ base : Heap, K.In base → base.Ns mainGlobals mg → FnG P w K mg base 9 f fd P_law (SpD K T_law) := by
  obtain ⟨fd_law_cell, F_law_cell⟩ := c.def_ 0 (d := d_law_cell) rfl
  have e_law_cell := He.glo_ok X G (c.fact 0 (f := .glo "_law_cell") rfl)
  obtain ⟨fd_law_generator, F_law_generator⟩ := c.def_ 1 (d := d_law_generator) rfl
  have e_law_generator := He.glo_ok X G (c.fact 1 (f := .glo "_law_generator") rfl)
  obtain ⟨fd_law_hash, F_law_hash⟩ := c.def_ 2 (d := d_law_hash) rfl
  have e_law_hash := He.glo_ok X G (c.fact 2 (f := .glo "_law_hash") rfl)
  obtain ⟨fd_law_random, F_law_random⟩ := c.def_ 3 (d := d_law_random) rfl
  have e_law_random := He.glo_ok X G (c.fact 3 (f := .glo "_law_random") rfl)
  obtain ⟨fd_law_letters, F_law_letters⟩ := c.def_ 4 (d := d_law_letters) rfl
  have e_law_letters := He.glo_ok X G (c.fact 4 (f := .glo "_law_letters") rfl)
  obtain ⟨fd_law_word, F_law_word⟩ := c.def_ 5 (d := d_law_word) rfl
  have e_law_word := He.glo_ok X G (c.fact 5 (f := .glo "_law_word") rfl)
  obtain ⟨fd_law_plain, F_law_plain⟩ := c.def_ 6 (d := d_law_plain) rfl
  have e_law_plain := He.glo_ok X G (c.fact 6 (f := .glo "_law_plain") rfl)
  obtain ⟨fd_law_form, F_law_form⟩ := c.def_ 7 (d := d_law_form) rfl
  have e_law_form := He.glo_ok X G (c.fact 7 (f := .glo "_law_form") rfl)
  obtain ⟨fd_law_piece, F_law_piece⟩ := c.def_ 8 (d := d_law_piece) rfl
  have e_law_piece := He.glo_ok X G (c.fact 8 (f := .glo "_law_piece") rfl)
  obtain ⟨fd_law_raw, F_law_raw⟩ := c.def_ 9 (d := d_law_raw) rfl
  have e_law_raw := He.glo_ok X G (c.fact 9 (f := .glo "_law_raw") rfl)
  obtain ⟨fd_is_whole, F_is_whole⟩ := c.def_ 10 (d := d_is_whole) rfl
  have e_is_whole := He.glo_ok X G (c.fact 10 (f := .glo "is_whole") rfl)
  obtain ⟨fd_is_between, F_is_between⟩ := c.def_ 11 (d := d_is_between) rfl
  have e_is_between := He.glo_ok X G (c.fact 11 (f := .glo "is_between") rfl)
  obtain ⟨fd_check_number, F_check_number⟩ := c.def_ 12 (d := d_check_number) rfl
  have e_check_number := He.glo_ok X G (c.fact 12 (f := .glo "check_number") rfl)
  obtain ⟨fd_check_many, F_check_many⟩ := c.def_ 13 (d := d_check_many) rfl
  have e_check_many := He.glo_ok X G (c.fact 13 (f := .glo "check_many") rfl)
  obtain ⟨fd_is_letters, F_is_letters⟩ := c.def_ 14 (d := d_is_letters) rfl
  have e_is_letters := He.glo_ok X G (c.fact 14 (f := .glo "is_letters") rfl)
  obtain ⟨fd_are_counts, F_are_counts⟩ := c.def_ 15 (d := d_are_counts) rfl
  have e_are_counts := He.glo_ok X G (c.fact 15 (f := .glo "are_counts") rfl)
  obtain ⟨fd_is_form_for, F_is_form_for⟩ := c.def_ 16 (d := d_is_form_for) rfl
  have e_is_form_for := He.glo_ok X G (c.fact 16 (f := .glo "is_form_for") rfl)
  obtain ⟨fd_is_piece, F_is_piece⟩ := c.def_ 17 (d := d_is_piece) rfl
  have e_is_piece := He.glo_ok X G (c.fact 17 (f := .glo "is_piece") rfl)
  obtain ⟨fd_is_open_form, F_is_open_form⟩ := c.def_ 18 (d := d_is_open_form) rfl
  have e_is_open_form := He.glo_ok X G (c.fact 18 (f := .glo "is_open_form") rfl)
  obtain ⟨fd_measure, F_measure⟩ := c.def_ 19 (d := d_measure) rfl
  have e_measure := He.glo_ok X G (c.fact 19 (f := .glo "measure") rfl)
  obtain ⟨fd_check_pieces, F_check_pieces⟩ := c.def_ 20 (d := d_check_pieces) rfl
  have e_check_pieces := He.glo_ok X G (c.fact 20 (f := .glo "check_pieces") rfl)
  obtain ⟨fd_plain, F_plain⟩ := c.def_ 21 (d := d_plain) rfl
  have e_plain := He.glo_ok X G (c.fact 21 (f := .glo "plain") rfl)
  obtain ⟨fd_check_full_word, F_check_full_word⟩ := c.def_ 22 (d := d_check_full_word) rfl
  have e_check_full_word := He.glo_ok X G (c.fact 22 (f := .glo "check_full_word") rfl)
  obtain ⟨fd_borders, F_borders⟩ := c.def_ 23 (d := d_borders) rfl
  have e_borders := He.glo_ok X G (c.fact 23 (f := .glo "borders") rfl)
  obtain ⟨fd_period_of, F_period_of⟩ := c.def_ 24 (d := d_period_of) rfl
  have e_period_of := He.glo_ok X G (c.fact 24 (f := .glo "period_of") rfl)
  obtain ⟨fd_root, F_root⟩ := c.def_ 25 (d := d_root) rfl
  have e_root := He.glo_ok X G (c.fact 25 (f := .glo "root") rfl)
  obtain ⟨fd_form_times, F_form_times⟩ := c.def_ 26 (d := d_form_times) rfl
  have e_form_times := He.glo_ok X G (c.fact 26 (f := .glo "form_times") rfl)
  obtain ⟨fd_going_back, F_going_back⟩ := c.def_ 27 (d := d_going_back) rfl
  have e_going_back := He.glo_ok X G (c.fact 27 (f := .glo "going_back") rfl)
  obtain ⟨fd_turned_back, F_turned_back⟩ := c.def_ 28 (d := d_turned_back) rfl
  have e_turned_back := He.glo_ok X G (c.fact 28 (f := .glo "turned_back") rfl)
  obtain ⟨fd_push_word, F_push_word⟩ := c.def_ 29 (d := d_push_word) rfl
  have e_push_word := He.glo_ok X G (c.fact 29 (f := .glo "push_word") rfl)
  obtain ⟨fd_form_sum, F_form_sum⟩ := c.def_ 30 (d := d_form_sum) rfl
  have e_form_sum := He.glo_ok X G (c.fact 30 (f := .glo "form_sum") rfl)
  obtain ⟨fd_push_power, F_push_power⟩ := c.def_ 31 (d := d_push_power) rfl
  have e_push_power := He.glo_ok X G (c.fact 31 (f := .glo "push_power") rfl)
  obtain ⟨fd_normal_pieces, F_normal_pieces⟩ := c.def_ 32 (d := d_normal_pieces) rfl
  have e_normal_pieces := He.glo_ok X G (c.fact 32 (f := .glo "normal_pieces") rfl)
  obtain ⟨fd_normal, F_normal⟩ := c.def_ 33 (d := d_normal) rfl
  have e_normal := He.glo_ok X G (c.fact 33 (f := .glo "normal") rfl)
  obtain ⟨fd_law_are_pieces, F_law_are_pieces⟩ := c.def_ 34 (d := d_law_are_pieces) rfl
  have e_law_are_pieces := He.glo_ok X G (c.fact 34 (f := .glo "_law_are_pieces") rfl)
  obtain ⟨fd_law_primitive, F_law_primitive⟩ := c.def_ 35 (d := d_law_primitive) rfl
  have e_law_primitive := He.glo_ok X G (c.fact 35 (f := .glo "_law_primitive") rfl)
  obtain ⟨fd_law_is_normal, F_law_is_normal⟩ := c.def_ 36 (d := d_law_is_normal) rfl
  have e_law_is_normal := He.glo_ok X G (c.fact 36 (f := .glo "_law_is_normal") rfl)
  obtain ⟨fd_law_point, F_law_point⟩ := c.def_ 37 (d := d_law_point) rfl
  have e_law_point := He.glo_ok X G (c.fact 37 (f := .glo "_law_point") rfl)
  obtain ⟨fd_law_value, F_law_value⟩ := c.def_ 38 (d := d_law_value) rfl
  have e_law_value := He.glo_ok X G (c.fact 38 (f := .glo "_law_value") rfl)
  obtain ⟨fd_law_write, F_law_write⟩ := c.def_ 39 (d := d_law_write) rfl
  have e_law_write := He.glo_ok X G (c.fact 39 (f := .glo "_law_write") rfl)
  obtain ⟨fd_law_measure, F_law_measure⟩ := c.def_ 40 (d := d_law_measure) rfl
  have e_law_measure := He.glo_ok X G (c.fact 40 (f := .glo "_law_measure") rfl)
  obtain ⟨fd_is_normal, F_is_normal⟩ := c.def_ 41 (d := d_is_normal) rfl
  have e_is_normal := He.glo_ok X G (c.fact 41 (f := .glo "is_normal") rfl)
  obtain ⟨fd_law_yes, F_law_yes⟩ := c.def_ 42 (d := d_law_yes) rfl
  have e_law_yes := He.glo_ok X G (c.fact 42 (f := .glo "_law_yes") rfl)
  obtain ⟨fd_law_right, F_law_right⟩ := c.def_ 43 (d := d_law_right) rfl
  have e_law_right := He.glo_ok X G (c.fact 43 (f := .glo "_law_right") rfl)
  obtain ⟨fd_law, F_law⟩ := c.def_ 44 (d := d_law) rfl
  have e_law := He.glo_ok X G (c.fact 44 (f := .glo "law") rfl)
  have B : Bl mg := ⟨He.free_ok X G (c.fact 45 (f := .free "len") rfl), He.free_ok X G (c.fact 46 (f := .free "sum") rfl), He.free_ok X G (c.fact 47 (f := .free "int") rfl), He.free_ok X G (c.fact 48 (f := .free "max") rfl), He.free_ok X G (c.fact 49 (f := .free "range") rfl), He.free_ok X G (c.fact 50 (f := .free "list") rfl), He.free_ok X G (c.fact 51 (f := .free "tuple") rfl), He.free_ok X G (c.fact 52 (f := .free "isinstance") rfl), He.free_ok X G (c.fact 53 (f := .free "bool") rfl), He.free_ok X G (c.fact 54 (f := .free "str") rfl), He.free_ok X G (c.fact 55 (f := .free "zip") rfl)⟩
  have cMOST_UNKNOWNS0 := He.int_ok X G (c.fact 56 (f := .int "MOST_UNKNOWNS" 3) rfl)
  have cLETTERS0 := He.str_ok X G (c.fact 57 (f := .str "LETTERS" ("abcdefghijklmnopqrstuvwxyz" : Str)) rfl)
  have cMOST_PIECE_LETTERS0 := He.int_ok X G (c.fact 58 (f := .int "MOST_PIECE_LETTERS" 2000) rfl)
  have cMOST_PIECES0 := He.int_ok X G (c.fact 59 (f := .int "MOST_PIECES" 5000) rfl)
  have cMOST_MEASURE0 := He.int_ok X G (c.fact 60 (f := .int "MOST_MEASURE" 2000) rfl)
  have cMOST_LETTERS0 := He.int_ok X G (c.fact 61 (f := .int "MOST_LETTERS" 20000) rfl)
  cases hfa.symm.trans e_law
  have b := FunD.bindsA (ps := P_law) F_law fun _ _ _ _ _ _ us hl => match us, hl with | [_], _ => rfl
  refine ⟨fd_law, fun s v => b s [v] rfl, fun base _ _ => ?_⟩
  have G_law_cell : Has P w K mg base "_law_cell" 1 P_law_cell T_law_cell := ok_law_cell B  F_law_cell e_law_cell (m_law_cell)
  have G_law_generator : Has P w K mg base "_law_generator" 2 P_law_generator T_law_generator := ok_law_generator B G_law_cell F_law_generator e_law_generator (m_law_generator)
  have G_law_hash : Has P w K mg base "_law_hash" 1 P_law_hash T_law_hash := ok_law_hash B  F_law_hash e_law_hash (m_law_hash)
  have G_law_random : Has P w K mg base "_law_random" 2 P_law_random T_law_random := ok_law_random B G_law_hash F_law_random e_law_random (m_law_random)
  have G_law_letters : Has P w K mg base "_law_letters" 3 P_law_letters T_law_letters := ok_law_letters B G_law_random F_law_letters e_law_letters (m_law_letters)
  have G_law_word : Has P w K mg base "_law_word" 3 P_law_word T_law_word := ok_law_word B G_law_random F_law_word e_law_word (m_law_word)
  have G_law_plain : Has P w K mg base "_law_plain" 1 P_law_plain T_law_plain := ok_law_plain B  F_law_plain e_law_plain (m_law_plain)
  have G_law_form : Has P w K mg base "_law_form" 3 P_law_form T_law_form := ok_law_form B G_law_random F_law_form e_law_form (m_law_form)
  have G_law_piece : Has P w K mg base "_law_piece" 4 P_law_piece T_law_piece := ok_law_piece B G_law_random G_law_plain G_law_word G_law_form F_law_piece e_law_piece (m_law_piece)
  have G_law_raw : Has P w K mg base "_law_raw" 5 P_law_raw T_law_raw := ok_law_raw B G_law_random G_law_word G_law_piece F_law_raw e_law_raw (m_law_raw)
  have G_is_whole : Has P w K mg base "is_whole" 1 P_is_whole T_is_whole := ok_is_whole B  F_is_whole e_is_whole (m_is_whole)
  have G_is_between : Has P w K mg base "is_between" 2 P_is_between T_is_between := ok_is_between B G_is_whole F_is_between e_is_between (m_is_between)
  have G_check_number : Has P w K mg base "check_number" 3 P_check_number T_check_number := ok_check_number B G_is_between F_check_number e_check_number (m_check_number)
  have G_check_many : Has P w K mg base "check_many" 4 P_check_many T_check_many := ok_check_many B cMOST_UNKNOWNS0 G_check_number F_check_many e_check_many (m_check_many)
  have G_is_letters : Has P w K mg base "is_letters" 1 P_is_letters T_is_letters := ok_is_letters B cLETTERS0 F_is_letters e_is_letters (m_is_letters)
  have G_are_counts : Has P w K mg base "are_counts" 3 P_are_counts T_are_counts := ok_are_counts B G_is_between F_are_counts e_are_counts (m_are_counts)
  have G_is_form_for : Has P w K mg base "is_form_for" 4 P_is_form_for T_is_form_for := ok_is_form_for B G_are_counts F_is_form_for e_is_form_for (m_is_form_for)
  have G_is_piece : Has P w K mg base "is_piece" 5 P_is_piece T_is_piece := ok_is_piece B cMOST_PIECE_LETTERS0 G_is_letters G_is_form_for F_is_piece e_is_piece (m_is_piece)
  have G_is_open_form : Has P w K mg base "is_open_form" 1 P_is_open_form T_is_open_form := ok_is_open_form B  F_is_open_form e_is_open_form (m_is_open_form)
  have G_measure : Has P w K mg base "measure" 2 P_measure T_measure := ok_measure B G_is_open_form F_measure e_measure (m_measure)
  have G_check_pieces : Has P w K mg base "check_pieces" 6 P_check_pieces T_check_pieces := ok_check_pieces B cMOST_PIECES0 cMOST_MEASURE0 G_check_many G_is_piece G_measure F_check_pieces e_check_pieces (m_check_pieces)
  have G_plain : Has P w K mg base "plain" 1 P_plain T_plain := ok_plain B  F_plain e_plain (m_plain)
  have G_check_full_word : Has P w K mg base "check_full_word" 2 P_check_full_word T_check_full_word := ok_check_full_word B G_is_letters F_check_full_word e_check_full_word (m_check_full_word)
  have G_borders : Has P w K mg base "borders" 1 P_borders T_borders := ok_borders B  F_borders e_borders (m_borders)
  have G_period_of : Has P w K mg base "period_of" 2 P_period_of T_period_of := ok_period_of B G_borders F_period_of e_period_of (m_period_of)
  have G_root : Has P w K mg base "root" 3 P_root T_root := ok_root B cMOST_LETTERS0 G_check_full_word G_period_of F_root e_root (m_root)
  have G_form_times : Has P w K mg base "form_times" 1 P_form_times T_form_times := ok_form_times B  F_form_times e_form_times (m_form_times)
  have G_going_back : Has P w K mg base "going_back" 1 P_going_back T_going_back := ok_going_back B  F_going_back e_going_back (m_going_back)
  have G_turned_back : Has P w K mg base "turned_back" 1 P_turned_back T_turned_back := ok_turned_back B  F_turned_back e_turned_back (m_turned_back)
  have G_push_word : Has P w K mg base "push_word" 1 P_push_word T_push_word := ok_push_word B  F_push_word e_push_word (m_push_word)
  have G_form_sum : Has P w K mg base "form_sum" 1 P_form_sum T_form_sum := ok_form_sum B  F_form_sum e_form_sum (m_form_sum)
  have G_push_power : Has P w K mg base "push_power" 2 P_push_power T_push_power := ok_push_power B G_going_back G_turned_back G_push_word G_form_sum F_push_power e_push_power (m_push_power)
  have G_normal_pieces : Has P w K mg base "normal_pieces" 4 P_normal_pieces T_normal_pieces := ok_normal_pieces B G_plain G_is_open_form G_root G_form_times G_push_power G_push_word F_normal_pieces e_normal_pieces (m_normal_pieces)
  have G_normal : Has P w K mg base "normal" 7 P_normal T_normal := ok_normal B G_check_pieces G_normal_pieces F_normal e_normal (m_normal)
  have G_law_are_pieces : Has P w K mg base "_law_are_pieces" 1 P_law_are_pieces T_law_are_pieces := ok_law_are_pieces B  F_law_are_pieces e_law_are_pieces (m_law_are_pieces)
  have G_law_primitive : Has P w K mg base "_law_primitive" 1 P_law_primitive T_law_primitive := ok_law_primitive B  F_law_primitive e_law_primitive (m_law_primitive)
  have G_law_is_normal : Has P w K mg base "_law_is_normal" 2 P_law_is_normal T_law_is_normal := ok_law_is_normal B G_law_primitive G_law_plain F_law_is_normal e_law_is_normal (m_law_is_normal)
  have G_law_point : Has P w K mg base "_law_point" 3 P_law_point T_law_point := ok_law_point B G_law_random F_law_point e_law_point (m_law_point)
  have G_law_value : Has P w K mg base "_law_value" 1 P_law_value T_law_value := ok_law_value B  F_law_value e_law_value (m_law_value)
  have G_law_write : Has P w K mg base "_law_write" 2 P_law_write T_law_write := ok_law_write B G_law_value F_law_write e_law_write (m_law_write)
  have G_law_measure : Has P w K mg base "_law_measure" 1 P_law_measure T_law_measure := ok_law_measure B  F_law_measure e_law_measure (m_law_measure)
  have G_is_normal : Has P w K mg base "is_normal" 6 P_is_normal T_is_normal := ok_is_normal B cMOST_PIECES0 cMOST_MEASURE0 G_check_many G_is_piece G_measure G_normal_pieces F_is_normal e_is_normal (m_is_normal)
  have G_law_yes : Has P w K mg base "_law_yes" 1 P_law_yes T_law_yes := ok_law_yes B  F_law_yes e_law_yes (m_law_yes)
  have G_law_right : Has P w K mg base "_law_right" 8 P_law_right T_law_right := ok_law_right B G_law_letters G_law_random G_law_raw G_normal G_law_are_pieces G_law_is_normal G_law_point G_law_write G_law_measure G_is_normal G_law_yes G_law_plain F_law_right e_law_right (m_law_right)
  exact ok_law B G_law_generator G_law_right F_law e_law (m_law)
end L12
open PySem PySem.W PySem.Calls PyProof.Rows
theorem PySem.Challenge.cw_countreaders_k12_normal_lists_holds : PySem.Challenge.rw_countreaders_k12_normal_lists.Holds := by
  w_on; o_law
  refine HandSHeadRun.head_any (r := OpenLaw.row PySem.Challenge.rw_countreaders_k12_normal_lists) (q := view (OpenLaw.row PySem.Challenge.rw_countreaders_k12_normal_lists).prog [62]) (H := L12.hk) (ob := L12.ob) (M := 8000) (loose := L12.loose) (d := HandSHeadRun.topDef (OpenLaw.row PySem.Challenge.rw_countreaders_k12_normal_lists).prog 62) (kwd := []) L12.ob_eq
    (by kernel_rfl) (fun s => by kernel_rfl) L12.run (by kernel_rfl) (by kernel_rfl) (by kernel_rfl) (by rfl) (by first | assumption | decide +kernel) (by decide +kernel) ⟨rfl, rfl, rfl, rfl, rfl, by decide +kernel⟩ ?hw ?hc
  case hw => w_witness2
  case hc =>
    refine Cr.walk_G (l := PySem.Challenge.rw_countreaders_k12_normal_lists) (n := 63) (k := 9) (x := "script") rfl (by decide) (by kernel_rfl) ⟨rfl, by decide, by decide⟩ ?F
    intro w mg fa h Y G hmg0
    obtain ⟨K, KX, c, hex⟩ := Y
    have hmg : mg ("law" : PySem.Str) = some (.ref fa) := by
      have e : (HandSHeadRun.topDef (OpenLaw.row PySem.Challenge.rw_countreaders_k12_normal_lists).prog 62).name = ("law" : PySem.Str) := by kernel_rfl
      rw [← e]
      exact hmg0
    obtain ⟨fd, hb, hF⟩ := L12.facts (P := (PySem.Challenge.rw_countreaders_k12_normal_lists).prog) (w := w) KX G hmg c hex
    exact ⟨K, fd, Cr.SpD K L12.T_law, KX, hb, fun H a ns hl h2 hS => Cr.law_sp hl h2 hS, hF⟩
