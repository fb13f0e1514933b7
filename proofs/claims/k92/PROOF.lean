import PyProof.Rows.All
import Wide.All
import OpenK.AllK
import Wide.FinOn
import KE.KStateDown
import KE.KNest
import KE.KIsAll
import KE.KTryMore
import KE.KExcLine
import HandS.Head2
import HandS.HeadHook3
import HandS.Ends
import HandS.Words
import HandS.ForMost
import HandS.Defaults
import HandS.Flow
import HandS.Lambda
import HandS.TupAny
import HandS.IsInst
import HandS.Conv
import HandS.Deep
import HandS.FStr
import KE.GoesEnum
import KE.GoesEnumKw
import HandS.Style
import HandS.RaiseMore
import PyProof.InstNe
import HandS.Dict
import HandS.Strs
import HandS.Property
import PyProof.P3In
import HandS.Text
import HandS.ListItems
import HandS.Star
import KE.KDictSum
import HandS.Iter
import KE.KEqDict
import HandS.Zip
import PyProof.EqKinds
import HandS.NoneIn
import HandS.Small
import HandS.More
import HandS.Replace
import HandS.ExcInit
import HandS.ExcOwn
import HandS.ExcField
import HandS.TryMany
import KE.KExcInit
import HandS.ExcIs
import HandS.EndTab
import HandS.OwnEq
import PySem.Challenge.RW_chargeways_k92_lines_of_deeds
set_option Elab.async false
set_option linter.all false
set_option maxRecDepth 100000
set_option maxHeartbeats 2000000
/-! the head by one kernel run (HandS.Head2), the objects read off the run: no state is written out -/
namespace Hk
open PySem PySem.Spec PySem.W
/-- an object that stays: one with a class; the statics, the module's names -/
def pickO (a : Addr) (o : Obj) : Bool := match o.cls with
  | .none => Nat.beq a 2 || Nat.beq a 3
  | _ => true
def frK (g : Addr → Option Obj) : List Addr → Frag → Frag
  | [], acc => acc
  | a :: r, acc => match g a with
    | some o => (match pickO a o with
      | true => frK g r ((a, o) :: acc)
      | false => frK g r acc)
    | none => frK g r acc
theorem frK_in {h : Heap} : ∀ (as : List Addr) (acc : Frag), acc.In h → (frK h.get? as acc).In h
  | [], acc, H => H
  | a :: r, acc, H => by
    unfold frK
    cases e : h.get? a with
    | none => exact frK_in r acc H
    | some o =>
      dsimp only
      cases pickO a o with
      | false => exact frK_in r acc H
      | true =>
        refine frK_in r _ fun b u hb => ?_
        rw [List.lookup_cons] at hb
        cases q : (b == a) with
        | true =>
          rw [q] at hb
          cases hb
          rw [beq_iff_eq.mp q]
          exact e
        | false =>
          rw [q] at hb
          exact H b u hb
def upTo : Nat → List Addr → List Addr
  | 0, l => l
  | n + 1, l => upTo n (n :: l)
/-- the same, the list forced ahead of what looks at it -/
def onK {α : Type} (g : Addr → Option Obj) (k : Frag → α) : List Addr → Frag → α
  | [], acc => k acc
  | a :: r, acc => match g a with
    | some o => (match pickO a o with
      | true => onK g k r ((a, o) :: acc)
      | false => onK g k r acc)
    | none => onK g k r acc
theorem onK_eq {α : Type} {g : Addr → Option Obj} {k : Frag → α} : ∀ (as : List Addr) (acc : Frag), onK g k as acc = k (frK g as acc)
  | [], acc => rfl
  | a :: r, acc => by
    unfold onK frK
    cases g a with
    | none => exact onK_eq r acc
    | some o =>
      dsimp only
      cases pickO a o with
      | false => exact onK_eq r acc
      | true => exact onK_eq r _
def hookH {α : Type} (as : List Addr) (ob : Frag → α) (va : α) : Hook where
  α := α
  obs := fun s => onK s.heap.get? ob as []
  val := fun _ => va
  says := fun _ h => ∃ K : Frag, K.In h ∧ ob K = va
  of := fun _ s e => ⟨_, frK_in as [] (fun _ _ z => nomatch z), (onK_eq (g := s.heap.get?) (k := ob) as []).symm.trans e⟩
  keeps := fun _ _ _ ⟨K, hK, c⟩ k => ⟨K, Frag.In.keeps hK k, c⟩
def obT {α : Type} (as : List Addr) (ob : Frag → α) (s : SharedT) : α := onK (HandSHeadRun.getT s) ob as []
theorem obT_K {α : Type} {as : List Addr} {ob : Frag → α} {s : SharedT} : obT as ob s = ob (frK (HandSHeadRun.getT s) as []) := onK_eq as []
/-! ### what the names tell -/
def ga (K : Frag) (x : Str) : Addr := match nsIn K mainGlobals x with
  | some (some (.ref a)) => a
  | _ => 0
def ma (K : Frag) (C : Addr) (m : Str) : Addr := match findIn K (.ref C) m with
  | some (some (.ref a)) => a
  | _ => 0
def addrV : Value → Addr
  | .ref a => a
  | _ => 0
def tokV : Value → Tok
  | .str _ t => t
  | .int _ t => t
  | _ => 0
def nsV (K : Frag) (x : Str) : Value := match nsIn K mainGlobals x with
  | some (some v) => v
  | _ => .none
def recL (K : Frag) (p : Addr) (T : String) : List Value := match recIn K p T with
  | some l => l
  | none => []
def tabP (K : Frag) (x : Str) : Addr × Addr := match tabIn K x with
  | some p => p
  | none => (0, 0)
def obK (K : Frag) (a : Addr) : Obj := match K.lookup a with
  | some o => o
  | none => default
def seqL (K : Frag) (a : Addr) : List Value := match (obK K a).data with
  | .seq vs _ => vs.toList
  | _ => []
def seqN (K : Frag) (a : Addr) : Nat := match (obK K a).data with
  | .seq _ n => n
  | _ => 0
def elV (K : Frag) (a : Addr) (i : Nat) : Value := match (seqL K a)[i]? with
  | some v => v
  | none => .none
/-- a tuple of these -/
def tupIs (K : Frag) (a : Addr) (l : List Value) : Bool := match K.lookup a with
  | some ⟨c, d, .seq vs _, _⟩ => decide (c = .type "tuple") && (d.isNone && decide (vs.toList = l))
  | _ => false
/-! ### a function's object -/
def fnD (K : Frag) (f : Addr) : FuncData := match (obK K f).data with
  | .func fd => fd
  | _ => default
/-- what the text writes of it -/
def fnW (K : Frag) (f : Addr) : Option FuncData := match K.lookup f with
  | some ⟨_, _, .func fd, _⟩ => some { fd with defaults := .none, kwdefaults := .none, doc := .none, pyModule := .none, annotations := none, code := .none, closureTuple := .none }
  | _ => none
def fnV (name qual : Str) (params : Arguments) (body : List Stmt) (scope : Scope) : FuncData := fnOf name qual params body scope .none .none .none .none none .none .none
theorem fn_of {K : Frag} {f : Addr} {name qual : Str} {params : Arguments} {body : List Stmt} {scope : Scope} {dV : Value} (h : fnW K f = some (fnV name qual params body scope)) (hd : (fnD K f).defaults = dV) :
    K.lookup f = some ⟨(obK K f).cls, (obK K f).dict, .func (fnOf name qual params body scope dV (fnD K f).kwdefaults (fnD K f).doc (fnD K f).pyModule (fnD K f).annotations (fnD K f).code (fnD K f).closureTuple), (obK K f).slots⟩ := by
  subst hd
  unfold fnW at h
  unfold fnD obK
  cases q : K.lookup f with
  | none => rw [q] at h; cases h
  | some o =>
    obtain ⟨c, d, dt, sl⟩ := o
    rw [q] at h
    cases dt with
    | func fd =>
      have e := Option.some.inj h
      obtain ⟨a1, a2, a3, a4, a5, a6, a7, a8, a9, a10, a11, a12, a13, a14, a15⟩ := fd
      unfold fnV fnOf at e
      simp only [FuncData.mk.injEq] at e
      obtain ⟨e1, e2, e3, e4, e5, e6, e7, -, -, -, -, -, -, -, e8⟩ := e
      subst e1 e2 e3 e4 e5 e6 e7 e8
      rfl
    | _ => cases h
theorem fn_ofc {K : Frag} {f : Addr} {name qual : Str} {params : Arguments} {body : List Stmt} {scope : Scope} {dV cV : Value} (h : fnW K f = some (fnV name qual params body scope)) (hd : (fnD K f).defaults = dV) (hc : (fnD K f).code = cV) :
    K.lookup f = some ⟨(obK K f).cls, (obK K f).dict, .func (fnOf name qual params body scope dV (fnD K f).kwdefaults (fnD K f).doc (fnD K f).pyModule (fnD K f).annotations cV (fnD K f).closureTuple), (obK K f).slots⟩ := by
  subst hc
  exact fn_of h hd
theorem ba {a b : Bool} (h : (a && b) = true) : a = true ∧ b = true := Bool.and_eq_true_iff.mp h
theorem de {p : Prop} [Decidable p] (h : decide p = true) : p := of_decide_eq_true h
end Hk

set_option Elab.async false
set_option linter.all false
set_option maxRecDepth 100000
set_option maxHeartbeats 2000000
/-! the same hook, what it tells by the world's parameters (the hashes of the keys of a dict at the top) -/
namespace Hk
open PySem PySem.Spec PySem.W
def hookW {α : Type} (as : List Addr) (ob : Frag → α) (va : World → α) : Hook where
  α := α
  obs := fun s => onK s.heap.get? ob as []
  val := fun w => va w
  says := fun w h => ∃ K : Frag, K.In h ∧ ob K = va w
  of := fun _ s e => ⟨_, frK_in as [] (fun _ _ z => nomatch z), (onK_eq (g := s.heap.get?) (k := ob) as []).symm.trans e⟩
  keeps := fun _ _ _ ⟨K, hK, c⟩ k => ⟨K, Frag.In.keeps hK k, c⟩
theorem obT_eqW {α : Type} (as : List Addr) (ob : Frag → α) (va : World → α) (s : SharedT) : obT as ob s = (hookW as ob va).obs s.abs := by
  unfold obT hookW
  dsimp only
  rw [show HandSHeadRun.getT s = s.abs.heap.get? from funext (HandSHeadRun.getT_eq s)]
def nsA (K : Frag) (a : Addr) (x : Str) : Value := match nsIn K a x with
  | some (some v) => v
  | _ => .none
end Hk

set_option Elab.async false
set_option linter.all false
set_option maxRecDepth 100000
set_option maxHeartbeats 0
namespace Rn
open PySem PySem.Spec PySem.Calls PyProof.Rows L2 HandSHeadRun
def top (i : Nat) : Stmt := PySem.Challenge.pw_chargeways_k92_lines_of_deeds.main.body.getD i (.Pass ⟨0, 0, 0, 0⟩)
abbrev s__law_draw : Stmt := top 17
abbrev s__law_pick : Stmt := top 18
abbrev s__law_lots : Stmt := top 19
abbrev s__law_number : Stmt := top 20
abbrev s__law_act : Stmt := top 21
abbrev s__law_spelled : Stmt := top 22
abbrev s__law_heard : Stmt := top 26
abbrev s_is_integer : Stmt := top 1
abbrev s_is_deed : Stmt := top 8
abbrev s_line_of : Stmt := top 13
abbrev s__law_integer : Stmt := top 23
abbrev s__law_read : Stmt := top 24
abbrev s_number_of : Stmt := top 12
abbrev s_read_deed : Stmt := top 14
abbrev s__law_line_right : Stmt := top 29
abbrev s__law_odd_acts : Stmt := top 27
abbrev s__law_act_right : Stmt := top 28
abbrev s__law_bent : Stmt := top 25
abbrev s__law_right : Stmt := top 30
abbrev s__law_pot : Stmt := top 16
abbrev s_law : Stmt := top 31
abbrev s_InvalidDeed___init__ : Stmt := inClass (top 4) 0
abbrev s_InvalidText___init__ : Stmt := inClass (top 5) 0
def v_C_InvalidDeed (K : PySem.W.Frag) : Addr := Hk.ga K "InvalidDeed"
def v_C_InvalidText (K : PySem.W.Frag) : Addr := Hk.ga K "InvalidText"
def v_f_InvalidDeed___init___ (K : PySem.W.Frag) : Addr := Hk.ma K (v_C_InvalidDeed K) "__init__"
def v_cd_InvalidDeed___init__ (K : PySem.W.Frag) : Value := (Hk.fnD K (v_f_InvalidDeed___init___ K)).code
def v_f_InvalidText___init___ (K : PySem.W.Frag) : Addr := Hk.ma K (v_C_InvalidText K) "__init__"
def v_cd_InvalidText___init__ (K : PySem.W.Frag) : Value := (Hk.fnD K (v_f_InvalidText___init___ K)).code
def v_C_WayError (K : PySem.W.Frag) : Addr := Hk.ga K "WayError"
def v_P__law_line_right_ (K : PySem.W.Frag) : Addr := (Hk.tabP K "_law_line_right").2
def v_P__law_act_right_ (K : PySem.W.Frag) : Addr := (Hk.tabP K "_law_act_right").2
def v_P__law_right_ (K : PySem.W.Frag) : Addr := (Hk.tabP K "_law_right").2
def v_f__law_draw_ (K : PySem.W.Frag) : Addr := Hk.ga K "_law_draw"
def v_cd__law_draw (K : PySem.W.Frag) : Value := (Hk.fnD K (v_f__law_draw_ K)).code
def v_f__law_pick_ (K : PySem.W.Frag) : Addr := Hk.ga K "_law_pick"
def v_cd__law_pick (K : PySem.W.Frag) : Value := (Hk.fnD K (v_f__law_pick_ K)).code
def v_f__law_lots_ (K : PySem.W.Frag) : Addr := Hk.ga K "_law_lots"
def v_cd__law_lots (K : PySem.W.Frag) : Value := (Hk.fnD K (v_f__law_lots_ K)).code
def v_f__law_number_ (K : PySem.W.Frag) : Addr := Hk.ga K "_law_number"
def v_cd__law_number (K : PySem.W.Frag) : Value := (Hk.fnD K (v_f__law_number_ K)).code
def v_f__law_act_ (K : PySem.W.Frag) : Addr := Hk.ga K "_law_act"
def v_cd__law_act (K : PySem.W.Frag) : Value := (Hk.fnD K (v_f__law_act_ K)).code
def v_f__law_spelled_ (K : PySem.W.Frag) : Addr := Hk.ga K "_law_spelled"
def v_cd__law_spelled (K : PySem.W.Frag) : Value := (Hk.fnD K (v_f__law_spelled_ K)).code
def v_f__law_heard_ (K : PySem.W.Frag) : Addr := Hk.ga K "_law_heard"
def v_cd__law_heard (K : PySem.W.Frag) : Value := (Hk.fnD K (v_f__law_heard_ K)).code
def v_f_is_integer_ (K : PySem.W.Frag) : Addr := Hk.ga K "is_integer"
def v_cd_is_integer (K : PySem.W.Frag) : Value := (Hk.fnD K (v_f_is_integer_ K)).code
def v_f_is_deed_ (K : PySem.W.Frag) : Addr := Hk.ga K "is_deed"
def v_cd_is_deed (K : PySem.W.Frag) : Value := (Hk.fnD K (v_f_is_deed_ K)).code
def v_f_line_of_ (K : PySem.W.Frag) : Addr := Hk.ga K "line_of"
def v_cd_line_of (K : PySem.W.Frag) : Value := (Hk.fnD K (v_f_line_of_ K)).code
def v_f__law_integer_ (K : PySem.W.Frag) : Addr := Hk.ga K "_law_integer"
def v_cd__law_integer (K : PySem.W.Frag) : Value := (Hk.fnD K (v_f__law_integer_ K)).code
def v_f__law_read_ (K : PySem.W.Frag) : Addr := Hk.ga K "_law_read"
def v_cd__law_read (K : PySem.W.Frag) : Value := (Hk.fnD K (v_f__law_read_ K)).code
def v_f_number_of_ (K : PySem.W.Frag) : Addr := Hk.ga K "number_of"
def v_cd_number_of (K : PySem.W.Frag) : Value := (Hk.fnD K (v_f_number_of_ K)).code
def v_f_read_deed_ (K : PySem.W.Frag) : Addr := Hk.ga K "read_deed"
def v_cd_read_deed (K : PySem.W.Frag) : Value := (Hk.fnD K (v_f_read_deed_ K)).code
def v_f__law_line_right_ (K : PySem.W.Frag) : Addr := Hk.ga K "_law_line_right"
def v_c__law_line_right_ (K : PySem.W.Frag) : Addr := (Hk.tabP K "_law_line_right").1
def v_f__law_odd_acts_ (K : PySem.W.Frag) : Addr := Hk.ga K "_law_odd_acts"
def v_cd__law_odd_acts (K : PySem.W.Frag) : Value := (Hk.fnD K (v_f__law_odd_acts_ K)).code
def v_f__law_act_right_ (K : PySem.W.Frag) : Addr := Hk.ga K "_law_act_right"
def v_c__law_act_right_ (K : PySem.W.Frag) : Addr := (Hk.tabP K "_law_act_right").1
def v_f__law_bent_ (K : PySem.W.Frag) : Addr := Hk.ga K "_law_bent"
def v_cd__law_bent (K : PySem.W.Frag) : Value := (Hk.fnD K (v_f__law_bent_ K)).code
def v_f__law_right_ (K : PySem.W.Frag) : Addr := Hk.ga K "_law_right"
def v_c__law_right_ (K : PySem.W.Frag) : Addr := (Hk.tabP K "_law_right").1
def v_f__law_pot_ (K : PySem.W.Frag) : Addr := Hk.ga K "_law_pot"
def v_cd__law_pot (K : PySem.W.Frag) : Value := (Hk.fnD K (v_f__law_pot_ K)).code
def v_f_law_ (K : PySem.W.Frag) : Addr := Hk.ga K "law"
def v_cd_law (K : PySem.W.Frag) : Value := (Hk.fnD K (v_f_law_ K)).code
def v_ad_DEED_NUMBERS (K : PySem.W.Frag) : Addr := Hk.ga K "DEED_NUMBERS"
def v_kk_DEED_NUMBERS_0 (K : PySem.W.Frag) : Tok := Hk.tokV (Hk.nsA K (v_ad_DEED_NUMBERS K) "group")
def v_kk_DEED_NUMBERS_1 (K : PySem.W.Frag) : Tok := Hk.tokV (Hk.nsA K (v_ad_DEED_NUMBERS K) "limit")
def v_kk_DEED_NUMBERS_2 (K : PySem.W.Frag) : Tok := Hk.tokV (Hk.nsA K (v_ad_DEED_NUMBERS K) "strike")
def v_kk_DEED_NUMBERS_3 (K : PySem.W.Frag) : Tok := Hk.tokV (Hk.nsA K (v_ad_DEED_NUMBERS K) "take")
def v_kk_DEED_NUMBERS_4 (K : PySem.W.Frag) : Tok := Hk.tokV (Hk.nsA K (v_ad_DEED_NUMBERS K) "give")
def v_kk_DEED_NUMBERS_5 (K : PySem.W.Frag) : Tok := Hk.tokV (Hk.nsA K (v_ad_DEED_NUMBERS K) "move")
def v_kk_DEED_NUMBERS_6 (K : PySem.W.Frag) : Tok := Hk.tokV (Hk.nsA K (v_ad_DEED_NUMBERS K) "lift")
def v_kk_DEED_NUMBERS_7 (K : PySem.W.Frag) : Tok := Hk.tokV (Hk.nsA K (v_ad_DEED_NUMBERS K) "settle")
def v_kk_DEED_NUMBERS_8 (K : PySem.W.Frag) : Tok := Hk.tokV (Hk.nsA K (v_ad_DEED_NUMBERS K) "step")
def v_tk_DIGITS (K : PySem.W.Frag) : Tok := Hk.tokV (Hk.nsV K "DIGITS")
def v_tk_NOTHING (K : PySem.W.Frag) : Tok := Hk.tokV (Hk.nsV K "NOTHING")
def v_fa (K : PySem.W.Frag) : Addr := Hk.ga K "law"
def bs0 (K : PySem.W.Frag) : Bool :=
  (decide (PySem.W.nsIn K mainGlobals "InvalidDeed" = some (some (.ref (v_C_InvalidDeed K))))) && (
  (decide (PySem.W.keepIn K (.ref (v_C_InvalidDeed K)) = true)) && (
  (decide (PySem.W.subIn K (.ref (v_C_InvalidDeed K)) (.type "BaseException") = some true)) && (
  (decide (PySem.W.typeIn K (.ref (v_C_InvalidDeed K)) = some (.type "type"))) && (
  (decide (PySem.W.excInitIn K (v_C_InvalidDeed K) [.type "ValueError", .type "Exception", .type "BaseException", .type "object"] "ValueError.__new__" = true)) && (
  (decide (PySem.W.excOver K (v_C_InvalidDeed K) [.type "ValueError", .type "Exception", .type "BaseException", .type "object"] = true)) && (
  (decide (PySem.W.hasDictIn K (v_C_InvalidDeed K) = true)) && (
  (decide (PySem.W.findIn K (.ref (v_C_InvalidDeed K)) "__setattr__" = some (some (.builtin "object.__setattr__")))) && (
  (decide (PySem.W.takerIn K (v_C_InvalidDeed K) "value" = some none)) && (
  (decide (PySem.W.findIn K (.ref (v_C_InvalidDeed K)) "__getattribute__" = some (some (.builtin "BaseException.__getattribute__")))) && (
  (decide (PySem.W.findIn K (.ref (v_C_InvalidDeed K)) "__getattr__" = some none)) && (
  (decide (PySem.W.findIn K (.ref (v_C_InvalidDeed K)) "value" = some none)) && (
  (decide (PySem.W.nsIn K mainGlobals "InvalidText" = some (some (.ref (v_C_InvalidText K))))) && (
  (decide (PySem.W.keepIn K (.ref (v_C_InvalidText K)) = true)) && (
  (decide (PySem.W.subIn K (.ref (v_C_InvalidText K)) (.type "BaseException") = some true)) && (
  (decide (PySem.W.typeIn K (.ref (v_C_InvalidText K)) = some (.type "type"))) && (
  (decide (PySem.W.excInitIn K (v_C_InvalidText K) [.type "ValueError", .type "Exception", .type "BaseException", .type "object"] "ValueError.__new__" = true)) && (
  (decide (PySem.W.excOver K (v_C_InvalidText K) [.type "ValueError", .type "Exception", .type "BaseException", .type "object"] = true)) && (
  (decide (PySem.W.hasDictIn K (v_C_InvalidText K) = true)) && (
  (decide (PySem.W.findIn K (.ref (v_C_InvalidText K)) "__setattr__" = some (some (.builtin "object.__setattr__")))) && (
  (decide (PySem.W.takerIn K (v_C_InvalidText K) "line" = some none)) && (
  (decide (PySem.W.findIn K (.ref (v_C_InvalidText K)) "__getattribute__" = some (some (.builtin "BaseException.__getattribute__")))) && (
  (decide (PySem.W.findIn K (.ref (v_C_InvalidText K)) "__getattr__" = some none)) && (
  (decide (PySem.W.findIn K (.ref (v_C_InvalidText K)) "line" = some none)) && (
  (decide (PySem.W.exmOne K (.ref (v_C_InvalidDeed K)) (.ref (v_C_InvalidDeed K)) = some true)) && (
  (decide (PySem.W.exmOne K (.ref (v_C_InvalidDeed K)) (.ref (v_C_InvalidText K)) = some false)) && (
  (decide (PySem.W.exmOne K (.ref (v_C_InvalidText K)) (.ref (v_C_InvalidDeed K)) = some false)) && (
  (decide (PySem.W.exmOne K (.ref (v_C_InvalidText K)) (.ref (v_C_InvalidText K)) = some true)) && (
  (decide (PySem.W.findIn K (.ref (v_C_InvalidDeed K)) "__init__" = some (some (.ref (v_f_InvalidDeed___init___ K))))) && (
  (decide (PySem.W.typeIn K (.ref (v_f_InvalidDeed___init___ K)) = some (.type "function"))) && (true))))))))))))))))))))))))))))))
def bs1 (K : PySem.W.Frag) : Bool :=
  (decide ((Hk.fnD K (v_f_InvalidDeed___init___ K)).defaults = .none)) && (
  (decide (PySem.W.codeIn K (v_cd_InvalidDeed___init__ K) "InvalidDeed.__init__" = true)) && (
  (decide (PySem.W.keepIn K (.ref (v_f_InvalidDeed___init___ K)) = true)) && (
  (decide (PySem.W.findIn K (.ref (v_C_InvalidText K)) "__init__" = some (some (.ref (v_f_InvalidText___init___ K))))) && (
  (decide (PySem.W.typeIn K (.ref (v_f_InvalidText___init___ K)) = some (.type "function"))) && (
  (decide ((Hk.fnD K (v_f_InvalidText___init___ K)).defaults = .none)) && (
  (decide (PySem.W.codeIn K (v_cd_InvalidText___init__ K) "InvalidText.__init__" = true)) && (
  (decide (PySem.W.keepIn K (.ref (v_f_InvalidText___init___ K)) = true)) && (
  (decide (PySem.W.nsIn K mainGlobals "WayError" = some (some (.ref (v_C_WayError K))))) && (
  (decide (PySem.W.findIn K (.ref (v_C_InvalidDeed K)) "__getattribute__" = some (some (.builtin "BaseException.__getattribute__")))) && (
  (decide (PySem.W.findIn K (.ref (v_C_InvalidDeed K)) "__getattr__" = some none)) && (
  (decide (PySem.W.subIn K (.ref (v_C_InvalidDeed K)) (.type "BaseException") = some true)) && (
  (decide (PySem.W.hasDictIn K (v_C_InvalidDeed K) = true)) && (
  (decide (PySem.W.findIn K (.ref (v_C_InvalidDeed K)) "__class__" = some (some (.builtin "object.__class__")))) && (
  (decide (PySem.W.specialIn K (.builtin "object.__class__") "__get__" = some (some (.builtin "getset_descriptor.__get__")))) && (
  (decide (PySem.W.takesIn K (.builtin "object.__class__") = some true)) && (
  (decide (PySem.W.mroIn K (v_C_InvalidDeed K) (.type "object") = some true)) && (
  (decide (PySem.W.findIn K (.ref (v_C_InvalidText K)) "__getattribute__" = some (some (.builtin "BaseException.__getattribute__")))) && (
  (decide (PySem.W.findIn K (.ref (v_C_InvalidText K)) "__getattr__" = some none)) && (
  (decide (PySem.W.subIn K (.ref (v_C_InvalidText K)) (.type "BaseException") = some true)) && (
  (decide (PySem.W.hasDictIn K (v_C_InvalidText K) = true)) && (
  (decide (PySem.W.findIn K (.ref (v_C_InvalidText K)) "__class__" = some (some (.builtin "object.__class__")))) && (
  (decide (PySem.W.specialIn K (.builtin "object.__class__") "__get__" = some (some (.builtin "getset_descriptor.__get__")))) && (
  (decide (PySem.W.takesIn K (.builtin "object.__class__") = some true)) && (
  (decide (PySem.W.mroIn K (v_C_InvalidText K) (.type "object") = some true)) && (
  (decide (PySem.W.kitOne K (.ref (v_C_InvalidDeed K)) (.ref (v_C_WayError K)) = some true)) && (
  (decide (PySem.W.kitOne K (.ref (v_C_InvalidText K)) (.ref (v_C_WayError K)) = some true)) && (
  (decide ((v_P__law_line_right_ K) ≠ (v_P__law_act_right_ K))) && (
  (decide ((v_P__law_right_ K) ≠ (v_P__law_act_right_ K))) && (
  (decide ((v_P__law_right_ K) ≠ (v_P__law_line_right_ K))) && (true))))))))))))))))))))))))))))))
def bs2 (K : PySem.W.Frag) : Bool :=
  (decide (PySem.W.nsIn K mainGlobals "_law_draw" = some (some (.ref (v_f__law_draw_ K))))) && (
  (decide ((Hk.fnD K (v_f__law_draw_ K)).defaults = .none)) && (
  (decide (PySem.W.codeIn K (v_cd__law_draw K) "_law_draw" = true)) && (
  (decide (PySem.W.keepIn K (.ref (v_f__law_draw_ K)) = true)) && (
  (decide (PySem.W.nsIn K mainGlobals "_law_pick" = some (some (.ref (v_f__law_pick_ K))))) && (
  (decide ((Hk.fnD K (v_f__law_pick_ K)).defaults = .none)) && (
  (decide (PySem.W.codeIn K (v_cd__law_pick K) "_law_pick" = true)) && (
  (decide (PySem.W.keepIn K (.ref (v_f__law_pick_ K)) = true)) && (
  (decide (PySem.W.nsIn K mainGlobals "_law_lots" = some (some (.ref (v_f__law_lots_ K))))) && (
  (decide ((Hk.fnD K (v_f__law_lots_ K)).defaults = .none)) && (
  (decide (PySem.W.codeIn K (v_cd__law_lots K) "_law_lots" = true)) && (
  (decide (PySem.W.keepIn K (.ref (v_f__law_lots_ K)) = true)) && (
  (decide (PySem.W.nsIn K mainGlobals "_law_number" = some (some (.ref (v_f__law_number_ K))))) && (
  (decide ((Hk.fnD K (v_f__law_number_ K)).defaults = .none)) && (
  (decide (PySem.W.codeIn K (v_cd__law_number K) "_law_number" = true)) && (
  (decide (PySem.W.keepIn K (.ref (v_f__law_number_ K)) = true)) && (
  (decide (PySem.W.nsIn K mainGlobals "_law_act" = some (some (.ref (v_f__law_act_ K))))) && (
  (decide ((Hk.fnD K (v_f__law_act_ K)).defaults = .none)) && (
  (decide (PySem.W.codeIn K (v_cd__law_act K) "_law_act" = true)) && (
  (decide (PySem.W.keepIn K (.ref (v_f__law_act_ K)) = true)) && (
  (decide (PySem.W.nsIn K mainGlobals "_law_spelled" = some (some (.ref (v_f__law_spelled_ K))))) && (
  (decide ((Hk.fnD K (v_f__law_spelled_ K)).defaults = .none)) && (
  (decide (PySem.W.codeIn K (v_cd__law_spelled K) "_law_spelled" = true)) && (
  (decide (PySem.W.keepIn K (.ref (v_f__law_spelled_ K)) = true)) && (
  (decide (PySem.W.nsIn K mainGlobals "_law_heard" = some (some (.ref (v_f__law_heard_ K))))) && (
  (decide ((Hk.fnD K (v_f__law_heard_ K)).defaults = .none)) && (
  (decide (PySem.W.codeIn K (v_cd__law_heard K) "_law_heard" = true)) && (
  (decide (PySem.W.keepIn K (.ref (v_f__law_heard_ K)) = true)) && (
  (decide (PySem.W.nsIn K mainGlobals "is_integer" = some (some (.ref (v_f_is_integer_ K))))) && (
  (decide ((Hk.fnD K (v_f_is_integer_ K)).defaults = .none)) && (true))))))))))))))))))))))))))))))
def bs3 (K : PySem.W.Frag) : Bool :=
  (decide (PySem.W.codeIn K (v_cd_is_integer K) "is_integer" = true)) && (
  (decide (PySem.W.keepIn K (.ref (v_f_is_integer_ K)) = true)) && (
  (decide (PySem.W.nsIn K mainGlobals "is_deed" = some (some (.ref (v_f_is_deed_ K))))) && (
  (decide ((Hk.fnD K (v_f_is_deed_ K)).defaults = .none)) && (
  (decide (PySem.W.codeIn K (v_cd_is_deed K) "is_deed" = true)) && (
  (decide (PySem.W.keepIn K (.ref (v_f_is_deed_ K)) = true)) && (
  (decide (PySem.W.nsIn K mainGlobals "line_of" = some (some (.ref (v_f_line_of_ K))))) && (
  (decide ((Hk.fnD K (v_f_line_of_ K)).defaults = .none)) && (
  (decide (PySem.W.codeIn K (v_cd_line_of K) "line_of" = true)) && (
  (decide (PySem.W.keepIn K (.ref (v_f_line_of_ K)) = true)) && (
  (decide (PySem.W.nsIn K mainGlobals "_law_integer" = some (some (.ref (v_f__law_integer_ K))))) && (
  (decide ((Hk.fnD K (v_f__law_integer_ K)).defaults = .none)) && (
  (decide (PySem.W.codeIn K (v_cd__law_integer K) "_law_integer" = true)) && (
  (decide (PySem.W.keepIn K (.ref (v_f__law_integer_ K)) = true)) && (
  (decide (PySem.W.nsIn K mainGlobals "_law_read" = some (some (.ref (v_f__law_read_ K))))) && (
  (decide ((Hk.fnD K (v_f__law_read_ K)).defaults = .none)) && (
  (decide (PySem.W.codeIn K (v_cd__law_read K) "_law_read" = true)) && (
  (decide (PySem.W.keepIn K (.ref (v_f__law_read_ K)) = true)) && (
  (decide (PySem.W.nsIn K mainGlobals "number_of" = some (some (.ref (v_f_number_of_ K))))) && (
  (decide ((Hk.fnD K (v_f_number_of_ K)).defaults = .none)) && (
  (decide (PySem.W.codeIn K (v_cd_number_of K) "number_of" = true)) && (
  (decide (PySem.W.keepIn K (.ref (v_f_number_of_ K)) = true)) && (
  (decide (PySem.W.nsIn K mainGlobals "read_deed" = some (some (.ref (v_f_read_deed_ K))))) && (
  (decide ((Hk.fnD K (v_f_read_deed_ K)).defaults = .none)) && (
  (decide (PySem.W.codeIn K (v_cd_read_deed K) "read_deed" = true)) && (
  (decide (PySem.W.keepIn K (.ref (v_f_read_deed_ K)) = true)) && (
  (decide (PySem.W.nsIn K mainGlobals "_law_line_right" = some (some (.ref (v_f__law_line_right_ K))))) && (
  (decide (PySem.W.tabIn K "_law_line_right" = some ((v_c__law_line_right_ K), (v_P__law_line_right_ K)))) && (
  ((K.lookup (v_P__law_line_right_ K)).isNone) && (
  (decide ((Hk.fnD K (v_f__law_line_right_ K)).defaults = .none ∧ (Hk.fnD K (v_f__law_line_right_ K)).code = (.ref (v_c__law_line_right_ K)))) && (true))))))))))))))))))))))))))))))
def bs4 (K : PySem.W.Frag) : Bool :=
  (decide (PySem.W.codeIn K (.ref (v_c__law_line_right_ K)) "_law_line_right" = true)) && (
  (decide (PySem.W.keepIn K (.ref (v_f__law_line_right_ K)) = true)) && (
  (decide (PySem.W.nsIn K mainGlobals "_law_odd_acts" = some (some (.ref (v_f__law_odd_acts_ K))))) && (
  (decide ((Hk.fnD K (v_f__law_odd_acts_ K)).defaults = .none)) && (
  (decide (PySem.W.codeIn K (v_cd__law_odd_acts K) "_law_odd_acts" = true)) && (
  (decide (PySem.W.keepIn K (.ref (v_f__law_odd_acts_ K)) = true)) && (
  (decide (PySem.W.nsIn K mainGlobals "_law_act_right" = some (some (.ref (v_f__law_act_right_ K))))) && (
  (decide (PySem.W.tabIn K "_law_act_right" = some ((v_c__law_act_right_ K), (v_P__law_act_right_ K)))) && (
  ((K.lookup (v_P__law_act_right_ K)).isNone) && (
  (decide ((Hk.fnD K (v_f__law_act_right_ K)).defaults = .none ∧ (Hk.fnD K (v_f__law_act_right_ K)).code = (.ref (v_c__law_act_right_ K)))) && (
  (decide (PySem.W.codeIn K (.ref (v_c__law_act_right_ K)) "_law_act_right" = true)) && (
  (decide (PySem.W.keepIn K (.ref (v_f__law_act_right_ K)) = true)) && (
  (decide (PySem.W.nsIn K mainGlobals "_law_bent" = some (some (.ref (v_f__law_bent_ K))))) && (
  (decide ((Hk.fnD K (v_f__law_bent_ K)).defaults = .none)) && (
  (decide (PySem.W.codeIn K (v_cd__law_bent K) "_law_bent" = true)) && (
  (decide (PySem.W.keepIn K (.ref (v_f__law_bent_ K)) = true)) && (
  (decide (PySem.W.nsIn K mainGlobals "_law_right" = some (some (.ref (v_f__law_right_ K))))) && (
  (decide (PySem.W.tabIn K "_law_right" = some ((v_c__law_right_ K), (v_P__law_right_ K)))) && (
  ((K.lookup (v_P__law_right_ K)).isNone) && (
  (decide ((Hk.fnD K (v_f__law_right_ K)).defaults = .none ∧ (Hk.fnD K (v_f__law_right_ K)).code = (.ref (v_c__law_right_ K)))) && (
  (decide (PySem.W.codeIn K (.ref (v_c__law_right_ K)) "_law_right" = true)) && (
  (decide (PySem.W.keepIn K (.ref (v_f__law_right_ K)) = true)) && (
  (decide (PySem.W.nsIn K mainGlobals "_law_pot" = some (some (.ref (v_f__law_pot_ K))))) && (
  (decide ((Hk.fnD K (v_f__law_pot_ K)).defaults = .none)) && (
  (decide (PySem.W.codeIn K (v_cd__law_pot K) "_law_pot" = true)) && (
  (decide (PySem.W.keepIn K (.ref (v_f__law_pot_ K)) = true)) && (
  (decide (PySem.W.nsIn K mainGlobals "law" = some (some (.ref (v_f_law_ K))))) && (
  (decide ((Hk.fnD K (v_f_law_ K)).defaults = .none)) && (
  (decide (PySem.W.codeIn K (v_cd_law K) "law" = true)) && (
  (decide (PySem.W.keepIn K (.ref (v_f_law_ K)) = true)) && (true))))))))))))))))))))))))))))))
def bs5 (K : PySem.W.Frag) : Bool :=
  (decide (PySem.W.nsIn K mainGlobals "abs" = some none)) && (
  (decide (PySem.W.nsIn K mainGlobals "all" = some none)) && (
  (decide (PySem.W.nsIn K mainGlobals "bool" = some none)) && (
  (decide (PySem.W.nsIn K mainGlobals "divmod" = some none)) && (
  (decide (PySem.W.nsIn K mainGlobals "int" = some none)) && (
  (decide (PySem.W.nsIn K mainGlobals "isinstance" = some none)) && (
  (decide (PySem.W.nsIn K mainGlobals "len" = some none)) && (
  (decide (PySem.W.nsIn K mainGlobals "list" = some none)) && (
  (decide (PySem.W.nsIn K mainGlobals "max" = some none)) && (
  (decide (PySem.W.nsIn K mainGlobals "min" = some none)) && (
  (decide (PySem.W.nsIn K mainGlobals "range" = some none)) && (
  (decide (PySem.W.nsIn K mainGlobals "repr" = some none)) && (
  (decide (PySem.W.nsIn K mainGlobals "str" = some none)) && (
  (decide (PySem.W.nsIn K mainGlobals "tuple" = some none)) && (
  (decide (PySem.W.nsIn K mainGlobals "DEED_NUMBERS" = some (some (.ref (v_ad_DEED_NUMBERS K))))) && (
  (decide (PySem.W.nsIn K (v_ad_DEED_NUMBERS K) "group" = some (some (.int 1 (v_kk_DEED_NUMBERS_0 K))))) && (
  (decide (PySem.W.nsIn K (v_ad_DEED_NUMBERS K) "limit" = some (some (.int 2 (v_kk_DEED_NUMBERS_1 K))))) && (
  (decide (PySem.W.nsIn K (v_ad_DEED_NUMBERS K) "strike" = some (some (.int 1 (v_kk_DEED_NUMBERS_2 K))))) && (
  (decide (PySem.W.nsIn K (v_ad_DEED_NUMBERS K) "take" = some (some (.int 2 (v_kk_DEED_NUMBERS_3 K))))) && (
  (decide (PySem.W.nsIn K (v_ad_DEED_NUMBERS K) "give" = some (some (.int 2 (v_kk_DEED_NUMBERS_4 K))))) && (
  (decide (PySem.W.nsIn K (v_ad_DEED_NUMBERS K) "move" = some (some (.int 3 (v_kk_DEED_NUMBERS_5 K))))) && (
  (decide (PySem.W.nsIn K (v_ad_DEED_NUMBERS K) "lift" = some (some (.int 2 (v_kk_DEED_NUMBERS_6 K))))) && (
  (decide (PySem.W.nsIn K (v_ad_DEED_NUMBERS K) "settle" = some (some (.int 2 (v_kk_DEED_NUMBERS_7 K))))) && (
  (decide (PySem.W.nsIn K (v_ad_DEED_NUMBERS K) "step" = some (some (.int 1 (v_kk_DEED_NUMBERS_8 K))))) && (
  (decide (PySem.W.nsIn K mainGlobals "DIGITS" = some (some (.str "0123456789" (v_tk_DIGITS K))))) && (
  (decide (PySem.W.nsIn K mainGlobals "NOTHING" = some (some (.str "none" (v_tk_NOTHING K))))) && (true))))))))))))))))))))))))))
def fnL (K : PySem.W.Frag) : List (Option FuncData) := [Hk.fnW K (v_f_InvalidDeed___init___ K), Hk.fnW K (v_f_InvalidText___init___ K), Hk.fnW K (v_f__law_draw_ K), Hk.fnW K (v_f__law_pick_ K), Hk.fnW K (v_f__law_lots_ K), Hk.fnW K (v_f__law_number_ K), Hk.fnW K (v_f__law_act_ K), Hk.fnW K (v_f__law_spelled_ K), Hk.fnW K (v_f__law_heard_ K), Hk.fnW K (v_f_is_integer_ K), Hk.fnW K (v_f_is_deed_ K), Hk.fnW K (v_f_line_of_ K), Hk.fnW K (v_f__law_integer_ K), Hk.fnW K (v_f__law_read_ K), Hk.fnW K (v_f_number_of_ K), Hk.fnW K (v_f_read_deed_ K), Hk.fnW K (v_f__law_line_right_ K), Hk.fnW K (v_f__law_odd_acts_ K), Hk.fnW K (v_f__law_act_right_ K), Hk.fnW K (v_f__law_bent_ K), Hk.fnW K (v_f__law_right_ K), Hk.fnW K (v_f__law_pot_ K), Hk.fnW K (v_f_law_ K)]
def fnR : List (Option FuncData) := [some (Hk.fnV "__init__" "InvalidDeed.__init__" (defArgs s_InvalidDeed___init__) (defBody s_InvalidDeed___init__) (defScope s_InvalidDeed___init__)), some (Hk.fnV "__init__" "InvalidText.__init__" (defArgs s_InvalidText___init__) (defBody s_InvalidText___init__) (defScope s_InvalidText___init__)), some (Hk.fnV "_law_draw" "_law_draw" (defArgs s__law_draw) (defBody s__law_draw) (defScope s__law_draw)), some (Hk.fnV "_law_pick" "_law_pick" (defArgs s__law_pick) (defBody s__law_pick) (defScope s__law_pick)), some (Hk.fnV "_law_lots" "_law_lots" (defArgs s__law_lots) (defBody s__law_lots) (defScope s__law_lots)), some (Hk.fnV "_law_number" "_law_number" (defArgs s__law_number) (defBody s__law_number) (defScope s__law_number)), some (Hk.fnV "_law_act" "_law_act" (defArgs s__law_act) (defBody s__law_act) (defScope s__law_act)), some (Hk.fnV "_law_spelled" "_law_spelled" (defArgs s__law_spelled) (defBody s__law_spelled) (defScope s__law_spelled)), some (Hk.fnV "_law_heard" "_law_heard" (defArgs s__law_heard) (defBody s__law_heard) (defScope s__law_heard)), some (Hk.fnV "is_integer" "is_integer" (defArgs s_is_integer) (defBody s_is_integer) (defScope s_is_integer)), some (Hk.fnV "is_deed" "is_deed" (defArgs s_is_deed) (defBody s_is_deed) (defScope s_is_deed)), some (Hk.fnV "line_of" "line_of" (defArgs s_line_of) (defBody s_line_of) (defScope s_line_of)), some (Hk.fnV "_law_integer" "_law_integer" (defArgs s__law_integer) (defBody s__law_integer) (defScope s__law_integer)), some (Hk.fnV "_law_read" "_law_read" (defArgs s__law_read) (defBody s__law_read) (defScope s__law_read)), some (Hk.fnV "number_of" "number_of" (defArgs s_number_of) (defBody s_number_of) (defScope s_number_of)), some (Hk.fnV "read_deed" "read_deed" (defArgs s_read_deed) (defBody s_read_deed) (defScope s_read_deed)), some (Hk.fnV "_law_line_right" "_law_line_right" (defArgs s__law_line_right) (defBody s__law_line_right) (defScope s__law_line_right)), some (Hk.fnV "_law_odd_acts" "_law_odd_acts" (defArgs s__law_odd_acts) (defBody s__law_odd_acts) (defScope s__law_odd_acts)), some (Hk.fnV "_law_act_right" "_law_act_right" (defArgs s__law_act_right) (defBody s__law_act_right) (defScope s__law_act_right)), some (Hk.fnV "_law_bent" "_law_bent" (defArgs s__law_bent) (defBody s__law_bent) (defScope s__law_bent)), some (Hk.fnV "_law_right" "_law_right" (defArgs s__law_right) (defBody s__law_right) (defScope s__law_right)), some (Hk.fnV "_law_pot" "_law_pot" (defArgs s__law_pot) (defBody s__law_pot) (defScope s__law_pot)), some (Hk.fnV "law" "law" (defArgs s_law) (defBody s_law) (defScope s_law))]
def lk0 (K : PySem.W.Frag) : Bool := bs0 K && (bs1 K && (bs2 K && (bs3 K && (bs4 K && (bs5 K)))))
def dwL (K : PySem.W.Frag) : List (Option (List (Option (PySem.Str × Int)))) := [He.dicW K (v_ad_DEED_NUMBERS K)]
def dwR (w : World) : List (Option (List (Option (PySem.Str × Int)))) := [some (He.keysIn w.params ["group", "limit", "strike", "take", "give", "move", "lift", "settle", "step"])]
def obF (K : PySem.W.Frag) : Bool × (List (Option FuncData)) × (List (Option (List (Option (PySem.Str × Int))))) := (lk0 K, fnL K, dwL K)
def vaF (w : World) : Bool × (List (Option FuncData)) × (List (Option (List (Option (PySem.Str × Int))))) := (true, fnR, dwR w)
open PySem.W
abbrev Rw : OpenRow := OpenLaw.row PySem.Challenge.rw_chargeways_k92_lines_of_deeds
abbrev qv : Program := view Rw.prog [28, 29, 30, 31]
def nm0 : List PySem.Str := ["__name__", "is_integer", "WayError", "InvalidDeed", "InvalidText", "DEED_NUMBERS", "is_deed", "DIGITS", "NOTHING", "number_of", "line_of", "read_deed", "_law_pot", "_law_draw", "_law_pick", "_law_lots", "_law_number", "_law_act", "_law_spelled", "_law_integer", "_law_read", "_law_bent", "_law_heard", "_law_odd_acts"]
def nms : List PySem.Str := nm0
def ad0 : List Addr := [21, 31, 48, 51, 67, 70, 73, 78, 83, 88, 93, 100, 107, 114, 121, 128, 133, 138, 143, 148, 155, 162, 169, 171, 175, 176, 178, 182, 183, 185, 187, 188, 193]
def adr : List Addr := Hk.upTo 194 [] ++ (ad0 ++ [mainGlobals])
abbrev hk : Hook := Hk.hookW adr obF vaF
theorem fin_pre (run : ∀ w, RunEq Rw qv hk (Hk.obT adr obF) 9000 nms w) (call : WalkO qv nms (XL qv []) hk.says Rw.toRowW (HandSHeadRun.topDef Rw.prog 31) [] fun f vs => PySem.call f vs) : PySem.Challenge.rw_chargeways_k92_lines_of_deeds.Holds := by
  w_on; o_law
  refine HandSHeadRun.head_any (r := OpenLaw.row PySem.Challenge.rw_chargeways_k92_lines_of_deeds) (q := qv) (H := hk) (ob := Hk.obT adr obF) (M := 9000) (loose := nms) (d := HandSHeadRun.topDef (OpenLaw.row PySem.Challenge.rw_chargeways_k92_lines_of_deeds).prog 31) (kwd := []) (fun s => Hk.obT_eqW _ _ vaF s)
    (by kernel_rfl) (fun s => by kernel_rfl) run (by kernel_rfl) (by kernel_rfl) (by kernel_rfl) (by rfl) (by first | assumption | decide +kernel) (by decide +kernel) ⟨rfl, rfl, rfl, rfl, rfl, by decide +kernel⟩ ?hw call
  case hw => w_witness2
theorem run1f (w : World) (os : OsState) : (endF (stepQ (denQ tabQ) Rw.prog (w.withFollow "special-get-raises" false)) 9000 Rw.prog (w.withFollow "special-get-raises" false) os).map (fun s => (looksF Rw.prog (boot_heap (w.withFollow "special-get-raises" false).params) s.abs, seenQ qv nms (importedModules Rw.prog.main.body) (fun s => xlAt qv [] s && recOk Rw.toRowW.records s) s.abs)) = some (true, openGood qv nms) := by kernel_rfl
theorem run1t (w : World) (os : OsState) : (endF (stepQ (denQ tabQ) Rw.prog (w.withFollow "special-get-raises" true)) 9000 Rw.prog (w.withFollow "special-get-raises" true) os).map (fun s => (looksF Rw.prog (boot_heap (w.withFollow "special-get-raises" true).params) s.abs, seenQ qv nms (importedModules Rw.prog.main.body) (fun s => xlAt qv [] s && recOk Rw.toRowW.records s) s.abs)) = some (true, openGood qv nms) := by kernel_rfl
theorem run1 (w : World) (os : OsState) : (endF (stepQ (denQ tabQ) Rw.prog w) 9000 Rw.prog w os).map (fun s => (looksF Rw.prog (boot_heap w.params) s.abs, seenQ qv nms (importedModules Rw.prog.main.body) (fun s => xlAt qv [] s && recOk Rw.toRowW.records s) s.abs)) = some (true, openGood qv nms) := byRow2 "special-get-raises" (P := fun w => (endF (stepQ (denQ tabQ) Rw.prog w) 9000 Rw.prog w os).map (fun s => (looksF Rw.prog (boot_heap w.params) s.abs, seenQ qv nms (importedModules Rw.prog.main.body) (fun s => xlAt qv [] s && recOk Rw.toRowW.records s) s.abs)) = some (true, openGood qv nms)) (fun w => run1f w os) (fun w => run1t w os) w
theorem rb0f (w : World) (os : OsState) : (endF (stepQ (denQ tabQ) Rw.prog (w.withFollow "special-get-raises" false)) 9000 Rw.prog (w.withFollow "special-get-raises" false) os).map (fun s => Hk.obT adr lk0 s) = some true := by kernel_rfl
theorem rb0t (w : World) (os : OsState) : (endF (stepQ (denQ tabQ) Rw.prog (w.withFollow "special-get-raises" true)) 9000 Rw.prog (w.withFollow "special-get-raises" true) os).map (fun s => Hk.obT adr lk0 s) = some true := by kernel_rfl
theorem rb0 (w : World) (os : OsState) : (endF (stepQ (denQ tabQ) Rw.prog w) 9000 Rw.prog w os).map (fun s => Hk.obT adr lk0 s) = some true := byRow2 "special-get-raises" (P := fun w => (endF (stepQ (denQ tabQ) Rw.prog w) 9000 Rw.prog w os).map (fun s => Hk.obT adr lk0 s) = some true) (fun w => rb0f w os) (fun w => rb0t w os) w
theorem rdf (w : World) (os : OsState) : (endF (stepQ (denQ tabQ) Rw.prog (w.withFollow "special-get-raises" false)) 9000 Rw.prog (w.withFollow "special-get-raises" false) os).map (fun s => Hk.obT adr dwL s) = some (dwR (w.withFollow "special-get-raises" false)) := by kernel_rfl
theorem rdt (w : World) (os : OsState) : (endF (stepQ (denQ tabQ) Rw.prog (w.withFollow "special-get-raises" true)) 9000 Rw.prog (w.withFollow "special-get-raises" true) os).map (fun s => Hk.obT adr dwL s) = some (dwR (w.withFollow "special-get-raises" true)) := by kernel_rfl
theorem rd (w : World) (os : OsState) : (endF (stepQ (denQ tabQ) Rw.prog w) 9000 Rw.prog w os).map (fun s => Hk.obT adr dwL s) = some (dwR w) := byRow2 "special-get-raises" (P := fun w => (endF (stepQ (denQ tabQ) Rw.prog w) 9000 Rw.prog w os).map (fun s => Hk.obT adr dwL s) = some (dwR w)) (fun w => rdf w os) (fun w => rdt w os) w
theorem rff (w : World) (os : OsState) : (endF (stepQ (denQ tabQ) Rw.prog (w.withFollow "special-get-raises" false)) 9000 Rw.prog (w.withFollow "special-get-raises" false) os).map (fun s => Hk.obT adr fnL s) = some fnR := by kernel_rfl
theorem rft (w : World) (os : OsState) : (endF (stepQ (denQ tabQ) Rw.prog (w.withFollow "special-get-raises" true)) 9000 Rw.prog (w.withFollow "special-get-raises" true) os).map (fun s => Hk.obT adr fnL s) = some fnR := by kernel_rfl
theorem rf (w : World) (os : OsState) : (endF (stepQ (denQ tabQ) Rw.prog w) 9000 Rw.prog w os).map (fun s => Hk.obT adr fnL s) = some fnR := byRow2 "special-get-raises" (P := fun w => (endF (stepQ (denQ tabQ) Rw.prog w) 9000 Rw.prog w os).map (fun s => Hk.obT adr fnL s) = some fnR) (fun w => rff w os) (fun w => rft w os) w
theorem run (w : World) : RunEq Rw qv hk (Hk.obT adr obF) 9000 nms w := by
  intro os
  have z := run1 w os
  have zb0 := rb0 w os
  have zf := rf w os
  have zd := rd w os
  generalize (endF (stepQ (denQ tabQ) Rw.prog w) 9000 Rw.prog w os) = y at *
  cases y with
  | none => cases z
  | some s =>
    have z5 := congrArg Prod.fst (Option.some.inj z)
    have z6 := congrArg Prod.snd (Option.some.inj z)
    dsimp only at z5 z6
    have xb0 : Hk.obT adr lk0 s = true := Option.some.inj zb0
    have xf : Hk.obT adr fnL s = fnR := Option.some.inj zf
    have xd : Hk.obT adr dwL s = dwR w := Option.some.inj zd
    rw [Hk.obT_K] at xb0 xf xd
    show some _ = some _
    refine congrArg some (Prod.ext z5 (Prod.ext z6 ?_))
    show Hk.obT adr obF s = vaF w
    rw [Hk.obT_K]
    unfold obF vaF
    rw [xb0, xf, xd]
end Rn

set_option Elab.async false
set_option linter.all false
set_option maxRecDepth 100000
/-! Own layer, part 1: plain data, logical heap, combinators. No Python machine here. -/
namespace Py
open PySem

/-- plain values: tuples are values, what can change stands at a place of the logical heap -/
inductive D where
  | non | bl (b : Bool) | int (i : Int) | str (x : Str) | tup (xs : List D) | ref (n : Nat) | scr (ns : List Int) | fn (x : Str)

/-- what stands at a place -/
inductive O where
  | lst (xs : List D)
  | dct (kvs : List (L2.Key × D))
  | ins (c : Nat) (fs : List (Nat × D))
  /-- a dict that is being walked -/
  | hid (kvs : List (L2.Key × D))

abbrev LH := List O
inductive R (α : Type) where
  | ok (a : α) (h : LH)
  | exc (c : Nat) (fs : List (Nat × D)) (h : LH)
  | stuck
def R.bind {α β : Type} (r : R α) (f : α → LH → R β) : R β := match r with
  | .ok a h => f a h
  | .exc c fs h => .exc c fs h
  | .stuck => .stuck
@[simp] theorem R.bind_ok {α β : Type} (a : α) (h : LH) (f : α → LH → R β) : (R.ok a h).bind f = f a h := rfl
@[simp] theorem R.bind_exc {α β : Type} (c : Nat) (fs : List (Nat × D)) (h : LH) (f : α → LH → R β) : (R.exc c fs h : R α).bind f = .exc c fs h := rfl
@[simp] theorem R.bind_stuck {α β : Type} (f : α → LH → R β) : (R.stuck : R α).bind f = .stuck := rfl

abbrev LS := List (Option D)
abbrev EX := LS → LH → R D
abbrev AX := LS → LH → R (List D)
/-- flow behind a statement -/
inductive F where
  | nx (r : LS) (h : LH)
  | rt (d : D) (h : LH)
  | bk (r : LS) (h : LH)
  | ct (r : LS) (h : LH)
  | exc (c : Nat) (fs : List (Nat × D)) (h : LH)
  | stuck
abbrev SX := LS → LH → F
def R.to {α : Type} (r : R α) (f : α → LH → F) : F := match r with
  | .ok a h => f a h
  | .exc c fs h => .exc c fs h
  | .stuck => .stuck
@[simp] theorem R.to_ok {α : Type} (a : α) (h : LH) (f : α → LH → F) : (R.ok a h).to f = f a h := rfl
@[simp] theorem R.to_exc {α : Type} (c : Nat) (fs : List (Nat × D)) (h : LH) (f : α → LH → F) : (R.exc c fs h : R α).to f = .exc c fs h := rfl
@[simp] theorem R.to_stuck {α : Type} (f : α → LH → F) : (R.stuck : R α).to f = .stuck := rfl

/-! ### expressions -/
def eV (i : Nat) : EX := fun r h => match r[i]? with
  | some (some d) => .ok d h
  | _ => .stuck
def eC (d : D) : EX := fun _ h => .ok d h
def e1 (op : D → LH → R D) (a : EX) : EX := fun r h => (a r h).bind op
def e2 (op : D → D → LH → R D) (a b : EX) : EX := fun r h => (a r h).bind fun x h1 => (b r h1).bind fun y h2 => op x y h2
def aNil : AX := fun _ h => .ok [] h
def aCons (a : EX) (b : AX) : AX := fun r h => (a r h).bind fun x h1 => (b r h1).bind fun xs h2 => .ok (x :: xs) h2
def eA (op : List D → LH → R D) (a : AX) : EX := fun r h => (a r h).bind op
/-- truth -/
def truth : D → LH → Option Bool
  | .non, _ => some false
  | .bl b, _ => some b
  | .int i, _ => some (i != 0)
  | .str x, _ => some ((x.length : Int) != 0)
  | .tup xs, _ => some (!xs.isEmpty)
  | .ref n, h => match h[n]? with
    | some (.lst xs) => some (!xs.isEmpty)
    | _ => none
  | .scr ns, _ => some (!ns.isEmpty)
  | .fn _, _ => none
def eAnd (a b : EX) : EX := fun r h => (a r h).bind fun x h1 => match truth x h1 with
  | some true => b r h1
  | some false => .ok x h1
  | none => .stuck
def eOr (a b : EX) : EX := fun r h => (a r h).bind fun x h1 => match truth x h1 with
  | some true => .ok x h1
  | some false => b r h1
  | none => .stuck
def eNot (a : EX) : EX := fun r h => (a r h).bind fun x h1 => match truth x h1 with
  | some k => .ok (.bl (!k)) h1
  | none => .stuck
def eIf (t a b : EX) : EX := fun r h => (t r h).bind fun x h1 => match truth x h1 with
  | some true => a r h1
  | some false => b r h1
  | none => .stuck
def eTup (a : AX) : EX := eA (fun xs h => if xs.length ≤ sizeLine then .ok (.tup xs) h else .stuck) a
def eLst (a : AX) : EX := eA (fun xs h => if xs.length ≤ sizeLine then .ok (.ref h.length) (h ++ [.lst xs]) else .stuck) a

/-! ### operators -/
def opI (f : Int → Int → D) : D → D → LH → R D
  | .int i, .int j, h => .ok (f i j) h
  | _, _, _ => .stuck
def oAdd : D → D → LH → R D
  | .int i, .int j, h => .ok (.int (i + j)) h
  | .str i, .str j, h => if i.length + j.length ≤ sizeLine then .ok (.str (i ++ j)) h else .stuck
  | .tup xs, .tup ys, h => if xs.length + ys.length ≤ sizeLine then .ok (.tup (xs ++ ys)) h else .stuck
  | .ref n, .ref k, h => match h[n]?, h[k]? with
    | some (.lst xs), some (.lst ys) => if xs.length + ys.length ≤ sizeLine then .ok (.ref h.length) (h ++ [.lst (xs ++ ys)]) else .stuck
    | _, _ => .stuck
  | _, _, _ => .stuck
def oSub : D → D → LH → R D := opI fun i j => .int (i - j)
@[irreducible] def small (i : Int) : Bool := decide (-(2 ^ 64) < i) && decide (i < 2 ^ 64)
def oMul : D → D → LH → R D
  | .int i, .int j, h => if small i || small j then .ok (.int (i * j)) h else .stuck
  | .ref n, .int k, h => match h[n]? with
    | some (.lst xs) => if xs.length * k.toNat ≤ sizeLine ∧ -(2 ^ 63) ≤ k ∧ k < 2 ^ 63 then .ok (.ref h.length) (h ++ [.lst (List.replicate k.toNat xs).flatten]) else .stuck
    | _ => .stuck
  | _, _, _ => .stuck
def oMod : D → D → LH → R D
  | .int i, .int j, h => if 0 < j then .ok (.int (i % j)) h else .stuck
  | _, _, _ => .stuck
def oDiv : D → D → LH → R D
  | .int i, .int j, h => if 0 < j ∧ j < 1073741824 then .ok (.int (i / j)) h else .stuck
  | _, _, _ => .stuck
def oPow : D → D → LH → R D
  | .int i, .int j, h => if 0 ≤ j ∧ j ≤ 1000000 ∧ i.natAbs < 2 ^ 64 then .ok (.int (i ^ j.toNat)) h else .stuck
  | _, _, _ => .stuck
def oLt : D → D → LH → R D := opI fun i j => .bl (decide (i < j))
def oLe : D → D → LH → R D := opI fun i j => .bl (decide (i ≤ j))
def oGt : D → D → LH → R D := opI fun i j => .bl (decide (j < i))
def oGe : D → D → LH → R D := opI fun i j => .bl (decide (j ≤ i))
def oIsN (neg : Bool) : D → LH → R D
  | .non, h => .ok (.bl (!neg)) h
  | _, h => .ok (.bl neg) h

/-! ### statements -/
def sNil : SX := fun r h => .nx r h
def sSeq (a b : SX) : SX := fun r h => match a r h with
  | .nx r1 h1 => b r1 h1
  | x => x
def sE (a : EX) : SX := fun r h => (a r h).to fun _ h1 => .nx r h1
def sRet (a : EX) : SX := fun r h => (a r h).to fun d h1 => .rt d h1
def sRetN : SX := fun _ h => .rt .non h
def sIf (t : EX) (a b : SX) : SX := fun r h => (t r h).to fun x h1 => match truth x h1 with
  | some true => a r h1
  | some false => b r h1
  | none => .stuck
/-- a target: what is stored, locals, heap -/
abbrev GX := D → LS → LH → F
def gN (i : Nat) : GX := fun d r h => .nx (r.set i (some d)) h
def sAsg (a : EX) (g : GX) : SX := fun r h => (a r h).to fun d h1 => g d r h1
abbrev GXs := List D → LS → LH → F
def gsNil : GXs := fun ds r h => match ds with
  | [] => .nx r h
  | _ => .stuck
def gsCons (g : GX) (gs : GXs) : GXs := fun ds r h => match ds with
  | d :: ds => (match g d r h with
    | .nx r1 h1 => gs ds r1 h1
    | x => x)
  | [] => .stuck
def gT (n : Nat) (gs : GXs) : GX := fun d r h => match d with
  | .tup xs => if xs.length = n then gs xs r h else .stuck
  | _ => .stuck
end Py

namespace Py
open PySem
/-! ### fields, calls -/
def getA (i : Nat) : List (Nat × D) → Option D
  | [] => none
  | (j, d) :: r => if i = j then some d else getA i r
def putA (i : Nat) (d : D) : List (Nat × D) → List (Nat × D)
  | [] => [(i, d)]
  | (j, e) :: r => if j = i then (j, d) :: r else (j, e) :: putA i d r
/-- o.f of an instance of the class c -/
def eFld (c i : Nat) (o : EX) : EX := e1 (fun x h => match x with
  | .ref n => (match h[n]? with
    | some (.ins c' fs) => if c' = c then (match getA i fs with
      | some d => .ok d h
      | none => .stuck) else .stuck
    | _ => .stuck)
  | _ => .stuck) o
/-- o.f = e -/
def sFld (c i : Nat) (o e : EX) : SX := fun r h => (e r h).to fun d h1 => (o r h1).to fun x h2 => match x with
  | .ref n => (match h2[n]? with
    | some (.ins c' fs) => if c' = c ∧ fs.length < 1000 then .nx r (h2.set n (.ins c (putA i d fs))) else .stuck
    | _ => .stuck)
  | _ => .stuck
abbrev CF := List D → LH → R D
/-- a call with positional and keyword values -/
abbrev KF := List D → List D → LH → R D
def eCall (op : KF) (a k : AX) : EX := fun r h => (a r h).bind fun ds h1 => (k r h1).bind fun es h2 => op ds es h2
def opF (n k : Nat) (bd : List D → List D → List D) (cf : CF) : KF := fun ds es h => if ds.length = n ∧ es.length = k then cf (bd ds es) h else .stuck
/-- a new instance of the class c -/
def opM (c n k : Nat) (bd : List D → List D → List D) (cf : CF) : KF := fun ds es h => if ds.length = n ∧ es.length = k then (cf (bd (.ref h.length :: ds) es) (h ++ [.ins c []])).bind (fun v h2 => match v with
  | .non => .ok (.ref h.length) h2
  | _ => .stuck) else .stuck
/-- o.m(..), the instance of the class c -/
def eMeth (c : Nat) (op : KF) (o : EX) (a k : AX) : EX := fun r h => (o r h).bind fun x h1 => match x with
  | .ref n => (match h1[n]? with
    | some (.ins c' _) => if c' = c then (a r h1).bind fun ds h2 => (k r h2).bind fun es h3 => op (x :: ds) es h3 else .stuck
    | _ => .stuck)
  | _ => .stuck
def bd0 : List D → List D → List D := fun ds _ => ds
/-- a def: n parameters, k further names -/
def runF (n k : Nat) (b : SX) : CF := fun ds h => if ds.length = n then (match b (ds.map some ++ List.replicate k none) h with
  | .nx _ h' => .ok .non h'
  | .rt d h' => .ok d h'
  | .exc c fs h' => .exc c fs h'
  | _ => .stuck) else .stuck
/-- a, b = x, y -/
def sPar (i j : Nat) (a : AX) : SX := fun r h => (a r h).to fun ds h1 => match ds with
  | [x, y] => .nx ((r.set i (some x)).set j (some y)) h1
  | _ => .stuck
/-- a chain a < b <= c, by values -/
def eChain (op op' : D → D → LH → R D) (a b c : EX) : EX := fun r h => (a r h).bind fun x h1 => (b r h1).bind fun y h2 => (op x y h2).bind fun z h3 => match z with
  | .bl true => (c r h3).bind fun w h4 => op' y w h4
  | .bl false => .ok (.bl false) h3
  | _ => .stuck
end Py

namespace Py
open PySem
/-! ### what is walked -/
inductive Src where
  /-- values that cannot change -/
  | its (xs : List D)
  /-- a list, as it stands at each turn -/
  | lst (n : Nat)
  /-- pairs with a number, from k on -/
  | enm (k : Int) (s : Src)
  /-- two walks side by side -/
  | zip (s t : Src)
/-- no text -/
def notS : D → Bool
  | .str _ => false
  | _ => true
def srcAt : Src → LH → Nat → Option (Option D)
  | .its xs, _, i => some xs[i]?
  | .lst n, h, i => match h[n]? with
    | some (.lst xs) => some xs[i]?
    | _ => none
  | .enm k s, h, i => (srcAt s h i).map (·.map fun d => .tup [.int (k + i), d])
  | .zip s t, h, i => match srcAt s h i, srcAt t h i with
    | some (some d), some (some e) => if (notS d || notS e) = true then some (some (.tup [d, e])) else none
    | some _, some _ => some none
    | _, _ => none
abbrev IX := LS → LH → R Src
/-- the values of a list, a tuple, the script -/
def srcOf : D → LH → Option Src
  | .tup xs, _ => some (.its xs)
  | .scr ns, _ => some (.its (ns.map .int))
  | .ref n, h => match h[n]? with
    | some (.lst _) => some (.lst n)
    | _ => none
  | _, _ => none
def iSeq (a : EX) : IX := fun r h => (a r h).bind fun d h1 => match srcOf d h1 with
  | some s => .ok s h1
  | none => .stuck
/-- range(a, b) -/
def rangeL (a b : Int) : List D := (List.range (b - a).toNat).map fun k => .int (a + (k : Nat))
@[irreducible] def small62 (i : Int) : Bool := decide (-(2 ^ 62) ≤ i) && decide (i < 2 ^ 62)
def iRng1 (a : EX) : IX := fun r h => (a r h).bind fun d h1 => match d with
  | .int j => if small62 j = true then .ok (.its (rangeL 0 j)) h1 else .stuck
  | _ => .stuck
def iRng2 (a b : EX) : IX := fun r h => (a r h).bind fun d h1 => (b r h1).bind fun e h2 => match d, e with
  | .int i, .int j => if small62 i = true ∧ small62 j = true then .ok (.its (rangeL i j)) h2 else .stuck
  | _, _ => .stuck
def iEnum (k : Int) (a : EX) : IX := fun r h => (a r h).bind fun d h1 => match srcOf d h1 with
  | some s => .ok (.enm k s) h1
  | none => .stuck
/-- turns at most -/
def fuelN : Nat := 1000000
def forX (s : Src) (g : GX) (b : SX) : Nat → Nat → LS → LH → F
  | 0, _, _, _ => .stuck
  | n + 1, i, r, h => match srcAt s h i with
    | none => .stuck
    | some none => .nx r h
    | some (some d) => (match g d r h with
      | .nx r1 h1 => (match b r1 h1 with
        | .nx r2 h2 => forX s g b n (i + 1) r2 h2
        | .ct r2 h2 => forX s g b n (i + 1) r2 h2
        | .bk r2 h2 => .nx r2 h2
        | x => x)
      | _ => .stuck)
def sFor (it : IX) (g : GX) (b : SX) : SX := fun r h => (it r h).to fun s h1 => forX s g b fuelN 0 r h1
def whileX (t : EX) (b : SX) : Nat → LS → LH → F
  | 0, _, _ => .stuck
  | n + 1, r, h => (t r h).to fun x h1 => match truth x h1 with
    | some true => (match b r h1 with
      | .nx r2 h2 => whileX t b n r2 h2
      | .ct r2 h2 => whileX t b n r2 h2
      | .bk r2 h2 => .nx r2 h2
      | x => x)
    | some false => .nx r h1
    | none => .stuck
def sWhile (t : EX) (b : SX) : SX := fun r h => whileX t b fuelN r h
/-! ### comprehensions: the target's slots are set anew at each turn -/
def wipeL (r : LS) : List Nat → LS
  | [] => r
  | v :: vs => (wipeL r vs).set v none
def tgt (vs : List Nat) (d : D) (r : LS) : Option LS := match vs with
  | [i] => some (r.set i (some d))
  | [i, j] => (match d with
    | .tup [x, y] => some ((r.set i (some x)).set j (some y))
    | _ => none)
  | [i, j, l] => (match d with
    | .tup [x, y, z] => some (((r.set i (some x)).set j (some y)).set l (some z))
    | _ => none)
  | _ => none
def compX (s : Src) (vs : List Nat) (t e : EX) : Nat → Nat → List D → LS → LH → R (List D)
  | 0, _, _, _, _ => .stuck
  | n + 1, i, acc, r, h => match srcAt s h i with
    | none => .stuck
    | some none => .ok acc h
    | some (some d) => (match tgt vs d r with
      | some r1 => (match t r1 h with
        | .ok x h2 => (match truth x h2 with
          | some true => (match e r1 h2 with
            | .ok y h3 => if acc.length < sizeLine then compX s vs t e n (i + 1) (acc ++ [y]) r h3 else .stuck
            | _ => .stuck)
          | some false => compX s vs t e n (i + 1) acc r h2
          | none => .stuck)
        | _ => .stuck)
      | none => .stuck)
def eComp (vs : List Nat) (it : IX) (t e : EX) : EX := fun r h => (it r h).bind fun s h1 => (compX s vs t e fuelN 0 [] (wipeL r vs) h1).bind fun acc h2 => .ok (.ref h2.length) (h2 ++ [.lst acc])
end Py

namespace Py
open PySem
/-! ### built-ins -/
/-- the items of a list or a tuple -/
def seqD : D → LH → Option (List D)
  | .tup xs, _ => some xs
  | .scr ns, _ => some (ns.map .int)
  | .ref n, h => match h[n]? with
    | some (.lst xs) => some xs
    | _ => none
  | _, _ => none
def flatD : D → Bool
  | .non => true
  | .bl _ => true
  | .int _ => true
  | .str _ => true
  | _ => false
def eqF : D → D → Bool
  | .non, .non => true
  | .bl a, .bl b => a == b
  | .bl a, .int b => (if a then 1 else 0) == b
  | .int a, .bl b => a == (if b then 1 else 0)
  | .int a, .int b => a == b
  | .str a, .str b => a == b
  | _, _ => false
def oIn (neg : Bool) : D → D → LH → R D := fun x y h => match seqD y h with
  | some xs => if (flatD x && xs.all flatD) = true then .ok (.bl (if neg then !(xs.any fun z => eqF z x) else xs.any fun z => eqF z x)) h else .stuck
  | none => .stuck
def oIx : D → D → LH → R D := fun x y h => match y with
  | .int i => (match seqD x h with
    | some xs => (match L2.atI xs i with
      | some d => .ok d h
      | none => .stuck)
    | none => .stuck)
  | _ => .stuck
def cutD (xs : List D) (lo hi : Option Int) : List D := (xs.drop (HT.sIx xs.length 0 lo)).take (HT.sIx xs.length xs.length hi - HT.sIx xs.length 0 lo)
/-- a part of a slice -/
abbrev PX := LS → LH → R (Option Int)
def pNo : PX := fun _ h => .ok none h
def pSome (a : EX) : PX := fun r h => (a r h).bind fun d h1 => match d with
  | .int i => .ok (some i) h1
  | _ => .stuck
def eSl (a : EX) (lo hi : PX) : EX := fun r h => (a r h).bind fun x h1 => (lo r h1).bind fun l h2 => (hi r h2).bind fun u h3 => match x with
  | .tup xs => .ok (.tup (cutD xs l u)) h3
  | .ref n => (match h3[n]? with
    | some (.lst xs) => .ok (.ref h3.length) (h3 ++ [.lst (cutD xs l u)])
    | _ => .stuck)
  | _ => .stuck
def bLen : List D → LH → R D
  | [.str x], h => if x.length ≤ sizeLine then .ok (.int (x.length : Nat)) h else .stuck
  | [x], h => (match seqD x h with
    | some xs => .ok (.int (xs.length : Nat)) h
    | none => .stuck)
  | _, _ => .stuck
def bAbs : List D → LH → R D
  | [.int i], h => .ok (.int (if i < 0 then -i else i)) h
  | _, _ => .stuck
def bMax : List D → LH → R D
  | [.int i, .int j], h => .ok (.int (if j > i then j else i)) h
  | _, _ => .stuck
def bMin : List D → LH → R D
  | [.int i, .int j], h => .ok (.int (if j < i then j else i)) h
  | _, _ => .stuck
def bInt : List D → LH → R D
  | [.int i], h => .ok (.int i) h
  | [.bl k], h => .ok (.int (if k then 1 else 0)) h
  | _, _ => .stuck
def bDivmod : List D → LH → R D
  | [.int i, .int j], h => if 0 < j ∧ j < 1073741824 then .ok (.tup [.int (i / j), .int (i % j)]) h else .stuck
  | _, _ => .stuck
def bList : List D → LH → R D
  | [x], h => (match seqD x h with
    | some xs => .ok (.ref h.length) (h ++ [.lst xs])
    | none => .stuck)
  | _, _ => .stuck
def bTuple : List D → LH → R D
  | [x], h => (match seqD x h with
    | some xs => .ok (.tup xs) h
    | none => .stuck)
  | _, _ => .stuck
/-- bools alone -/
def boolsD : List D → Option (List Bool)
  | [] => some []
  | .bl b :: r => (boolsD r).map (b :: ·)
  | _ :: _ => none
def lstD : D → LH → Option (List D)
  | .ref n, h => match h[n]? with
    | some (.lst xs) => some xs
    | _ => none
  | _, _ => none
def bAll : List D → LH → R D
  | [x], h => (match (lstD x h).bind boolsD with
    | some bs => .ok (.bl (bs.all id)) h
    | none => .stuck)
  | _, _ => .stuck
def bAny : List D → LH → R D
  | [x], h => (match (lstD x h).bind boolsD with
    | some bs => .ok (.bl (bs.any id)) h
    | none => .stuck)
  | _, _ => .stuck
def intsD : List D → Option (List Int)
  | [] => some []
  | .int b :: r => (intsD r).map (b :: ·)
  | _ :: _ => none
def insI (a : Int) : List Int → List Int
  | [] => [a]
  | b :: r => if a ≤ b then a :: b :: r else b :: insI a r
def sortI : List Int → List Int
  | [] => []
  | a :: r => insI a (sortI r)
/-- sorted of ints (a list or a tuple) -/
def bSorted : List D → LH → R D
  | [x], h => (match (seqD x h).bind intsD with
    | some ns => if ns.length < 64 then .ok (.ref h.length) (h ++ [.lst ((sortI ns).map .int)]) else .stuck
    | none => .stuck)
  | _, _ => .stuck
/-- list(range(a, b)) -/
def eListR (a b : EX) : EX := fun r h => (a r h).bind fun d h1 => (b r h1).bind fun e h2 => match d, e with
  | .int i, .int j => if small62 i = true ∧ small62 j = true ∧ j - i ≤ 1000000 then .ok (.ref h2.length) (h2 ++ [.lst (rangeL i j)]) else .stuck
  | _, _ => .stuck
/-! methods of lists -/
def eBM (op : D → List D → LH → R D) (o : EX) (a : AX) : EX := fun r h => (o r h).bind fun x h1 => match lstD x h1 with
  | some _ => (a r h1).bind fun ds h2 => op x ds h2
  | none => .stuck
def onL (f : List D → Option (D × List D)) : D → LH → R D := fun x h => match x with
  | .ref n => (match h[n]? with
    | some (.lst xs) => (match f xs with
      | some (d, ys) => .ok d (h.set n (.lst ys))
      | none => .stuck)
    | _ => .stuck)
  | _ => .stuck
def mAppend : D → List D → LH → R D := fun x ds h => match ds with
  | [y] => onL (fun xs => if xs.length < sizeLine then some (.non, xs ++ [y]) else none) x h
  | _ => .stuck
def mClear : D → List D → LH → R D := fun x ds h => match ds with
  | [] => onL (fun _ => some (.non, [])) x h
  | _ => .stuck
def mReverse : D → List D → LH → R D := fun x ds h => match ds with
  | [] => onL (fun xs => some (.non, xs.reverse)) x h
  | _ => .stuck
def mPopAt : D → List D → LH → R D := fun x ds h => match ds with
  | [.int i] => if small62 i = true then onL (fun xs => match L2.ixN xs.length i with
    | some k => (xs[k]?).map fun d => (d, xs.eraseIdx k)
    | none => none) x h else .stuck
  | _ => .stuck
def mExtend : D → List D → LH → R D := fun x ds h => match ds with
  | [y] => (match lstD y h with
    | some zs => onL (fun xs => if xs.length + zs.length ≤ sizeLine then some (.non, xs ++ zs) else none) x h
    | none => .stuck)
  | _ => .stuck
/-- o[i] = v of a list -/
def gSub (o i : EX) : GX := fun d r h => (o r h).to fun x h1 => (i r h1).to fun y h2 => match x, y with
  | .ref n, .int k => (match h2[n]? with
    | some (.lst xs) => (match L2.ixN xs.length k with
      | some j => .nx r (h2.set n (.lst (xs.set j d)))
      | none => .stuck)
    | _ => .stuck)
  | _, _ => .stuck
/-! ### kinds -/
inductive Kd where
  | non | bool | int | str | tuple | list | dict
def Kd.is : Kd → Kd → Bool
  | .non, .non => true
  | .bool, .bool => true
  | .bool, .int => true
  | .int, .int => true
  | .str, .str => true
  | .tuple, .tuple => true
  | .list, .list => true
  | .dict, .dict => true
  | _, _ => false
def kindD : D → LH → Option Kd
  | .non, _ => some .non
  | .bl _, _ => some .bool
  | .int _, _ => some .int
  | .str _, _ => some .str
  | .tup _, _ => some .tuple
  | .scr _, _ => some .list
  | .fn _, _ => none
  | .ref n, h => match h[n]? with
    | some (.lst _) => some .list
    | some (.dct _) => some .dict
    | _ => none
def eIsi (ks : List Kd) (a : EX) : EX := e1 (fun d h => match kindD d h with
  | some k => .ok (.bl (ks.any fun t => k.is t)) h
  | none => .stuck) a
/-! ### data as a whole -/
def mapO {α β : Type} (f : α → Option β) : List α → Option (List β)
  | [] => some []
  | a :: r => match f a, mapO f r with
    | some b, some bs => some (b :: bs)
    | _, _ => none
def deep (h : LH) : Nat → D → Option PyData
  | _, .non => some .none
  | _, .bl b => some (.bool b)
  | _, .int i => some (.int i)
  | _, .str x => some (.str x)
  | _, .scr ns => some (.list (ns.map .int))
  | _, .fn _ => none
  | 0, _ => none
  | n + 1, .tup xs => (mapO (deep h n) xs).map .tuple
  | n + 1, .ref k => match h[k]? with
    | some (.lst xs) => (mapO (deep h n) xs).map .list
    | _ => none
def oEqD (neg : Bool) : D → D → LH → R D := fun x y h => match deep h 60 x, deep h 60 y with
  | some a, some b => if (SeqAt.shaped a && SeqAt.shaped b) = true then .ok (.bl (if neg then !PyData.eqv a b else PyData.eqv a b)) h else .stuck
  | _, _ => .stuck
def oEq (neg : Bool) : D → D → LH → R D
  | .int i, .int j, h => .ok (.bl (if neg then !decide (i = j) else decide (i = j))) h
  | .str i, .str j, h => .ok (.bl (if neg then !decide (i = j) else decide (i = j))) h
  | x, y, h => oEqD neg x y h
def showOk (a : PyData) : Bool := a.showable && !a.hasDict && decide (a.depth ≤ 64) && decide (a.shown.length ≤ sizeLine)
def bRepr : List D → LH → R D
  | [x], h => (match x with
    | .ref _ | .tup _ => (match deep h 60 x with
      | some a => if showOk a = true then .ok (.str a.shown) h else .stuck
      | none => .stuck)
    | _ => .stuck)
  | _, _ => .stuck
end Py

namespace Py
open PySem
/-- len(o), o of the class c with its own __len__ -/
def bLenO (c : Nat) (cf : CF) : List D → LH → R D
  | [.ref n], h => (match h[n]? with
    | some (.ins c' _) => if c' = c then (cf [.ref n] h).bind fun v h1 => (match v with
      | .int k => if 0 ≤ k ∧ k < 2 ^ 63 then .ok (.int k) h1 else .stuck
      | _ => .stuck) else .stuck
    | _ => .stuck)
  | _, _ => .stuck
/-- repr(o), o of the class c with its own __repr__ -/
def bReprO (c : Nat) (cf : CF) : List D → LH → R D
  | [.ref n], h => (match h[n]? with
    | some (.ins c' _) => if c' = c then (cf [.ref n] h).bind fun v h1 => (match v with
      | .str x => .ok (.str x) h1
      | _ => .stuck) else .stuck
    | _ => .stuck)
  | _, _ => .stuck
/-- parts of an f-string: texts -/
abbrev JX := LS → LH → R Str
def jNil : JX := fun _ h => .ok Str.empty h
/-- {e} of an f-string -/
def fmtD : D → LH → Option Str
  | .str x, _ => if x.length ≤ sizeLine then some x else none
  | .int i, _ => if i.natAbs.log2 < 1920 then some (toString i) else none
  | .ref n, h => (match deep h 60 (.ref n) with
    | some a => if showOk a = true then some a.shown else none
    | none => none)
  | .tup xs, h => (match deep h 60 (.tup xs) with
    | some a => if showOk a = true then some a.shown else none
    | none => none)
  | _, _ => none
def eFmt (a : EX) : EX := e1 (fun d h => match fmtD d h with
  | some x => .ok (.str x) h
  | none => .stuck) a
/-- texts one behind another -/
def jGo : List EX → Str → LS → LH → R D
  | [], acc, _, h => .ok (.str acc) h
  | a :: r, acc, l, h => (a l h).bind fun d h1 => match d with
    | .str x => if (acc ++ x).length ≤ sizeLine then jGo r (acc ++ x) l h1 else .stuck
    | _ => .stuck
def eJoin (as : List EX) : EX := fun l h => jGo as Str.empty l h
end Py

namespace Py
/-! ### bools alone -/
def eB (a : EX) : EX := fun r h => (a r h).bind fun x h1 => match x with
  | .bl b => .ok (.bl b) h1
  | _ => .stuck
def eAndB (a b : EX) : EX := fun r h => (a r h).bind fun x h1 => match x with
  | .bl true => b r h1
  | .bl false => .ok (.bl false) h1
  | _ => .stuck
def eOrB (a b : EX) : EX := fun r h => (a r h).bind fun x h1 => match x with
  | .bl true => .ok (.bl true) h1
  | .bl false => b r h1
  | _ => .stuck
def eNotB (a : EX) : EX := fun r h => (a r h).bind fun x h1 => match x with
  | .bl b => .ok (.bl (!b)) h1
  | _ => .stuck
end Py

namespace Py
def oNeg : D → LH → R D
  | .int i, h => .ok (.int (-i)) h
  | _, _ => .stuck
end Py

namespace Py
open PySem
/-- repr, of whole numbers too -/
def bRep : List D → LH → R D
  | [.int i], h => if i.natAbs.log2 < 1920 then .ok (.str (toString i)) h else .stuck
  | xs, h => bRepr xs h
/-- x is True, x is False -/
def oIsB (b : Bool) : D → LH → R D
  | .bl c, h => .ok (.bl (c == b)) h
  | _, h => .ok (.bl false) h
/-- xs[::-1] of a list -/
def eRev (a : EX) : EX := e1 (fun x h => match lstD x h with
  | some xs => .ok (.ref h.length) (h ++ [.lst xs.reverse])
  | none => .stuck) a
/-- a, b, c = x, y, z -/
def sPar3 (i j l : Nat) (a : AX) : SX := fun r h => (a r h).to fun ds h1 => match ds with
  | [x, y, z] => .nx (((r.set i (some x)).set j (some y)).set l (some z)) h1
  | _ => .stuck
/-- isinstance(a, C), C an own class: f tells of the class of an instance -/
def oIsO (f : Nat → Option Bool) : D → LH → R D := fun d h => match d with
  | .ref n => (match h[n]? with
    | some (.ins c _) => (match f c with
      | some b => .ok (.bl b) h
      | none => .stuck)
    | some (.lst _) => .ok (.bl false) h
    | some (.dct _) => .ok (.bl false) h
    | _ => .stuck)
  | .fn _ => .stuck
  | _ => .ok (.bl false) h
/-- what stands at the right of an own == -/
def rightOk (c : Nat) : D → LH → Bool := fun d h => match d with
  | .ref n => (match h[n]? with
    | some (.ins c' _) => c' == c
    | some (.lst _) => true
    | some (.dct _) => true
    | _ => false)
  | .fn _ => false
  | _ => true
/-- == and != by an own __eq__ of the class c; of other values as ever -/
def oEqO (c : Nat) (cf : CF) (neg : Bool) : D → D → LH → R D := fun x y h => match x with
  | .ref n => (match h[n]? with
    | some (.ins c' _) => if c' = c ∧ rightOk c y h = true then (cf [x, y] h).bind fun v h1 => (match v with
      | .bl b => .ok (.bl (if neg then !b else b)) h1
      | _ => .stuck) else .stuck
    | _ => oEq neg x y h)
  | _ => oEq neg x y h
end Py

namespace Py
open PySem
/-! ### dicts with texts and whole numbers as keys -/
abbrev Ky := L2.Key
def keyD : D → Option Ky
  | .int i => some (.inl i)
  | .str x => some (.inr x)
  | _ => none
def dctD : D → LH → Option (List (Ky × D))
  | .ref n, h => match h[n]? with
    | some (.dct kvs) => some kvs
    | _ => none
  | _, _ => none
/-- a dict that is read, walked or not -/
def dctR : D → LH → Option (List (Ky × D))
  | .ref n, h => match h[n]? with
    | some (.dct kvs) => some kvs
    | some (.hid kvs) => some kvs
    | _ => none
  | _, _ => none
def valD (kvs : List (Ky × D)) (k : Ky) : Option D := (kvs.find? fun kv => decide (kv.1 = k)).map (·.2)
def putD (kvs : List (Ky × D)) (k : Ky) (v : D) : List (Ky × D) :=
  if (kvs.any fun kv => decide (kv.1 = k)) = true then kvs.map (fun kv => if kv.1 = k then (kv.1, v) else kv) else kvs ++ [(k, v)]
def mergeD (kvs more : List (Ky × D)) : List (Ky × D) := more.foldl (fun acc kv => putD acc kv.1 kv.2) kvs
/-- d[y] -/
def oDg : D → D → LH → R D := fun x y h => match dctR x h, keyD y with
  | some kvs, some k => (match valD kvs k with
    | some d => .ok d h
    | none => .stuck)
  | _, _ => .stuck
/-- y in d -/
def oDin (neg : Bool) : D → D → LH → R D := fun y x h => match dctR x h, keyD y with
  | some kvs, some k => .ok (.bl (if neg then !(valD kvs k).isSome else (valD kvs k).isSome)) h
  | _, _ => .stuck
/-- d[y] = v: the value first -/
def sDput (o i e : EX) : SX := fun r h => (e r h).to fun d h1 => (o r h1).to fun x h2 => (i r h2).to fun y h3 => match x, keyD y with
  | .ref n, some k => (match h3[n]? with
    | some (.dct kvs) => if kvs.length < sizeLine then .nx r (h3.set n (.dct (putD kvs k d))) else .stuck
    | _ => .stuck)
  | _, _ => .stuck
/-- {k: v, ..}: the pairs, from the left -/
def pairsX : List (EX × EX) → LS → LH → R (List (Ky × D))
  | [], _, h => .ok [] h
  | (a, b) :: ps, r, h => (a r h).bind fun x h1 => (b r h1).bind fun y h2 => match keyD x with
    | some k => (pairsX ps r h2).bind fun kvs h3 => .ok ((k, y) :: kvs) h3
    | none => .stuck
def eDisp (ps : List (EX × EX)) : EX := fun r h => (pairsX ps r (h ++ [.dct []])).bind fun kvs h1 => match h1[h.length]? with
  | some (.dct []) => if kvs.length ≤ 15 then .ok (.ref h.length) (h1.set h.length (.dct (mergeD [] kvs))) else .stuck
  | _ => .stuck
def eDnew : EX := fun _ h => .ok (.ref h.length) (h ++ [.dct []])
/-- dict(d) -/
def bDict : List D → LH → R D
  | [x], h => (match dctR x h with
    | some kvs => .ok (.ref h.length) (h ++ [.dct kvs])
    | none => .stuck)
  | _, _ => .stuck
/-! ### methods of tuples -/
def strsD : List D → Option (List Str)
  | [] => some []
  | .str x :: r => (strsD r).map (x :: ·)
  | _ :: _ => none
def eTM (op : D → List D → LH → R D) (o : EX) (a : AX) : EX := fun r h => (o r h).bind fun x h1 => match x with
  | .tup xs => if (strsD xs).isSome = true then (a r h1).bind fun ds h2 => op x ds h2 else .stuck
  | _ => .stuck
/-- t.index(x), texts alone -/
def mTupIx : D → List D → LH → R D := fun x ds h => match x, ds with
  | .tup xs, [.str z] => (match strsD xs with
    | some ys => (match ys.findIdx? (fun y => decide (y = z)) with
      | some j => .ok (.int (j : Nat)) h
      | none => .stuck)
    | none => .stuck)
  | _, _ => .stuck
/-- a table of defs -/
def tabOf (l : List (Str × KF)) : Str → Option KF := fun n => (l.find? fun p => decide (p.1 = n)).map (·.2)
/-- f(..), f a local that holds a def -/
def eCallV (tab : Str → Option KF) (o : EX) (a : AX) : EX := fun r h => (o r h).bind fun x h1 => match x with
  | .fn n => (match tab n with
    | some op => (a r h1).bind fun ds h2 => op ds [] h2
    | none => .stuck)
  | _ => .stuck
/-- x in y, data of any depth -/
def itemsP : PyData → Option (List PyData)
  | .list bs => some bs
  | .tuple bs => some bs
  | _ => none
def oInDp (neg : Bool) : D → D → LH → R D := fun x y h => match deep h 60 x, deep h 60 y with
  | some a, some b => (match itemsP b with
    | some bs => if (SeqAt.shaped a && SeqAt.shaped b) = true then .ok (.bl (if neg then !(bs.any fun z => PyData.eqv z a) else bs.any fun z => PyData.eqv z a)) h else .stuck
    | none => .stuck)
  | _, _ => .stuck
end Py

set_option Elab.async false
set_option linter.all false
set_option maxRecDepth 100000
/-! Own layer, part 2: the relation between the logical heap and the layer's heap; expressions. -/
namespace Py
open PySem PySem.Spec L2

/-- classes by number, attribute names by number -/
structure Gam where
  cl : Nat → Addr
  nm : Nat → Str
  top : Nat
  inj : ∀ i j, i < top → j < top → nm i = nm j → i = j
  tabs : List (Addr × Str)

/-- a list that is read alone: locked, or of the written part -/
def SqF (K : PySem.W.Frag) (H : Hp) (a : Addr) (xs : List V) : Prop := (∃ o, H a = some (.frz o (.lst xs))) ∨
  ∃ (o : Obj) (its : Array Value) (n : Nat), K.lookup a = some o ∧ o.cls = .type "list" ∧ o.dict = none ∧ o.data = .seq its n ∧ its.size ≤ sizeLine ∧ Vals xs its.toList
theorem SqF.sq {K : PySem.W.Frag} {H : Hp} {a : Addr} {xs : List V} (h : SqF K H a xs) : SqL K H a xs := by
  rcases h with h | h
  · exact .inl (.inr h)
  · exact .inr h
/-- an object that has no dict of its own -/
def Xc (K : PySem.W.Frag) (H : Hp) (a : Addr) : Prop := (∃ (o : Obj) (u : HO), H a = some (.frz o u) ∧ o.dict = none) ∨ ∃ o : Obj, K.lookup a = some o ∧ o.dict = none
/-- a tuple, known not to have a dict (but where its first item is a whole number) -/
structure SqX (K : PySem.W.Frag) (H : Hp) (a : Addr) (vs : List V) : Prop where
  sq : SqT K H a vs
  x : Xc K H a ∨ ∃ v ∈ vs, ∀ t, v ≠ V.str t
mutual
inductive RelD (K : PySem.W.Frag) (m : Nat → Addr) (N : Nat) (H : Hp) : D → V → Prop
  | non : RelD K m N H .non .non
  | bl (b : Bool) : RelD K m N H (.bl b) (.bl b)
  | int (i : Int) : RelD K m N H (.int i) (.int i)
  | str (x : Str) : RelD K m N H (.str x) (.str x)
  | tup {a : Addr} {xs : List D} {vs : List V} : SqX K H a vs → RelDs K m N H xs vs → RelD K m N H (.tup xs) (.ref a)
  | ref {n : Nat} : n < N → RelD K m N H (.ref n) (.ref (m n))
  | scr {a : Addr} {ns : List Int} : SqF K H a (ns.map V.int) → RelD K m N H (.scr ns) (.ref a)
  | fn {x : Str} {a : Addr} : PySem.W.nsIn K mainGlobals x = some (some (.ref a)) → RelD K m N H (.fn x) (.ref a)
inductive RelDs (K : PySem.W.Frag) (m : Nat → Addr) (N : Nat) (H : Hp) : List D → List V → Prop
  | nil : RelDs K m N H [] []
  | cons {d : D} {v : V} {ds : List D} {vs : List V} : RelD K m N H d v → RelDs K m N H ds vs → RelDs K m N H (d :: ds) (v :: vs)
end

theorem xn_int {i : Int} {us : List V} : ∃ v ∈ V.int i :: us, ∀ t, v ≠ V.str t := ⟨_, List.mem_cons_self .., fun _ z => nomatch z⟩
/-- tuples and locked lists stay -/
structure TK (K : PySem.W.Frag) (H H' : Hp) : Prop where
  t : ∀ a vs, SqT K H a vs → SqT K H' a vs
  f : ∀ a vs, SqF K H a vs → SqF K H' a vs
  x : ∀ a, Xc K H a → Xc K H' a
  z : ∀ a o kvs, H a = some (.frz o (.dK kvs)) → H' a = some (.frz o (.dK kvs))
theorem TK.refl {K : PySem.W.Frag} (H : Hp) : TK K H H := ⟨fun _ _ h => h, fun _ _ h => h, fun _ h => h, fun _ _ _ h => h⟩
theorem TK.trans {K : PySem.W.Frag} {H H1 H2 : Hp} (a : TK K H H1) (b : TK K H1 H2) : TK K H H2 := ⟨fun x vs h => b.t x vs (a.t x vs h), fun x vs h => b.f x vs (a.f x vs h), fun x h => b.x x (a.x x h), fun x o k h => b.z x o k (a.z x o k h)⟩
theorem TK.sx {K : PySem.W.Frag} {H H1 : Hp} (t : TK K H H1) {a : Addr} {vs : List V} (h : SqX K H a vs) : SqX K H1 a vs := ⟨t.t _ _ h.sq, h.x.imp (t.x _) id⟩
theorem TK.upd_new {K : PySem.W.Frag} {H : Hp} {p : Addr} {o : HO} (hp : H p = none) : TK K H (upd H p o) := by
  refine ⟨fun a vs h => ?_, fun a vs h => ?_, fun a h => ?_, fun a o' kvs h => by rw [upd_ne (ne_of_none h hp)]; exact h⟩
  · rcases h with (h | ⟨u, h⟩) | h
    · exact .inl (.inl (by rw [upd_ne (ne_of_none h hp)]; exact h))
    · exact .inl (.inr ⟨u, by rw [upd_ne (ne_of_none h hp)]; exact h⟩)
    · exact .inr h
  · rcases h with ⟨u, h⟩ | h
    · exact .inl ⟨u, by rw [upd_ne (ne_of_none h hp)]; exact h⟩
    · exact .inr h
  · rcases h with ⟨u, w, h, e⟩ | h
    · exact .inl ⟨u, w, by rw [upd_ne (ne_of_none h hp)]; exact h, e⟩
    · exact .inr h
theorem TK.upd_mut {K : PySem.W.Frag} {H : Hp} {p : Addr} {o u : HO} (hp : H p = some u) (nt : ∀ vs, u ≠ .tup vs) (nf : ∀ ob w, u ≠ .frz ob w) : TK K H (upd H p o) := by
  refine ⟨fun a vs h => ?_, fun a vs h => ?_, fun a h => ?_, fun a o' kvs h => by rw [upd_ne (ne_of h hp fun e => nf _ _ e.symm)]; exact h⟩
  · rcases h with (h | ⟨z, h⟩) | h
    · exact .inl (.inl (by rw [upd_ne (ne_of h hp fun e => nt vs e.symm)]; exact h))
    · exact .inl (.inr ⟨z, by rw [upd_ne (ne_of h hp fun e => nf _ _ e.symm)]; exact h⟩)
    · exact .inr h
  · rcases h with ⟨z, h⟩ | h
    · exact .inl ⟨z, by rw [upd_ne (ne_of h hp fun e => nf _ _ e.symm)]; exact h⟩
    · exact .inr h
  · rcases h with ⟨z, w, h, e⟩ | h
    · exact .inl ⟨z, w, by rw [upd_ne (ne_of h hp fun e => nf _ _ e.symm)]; exact h, e⟩
    · exact .inr h

mutual
theorem RelD.mono {K : PySem.W.Frag} {m m' : Nat → Addr} {N N' : Nat} {H H' : Hp} (ag : ∀ i, i < N → m' i = m i) (hN : N ≤ N') (t : TK K H H') : ∀ {d : D} {v : V}, RelD K m N H d v → RelD K m' N' H' d v
  | _, _, .non => .non
  | _, _, .bl b => .bl b
  | _, _, .int i => .int i
  | _, _, .str x => .str x
  | _, _, .tup h r => .tup (t.sx h) (RelDs.mono ag hN t r)
  | _, _, .scr h => .scr (t.f _ _ h)
  | _, _, .fn h => .fn h
  | _, _, .ref (n := n) h => by rw [← ag n h]; exact .ref (Nat.lt_of_lt_of_le h hN)
theorem RelDs.mono {K : PySem.W.Frag} {m m' : Nat → Addr} {N N' : Nat} {H H' : Hp} (ag : ∀ i, i < N → m' i = m i) (hN : N ≤ N') (t : TK K H H') : ∀ {d : List D} {v : List V}, RelDs K m N H d v → RelDs K m' N' H' d v
  | _, _, .nil => .nil
  | _, _, .cons h r => .cons (RelD.mono ag hN t h) (RelDs.mono ag hN t r)
end
section
variable {K : PySem.W.Frag} {m : Nat → Addr} {N : Nat} {H : Hp}
theorem RelDs.length : ∀ {ds : List D} {vs : List V}, RelDs K m N H ds vs → ds.length = vs.length
  | _, _, .nil => rfl
  | _, _, .cons _ r => by simp [RelDs.length r]
theorem RelDs.append : ∀ {ds es : List D} {vs ws : List V}, RelDs K m N H ds vs → RelDs K m N H es ws → RelDs K m N H (ds ++ es) (vs ++ ws)
  | _, _, _, _, .nil, s => s
  | _, _, _, _, .cons h r, s => .cons h (RelDs.append r s)
theorem RelDs.get : ∀ {ds : List D} {vs : List V} {i : Nat} {d : D}, RelDs K m N H ds vs → ds[i]? = some d → ∃ v, vs[i]? = some v ∧ RelD K m N H d v
  | _, _, _, _, .nil, e => by simp at e
  | _, _, 0, _, .cons h _, e => by simp at e; subst e; exact ⟨_, rfl, h⟩
  | _, _, i + 1, d, .cons _ r, e => by
    obtain ⟨v, h1, h2⟩ := RelDs.get (i := i) (d := d) r (by simpa using e)
    exact ⟨v, by simpa using h1, h2⟩
theorem RelDs.set {d : D} {v : V} (h : RelD K m N H d v) : ∀ {ds : List D} {vs : List V} (i : Nat), RelDs K m N H ds vs → RelDs K m N H (ds.set i d) (vs.set i v)
  | _, _, _, .nil => .nil
  | _, _, 0, .cons _ r => .cons h r
  | _, _, i + 1, .cons h' r => .cons h' (RelDs.set h i r)
theorem RelDs.take : ∀ {ds : List D} {vs : List V} (n : Nat), RelDs K m N H ds vs → RelDs K m N H (ds.take n) (vs.take n)
  | _, _, 0, _ => .nil
  | _, _, _ + 1, .nil => .nil
  | _, _, n + 1, .cons h r => .cons h (RelDs.take n r)
theorem RelDs.drop : ∀ {ds : List D} {vs : List V} (n : Nat), RelDs K m N H ds vs → RelDs K m N H (ds.drop n) (vs.drop n)
  | _, _, 0, r => r
  | _, _, _ + 1, .nil => .nil
  | _, _, n + 1, .cons h r => RelDs.drop n r
theorem RelDs.replicate {d : D} {v : V} (h : RelD K m N H d v) : ∀ (n : Nat), RelDs K m N H (List.replicate n d) (List.replicate n v)
  | 0 => .nil
  | n + 1 => .cons h (RelDs.replicate h n)
theorem RelDs.ints : ∀ (ns : List Int), RelDs K m N H (ns.map .int) (ns.map V.int)
  | [] => .nil
  | _ :: r => .cons (.int _) (RelDs.ints r)
end

/-- attributes -/
inductive RelFs (G : Gam) (K : PySem.W.Frag) (m : Nat → Addr) (N : Nat) (H : Hp) : List (Nat × D) → List (Str × V) → Prop
  | nil : RelFs G K m N H [] []
  | cons {i : Nat} {d : D} {v : V} {fs : List (Nat × D)} {vs : List (Str × V)} : i < G.top → RelD K m N H d v → RelFs G K m N H fs vs → RelFs G K m N H ((i, d) :: fs) ((G.nm i, v) :: vs)
theorem RelFs.mono {G : Gam} {K : PySem.W.Frag} {m m' : Nat → Addr} {N N' : Nat} {H H' : Hp} (ag : ∀ i, i < N → m' i = m i) (hN : N ≤ N') (t : TK K H H') : ∀ {fs : List (Nat × D)} {vs : List (Str × V)}, RelFs G K m N H fs vs → RelFs G K m' N' H' fs vs
  | _, _, .nil => .nil
  | _, _, .cons a h r => .cons a (h.mono ag hN t) (RelFs.mono ag hN t r)
theorem RelFs.length {G : Gam} {K : PySem.W.Frag} {m : Nat → Addr} {N : Nat} {H : Hp} : ∀ {fs : List (Nat × D)} {vs : List (Str × V)}, RelFs G K m N H fs vs → fs.length = vs.length
  | _, _, .nil => rfl
  | _, _, .cons _ _ r => by simp [RelFs.length r]
theorem RelFs.get {G : Gam} {K : PySem.W.Frag} {m : Nat → Addr} {N : Nat} {H : Hp} {i : Nat} (hi : i < G.top) : ∀ {fs : List (Nat × D)} {vs : List (Str × V)} {d : D}, RelFs G K m N H fs vs → getA i fs = some d → ∃ v, vs.lookup (G.nm i) = some v ∧ RelD K m N H d v
  | _, _, _, .nil, e => by simp [getA] at e
  | _, _, d, .cons (i := j) a h r, e => by
    simp only [getA] at e
    by_cases q : i = j
    · subst q
      simp at e
      subst e
      exact ⟨_, by simp [List.lookup], h⟩
    · rw [if_neg q] at e
      obtain ⟨v, e1, h1⟩ := RelFs.get hi r e
      refine ⟨v, ?_, h1⟩
      have : (G.nm i == G.nm j) = false := beq_eq_false_iff_ne.mpr fun z => q (G.inj i j hi a z)
      simp only [List.lookup, this]
      exact e1
theorem RelFs.put {G : Gam} {K : PySem.W.Frag} {m : Nat → Addr} {N : Nat} {H : Hp} {i : Nat} {d : D} {v : V} (hi : i < G.top) (hd : RelD K m N H d v) : ∀ {fs : List (Nat × D)} {vs : List (Str × V)}, RelFs G K m N H fs vs → RelFs G K m N H (putA i d fs) (putF (G.nm i) v vs)
  | _, _, .nil => .cons hi hd .nil
  | _, _, .cons (i := j) a h r => by
    simp only [putA, putF]
    by_cases q : j = i
    · subst q
      simp only [if_pos]
      exact .cons a hd r
    · rw [if_neg q, if_neg fun z => q (G.inj j i a hi z)]
      exact .cons a h (RelFs.put hi hd r)

/-- entries of a dict -/
inductive RelKs (K : PySem.W.Frag) (m : Nat → Addr) (N : Nat) (H : Hp) : List (Ky × D) → List (L2.Key × V) → Prop
  | nil : RelKs K m N H [] []
  | cons {k : Ky} {d : D} {v : V} {ds : List (Ky × D)} {vs : List (L2.Key × V)} : RelD K m N H d v → RelKs K m N H ds vs → RelKs K m N H ((k, d) :: ds) ((k, v) :: vs)
theorem RelKs.mono {K : PySem.W.Frag} {m m' : Nat → Addr} {N N' : Nat} {H H' : Hp} (ag : ∀ i, i < N → m' i = m i) (hN : N ≤ N') (t : TK K H H') : ∀ {fs : List (Ky × D)} {vs : List (L2.Key × V)}, RelKs K m N H fs vs → RelKs K m' N' H' fs vs
  | _, _, .nil => .nil
  | _, _, .cons h r => .cons (h.mono ag hN t) (RelKs.mono ag hN t r)
/-- what stands at a place, in both heaps -/
def RelO (G : Gam) (K : PySem.W.Frag) (m : Nat → Addr) (N : Nat) (H : Hp) (a : Addr) : O → Prop
  | .lst xs => ∃ vs, H a = some (.lst vs) ∧ RelDs K m N H xs vs
  | .dct kvs => ∃ vs, H a = some (.dK vs) ∧ RelKs K m N H kvs vs
  | .hid kvs => ∃ od vs, H a = some (.frz od (.dK vs)) ∧ RelKs K m N H kvs vs
  | .ins c fs => ∃ dx vs, H a = some (.ins (G.cl c) dx vs) ∧ RelFs G K m N H fs vs
theorem RelO.mono {G : Gam} {K : PySem.W.Frag} {m m' : Nat → Addr} {N N' : Nat} {H H' : Hp} {a : Addr} {o : O} (ag : ∀ i, i < N → m' i = m i) (hN : N ≤ N') (t : TK K H H') (e : H' a = H a) (h : RelO G K m N H a o) : RelO G K m' N' H' a o := by
  cases o with
  | lst xs => obtain ⟨vs, h1, h2⟩ := h; exact ⟨vs, e.trans h1, h2.mono ag hN t⟩
  | ins c fs => obtain ⟨dx, vs, h1, h2⟩ := h; exact ⟨dx, vs, e.trans h1, h2.mono ag hN t⟩
  | dct kv => obtain ⟨vs, h1, h2⟩ := h; exact ⟨vs, e.trans h1, h2.mono ag hN t⟩
  | hid _ => obtain ⟨od, vs, h1, h2⟩ := h; exact ⟨od, vs, e.trans h1, h2.mono ag hN t⟩

structure RelH (G : Gam) (K : PySem.W.Frag) (m : Nat → Addr) (h : LH) (H : Hp) : Prop where
  obj : ∀ n o, h[n]? = some o → RelO G K m h.length H (m n) o
  inj : ∀ i j, i < h.length → j < h.length → m i = m j → i = j
  tab : LamX.Tabs G.tabs H

/-- locals -/
inductive RelS (K : PySem.W.Frag) (m : Nat → Addr) (N : Nat) (H : Hp) : LS → St → Prop
  | nil : RelS K m N H [] []
  | no {v : Option V} {r : LS} {s : St} : RelS K m N H r s → RelS K m N H (none :: r) (v :: s)
  | yes {d : D} {v : V} {r : LS} {s : St} : RelD K m N H d v → RelS K m N H r s → RelS K m N H (some d :: r) (some v :: s)
theorem RelS.mono {K : PySem.W.Frag} {m m' : Nat → Addr} {N N' : Nat} {H H' : Hp} (ag : ∀ i, i < N → m' i = m i) (hN : N ≤ N') (t : TK K H H') : ∀ {r : LS} {s : St}, RelS K m N H r s → RelS K m' N' H' r s
  | _, _, .nil => .nil
  | _, _, .no r => .no (RelS.mono ag hN t r)
  | _, _, .yes h r => .yes (h.mono ag hN t) (RelS.mono ag hN t r)
theorem RelS.get {K : PySem.W.Frag} {m : Nat → Addr} {N : Nat} {H : Hp} : ∀ {r : LS} {s : St} {i : Nat} {d : D}, RelS K m N H r s → r[i]? = some (some d) → ∃ v, s[i]? = some (some v) ∧ RelD K m N H d v
  | _, _, _, _, .nil, e => by simp at e
  | _, _, 0, _, .no _, e => by simp at e
  | _, _, 0, _, .yes h _, e => by simp at e; subst e; exact ⟨_, rfl, h⟩
  | _, _, i + 1, d, .no r, e => by
    obtain ⟨v, h1, h2⟩ := RelS.get (i := i) (d := d) r (by simpa using e)
    exact ⟨v, by simpa using h1, h2⟩
  | _, _, i + 1, d, .yes _ r, e => by
    obtain ⟨v, h1, h2⟩ := RelS.get (i := i) (d := d) r (by simpa using e)
    exact ⟨v, by simpa using h1, h2⟩
theorem RelS.set {K : PySem.W.Frag} {m : Nat → Addr} {N : Nat} {H : Hp} {d : D} {v : V} (h : RelD K m N H d v) : ∀ {r : LS} {s : St} (i : Nat), RelS K m N H r s → RelS K m N H (r.set i (some d)) (s.set i (some v))
  | _, _, _, .nil => .nil
  | _, _, 0, .no r => .yes h r
  | _, _, 0, .yes _ r => .yes h r
  | _, _, i + 1, .no r => .no (RelS.set h i r)
  | _, _, i + 1, .yes q r => .yes q (RelS.set h i r)
theorem RelS.set0 {K : PySem.W.Frag} {m : Nat → Addr} {N : Nat} {H : Hp} {v : Option V} : ∀ {r : LS} {s : St} (i : Nat), RelS K m N H r s → RelS K m N H (r.set i none) (s.set i v)
  | _, _, _, .nil => .nil
  | _, _, 0, .no r => .no r
  | _, _, 0, .yes _ r => .no r
  | _, _, i + 1, .no r => .no (RelS.set0 i r)
  | _, _, i + 1, .yes q r => .yes q (RelS.set0 i r)
theorem RelS.of {K : PySem.W.Frag} {m : Nat → Addr} {N : Nat} {H : Hp} : ∀ {ds : List D} {vs : List V} (k : Nat), RelDs K m N H ds vs → RelS K m N H (ds.map some ++ List.replicate k none) (vs.map some ++ List.replicate k none)
  | _, _, 0, .nil => .nil
  | _, _, k + 1, .nil => .no (RelS.of k .nil)
  | _, _, k, .cons h r => .yes h (RelS.of k r)

/-- from one pair of heaps to a later one -/
structure Post (G : Gam) (K : PySem.W.Frag) (m : Nat → Addr) (N : Nat) (H : Hp) (m' : Nat → Addr) (h' : LH) (H' : Hp) : Prop where
  agr : ∀ i, i < N → m' i = m i
  len : N ≤ h'.length
  tk : TK K H H'
  rel : RelH G K m' h' H'
  new : ∀ i, N ≤ i → i < h'.length → ∀ o, H (m' i) = some o → ∃ ps, o = .tbl ps
  fr : ∀ a o, H a = some o → (∀ ps, o ≠ .tbl ps) → (∀ i, i < N → m i ≠ a) → H' a = some o
section
variable {G : Gam} {K : PySem.W.Frag} {m m1 m2 : Nat → Addr} {N : Nat} {h h1 h2 : LH} {H H1 H2 : Hp}
theorem Post.refl (r : RelH G K m h H) : Post G K m h.length H m h H := ⟨fun _ _ => rfl, Nat.le_refl _, TK.refl _, r, fun i h1 h2 => absurd h2 (Nat.not_lt.mpr h1), fun _ _ e _ _ => e⟩
theorem RelO.isThere {a : Addr} {o : O} (r : RelO G K m N H a o) : ∃ u, H a = some u := by
  cases o with
  | lst xs => obtain ⟨vs, h1, _⟩ := r; exact ⟨_, h1⟩
  | ins c fs => obtain ⟨dx, vs, h1, _⟩ := r; exact ⟨_, h1⟩
  | dct kv => obtain ⟨vs, h1, _⟩ := r; exact ⟨_, h1⟩
  | hid _ => obtain ⟨od, vs, h1, _⟩ := r; exact ⟨_, h1⟩
theorem RelH.isThere (r : RelH G K m h H) {n : Nat} (hn : n < h.length) : ∃ u, H (m n) = some u := (r.obj n _ (List.getElem?_eq_getElem hn)).isThere
theorem RelO.noTbl {a : Addr} {o : O} (r : RelO G K m N H a o) (ps : Array Value) : H a ≠ some (.tbl ps) := by
  cases o with
  | lst xs => obtain ⟨vs, h1, _⟩ := r; rw [h1]; exact fun z => nomatch z
  | ins c fs => obtain ⟨dx, vs, h1, _⟩ := r; rw [h1]; exact fun z => nomatch z
  | dct kv => obtain ⟨vs, h1, _⟩ := r; rw [h1]; exact fun z => nomatch z
  | hid _ => obtain ⟨od, vs, h1, _⟩ := r; rw [h1]; exact fun z => nomatch z
theorem Post.trans (a : Post G K m N H m1 h1 H1) (b : Post G K m1 h1.length H1 m2 h2 H2) : Post G K m N H m2 h2 H2 := by
  have ag : ∀ i, i < N → m2 i = m i := fun i hi => (b.agr i (Nat.lt_of_lt_of_le hi a.len)).trans (a.agr i hi)
  have out : ∀ x o, H x = some o → (∀ ps, o ≠ .tbl ps) → (∀ i, i < N → m i ≠ x) → ∀ i, i < h1.length → m1 i ≠ x := fun x o e nt hx i hi z => by
    by_cases hn : i < N
    · exact hx i hn ((a.agr i hn).symm.trans z)
    · obtain ⟨ps, q⟩ := a.new i (Nat.not_lt.mp hn) hi o (by rw [z]; exact e)
      exact nt ps q
  refine ⟨ag, Nat.le_trans a.len b.len, a.tk.trans b.tk, b.rel, fun i h1' h2' => ?_, fun x o e nt hx => b.fr x o (a.fr x o e nt hx) nt (out x o e nt hx)⟩
  by_cases hi : i < h1.length
  · rw [b.agr i hi]; exact a.new i h1' hi
  · intro o z
    by_cases nt : ∀ ps, o ≠ .tbl ps
    · exfalso
      by_cases hx : ∀ j, j < N → m j ≠ m2 i
      · obtain ⟨ps, q⟩ := b.new i (Nat.not_lt.mp hi) h2' o (a.fr _ _ z nt hx)
        exact nt ps q
      · have hx' : ∃ j, j < N ∧ m j = m2 i := by
          apply Classical.byContradiction
          intro hc
          exact hx fun j hj e => hc ⟨j, hj, e⟩
        obtain ⟨j, hj, e⟩ := hx'
        have hl := Nat.lt_of_lt_of_le hj a.len
        obtain ⟨u, hu⟩ := a.rel.isThere hl
        have e2 := (a.agr j hj).trans e
        obtain ⟨ps, q⟩ := b.new i (Nat.not_lt.mp hi) h2' u (by rw [← e2]; exact hu)
        exact (a.rel.obj j _ (List.getElem?_eq_getElem hl)).noTbl ps (by rw [hu, q])
    · apply Classical.byContradiction
      intro hc
      exact nt fun ps e => hc ⟨ps, e⟩
theorem Post.d {d : D} {v : V} (a : Post G K m N H m1 h1 H1) (r : RelD K m N H d v) : RelD K m1 h1.length H1 d v := r.mono a.agr a.len a.tk
theorem Post.ds (a : Post G K m N H m1 h1 H1) {ds : List D} {vs : List V} (r : RelDs K m N H ds vs) : RelDs K m1 h1.length H1 ds vs := r.mono a.agr a.len a.tk
theorem Post.s (a : Post G K m N H m1 h1 H1) {r : LS} {s : St} (q : RelS K m N H r s) : RelS K m1 h1.length H1 r s := q.mono a.agr a.len a.tk

def ext (m : Nat → Addr) (n : Nat) (p : Addr) : Nat → Addr := fun i => if i = n then p else m i
theorem ext_self (m : Nat → Addr) (n : Nat) (p : Addr) : ext m n p n = p := if_pos rfl
theorem ext_ne {m : Nat → Addr} {n i : Nat} {p : Addr} (h : i ≠ n) : ext m n p i = m i := if_neg h
theorem RelO.ne {a p : Addr} {o : O} (r : RelO G K m N H a o) (hp : H p = none) : a ≠ p := by
  cases o with
  | lst xs => obtain ⟨vs, h1, _⟩ := r; exact ne_of_none h1 hp
  | ins c fs => obtain ⟨dx, vs, h1, _⟩ := r; exact ne_of_none h1 hp
  | dct kv => obtain ⟨vs, h1, _⟩ := r; exact ne_of_none h1 hp
  | hid _ => obtain ⟨od, vs, h1, _⟩ := r; exact ne_of_none h1 hp
theorem RelH.ne (r : RelH G K m h H) {n : Nat} {p : Addr} (hn : n < h.length) (hp : H p = none) : m n ≠ p :=
  (r.obj n _ (List.getElem?_eq_getElem hn)).ne hp
/-- tables stay where something is put -/
theorem tabs_new {T : List (Addr × Str)} {H : Hp} {p : Addr} {u : HO} (t : LamX.Tabs T H) (hp : H p = none) : LamX.Tabs T (upd H p u) := t.ext fun b o e => by rw [upd_ne (ne_of_none e hp)]; exact e
theorem tabs_upd {T : List (Addr × Str)} {H : Hp} {p : Addr} {u u0 : HO} (t : LamX.Tabs T H) (hp : H p = some u0) (n1 : ∀ ps, u0 ≠ .tbl ps) (n2 : ∀ φ, u0 ≠ .ext φ) : LamX.Tabs T (upd H p u) := fun q m => by
  obtain ⟨ps, e1, e2, e3⟩ := t q m
  have k1 : q.1 ≠ p := fun z => by rw [z, hp] at e1; exact n1 _ (Option.some.inj e1)
  refine ⟨ps, by rw [upd_ne k1]; exact e1, e2, fun pos cv hc => ?_⟩
  obtain ⟨c, e4, e5⟩ := e3 pos cv hc
  have k2 : c ≠ p := fun z => by rw [z, hp] at e5; exact n2 _ (Option.some.inj e5)
  exact ⟨c, e4, by rw [upd_ne k2]; exact e5⟩
/-- a new object -/
theorem RelH.new (r : RelH G K m h H) {p : Addr} {o : O} {u : HO} (hp : H p = none) (ho : ∀ m', (∀ i, i < h.length → m' i = m i) → m' h.length = p → RelO G K m' (h.length + 1) (upd H p u) p o) :
    Post G K m h.length H (ext m h.length p) (h ++ [o]) (upd H p u) := by
  have ag : ∀ i, i < h.length → ext m h.length p i = m i := fun i hi => ext_ne (Nat.ne_of_lt hi)
  have tk : TK K H (upd H p u) := TK.upd_new hp
  refine ⟨ag, by simp, tk, ⟨?_, ?_, tabs_new r.tab hp⟩, ?_, fun a o e _ _ => by rw [upd_ne (ne_of_none e hp)]; exact e⟩
  · intro n o' e
    by_cases hn : n < h.length
    · rw [List.getElem?_append_left hn] at e
      rw [ag n hn]
      refine (r.obj n o' e).mono ag (by simp) tk ?_
      rw [upd_ne (r.ne hn hp)]
    · have : n = h.length := by
        have := (List.getElem?_eq_some_iff.mp e).1
        simp at this
        omega
      subst this
      simp at e
      subst e
      rw [ext_self]
      simpa using ho _ ag (ext_self _ _ _)
  · intro i j hi hj e
    simp at hi hj
    by_cases h1 : i < h.length
    · by_cases h2 : j < h.length
      · rw [ag i h1, ag j h2] at e
        exact r.inj i j h1 h2 e
      · have : j = h.length := by omega
        subst this
        rw [ag i h1, ext_self] at e
        exact absurd e (r.ne h1 hp)
    · have h1' : i = h.length := by omega
      subst h1'
      by_cases h2 : j < h.length
      · rw [ag j h2, ext_self] at e
        exact absurd e.symm (r.ne h2 hp)
      · omega
  · intro i h1 h2
    simp at h2
    have : i = h.length := by omega
    subst this
    rw [ext_self]; exact fun o e => by rw [hp] at e; cases e
/-- only a tuple more -/
theorem RelH.newT (r : RelH G K m h H) {p : Addr} {u : HO} (hp : H p = none) : Post G K m h.length H m h (upd H p u) := by
  have tk : TK K H (upd H p u) := TK.upd_new hp
  refine ⟨fun _ _ => rfl, Nat.le_refl _, tk, ⟨fun n o e => ?_, r.inj, tabs_new r.tab hp⟩, fun i h1 h2 => absurd h2 (Nat.not_lt.mpr h1), fun a o e _ _ => by rw [upd_ne (ne_of_none e hp)]; exact e⟩
  exact (r.obj n o e).mono (fun _ _ => rfl) (Nat.le_refl _) tk (by rw [upd_ne (r.ne (List.getElem?_eq_some_iff.mp e).1 hp)])
/-- an object turns -/
theorem RelH.upd (r : RelH G K m h H) {n : Nat} {o0 o : O} {u0 u : HO} (hn : h[n]? = some o0) (h0 : H (m n) = some u0) (nt : ∀ vs, u0 ≠ .tup vs) (nf : ∀ ob w, u0 ≠ .frz ob w)
    (ho : RelO G K m h.length (upd H (m n) u) (m n) o) : Post G K m h.length H m (h.set n o) (L2.upd H (m n) u) := by
  have hl := (List.getElem?_eq_some_iff.mp hn).1
  have tk : TK K H (L2.upd H (m n) u) := TK.upd_mut h0 nt nf
  have ob := r.obj n o0 hn
  have n1 : ∀ ps, u0 ≠ .tbl ps := fun ps z => by
    subst z
    cases o0 with
    | lst xs => obtain ⟨_, e, _⟩ := ob; rw [h0] at e; cases e
    | ins c fs => obtain ⟨_, _, e, _⟩ := ob; rw [h0] at e; cases e
    | dct kv => obtain ⟨_, e, _⟩ := ob; rw [h0] at e; cases e
    | hid _ => obtain ⟨_, _, e, _⟩ := ob; rw [h0] at e; cases e
  have n2 : ∀ φ, u0 ≠ .ext φ := fun ps z => by
    subst z
    cases o0 with
    | lst xs => obtain ⟨_, e, _⟩ := ob; rw [h0] at e; cases e
    | ins c fs => obtain ⟨_, _, e, _⟩ := ob; rw [h0] at e; cases e
    | dct kv => obtain ⟨_, e, _⟩ := ob; rw [h0] at e; cases e
    | hid _ => obtain ⟨_, _, e, _⟩ := ob; rw [h0] at e; cases e
  refine ⟨fun _ _ => rfl, by simp, tk, ⟨?_, ?_, tabs_upd r.tab h0 n1 n2⟩, fun i h1 h2 => ?_, fun a o e _ hx => by rw [upd_ne (Ne.symm (hx n hl))]; exact e⟩
  · intro k o' e
    rw [List.length_set]
    by_cases z : n = k
    · subst z
      rw [List.getElem?_set_self hl] at e
      cases e
      exact ho
    · rw [List.getElem?_set_ne z] at e
      refine (r.obj k o' e).mono (fun _ _ => rfl) (Nat.le_refl _) tk ?_
      rw [upd_ne fun q => z (r.inj n k hl (List.getElem?_eq_some_iff.mp e).1 q.symm)]
  · intro i j hi hj e
    rw [List.length_set] at hi hj
    exact r.inj i j hi hj e
  · rw [List.length_set] at h2
    exact absurd h2 (Nat.not_lt.mpr h1)
end

/-- an exception's own dict -/
def ExcAt (G : Gam) (K : PySem.W.Frag) (m : Nat → Addr) (N : Nat) (H : Hp) (fs : List (Nat × D)) (od : Option Addr) : Prop :=
  (fs = [] ∧ od = none) ∨ ∃ a vs, od = some a ∧ H a = some (.xd vs) ∧ RelFs G K m N H fs vs
/-- what an exception promises -/
def OutX (G : Gam) (K : PySem.W.Frag) (E : XK) (m : Nat → Addr) (N : Nat) (H : Hp) (c : Nat) (fs : List (Nat × D)) (h' : LH) : Prop :=
  ∀ m' H' od, Post G K m N H m' h' H' → ExcAt G K m' h'.length H' fs od → E (.ref (G.cl c)) od H'
/-- what an outcome promises -/
def Out (G : Gam) (K : PySem.W.Frag) (E : XK) (m : Nat → Addr) (N : Nat) (H : Hp) (Q : VK) : R D → Prop
  | .ok d h' => ∀ m' H' v, Post G K m N H m' h' H' → RelD K m' h'.length H' d v → Q v H'
  | .exc c fs h' => OutX G K E m N H c fs h'
  | .stuck => False
def OutA (G : Gam) (K : PySem.W.Frag) (E : XK) (m : Nat → Addr) (N : Nat) (H : Hp) (Q : List V → Hp → Prop) : R (List D) → Prop
  | .ok d h' => ∀ m' H' v, Post G K m N H m' h' H' → RelDs K m' h'.length H' d v → Q v H'
  | .exc c fs h' => OutX G K E m N H c fs h'
  | .stuck => False
def OutT (G : Gam) (K : PySem.W.Frag) (E : XK) (m : Nat → Addr) (N : Nat) (H : Hp) (Q : Bool → Hp → Prop) : R D → Prop
  | .ok d h' => ∃ b, truth d h' = some b ∧ ∀ m' H', Post G K m N H m' h' H' → Q b H'
  | .exc c fs h' => OutX G K E m N H c fs h'
  | .stuck => False
def OutS (G : Gam) (K : PySem.W.Frag) (E : XK) (m : Nat → Addr) (N : Nat) (H : Hp) (Z : Ends) : F → Prop
  | .nx r h' => ∀ m' H' s, Post G K m N H m' h' H' → RelS K m' h'.length H' r s → Z.nx s H'
  | .rt d h' => ∀ m' H' v, Post G K m N H m' h' H' → RelD K m' h'.length H' d v → Z.rt v H'
  | .bk r h' => ∀ m' H' s, Post G K m N H m' h' H' → RelS K m' h'.length H' r s → Z.bk s H'
  | .ct r h' => ∀ m' H' s, Post G K m N H m' h' H' → RelS K m' h'.length H' r s → Z.ct s H'
  | .exc c fs h' => OutX G K E m N H c fs h'
  | .stuck => False
section
variable {G : Gam} {K : PySem.W.Frag} {E : XK} {m m1 : Nat → Addr} {N : Nat} {H H1 : Hp} {h1 : LH}
theorem OutX.later {c : Nat} {fs : List (Nat × D)} {h' : LH} (a : Post G K m N H m1 h1 H1) (o : OutX G K E m N H c fs h') : OutX G K E m1 h1.length H1 c fs h' := fun m' H' od p e => o m' H' od (a.trans p) e
theorem Out.later {Q : VK} {r : R D} (a : Post G K m N H m1 h1 H1) (o : Out G K E m N H Q r) : Out G K E m1 h1.length H1 Q r := by
  cases r with
  | ok d h' => exact fun m' H' v p e => o m' H' v (a.trans p) e
  | exc c fs h' => exact OutX.later a o
  | stuck => exact o
theorem OutA.later {Q : List V → Hp → Prop} {r : R (List D)} (a : Post G K m N H m1 h1 H1) (o : OutA G K E m N H Q r) : OutA G K E m1 h1.length H1 Q r := by
  cases r with
  | ok d h' => exact fun m' H' v p e => o m' H' v (a.trans p) e
  | exc c fs h' => exact OutX.later a o
  | stuck => exact o
theorem OutT.later {Q : Bool → Hp → Prop} {r : R D} (a : Post G K m N H m1 h1 H1) (o : OutT G K E m N H Q r) : OutT G K E m1 h1.length H1 Q r := by
  cases r with
  | ok d h' =>
    obtain ⟨b, e, q⟩ := o
    exact ⟨b, e, fun m' H' p => q m' H' (a.trans p)⟩
  | exc c fs h' => exact OutX.later a o
  | stuck => exact o
theorem OutS.later {Z : Ends} {r : F} (a : Post G K m N H m1 h1 H1) (o : OutS G K E m N H Z r) : OutS G K E m1 h1.length H1 Z r := by
  cases r with
  | nx r h' => exact fun m' H' v p e => o m' H' v (a.trans p) e
  | rt r h' => exact fun m' H' v p e => o m' H' v (a.trans p) e
  | bk r h' => exact fun m' H' v p e => o m' H' v (a.trans p) e
  | ct r h' => exact fun m' H' v p e => o m' H' v (a.trans p) e
  | exc c fs h' => exact OutX.later a o
  | stuck => exact o
/-- the outcome of a bind -/
theorem Out.bindR {α : Type} {r : R α} {f : α → LH → R D} {Q : VK} (o : Out G K E m N H Q (r.bind f)) :
    (∃ a h1, r = .ok a h1 ∧ Out G K E m N H Q (f a h1)) ∨ ∃ c fs h1, r = .exc c fs h1 ∧ OutX G K E m N H c fs h1 := by
  cases r with
  | ok a h1 => exact .inl ⟨a, h1, rfl, o⟩
  | exc c fs h1 => exact .inr ⟨c, fs, h1, rfl, o⟩
  | stuck => exact False.elim o
theorem OutA.bindR {α : Type} {r : R α} {f : α → LH → R (List D)} {Q : List V → Hp → Prop} (o : OutA G K E m N H Q (r.bind f)) :
    (∃ a h1, r = .ok a h1 ∧ OutA G K E m N H Q (f a h1)) ∨ ∃ c fs h1, r = .exc c fs h1 ∧ OutX G K E m N H c fs h1 := by
  cases r with
  | ok a h1 => exact .inl ⟨a, h1, rfl, o⟩
  | exc c fs h1 => exact .inr ⟨c, fs, h1, rfl, o⟩
  | stuck => exact False.elim o
theorem OutT.bindR {α : Type} {r : R α} {f : α → LH → R D} {Q : Bool → Hp → Prop} (o : OutT G K E m N H Q (r.bind f)) :
    (∃ a h1, r = .ok a h1 ∧ OutT G K E m N H Q (f a h1)) ∨ ∃ c fs h1, r = .exc c fs h1 ∧ OutX G K E m N H c fs h1 := by
  cases r with
  | ok a h1 => exact .inl ⟨a, h1, rfl, o⟩
  | exc c fs h1 => exact .inr ⟨c, fs, h1, rfl, o⟩
  | stuck => exact False.elim o
theorem OutS.toR {α : Type} {r : R α} {f : α → LH → F} {Z : Ends} (o : OutS G K E m N H Z (r.to f)) :
    (∃ a h1, r = .ok a h1 ∧ OutS G K E m N H Z (f a h1)) ∨ ∃ c fs h1, r = .exc c fs h1 ∧ OutX G K E m N H c fs h1 := by
  cases r with
  | ok a h1 => exact .inl ⟨a, h1, rfl, o⟩
  | exc c fs h1 => exact .inr ⟨c, fs, h1, rfl, o⟩
  | stuck => exact False.elim o
end
section
variable (G : Gam) (K : PySem.W.Frag) (E : XK)
def tE (f : EX) : TE := fun σ H Q => ∃ m r h, RelH G K m h H ∧ RelS K m h.length H r σ ∧ Out G K E m h.length H Q (f r h)
def tA (f : AX) : TA := fun σ H Q => ∃ m r h, RelH G K m h H ∧ RelS K m h.length H r σ ∧ OutA G K E m h.length H Q (f r h)
def tT (f : EX) : TT := fun σ H Q => ∃ m r h, RelH G K m h H ∧ RelS K m h.length H r σ ∧ OutT G K E m h.length H Q (f r h)
def tS (f : SX) : TS := fun Z σ H => ∃ m r h, RelH G K m h H ∧ RelS K m h.length H r σ ∧ OutS G K E m h.length H Z (f r h)
def tG (g : GX) : TG := fun v σ H Q => ∃ m r h d, RelH G K m h H ∧ RelS K m h.length H r σ ∧ RelD K m h.length H d v ∧ OutS G K E m h.length H { nx := Q, rt := fun _ _ => False } (g d r h)
def tGs (g : GXs) : TGs := fun vs σ H Q => ∃ m r h ds, RelH G K m h H ∧ RelS K m h.length H r σ ∧ RelDs K m h.length H ds vs ∧ OutS G K E m h.length H { nx := Q, rt := fun _ _ => False } (g ds r h)
/-- an operator by values -/
def r2 (op : D → D → LH → R D) : R2 := fun x y H Q => ∃ m h dx dy, RelH G K m h H ∧ RelD K m h.length H dx x ∧ RelD K m h.length H dy y ∧ Out G K E m h.length H Q (op dx dy h)
def r1 (op : D → LH → R D) : V → Hp → VK → Prop := fun x H Q => ∃ m h dx, RelH G K m h H ∧ RelD K m h.length H dx x ∧ Out G K E m h.length H Q (op dx h)
def rA (op : List D → LH → R D) : List V → Hp → VK → Prop := fun xs H Q => ∃ m h ds, RelH G K m h H ∧ RelDs K m h.length H ds xs ∧ Out G K E m h.length H Q (op ds h)
end
/-! ### consequence -/
theorem PE_mono {X : Cx} {e : Expr} {t t' : TE} (a : PE X e t) (h : ∀ σ H Q, t' σ H Q → t σ H Q) : PE X e t' := ⟨fun pins s σ H Q I q => a.run pins s σ H Q I (h _ _ _ q)⟩
theorem PT_mono {X : Cx} {e : Expr} {t t' : TT} (a : PT X e t) (h : ∀ σ H Q, t' σ H Q → t σ H Q) : PT X e t' := ⟨fun pins s σ H Q I q => a.run pins s σ H Q I (h _ _ _ q)⟩
theorem PW_mono {X : Cx} {e : Expr} {t t' : TT} (a : PW X e t) (h : ∀ σ H Q, t' σ H Q → t σ H Q) : PW X e t' := ⟨fun w pins s σ H Q I q => a.run w pins s σ H Q I (h _ _ _ q)⟩
theorem PA_mono {X : Cx} {e : List Expr} {t t' : TA} (a : PA X e t) (h : ∀ σ H Q, t' σ H Q → t σ H Q) : PA X e t' := ⟨fun w pins s σ H Q I q => a.run w pins s σ H Q I (h _ _ _ q)⟩
theorem PS_mono {X : Cx} {e : Stmt} {t t' : TS} (a : PS X e t) (h : ∀ E σ H, t' E σ H → t E σ H) : PS X e t' := ⟨fun pins s σ H E I q => a.run pins s σ H E I (h _ _ _ q)⟩
theorem PSs_mono {X : Cx} {e : List Stmt} {t t' : TS} (a : PSs X e t) (h : ∀ E σ H, t' E σ H → t E σ H) : PSs X e t' := ⟨fun pins s σ H E I q => a.run pins s σ H E I (h _ _ _ q)⟩
theorem PG_mono {X : Cx} {e : Expr} {t t' : TG} (a : PG X e t) (h : ∀ v σ H Q, t' v σ H Q → t v σ H Q) : PG X e t' := ⟨fun pins s σ H v u Q I r q => a.run pins s σ H v u Q I r (h _ _ _ _ q)⟩
theorem PGs_mono {X : Cx} {e : List Expr} {t t' : TGs} (a : PGs X e t) (h : ∀ v σ H Q, t' v σ H Q → t v σ H Q) : PGs X e t' := ⟨fun pins s σ H v u Q I r q => a.run pins s σ H v u Q I r (h _ _ _ _ q)⟩
end Py

namespace Py
open PySem PySem.Spec PyProof.Rows L2
/-! ### new tuples, kept as objects -/
section
variable {X : Cx} {es : List Expr} {pos : Pos} {t : TA}
def tupO (us : List Value) : Obj := { cls := .type "tuple", data := .seq us.toArray }
theorem tup_laid {pins : List (Addr × Obj)} {σ : L2.St} {H : Hp} {s : Shared} {xs : List V} {us : List Value} (I : Inv X pins σ H s) (r : Vals xs us) (z : xs.length ≤ sizeLine) :
    Inv X pins σ (upd H s.heap.objs.size (.frz (tupO us) (.tup xs))) { s with heap := s.heap.push (tupO us) } :=
  I.laid (t' := s.toks) (o := .frz (tupO us) (.tup xs)) (fun b u e => Heap.get?_push_of_some _ e) (Nat.le_refl _) ⟨Heap.get?_push_size _ rfl, z, us, r, ⟨_, Heap.get?_push_size _ rfl, rfl, _, rfl⟩⟩
theorem sx_new {K : PySem.W.Frag} {H : Hp} {p : Addr} {o : Obj} {xs : List V} (ho : o.dict = none) : SqX K (upd H p (.frz o (.tup xs))) p xs := ⟨.inl (.inr ⟨o, upd_same⟩), .inl (.inl ⟨o, _, upd_same, ho⟩)⟩
def tTupF (t : TA) : TE := fun σ H Q => t σ H fun xs H1 => xs.length ≤ sizeLine ∧ ∀ (p : Addr) (o : Obj), H1 p = none → o.dict = none → Q (.ref p) (upd H1 p (.frz o (.tup xs)))
theorem pe_tupF {x1} (h : PA X es t) : PE X (.Tuple es x1 pos) (tTupF t) := by
  refine ⟨fun pins s σ H Q I hq => ?_⟩
  refine wpAny_Tuple_spliced (thn (h.run pos pins s σ H _ I hq) fun us s1 ⟨xs, H1, I1, r, z, q⟩ => ⟨by rw [← r.length]; exact z, ?_⟩)
  exact ⟨.ref s1.heap.objs.size, _, tup_laid I1 r z, rfl, q _ _ (I1.hok.fresh (Nat.le_refl _)) rfl⟩
def rCatF (K : PySem.W.Frag) : R2 := fun x y H Q => ∃ a b xs ys, x = .ref a ∧ y = .ref b ∧ SqT K H a xs ∧ SqT K H b ys ∧ xs.length + ys.length ≤ sizeLine ∧
  (xs = [] → Q (.ref b) H) ∧ (xs ≠ [] → ys = [] → Q (.ref a) H) ∧ (∀ (p : Addr) (o : Obj), H p = none → o.dict = none → Q (.ref p) (upd H p (.frz o (.tup (xs ++ ys)))))
theorem op_catF : OpR X (binaryOp .Add) (rCatF X.K) := by
  intro pins s σ H x y v u Q I rx ry h
  obtain ⟨a, b, xs, ys, rfl, rfl, ha, hb, hz, q0, q1, q2⟩ := h
  cases rx
  cases ry
  obtain ⟨its, r1, p1, _⟩ := I.tuple ha
  obtain ⟨its2, r2, p2, _⟩ := I.tuple hb
  by_cases hx : xs = []
  · subst hx
    cases r1
    exact cat_tup0 p1 p2 ⟨.ref b, H, I, rfl, q0 rfl⟩
  · refine HT.cat_tup p1 p2 (fun z => hx (r1.nil_iff.mp z)) (fun z => ⟨.ref a, H, I, rfl, q1 hx (r2.nil_iff.mp z)⟩) (fun z => ?_) (by rw [← r1.length, ← r2.length]; exact hz)
    exact ⟨.ref s.heap.objs.size, _, tup_laid I (r1.append r2) (by rw [List.length_append]; exact hz), rfl, q2 _ _ (I.hok.fresh (Nat.le_refl _)) rfl⟩
def rSlF (K : PySem.W.Frag) : V → Option Int → Option Int → Hp → VK → Prop := fun x lo hi H Q => ∃ a xs, x = .ref a ∧ SqT K H a xs ∧
  (HT.sIx xs.length 0 lo = 0 ∧ HT.sIx xs.length xs.length hi = xs.length → Q (.ref a) H) ∧ (∀ (p : Addr) (o : Obj), H p = none → o.dict = none → Q (.ref p) (upd H p (.frz o (.tup (cutV xs lo hi)))))
theorem sl_tupF : SlR X (rSlF X.K) := by
  intro pins s σ H x v vl vu lo hi sl Q I rx hs pl pu h
  obtain ⟨a, xs, rfl, hx, q1, q2⟩ := h
  cases rx
  obtain ⟨its, r, ht, hz⟩ := I.tuple hx
  have hlen : its.toArray.size = xs.length := by rw [List.size_toArray]; exact r.length.symm
  refine ⟨"tuple", _, PyProof.Rows.slot_tuple_getitem.lookup, ht.typeIs, ?_⟩
  by_cases hw : HT.sIx xs.length 0 lo = 0 ∧ HT.sIx xs.length xs.length hi = xs.length
  · exact getItem_tuple_whole ht hs pl pu (by rw [hlen]; exact hw) ⟨.ref a, H, I, rfl, q1 hw⟩
  · refine HT.getItem_tuple_cut ht hs pl pu (by rw [hlen]; exact hw) ?_ (by rw [hlen]; exact hz)
    rw [hlen]
    exact ⟨.ref s.heap.objs.size, _, tup_laid I ((r.drop (HT.sIx xs.length 0 lo)).take (HT.sIx xs.length xs.length hi - HT.sIx xs.length 0 lo)) (Nat.le_trans (cutV_length xs lo hi) hz), rfl, q2 _ _ (I.hok.fresh (Nat.le_refl _)) rfl⟩
theorem call_tupleF : CallR X (.type "tuple") (fun xs H Q => ∃ p ys, xs = [.ref p] ∧ ((SqL X.K H p ys ∧ ∀ (l : Addr) (o : Obj), H l = none → o.dict = none → Q (.ref l) (upd H l (.frz o (.tup ys)))) ∨ (SqT X.K H p ys ∧ Q (.ref p) H))) := by
  intro pins s σ H xs us Q I r h
  obtain ⟨p, ys, rfl, h⟩ := h
  obtain ⟨u, rfl, rx⟩ := vals1 r
  cases rx
  rcases h with ⟨hq, q⟩ | ⟨hq, q⟩
  · obtain ⟨its, r', pl, hz⟩ := I.list hq
    have hlen := r'.length
    refine call_tuple_list pl.isList (fun h' kp => ?_) (by simp only [List.size_toArray] <;> omega)
    have I1 : Inv X pins σ H { s with heap := h' } := I.kept (t' := s.toks) kp
    exact ⟨.ref h'.objs.size, _, tup_laid I1 r' hz, rfl, q _ _ (I1.hok.fresh (Nat.le_refl _)) rfl⟩
  · obtain ⟨its, r', pl, hz⟩ := I.tuple hq
    exact call_tuple_same pl ⟨.ref p, H, I, rfl, q⟩
end
end Py

set_option Elab.async false
set_option linter.all false
set_option maxRecDepth 100000
namespace Py
open PySem PySem.Spec L2
section
variable {X : Cx} {G : Gam} {E : XK}
/-! ### names, constants -/
theorem xV (i : Nat) {x : Str} {pos : Pos} (hN : X.N[i]? = some x := by rfl) (hv : Vis X.env.scope x := by first | exact Or.inl rfl | exact Or.inr (Or.inl rfl) | exact Or.inr (Or.inr rfl)) (hd : (x == ("__debug__" : Str)) = false := by decide)
    (hcd : (x == ("__classdict__" : Str)) = false := by decide) : PE X (.Name x pos) (tE G X.K E (eV i)) := by
  refine PE_mono (pe_var hN hv hd hcd) fun σ H Q ⟨m, r, h, rh, rs, o⟩ => ?_
  unfold eV at o
  cases q : r[i]? with
  | none => rw [q] at o; exact False.elim o
  | some w =>
    cases w with
    | none => rw [q] at o; exact False.elim o
    | some d =>
      rw [q] at o
      obtain ⟨v, e, rd⟩ := rs.get q
      exact ⟨v, e, o m H v (Post.refl rh) rd⟩
theorem xK {d : D} {v : V} {e : Expr} (he : PE X e (tC v)) (hd : ∀ m N H, RelD X.K m N H d v) : PE X e (tE G X.K E (eC d)) :=
  PE_mono he fun σ H Q ⟨m, r, h, rh, rs, o⟩ => o m H v (Post.refl rh) (hd _ _ _)
theorem xInt {i j pos} : PE X (.Constant (.int i) j pos) (tE G X.K E (eC (.int i))) := xK pe_int fun _ _ _ => .int i
theorem xBl {b j pos} : PE X (.Constant (.bool b) j pos) (tE G X.K E (eC (.bl b))) := xK pe_bl fun _ _ _ => .bl b
theorem xNon {j pos} : PE X (.Constant .none j pos) (tE G X.K E (eC .non)) := xK pe_non fun _ _ _ => .non
theorem xStr {x j pos} : PE X (.Constant (.str x) j pos) (tE G X.K E (eC (.str x))) := xK pe_str fun _ _ _ => .str x
theorem xGlob {x : Str} {d : D} {v : V} {u : Value} {pos : Pos} (hg : Gl X x) (hm : X.mg x = some u) (r : RelV v u) (hd : ∀ m N H, RelD X.K m N H d v) (hb : (x == ("__debug__" : Str)) = false := by decide) : PE X (.Name x pos) (tE G X.K E (eC d)) :=
  xK (pe_glob hg hm r hb) hd
/-! ### operators -/
theorem toOp {f : D → D → LH → R D} {fa fb : EX} {σ : St} {H : Hp} {Q : VK} (t : tE G X.K E (e2 f fa fb) σ H Q) : tOp (r2 G X.K E f) (tE G X.K E fa) (tE G X.K E fb) σ H Q := by
  obtain ⟨m, r, h, rh, rs, o⟩ := t
  refine ⟨m, r, h, rh, rs, ?_⟩
  rcases Out.bindR o with ⟨x, h1, e, o⟩ | ⟨c, fs, h1, e, o⟩
  · rw [e]
    intro m1 H1 v p1 d1
    refine ⟨m1, r, h1, p1.rel, p1.s rs, ?_⟩
    rcases Out.bindR o with ⟨y, h2, e, o⟩ | ⟨c, fs, h2, e, o⟩
    · rw [e]
      intro m2 H2 w p2 d2
      exact ⟨m2, h2, x, y, p2.rel, p2.d d1, d2, Out.later (p1.trans p2) o⟩
    · rw [e]; exact OutX.later p1 o
  · rw [e]; exact o
theorem x2 {op : Operator} {f : D → D → LH → R D} {a b : Expr} {fa fb : EX} {pos : Pos} (ho : OpR X (binaryOp op) (r2 G X.K E f)) (ha : PE X a (tE G X.K E fa)) (hb : PE X b (tE G X.K E fb)) : PE X (.BinOp a op b pos) (tE G X.K E (e2 f fa fb)) :=
  PE_mono (pe_op ho ha hb) fun σ H Q t => toOp t
theorem xCmp {op : CmpOp} {f : D → D → LH → R D} {a b : Expr} {fa fb : EX} {pos : Pos} (ho : OpR X (compareOp op) (r2 G X.K E f)) (ha : PE X a (tE G X.K E fa)) (hb : PE X b (tE G X.K E fb)) (hm : behindInMarks op b = false) : PE X (.Compare a [op] [b] pos) (tE G X.K E (e2 f fa fb)) :=
  PE_mono (pe_cmpR ho ha hb hm) fun σ H Q t => toOp t
/-- yields bools alone -/
def IsB (f : EX) : Prop := ∀ r h d h', f r h = .ok d h' → ∃ k, d = .bl k
theorem toTest {f : EX} (hb : IsB f) {σ : St} {H : Hp} {Q : Bool → Hp → Prop} (t : tT G X.K E f σ H Q) : tTest (tE G X.K E f) σ H Q := by
  obtain ⟨m, r, h, rh, rs, o⟩ := t
  refine ⟨m, r, h, rh, rs, ?_⟩
  cases q : f r h with
  | ok d h' =>
    rw [q] at o
    obtain ⟨k, rfl⟩ := hb _ _ _ _ q
    obtain ⟨b', e, o⟩ := o
    cases e
    intro m' H' v p d
    cases d
    exact ⟨_, rfl, o m' H' p⟩
  | exc c fs h' => rw [q] at o; exact o
  | stuck => rw [q] at o; exact o
def IsB2 (f : D → D → LH → R D) : Prop := ∀ x y h d h', f x y h = .ok d h' → ∃ k, d = .bl k
theorem IsB2.ex {f : D → D → LH → R D} {fa fb : EX} (b : IsB2 f) : IsB (e2 f fa fb) := fun r h d h' e => by
  unfold e2 at e
  cases q : fa r h with
  | ok x h1 =>
    rw [q] at e
    cases q2 : fb r h1 with
    | ok y h2 => rw [R.bind_ok, q2] at e; exact b _ _ _ _ _ e
    | exc c fs h2 => rw [R.bind_ok, q2] at e; cases e
    | stuck => rw [R.bind_ok, q2] at e; cases e
  | exc c fs h1 => rw [q] at e; cases e
  | stuck => rw [q] at e; cases e
theorem yCmp {op : CmpOp} {f : D → D → LH → R D} {a b : Expr} {fa fb : EX} {pos : Pos} (ho : OpR X (compareOp op) (r2 G X.K E f)) (hf : IsB2 f) (ha : PE X a (tE G X.K E fa)) (hb : PE X b (tE G X.K E fb)) (hm : behindInMarks op b = false) : PT X (.Compare a [op] [b] pos) (tT G X.K E (e2 f fa fb)) :=
  PT_mono (pt_cmpR ho ha hb hm) fun σ H Q t => by
    obtain ⟨m, r, h, rh, rs, o⟩ := toTest hf.ex t
    exact toOp ⟨m, r, h, rh, rs, o⟩
/-! ### truth -/
/-- a value as a test -/
def NoS (f : EX) : Prop := ∀ r h x h', f r h = .ok (.str x) h' → x.length ≤ sizeLine
/-! ### and, or, not -/
variable {a b : Expr} {fa fb : EX} {pos : Pos} {rest : List Expr}
theorem yNot (ha : PT X a (tT G X.K E fa)) : PT X (.UnaryOp .Not a pos) (tT G X.K E (eNot fa)) :=
  PT_mono (pt_not ha) fun σ H Q ⟨m, r, h, rh, rs, o⟩ => by
    refine ⟨m, r, h, rh, rs, ?_⟩
    rcases OutT.bindR o with ⟨x, h1, e, o⟩ | ⟨c, fs, h1, e, o⟩
    · rw [e]
      cases q : truth x h1 with
      | none => simp only [q] at o; exact False.elim o
      | some k =>
        simp only [q] at o
        obtain ⟨b, e, o⟩ := o
        cases e
        exact ⟨k, q, o⟩
    · rw [e]; exact o
theorem toAnd {σ : St} {H : Hp} {Q : Bool → Hp → Prop} (t : tT G X.K E (eAnd fa fb) σ H Q) : tAnd (tT G X.K E fa) (tT G X.K E fb) σ H Q := by
  obtain ⟨m, r, h, rh, rs, o⟩ := t
  refine ⟨m, r, h, rh, rs, ?_⟩
  rcases OutT.bindR o with ⟨x, h1, e, o⟩ | ⟨c, fs, h1, e, o⟩
  · rw [e]
    cases q : truth x h1 with
    | none => simp only [q] at o; exact False.elim o
    | some k =>
      simp only [q] at o
      refine ⟨k, q, fun m1 H1 p => ?_⟩
      cases k with
      | true => exact iteT ⟨m1, r, h1, p.rel, p.s rs, OutT.later p o⟩
      | false =>
        obtain ⟨b, e, o⟩ := o
        rw [q] at e
        cases e
        exact iteF (o m1 H1 p)
  · rw [e]; exact o
theorem toOr {σ : St} {H : Hp} {Q : Bool → Hp → Prop} (t : tT G X.K E (eOr fa fb) σ H Q) : tOr (tT G X.K E fa) (tT G X.K E fb) σ H Q := by
  obtain ⟨m, r, h, rh, rs, o⟩ := t
  refine ⟨m, r, h, rh, rs, ?_⟩
  rcases OutT.bindR o with ⟨x, h1, e, o⟩ | ⟨c, fs, h1, e, o⟩
  · rw [e]
    cases q : truth x h1 with
    | none => simp only [q] at o; exact False.elim o
    | some k =>
      simp only [q] at o
      refine ⟨k, q, fun m1 H1 p => ?_⟩
      cases k with
      | false => exact iteF ⟨m1, r, h1, p.rel, p.s rs, OutT.later p o⟩
      | true =>
        obtain ⟨b, e, o⟩ := o
        rw [q] at e
        cases e
        exact iteT (o m1 H1 p)
  · rw [e]; exact o
theorem wOne (ha : PT X a (tT G X.K E fa)) : PW X (.BoolOp .And [a] pos) (tT G X.K E fa) := pw_and1 ha
theorem wOneO (ha : PT X a (tT G X.K E fa)) : PW X (.BoolOp .Or [a] pos) (tT G X.K E fa) := pw_or1 ha
theorem wAnd (ha : PT X a (tT G X.K E fa)) (hb : PW X (.BoolOp .And (b :: rest) pos) (tT G X.K E fb)) : PW X (.BoolOp .And (a :: b :: rest) pos) (tT G X.K E (eAnd fa fb)) := PW_mono (pw_and ha hb) fun _ _ _ t => toAnd t
theorem wOr (ha : PT X a (tT G X.K E fa)) (hb : PW X (.BoolOp .Or (b :: rest) pos) (tT G X.K E fb)) : PW X (.BoolOp .Or (a :: b :: rest) pos) (tT G X.K E (eOr fa fb)) := PW_mono (pw_or ha hb) fun _ _ _ t => toOr t
/-! as values -/
theorem xOne {op : BoolOp} (ha : PE X a (tE G X.K E fa)) : PE X (.BoolOp op [a] pos) (tE G X.K E fa) := pe_one ha
theorem xIf {c : Expr} {fc : EX} (hc : PT X c (tT G X.K E fc)) (ha : PE X a (tE G X.K E fa)) (hb : PE X b (tE G X.K E fb)) : PE X (.IfExp c a b pos) (tE G X.K E (eIf fc fa fb)) :=
  PE_mono (pe_ifExp hc ha hb) fun σ H Q ⟨m, r, h, rh, rs, o⟩ => by
    refine ⟨m, r, h, rh, rs, ?_⟩
    rcases Out.bindR o with ⟨x, h1, e, o⟩ | ⟨c, fs, h1, e, o⟩
    · rw [e]
      cases q : truth x h1 with
      | none => simp only [q] at o; exact False.elim o
      | some k =>
        simp only [q] at o
        refine ⟨k, q, fun m1 H1 p => ?_⟩
        cases k with
        | true => exact iteT ⟨m1, r, h1, p.rel, p.s rs, Out.later p o⟩
        | false => exact iteF ⟨m1, r, h1, p.rel, p.s rs, Out.later p o⟩
    · rw [e]; exact o
/-! ### arguments, displays -/
theorem xaNil : PA X [] (tA G X.K E aNil) := PA_mono pa_nil fun σ H Q ⟨m, r, h, rh, rs, o⟩ => o m H [] (Post.refl rh) .nil
theorem xaCons {es : List Expr} {fs : AX} (ha : PE X a (tE G X.K E fa)) (hr : PA X es (tA G X.K E fs)) (hs : starEach (a :: es) X.env = (false, eval a X.env) :: starEach es X.env := by rfl) : PA X (a :: es) (tA G X.K E (aCons fa fs)) :=
  PA_mono (pa_cons ha hr hs) fun σ H Q ⟨m, r, h, rh, rs, o⟩ => by
    refine ⟨m, r, h, rh, rs, ?_⟩
    rcases OutA.bindR o with ⟨x, h1, e, o⟩ | ⟨c, fs, h1, e, o⟩
    · rw [e]
      intro m1 H1 v p1 d1
      refine ⟨m1, r, h1, p1.rel, p1.s rs, ?_⟩
      rcases OutA.bindR o with ⟨y, h2, e, o⟩ | ⟨c, fs, h2, e, o⟩
      · rw [e]
        intro m2 H2 w p2 d2
        exact o m2 H2 _ (p1.trans p2) (.cons (p2.d d1) d2)
      · rw [e]; exact OutX.later p1 o
    · rw [e]; exact o
/-- an operation on all arguments -/
theorem toA {op : List D → LH → R D} {fs : AX} {rd : List V → Hp → VK → Prop} (hr : ∀ xs H Q, rA G X.K E op xs H Q → rd xs H Q) {σ : St} {H : Hp} {Q : VK} (t : tE G X.K E (eA op fs) σ H Q) : tA G X.K E fs σ H (fun vs H1 => rd vs H1 Q) := by
  obtain ⟨m, r, h, rh, rs, o⟩ := t
  refine ⟨m, r, h, rh, rs, ?_⟩
  rcases Out.bindR o with ⟨x, h1, e, o⟩ | ⟨c, fs, h1, e, o⟩
  · rw [e]
    intro m1 H1 v p1 d1
    exact hr _ _ _ ⟨m1, h1, x, p1.rel, d1, Out.later p1 o⟩
  · rw [e]; exact o
theorem xTup {es : List Expr} {fs : AX} {x1 : Nat} (h : PA X es (tA G X.K E fs)) : PE X (.Tuple es x1 pos) (tE G X.K E (eTup fs)) :=
  PE_mono (pe_tupF h) fun σ H Q t => toA (rd := fun xs H1 Q => xs.length ≤ sizeLine ∧ ∀ (p : Addr) (o : Obj), H1 p = none → o.dict = none → Q (.ref p) (upd H1 p (.frz o (.tup xs)))) (fun xs H Q ⟨m, h, ds, rh, rd, o⟩ => by
    by_cases hz : ds.length ≤ sizeLine
    · simp only [if_pos hz] at o
      refine ⟨by rw [← rd.length]; exact hz, fun p ob hp hd => ?_⟩
      have q := rh.newT (u := .frz ob (.tup xs)) hp
      exact o m _ _ q (.tup (sx_new hd) (q.ds rd))
    · simp only [if_neg hz] at o; exact False.elim o) t
theorem xLst {es : List Expr} {fs : AX} (h : PA X es (tA G X.K E fs)) : PE X (.List es pos) (tE G X.K E (eLst fs)) :=
  PE_mono (pe_lst h) fun σ H Q t => toA (rd := fun xs H1 Q => xs.length ≤ sizeLine ∧ ∀ p, H1 p = none → Q (.ref p) (upd H1 p (.lst xs))) (fun xs H Q ⟨m, h, ds, rh, rd, o⟩ => by
    by_cases hz : ds.length ≤ sizeLine
    · simp only [if_pos hz] at o
      refine ⟨by rw [← rd.length]; exact hz, fun p hp => ?_⟩
      have q := rh.new (o := .lst ds) (u := .lst xs) hp (fun m' ag e => ⟨xs, upd_same, rd.mono ag (Nat.le_succ _) (TK.upd_new hp)⟩)
      have z : RelD X.K (ext m h.length p) (h ++ [O.lst ds]).length (upd H p (.lst xs)) (.ref h.length) (.ref (ext m h.length p h.length)) := .ref (by simp)
      rw [ext_self] at z
      exact o _ _ _ q z
    · simp only [if_neg hz] at o; exact False.elim o) t
/-! ### statements -/
theorem zNil : PSs X [] (tS G X.K E sNil) := PSs_mono pss_nil fun Z σ H ⟨m, r, h, rh, rs, o⟩ => o m H σ (Post.refl rh) rs
theorem zCons {st : Stmt} {sts : List Stmt} {f g : SX} (h1 : PS X st (tS G X.K E f)) (h2 : PSs X sts (tS G X.K E g)) : PSs X (st :: sts) (tS G X.K E (sSeq f g)) :=
  PSs_mono (pss_cons h1 h2) fun Z σ H ⟨m, r, h, rh, rs, o⟩ => by
    refine ⟨m, r, h, rh, rs, ?_⟩
    unfold sSeq at o
    cases q : f r h with
    | nx r1 h1 =>
      rw [q] at o
      intro m1 H1 s1 p1 q1
      exact ⟨m1, r1, h1, p1.rel, q1, OutS.later p1 o⟩
    | rt d h1 => rw [q] at o; exact o
    | bk r1 h1 => rw [q] at o; exact o
    | ct r1 h1 => rw [q] at o; exact o
    | exc c fs h1 => rw [q] at o; exact o
    | stuck => rw [q] at o; exact o
theorem zE (ha : PE X a (tE G X.K E fa)) (hs : swapsWith a none pos.line X.env = pure false := by rfl) : PS X (.Expr a pos) (tS G X.K E (sE fa)) :=
  PS_mono (ps_expr ha hs) fun Z σ H ⟨m, r, h, rh, rs, o⟩ => by
    refine ⟨m, r, h, rh, rs, ?_⟩
    rcases OutS.toR o with ⟨x, h1, e, o⟩ | ⟨c, fs, h1, e, o⟩
    · rw [e]
      intro m1 H1 v p d
      exact o m1 H1 σ p (p.s rs)
    · rw [e]; exact o
theorem zRet (ha : PE X a (tE G X.K E fa)) : PS X (.Return (some a) pos) (tS G X.K E (sRet fa)) :=
  PS_mono (ps_ret ha) fun Z σ H ⟨m, r, h, rh, rs, o⟩ => by
    refine ⟨m, r, h, rh, rs, ?_⟩
    rcases OutS.toR o with ⟨x, h1, e, o⟩ | ⟨c, fs, h1, e, o⟩
    · rw [e]; exact o
    · rw [e]; exact o
theorem zIf {c : Expr} {fc : EX} {x y : List Stmt} {f g : SX} (hc : PT X c (tT G X.K E fc)) (hx : PSs X x (tS G X.K E f)) (hy : PSs X y (tS G X.K E g)) : PS X (.If c x y pos) (tS G X.K E (sIf fc f g)) :=
  PS_mono (ps_if hc hx hy) fun Z σ H ⟨m, r, h, rh, rs, o⟩ => by
    refine ⟨m, r, h, rh, rs, ?_⟩
    rcases OutS.toR o with ⟨x, h1, e, o⟩ | ⟨c, fs, h1, e, o⟩
    · rw [e]
      cases q : truth x h1 with
      | none => simp only [q] at o; exact False.elim o
      | some k =>
        simp only [q] at o
        refine ⟨k, q, fun m1 H1 p => ?_⟩
        cases k with
        | true => exact iteT ⟨m1, r, h1, p.rel, p.s rs, OutS.later p o⟩
        | false => exact iteF ⟨m1, r, h1, p.rel, p.s rs, OutS.later p o⟩
    · rw [e]; exact o
/-! ### targets -/
theorem gName_ok {i : Nat} {x : Str} (hN : X.N.Nodup) (hi : X.N[i]? = some x) (hx : Loc X.env.scope x) (hf : X.fn x = true ∨ X.env.scope.names.lookup x = some .local := by first | exact .inl rfl | exact .inr rfl | assumption) : PG X (.Name x pos) (tG G X.K E (gN i)) :=
  PG_mono (pg_name hN hi hx hf) fun v σ H Q ⟨m, r, h, d, rh, rs, rd, o⟩ => o m H _ (Post.refl rh) (RelS.set rd i rs)
theorem gsNil_ok : PGs X [] (tGs G X.K E gsNil) := PGs_mono pgs_nil fun v σ H Q ⟨m, r, h, ds, rh, rs, rd, o⟩ => by
  cases rd with
  | nil => exact ⟨rfl, o m H σ (Post.refl rh) rs⟩
  | cons a b => exact False.elim o
theorem gsCons_ok {es : List Expr} {g : GX} {gs : GXs} (h1 : PG X a (tG G X.K E g)) (h2 : PGs X es (tGs G X.K E gs)) (hs : (assignEach (a :: es) X.env).map (·.2) = assign a X.env :: (assignEach es X.env).map (·.2) := by rfl) : PGs X (a :: es) (tGs G X.K E (gsCons g gs)) :=
  PGs_mono (pgs_cons h1 h2 hs) fun vs σ H Q ⟨m, r, h, ds, rh, rs, rd, o⟩ => by
    cases rd with
    | nil => exact False.elim o
    | @cons d v ds vs rd rds =>
      refine ⟨v, vs, rfl, m, r, h, d, rh, rs, rd, ?_⟩
      simp only [gsCons] at o
      cases q : g d r h with
      | nx r1 h1 =>
        rw [q] at o
        intro m1 H1 s1 p1 q1
        exact ⟨m1, r1, h1, ds, p1.rel, q1, p1.ds rds, OutS.later p1 o⟩
      | rt d h1 => rw [q] at o; exact o
      | bk r1 h1 => rw [q] at o; exact o
      | ct r1 h1 => rw [q] at o; exact o
      | exc c fs h1 => rw [q] at o; exact o
      | stuck => rw [q] at o; exact o
theorem gT_ok {es : List Expr} {k n : Nat} {gs : GXs} (hc : X.calm = true) (h : PGs X es (tGs G X.K E gs)) (hn : (assignEach es X.env).length = n := by rfl) (hst : (assignEach es X.env).findIdx? (·.1) = none := by rfl) : PG X (.Tuple es k pos) (tG G X.K E (gT n gs)) :=
  PG_mono (pg_tup hc h hn hst) fun v σ H Q ⟨m, r, h, d, rh, rs, rd, o⟩ => by
    cases rd with
    | non => exact False.elim o
    | bl _ => exact False.elim o
    | int _ => exact False.elim o
    | str _ => exact False.elim o
    | ref _ => exact False.elim o
    | scr _ => exact False.elim o
    | fn _ => exact False.elim o
    | @tup a xs vs ht rds =>
      simp only [gT] at o
      by_cases hl : xs.length = n
      · rw [if_pos hl] at o
        exact ⟨a, vs, rfl, ht.sq, by rw [← rds.length]; exact hl, m, r, h, xs, rh, rs, rds, o⟩
      · rw [if_neg hl] at o; exact False.elim o
theorem toAsg {g : GX} {Z : Ends} {σ : St} {H : Hp} (t : tS G X.K E (sAsg fa g) Z σ H) (hg : ∀ d r h, match g d r h with | .rt _ _ => False | .bk _ _ => False | .ct _ _ => False | _ => True) : tAsg (tE G X.K E fa) (tG G X.K E g) Z σ H := by
  obtain ⟨m, r, h, rh, rs, o⟩ := t
  refine ⟨m, r, h, rh, rs, ?_⟩
  rcases OutS.toR o with ⟨x, h1, e, o⟩ | ⟨c, fs, h1, e, o⟩
  · rw [e]
    intro m1 H1 v p d
    refine ⟨m1, r, h1, x, p.rel, p.s rs, d, ?_⟩
    have q := hg x r h1
    have o := OutS.later p o
    cases z : g x r h1 with
    | nx r1 h1 => rw [z] at o; exact o
    | rt d h1 => rw [z] at q; exact False.elim q
    | bk r1 h1 => rw [z] at q; exact False.elim q
    | ct r1 h1 => rw [z] at q; exact False.elim q
    | exc c fs h1 => rw [z] at o; exact o
    | stuck => rw [z] at o; exact o
  · rw [e]; exact o
end
end Py

set_option Elab.async false
set_option linter.all false
set_option maxRecDepth 100000
namespace Py
open PySem PySem.Spec PyProof.Rows L2
/-- the promise of a def of the combinator program -/
def spF (G : Gam) (K : PySem.W.Frag) (cf : CF) : Sp := fun vs H Q E => ∃ m h ds, RelH G K m h H ∧ RelDs K m h.length H ds vs ∧ Out G K E m h.length H Q (cf ds h)
/-- a def keeps its promise wherever no guard stands -/
structure FnG (P : Program) (w : World) (K : PySem.W.Frag) (mg : Str → Option Value) (base : Heap) (CX : CXT) (k : Nat) (f : Addr) (fd : FuncData) (ps : List Str) (sp : Sp) : Prop where
  len : ∀ vs H Q E, sp vs H Q E → vs.length = ps.length
  run : ∀ (A : Around) (outer : List Env) (s : Shared) (H : Hp) (args : Args) (us : List Value) (vs : List V) (Q : VK) (E : XK), A.guards = some [] → Room k A →
    Env0 P w K mg base A outer s H → BindsTo s fd args (ps.zip us) → Vals vs us → sp vs H Q E → codeAny (model P w) A (.call (.ref f) args) (CR CX outer P w H s Q E) s
theorem FnG.up {P : Program} {w : World} {K : PySem.W.Frag} {mg : Str → Option Value} {base : Heap} {CX : CXT} {j k : Nat} {f : Addr} {fd : FuncData} {ps : List Str} {sp : Sp} (F : FnG P w K mg base CX j f fd ps sp) (h : j ≤ k) : FnG P w K mg base CX k f fd ps sp :=
  ⟨F.len, fun A outer s H args us vs Q E g r => F.run A outer s H args us vs Q E g (r.mono h)⟩
/-- a def by its body -/
theorem fnG_of {G : Gam} {CX : CXT} {P : Program} {w : World} {K : PySem.W.Frag} {mg : Str → Option Value} {base : Heap} {k : Nat} {f : Addr} {name qual : Str} {params : Arguments} {body : List Stmt} {scope : Scope} {dV kV doc pm cdv ct oc : Value} {an od : Option Addr}
    {osl : Array (Option Value)} {N ps : List Str} {b : SX} {n kk : Nat}
    (lk : K.lookup f = some ⟨oc, od, .func (PySem.W.fnOf name qual params body scope dV kV doc pm an cdv ct), osl⟩) (hcd : PySem.W.codeIn K cdv qual = true) (S : FnScope N ps scope) (hn : ps.length = n) (hk : N.length - ps.length = kk)
    (hbody : ∀ (A : Around) (outer : List Env) (s : Shared) (H : Hp) (E : XK), A.guards = some [] → Room k (A.deeper (envOfC qual scope s.heap.objs.size f cdv)) →
      PSs (cxOf CX P w K mg base N qual scope f cdv A outer s H E) body (tS G K E b)) :
    FnG P w K mg base CX (k + 1) f (PySem.W.fnOf name qual params body scope dV kV doc pm an cdv ct) ps (spF G K (runF n kk b)) := by
  have len : ∀ vs H Q E, spF G K (runF n kk b) vs H Q E → vs.length = ps.length := by
    rintro vs H Q E ⟨m, h, ds, rh, rd, o⟩
    unfold runF at o
    by_cases hl : ds.length = n
    · rw [← rd.length, hl, hn]
    · rw [if_neg hl] at o; exact False.elim o
  refine ⟨len, ?_⟩
  intro A outer s H args us vs Q E hg hr e0 hb r hsp
  have hl := len _ _ _ _ hsp
  have kin : K.In s.heap := e0.mod.kin.keeps (fun b o e => (e0.bs b o e).1)
  have hkind : ∀ y ∈ ps.zip us, scope.names.lookup y.1 = some .local ∨ (scope.names.lookup y.1 = some .cell ∧ ((cellsFrom (s.heap.objs.size + 1) scope.names []).lookup y.1).isSome = true) := by
    rintro ⟨nm, v⟩ hy
    cases S.par nm (List.of_mem_zip hy).1 with
    | inl q => exact Or.inl q
    | inr q => exact Or.inr ⟨q, PySem.W.cellsFrom_some _ _ _ (Or.inl q)⟩
  refine codeAny_call_function hr.depth (kin _ _ lk) rfl S.co S.gen rfl (PySem.W.codeRec_of kin hcd) (hb _ _ _ _ ?_)
  refine wpAny_newFunctionEnv_cells S.kind hkind ?_
  intro env he s1 x
  subst he
  refine ⟨(e0.mod.nolimit.keeps fun b o e => (e0.bs b o e).1).keeps x.toInCall.keep, codeAny_func ?_⟩
  have ht := hbody A outer s H E hg (hr.deeper _)
  have I := inv_start (CX := CX) (E := E) S hr.hd e0 hl r x
  obtain ⟨m, h, ds, rh, rd, o⟩ := hsp
  have hdn : ds.length = n := by rw [rd.length, hl, hn]
  have hq : tS G K E b { nx := fun _ H' => Q .non H', rt := Q } (L2.start N vs) H := by
    refine ⟨m, ds.map some ++ List.replicate kk none, h, rh, ?_, ?_⟩
    · unfold L2.start
      rw [hl, hk]
      exact RelS.of kk rd
    · unfold runF at o
      rw [if_pos hdn] at o
      cases q : b (ds.map some ++ List.replicate kk none) h with
      | nx r1 h1 => rw [q] at o; exact fun m' H' s p _ => o m' H' _ p .non
      | rt d h1 => rw [q] at o; exact o
      | bk r1 h1 => rw [q] at o; exact False.elim o
      | ct r1 h1 => rw [q] at o; exact False.elim o
      | exc c fs h1 => rw [q] at o; exact o
      | stuck => rw [q] at o; exact False.elim o
  refine wpAny_mono (ht.run [] s1 (L2.start N vs) H _ I hq) ?_ (fun e s' z => z)
  intro fl s' hs
  have fin : ∀ {σ' : L2.St} {H' : Hp} {v : V} {u : Value}, Inv (cxOf CX P w K mg base N qual scope f cdv A outer s H E) [] σ' H' s' → RelV v u → Q v H' → CE outer P w H s Q u s' := by
    intro σ' H' v u J rv q
    exact ⟨v, H', J.os, J.bare, J.base, J.hok, rv, q⟩
  cases fl with
  | ret u => obtain ⟨v, σ', H', J, rv, q⟩ := hs; exact fin J rv q
  | next => obtain ⟨σ', H', J, q⟩ := hs; exact fin (v := V.non) (u := Value.none) J rfl q
  | brk => obtain ⟨_, _, _, q⟩ := hs; exact q.elim
  | cont => obtain ⟨_, _, _, q⟩ := hs; exact q.elim

section
variable {X : Cx} {G : Gam} {E : XK} {CX : CXT}
/-- what a call of the value fv is worth -/
def CallG (X : Cx) (G : Gam) (E : XK) (fv : Value) (ks : List Str) (op : KF) : Prop :=
  ∀ (pins : List (Addr × Obj)) (s : Shared) (σ : L2.St) (H : Hp) (us ws : List Value) (vs zs : List V) (Q : VK), Inv X pins σ H s → Vals vs us → Vals zs ws →
    (∃ m h ds es, RelH G X.K m h H ∧ RelDs X.K m h.length H ds vs ∧ RelDs X.K m h.length H es zs ∧ Out G X.K E m h.length H Q (op ds es h)) → wpAny (model X.prog X.w) X.A (call fv us (ks.zip ws)) (EP X pins σ Q) X.xe s
/-- how arguments bind -/
def Bnd (K : PySem.W.Frag) (fd : FuncData) (ps : List Str) (n : Nat) (ks : List Str) (bd : List D → List D → List D) : Prop :=
  ∀ (s : Shared) (us ws : List Value) (vs zs : List V), K.In s.heap → Vals vs us → Vals zs ws → us.length = n → ws.length = ks.length → ∃ us2 vs2, Vals vs2 us2 ∧ BindsTo s fd ⟨us, ks.zip ws⟩ (ps.zip us2) ∧
    ∀ m N H ds es, RelDs K m N H ds vs → RelDs K m N H es zs → RelDs K m N H (bd ds es) vs2
theorem runG {k : Nat} {f : Addr} {fd : FuncData} {ps : List Str} {sp : Sp} {pins : List (Addr × Obj)} {σ : L2.St} {H : Hp} {s : Shared} {Q : VK} {us ws : List Value} {vs : List V} {kw : List (Str × Value)} (F : FnG X.prog X.w X.K X.mg X.base CX k f fd ps sp) (hg : X.A.guards = some []) (hr : Room k X.A)
    (hx : Passes CX X E) (I : Inv X pins σ H s) (hb : BindsTo s fd ⟨us, kw⟩ (ps.zip ws)) (r : Vals vs ws) (h : sp vs H Q E) : wpAny (model X.prog X.w) X.A (call (.ref f) us kw) (EP X pins σ Q) X.xe s := by
  refine wpAny_call (codeAny_mono (F.run X.A X.stack s H ⟨us, kw⟩ ws vs Q E hg hr I.env0 hb r h) ?_)
  intro r s' hq
  cases r with
  | error e => exact hx pins σ H s e s' I hq
  | ok fl =>
    cases fl with
    | ret u => exact I.after hq
    | next => exact hq.elim
    | brk => exact hq.elim
    | cont => exact hq.elim
theorem cg_fn {k : Nat} {f : Addr} {fd : FuncData} {ps ks : List Str} {cf : CF} {n : Nat} {bd : List D → List D → List D} (F : FnG X.prog X.w X.K X.mg X.base CX k f fd ps (spF G X.K cf)) (hg : X.A.guards = some []) (hr : Room k X.A) (hx : Passes CX X E) (hb : Bnd X.K fd ps n ks bd) : CallG X G E (.ref f) ks (opF n ks.length bd cf) := by
  intro pins s σ H us ws vs zs Q I r1 r2 ⟨m, h, ds, es, rh, d1, d2, o⟩
  unfold opF at o
  by_cases hl : ds.length = n ∧ es.length = ks.length
  · rw [if_pos hl] at o
    obtain ⟨us2, vs2, q1, q2, q3⟩ := hb s us ws vs zs I.kIn r1 r2 (by rw [← r1.length, ← d1.length]; exact hl.1) (by rw [← r2.length, ← d2.length]; exact hl.2)
    exact runG F hg hr hx I q2 q1 ⟨m, h, _, rh, q3 _ _ _ _ _ d1 d2, o⟩
  · rw [if_neg hl] at o; exact o.elim
/-! ### forms of calls -/
variable {x : Str} {p pos apos : Pos} {e o : Expr} {es : List Expr} {kws : List Keyword} {fa fk : AX} {fo : EX} {op : KF} {fv : Value} {ks : List Str}
theorem PK_mono {t t' : TA} (a : PK X kws t) (h : ∀ σ H Q, t' σ H Q → t σ H Q) : PK X kws t' := ⟨fun w pins s σ H Q I q => a.run w pins s σ H Q I (h _ _ _ q)⟩
theorem kNil : PK X [] (tA G X.K E aNil) := PK_mono pk_nil fun σ H Q ⟨m, r, h, rh, rs, o⟩ => o m H [] (Post.refl rh) .nil
theorem toCons {f : EX} {g : AX} {σ : L2.St} {H : Hp} {Q : List V → Hp → Prop} (t : tA G X.K E (aCons f g) σ H Q) : tCons (tE G X.K E f) (tA G X.K E g) σ H Q := by
  obtain ⟨m, r, h, rh, rs, o⟩ := t
  refine ⟨m, r, h, rh, rs, ?_⟩
  rcases OutA.bindR o with ⟨x, h1, e, o⟩ | ⟨c, fs, h1, e, o⟩
  · rw [e]
    intro m1 H1 v p1 d1
    refine ⟨m1, r, h1, p1.rel, p1.s rs, ?_⟩
    rcases OutA.bindR o with ⟨y, h2, e, o⟩ | ⟨c, fs, h2, e, o⟩
    · rw [e]
      intro m2 H2 w p2 d2
      exact o m2 H2 _ (p1.trans p2) (.cons (p2.d d1) d2)
    · rw [e]; exact OutX.later p1 o
  · rw [e]; exact o
theorem kCons {nm : Option Str} {kpos : Pos} {f : EX} {g : AX} (ha : PE X e (tE G X.K E f)) (hr : PK X kws (tA G X.K E g)) : PK X (⟨nm, e, kpos⟩ :: kws) (tA G X.K E (aCons f g)) := PK_mono (pk_cons ha hr) fun _ _ _ t => toCons t
/-- the two lists of a call, one behind the other -/
theorem toCall {σ : L2.St} {H : Hp} {Q : VK} (t : tE G X.K E (eCall op fa fk) σ H Q) :
    tA G X.K E fa σ H (fun vs H1 => tA G X.K E fk σ H1 fun zs H2 => ∃ m h ds es, RelH G X.K m h H2 ∧ RelDs X.K m h.length H2 ds vs ∧ RelDs X.K m h.length H2 es zs ∧ Out G X.K E m h.length H2 Q (op ds es h)) := by
  obtain ⟨m, r, h, rh, rs, o⟩ := t
  refine ⟨m, r, h, rh, rs, ?_⟩
  rcases Out.bindR o with ⟨x, h1, e, o⟩ | ⟨c, fs, h1, e, o⟩
  · rw [e]
    intro m1 H1 v p1 d1
    refine ⟨m1, r, h1, p1.rel, p1.s rs, ?_⟩
    rcases Out.bindR o with ⟨y, h2, e, o⟩ | ⟨c, fs, h2, e, o⟩
    · rw [e]
      intro m2 H2 w p2 d2
      exact ⟨m2, h2, x, y, p2.rel, p2.ds d1, d2, Out.later (p1.trans p2) o⟩
    · rw [e]; exact OutX.later p1 o
  · rw [e]; exact o
theorem noK {σ : L2.St} {H : Hp} {R : List V → Hp → Prop} (t : tA G X.K E aNil σ H R) : R [] H := by
  obtain ⟨m, r, h, rh, rs, o⟩ := t
  exact o m H [] (Post.refl rh) .nil
theorem xCall (cg : CallG X G E fv [] op) (hg : Gl X x) (hm : X.mg x = some fv) (hk : PySem.W.keepIn X.K fv = true) (ha : PA X (e :: es) (tA G X.K E fa)) (hdb : (x == ("__debug__" : Str)) = false := by decide)
    (he : starEach (e :: es) X.env = (false, eval e X.env) :: starEach es X.env := by rfl) (hpl : (backTo pos (starEach es X.env)).any (·.1) = false := by rfl) : PE X (.Call (.Name x p) (e :: es) [] pos) (tE G X.K E (eCall op fa aNil)) := by
  refine ⟨fun pins s σ H Q I h => ?_⟩
  refine wpAny_Call_Name_kw (ld_glob I hg hm ?_ hdb)
  refine PySem.W.callWith_K (h₀ := X.base) I.ok.mod.kin hk (thn (ha.run pos pins s σ H _ I (toCall h)) ?_) he hpl
  rintro us s1 ⟨vs, H1, I1, r, q⟩
  exact ⟨I1.kIn, cg pins s1 σ H1 us [] vs [] Q I1 r .nil (noK q)⟩
theorem xCall0 (cg : CallG X G E fv [] op) (hg : Gl X x) (hm : X.mg x = some fv) (hk : PySem.W.keepIn X.K fv = true) (hdb : (x == ("__debug__" : Str)) = false := by decide) : PE X (.Call (.Name x p) [] [] pos) (tE G X.K E (eCall op aNil aNil)) := by
  refine ⟨fun pins s σ H Q I h => ?_⟩
  refine wpAny_Call_Name_kw (ld_glob I hg hm ?_ hdb)
  exact PySem.W.callWith_K0 I.kIn hk (cg pins s σ H [] [] [] [] Q I .nil .nil (noK (noK (toCall h))))
theorem xCall0K (cg : CallG X G E fv ks op) (hg : Gl X x) (hm : X.mg x = some fv) (hk : PySem.W.keepIn X.K fv = true) (hkw : PK X kws (tA G X.K E fk))
    (hall : (backToKw pos (keywordEach kws X.env)).all (·.1.isSome) = true := by rfl) (hks : (backToKw pos (keywordEach kws X.env)).filterMap (·.1) = ks := by rfl) (hdb : (x == ("__debug__" : Str)) = false := by decide)
    (hpl : ((backTo pos (starEach [] X.env)).any (·.1) || (backToKw pos (keywordEach kws X.env)).any (·.1.isNone)) = false := by rfl) : PE X (.Call (.Name x p) [] kws pos) (tE G X.K E (eCall op aNil fk)) := by
  refine ⟨fun pins s σ H Q I h => ?_⟩
  refine wpAny_Call_Name_kw (ld_glob I hg hm ?_ hdb)
  refine PySem.W.callWith_KW0 (h₀ := X.base) I.ok.mod.kin hk hall ?_ hpl
  refine thn (hkw.run pos pins s σ H _ I (noK (toCall h))) ?_
  rintro ws s2 ⟨zs, H2, I2, rz, q2⟩
  refine ⟨I2.kIn, ?_⟩
  rw [hks]
  exact cg pins s2 σ H2 [] ws [] zs Q I2 .nil rz q2
/-! methods -/
variable {c : Nat} {mn : Str} {f : Addr}
def NotF (G : Gam) (mn : Str) : Prop := ∀ i, i < G.top → G.nm i ≠ mn
theorem RelFs.no {K : PySem.W.Frag} {m : Nat → Addr} {N : Nat} {H : Hp} (hn : NotF G mn) : ∀ {fs : List (Nat × D)} {vs : List (Str × V)}, RelFs G K m N H fs vs → vs.lookup mn = none
  | _, _, .nil => rfl
  | _, _, .cons (i := j) a h r => by
    have : (mn == G.nm j) = false := beq_eq_false_iff_ne.mpr fun z => hn j a z.symm
    simp only [List.lookup, this]
    exact RelFs.no hn r
/-! ### fields -/
variable {i : Nat} {fe : EX} {value : Expr} {pos' : Pos}
/-! ### assignments -/
variable {fa1 : EX} {a : Expr}
theorem zSet {x : Str} (hN : X.N.Nodup) (hi : X.N[i]? = some x) (hx : Loc X.env.scope x) (he : PE X a (tE G X.K E fa1)) (hs : swapsWith a (some (.Name x pos')) pos.line X.env = pure false := by rfl)
    (hf : X.fn x = true ∨ X.env.scope.names.lookup x = some .local := by first | exact .inl rfl | exact .inr rfl | assumption) : PS X (.Assign [.Name x pos'] a pos) (tS G X.K E (sAsg fa1 (gN i))) := by
  refine PS_mono (ps_set hN hi hx he hs hf) ?_
  rintro Z σ H ⟨m, r, h, rh, rs, o⟩
  refine ⟨m, r, h, rh, rs, ?_⟩
  rcases OutS.toR o with ⟨d, h1, e, o⟩ | ⟨c, fs, h1, e, o⟩
  · rw [e]
    intro m1 H1 y p1 d1
    exact o m1 H1 _ p1 (RelS.set d1 i (p1.s rs))
  · rw [e]; exact o
/-- a target that goes on -/
def NG (g : GX) : Prop := ∀ d r h, match g d r h with | .rt _ _ => False | .bk _ _ => False | .ct _ _ => False | _ => True
theorem zAsg {tg : Expr} {g : GX} (hgg : NG g) (he : PE X a (tE G X.K E fa1)) (hg : PG X tg (tG G X.K E g)) (hs : swapsWithSole [tg] a pos.line X.env = pure false := by rfl) (hw : swappedStores [tg] a X.env = pure none := by rfl)
    (h1 : (assignEach [tg] X.env).map (·.2) = [assign tg X.env] := by rfl) : PS X (.Assign [tg] a pos) (tS G X.K E (sAsg fa1 g)) :=
  PS_mono (ps_asg he hg hs hw h1) fun _ _ _ t => toAsg t hgg
theorem zPar {i j : Nat} {x y : Str} {a b : Expr} {fa : AX} {px py pt : Pos} {kt k2 pt2} (hc : X.calm = true) (hN : X.N.Nodup) (hi : X.N[i]? = some x) (hj : X.N[j]? = some y) (hij : i ≠ j)
    (hx : X.env.scope.names.lookup x = some .local) (hy : X.env.scope.names.lookup y = some .local) (ha : PA X [a, b] (tA G X.K E fa))
    (hw : swappedStores [.Tuple [.Name x px, .Name y py] kt pt] (.Tuple [a, b] k2 pt2) X.env = pure (some [x, y])) (hs : swapsWithSole [.Tuple [.Name x px, .Name y py] kt pt] (.Tuple [a, b] k2 pt2) pos.line X.env = pure false := by rfl) :
    PS X (.Assign [.Tuple [.Name x px, .Name y py] kt pt] (.Tuple [a, b] k2 pt2) pos) (tS G X.K E (sPar i j fa)) := by
  refine PS_mono (ps_par hc hN hi hj hij hx hy ha hw hs) ?_
  rintro Z σ H ⟨m, r, h, rh, rs, o⟩
  refine ⟨m, r, h, rh, rs, ?_⟩
  rcases OutS.toR o with ⟨ds, h1, e, o⟩ | ⟨c, fs, h1, e, o⟩
  · rw [e]
    intro m1 H1 vs p1 d1
    cases d1 with
    | nil => exact o.elim
    | cons a1 b1 =>
      cases b1 with
      | nil => exact o.elim
      | cons a2 b2 =>
        cases b2 with
        | nil => exact ⟨_, _, rfl, o m1 H1 _ p1 (RelS.set a2 _ (RelS.set a1 _ (p1.s rs)))⟩
        | cons a3 b3 => exact o.elim
  · rw [e]; exact o
end
end Py

set_option Elab.async false
set_option linter.all false
set_option maxRecDepth 100000
namespace Py
open PySem PySem.Spec PyProof.Rows L2
section
variable {X : Cx} {G : Gam} {E : XK}
/-- an iterator of the layer stands for a source -/
def ItRel (G : Gam) (K : PySem.W.Frag) (m0 : Nat → Addr) (h0 : LH) (H0 : Hp) (J : It) (s : Src) : Prop :=
  ∀ m h H i, Post G K m0 h0.length H0 m h H → match srcAt s h i with
    | none => True
    | some none => J.stop i H
    | some (some d) => J.go i H ∧ ∀ x H', J.yld i H x H' → Post G K m h.length H m h H' ∧ RelD K m h.length H' d x
theorem ItRel.later {K : PySem.W.Frag} {m0 m1 : Nat → Addr} {h0 h1 : LH} {H0 H1 : Hp} {J : It} {s : Src} (a : ItRel G K m0 h0 H0 J s) (p : Post G K m0 h0.length H0 m1 h1 H1) : ItRel G K m1 h1 H1 J s :=
  fun m h H i q => a m h H i (p.trans q)
def OutI (G : Gam) (K : PySem.W.Frag) (E : XK) (m : Nat → Addr) (N : Nat) (H : Hp) (Q : It → Hp → Prop) : R Src → Prop
  | .ok s h' => ∀ m' H' J, Post G K m N H m' h' H' → ItRel G K m' h' H' J s → Q J H'
  | .exc c fs h' => OutX G K E m N H c fs h'
  | .stuck => False
def tI (G : Gam) (K : PySem.W.Frag) (E : XK) (f : IX) : TI := fun σ H Q => ∃ m r h, RelH G K m h H ∧ RelS K m h.length H r σ ∧ OutI G K E m h.length H Q (f r h)
theorem OutI.bindR {α : Type} {K : PySem.W.Frag} {m : Nat → Addr} {N : Nat} {H : Hp} {r : R α} {f : α → LH → R Src} {Q : It → Hp → Prop} (o : OutI G K E m N H Q (r.bind f)) :
    (∃ a h1, r = .ok a h1 ∧ OutI G K E m N H Q (f a h1)) ∨ ∃ c fs h1, r = .exc c fs h1 ∧ OutX G K E m N H c fs h1 := by
  cases r with
  | ok a h1 => exact .inl ⟨a, h1, rfl, o⟩
  | exc c fs h1 => exact .inr ⟨c, fs, h1, rfl, o⟩
  | stuck => exact False.elim o
theorem PI_mono {tg iter : Expr} {t t' : TI} (a : PI X tg iter t) (h : ∀ σ H Q, t' σ H Q → t σ H Q) : PI X tg iter t' := ⟨fun pins s σ H Q I q => a.run pins s σ H Q I (h _ _ _ q)⟩
/-! ### sources -/
theorem it_list {K : PySem.W.Frag} {m0 : Nat → Addr} {h0 : LH} {H0 : Hp} {n : Nat} (hn : n < h0.length) : ItRel G K m0 h0 H0 (Itl K (m0 n)) (.lst n) := by
  intro m h H i p
  have e : m n = m0 n := p.agr n hn
  simp only [srcAt]
  cases q : h[n]? with
  | none => trivial
  | some o =>
    cases o with
    | ins c fs => trivial
    | dct kv => trivial
    | hid _ => trivial
    | lst xs =>
      obtain ⟨vs, e1, r⟩ := p.rel.obj n _ q
      rw [e] at e1
      simp only
      cases z : xs[i]? with
      | none =>
        refine ⟨vs, SqL.of e1, ?_⟩
        rw [← r.length]
        exact List.getElem?_eq_none_iff.mp z
      | some d =>
        obtain ⟨v, ev, rv⟩ := r.get z
        refine ⟨⟨vs, v, SqL.of e1, ev⟩, ?_⟩
        rintro x H' ⟨eH, hx⟩
        subst eH
        have := hx vs (SqL.of e1)
        rw [ev] at this
        cases this
        exact ⟨Post.refl p.rel, rv⟩
theorem it_tup {K : PySem.W.Frag} {m0 : Nat → Addr} {h0 : LH} {H0 : Hp} {a : Addr} {xs : List D} {vs : List V} (ht : SqT K H0 a vs) (rd : RelDs K m0 h0.length H0 xs vs) : ItRel G K m0 h0 H0 (Itt K a) (.its xs) := by
  intro m h H i p
  simp only [srcAt]
  cases z : xs[i]? with
  | none =>
    refine ⟨vs, p.tk.t _ _ ht, ?_⟩
    rw [← rd.length]
    exact List.getElem?_eq_none_iff.mp z
  | some d =>
    obtain ⟨v, ev, rv⟩ := rd.get z
    refine ⟨⟨vs, v, p.tk.t _ _ ht, ev⟩, ?_⟩
    rintro x H' ⟨eH, hx⟩
    subst eH
    have := hx vs (p.tk.t _ _ ht)
    rw [ev] at this
    cases this
    exact ⟨Post.refl p.rel, p.d rv⟩
theorem it_scr {K : PySem.W.Frag} {m0 : Nat → Addr} {h0 : LH} {H0 : Hp} {a : Addr} {ns : List Int} (ht : SqF K H0 a (ns.map V.int)) : ItRel G K m0 h0 H0 (Itl K a) (.its (ns.map .int)) := by
  intro m h H i p
  have hs := (p.tk.f _ _ ht).sq
  simp only [srcAt]
  cases z : (ns.map D.int)[i]? with
  | none =>
    refine ⟨_, hs, ?_⟩
    have := List.getElem?_eq_none_iff.mp z
    simpa using this
  | some d =>
    obtain ⟨v, ev, rv⟩ := (RelDs.ints (K := K) (m := m) (N := h.length) (H := H) ns).get z
    refine ⟨⟨_, v, hs, ev⟩, ?_⟩
    rintro x H' ⟨eH, hx⟩
    subst eH
    have := hx _ hs
    rw [ev] at this
    cases this
    exact ⟨Post.refl p.rel, rv⟩
theorem it_rng {K : PySem.W.Frag} {m0 : Nat → Addr} {h0 : LH} {H0 : Hp} (a b : Int) : ItRel G K m0 h0 H0 (Itr a (b - a).toNat) (.its (rangeL a b)) := by
  intro m h H i p
  simp only [srcAt, rangeL]
  cases z : ((List.range (b - a).toNat).map fun k => D.int (a + (k : Nat)))[i]? with
  | none =>
    have := List.getElem?_eq_none_iff.mp z
    rw [List.length_map, List.length_range] at this
    exact this
  | some d =>
    have hi := (List.getElem?_eq_some_iff.mp z).1
    rw [List.length_map, List.length_range] at hi
    rw [List.getElem?_map, List.getElem?_range hi] at z
    cases z
    refine ⟨hi, ?_⟩
    rintro x H' ⟨eH, ex⟩
    subst eH
    subst ex
    exact ⟨Post.refl p.rel, .int _⟩
variable {tg iter l : Expr} {fa : EX} {fi : IX}
theorem iRng1_ok {a : Expr} {p pos : Pos} (hg : Gl X "range") (hm : X.mg "range" = none) (ha : PE X a (tE G X.K E fa)) (hs : starEach [a] X.env = [(false, eval a X.env)] := by rfl) : PI X tg (.Call (.Name "range" p) [a] [] pos) (tI G X.K E (Py.iRng1 fa)) := by
  refine PI_mono (pi_range1 hg hm (xaCons ha xaNil hs) hs) ?_
  rintro σ H Q ⟨m, r, h, rh, rs, o⟩
  refine ⟨m, r, h, rh, rs, ?_⟩
  unfold aCons aNil
  rcases OutI.bindR o with ⟨d, h1, e, o⟩ | ⟨c, fs, h1, e, o⟩
  · rw [e]
    intro m1 H1 v p1 d1
    cases d1 with
    | cons a b =>
      cases b
      cases a with
      | int j =>
        simp only at o
        by_cases hj : small62 j = true
        · rw [if_pos hj] at o
          have hj' : -(2 ^ 62) ≤ j ∧ j < 2 ^ 62 := by simpa [small62] using hj
          have q := it_rng (G := G) (K := X.K) (m0 := m1) (h0 := h1) (H0 := H1) 0 j
          rw [Int.sub_zero] at q
          exact ⟨j, rfl, hj'.1, hj'.2, o m1 H1 _ p1 q⟩
        · rw [if_neg hj] at o; exact o.elim
      | non => exact o.elim
      | bl _ => exact o.elim
      | str _ => exact o.elim
      | tup _ _ => exact o.elim
      | ref _ => exact o.elim
      | scr _ => exact o.elim
      | fn _ => exact o.elim
  · rw [e]; exact o
/-- a list or a tuple, walked -/
theorem pi_seq (hl : PE X l (tE G X.K E fa)) : PI X tg l (fun σ H R => tE G X.K E fa σ H fun x H1 => ∃ a, x = .ref a ∧ ((∃ xs, SqL X.K H1 a xs) ∧ R (Itl X.K a) H1 ∨ (∃ xs, SqT X.K H1 a xs) ∧ R (Itt X.K a) H1)) := by
  refine ⟨fun pins s σ H R I h => ?_⟩
  refine thn (hl.run pins s σ H _ I h) ?_
  rintro v s1 ⟨x, H1, I1, r1, a, e, q⟩
  subst e
  cases r1
  have fp : ∀ b ∈ [s1.heap.objs.size], FpOk X pins H1 b := by
    intro b hb
    have e : b = s1.heap.objs.size := by simpa using hb
    subst e
    exact I1.fpOk (Nat.le_refl _) (I1.hok.fresh (Nat.le_refl _))
  rcases q with ⟨⟨xs, hq⟩, q⟩ | ⟨⟨xs, hq⟩, q⟩
  · obtain ⟨its, rv, p, hz⟩ := I1.list hq
    refine wpAny_pyIter_list p.isList ?_
    exact ⟨s1.heap.objs.size, [s1.heap.objs.size], _, _, H1, rfl, I1.kept (t' := s1.toks) (fun b o e => Heap.get?_push_of_some _ e), turn_list a _, ⟨_, Heap.get?_push_size _ rfl, rfl, rfl⟩, fp, q⟩
  · obtain ⟨its, rv, p, hz⟩ := I1.tuple hq
    refine wpAny_pyIter_tuple (show s1.heap.IsTuple a its.toArray from p) ?_
    exact ⟨s1.heap.objs.size, [s1.heap.objs.size], _, _, H1, rfl, I1.kept (t' := s1.toks) (fun b o e => Heap.get?_push_of_some _ e), turn_tuple a _, ⟨_, Heap.get?_push_size _ rfl, rfl, rfl⟩, fp, q⟩
/-- what a source is in the layer -/
theorem src_ok {m : Nat → Addr} {h : LH} {H : Hp} {d : D} {v : V} {s : Src} (rh : RelH G X.K m h H) (rd : RelD X.K m h.length H d v) (e : srcOf d h = some s) :
    ∃ a, v = .ref a ∧ ((∃ xs, SqL X.K H a xs) ∧ ItRel G X.K m h H (Itl X.K a) s ∨ (∃ xs, SqT X.K H a xs) ∧ ItRel G X.K m h H (Itt X.K a) s) := by
  cases rd with
  | non => cases e
  | bl _ => cases e
  | int _ => cases e
  | str _ => cases e
  | @tup a xs vs ht rs => cases e; exact ⟨a, rfl, .inr ⟨⟨vs, ht.sq⟩, it_tup ht.sq rs⟩⟩
  | @scr a ns hs => cases e; exact ⟨a, rfl, .inl ⟨⟨_, hs.sq⟩, it_scr hs⟩⟩
  | fn _ => cases e
  | @ref n hn =>
    cases q : h[n]? with
    | none => simp only [srcOf, q] at e; cases e
    | some o =>
      cases o with
      | ins c fs => simp only [srcOf, q] at e; cases e
      | dct kv => simp only [srcOf, q] at e; cases e
      | hid _ => simp only [srcOf, q] at e; cases e
      | lst xs =>
        simp only [srcOf, q] at e
        cases e
        obtain ⟨vs, e1, r⟩ := rh.obj n _ q
        exact ⟨m n, rfl, .inl ⟨⟨vs, SqL.of e1⟩, it_list hn⟩⟩
theorem iSeq_ok (hl : PE X l (tE G X.K E fa)) : PI X tg l (tI G X.K E (iSeq fa)) := by
  refine PI_mono (pi_seq hl) ?_
  rintro σ H Q ⟨m, r, h, rh, rs, o⟩
  refine ⟨m, r, h, rh, rs, ?_⟩
  rcases OutI.bindR o with ⟨d, h1, e, o⟩ | ⟨c, fs, h1, e, o⟩
  · rw [e]
    intro m1 H1 v p1 d1
    cases q : srcOf d h1 with
    | none => simp only [q] at o; exact o.elim
    | some s =>
      simp only [q] at o
      obtain ⟨a, ev, z⟩ := src_ok p1.rel d1 q
      refine ⟨a, ev, ?_⟩
      rcases z with ⟨z1, z2⟩ | ⟨z1, z2⟩
      · exact .inl ⟨z1, o m1 H1 _ p1 z2⟩
      · exact .inr ⟨z1, o m1 H1 _ p1 z2⟩
  · rw [e]; exact o
/-! ### while -/
variable {body : List Stmt} {tc : EX} {tb : SX} {g : GX} {pos : Pos} {c : Expr}
/-! ### for -/
theorem zFor (hp : PassesOwn (model X.prog X.w) X.A X.env X.xe) (hc : X.calm = true) (hi : PI X tg iter (tI G X.K E fi)) (hg : PG X tg (tG G X.K E g)) (hb : PSs X body (tS G X.K E tb))
    (hs : ∀ x, foldedSetIterable iter X.env x = pure x := by intro _; rfl) : PS X (.For tg iter body [] pos) (tS G X.K E (sFor fi g tb)) := by
  refine PS_mono (ps_for hp hc hi hg hb hs) ?_
  rintro Z σ H ⟨m, r, h, rh, rs, o⟩
  refine ⟨m, r, h, rh, rs, ?_⟩
  rcases OutS.toR o with ⟨src, h1, e, o⟩ | ⟨c, fs, h1, e, o⟩
  · rw [e]
    intro m1 H1 J p1 ir
    refine ⟨fun i n σ H => ∃ m r h, Post G X.K m1 h1.length H1 m h H ∧ RelS X.K m h.length H r σ ∧ OutS G X.K E m h.length H Z (forX src g tb n i r h), ⟨fuelN, m1, r, h1, Post.refl p1.rel, p1.s rs, OutS.later p1 o⟩, ?_⟩
    rintro i n σ H ⟨m, r, h, p, rs, o⟩
    cases n with
    | zero => exact o.elim
    | succ n =>
      have it := ir m h H i p
      unfold forX at o
      cases q : srcAt src h i with
      | none => simp only [q] at o; exact o.elim
      | some w =>
        cases w with
        | none =>
          simp only [q] at o it
          exact .inl ⟨it, o m H σ (Post.refl p.rel) rs⟩
        | some d =>
          simp only [q] at o it
          refine .inr ⟨it.1, fun σ' H' => ∃ m r h, Post G X.K m1 h1.length H1 m h H' ∧ RelS X.K m h.length H' r σ' ∧ OutS G X.K E m h.length H' Z (forX src g tb n (i + 1) r h), fun σ' H' q => ⟨n, Nat.lt_succ_self n, q⟩, fun x H' y => ?_⟩
          obtain ⟨p2, rd⟩ := it.2 x H' y
          refine ⟨m, r, h, d, p2.rel, p2.s rs, rd, ?_⟩
          have o := OutS.later p2 o
          cases z : g d r h with
          | nx r1 h2 =>
            rw [z] at o
            intro m3 H3 s3 p3 rs3
            refine ⟨m3, r1, h2, p3.rel, rs3, ?_⟩
            have o := OutS.later p3 o
            simp only at o
            have pp := p.trans (p2.trans p3)
            cases w : tb r1 h2 with
            | nx r2 h4 => simp only [w] at o; exact fun m4 H4 s4 p4 rs4 => ⟨m4, r2, h4, pp.trans p4, rs4, OutS.later p4 o⟩
            | ct r2 h4 => simp only [w] at o; exact fun m4 H4 s4 p4 rs4 => ⟨m4, r2, h4, pp.trans p4, rs4, OutS.later p4 o⟩
            | bk r2 h4 => simp only [w] at o; exact o
            | rt d h4 => simp only [w] at o; exact o
            | exc c fs h4 => simp only [w] at o; exact o
            | stuck => simp only [w] at o; exact o.elim
          | ct r2 h4 => simp only [z] at o; exact o.elim
          | bk r2 h4 => simp only [z] at o; exact o.elim
          | rt d h4 => simp only [z] at o; exact o.elim
          | exc c fs h4 => simp only [z] at o; exact o.elim
          | stuck => simp only [z] at o; exact o.elim
  · rw [e]; exact o
/-! ### comprehensions -/
theorem wipe_rel {K : PySem.W.Frag} {m : Nat → Addr} {N : Nat} {H : Hp} {r : LS} {σ : L2.St} (rs : RelS K m N H r σ) : ∀ vs : List Nat, RelS K m N H (wipeL r vs) (wipe σ vs)
  | [] => rs
  | v :: vs => RelS.set0 v (wipe_rel rs vs)
theorem wipe_comm (σ : L2.St) (v : Nat) : ∀ vs : List Nat, wipe (σ.set v none) vs = (wipe σ vs).set v none
  | [] => rfl
  | u :: us => by
    unfold wipe
    rw [wipe_comm σ v us]
    by_cases h : u = v
    · subst h; rfl
    · exact List.set_comm _ _ (Ne.symm h)
theorem wipe_wipe (σ : L2.St) : ∀ vs : List Nat, wipe (wipe σ vs) vs = wipe σ vs
  | [] => rfl
  | v :: vs => by
    show (wipe ((wipe σ vs).set v none) vs).set v none = (wipe σ vs).set v none
    rw [wipe_comm, List.set_set, wipe_wipe σ vs]
/-- the targets of a comprehension -/
def TgOk (X : Cx) (vs : List Nat) (gg : TG) : Prop :=
  ∀ (m : Nat → Addr) (h : LH) (H : Hp) (r r1 : LS) (σ : L2.St) (d : D) (x : V) (Q : L2.St → Hp → Prop), RelS X.K m h.length H r σ → RelD X.K m h.length H d x → tgt vs d r = some r1 → (∀ σ1, RelS X.K m h.length H r1 σ1 → wipe σ1 vs = wipe σ vs → Q σ1 H) → gg x σ H Q
theorem tg1 (i : Nat) : TgOk X [i] (gName i) := by
  intro m h H r r1 σ d x Q rs rd e q
  cases e
  exact q _ (RelS.set rd i rs) (by show ((σ.set i (some x)).set i none) = σ.set i none; rw [List.set_set])
/-- the turns of a comprehension, behind the source -/
theorem comp_body {gg : TG} {ft fe : EX} {vs : List Nat} (hgg : TgOk X vs gg) {σ : L2.St} {Q : VK} {m1 : Nat → Addr} {h1 : LH} {H1 : Hp} {r : LS} {J : It} {src : Src} (rel1 : RelH G X.K m1 h1 H1) (rs1 : RelS X.K m1 h1.length H1 r σ) (ir : ItRel G X.K m1 h1 H1 J src)
    (o : Out G X.K E m1 h1.length H1 Q ((compX src vs ft fe fuelN 0 [] (wipeL r vs) h1).bind fun acc h3 => .ok (.ref h3.length) (h3 ++ [.lst acc]))) : ∀ D, H1 D = none → ∃ W : Nat → Nat → Hp → Prop, (∃ m, W 0 m (upd H1 D (.lst []))) ∧ ∀ i m H, W i m H →
    (J.stop i H ∧ Q (.ref D) H) ∨ (J.go i H ∧ ∃ Nx : Hp → Prop, (∀ H', Nx H' → ∃ m', m' < m ∧ W (i + 1) m' H') ∧ ∀ x H', J.yld i H x H' → gg x (L2.wipe σ vs) H' fun σ2 H2 => L2.wipe σ2 vs = L2.wipe σ vs ∧ tT G X.K E0 ft σ2 H2 fun b H3 =>
      if b = true then tE G X.K E0 fe σ2 H3 fun y H4 => ∃ acc, H4 D = some (.lst acc) ∧ acc.length < sizeLine ∧ Nx (upd H4 D (.lst (acc ++ [y]))) else Nx H3) := by
  intro D hD
  have rw1 : RelS X.K m1 h1.length H1 (wipeL r vs) (wipe σ vs) := wipe_rel rs1 vs
  -- the state within the loop: the new list at D is no object of the logical heap
  have pD := rel1.newT (u := HO.lst []) hD
  have outD : ∀ i, i < h1.length → m1 i ≠ D := fun i hi => rel1.ne hi hD
  refine ⟨fun i n H' => ∃ m2 h2 acc vs2, Post G X.K m1 h1.length H1 m2 h2 H' ∧ (∀ i, i < h2.length → m2 i ≠ D) ∧ H' D = some (.lst vs2) ∧ RelDs X.K m2 h2.length H' acc vs2 ∧
    Out G X.K E m1 h1.length H1 Q ((compX src vs ft fe n i acc (wipeL r vs) h2).bind fun acc h3 => .ok (.ref h3.length) (h3 ++ [.lst acc])), ⟨fuelN, m1, h1, [], [], pD, outD, upd_same, .nil, o⟩, ?_⟩
  rintro i n H' ⟨m2, h2, acc, vs2, p2, out, hD2, racc, o⟩
  have ir2 := ir m2 h2 H' i p2
  cases n with
  | zero => exact o.elim
  | succ n =>
    unfold compX at o
    cases q : srcAt src h2 i with
    | none => simp only [q] at o; exact o.elim
    | some w =>
      cases w with
      | none =>
        simp only [q] at o ir2
        refine .inl ⟨ir2, ?_⟩
        -- the end: the list becomes a logical object
        have rel3 : RelH G X.K (ext m2 h2.length D) (h2 ++ [O.lst acc]) H' := by
          have ag : ∀ i, i < h2.length → ext m2 h2.length D i = m2 i := fun i hi => ext_ne (Nat.ne_of_lt hi)
          refine ⟨fun k ob ek => ?_, fun a b ha hb eab => ?_, p2.rel.tab⟩
          · by_cases hk : k < h2.length
            · rw [List.getElem?_append_left hk] at ek
              rw [ag k hk]
              exact (p2.rel.obj k ob ek).mono ag (by simp) (TK.refl _) rfl
            · have : k = h2.length := by
                have := (List.getElem?_eq_some_iff.mp ek).1
                simp at this
                omega
              subst this
              simp at ek
              subst ek
              rw [ext_self]
              exact ⟨vs2, hD2, racc.mono ag (by simp) (TK.refl _)⟩
          · simp at ha hb
            by_cases h1' : a < h2.length
            · by_cases h2' : b < h2.length
              · rw [ag a h1', ag b h2'] at eab
                exact p2.rel.inj a b h1' h2' eab
              · have : b = h2.length := by omega
                subst this
                rw [ag a h1', ext_self] at eab
                exact absurd eab (out a h1')
            · have h1'' : a = h2.length := by omega
              subst h1''
              by_cases h2' : b < h2.length
              · rw [ag b h2', ext_self] at eab
                exact absurd eab.symm (out b h2')
              · omega
        have pp := p2
        have fin : Post G X.K m1 h1.length H1 (ext m2 h2.length D) (h2 ++ [O.lst acc]) H' := by
          refine ⟨fun i hi => ?_, by have := p2.len; simp; omega, pp.tk, rel3, fun i h1' h2' => ?_, pp.fr⟩
          · have := p2.len
            rw [ext_ne (by omega)]
            exact p2.agr i hi
          · by_cases hk : i < h2.length
            · rw [ext_ne (Nat.ne_of_lt hk)]
              exact pp.new i h1' hk
            · have : i = h2.length := by simp at h2'; omega
              subst this
              rw [ext_self]; exact fun o e => by rw [hD] at e; cases e
        have z : RelD X.K (ext m2 h2.length D) (h2 ++ [O.lst acc]).length H' (.ref h2.length) (.ref (ext m2 h2.length D h2.length)) := .ref (by simp)
        rw [ext_self] at z
        exact o _ H' _ fin z
      | some d =>
        simp only [q] at o ir2
        refine .inr ⟨ir2.1, fun H3 => ∃ m2 h2 acc vs2, Post G X.K m1 h1.length H1 m2 h2 H3 ∧ (∀ i, i < h2.length → m2 i ≠ D) ∧ H3 D = some (.lst vs2) ∧ RelDs X.K m2 h2.length H3 acc vs2 ∧
          Out G X.K E m1 h1.length H1 Q ((compX src vs ft fe n (i + 1) acc (wipeL r vs) h2).bind fun acc h3 => .ok (.ref h3.length) (h3 ++ [.lst acc])), fun H3 z => ⟨n, Nat.lt_succ_self n, z⟩, fun x H3 y => ?_⟩
        obtain ⟨p3, rd⟩ := ir2.2 x H3 y
        have hD3 : H3 D = some (.lst vs2) := p3.fr D _ hD2 (fun _ z => nomatch z) out
        have p23 := p2.trans p3
        cases zt : tgt vs d (wipeL r vs) with
        | none => simp only [zt] at o; exact o.elim
        | some r1 =>
          simp only [zt] at o
          refine hgg m2 h2 H3 (wipeL r vs) r1 (wipe σ vs) d x _ (p23.s rw1) rd zt ?_
          intro σ1 rs1 hw
          refine ⟨?_, m2, r1, h2, p3.rel, rs1, ?_⟩
          · rw [hw]
            exact wipe_wipe σ vs
          · cases z1 : ft r1 h2 with
            | stuck => simp only [z1] at o; exact o.elim
            | exc c fs h4 => simp only [z1] at o; exact o.elim
            | ok y1 h4 =>
              simp only [z1] at o
              cases z2 : truth y1 h4 with
              | none => simp only [z2] at o; exact o.elim
              | some b =>
                refine ⟨b, z2, fun m4 H4 p4 => ?_⟩
                have out4 : ∀ k, k < h4.length → m4 k ≠ D := fun k hk => by
                  by_cases hk2 : k < h2.length
                  · rw [p4.agr k hk2]; exact out k hk2
                  · intro e
                    obtain ⟨ps, z⟩ := p4.new k (Nat.not_lt.mp hk2) hk _ (by rw [e]; exact hD3)
                    cases z
                have hD4 : H4 D = some (.lst vs2) := p4.fr D _ hD3 (fun _ z => nomatch z) out
                have racc4 := p4.ds (p3.ds racc)
                cases b with
                | false =>
                  simp only [z2] at o
                  exact iteF ⟨m4, h4, acc, vs2, p23.trans p4, out4, hD4, racc4, o⟩
                | true =>
                  simp only [z2] at o
                  refine iteT ⟨m4, r1, h4, p4.rel, p4.s rs1, ?_⟩
                  cases z3 : fe r1 h4 with
                  | stuck => simp only [z3] at o; exact o.elim
                  | exc c fs h5 => simp only [z3] at o; exact o.elim
                  | ok y h5 =>
                    simp only [z3] at o
                    by_cases hl : acc.length < sizeLine
                    · rw [if_pos hl] at o
                      intro m5 H5 yv p5 ry
                      have hD5 : H5 D = some (.lst vs2) := p5.fr D _ hD4 (fun _ z => nomatch z) out4
                      have out5 : ∀ k, k < h5.length → m5 k ≠ D := fun k hk => by
                        by_cases hk2 : k < h4.length
                        · rw [p5.agr k hk2]; exact out4 k hk2
                        · intro e
                          obtain ⟨ps, z⟩ := p5.new k (Nat.not_lt.mp hk2) hk _ (by rw [e]; exact hD4)
                          cases z
                      refine ⟨vs2, hD5, by rw [← racc.length]; exact hl, ?_⟩
                      have tk : TK X.K H5 (upd H5 D (.lst (vs2 ++ [yv]))) := TK.upd_mut hD5 (fun _ z => nomatch z) (fun _ _ z => nomatch z)
                      have rel6 : RelH G X.K m5 h5 (upd H5 D (.lst (vs2 ++ [yv]))) := ⟨fun k ob ek => (p5.rel.obj k ob ek).mono (fun _ _ => rfl) (Nat.le_refl _) tk (by rw [upd_ne (out5 k (List.getElem?_eq_some_iff.mp ek).1)]), p5.rel.inj, tabs_upd p5.rel.tab hD5 (fun _ z => nomatch z) (fun _ z => nomatch z)⟩
                      have p25 := p23.trans (p4.trans p5)
                      refine ⟨m5, h5, acc ++ [y], vs2 ++ [yv], ⟨p25.agr, p25.len, p25.tk.trans tk, rel6, p25.new, fun a u ea nt hx => by rw [upd_ne (ne_of_none ea hD)]; exact p25.fr a u ea nt hx⟩, out5, upd_same, ((p5.ds racc4).append (.cons ry .nil)).mono (fun _ _ => rfl) (Nat.le_refl _) tk, o⟩
                    · rw [if_neg hl] at o; exact o.elim
theorem toComp {gg : TG} {ft fe : EX} {vs : List Nat} (hgg : TgOk X vs gg) {σ : L2.St} {H : Hp} {Q : VK} (t : tE G X.K E (eComp vs fi ft fe) σ H Q) : tLc (tI G X.K E fi) gg (tT G X.K E0 ft) (tE G X.K E0 fe) vs σ H Q := by
  obtain ⟨m, r, h, rh, rs, o⟩ := t
  refine ⟨m, r, h, rh, rs, ?_⟩
  rcases Out.bindR o with ⟨src, h1, e, o⟩ | ⟨c, fs, h1, e, o⟩
  · rw [e]
    intro m1 H1 J p1 ir
    exact comp_body hgg p1.rel (p1.s rs) ir (Out.later p1 o)
  · rw [e]; exact o
theorem xComp {elt : Expr} {ifs : List Expr} {scope : Scope} {own : List (Str × Nat)} {gg : TG} {ft fe : EX} {vs : List Nat} (hc : X.calm = true) (hN : X.N.Nodup) (hi : PI X tg iter (tI G X.K E fi)) (ok : BlkOk X.N X.env.scope scope own) (hv : own.map (·.2) = vs)
    (hgg : TgOk X vs gg)
    (hg : ∀ (s : Shared) (H : Hp) (C : Addr) (cl : List (Str × Addr)) (fp : List Addr), PG (X.blk s H scope (compEnvC scope cl C X.env) fp) tg gg)
    (ht : ∀ (s : Shared) (H : Hp) (C : Addr) (cl : List (Str × Addr)) (fp : List Addr), PTs (X.blk s H scope (compEnvC scope cl C X.env) fp) ifs (tT G X.K E0 ft))
    (he : ∀ (s : Shared) (H : Hp) (C : Addr) (cl : List (Str × Addr)) (fp : List Addr), PE (X.blk s H scope (compEnvC scope cl C X.env) fp) elt (tE G X.K E0 fe))
    (hs : ∀ x, foldedSetIterable iter X.env x = pure x := by intro _; rfl) : PE X (.ListComp elt [⟨tg, iter, ifs, 0⟩] scope pos) (tE G X.K E (eComp vs fi ft fe)) := by
  subst hv
  refine PE_mono (pe_lc hc hN hi ok hg ht he hs) ?_
  intro σ H Q t
  exact toComp hgg t
end
end Py

set_option Elab.async false
set_option linter.all false
set_option maxRecDepth 100000
namespace Py
open PySem PySem.Spec PyProof.Rows L2
section
variable {X : Cx} {G : Gam} {E : XK}
/-! ### operators of ints -/
theorem opI_ok {f : Value → Value → Sem Value} {g : Int → Int → D} {gv : Int → Int → V} (ho : OpR X f (rI0 gv)) (hg : ∀ m N H i j, RelD X.K m N H (g i j) (gv i j)) : OpR X f (r2 G X.K E (opI g)) := by
  intro pins s σ H x y v u Q I rx ry ⟨m, h, dx, dy, rh, d1, d2, o⟩
  cases d1 <;> try exact o.elim
  cases d2 <;> try exact o.elim
  exact ho pins s σ H _ _ v u Q I rx ry ⟨_, _, rfl, rfl, o m H _ (Post.refl rh) (hg _ _ _ _ _)⟩
theorem sub_ok : OpR X (binaryOp .Sub) (r2 G X.K E oSub) := opI_ok op_sub fun _ _ _ _ _ => .int _
theorem lt_ok : OpR X (compareOp .Lt) (r2 G X.K E oLt) := opI_ok op_lt fun _ _ _ _ _ => .bl _
theorem gt_ok : OpR X (compareOp .Gt) (r2 G X.K E oGt) := opI_ok op_gt fun _ _ _ _ _ => .bl _
theorem isB_opI {p : Int → Int → Bool} : IsB2 (opI fun i j => .bl (p i j)) := by
  intro x y h d h' e
  cases x <;> cases y <;> simp only [opI] at e <;> cases e
  exact ⟨_, rfl⟩
theorem isB_lt : IsB2 oLt := isB_opI
theorem isB_gt : IsB2 oGt := isB_opI
theorem mod_ok : OpR X (binaryOp .Mod) (r2 G X.K E oMod) := by
  intro pins s σ H x y v u Q I rx ry ⟨m, h, dx, dy, rh, d1, d2, o⟩
  cases d1 <;> try exact o.elim
  cases d2 <;> try exact o.elim
  rename_i i j
  simp only [oMod] at o
  by_cases hj : 0 < j
  · rw [if_pos hj] at o
    exact op_mod pins s σ H _ _ v u Q I rx ry ⟨_, _, rfl, rfl, hj, o m H _ (Post.refl rh) (.int _)⟩
  · rw [if_neg hj] at o; exact o.elim
theorem div_ok : OpR X (binaryOp .FloorDiv) (r2 G X.K E oDiv) := by
  intro pins s σ H x y v u Q I rx ry ⟨m, h, dx, dy, rh, d1, d2, o⟩
  cases d1 <;> try exact o.elim
  cases d2 <;> try exact o.elim
  rename_i i j
  simp only [oDiv] at o
  by_cases hj : 0 < j ∧ j < 1073741824
  · rw [if_pos hj] at o
    exact op_fdiv pins s σ H _ _ v u Q I rx ry ⟨_, _, rfl, rfl, hj, o m H _ (Post.refl rh) (.int _)⟩
  · rw [if_neg hj] at o; exact o.elim
theorem pow_ok : OpR X (binaryOp .Pow) (r2 G X.K E oPow) := by
  intro pins s σ H x y v u Q I rx ry ⟨m, h, dx, dy, rh, d1, d2, o⟩
  cases d1 <;> try exact o.elim
  cases d2 <;> try exact o.elim
  rename_i i j
  simp only [oPow] at o
  by_cases hj : 0 ≤ j ∧ j ≤ 1000000 ∧ i.natAbs < 2 ^ 64
  · rw [if_pos hj] at o
    exact op_pow pins s σ H _ _ v u Q I rx ry ⟨_, _, rfl, rfl, hj, o m H _ (Post.refl rh) (.int _)⟩
  · rw [if_neg hj] at o; exact o.elim
/-- a new list -/
theorem out_lst {m : Nat → Addr} {h : LH} {H : Hp} {Q : VK} {xs : List D} {vs : List V} (rh : RelH G X.K m h H) (rd : RelDs X.K m h.length H xs vs) (o : Out G X.K E m h.length H Q (.ok (.ref h.length) (h ++ [.lst xs]))) (p : Addr) (hp : H p = none) : Q (.ref p) (upd H p (.lst vs)) := by
  have q := rh.new (o := .lst xs) (u := .lst vs) hp (fun m' ag e => ⟨vs, upd_same, rd.mono ag (Nat.le_succ _) (TK.upd_new hp)⟩)
  have z : RelD X.K (ext m h.length p) (h ++ [O.lst xs]).length (upd H p (.lst vs)) (.ref h.length) (.ref (ext m h.length p h.length)) := .ref (by simp)
  rw [ext_self] at z
  exact o _ _ _ q z
/-- a new tuple -/
theorem out_tup {m : Nat → Addr} {h : LH} {H : Hp} {Q : VK} {xs : List D} {vs : List V} (rh : RelH G X.K m h H) (rd : RelDs X.K m h.length H xs vs) (o : Out G X.K E m h.length H Q (.ok (.tup xs) h)) (p : Addr) (ob : Obj) (hp : H p = none) (hd : ob.dict = none) : Q (.ref p) (upd H p (.frz ob (.tup vs))) := by
  have q := rh.newT (u := .frz ob (.tup vs)) hp
  exact o m _ _ q (.tup (sx_new hd) (q.ds rd))
/-- .. that begins with a whole number -/
theorem out_tupI {m : Nat → Addr} {h : LH} {H : Hp} {Q : VK} {i : Int} {xs : List D} {vs : List V} (rh : RelH G X.K m h H) (rd : RelDs X.K m h.length H xs (.int i :: vs)) (o : Out G X.K E m h.length H Q (.ok (.tup xs) h)) (p : Addr) (hp : H p = none) : Q (.ref p) (upd H p (.tup (.int i :: vs))) := by
  have q := rh.newT (u := .tup (.int i :: vs)) hp
  exact o m _ _ q (.tup ⟨SqT.of upd_same, .inr xn_int⟩ (q.ds rd))
theorem lst_at {m : Nat → Addr} {h : LH} {H : Hp} {n : Nat} {xs : List D} (rh : RelH G X.K m h H) (e : h[n]? = some (.lst xs)) : ∃ vs, H (m n) = some (.lst vs) ∧ RelDs X.K m h.length H xs vs := rh.obj n _ e
theorem RelDs.rep {K : PySem.W.Frag} {m : Nat → Addr} {N : Nat} {H : Hp} {xs : List D} {vs : List V} (r : RelDs K m N H xs vs) : ∀ k : Nat, RelDs K m N H (List.replicate k xs).flatten (List.replicate k vs).flatten
  | 0 => .nil
  | k + 1 => by
    rw [List.replicate_succ, List.replicate_succ, List.flatten_cons, List.flatten_cons]
    exact r.append (RelDs.rep r k)
theorem mul_ok : OpR X (binaryOp .Mult) (r2 G X.K E oMul) := by
  intro pins s σ H x y v u Q I rx ry ⟨m, h, dx, dy, rh, d1, d2, o⟩
  cases d1 with
  | int i =>
    cases d2 <;> try exact o.elim
    rename_i j
    simp only [oMul] at o
    by_cases hj : (small i || small j) = true
    · rw [if_pos hj] at o
      have hc : CMul i j := by
        simp only [small, Bool.or_eq_true, Bool.and_eq_true, decide_eq_true_eq] at hj
        exact hj
      exact op_mul pins s σ H _ _ v u Q I rx ry ⟨_, _, rfl, rfl, hc, o m H _ (Post.refl rh) (.int _)⟩
    · rw [if_neg hj] at o; exact o.elim
  | @ref n hn =>
    cases d2 <;> try exact o.elim
    rename_i k
    simp only [oMul] at o
    cases q : h[n]? with
    | none => simp only [q] at o; exact o.elim
    | some ob =>
      cases ob with
      | ins c fs => simp only [q] at o; exact o.elim
      | dct kv => simp only [q] at o; exact o.elim
      | hid _ => simp only [q] at o; exact o.elim
      | lst xs =>
        simp only [q] at o
        by_cases hk : xs.length * k.toNat ≤ sizeLine ∧ -(2 ^ 63) ≤ k ∧ k < 2 ^ 63
        · rw [if_pos hk] at o
          obtain ⟨vs, e1, rv⟩ := lst_at rh q
          refine op_rep pins s σ H _ _ v u Q I rx ry ⟨m n, k, vs, rfl, rfl, e1, hk.2.1, hk.2.2, by rw [← rv.length]; exact hk.1, ?_⟩
          exact out_lst rh (rv.rep k.toNat) o
        · rw [if_neg hk] at o; exact o.elim
  | non => exact o.elim
  | bl _ => exact o.elim
  | str _ => exact o.elim
  | tup _ _ => exact o.elim
  | scr _ => exact o.elim
  | fn _ => exact o.elim
theorem add_ok : OpR X (binaryOp .Add) (r2 G X.K E oAdd) := by
  intro pins s σ H x y v u Q I rx ry ⟨m, h, dx, dy, rh, d1, d2, o⟩
  cases d1 with
  | int i =>
    cases d2 <;> try exact o.elim
    exact op_add pins s σ H _ _ v u Q I rx ry ⟨_, _, rfl, rfl, o m H _ (Post.refl rh) (.int _)⟩
  | str i =>
    cases d2 <;> try exact o.elim
    rename_i j
    simp only [oAdd] at o
    by_cases hl : i.length + j.length ≤ sizeLine
    · rw [if_pos hl] at o
      exact op_add_str pins s σ H _ _ v u Q I rx ry ⟨_, _, rfl, rfl, hl, o m H _ (Post.refl rh) (.str _)⟩
    · rw [if_neg hl] at o; exact o.elim
  | @tup a xs vs ht rs =>
    cases d2 <;> try exact o.elim
    rename_i b ys ws hb rt
    simp only [oAdd] at o
    by_cases hl : xs.length + ys.length ≤ sizeLine
    · rw [if_pos hl] at o
      refine op_catF pins s σ H _ _ v u Q I rx ry ⟨a, b, vs, ws, rfl, rfl, ht.sq, hb.sq, by rw [← rs.length, ← rt.length]; exact hl, fun e => ?_, fun _ e => ?_, fun p ob hp hd => out_tup rh (rs.append rt) o p ob hp hd⟩
      · subst e
        cases rs
        exact o m H _ (Post.refl rh) (.tup hb rt)
      · subst e
        cases rt
        rw [List.append_nil] at o
        exact o m H _ (Post.refl rh) (.tup ht rs)
    · rw [if_neg hl] at o; exact o.elim
  | @ref n hn =>
    cases d2 <;> try exact o.elim
    rename_i k hk
    simp only [oAdd] at o
    cases q : h[n]? with
    | none => simp only [q] at o; exact o.elim
    | some ob =>
      cases ob with
      | ins c fs => simp only [q] at o; exact o.elim
      | dct kv => simp only [q] at o; exact o.elim
      | hid _ => simp only [q] at o; exact o.elim
      | lst xs =>
        cases q2 : h[k]? with
        | none => simp only [q, q2] at o; exact o.elim
        | some ob2 =>
          cases ob2 with
          | ins c fs => simp only [q, q2] at o; exact o.elim
          | dct kv => simp only [q, q2] at o; exact o.elim
          | hid _ => simp only [q, q2] at o; exact o.elim
          | lst ys =>
            simp only [q, q2] at o
            by_cases hl : xs.length + ys.length ≤ sizeLine
            · rw [if_pos hl] at o
              obtain ⟨vs, e1, rv⟩ := lst_at rh q
              obtain ⟨ws, e2, rw'⟩ := lst_at rh q2
              exact op_cat pins s σ H _ _ v u Q I rx ry ⟨m n, m k, vs, ws, rfl, rfl, e1, e2, by rw [← rv.length, ← rw'.length]; exact hl, out_lst rh (rv.append rw') o⟩
            · rw [if_neg hl] at o; exact o.elim
  | non => exact o.elim
  | bl _ => exact o.elim
  | scr _ => exact o.elim
  | fn _ => exact o.elim
/-! ### sequences -/
theorem seq_okX {m : Nat → Addr} {h : LH} {H : Hp} {d : D} {v : V} {xs : List D} (rh : RelH G X.K m h H) (rd : RelD X.K m h.length H d v) (e : seqD d h = some xs) :
    ∃ a vs, v = .ref a ∧ (SqL X.K H a vs ∨ SqX X.K H a vs) ∧ RelDs X.K m h.length H xs vs := by
  cases rd with
  | non => cases e
  | bl _ => cases e
  | int _ => cases e
  | str _ => cases e
  | @tup a ys vs ht rs => cases e; exact ⟨a, vs, rfl, .inr ht, rs⟩
  | @scr a ns hs => cases e; exact ⟨a, _, rfl, .inl hs.sq, RelDs.ints ns⟩
  | fn _ => cases e
  | @ref n hn =>
    cases q : h[n]? with
    | none => simp only [seqD, q] at e; cases e
    | some ob =>
      cases ob with
      | ins c fs => simp only [seqD, q] at e; cases e
      | dct kv => simp only [seqD, q] at e; cases e
      | hid _ => simp only [seqD, q] at e; cases e
      | lst ys =>
        simp only [seqD, q] at e
        cases e
        obtain ⟨vs, e1, rv⟩ := lst_at rh q
        exact ⟨m n, vs, rfl, .inl (SqL.of e1), rv⟩
theorem seq_ok {m : Nat → Addr} {h : LH} {H : Hp} {d : D} {v : V} {xs : List D} (rh : RelH G X.K m h H) (rd : RelD X.K m h.length H d v) (e : seqD d h = some xs) :
    ∃ a vs, v = .ref a ∧ (SqL X.K H a vs ∨ SqT X.K H a vs) ∧ RelDs X.K m h.length H xs vs := by
  obtain ⟨a, vs, q1, q2, q3⟩ := seq_okX rh rd e
  exact ⟨a, vs, q1, q2.imp id SqX.sq, q3⟩
theorem flat_ok {m : Nat → Addr} {N : Nat} {H : Hp} {d : D} {v : V} (rd : RelD X.K m N H d v) (f : flatD d = true) : flatV v = true := by
  cases rd <;> first | rfl | cases f
theorem eqF_ok {m : Nat → Addr} {N : Nat} {H : Hp} {d d' : D} {v v' : V} (rd : RelD X.K m N H d v) (rd' : RelD X.K m N H d' v') (f : flatD d = true) (f' : flatD d' = true) : eqV v v' = eqF d d' := by
  cases rd <;> cases rd' <;> first | rfl | exact absurd f Bool.false_ne_true | exact absurd f' Bool.false_ne_true
theorem flats_ok {m : Nat → Addr} {N : Nat} {H : Hp} : ∀ {xs : List D} {vs : List V}, RelDs X.K m N H xs vs → xs.all flatD = true → vs.all flatV = true
  | _, _, .nil, _ => rfl
  | _, _, .cons a r, f => by
    simp only [List.all_cons, Bool.and_eq_true] at f ⊢
    exact ⟨flat_ok a f.1, flats_ok r f.2⟩
theorem inV_ok {m : Nat → Addr} {N : Nat} {H : Hp} {x : D} {v : V} (rx : RelD X.K m N H x v) (fx : flatD x = true) : ∀ {xs : List D} {vs : List V}, RelDs X.K m N H xs vs → xs.all flatD = true → inV v vs = xs.any fun z => eqF z x
  | _, _, .nil, _ => rfl
  | _, _, .cons a r, f => by
    simp only [List.all_cons, Bool.and_eq_true] at f
    have ih := inV_ok rx fx r f.2
    unfold inV at ih ⊢
    rw [List.any_cons, List.any_cons, ih, eqF_ok a rx f.1 fx]
theorem in_ok : OpR X (compareOp .In) (r2 G X.K E (oIn false)) := by
  intro pins s σ H x y v u Q I rx ry ⟨m, h, dx, dy, rh, d1, d2, o⟩
  simp only [oIn] at o
  cases q : seqD dy h with
  | none => simp only [q] at o; exact o.elim
  | some xs =>
    simp only [q] at o
    by_cases f : (flatD dx && xs.all flatD) = true
    · rw [if_pos f] at o
      rw [Bool.and_eq_true] at f
      obtain ⟨a, vs, rfl, hs, rs⟩ := seq_ok rh d2 q
      refine op_in_seq pins s σ H _ _ v u Q I rx ry ⟨a, vs, rfl, hs, flat_ok d1 f.1, flats_ok rs f.2, ?_⟩
      rw [inV_ok d1 f.1 rs f.2]
      exact o m H _ (Post.refl rh) (.bl _)
    · rw [if_neg f] at o; exact o.elim
theorem isB_in (neg : Bool) : IsB2 (oIn neg) := by
  intro x y h d h' e
  simp only [oIn] at e
  split at e
  · split at e
    · cases e; exact ⟨_, rfl⟩
    · cases e
  · cases e
/-! subscripts -/
theorem atI_rel {m : Nat → Addr} {N : Nat} {H : Hp} {xs : List D} {vs : List V} {i : Int} {d : D} (r : RelDs X.K m N H xs vs) (e : atI xs i = some d) : ∃ v, atI vs i = some v ∧ RelD X.K m N H d v := by
  unfold atI at e ⊢
  rw [← r.length]
  cases q : ixN xs.length i with
  | none => rw [q] at e; cases e
  | some j =>
    rw [q] at e
    exact r.get e
theorem ix_ok : IxR X (r2 G X.K E oIx) := by
  intro va sli pins s σ H x y v u Q I rx ry ⟨m, h, dx, dy, rh, d1, d2, o⟩ hpl
  cases d2 <;> try exact o.elim
  rename_i i
  simp only [oIx] at o
  cases q : seqD dx h with
  | none => simp only [q] at o; exact o.elim
  | some xs =>
    simp only [q] at o
    cases z : atI xs i with
    | none => simp only [z] at o; exact o.elim
    | some d =>
      simp only [z] at o
      obtain ⟨a, vs, rfl, hs, rs⟩ := seq_ok rh d1 q
      obtain ⟨w, e1, rw'⟩ := atI_rel rs z
      have fin := o m H _ (Post.refl rh) rw'
      rcases hs with hs | hs
      · exact ix_list va sli pins s σ H _ _ v u Q I rx ry ⟨a, vs, i, w, rfl, rfl, hs, e1, fin⟩ hpl
      · exact ix_tup va sli pins s σ H _ _ v u Q I rx ry ⟨a, vs, i, w, rfl, rfl, hs, e1, fin⟩ hpl
theorem xIx {a b : Expr} {fa fb : EX} {pos : Pos} (ha : PE X a (tE G X.K E fa)) (hb : PE X b (tE G X.K E fb)) (hs : PlainIx b := by exact fun _ _ => rfl) : PE X (.Subscript a b pos) (tE G X.K E (e2 oIx fa fb)) :=
  PE_mono (pe_ix ix_ok ha hb hs) fun σ H Q t => toOp t
/-! ### calls of built-ins -/
theorem bltn {e : Expr} {es : List Expr} {fa : AX} {op : List D → LH → R D} {id : String} {x : Str} {p pos : Pos} (hc : CallR X (.builtin id) (rA G X.K E op)) (hg : Gl X x) (hm : X.mg x = none) (hv : bootBuiltins x = some (.builtin id)) (ha : PA X (e :: es) (tA G X.K E fa))
    (hn : x ≠ "__name__" := by decide) (hdb : (x == ("__debug__" : Str)) = false := by decide) (hs : starEach (e :: es) X.env = (false, eval e X.env) :: starEach es X.env := by rfl) (hpl : (backTo pos (starEach es X.env)).any (·.1) = false := by rfl) : PE X (.Call (.Name x p) (e :: es) [] pos) (tE G X.K E (eA op fa)) :=
  PE_mono (pe_callB hc hg hm hv ha hn hdb hs hpl) fun σ H Q t => toA (fun _ _ _ z => z) t
theorem bltnT {e : Expr} {es : List Expr} {fa : AX} {op : List D → LH → R D} {T : String} {x : Str} {p pos : Pos} (hc : CallR X (.type T) (rA G X.K E op)) (hg : Gl X x) (hm : X.mg x = none) (hv : bootBuiltins x = some (.type T)) (ha : PA X (e :: es) (tA G X.K E fa))
    (hn : x ≠ "__name__" := by decide) (hdb : (x == ("__debug__" : Str)) = false := by decide) (hs : starEach (e :: es) X.env = (false, eval e X.env) :: starEach es X.env := by rfl) (hpl : (backTo pos (starEach es X.env)).any (·.1) = false := by rfl) : PE X (.Call (.Name x p) (e :: es) [] pos) (tE G X.K E (eA op fa)) :=
  PE_mono (pe_callTy hc hg hm hv ha hn hdb hs hpl) fun σ H Q t => toA (fun _ _ _ z => z) t
theorem len_okB : CallR X (.builtin "len") (rA G X.K E bLen) := by
  intro pins s σ H xs us Q I r ⟨m, h, ds, rh, rd, o⟩
  cases rd with
  | nil => exact o.elim
  | @cons d v ds vs a b =>
    cases b with
    | cons _ _ => simp only [bLen] at o; exact o.elim
    | nil =>
      cases q : seqD d h with
      | some ys =>
        obtain ⟨p, ws, rfl, hs, rs⟩ := seq_ok rh a q
        have e : bLen [d] h = .ok (.int (ys.length : Nat)) h := by
          cases d <;> simp only [bLen, q]
          cases q
        rw [e] at o
        refine call_len_seq pins s σ H _ us Q I r ⟨p, ws, rfl, hs, ?_⟩
        rw [← rs.length]
        exact o m H _ (Post.refl rh) (.int _)
      | none =>
        cases a with
        | str x =>
          simp only [bLen] at o
          by_cases hl : x.length ≤ sizeLine
          · rw [if_pos hl] at o
            exact call_len_str pins s σ H _ us Q I r ⟨x, rfl, hl, o m H _ (Post.refl rh) (.int _)⟩
          · rw [if_neg hl] at o; exact o.elim
        | _ => simp only [bLen, q] at o; exact o.elim
theorem abs_okB : CallR X (.builtin "abs") (rA G X.K E bAbs) := by
  intro pins s σ H xs us Q I r ⟨m, h, ds, rh, rd, o⟩
  cases rd with
  | nil => exact o.elim
  | cons a b =>
    cases b with
    | cons _ _ => simp only [bAbs] at o; exact o.elim
    | nil =>
      cases a <;> try exact o.elim
      exact call_abs pins s σ H _ us Q I r ⟨_, rfl, o m H _ (Post.refl rh) (.int _)⟩
theorem int_okB : CallR X (.type "int") (rA G X.K E bInt) := by
  intro pins s σ H xs us Q I r ⟨m, h, ds, rh, rd, o⟩
  cases rd with
  | nil => exact o.elim
  | cons a b =>
    cases b with
    | cons _ _ => simp only [bInt] at o; exact o.elim
    | nil =>
      cases a with
      | int i => exact call_int1 pins s σ H _ us Q I r (.inl ⟨_, rfl, o m H _ (Post.refl rh) (.int _)⟩)
      | bl i => exact call_int1 pins s σ H _ us Q I r (.inr ⟨_, rfl, o m H _ (Post.refl rh) (.int _)⟩)
      | _ => exact o.elim
/-- two ints -/
theorem two_ok {f : Value} {op : List D → LH → R D} {g : Int → Int → D} {gv : Int → Int → V} (ho : CallR X f (fun xs H Q => ∃ i j, xs = [.int i, .int j] ∧ Q (gv i j) H)) (hg : ∀ m N H i j, RelD X.K m N H (g i j) (gv i j))
    (hop : ∀ ds h, (∃ i j, ds = [.int i, .int j] ∧ op ds h = .ok (g i j) h) ∨ op ds h = .stuck) : CallR X f (rA G X.K E op) := by
  intro pins s σ H xs us Q I r ⟨m, h, ds, rh, rd, o⟩
  rcases hop ds h with ⟨i, j, rfl, e⟩ | e
  · rw [e] at o
    cases rd with
    | cons a b =>
      cases b with
      | cons b c =>
        cases c
        cases a
        cases b
        exact ho pins s σ H _ us Q I r ⟨i, j, rfl, o m H _ (Post.refl rh) (hg _ _ _ _ _)⟩
  · rw [e] at o; exact o.elim
theorem two_cases (g : Int → Int → LH → R D) (op : List D → LH → R D) (h1 : ∀ i j h, op [.int i, .int j] h = g i j h) (h2 : ∀ ds h, (∃ i j, ds = [D.int i, .int j]) ∨ op ds h = .stuck) : ∀ ds h, (∃ i j, ds = [D.int i, .int j] ∧ op ds h = g i j h) ∨ op ds h = .stuck := by
  intro ds h
  rcases h2 ds h with ⟨i, j, rfl⟩ | e
  · exact .inl ⟨i, j, rfl, h1 i j h⟩
  · exact .inr e
theorem max_okB (hc : X.calm = true) : CallR X (.builtin "max") (rA G X.K E bMax) := by
  refine two_ok (g := fun i j => .int (if j > i then j else i)) (call_max2 hc) (fun _ _ _ _ _ => .int _) (two_cases (fun i j h => .ok (.int (if j > i then j else i)) h) _ (fun _ _ _ => rfl) ?_)
  intro ds h
  unfold bMax
  split
  · exact .inl ⟨_, _, rfl⟩
  · exact .inr rfl
theorem min_okB (hc : X.calm = true) : CallR X (.builtin "min") (rA G X.K E bMin) := by
  refine two_ok (g := fun i j => .int (if j < i then j else i)) (call_min2 hc) (fun _ _ _ _ _ => .int _) (two_cases (fun i j h => .ok (.int (if j < i then j else i)) h) _ (fun _ _ _ => rfl) ?_)
  intro ds h
  unfold bMin
  split
  · exact .inl ⟨_, _, rfl⟩
  · exact .inr rfl
theorem divmod_okB : CallR X (.builtin "divmod") (rA G X.K E bDivmod) := by
  intro pins s σ H xs us Q I r ⟨m, h, ds, rh, rd, o⟩
  have hd : (∃ i j, ds = [D.int i, .int j]) ∨ bDivmod ds h = .stuck := by
    unfold bDivmod
    split
    · exact .inl ⟨_, _, rfl⟩
    · exact .inr rfl
  rcases hd with ⟨i, j, rfl⟩ | e
  · simp only [bDivmod] at o
    by_cases hj : 0 < j ∧ j < 1073741824
    · rw [if_pos hj] at o
      cases rd with
      | cons a b =>
        cases b with
        | cons b c =>
          cases c
          cases a
          cases b
          exact call_divmod pins s σ H _ us Q I r ⟨i, j, rfl, hj, out_tupI rh (.cons (.int _) (.cons (.int _) .nil)) o⟩
    · rw [if_neg hj] at o; exact o.elim
  · rw [e] at o; exact o.elim
/-- one argument, a list or a tuple -/
theorem one_seq {f : Value} {op : List D → LH → R D} (hop : ∀ ds h, (∃ x xs, ds = [x] ∧ seqD x h = some xs) ∨ op ds h = .stuck)
    (ho : ∀ pins s σ H us Q m h x xs a vs, Inv X pins σ H s → Vals [.ref a] us → RelH G X.K m h H → RelD X.K m h.length H x (.ref a) → seqD x h = some xs → (SqL X.K H a vs ∨ SqX X.K H a vs) → RelDs X.K m h.length H xs vs → Out G X.K E m h.length H Q (op [x] h) →
      wpAny (model X.prog X.w) X.A (call f us) (EP X pins σ Q) X.xe s) : CallR X f (rA G X.K E op) := by
  intro pins s σ H xs us Q I r ⟨m, h, ds, rh, rd, o⟩
  rcases hop ds h with ⟨x, ys, rfl, e⟩ | e
  · cases rd with
    | cons a b =>
      cases b
      obtain ⟨p, ws, rfl, hs, rs⟩ := seq_okX rh a e
      exact ho pins s σ H us Q m h x ys p ws I r rh a e hs rs o
  · rw [e] at o; exact o.elim
theorem list_okB : CallR X (.type "list") (rA G X.K E bList) := by
  refine one_seq (fun ds h => ?_) ?_
  · unfold bList
    split
    · split
      · exact .inl ⟨_, _, rfl, by assumption⟩
      · exact .inr rfl
    · exact .inr rfl
  · intro pins s σ H us Q m h x xs a vs I r rh rd e hs rs o
    simp only [bList, e] at o
    exact call_list_of pins s σ H _ us Q I r ⟨a, vs, rfl, hs.imp id SqX.sq, out_lst rh rs o⟩
theorem tuple_okB : CallR X (.type "tuple") (rA G X.K E bTuple) := by
  refine one_seq (fun ds h => ?_) ?_
  · unfold bTuple
    split
    · split
      · exact .inl ⟨_, _, rfl, by assumption⟩
      · exact .inr rfl
    · exact .inr rfl
  · intro pins s σ H us Q m h x xs a vs I r rh rd e hs rs o
    simp only [bTuple, e] at o
    refine call_tupleF pins s σ H _ us Q I r ⟨a, vs, rfl, ?_⟩
    rcases hs with hs | hs
    · exact .inl ⟨hs, out_tup rh rs o⟩
    · exact .inr ⟨hs.sq, o m H _ (Post.refl rh) (.tup hs rs)⟩
theorem lstD_ok {m : Nat → Addr} {h : LH} {H : Hp} {d : D} {v : V} {xs : List D} (rh : RelH G X.K m h H) (rd : RelD X.K m h.length H d v) (e : lstD d h = some xs) :
    ∃ n vs, d = .ref n ∧ n < h.length ∧ v = .ref (m n) ∧ h[n]? = some (.lst xs) ∧ H (m n) = some (.lst vs) ∧ RelDs X.K m h.length H xs vs := by
  cases rd with
  | non => cases e
  | bl _ => cases e
  | int _ => cases e
  | str _ => cases e
  | tup _ _ => cases e
  | scr _ => cases e
  | fn _ => cases e
  | @ref n hn =>
    cases q : h[n]? with
    | none => simp only [lstD, q] at e; cases e
    | some ob =>
      cases ob with
      | ins c fs => simp only [lstD, q] at e; cases e
      | dct kv => simp only [lstD, q] at e; cases e
      | hid _ => simp only [lstD, q] at e; cases e
      | lst ys =>
        simp only [lstD, q] at e
        cases e
        obtain ⟨vs, e1, rv⟩ := lst_at rh q
        exact ⟨n, vs, rfl, hn, rfl, q, e1, rv⟩
theorem bools_ok {m : Nat → Addr} {N : Nat} {H : Hp} : ∀ {xs : List D} {vs : List V} {bs : List Bool}, RelDs X.K m N H xs vs → boolsD xs = some bs → vs = bs.map V.bl
  | _, _, _, .nil, e => by cases e; rfl
  | _, _, bs, .cons (d := d) (ds := ds) a r, e => by
    cases a <;> try (cases e; done)
    cases q : boolsD ds with
    | none => simp only [boolsD, q] at e; cases e
    | some cs =>
      simp only [boolsD, q] at e
      cases e
      rw [bools_ok r q]
      rfl
theorem all_okB (hc : X.calm = true) : CallR X (.builtin "all") (rA G X.K E bAll) := by
  intro pins s σ H xs us Q I r ⟨m, h, ds, rh, rd, o⟩
  cases rd with
  | nil => exact o.elim
  | @cons d v ds vs a b =>
    cases b with
    | cons _ _ => simp only [bAll] at o; exact o.elim
    | nil =>
      simp only [bAll] at o
      cases q : lstD d h with
      | none => simp only [q, Option.bind_none] at o; exact o.elim
      | some ys =>
        simp only [q, Option.bind_some] at o
        cases z : boolsD ys with
        | none => simp only [z] at o; exact o.elim
        | some bs =>
          simp only [z] at o
          obtain ⟨n, ws, rfl, hn, rfl, e1, e2, rs⟩ := lstD_ok rh a q
          rw [bools_ok rs z] at e2
          exact cr_all hc pins s σ H _ us Q I r ⟨m n, bs, rfl, SqL.of e2, o m H _ (Post.refl rh) (.bl _)⟩
end
end Py

set_option Elab.async false
set_option linter.all false
set_option maxRecDepth 100000
namespace Py
open PySem PySem.Spec PyProof.Rows L2
section
variable {X : Cx} {G : Gam} {E : XK} {a b e o : Expr} {es : List Expr} {fa fb fo : EX} {fas : AX} {pos p2 apos cpos : Pos} {lo hi : Option Expr}
/-! ### slices -/
def OutP (G : Gam) (K : PySem.W.Frag) (E : XK) (m : Nat → Addr) (N : Nat) (H : Hp) (Q : Option Int → Hp → Prop) : R (Option Int) → Prop
  | .ok d h' => ∀ m' H', Post G K m N H m' h' H' → Q d H'
  | .exc c fs h' => OutX G K E m N H c fs h'
  | .stuck => False
def tP (G : Gam) (K : PySem.W.Frag) (E : XK) (f : PX) : TO := fun σ H Q => ∃ m r h, RelH G K m h H ∧ RelS K m h.length H r σ ∧ OutP G K E m h.length H Q (f r h)
theorem PO_mono {e : Option Expr} {t t' : TO} (a : PO X e t) (h : ∀ σ H Q, t' σ H Q → t σ H Q) : PO X e t' := ⟨fun pins s σ H Q I q => a.run pins s σ H Q I (h _ _ _ q)⟩
theorem pNo_ok : PO X none (tP G X.K E pNo) := PO_mono po_none fun σ H Q ⟨m, r, h, rh, rs, o⟩ => o m H (Post.refl rh)
theorem pSome_ok (ha : PE X e (tE G X.K E fa)) : PO X (some e) (tP G X.K E (pSome fa)) := by
  refine PO_mono (po_some ha) ?_
  rintro σ H Q ⟨m, r, h, rh, rs, o⟩
  refine ⟨m, r, h, rh, rs, ?_⟩
  unfold pSome at o
  cases q : fa r h with
  | stuck => rw [q] at o; exact o
  | exc c fs h1 => rw [q] at o; exact o
  | ok d h1 =>
    rw [q, R.bind_ok] at o
    intro m1 H1 v p1 d1
    cases d1 with
    | int i => exact ⟨i, rfl, o m1 H1 p1⟩
    | _ => exact o.elim
theorem cut_rel {m : Nat → Addr} {N : Nat} {H : Hp} {xs : List D} {vs : List V} (r : RelDs X.K m N H xs vs) (l u : Option Int) : RelDs X.K m N H (cutD xs l u) (cutV vs l u) := by
  unfold cutD cutV
  rw [← r.length]
  exact (r.drop _).take _
theorem xSl {pl pu : PX} (ha : PE X a (tE G X.K E fa)) (hl : PO X lo (tP G X.K E pl)) (hu : PO X hi (tP G X.K E pu)) : PE X (.Subscript a (.Slice lo hi none p2) pos) (tE G X.K E (eSl fa pl pu)) := by
  refine PE_mono (pe_slice (sl_list.or sl_tupF) ha hl hu) ?_
  rintro σ H Q ⟨m, r, h, rh, rs, o⟩
  refine ⟨m, r, h, rh, rs, ?_⟩
  unfold eSl at o
  cases q : fa r h with
  | stuck => rw [q] at o; exact o
  | exc c fs h1 => rw [q] at o; exact o
  | ok x h1 =>
    rw [q, R.bind_ok] at o
    intro m1 H1 v p1 d1
    refine ⟨m1, r, h1, p1.rel, p1.s rs, ?_⟩
    cases q1 : pl r h1 with
    | stuck => rw [q1] at o; exact o.elim
    | exc c fs h2 => rw [q1] at o; exact OutX.later p1 o
    | ok l h2 =>
      rw [q1, R.bind_ok] at o
      intro m2 H2 p2
      refine ⟨m2, r, h2, p2.rel, p2.s (p1.s rs), ?_⟩
      cases q2 : pu r h2 with
      | stuck => rw [q2] at o; exact o.elim
      | exc c fs h3 => rw [q2] at o; exact OutX.later (p1.trans p2) o
      | ok u h3 =>
        rw [q2, R.bind_ok] at o
        intro m3 H3 p3
        have pp := p1.trans (p2.trans p3)
        have d3 := (p2.trans p3).d d1
        have o := Out.later pp o
        cases d3 with
        | @tup ad xs vs ht rds =>
          refine .inr ⟨ad, vs, rfl, ht.sq, fun z => ?_, out_tup p3.rel (cut_rel rds l u) o⟩
          have e : cutD xs l u = xs := by
            unfold cutD
            rw [rds.length, z.1, z.2, List.drop_zero, Nat.sub_zero, ← rds.length, List.take_length]
          simp only [e] at o
          exact o m3 H3 _ (Post.refl p3.rel) (.tup ht rds)
        | @ref n hn =>
          cases z : h3[n]? with
          | none => simp only [z] at o; exact o.elim
          | some ob =>
            cases ob with
            | ins c fs => simp only [z] at o; exact o.elim
            | dct kv => simp only [z] at o; exact o.elim
            | hid _ => simp only [z] at o; exact o.elim
            | lst xs =>
              simp only [z] at o
              obtain ⟨vs, e1, rv⟩ := lst_at p3.rel z
              exact .inl ⟨m3 n, vs, rfl, SqL.of e1, out_lst p3.rel (cut_rel rv l u) o⟩
        | non => exact o.elim
        | bl _ => exact o.elim
        | int _ => exact o.elim
        | str _ => exact o.elim
        | scr _ => exact o.elim
        | fn _ => exact o.elim
/-! ### methods of lists -/
theorem toBM {op : D → List D → LH → R D} {rd : V → List V → Hp → VK → Prop} (hr : ∀ m h H x v ds vs Q, RelH G X.K m h H → RelD X.K m h.length H x v → RelDs X.K m h.length H ds vs → Out G X.K E m h.length H Q (op x ds h) → rd v vs H Q)
    {σ : L2.St} {H : Hp} {Q : VK} (t : tE G X.K E (eBM op fo fas) σ H Q) : tE G X.K E fo σ H (fun x H1 => tyV X.K "list" x H1 ∧ tA G X.K E fas σ H1 fun xs H2 => rd x xs H2 Q) := by
  obtain ⟨m, r, h, rh, rs, o⟩ := t
  refine ⟨m, r, h, rh, rs, ?_⟩
  rcases Out.bindR o with ⟨x, h1, e, o⟩ | ⟨c, fs, h1, e, o⟩
  · rw [e]
    intro m1 H1 v p1 d1
    cases q : lstD x h1 with
    | none => simp only [q] at o; exact o.elim
    | some xs =>
      simp only [q] at o
      obtain ⟨n, vs, rfl, hn, rfl, e1, e2, rv⟩ := lstD_ok p1.rel d1 q
      refine ⟨.inl ⟨rfl, vs, SqL.of e2⟩, m1, r, h1, p1.rel, p1.s rs, ?_⟩
      rcases Out.bindR o with ⟨ds, h2, e, o⟩ | ⟨c, fs, h2, e, o⟩
      · rw [e]
        intro m2 H2 vs p2 d2
        exact hr m2 h2 H2 _ _ ds vs Q p2.rel (p2.d d1) d2 (Out.later (p1.trans p2) o)
      · rw [e]; exact OutX.later p1 o
  · rw [e]; exact o
/-- a list turns -/
theorem onL_ok {f : List D → Option (D × List D)} {m : Nat → Addr} {h : LH} {H : Hp} {x : D} {v : V} {Q : VK} (rh : RelH G X.K m h H) (rd : RelD X.K m h.length H x v) (o : Out G X.K E m h.length H Q (onL f x h)) :
    ∃ n xs vs d ys, v = .ref (m n) ∧ H (m n) = some (.lst vs) ∧ RelDs X.K m h.length H xs vs ∧ f xs = some (d, ys) ∧ ∀ w ws, RelD X.K m h.length H d w → RelDs X.K m h.length H ys ws → Q w (upd H (m n) (.lst ws)) := by
  cases rd with
  | non => exact o.elim
  | bl _ => exact o.elim
  | int _ => exact o.elim
  | str _ => exact o.elim
  | scr _ => exact o.elim
  | fn _ => exact o.elim
  | tup _ _ => exact o.elim
  | @ref n hn =>
    simp only [onL] at o
    cases z : h[n]? with
    | none => simp only [z] at o; exact o.elim
    | some ob =>
      cases ob with
      | ins c fs => simp only [z] at o; exact o.elim
      | dct kv => simp only [z] at o; exact o.elim
      | hid _ => simp only [z] at o; exact o.elim
      | lst xs =>
        simp only [z] at o
        cases y : f xs with
        | none => simp only [y] at o; exact o.elim
        | some q =>
          obtain ⟨d, ys⟩ := q
          simp only [y] at o
          obtain ⟨vs, e1, rv⟩ := lst_at rh z
          refine ⟨n, xs, vs, d, ys, rfl, e1, rv, y, fun w ws rw' rws => ?_⟩
          have tk : TK X.K H (upd H (m n) (.lst ws)) := TK.upd_mut e1 (fun _ z => nomatch z) (fun _ _ z => nomatch z)
          have p := rh.upd (u := .lst ws) (o := .lst ys) z e1 (fun _ z => nomatch z) (fun _ _ z => nomatch z) ⟨ws, upd_same, rws.mono (fun _ _ => rfl) (Nat.le_refl _) tk⟩
          exact o m _ _ p (p.d rw')
theorem xAppend (ho : PE X o (tE G X.K E fo)) (ha : PA X [a] (tA G X.K E fas))
    (hbase : attributeBase o "append" X.env (eval o X.env) = eval o X.env := by rfl)
    (hfew : ((backTo cpos (starEach [a] X.env)).all (fun x => !x.1) && (backToKw cpos (keywordEach [] X.env)).all (fun x => x.1.isSome)
      && decide ([a].length + ([] : List Keyword).length + (if ([] : List Keyword).isEmpty then 0 else 1) < 30)) = true := by rfl)
    (hline : (apos.endLine == cpos.line) = true := by rfl) (hs : starEach [a] X.env = (false, eval a X.env) :: starEach [] X.env := by rfl) (hplain : (backTo cpos (starEach [] X.env)).any (·.1) = false := by rfl) :
    PE X (.Call (.Attribute o "append" apos) [a] [] cpos) (tE G X.K E (eBM mAppend fo fas)) := by
  refine PE_mono (pe_bm PySem.F.plainAttrs_list PySem.F.slot_list_append PySem.F.type_list_append mt_append ho ha hbase hfew hline hs hplain) ?_
  intro σ H Q t
  refine toBM (fun m h H x v ds vs Q rh rd rds o => ?_) t
  cases rds with
  | nil => exact o.elim
  | @cons d w ds ws a1 b1 =>
    cases b1 with
    | cons _ _ => exact o.elim
    | nil =>
      obtain ⟨n, xs, us, d', ys, rfl, e1, rv, ef, q⟩ := onL_ok rh rd o
      by_cases hl : xs.length < sizeLine
      · rw [if_pos hl] at ef
        cases ef
        exact ⟨m n, us, w, rfl, rfl, e1, by rw [← rv.length]; exact hl, q _ _ .non (rv.append (.cons a1 .nil))⟩
      · rw [if_neg hl] at ef; cases ef
/-! ### o[i] = v -/
theorem ixN_len {xs : List D} {vs : List V} {m : Nat → Addr} {N : Nat} {H : Hp} (r : RelDs X.K m N H xs vs) (k : Int) : ixN vs.length k = ixN xs.length k := by rw [r.length]
theorem gSub_ok {o i : Expr} {fo fi : EX} (ho : PE X o (tE G X.K E fo)) (hi : PE X i (tE G X.K E fi))
    (ha : ∀ v, assign (.Subscript o i pos) X.env v = (do
      let ov ← holding [v] (eval o X.env)
      let iv ← holding [v, ov] (eval i X.env)
      standAt pos
      holding [v, ov, iv] (setItem ov iv v)
      release [v, ov, iv] []) := by intro _; rfl) : PG X (.Subscript o i pos) (tG G X.K E (Py.gSub fo fi)) := by
  refine PG_mono (pg_sub ho hi set_list ha) ?_
  rintro v σ H Q ⟨m, r, h, d, rh, rs, rd, o⟩
  refine ⟨m, r, h, rh, rs, ?_⟩
  rcases OutS.toR o with ⟨x, h1, e, o⟩ | ⟨c, fs, h1, e, o⟩
  · rw [e]
    intro m1 H1 xv p1 d1
    refine ⟨m1, r, h1, p1.rel, p1.s rs, ?_⟩
    rcases OutS.toR o with ⟨y, h2, e, o⟩ | ⟨c, fs, h2, e, o⟩
    · rw [e]
      intro m2 H2 yv p2 d2
      have pp := p1.trans p2
      have o := OutS.later pp o
      have d1 := p2.d d1
      cases d1 with
      | @ref n hn =>
        cases d2 with
        | int k =>
          cases z : h2[n]? with
          | none => simp only [z] at o; exact o.elim
          | some ob =>
            cases ob with
            | ins c fs => simp only [z] at o; exact o.elim
            | dct kv => simp only [z] at o; exact o.elim
            | hid _ => simp only [z] at o; exact o.elim
            | lst xs =>
              simp only [z] at o
              cases w : ixN xs.length k with
              | none => simp only [w] at o; exact o.elim
              | some j =>
                simp only [w] at o
                obtain ⟨vs, e1, rv⟩ := lst_at p2.rel z
                refine ⟨m2 n, vs, k, j, rfl, rfl, e1, by rw [ixN_len rv]; exact w, ?_⟩
                have tk : TK X.K H2 (upd H2 (m2 n) (.lst (vs.set j v))) := TK.upd_mut e1 (fun _ z => nomatch z) (fun _ _ z => nomatch z)
                have p := p2.rel.upd (u := .lst (vs.set j v)) (o := .lst (xs.set j d)) z e1 (fun _ z => nomatch z) (fun _ _ z => nomatch z) ⟨_, upd_same, (RelDs.set (pp.d rd) j rv).mono (fun _ _ => rfl) (Nat.le_refl _) tk⟩
                exact o m2 _ σ p (p.s (pp.s rs))
        | _ => exact o.elim
      | _ => exact o.elim
    · rw [e]; exact OutX.later p1 o
  · rw [e]; exact o
theorem ng_name {i : Nat} : NG (gN i) := fun _ _ _ => trivial
theorem ng_to {α : Type} {r : R α} {f : α → LH → F} (hf : ∀ a h, match f a h with | .rt _ _ => False | .bk _ _ => False | .ct _ _ => False | _ => True) : match r.to f with | .rt _ _ => False | .bk _ _ => False | .ct _ _ => False | _ => True := by
  cases r with
  | ok a h => exact hf a h
  | exc c fs h => trivial
  | stuck => trivial
theorem ng_sub {fo fi : EX} : NG (Py.gSub fo fi) := by
  intro d r h
  unfold Py.gSub
  refine ng_to fun x h1 => ng_to fun y h2 => ?_
  cases x <;> try trivial
  cases y <;> try trivial
  rename_i n k
  cases z : h2[n]? with
  | none => simp only [z]
  | some ob =>
    cases ob with
    | ins c fs => simp only [z]
    | dct kv => simp only [z]
    | hid _ => simp only [z]
    | lst xs =>
      cases w : ixN xs.length k with
      | none => simp only [z, w]
      | some j => simp only [z, w]
def NGs (g : GXs) : Prop := ∀ d r h, match g d r h with | .rt _ _ => False | .bk _ _ => False | .ct _ _ => False | _ => True
theorem ngs_nil : NGs gsNil := by
  intro d r h
  cases d <;> trivial
theorem ngs_cons {g : GX} {gs : GXs} (a : NG g) (b : NGs gs) : NGs (gsCons g gs) := by
  intro d r h
  cases d with
  | nil => trivial
  | cons x xs =>
    have q := a x r h
    simp only [gsCons]
    cases z : g x r h with
    | nx r1 h1 => exact b xs r1 h1
    | rt d h1 => rw [z] at q; exact q
    | bk r1 h1 => rw [z] at q; exact q
    | ct r1 h1 => rw [z] at q; exact q
    | exc c fs h1 => trivial
    | stuck => trivial
theorem ng_tup {n : Nat} {gs : GXs} (b : NGs gs) : NG (gT n gs) := by
  intro d r h
  cases d <;> try trivial
  rename_i xs
  simp only [gT]
  by_cases hl : xs.length = n
  · rw [if_pos hl]; exact b xs r h
  · rw [if_neg hl]; trivial
end
end Py

set_option Elab.async false
set_option linter.all false
set_option maxRecDepth 100000
namespace Py
open PySem PySem.Spec PyProof.Rows L2
section
variable {X : Cx} {G : Gam} {E : XK} {a b c e o : Expr} {es : List Expr} {fa fb fc fo : EX} {fas : AX} {pos p2 apos cpos : Pos}
/-! ### data as a whole -/
theorem mapO_all {n : Nat} {m : Nat → Addr} {h : LH} {H : Hp} (ih : ∀ (d : D) (v : V) (x : PyData), RelD X.K m h.length H d v → deep h n d = some x → Dp X.K H v x) : ∀ {xs : List D} {vs : List V} {ys : List PyData}, RelDs X.K m h.length H xs vs → mapO (deep h n) xs = some ys → DpAll X.K H vs ys
  | _, _, _, .nil, e => by cases e; exact .nil
  | _, _, ys, .cons (d := d) (ds := ds) a r, e => by
    simp only [mapO] at e
    cases q1 : deep h n d with
    | none => simp only [q1] at e; cases e
    | some x =>
      cases q2 : mapO (deep h n) ds with
      | none => simp only [q1, q2] at e; cases e
      | some zs =>
        simp only [q1, q2] at e
        cases e
        exact .cons (ih _ _ _ a q1) (mapO_all ih r q2)
theorem dp_ints {H : Hp} : ∀ ns : List Int, DpAll X.K H (ns.map V.int) (ns.map .int)
  | [] => .nil
  | _ :: r => .cons (.int _) (dp_ints r)
theorem deep_ok {m : Nat → Addr} {h : LH} {H : Hp} (rh : RelH G X.K m h H) : ∀ (n : Nat) (d : D) (v : V) (x : PyData), RelD X.K m h.length H d v → deep h n d = some x → Dp X.K H v x
  | n, _, _, x, .non, e => by cases n <;> (cases e; exact .non)
  | n, _, _, x, .bl b, e => by cases n <;> (cases e; exact .bl b)
  | n, _, _, x, .int i, e => by cases n <;> (cases e; exact .int i)
  | n, _, _, x, .str y, e => by cases n <;> (cases e; exact .str y)
  | n, _, _, x, .scr hs, e => by cases n <;> (cases e; exact .lst hs.sq (dp_ints _))
  | n, _, _, x, .fn _, e => by cases n <;> cases e
  | 0, _, _, x, .tup _ _, e => by cases e
  | 0, _, _, x, .ref _, e => by cases e
  | n + 1, .tup xs, _, x, .tup ht rs, e => by
    simp only [deep] at e
    cases q : mapO (deep h n) xs with
    | none => simp only [q] at e; cases e
    | some ys =>
      simp only [q] at e
      cases e
      exact .tup ht.sq (mapO_all (deep_ok rh n) rs q)
  | n + 1, .ref k, _, x, .ref hk, e => by
    simp only [deep] at e
    cases z : h[k]? with
    | none => simp only [z] at e; cases e
    | some ob =>
      cases ob with
      | ins c fs => simp only [z] at e; cases e
      | dct kv => simp only [z] at e; cases e
      | hid _ => simp only [z] at e; cases e
      | lst xs =>
        simp only [z] at e
        cases q : mapO (deep h n) xs with
        | none => simp only [q] at e; cases e
        | some ys =>
          simp only [q] at e
          cases e
          obtain ⟨vs, e1, rv⟩ := lst_at rh z
          exact .lst (SqL.of e1) (mapO_all (deep_ok rh n) rv q)
theorem eq_okD (hu : X.A.units + 64 < cLine) : OpR X (compareOp .Eq) (r2 G X.K E (oEqD false)) := by
  intro pins s σ H x y v u Q I rx ry ⟨m, h, dx, dy, rh, d1, d2, o⟩
  simp only [oEqD] at o
  cases q1 : deep h 60 dx with
  | none => simp only [q1] at o; exact o.elim
  | some p =>
    cases q2 : deep h 60 dy with
    | none => simp only [q1, q2] at o; exact o.elim
    | some q =>
      simp only [q1, q2] at o
      by_cases hs : (SeqAt.shaped p && SeqAt.shaped q) = true
      · rw [if_pos hs] at o
        rw [Bool.and_eq_true] at hs
        exact op_eqD hu pins s σ H x y v u Q I rx ry ⟨p, q, deep_ok rh _ _ _ _ d1 q1, deep_ok rh _ _ _ _ d2 q2, hs.1, hs.2, o m H _ (Post.refl rh) (.bl _)⟩
      · rw [if_neg hs] at o; exact o.elim
theorem ne_okD (hu : X.A.units + 64 < cLine) : OpR X (compareOp .NotEq) (r2 G X.K E (oEqD true)) := by
  intro pins s σ H x y v u Q I rx ry ⟨m, h, dx, dy, rh, d1, d2, o⟩
  simp only [oEqD] at o
  cases q1 : deep h 60 dx with
  | none => simp only [q1] at o; exact o.elim
  | some p =>
    cases q2 : deep h 60 dy with
    | none => simp only [q1, q2] at o; exact o.elim
    | some q =>
      simp only [q1, q2] at o
      by_cases hs : (SeqAt.shaped p && SeqAt.shaped q) = true
      · rw [if_pos hs] at o
        rw [Bool.and_eq_true] at hs
        exact op_neD hu pins s σ H x y v u Q I rx ry ⟨p, q, deep_ok rh _ _ _ _ d1 q1, deep_ok rh _ _ _ _ d2 q2, hs.1, hs.2, o m H _ (Post.refl rh) (.bl _)⟩
      · rw [if_neg hs] at o; exact o.elim
theorem eq_ok (hu : X.A.units + 64 < cLine) : OpR X (compareOp .Eq) (r2 G X.K E (oEq false)) := by
  intro pins s σ H x y v u Q I rx ry ⟨m, h, dx, dy, rh, d1, d2, o⟩
  have gen : oEq false dx dy h = oEqD false dx dy h → wpAny (model X.prog X.w) X.A (compareOp .Eq v u) (EP X pins σ Q) X.xe s := fun e => eq_okD hu pins s σ H x y v u Q I rx ry ⟨m, h, dx, dy, rh, d1, d2, e ▸ o⟩
  cases d1 with
  | int i =>
    cases d2 with
    | int j =>
      refine op_eq pins s σ H _ _ v u Q I rx ry ⟨rfl, ?_⟩
      have e : decide (V.int i = V.int j) = decide (i = j) := decide_eq_decide.mpr ⟨fun q => V.int.inj q, fun q => by rw [q]⟩
      rw [e]
      exact o m H _ (Post.refl rh) (.bl _)
    | _ => exact gen rfl
  | str i =>
    cases d2 with
    | str j =>
      refine op_eq pins s σ H _ _ v u Q I rx ry ⟨rfl, ?_⟩
      have e : decide (V.str i = V.str j) = decide (i = j) := decide_eq_decide.mpr ⟨fun q => V.str.inj q, fun q => by rw [q]⟩
      rw [e]
      exact o m H _ (Post.refl rh) (.bl _)
    | _ => exact gen rfl
  | _ => exact gen rfl
theorem ne_ok (hu : X.A.units + 64 < cLine) : OpR X (compareOp .NotEq) (r2 G X.K E (oEq true)) := by
  intro pins s σ H x y v u Q I rx ry ⟨m, h, dx, dy, rh, d1, d2, o⟩
  have gen : oEq true dx dy h = oEqD true dx dy h → wpAny (model X.prog X.w) X.A (compareOp .NotEq v u) (EP X pins σ Q) X.xe s := fun e => ne_okD hu pins s σ H x y v u Q I rx ry ⟨m, h, dx, dy, rh, d1, d2, e ▸ o⟩
  cases d1 with
  | int i =>
    cases d2 with
    | int j =>
      refine op_ne pins s σ H _ _ v u Q I rx ry ⟨rfl, ?_⟩
      have e : decide (V.int i = V.int j) = decide (i = j) := decide_eq_decide.mpr ⟨fun q => V.int.inj q, fun q => by rw [q]⟩
      rw [e]
      exact o m H _ (Post.refl rh) (.bl _)
    | _ => exact gen rfl
  | str i =>
    cases d2 with
    | str j =>
      refine op_ne pins s σ H _ _ v u Q I rx ry ⟨rfl, ?_⟩
      have e : decide (V.str i = V.str j) = decide (i = j) := decide_eq_decide.mpr ⟨fun q => V.str.inj q, fun q => by rw [q]⟩
      rw [e]
      exact o m H _ (Post.refl rh) (.bl _)
    | _ => exact gen rfl
  | _ => exact gen rfl
theorem isB_eqD (neg : Bool) : IsB2 (oEqD neg) := by
  intro x y h d h' e
  simp only [oEqD] at e
  split at e
  · split at e
    · cases e; exact ⟨_, rfl⟩
    · cases e
  · cases e
theorem isB_eq (neg : Bool) : IsB2 (oEq neg) := by
  intro x y h d h' e
  unfold oEq at e
  split at e
  · cases e; exact ⟨_, rfl⟩
  · cases e; exact ⟨_, rfl⟩
  · exact isB_eqD neg _ _ _ _ _ e
/-! ### repr -/
theorem repr_run {pins : List (Addr × Obj)} {s : Shared} {σ : L2.St} {H : Hp} {v : V} {u : Value} {x : PyData} {Q : VK} (hg : X.A.guards = some []) (hu : X.A.units + 70 < cLine) (I : L2.Inv X pins σ H s) (r : RelV v u) (hd : Dp X.K H v x) (hx : isDisplay x = true) (hs : showOk x = true) (q : Q (.str x.shown) H) :
    wpAny (model X.prog X.w) X.A (call (.builtin "repr") [u]) (EP X pins σ Q) X.xe s := by
  obtain ⟨as, rd⟩ := Dp.reads I x v u hd r
  obtain ⟨p, rfl⟩ := isRef_of_reads rd hx
  simp only [showOk, Bool.and_eq_true, decide_eq_true_eq] at hs
  obtain ⟨⟨⟨h1, h2⟩, h3⟩, h4⟩ := hs
  have h2 : x.hasDict = false := by simpa using h2
  refine repr_of_reads' rd h1 (PyData.noDict_hsm h2) hg (by omega) (fun _ _ e => e) (fun h' t tk hk => ?_) h4
  exact ⟨.str x.shown, H, I.kept (t' := tk) hk, ⟨t, rfl⟩, q⟩
theorem disp_of {m : Nat → Addr} {h : LH} {n : Nat} {d : D} {x : PyData} (hd : (∃ k, d = .ref k) ∨ ∃ xs, d = .tup xs) (e : deep h n d = some x) : isDisplay x = true := by
  rcases hd with ⟨k, rfl⟩ | ⟨xs, rfl⟩
  · cases n with
    | zero => cases e
    | succ n =>
      simp only [deep] at e
      cases z : h[k]? with
      | none => simp only [z] at e; cases e
      | some ob =>
        cases ob with
        | ins c fs => simp only [z] at e; cases e
        | dct kv => simp only [z] at e; cases e
        | hid _ => simp only [z] at e; cases e
        | lst xs =>
          simp only [z] at e
          cases q : mapO (deep h n) xs with
          | none => simp only [q] at e; cases e
          | some ys => simp only [q] at e; cases e; rfl
  · cases n with
    | zero => cases e
    | succ n =>
      simp only [deep] at e
      cases q : mapO (deep h n) xs with
      | none => simp only [q] at e; cases e
      | some ys => simp only [q] at e; cases e; rfl
theorem repr_okB (hg : X.A.guards = some []) (hu : X.A.units + 70 < cLine) : CallR X (.builtin "repr") (rA G X.K E bRepr) := by
  intro pins s σ H xs us Q I r ⟨m, h, ds, rh, rd, o⟩
  cases rd with
  | nil => exact o.elim
  | @cons d v ds vs a b =>
    cases b with
    | cons _ _ => simp only [bRepr] at o; exact o.elim
    | nil =>
      have key : (∃ k, d = .ref k) ∨ (∃ xs, d = .tup xs) → wpAny (model X.prog X.w) X.A (call (.builtin "repr") us) (EP X pins σ Q) X.xe s := by
        intro hd
        have e : bRepr [d] h = (match deep h 60 d with
          | some a => if showOk a = true then .ok (.str a.shown) h else .stuck
          | none => .stuck) := by
          rcases hd with ⟨k, rfl⟩ | ⟨xs, rfl⟩ <;> rfl
        rw [e] at o
        cases q : deep h 60 d with
        | none => simp only [q] at o; exact o.elim
        | some x =>
          simp only [q] at o
          by_cases hs : showOk x = true
          · rw [if_pos hs] at o
            obtain ⟨u, rfl, ru⟩ := Vals.one r
            exact repr_run hg hu I ru (deep_ok rh _ _ _ _ a q) (disp_of (m := m) hd q) hs (o m H _ (Post.refl rh) (.str _))
          · rw [if_neg hs] at o; exact o.elim
      cases a with
      | non => exact o.elim
      | bl _ => exact o.elim
      | int _ => exact o.elim
      | str _ => exact o.elim
      | scr _ => exact o.elim
      | fn _ => exact o.elim
      | @ref n hn => exact key (.inl ⟨n, rfl⟩)
      | @tup p xs vs _ _ => exact key (.inr ⟨xs, rfl⟩)
/-! ### is None, chains -/
theorem isB_isN (neg : Bool) : IsB (e1 (oIsN neg) fa) := by
  intro r h d h' e
  unfold e1 at e
  cases q : fa r h with
  | ok x h1 =>
    rw [q, R.bind_ok] at e
    cases x <;> (simp only [oIsN] at e; cases e; exact ⟨_, rfl⟩)
  | exc c fs h1 => rw [q] at e; cases e
  | stuck => rw [q] at e; cases e
theorem yIsN {j pos'} (ha : PE X a (tE G X.K E fa)) : PT X (.Compare a [.Is] [.Constant .none j pos'] pos) (tT G X.K E (e1 (oIsN false) fa)) := by
  refine PT_mono (pt_cmp (pc_isN ha)) ?_
  intro σ H Q t
  obtain ⟨m, r, h, rh, rs, o⟩ := toTest (isB_isN false) t
  refine ⟨m, r, h, rh, rs, ?_⟩
  rcases Out.bindR o with ⟨x, h1, e, o⟩ | ⟨c, fs, h1, e, o⟩
  · rw [e]
    intro m1 H1 v p1 d1
    cases d1 <;> exact o m1 H1 _ p1 (.bl _)
  · rw [e]; exact o
end
end Py

set_option Elab.async false
set_option linter.all false
set_option maxRecDepth 100000
namespace Py
open PySem PySem.Spec PyProof.Rows L2
section
variable {X : Cx} {G : Gam} {E : XK} {CX : CXT} {a b c e o : Expr} {es : List Expr} {fa fb fc fo : EX} {fas : AX} {pos p2 apos cpos : Pos}
/-! ### f-strings -/
end
end Py

set_option Elab.async false
set_option linter.all false
set_option maxRecDepth 100000
namespace Py
open PySem PySem.Spec PyProof.Rows L2
section
variable {X : Cx} {G : Gam} {E : XK} {CX : CXT} {a b c e o : Expr} {es : List Expr} {fa fb fc fo : EX} {fas : AX} {pos p2 apos cpos : Pos}
/-! ### f-strings -/
inductive PJE (X : Cx) (G : Gam) (E : XK) : List Expr → List EX → Prop where
  | nil : PJE X G E [] []
  | cons {e : Expr} {f : EX} {es : List Expr} {fs : List EX} (h : PE X e (tE G X.K E f)) (r : PJE X G E es fs) : PJE X G E (e :: es) (f :: fs)
/-! ### isinstance -/
def Kd.nm : Kd → String
  | .non => "NoneType"
  | .bool => "bool"
  | .int => "int"
  | .str => "str"
  | .tuple => "tuple"
  | .list => "list"
  | .dict => "dict"
theorem ty_ok {m : Nat → Addr} {h : LH} {H : Hp} {d : D} {v : V} {k : Kd} (rh : RelH G X.K m h H) (rd : RelD X.K m h.length H d v) (e : kindD d h = some k) : TyX X.K H v (.type k.nm) := by
  cases rd with
  | non => cases e; exact .base .non
  | bl b => cases e; exact .base (.bl b)
  | int i => cases e; exact .base (.int i)
  | str x => cases e; exact .base (.str x)
  | tup ht _ =>
    cases e
    rcases ht.sq with (h | ⟨u, h⟩) | ⟨o, its, n, h1, h2, _⟩
    · exact .base (.tup h)
    · exact .fTuple h
    · exact .kTuple h1 h2
  | fn _ => cases e
  | scr hs =>
    cases e
    rcases hs with ⟨u, h⟩ | ⟨o, its, n, h1, h2, _⟩
    · exact .base (.frz h)
    · exact .kList h1 h2
  | @ref n hn =>
    cases z : h[n]? with
    | none => simp only [kindD, z] at e; cases e
    | some ob =>
      cases ob with
      | ins c fs => simp only [kindD, z] at e; cases e
      | hid _ => simp only [kindD, z] at e; cases e
      | dct kv =>
        simp only [kindD, z] at e
        cases e
        obtain ⟨vs, e1, _⟩ := rh.obj n _ z
        exact .base (.dK e1)
      | lst xs =>
        simp only [kindD, z] at e
        cases e
        obtain ⟨vs, e1, rv⟩ := lst_at rh z
        exact .base (.lst e1)
theorem kit_ok (K : PySem.W.Frag) (k t : Kd) (ht : t ≠ .non) : PySem.W.kitOne K (.type k.nm) (.type t.nm) = some (k.is t) := by
  cases t <;> first | exact absurd rfl ht | skip
  all_goals (cases k <;> exact kit_ty (by decide +kernel))
theorem xIsi1 {p p' : Pos} {tn : Str} (k : Kd) (hk : k ≠ .non) (hg : Gl X "isinstance") (hm : X.mg "isinstance" = none) (hgt : Gl X tn) (hmt : X.mg tn = none) (hvt : bootBuiltins tn = some (.type k.nm)) (ha : PE X a (tE G X.K E fa)) (hn : tn ≠ "__name__" := by decide) (hdb : (tn == ("__debug__" : Str)) = false := by decide)
    (s1 : starEach [a, .Name tn p'] X.env = (false, eval a X.env) :: starEach [.Name tn p'] X.env := by rfl) (s2 : starEach [.Name tn p'] X.env = (false, eval (.Name tn p') X.env) :: starEach [] X.env := by rfl) (hpl : (backTo pos (starEach [.Name tn p'] X.env)).any (·.1) = false := by rfl) :
    PE X (.Call (.Name "isinstance" p) [a, .Name tn p'] [] pos) (tE G X.K E (eIsi [k] fa)) := by
  refine PE_mono (pe_callB call_isi hg hm (by decide +kernel) (pa_cons ha (pa_cons (pe_bltn (v := .ty k.nm) hgt hmt hvt rfl hn hdb) pa_nil s2) s1) (by decide) (by decide) s1 hpl) ?_
  rintro σ H Q ⟨m, r, h, rh, rs, o⟩
  refine ⟨m, r, h, rh, rs, ?_⟩
  rcases Out.bindR o with ⟨d, h1, e, o⟩ | ⟨c, fs, h1, e, o⟩
  · rw [e]
    intro m1 H1 v p1 d1
    cases z : kindD d h1 with
    | none => simp only [z] at o; exact o.elim
    | some kd =>
      simp only [z] at o
      have e1 := kit_ok X.K kd k hk
      refine ⟨v, .ty k.nm, _, _, _, rfl, .ty _, ty_ok p1.rel d1 z, e1, ?_⟩
      have q := o m1 H1 _ p1 (.bl _)
      simpa using q
  · rw [e]; exact o
/-! ### list(range(n)) -/
end
end Py

set_option Elab.async false
set_option linter.all false
set_option maxRecDepth 100000
namespace Py
open PySem PySem.Spec PyProof.Rows L2
/-! ### sorted of a tuple of ints -/
section
variable {prog : Program} {w : World} {A : Around} {E : Value → Shared → Prop} {s : Shared}
end
/-! sorting, as a function -/
section
variable {X : Cx} {G : Gam} {E : XK}
end
end Py

set_option Elab.async false
set_option linter.all false
set_option maxRecDepth 100000
namespace Py
open PySem PySem.Spec PyProof.Rows L2
/-! ### enumerate over a list or a tuple, from k on -/
set_option maxHeartbeats 1000000 in
theorem meets_enum1 {v : Value} {o : Obj} {H : Heap → Prop} (B : Begins v o H) :
    Meets (Builtin.«enumerate.__new__» ⟨[.type "enumerate", v], []⟩) (fun _ R s => H s.heap ∧
      R (.ok (.ret (.ref (s.heap.push o).objs.size))) { s with heap := (s.heap.push o).push { cls := .type "enumerate", data := .fields #[.none, .bool false, .ref s.heap.objs.size, rawInt 0, .none, .none] } }) :=
  .of_wp fun prog w A R s h => by
    obtain ⟨hp, g, d, tk, os⟩ := s
    obtain ⟨h1, h⟩ := h
    have sub1 := sub_enumerate
    have q1 : ∀ {A' : Around} {E : Value → Shared → Prop} {Q : Value → Shared → Prop}, Q (.ref hp.objs.size) ⟨hp.push o, g, d, tk, os⟩ → wpAny (model prog w) A' (pyIter v) Q E ⟨hp, g, d, tk, os⟩ := by
      intro A' E Q q
      exact B.iter prog w _ _ ⟨hp, g, d, tk, os⟩ _ h1 q
    wp_walk using q1
    refine wpAny_stack_any ?_
    intro st
    refine wpAny_pure ?_
    split
    · rename_i c _ _ _ _ _
      cases (c == Value.type "enumerate")
      · wp_walk using q1
        exact ⟨_, rfl, h⟩
      · wp_walk using q1
        exact ⟨_, rfl, h⟩
    · wp_walk using q1
      exact ⟨_, rfl, h⟩
section
variable {prog : Program} {w : World} {A : Around} {E : Value → Shared → Prop} {s : Shared}
end
/-- what S tells as it stands at each turn, each item in a new pair -/
def IteS (S : Hp → List V → Prop) (k0 : Int) : It :=
  ⟨fun i H => ∃ xs x, S H xs ∧ xs[i]? = some x, fun i H v H' => ∃ T x, v = .ref T ∧ H T = none ∧ H' = upd H T (.tup [.int (k0 + (i : Nat)), x]) ∧ ∀ xs, S H xs → xs[i]? = some x, fun i H => ∃ xs, S H xs ∧ xs.length ≤ i⟩
end Py

set_option Elab.async false
set_option linter.all false
set_option maxRecDepth 100000
namespace Py
open PySem PySem.Spec PyProof.Rows L2
section
variable {X : Cx} {G : Gam} {E : XK} {a : Expr} {fa : EX} {pos p : Pos} {elts : List Expr} {kk : Nat} {tpos : Pos}
end
end Py

set_option Elab.async false
set_option linter.all false
set_option maxRecDepth 100000
namespace Py
open PySem PySem.Spec PyProof.Rows L2
/-- the law's promise: True at every script of at most n ints -/
def spLaw (n : Nat) (K : PySem.W.Frag) (T : List (Addr × Str)) : Sp := fun vs H Q _ => LamX.Tabs T H ∧ ∃ (a : Addr) (ns : List Int), vs = [.ref a] ∧ SqF K H a (ns.map V.int) ∧ ns.length ≤ n ∧ ∀ H', Q (.bl true) H'
theorem law_of {n : Nat} {P : Program} {w : World} {K : PySem.W.Frag} {mg : Str → Option Value} {base : Heap} {k : Nat} {f : Addr} {fd : FuncData} {ps : List Str} {G : Gam} {cf : CF} (F : FnG P w K mg base CX0 k f fd ps (spF G K cf)) (hT : ∀ ns : List Int, ns.length ≤ n → ∃ h', cf [.scr ns] [] = .ok (.bl true) h') :
    FnG P w K mg base CX0 k f fd ps (spLaw n K G.tabs) := by
  have imp : ∀ vs H Q E, spLaw n K G.tabs vs H Q E → spF G K cf vs H Q E := by
    rintro vs H Q E ⟨tab, a, ns, rfl, hs, hl, q⟩
    obtain ⟨h', e⟩ := hT ns hl
    refine ⟨fun _ => 0, [], [.scr ns], ⟨fun k o z => by simp at z, fun i j hi => absurd hi (by simp), tab⟩, .cons (.scr hs) .nil, ?_⟩
    rw [e]
    intro m' H' v p d
    cases d
    exact q H'
  exact ⟨fun vs H Q E h => F.len vs H Q E (imp _ _ _ _ h), fun A outer s H args us vs Q E g r e b v h => F.run A outer s H args us vs Q E g r e b v (imp _ _ _ _ h)⟩
end Py

set_option Elab.async false
set_option linter.all false
set_option maxRecDepth 100000
namespace Py
open PySem PySem.Spec PyProof.Rows L2
section
variable {X : Cx} {G : Gam} {E : XK} {a b : Expr} {fa fb : EX} {pos : Pos} {rest : List Expr}
/-! ### bools alone -/
theorem yB (ha : PE X a (tE G X.K E fa)) (hs : ∀ whole, isTrue a X.env whole = (do let v ← whole; standAt a.pos; holding [v] (truthy v)) := by intro _; rfl) : PT X a (tT G X.K E (eB fa)) := by
  refine PT_mono (pt_val ha hs) ?_
  rintro σ H Q ⟨m, r, h, rh, rs, o⟩
  refine ⟨m, r, h, rh, rs, ?_⟩
  rcases OutT.bindR o with ⟨x, h1, e, o⟩ | ⟨c, fs, h1, e, o⟩
  · rw [e]
    intro m1 H1 v p d
    cases d with
    | bl k =>
      obtain ⟨b, e, o⟩ := o
      cases e
      exact ⟨_, rfl, o m1 H1 p⟩
    | _ => exact o.elim
  · rw [e]; exact o
theorem xAndB (ha : PE X a (tE G X.K E fa)) (hb : PE X (.BoolOp .And (b :: rest) pos) (tE G X.K E fb)) : PE X (.BoolOp .And (a :: b :: rest) pos) (tE G X.K E (eAndB fa fb)) := by
  refine PE_mono (pe_and ha hb) ?_
  rintro σ H Q ⟨m, r, h, rh, rs, o⟩
  refine ⟨m, r, h, rh, rs, ?_⟩
  rcases Out.bindR o with ⟨x, h1, e, o⟩ | ⟨c, fs, h1, e, o⟩
  · rw [e]
    intro m1 H1 v p d
    cases d with
    | bl k =>
      refine ⟨k, rfl, ?_⟩
      cases k with
      | true => exact iteT ⟨m1, r, h1, p.rel, p.s rs, Out.later p o⟩
      | false => exact iteF (o m1 H1 _ p (.bl false))
    | _ => exact o.elim
  · rw [e]; exact o
theorem xNotB (ha : PE X a (tE G X.K E fa)) : PE X (.UnaryOp .Not a pos) (tE G X.K E (eNotB fa)) := by
  refine PE_mono (pe_not ha) ?_
  rintro σ H Q ⟨m, r, h, rh, rs, o⟩
  refine ⟨m, r, h, rh, rs, ?_⟩
  rcases Out.bindR o with ⟨x, h1, e, o⟩ | ⟨c, fs, h1, e, o⟩
  · rw [e]
    intro m1 H1 v p d
    cases d with
    | bl k => exact ⟨k, rfl, o m1 H1 _ p (.bl _)⟩
    | _ => exact o.elim
  · rw [e]; exact o
theorem xNeg (ha : PE X a (tE G X.K E fa)) : PE X (.UnaryOp .USub a pos) (tE G X.K E (e1 oNeg fa)) := by
  refine PE_mono (pe_un un_neg ha) ?_
  rintro σ H Q ⟨m, r, h, rh, rs, o⟩
  refine ⟨m, r, h, rh, rs, ?_⟩
  rcases Out.bindR o with ⟨x, h1, e, o⟩ | ⟨c, fs, h1, e, o⟩
  · rw [e]
    intro m1 H1 v p d
    cases d with
    | int i => exact ⟨i, rfl, o m1 H1 _ p (.int _)⟩
    | _ => exact o.elim
  · rw [e]; exact o
/-! ### tests of a comprehension -/
theorem ptsNil : PTs X [] (tT G X.K E (eC (.bl true))) := by
  refine ⟨fun pins s σ H Q I t => ?_⟩
  obtain ⟨m, r, h, rh, rs, b, e, o⟩ := t
  cases e
  exact pts_nil.run pins s σ H Q I (o m H (Post.refl rh))
/-- name = [..] on one line -/
theorem zSetLc {i : Nat} {y : Str} {py spos : Pos} {elt tg iter : Expr} {ifs : List Expr} {scope : Scope} {own : List (Str × Nat)} {gg : TG} {ft fe : EX} {fi : IX} {vs : List Nat} (hc : X.calm = true) (hN : X.N.Nodup) (hy : X.N[i]? = some y) (hyl : X.env.scope.names.lookup y = some .local)
    (hsw : swapsWith (.ListComp elt [⟨tg, iter, ifs, 0⟩] scope pos) (some (.Name y py)) spos.line X.env = pure true) (hi : PI X tg iter (tI G X.K E fi)) (ok : BlkOk X.N X.env.scope scope own) (hv : own.map (·.2) = vs) (hgg : TgOk X vs gg)
    (hg : ∀ (s : Shared) (H : Hp) (C : Addr) (cl : List (Str × Addr)) (fp : List Addr), PG (X.blk s H scope (compEnvC scope cl C X.env) fp) tg gg)
    (ht : ∀ (s : Shared) (H : Hp) (C : Addr) (cl : List (Str × Addr)) (fp : List Addr), PTs (X.blk s H scope (compEnvC scope cl C X.env) fp) ifs (tT G X.K E0 ft))
    (he : ∀ (s : Shared) (H : Hp) (C : Addr) (cl : List (Str × Addr)) (fp : List Addr), PE (X.blk s H scope (compEnvC scope cl C X.env) fp) elt (tE G X.K E0 fe))
    (hs : ∀ x, foldedSetIterable iter X.env x = pure x := by intro _; rfl) : PS X (.Assign [.Name y py] (.ListComp elt [⟨tg, iter, ifs, 0⟩] scope pos) spos) (tS G X.K E (sAsg (eComp vs fi ft fe) (gN i))) := by
  subst hv
  refine PS_mono (ps_setLc hc hN hy hyl hsw hi ok hg ht he hs) ?_
  rintro Z σ H ⟨m, r, h, rh, rs, o⟩
  refine toComp hgg ⟨m, r, h, rh, rs, ?_⟩
  rcases OutS.toR o with ⟨d, h1, e, o⟩ | ⟨c, fs, h1, e, o⟩
  · rw [e]
    intro m1 H1 v p1 d1
    exact o m1 H1 _ p1 (RelS.set d1 i (p1.s rs))
  · rw [e]; exact o
end
/-! ### binding -/
section
variable {K : PySem.W.Frag} {x qual : Str} {params : Arguments} {body : List Stmt} {scope : Scope} {dvs : List V} {kws : List (Str × V)} {f : Addr} {fd : FuncData} {ps : List Str}
/-- every parameter is written, none by name -/
theorem bnd_plain {n : Nat} (F : FunD K x qual params body scope [] kws f fd) (hn : ps.length = n)
    (h : ∀ (kV doc pm : Value) (an : Option Addr) (cdv ct : Value) (us : List Value), us.length = ps.length → bindArgs (PySem.W.fnOf x qual params body scope .none kV doc pm an cdv ct) ⟨us, []⟩ = pure (ps.zip us)) : Bnd K fd ps n [] bd0 := by
  intro s us ws vs zs kin r1 r2 h1 h2
  have hw : ws = [] := List.eq_nil_of_length_eq_zero h2
  subst hw
  exact ⟨us, vs, r1, F.bindsA h s us (h1.trans hn.symm), fun m N H xs es q1 q2 => q1⟩
/-- by name, no defaults: g arranges them -/
theorem bnd_kw {n : Nat} {ks : List Str} (g : {α : Type} → List α → List α → List α) (F : FunD K x qual params body scope [] kws f fd)
    (hV : ∀ {vs zs : List V} {us ws : List Value}, Vals vs us → Vals zs ws → us.length = n → ws.length = ks.length → Vals (g vs zs) (g us ws))
    (hD : ∀ {m : Nat → Addr} {N : Nat} {H : Hp} {vs zs : List V} {us ws : List D}, RelDs K m N H us vs → RelDs K m N H ws zs → us.length = n → ws.length = ks.length → RelDs K m N H (g us ws) (g vs zs))
    (h : ∀ (kV doc pm : Value) (an : Option Addr) (cdv ct : Value) (us ws : List Value), us.length = n → ws.length = ks.length → bindArgs (PySem.W.fnOf x qual params body scope .none kV doc pm an cdv ct) ⟨us, ks.zip ws⟩ = pure (ps.zip (g us ws))) : Bnd K fd ps n ks (fun a b => g a b) := by
  obtain ⟨oc, od, dV, kV, doc, pm, an, cdv, ct, osl, rfl, lk, hcd, hD0, hK⟩ := F.ex
  rcases hD0 with ⟨_, rfl⟩ | ⟨e, _⟩
  · intro s us ws vs zs kin r1 r2 h1 h2
    refine ⟨g us ws, g vs zs, hV r1 r2 h1 h2, .of_eq (h kV doc pm an cdv ct us ws h1 h2), ?_⟩
    intro m N H xs es q1 q2
    exact hD q1 q2 (by rw [q1.length, r1.length, h1]) (by rw [q2.length, r2.length, h2])
  · exact absurd rfl e
/-- a def by its body, from its facts -/
theorem fnG_D {G : Gam} {CX : CXT} {P : Program} {w : World} {mg : Str → Option Value} {base : Heap} {k : Nat} {N : List Str} {b : SX} {n kk : Nat} (F : FunD K x qual params body scope dvs kws f fd) (S : FnScope N ps scope) (hn : ps.length = n) (hk : N.length - ps.length = kk)
    (hbody : ∀ (cdv : Value) (A : Around) (outer : List Env) (s : Shared) (H : Hp) (E : XK), A.guards = some [] → Room k (A.deeper (envOfC qual scope s.heap.objs.size f cdv)) →
      PSs (cxOf CX P w K mg base N qual scope f cdv A outer s H E) body (tS G K E b)) : FnG P w K mg base CX (k + 1) f fd ps (spF G K (runF n kk b)) := by
  obtain ⟨oc, od, dV, kV, doc, pm, an, cdv, ct, osl, rfl, lk, hcd, _, _⟩ := F.ex
  exact fnG_of lk hcd S hn hk fun A outer s H E hg hr => hbody cdv A outer s H E hg hr
theorem hu64 {k : Nat} {A : Around} (r : Room k A) : A.units + 64 < cLine := r.units
theorem hu70 {k : Nat} {A : Around} (r : Room k A) : A.units + 70 < cLine := by have := r.un; omega
theorem passes0 {X : Cx} {E : XK} : Passes CX0 X E := fun _ _ _ _ _ _ _ h => h.elim
end
end Py

set_option Elab.async false
set_option linter.all false
set_option maxRecDepth 100000
/-! Own layer: repr of whole numbers. -/
namespace Py
open PySem PySem.Spec PyProof.Rows L2
section
variable {X : Cx} {G : Gam} {E : XK}
theorem rep_okB (hg : X.A.guards = some []) (hu : X.A.units + 70 < cLine) : CallR X (.builtin "repr") (rA G X.K E bRep) := by
  intro pins s σ H xs us Q I r ⟨m, h, ds, rh, rd, o⟩
  have gen : bRep ds h = bRepr ds h → wpAny (model X.prog X.w) X.A (call (.builtin "repr") us) (EP X pins σ Q) X.xe s := fun e => repr_okB hg hu pins s σ H xs us Q I r ⟨m, h, ds, rh, rd, e ▸ o⟩
  cases rd with
  | nil => exact gen rfl
  | @cons d v ds vs a b =>
    cases b with
    | cons _ _ => exact gen (by cases d <;> rfl)
    | nil =>
      cases a with
      | int i =>
        by_cases c : i.natAbs.log2 < 1920
        · refine SkE.call_repr_int pins s σ H _ us Q I r ⟨i, rfl, c, ?_⟩
          have e : bRep [.int i] h = .ok (.str (toString i)) h := if_pos c
          rw [e] at o
          exact o m H _ (Post.refl rh) (.str _)
        · have e : bRep [.int i] h = .stuck := if_neg c
          rw [e] at o; exact o.elim
      | _ => exact gen rfl
def isBv (b : Bool) : V → Bool
  | .bl c => c == b
  | _ => false
def tIsB (b : Bool) (ta : TE) : TE := fun σ H Q => ta σ H fun x H1 => ((∃ c, x = .bl c) ∨ x = .non ∨ (∃ i, x = .int i) ∨ (∃ i, x = .str i) ∨ ∃ i, x = .ref i) ∧ Q (.bl (isBv b x)) H1
variable {a : Expr} {fa : EX} {pos : Pos}
/-! ### list(range(a, b)) -/
end
section
variable {K : PySem.W.Frag} {x qual : Str} {params : Arguments} {body : List Stmt} {scope : Scope} {dvs : List V} {kws : List (Str × V)} {f : Addr} {fd : FuncData} {ps : List Str}
end
end Py

set_option Elab.async false
set_option linter.all false
set_option maxRecDepth 100000
/-! Own layer: isinstance of own classes, == by an own __eq__. -/
namespace Py
open PySem PySem.Spec PyProof.Rows L2
/-- what isinstance asks of an own class -/
structure ClsI (K : PySem.W.Frag) (C : Addr) : Prop where
  cl : Cls K C
  ha : PySem.W.findIn K (.ref C) "__class__" = some (some (.builtin "object.__class__"))
  hn : PySem.W.specialIn K (.builtin "object.__class__") "__get__" = some (some (.builtin "getset_descriptor.__get__"))
  htk : PySem.W.takesIn K (.builtin "object.__class__") = some true
  hm : PySem.W.mroIn K C (.type "object") = some true
section
variable {X : Cx} {G : Gam} {E : XK} {CX : CXT}
variable {a : Expr} {fa : EX} {pos : Pos}
def isTyV : Value → Bool
  | .type _ => true
  | _ => false
end
end Py

set_option Elab.async false
set_option linter.all false
set_option maxRecDepth 100000
/-! Own layer: != where __eq__ is own and __ne__ is object's. -/
namespace Py
open PySem PySem.Spec PyProof.Rows L2 PySem.W
open Builtin
section
variable {prog : Program} {w : World} {A : Around} {E : Value → Shared → Prop} {s : Shared} {K : Frag} {x C L f : Addr} {h₀ : Heap} {m : Str → Option Value} {ox : Obj} {od : Option Obj} {b tb : Value}
end
section
variable {X : Cx} {G : Gam} {E : XK} {CX : CXT}
end
end Py

set_option Elab.async false
set_option linter.all false
set_option maxRecDepth 100000
/-! Own layer: pop(i), extend, reverse of lists. -/
namespace Py
open PySem PySem.Spec PyProof.Rows L2
section
variable {X : Cx} {G : Gam} {E : XK} {o a : Expr} {fo : EX} {fas : AX} {apos cpos : Pos}
theorem RelDs.erase {K : PySem.W.Frag} {m : Nat → Addr} {N : Nat} {H : Hp} : ∀ {xs : List D} {vs : List V} (k : Nat), RelDs K m N H xs vs → RelDs K m N H (xs.eraseIdx k) (vs.eraseIdx k)
  | _, _, _, .nil => .nil
  | _, _, 0, .cons _ r => r
  | _, _, k + 1, .cons h r => .cons h (RelDs.erase k r)
theorem xExtend (ho : PE X o (tE G X.K E fo)) (ha : PA X [a] (tA G X.K E fas))
    (hbase : attributeBase o "extend" X.env (eval o X.env) = eval o X.env := by rfl)
    (hfew : ((backTo cpos (starEach [a] X.env)).all (fun x => !x.1) && (backToKw cpos (keywordEach [] X.env)).all (fun x => x.1.isSome)
      && decide ([a].length + ([] : List Keyword).length + (if ([] : List Keyword).isEmpty then 0 else 1) < 30)) = true := by rfl)
    (hline : (apos.endLine == cpos.line) = true := by rfl) (hs : starEach [a] X.env = (false, eval a X.env) :: starEach [] X.env := by rfl) (hplain : (backTo cpos (starEach [] X.env)).any (·.1) = false := by rfl) :
    PE X (.Call (.Attribute o "extend" apos) [a] [] cpos) (tE G X.K E (eBM mExtend fo fas)) := by
  refine PE_mono (pe_bm PySem.F.plainAttrs_list PySem.F.slot_list_extend PySem.F.type_list_extend mt_extend ho ha hbase hfew hline hs hplain) ?_
  intro σ H Q t
  refine toBM (fun m h H x v ds vs Q rh rd rds o => ?_) t
  cases rds with
  | nil => exact o.elim
  | @cons d w ds ws a1 b1 =>
    cases b1 with
    | cons _ _ => exact o.elim
    | nil =>
      simp only [mExtend] at o
      cases zl : lstD d h with
      | none => simp only [zl] at o; exact o.elim
      | some zs =>
        simp only [zl] at o
        obtain ⟨nb, vb, rfl, hnb, rfl, eb1, eb2, rvb⟩ := lstD_ok rh a1 zl
        obtain ⟨n, xs, us, d', ys, rfl, e1, rv, ef, q⟩ := onL_ok rh rd o
        by_cases hl : xs.length + zs.length ≤ sizeLine
        · rw [if_pos hl] at ef
          cases ef
          exact ⟨m n, _, us, vb, rfl, rfl, e1, eb2, by rw [← rv.length, ← rvb.length]; exact hl, q _ _ .non (rv.append rvb)⟩
        · rw [if_neg hl] at ef; cases ef
end
end Py

set_option Elab.async false
set_option linter.all false
set_option maxRecDepth 100000
/-! Own layer: dicts with texts and whole numbers as keys. -/
namespace Py
open PySem PySem.Spec PyProof.Rows L2
section
variable {K : PySem.W.Frag} {m : Nat → Addr} {N : Nat} {H : Hp}
theorem RelKs.length : ∀ {ks : List (Ky × D)} {vs : List (L2.Key × V)}, RelKs K m N H ks vs → ks.length = vs.length
  | _, _, .nil => rfl
  | _, _, .cons _ r => by simp [RelKs.length r]
theorem valD_pos {p : Ky × D} {r : List (Ky × D)} {k : Ky} (e : p.1 = k) : valD (p :: r) k = some p.2 := by simp [valD, List.find?_cons, e]
theorem valD_neg {p : Ky × D} {r : List (Ky × D)} {k : Ky} (e : ¬ p.1 = k) : valD (p :: r) k = valD r k := by simp [valD, List.find?_cons, e]
theorem RelKs.val (k : Ky) : ∀ {ks : List (Ky × D)} {vs : List (L2.Key × V)}, RelKs K m N H ks vs → (valD ks k = none ∧ valV vs k = none) ∨ ∃ d v, valD ks k = some d ∧ valV vs k = some v ∧ RelD K m N H d v
  | _, _, .nil => .inl ⟨rfl, rfl⟩
  | _, _, .cons (k := j) (d := d) (v := v) h r => by
    by_cases e : j = k
    · exact .inr ⟨d, v, valD_pos e, valV_pos e, h⟩
    · rw [valD_neg (p := (j, d)) e, valV_neg (p := (j, v)) e]
      exact RelKs.val k r
theorem RelKs.any (k : Ky) : ∀ {ks : List (Ky × D)} {vs : List (L2.Key × V)}, RelKs K m N H ks vs → (ks.any fun kv => decide (kv.1 = k)) = vs.any fun kv => decide (kv.1 = k)
  | _, _, .nil => rfl
  | _, _, .cons _ r => by rw [List.any_cons, List.any_cons, RelKs.any k r]
theorem RelKs.snoc {k : Ky} {d : D} {v : V} (h : RelD K m N H d v) : ∀ {ks : List (Ky × D)} {vs : List (L2.Key × V)}, RelKs K m N H ks vs → RelKs K m N H (ks ++ [(k, d)]) (vs ++ [(k, v)])
  | _, _, .nil => .cons h .nil
  | _, _, .cons a r => .cons a (RelKs.snoc h r)
theorem RelKs.repl {k : Ky} {d : D} {v : V} (h : RelD K m N H d v) : ∀ {ks : List (Ky × D)} {vs : List (L2.Key × V)}, RelKs K m N H ks vs → RelKs K m N H (ks.map fun kv => if kv.1 = k then (kv.1, d) else kv) (vs.map fun kv => if kv.1 = k then (kv.1, v) else kv)
  | _, _, .nil => .nil
  | _, _, .cons (k := j) a r => by
    rw [List.map_cons, List.map_cons]
    by_cases e : j = k
    · simp only [if_pos e]; exact .cons h (RelKs.repl h r)
    · simp only [if_neg e]; exact .cons a (RelKs.repl h r)
theorem RelKs.put {ks : List (Ky × D)} {vs : List (L2.Key × V)} {k : Ky} {d : D} {v : V} (r : RelKs K m N H ks vs) (h : RelD K m N H d v) : RelKs K m N H (putD ks k d) (putK vs k v) := by
  unfold putD putK
  rw [r.any k]
  split
  · exact r.repl h
  · exact r.snoc h
theorem RelKs.merge : ∀ {more : List (Ky × D)} {ms : List (L2.Key × V)} {ks : List (Ky × D)} {vs : List (L2.Key × V)}, RelKs K m N H more ms → RelKs K m N H ks vs → RelKs K m N H (mergeD ks more) (mergeK vs ms)
  | _, _, _, _, .nil, r => r
  | (k, d) :: more, (_, v) :: ms, ks, vs, .cons h q, r => RelKs.merge (more := more) (ms := ms) (ks := putD ks k d) (vs := putK vs k v) q (r.put h)
theorem keyD_ok {d : D} {v : V} {k : Ky} (r : RelD K m N H d v) (e : keyD d = some k) : v = kV k := by
  cases r with
  | int i => cases e; rfl
  | str x => cases e; rfl
  | _ => cases e
end
section
variable {X : Cx} {G : Gam} {E : XK}
theorem dctD_ok {m : Nat → Addr} {h : LH} {H : Hp} {d : D} {v : V} {ks : List (Ky × D)} (rh : RelH G X.K m h H) (rd : RelD X.K m h.length H d v) (e : dctD d h = some ks) :
    ∃ n vs, d = .ref n ∧ n < h.length ∧ v = .ref (m n) ∧ h[n]? = some (.dct ks) ∧ H (m n) = some (.dK vs) ∧ RelKs X.K m h.length H ks vs := by
  cases rd with
  | @ref n hn =>
    cases q : h[n]? with
    | none => simp only [dctD, q] at e; cases e
    | some ob =>
      cases ob with
      | ins c fs => simp only [dctD, q] at e; cases e
      | hid _ => simp only [dctD, q] at e; cases e
      | lst xs => simp only [dctD, q] at e; cases e
      | dct kv =>
        simp only [dctD, q] at e
        cases e
        obtain ⟨vs, e1, rv⟩ := rh.obj n _ q
        exact ⟨n, vs, rfl, hn, rfl, q, e1, rv⟩
  | _ => cases e
theorem dctR_ok {m : Nat → Addr} {h : LH} {H : Hp} {d : D} {v : V} {ks : List (Ky × D)} (rh : RelH G X.K m h H) (rd : RelD X.K m h.length H d v) (e : dctR d h = some ks) :
    ∃ n vs, d = .ref n ∧ n < h.length ∧ v = .ref (m n) ∧ L2.Rd H (m n) (.dK vs) ∧ RelKs X.K m h.length H ks vs := by
  cases rd with
  | @ref n hn =>
    cases q : h[n]? with
    | none => simp only [dctR, q] at e; cases e
    | some ob =>
      cases ob with
      | ins c fs => simp only [dctR, q] at e; cases e
      | lst xs => simp only [dctR, q] at e; cases e
      | hid kv =>
        simp only [dctR, q] at e
        cases e
        obtain ⟨od, vs, e1, rv⟩ := rh.obj n _ q
        exact ⟨n, vs, rfl, hn, rfl, .inr ⟨od, e1⟩, rv⟩
      | dct kv =>
        simp only [dctR, q] at e
        cases e
        obtain ⟨vs, e1, rv⟩ := rh.obj n _ q
        exact ⟨n, vs, rfl, hn, rfl, .inl e1, rv⟩
  | _ => cases e
theorem toOpW {f : D → D → LH → R D} {fa fb : EX} {W : V → V → Hp → VK → Prop} (hw : ∀ x y H Q, r2 G X.K E f x y H Q → W x y H Q) {σ : L2.St} {H : Hp} {Q : VK} (t : tE G X.K E (e2 f fa fb) σ H Q) : tE G X.K E fa σ H (fun x H1 => tE G X.K E fb σ H1 fun y H2 => W x y H2 Q) := by
  obtain ⟨m, r, h, rh, rs, o⟩ := t
  refine ⟨m, r, h, rh, rs, ?_⟩
  rcases Out.bindR o with ⟨x, h1, e, o⟩ | ⟨c, fs, h1, e, o⟩
  · rw [e]
    intro m1 H1 v p1 d1
    refine ⟨m1, r, h1, p1.rel, p1.s rs, ?_⟩
    rcases Out.bindR o with ⟨y, h2, e, o⟩ | ⟨c, fs, h2, e, o⟩
    · rw [e]
      intro m2 H2 w p2 d2
      exact hw _ _ _ _ ⟨m2, h2, x, y, p2.rel, p2.d d1, d2, Out.later (p1.trans p2) o⟩
    · rw [e]; exact OutX.later p1 o
  · rw [e]; exact o
variable {o i e value : Expr} {fo fi fe : EX} {pos pos' tpos : Pos}
/-- d[y] -/
theorem xDg (hu : X.A.units + 1 < cLine) (ho : PE X o (tE G X.K E fo)) (hi : PE X i (tE G X.K E fi)) (hs : NoSl i := by exact fun _ _ => rfl) : PE X (.Subscript o i pos) (tE G X.K E (e2 oDg fo fi)) := by
  refine PE_mono (pe_dget hu ho hi hs) fun σ H Q t => toOpW (W := fun x y H2 Q => ∃ a v, x = .ref a ∧ DGet H2 a y (some v) ∧ Q v H2) ?_ t
  rintro x y H Q ⟨m, h, dx, dy, rh, d1, d2, o⟩
  unfold oDg at o
  cases q : dctR dx h with
  | none => simp only [q] at o; exact o.elim
  | some ks =>
    cases q2 : keyD dy with
    | none => simp only [q, q2] at o; exact o.elim
    | some k =>
      simp only [q, q2] at o
      obtain ⟨n, vs, rfl, hn, rfl, e2, rk⟩ := dctR_ok rh d1 q
      have ey := keyD_ok d2 q2
      subst ey
      rcases rk.val k with ⟨z, _⟩ | ⟨d, v, z, zv, rd⟩
      · rw [z] at o; exact o.elim
      · rw [z] at o
        exact ⟨_, v, rfl, .inl ⟨vs, k, e2, rfl, zv.symm⟩, o m H _ (Post.refl rh) rd⟩
theorem dnotin_ok (hu : X.A.units + 1 < cLine) : OpR X (compareOp .NotIn) (r2 G X.K E (oDin true)) := by
  intro pins s σ H x y v u Q I rx ry ⟨m, h, dx, dy, rh, d1, d2, o⟩
  unfold oDin at o
  cases q : dctR dy h with
  | none => simp only [q] at o; exact o.elim
  | some ks =>
    cases q2 : keyD dx with
    | none => simp only [q, q2] at o; exact o.elim
    | some k =>
      simp only [q, q2] at o
      obtain ⟨n, vs, rfl, hn, rfl, e2, rk⟩ := dctR_ok rh d2 q
      have ey := keyD_ok d1 q2
      subst ey
      obtain rfl : u = Value.ref (m n) := ry
      refine d_notIn hu I (o := valV vs k) (.inl ⟨vs, k, e2, rfl, rfl⟩) rx fun s3 I3 => ⟨.bl _, H, I3, rfl, ?_⟩
      have : (valV vs k).isSome = (valD ks k).isSome := by
        rcases rk.val k with ⟨z, zv⟩ | ⟨d, v, z, zv, _⟩ <;> (rw [z, zv]; rfl)
      rw [this]
      exact o m H _ (Post.refl rh) (.bl _)
theorem isB_din (neg : Bool) : IsB2 (oDin neg) := by
  intro x y h d h' e
  unfold oDin at e
  split at e
  · cases e; exact ⟨_, rfl⟩
  · cases e
/-! ### displays -/
theorem out_dct {m : Nat → Addr} {h : LH} {H : Hp} {Q : VK} {ks : List (Ky × D)} {vs : List (L2.Key × V)} (rh : RelH G X.K m h H) (rd : RelKs X.K m h.length H ks vs) (o : Out G X.K E m h.length H Q (.ok (.ref h.length) (h ++ [.dct ks]))) (p : Addr) (hp : H p = none) : Q (.ref p) (upd H p (.dK vs)) := by
  have q := rh.new (o := .dct ks) (u := .dK vs) hp (fun m' ag e => ⟨vs, upd_same, rd.mono ag (Nat.le_succ _) (TK.upd_new hp)⟩)
  have z : RelD X.K (ext m h.length p) (h ++ [O.dct ks]).length (upd H p (.dK vs)) (.ref h.length) (.ref (ext m h.length p h.length)) := .ref (by simp)
  rw [ext_self] at z
  exact o _ _ _ q z
theorem xDnew : PE X (.Dict [] [] pos) (tE G X.K E eDnew) := PE_mono pe_dnewK fun σ H Q ⟨m, r, h, rh, rs, o⟩ p hp => out_dct rh .nil o p hp
def OutD (G : Gam) (K : PySem.W.Frag) (E : XK) (m : Nat → Addr) (N : Nat) (H : Hp) (Q : List (L2.Key × V) → Hp → Prop) : R (List (Ky × D)) → Prop
  | .ok d h' => ∀ m' H' v, Post G K m N H m' h' H' → RelKs K m' h'.length H' d v → Q v H'
  | .exc c fs h' => OutX G K E m N H c fs h'
  | .stuck => False
theorem OutD.bindR {α : Type} {K : PySem.W.Frag} {m : Nat → Addr} {N : Nat} {H : Hp} {r : R α} {f : α → LH → R (List (Ky × D))} {Q : List (L2.Key × V) → Hp → Prop} (o : OutD G K E m N H Q (r.bind f)) :
    (∃ a h1, r = .ok a h1 ∧ OutD G K E m N H Q (f a h1)) ∨ ∃ c fs h1, r = .exc c fs h1 ∧ OutX G K E m N H c fs h1 := by
  cases r with
  | ok a h1 => exact .inl ⟨a, h1, rfl, o⟩
  | exc c fs h1 => exact .inr ⟨c, fs, h1, rfl, o⟩
  | stuck => exact False.elim o
theorem OutD.later {K : PySem.W.Frag} {m m1 : Nat → Addr} {N : Nat} {H H1 : Hp} {h1 : LH} {Q : List (L2.Key × V) → Hp → Prop} {r : R (List (Ky × D))} (a : Post G K m N H m1 h1 H1) (o : OutD G K E m N H Q r) : OutD G K E m1 h1.length H1 Q r := by
  cases r with
  | ok d h' => exact fun m' H' v p e => o m' H' v (a.trans p) e
  | exc c fs h' => exact OutX.later a o
  | stuck => exact o
theorem pairs_ok : ∀ (ps : List (EX × EX)) (m : Nat → Addr) (r : LS) (h : LH) (σ : L2.St) (H : Hp) (Q : List (L2.Key × V) → Hp → Prop) (Q' : List (V × V) → Hp → Prop), RelH G X.K m h H → RelS X.K m h.length H r σ → OutD G X.K E m h.length H Q (pairsX ps r h) →
    (∀ kvs H1, Q kvs H1 → Q' (kvs.map fun kv => (kV kv.1, kv.2)) H1) → tPairs (ps.map fun p => (tE G X.K E p.1, tE G X.K E p.2)) σ H Q'
  | [], m, r, h, σ, H, Q, Q', rh, rs, o, hq => hq [] H (o m H [] (Post.refl rh) .nil)
  | (fa, fb) :: ps, m, r, h, σ, H, Q, Q', rh, rs, o, hq => by
    refine ⟨m, r, h, rh, rs, ?_⟩
    rcases OutD.bindR o with ⟨x, h1, e, o⟩ | ⟨c, fs, h1, e, o⟩
    · simp only [e]
      intro m1 H1 v p1 d1
      refine ⟨m1, r, h1, p1.rel, p1.s rs, ?_⟩
      rcases OutD.bindR o with ⟨y, h2, e, o⟩ | ⟨c, fs, h2, e, o⟩
      · simp only [e]
        intro m2 H2 w p2 d2
        cases q : keyD x with
        | none => simp only [q] at o; exact o.elim
        | some k =>
          simp only [q] at o
          have pp := p1.trans p2
          have o := OutD.later pp o
          have ek := keyD_ok (p2.d d1) q
          subst ek
          refine pairs_ok ps m2 r h2 σ H2 (fun kvs H3 => Q ((k, w) :: kvs) H3) _ p2.rel (p2.s (p1.s rs)) ?_ (fun kvs H3 z => hq _ _ z)
          rcases OutD.bindR o with ⟨kvs, h3, e, o⟩ | ⟨c, fs, h3, e, o⟩
          · rw [e]
            intro m3 H3 vs p3 rk
            exact o m3 H3 _ p3 (.cons (p3.d d2) rk)
          · rw [e]; exact o
      · simp only [e]; exact OutX.later p1 o
    · simp only [e]; exact o
theorem ppNil : PPs X pos [] [] (([] : List (EX × EX)).map fun p => (tE G X.K E p.1, tE G X.K E p.2)) := pps_nil
theorem ppCons {k v : Expr} {ks : List (Option Expr)} {vs : List Expr} {fa fb : EX} {ps : List (EX × EX)} (hk : PE X k (tE G X.K E fa)) (hv : PE X v (tE G X.K E fb)) (hr : PPs X pos ks vs (ps.map fun p => (tE G X.K E p.1, tE G X.K E p.2))) :
    PPs X pos (some k :: ks) (v :: vs) (((fa, fb) :: ps).map fun p => (tE G X.K E p.1, tE G X.K E p.2)) := pps_cons hk hv hr
theorem xDisp {keys : List (Option Expr)} {values : List Expr} {ps : List (EX × EX)} (hp : PPs X pos keys values (ps.map fun p => (tE G X.K E p.1, tE G X.K E p.2))) (hall : keys.all (·.isSome) = true := by rfl) (hl : keys.length = values.length := by rfl) (h0 : keys ≠ [] := by exact fun z => nomatch z)
    (h15 : keys.length ≤ 15 := by decide) : PE X (.Dict keys values pos) (tE G X.K E (eDisp ps)) := by
  refine PE_mono (pe_disp hp hall hl h0 h15) ?_
  rintro σ H Q ⟨m, r, h, rh, rs, o⟩ p hp0
  have q0 := rh.new (o := .dct []) (u := .dK []) hp0 (fun m' ag e => ⟨[], upd_same, .nil⟩)
  have o := Out.later q0 o
  have hm : ext m h.length p h.length = p := ext_self _ _ _
  refine pairs_ok ps _ r (h ++ [.dct []]) σ _ (fun kvs H2 => H2 p = some (.dK []) ∧ kvs.length ≤ 15 ∧ Q (.ref p) (upd H2 p (.dK (mergeK [] kvs)))) _ q0.rel (q0.s rs) ?_ (fun kvs H1 z => ⟨z.1, kvs, rfl, z.2.1, z.2.2⟩)
  unfold eDisp at o
  rcases Out.bindR o with ⟨kvs, h1, e, o⟩ | ⟨c, fs, h1, e, o⟩
  · rw [e]
    intro m1 H1 vs p1 rk
    have o := Out.later p1 o
    have el : m1 h.length = p := by rw [p1.agr h.length (by simp), hm]
    split at o
    · rename_i z
      split at o
      · rename_i hl15
        obtain ⟨ws, e1, rw0⟩ := p1.rel.obj _ _ z
        rw [el] at e1
        cases rw0
        refine ⟨e1, by rw [← rk.length]; exact hl15, ?_⟩
        have e1' : H1 (m1 h.length) = some (.dK []) := by rw [el]; exact e1
        have tk : TK X.K H1 (upd H1 (m1 h.length) (.dK (mergeK [] vs))) := TK.upd_mut e1' (fun _ z => nomatch z) (fun _ _ z => nomatch z)
        have pq := p1.rel.upd (u := .dK (mergeK [] vs)) (o := .dct (mergeD [] kvs)) z e1' (fun _ z => nomatch z) (fun _ _ z => nomatch z) ⟨_, upd_same, (RelKs.merge rk .nil).mono (fun _ _ => rfl) (Nat.le_refl _) tk⟩
        rw [el] at pq
        have zr : RelD X.K m1 (h1.set h.length (.dct (mergeD [] kvs))).length (upd H1 p (.dK (mergeK [] vs))) (.ref h.length) (.ref (m1 h.length)) := .ref (by rw [List.length_set]; exact (List.getElem?_eq_some_iff.mp z).1)
        rw [el] at zr
        exact o _ _ _ pq zr
      · exact o.elim
    · exact o.elim
  · rw [e]; exact o
end
end Py

set_option Elab.async false
set_option linter.all false
set_option maxRecDepth 100000
/-! Own layer: properties, t.index(x), defs as values, x in a tuple of data. -/
namespace Py
open PySem PySem.Spec PyProof.Rows L2
section
variable {X : Cx} {G : Gam} {E : XK} {CX : CXT}
/-! ### t.index(x) -/
def tTM (K : PySem.W.Frag) (r : V → List V → Hp → VK → Prop) (to : TE) (t : TA) : TE := fun σ H Q => to σ H fun x H1 => (∃ a vs, x = .ref a ∧ SqT K H1 a vs ∧ Xc K H1 a) ∧ t σ H1 fun xs H2 => r x xs H2 Q
theorem strs_ok {m : Nat → Addr} {N : Nat} {H : Hp} : ∀ {xs : List D} {vs : List V} {ys : List Str}, RelDs X.K m N H xs vs → strsD xs = some ys → vs = ys.map V.str
  | _, _, _, .nil, e => by cases e; rfl
  | _, _, ys, .cons (d := d) (ds := ds) a r, e => by
    cases a <;> try (cases e; done)
    rename_i x
    simp only [strsD] at e
    cases q : strsD ds with
    | none => rw [q] at e; cases e
    | some zs =>
      rw [q] at e
      cases e
      rw [List.map_cons, strs_ok r q]
/-! ### defs as values -/
/-- what a table of defs is worth -/
def TabG (X : Cx) (G : Gam) (E : XK) (tab : Str → Option KF) : Prop := ∀ n op, tab n = some op → ∃ f : Addr, X.mg n = some (.ref f) ∧ PySem.W.keepIn X.K (.ref f) = true ∧ CallG X G E (.ref f) [] op
/-! ### x in a list or a tuple of data -/
theorem hu1_of {n : Nat} (h : n + 70 < cLine) : n + 1 < cLine := by omega
end
end Py

set_option Elab.async false
set_option linter.all false
set_option maxRecDepth 100000
/-! Own layer: x.split(sep). -/
namespace Py
open PySem PySem.Spec PyProof.Rows L2
/-- what x.split(sep) gives -/
def splL (a b : Str) (h : LH) : R D := if (b.length == 0) = false ∧ a.length + 2 ≤ sizeLine then .ok (.ref h.length) (h ++ [.lst ((Txt.split a b).map D.str)]) else .stuck
def oSpl : D → D → LH → R D
  | .str a, .str b, h => splL a b h
  | _, _, _ => .stuck
def eSpl (o i : EX) : EX := fun r h => (o r h).bind fun x h1 => match x with
  | .str a => (i r h1).bind fun y h2 => oSpl (.str a) y h2
  | _ => .stuck
/-- repr(x), of None too -/
def bRepN : List D → LH → R D
  | [.non], h => .ok (.str "None") h
  | xs, h => bRep xs h
section
variable {X : Cx} {G : Gam} {E : XK} {CX : CXT}
theorem repN_ok (hg : X.A.guards = some []) (hu : X.A.units + 70 < cLine) : CallR X (.builtin "repr") (rA G X.K E bRepN) := by
  intro pins s σ H xs us Q I r ⟨m, h, ds, rh, rd, o⟩
  have gen : bRepN ds h = bRep ds h → wpAny (model X.prog X.w) X.A (call (.builtin "repr") us) (EP X pins σ Q) X.xe s := fun e => rep_okB hg hu pins s σ H xs us Q I r ⟨m, h, ds, rh, rd, e ▸ o⟩
  cases rd with
  | nil => exact gen rfl
  | @cons d v ds vs a b =>
    cases b with
    | cons _ _ => exact gen (by cases d <;> rfl)
    | nil =>
      cases a with
      | non =>
        obtain ⟨u, rfl, t⟩ := Vals.one r
        cases t
        exact PySem.P.repr_of_none ⟨.str _, H, I.tok _, ⟨_, rfl⟩, o m H _ (Post.refl rh) (.str _)⟩
      | _ => exact gen rfl
theorem rel_strs {K : PySem.W.Frag} {m : Nat → Addr} {N : Nat} {H : Hp} : ∀ ys : List Str, RelDs K m N H (ys.map D.str) (ys.map V.str)
  | [] => .nil
  | y :: ys => .cons (.str _) (rel_strs ys)
theorem xSplit {o e : Expr} {fo fi : EX} {apos pos : Pos} (ho : PE X o (tE G X.K E fo)) (he : PE X e (tE G X.K E fi)) (hs : starEach [e] X.env = [(false, eval e X.env)] := by rfl)
    (hbase : attributeBase o "split" X.env (eval o X.env) = eval o X.env := by rfl) (hline : (apos.endLine == pos.line) = true := by rfl) : PE X (.Call (.Attribute o "split" apos) [e] [] pos) (tE G X.K E (eSpl fo fi)) := by
  refine PE_mono (pe_split ho he hs hbase hline) ?_
  rintro σ H Q ⟨m, r, h, rh, rs, o⟩
  refine ⟨m, r, h, rh, rs, ?_⟩
  rcases Out.bindR o with ⟨x, h1, e, o⟩ | ⟨c, fs, h1, e, o⟩
  · rw [e]
    intro m1 H1 v p1 d1
    cases d1 with
    | str a =>
      refine ⟨⟨a, rfl⟩, m1, r, h1, p1.rel, p1.s rs, ?_⟩
      simp only at o
      rcases Out.bindR o with ⟨y, h2, e, o⟩ | ⟨c, fs, h2, e, o⟩
      · rw [e]
        intro m2 H2 w p2 d2
        have o := Out.later (p1.trans p2) o
        cases d2 with
        | str b =>
          simp only [oSpl, splL] at o
          by_cases c : (b.length == 0) = false ∧ a.length + 2 ≤ sizeLine
          · rw [if_pos c] at o
            refine ⟨a, b, rfl, rfl, c.1, c.2, ?_⟩
            intro p hp
            exact out_lst p2.rel (rel_strs _) o p hp
          · rw [if_neg c] at o; exact o.elim
        | _ => exact o.elim
      · rw [e]; exact OutX.later p1 o
    | _ => exact o.elim
  · rw [e]; exact o
end
end Py

set_option Elab.async false
set_option linter.all false
set_option maxRecDepth 100000
/-! Own layer: dict(list(d.items()) + [(k, v), ..]). -/
namespace Py
open PySem PySem.Spec PyProof.Rows L2
def pairD : D → Option (Ky × D)
  | .tup [a, b] => (keyD a).map fun k => (k, b)
  | _ => none
def pairsL : List D → Option (List (Ky × D))
  | [] => some []
  | x :: xs => match pairD x, pairsL xs with
    | some p, some ps => some (p :: ps)
    | _, _ => none
def plusD (ks : List (Ky × D)) : D → LH → R D
  | .ref n, h => (match h[n]? with
    | some (.lst xs) => (match pairsL xs with
      | some ps => if ks.length + xs.length ≤ sizeLine then .ok (.ref h.length) (h ++ [.dct (mergeD [] (ks ++ ps))]) else .stuck
      | none => .stuck)
    | _ => .stuck)
  | _, _ => .stuck
/-- dict(list(o.items()) + l) -/
def eDictPlus (fo fl : EX) : EX := fun r h => (fo r h).bind fun x h1 => match dctD x h1 with
  | some ks => (fl r h1).bind fun y h2 => plusD ks y h2
  | none => .stuck
section
variable {G : Gam} {K : PySem.W.Frag} {m : Nat → Addr} {N : Nat} {h : LH} {H H' : Hp}
theorem TK.grow (k : ∀ b o, H b = some o → H' b = some o) : TK K H H' := by
  refine ⟨fun a vs h => ?_, fun a vs h => ?_, fun a h => ?_, fun a o kvs h => k _ _ h⟩
  · rcases h with (h | ⟨u, h⟩) | h
    · exact .inl (.inl (k _ _ h))
    · exact .inl (.inr ⟨u, k _ _ h⟩)
    · exact .inr h
  · rcases h with ⟨u, h⟩ | h
    · exact .inl ⟨u, k _ _ h⟩
    · exact .inr h
  · rcases h with ⟨u, w, h, e⟩ | h
    · exact .inl ⟨u, w, k _ _ h, e⟩
    · exact .inr h
theorem RelH.grow (r : RelH G K m h H) (k : ∀ b o, H b = some o → H' b = some o) : Post G K m h.length H m h H' := by
  have tk : TK K H H' := TK.grow k
  refine ⟨fun _ _ => rfl, Nat.le_refl _, tk, ⟨fun n o e => ?_, r.inj, r.tab.ext k⟩, fun i h1 h2 => absurd h2 (Nat.not_lt.mpr h1), fun a o e _ _ => k a o e⟩
  obtain ⟨u, hu⟩ := (r.obj n o e).isThere
  exact (r.obj n o e).mono (fun _ _ => rfl) (Nat.le_refl _) tk (by rw [hu, k _ _ hu])
theorem RelKs.app : ∀ {as bs : List (Ky × D)} {vs ws : List (L2.Key × V)}, RelKs K m N H as vs → RelKs K m N H bs ws → RelKs K m N H (as ++ bs) (vs ++ ws)
  | _, _, _, _, .nil, r => r
  | _, _, _, _, .cons a r, q => .cons a (RelKs.app r q)
end
section
variable {X : Cx} {G : Gam} {E : XK} {CX : CXT}
end
end Py
namespace Py
open PySem PySem.Spec PyProof.Rows L2
/-! ### d.update(e) -/
def oUpd : D → D → LH → R D
  | .ref n, .ref k, h => (match h[n]?, h[k]? with
    | some (.dct ks), some (.dct ms) => if n ≠ k ∧ ks.length + ms.length ≤ sizeLine then .ok .non (h.set n (.dct (mergeD ks ms))) else .stuck
    | _, _ => .stuck)
  | _, _, _ => .stuck
def eUpd (o i : EX) : EX := fun r h => (o r h).bind fun x h1 => match dctD x h1 with
  | some _ => (i r h1).bind fun y h2 => oUpd x y h2
  | none => .stuck
def rUpd : V → List V → Hp → VK → Prop := fun x xs H Q => ∃ (a b : Addr) (kvs more : List (L2.Key × V)), x = .ref a ∧ xs = [.ref b] ∧ a ≠ b ∧ H a = some (.dK kvs) ∧ H b = some (.dK more) ∧ kvs.length + more.length ≤ sizeLine ∧ Q .non (upd H a (.dK (mergeK kvs more)))
section
variable {X : Cx} {G : Gam} {E : XK} {CX : CXT}
end
end Py

set_option Elab.async false
set_option linter.all false
set_option maxRecDepth 100000
/-! Own layer: [*d.values(), ..]. -/
namespace Py
open PySem PySem.Spec PyProof.Rows L2
def aStarV (fo : EX) (fa : AX) : AX := fun r h => (fo r h).bind fun x h1 => match dctD x h1 with
  | some ks => (fa r h1).bind fun ds h2 => .ok (ks.map (·.2) ++ ds) h2
  | none => .stuck
def tStarV (to : TE) (t : TA) : TA := fun σ H Q => to σ H fun x H1 => ∃ (d : Addr) (kvs : List (L2.Key × V)), x = .ref d ∧ H1 d = some (.dK kvs) ∧ t σ H1 fun ys H2 => Q (kvs.map (·.2) ++ ys) H2
section
variable {X : Cx} {G : Gam} {E : XK} {CX : CXT}
theorem relds_app {K : PySem.W.Frag} {m : Nat → Addr} {N : Nat} {H : Hp} : ∀ {as bs : List D} {vs ws : List V}, RelDs K m N H as vs → RelDs K m N H bs ws → RelDs K m N H (as ++ bs) (vs ++ ws)
  | _, _, _, _, .nil, r => r
  | _, _, _, _, .cons a r, q => .cons a (relds_app r q)
end
end Py

set_option Elab.async false
set_option linter.all false
set_option maxRecDepth 100000
/-! Own layer: range(a, b, -1). -/
namespace Py
open PySem PySem.Spec PyProof.Rows L2
def rangeDn (a b : Int) : List D := (List.range (a - b).toNat).map fun k => .int (a + (k : Nat) * (-1))
def iRngD (a b c : EX) : IX := fun r h => (a r h).bind fun d h1 => (b r h1).bind fun e h2 => (c r h2).bind fun f h3 => match d, e, f with
  | .int i, .int j, .int k => if small62 i = true ∧ small62 j = true ∧ k = -1 then .ok (.its (rangeDn i j)) h3 else .stuck
  | _, _, _ => .stuck
section
variable {X : Cx} {G : Gam} {E : XK} {tg : Expr}
end
end Py

set_option Elab.async false
set_option linter.all false
set_option maxRecDepth 100000
set_option maxHeartbeats 2000000
/-! Own layer: d.get, d.pop, [.. for x in d.values() ..], sum, dict of a list of pairs, a dict of the module. -/
namespace Py
open PySem PySem.Spec PyProof.Rows L2
def dropD (kvs : List (Ky × D)) (k : Ky) : List (Ky × D) := kvs.filter fun kv => decide (kv.1 ≠ k)
def get1D (x y : D) (h : LH) : R D := match dctD x h, keyD y with
  | some kvs, some k => .ok ((valD kvs k).getD .non) h
  | _, _ => .stuck
/-- d.get(y) -/
def eGet1 (fo fi : EX) : EX := fun r h => (fo r h).bind fun x h1 => match dctD x h1 with
  | some _ => (fi r h1).bind fun y h2 => get1D x y h2
  | none => .stuck
def get2D (x y z : D) (h : LH) : R D := match dctD x h, keyD y with
  | some kvs, some k => .ok ((valD kvs k).getD z) h
  | _, _ => .stuck
/-- d.get(y, z) -/
def eGet2 (fo fi fz : EX) : EX := fun r h => (fo r h).bind fun x h1 => match dctD x h1 with
  | some _ => (fi r h1).bind fun y h2 => (fz r h2).bind fun z h3 => get2D x y z h3
  | none => .stuck
def popD (x y : D) (h : LH) : R D := match x, keyD y with
  | .ref n, some k => (match h[n]? with
    | some (.dct kvs) => (match valD kvs k with
      | some v => .ok v (h.set n (.dct (dropD kvs k)))
      | none => .stuck)
    | _ => .stuck)
  | _, _ => .stuck
/-- d.pop(y) -/
def ePop (fo fi : EX) : EX := fun r h => (fo r h).bind fun x h1 => match dctD x h1 with
  | some _ => (fi r h1).bind fun y h2 => popD x y h2
  | none => .stuck
/-- dict(l), l a list of pairs; dict(d) -/
def bDictP : List D → LH → R D
  | [.ref n], h => (match h[n]? with
    | some (.lst xs) => (match pairsL xs with
      | some ps => .ok (.ref h.length) (h ++ [.dct (mergeD [] ps)])
      | none => .stuck)
    | _ => .stuck)
  | _, _ => .stuck
/-- sum of whole numbers -/
def bSum : List D → LH → R D
  | [x], h => (match (lstD x h).bind intsD with
    | some ns => .ok (.int ns.sum) h
    | none => .stuck)
  | _, _ => .stuck
/-- a dict of the module: texts to whole numbers -/
abbrev Tb := List (Str × Int)
def tbAt : Tb → Str → Option Int
  | [], _ => none
  | (a, i) :: r, z => if a = z then some i else tbAt r z
def eTin (neg : Bool) (t : Tb) (a : EX) : EX := e1 (fun x h => match x with
  | .str z => (match tbAt t z with
    | some _ => .ok (.bl (!neg)) h
    | none => .stuck)
  | _ => .stuck) a
def eTix (t : Tb) (a : EX) : EX := e1 (fun x h => match x with
  | .str z => (match tbAt t z with
    | some i => .ok (.int i) h
    | none => .stuck)
  | _ => .stuck) a
section
variable {K : PySem.W.Frag} {m : Nat → Addr} {N : Nat} {H : Hp}
theorem RelKs.drop (k : Ky) : ∀ {ks : List (Ky × D)} {vs : List (L2.Key × V)}, RelKs K m N H ks vs → RelKs K m N H (dropD ks k) (dropK vs k)
  | _, _, .nil => .nil
  | _, _, .cons (k := j) a r => by
    have ih := RelKs.drop k r
    unfold dropD dropK at ih ⊢
    rw [List.filter_cons, List.filter_cons]
    by_cases e : j = k
    · simp only [ne_eq, e, not_true_eq_false, decide_false, Bool.false_eq_true, if_false]; exact ih
    · simp only [ne_eq, e, not_false_eq_true, decide_true, if_true]; exact .cons a ih
end
section
variable {X : Cx} {G : Gam} {E : XK} {CX : CXT}
variable {o i z : Expr} {fo fi fz : EX} {apos cpos pos : Pos}
end
end Py

set_option Elab.async false
set_option linter.all false
set_option maxRecDepth 100000
set_option maxHeartbeats 2000000
/-! Own layer: [.. for x in d.values() ..], dict of a list of pairs, a dict of the module. -/
namespace Py
open PySem PySem.Spec PyProof.Rows L2
/-- weaker than TK -/
structure TK0 (K : PySem.W.Frag) (H H' : Hp) : Prop where
  f : ∀ a vs, SqF K H a vs → SqF K H' a vs
  s : ∀ a vs, SqX K H a vs → SqX K H' a vs
mutual
theorem RelD.to0 {K : PySem.W.Frag} {m : Nat → Addr} {N : Nat} {H H' : Hp} (t : TK0 K H H') : ∀ {d : D} {v : V}, RelD K m N H d v → RelD K m N H' d v
  | _, _, .non => .non
  | _, _, .bl b => .bl b
  | _, _, .int i => .int i
  | _, _, .str x => .str x
  | _, _, .tup h r => .tup (t.s _ _ h) (RelDs.to0 t r)
  | _, _, .scr h => .scr (t.f _ _ h)
  | _, _, .fn h => .fn h
  | _, _, .ref h => .ref h
theorem RelDs.to0 {K : PySem.W.Frag} {m : Nat → Addr} {N : Nat} {H H' : Hp} (t : TK0 K H H') : ∀ {d : List D} {v : List V}, RelDs K m N H d v → RelDs K m N H' d v
  | _, _, .nil => .nil
  | _, _, .cons h r => .cons (RelD.to0 t h) (RelDs.to0 t r)
end
section
variable {G : Gam} {K : PySem.W.Frag} {m : Nat → Addr} {N : Nat} {H H' : Hp}
theorem RelFs.to0 (t : TK0 K H H') : ∀ {fs : List (Nat × D)} {vs : List (Str × V)}, RelFs G K m N H fs vs → RelFs G K m N H' fs vs
  | _, _, .nil => .nil
  | _, _, .cons a h r => .cons a (h.to0 t) (RelFs.to0 t r)
theorem RelKs.to0 (t : TK0 K H H') : ∀ {fs : List (Ky × D)} {vs : List (L2.Key × V)}, RelKs K m N H fs vs → RelKs K m N H' fs vs
  | _, _, .nil => .nil
  | _, _, .cons h r => .cons (h.to0 t) (RelKs.to0 t r)
theorem RelO.to0 {a : Addr} {o : O} (t : TK0 K H H') (e : H' a = H a) (h : RelO G K m N H a o) : RelO G K m N H' a o := by
  cases o with
  | lst xs => obtain ⟨vs, h1, h2⟩ := h; exact ⟨vs, e.trans h1, h2.to0 t⟩
  | ins c fs => obtain ⟨dx, vs, h1, h2⟩ := h; exact ⟨dx, vs, e.trans h1, h2.to0 t⟩
  | dct kv => obtain ⟨vs, h1, h2⟩ := h; exact ⟨vs, e.trans h1, h2.to0 t⟩
  | hid _ => obtain ⟨od, vs, h1, h2⟩ := h; exact ⟨od, vs, e.trans h1, h2.to0 t⟩
variable {d : Addr} {od : Obj} {vs0 : List (L2.Key × V)} {u : HO}
end
/-- [e for x in o.values() if t]; the dict is walked, nothing writes it meanwhile -/
def eCompV (vs : List Nat) (fo ft fe : EX) : EX := fun r h => match fo r h with
  | .ok (.ref n) _ => (match h[n]? with
    | some (.dct kvs) => (match fo r (h.set n (.hid kvs)) with
      | .ok (.ref n2) h1 => if n2 = n then (match h1[n]? with
        | some (.hid _) => (match compX (.its (kvs.map (·.2))) vs ft fe fuelN 0 [] (wipeL r vs) h1 with
          | .ok acc h2 => (match h2[n]? with
            | some (.hid _) => .ok (.ref h2.length) ((h2 ++ [O.lst acc]).set n (.dct kvs))
            | _ => .stuck)
          | _ => .stuck)
        | _ => .stuck) else .stuck
      | _ => .stuck)
    | _ => .stuck)
  | _ => .stuck
section
variable {X : Cx} {G : Gam} {E : XK} {CX : CXT}
/-! ### a dict of the module -/
def TbK (K : PySem.W.Frag) (w : World) (a : Addr) (t : Tb) : Prop := (a == sysModules) = false ∧ ∃ es n, K.lookup a = some ⟨.type "dict", none, .dict es n, #[]⟩ ∧ PySem.W.KeysLit w.params es.toList ∧ ∀ z i, tbAt t z = some i → ∃ tk, PySem.W.nsIn K a z = some (some (.int i tk))
variable {x : Expr} {fx : EX} {y : Str} {a : Addr} {t : Tb} {p pos : Pos}
theorem xTix (T : TbK X.K X.w a t) (hg : Gl X y) (hm : X.mg y = some (.ref a)) (hx : PE X x (tE G X.K E fx)) (hs : PlainIx x := by exact fun _ _ => rfl) (hd : (y == ("__debug__" : Str)) = false := by decide) : PE X (.Subscript (.Name y p) x pos) (tE G X.K E (eTix t fx)) := by
  refine PE_mono (pe_ix ix_kdict (pe_glob (v := .ref a) hg hm rfl hd) hx hs) ?_
  rintro σ H Q ⟨m, r, h, rh, rs, o⟩
  refine ⟨m, r, h, rh, rs, ?_⟩
  rcases Out.bindR o with ⟨d, h1, e, o⟩ | ⟨c, fs, h1, e, o⟩
  · rw [e]
    intro m1 H1 v p1 d1
    cases d1 with
    | str z =>
      simp only at o
      cases q : tbAt t z with
      | none => simp only [q] at o; exact o.elim
      | some i =>
        simp only [q] at o
        obtain ⟨_, es, n, hl, hk, all⟩ := T
        obtain ⟨tk, hz⟩ := all z i q
        exact ⟨a, z, .int i, rfl, rfl, ⟨es, n, _, hl, hk, hz, ⟨_, rfl⟩⟩, o m1 H1 _ p1 (.int i)⟩
    | _ => exact o.elim
  · rw [e]; exact o
end
end Py

set_option Elab.async false
set_option linter.all false
set_option maxRecDepth 100000
set_option maxHeartbeats 2000000
/-! Own layer: o.f as a target; o.f += e, o[i] += e and -=. -/
namespace Py
open PySem PySem.Spec PyProof.Rows L2
/-- target o.f -/
def gFld (c i : Nat) (o : EX) : GX := fun d r h => (o r h).to fun x h1 => match x with
  | .ref n => (match h1[n]? with
    | some (.ins c' fs) => if c' = c ∧ fs.length < 1000 then .nx r (h1.set n (.ins c (putA i d fs))) else .stuck
    | _ => .stuck)
  | _ => .stuck
/-- o.f op= e, whole numbers -/
def sFldAug (c i : Nat) (op : Int → Int → Int) (fo fe : EX) : SX := fun r h => (fo r h).to fun x h1 => match x with
  | .ref n => (match h1[n]? with
    | some (.ins c1 fs) => if c1 = c then (match getA i fs with
      | some (.int a) => (fe r h1).to fun y h2 => (match y with
        | .int b => (match h2[n]? with
          | some (.ins c2 fs2) => if c2 = c ∧ fs2.length < 1000 then .nx r (h2.set n (.ins c (putA i (.int (op a b)) fs2))) else .stuck
          | _ => .stuck)
        | _ => .stuck)
      | _ => .stuck) else .stuck
    | _ => .stuck)
  | _ => .stuck
/-- o[i] op= e, whole numbers in a list -/
def sSubAug (op : Int → Int → Int) (fo fi fe : EX) : SX := fun r h => (fo r h).to fun x h1 => (fi r h1).to fun y h2 => match x, y with
  | .ref n, .int k => (match h2[n]? with
    | some (.lst xs) => if 0 ≤ k then (match xs[k.toNat]? with
      | some (.int a) => (fe r h2).to fun z h3 => (match z with
        | .int b => (match h3[n]? with
          | some (.lst ys) => (match L2.ixN ys.length k with
            | some j => .nx r (h3.set n (.lst (ys.set j (.int (op a b)))))
            | none => .stuck)
          | _ => .stuck)
        | _ => .stuck)
      | _ => .stuck) else .stuck
    | _ => .stuck)
  | _, _ => .stuck
section
variable {X : Cx} {G : Gam} {E : XK} {CX : CXT}
variable {o value i : Expr} {fo fi fe : EX} {c n : Nat} {mn : Str} {pos pos' tpos : Pos}
/-- l[k], by values -/
def getL (K : PySem.W.Frag) : V → V → Hp → VK → Prop := fun o i H Q => ∃ p xs k v, o = .ref p ∧ i = .int k ∧ 0 ≤ k ∧ SqL K H p xs ∧ xs[k.toNat]? = some v ∧ Q v H
/-! ### the truth of what is no text -/
def eTr (a : EX) : EX := fun r h => (a r h).bind fun x h1 => match x with
  | .str _ => .stuck
  | _ => .ok x h1
variable {a : Expr} {fa : EX}
/-! ### repr of what is flat -/
def bRepA : List D → LH → R D
  | [.str x], h => if (reprText x).length ≤ sizeLine then .ok (.str (reprText x)) h else .stuck
  | [.bl b], h => .ok (.str (if b then "True" else "False")) h
  | xs, h => bRepN xs h
end
end Py

set_option Elab.async false
set_option linter.all false
set_option maxRecDepth 100000
set_option maxHeartbeats 2000000
/-! Own layer: sorted(d), d == {}. -/
namespace Py
open PySem PySem.Spec PyProof.Rows L2
/-- whole keys -/
def keysI : List (Ky × D) → Option (List Int)
  | [] => some []
  | (.inl i, _) :: r => (keysI r).map (i :: ·)
  | (.inr _, _) :: _ => none
/-- sorted(x), x a dict of whole keys too -/
def bSortedD : List D → LH → R D
  | [.ref n], h => (match dctD (.ref n) h with
    | some kvs => (match keysI kvs with
      | some ns => if ns.length < 64 then .ok (.ref h.length) (h ++ [.lst ((sortI ns).map .int)]) else .stuck
      | none => .stuck)
    | none => bSorted [.ref n] h)
  | xs, h => bSorted xs h
/-- x == y, y an empty dict -/
def oEqE : D → D → LH → R D := fun x y h => match dctD x h, dctD y h with
  | some a, some b => if b.isEmpty = true then .ok (.bl a.isEmpty) h else .stuck
  | _, _ => .stuck
section
variable {X : Cx} {G : Gam} {E : XK}
end
end Py

set_option Elab.async false
set_option linter.all false
set_option maxRecDepth 100000
set_option maxHeartbeats 2000000
/-! Own layer: zip of two lists, == and != of two dicts. -/
namespace Py
open PySem PySem.Spec PyProof.Rows L2
/-- zip(a, b), two lists -/
def iZip (a b : EX) : IX := fun r h => (a r h).bind fun d h1 => (b r h1).bind fun e h2 => match d, e with
  | .ref n, .ref k => (match h2[n]?, h2[k]? with
    | some (.lst _), some (.lst _) => .ok (.zip (.lst n) (.lst k)) h2
    | _, _ => .stuck)
  | _, _ => .stuck
/-- the pairs of a dict, sought in b -/
def eqKs (h : LH) (b : List (Ky × D)) : List (Ky × D) → Option Bool
  | [] => some true
  | (k, d) :: r => match valD b k with
    | none => some false
    | some e => match deep h 60 d, deep h 60 e with
      | some x, some y => if (SeqAt.shaped x && SeqAt.shaped y) = true then (eqKs h b r).map (PyData.eqv x y && ·) else none
      | _, _ => none
/-- == and != of two dicts of plain values -/
def oEqK (neg : Bool) : D → D → LH → R D := fun x y h => match dctR x h, dctR y h with
  | some a, some b => (match eqKs h b a with
    | some r => .ok (.bl (if neg then !(a.length == b.length && r) else (a.length == b.length && r))) h
    | none => .stuck)
  | _, _ => .stuck
section
variable {X : Cx} {G : Gam} {E : XK}
variable {a b : Expr} {fa fb : EX} {p pos tpos : Pos} {elts : List Expr} {kk : Nat}
/-! ### == of dicts -/
end
end Py

set_option Elab.async false
set_option linter.all false
set_option maxRecDepth 100000
set_option maxHeartbeats 2000000
/-! Own layer: == where a built-in declines and the own __eq__ of the right thing is asked. -/
namespace Py
open PySem PySem.Spec PyProof.Rows L2 PySem.W
open Builtin
section
variable {prog : Program} {w : World} {A : Around} {E : Value → Shared → Prop} {s : Shared} {K : Frag} {x C L f l : Addr} {h₀ : Heap} {m : Str → Option Value} {ox : Obj} {od : Option Obj} {v : Value} {dx : Addr}
theorem isNo {T : String} {M : Model} {Q : Bool → Shared → Prop} (X : K.In s.heap) (I : InstAt s.heap x ox C od) (hm : mroIn K C (.type T) = some false) (q : Q false s) : wpAny M A (isInstance (.ref x) (.type T)) Q E s :=
  wpAny_bind (I.type.here ((looks_mroIn X hm).here q))
end
def kindNames : List String := ["NoneType", "bool", "int", "str", "tuple", "list", "dict"]
/-- x == y, y of the class c with its own __eq__, x of a built-in kind -/
def oEqR (c : Nat) (cf : CF) : D → D → LH → R D := fun x y h => match kindD x h, y with
  | some _, .ref n => (match h[n]? with
    | some (.ins c' _) => if c' = c then (cf [y, x] h).bind fun v h1 => (match v with
      | .bl b => .ok (.bl b) h1
      | _ => .stuck) else .stuck
    | _ => .stuck)
  | _, _ => .stuck
section
variable {X : Cx} {G : Gam} {E : XK} {CX : CXT}
end
end Py

set_option Elab.async false
set_option linter.all false
set_option maxRecDepth 100000
set_option maxHeartbeats 2000000
/-! Own layer: a loop over the keys of a dict that is read meanwhile, not written. -/
namespace Py
open PySem PySem.Spec PyProof.Rows L2
def kyD : Ky → D
  | .inl i => .int i
  | .inr x => .str x
/-- the dict at n set free behind the loop -/
def unF (n : Nat) (kvs : List (Ky × D)) : F → F
  | .nx r h => (match h[n]? with
    | some (.hid _) => .nx r (h.set n (.dct kvs))
    | _ => .stuck)
  | .rt d h => (match h[n]? with
    | some (.hid _) => .rt d (h.set n (.dct kvs))
    | _ => .stuck)
  | _ => .stuck
/-- for k in o: .. -/
def sForK (fo : EX) (g : GX) (b : SX) : SX := fun r h => match fo r h with
  | .ok (.ref n) _ => (match h[n]? with
    | some (.dct kvs) => (match fo r (h.set n (.hid kvs)) with
      | .ok (.ref n2) h1 => if n2 = n then (match h1[n]? with
        | some (.hid _) => unF n kvs (forX (.its (kvs.map fun p => kyD p.1)) g b fuelN 0 r h1)
        | _ => .stuck) else .stuck
      | _ => .stuck)
    | _ => .stuck)
  | _ => .stuck
section
variable {G : Gam} {K : PySem.W.Frag} {d : Addr} {od : Obj} {vs0 : List (L2.Key × V)}
theorem RelKs.keys {m : Nat → Addr} {N : Nat} {H : Hp} : ∀ {ks : List (Ky × D)} {vs : List (L2.Key × V)}, RelKs K m N H ks vs → RelDs K m N H (ks.map fun p => kyD p.1) (vs.map fun p => kV p.1)
  | _, _, .nil => .nil
  | _, _, .cons (k := k) _ r => .cons (by cases k with | inl i => exact .int i | inr x => exact .str x) (RelKs.keys r)
end
section
variable {X : Cx} {G : Gam} {E : XK} {tg o : Expr} {body : List Stmt} {pos : Pos} {fo : EX} {g : GX} {tb : SX}
theorem RelS.to0 {K : PySem.W.Frag} {m : Nat → Addr} {N : Nat} {H H' : Hp} (t : TK0 K H H') : ∀ {r : LS} {s : L2.St}, RelS K m N H r s → RelS K m N H' r s
  | _, _, .nil => .nil
  | _, _, .no r => .no (RelS.to0 t r)
  | _, _, .yes h r => .yes (h.to0 t) (RelS.to0 t r)
end
end Py

set_option Elab.async false
set_option linter.all false
set_option maxRecDepth 100000
set_option maxHeartbeats 2000000
/-! Own layer: [.. for k, v in d.items() ..], [*l, ..], sep.join(l), {x!r}. -/
namespace Py
open PySem PySem.Spec PyProof.Rows L2
/-- [*l, ..] -/
def aStar (fo : EX) (fa : AX) : AX := fun r h => (fo r h).bind fun x h1 => match seqD x h1 with
  | some xs => (fa r h1).bind fun ds h2 => .ok (xs ++ ds) h2
  | none => .stuck
/-- sep.join(l), a list or a tuple of texts -/
def eJoinL (fo fe : EX) : EX := fun r h => (fo r h).bind fun x h1 => match x with
  | .str a => (fe r h1).bind fun y h2 => (match (seqD y h2).bind strsD with
    | some ys => if (ys.map (·.length)).sum + ys.length * a.length ≤ 16777216 then .ok (.str (Txt.join a ys)) h2 else .stuck
    | none => .stuck)
  | _ => .stuck
/-- {x!r} -/
def oFmtR : D → LH → R D := fun d h => match d with
  | .str x => if (reprText x).length ≤ sizeLine then .ok (.str (reprText x)) h else .stuck
  | .bl b => .ok (.str (if b then "True" else "False")) h
  | .int i => if i.natAbs.log2 < 1920 then .ok (.str (toString i)) h else .stuck
  | .tup xs => (match deep h 60 (.tup xs) with
    | some a => if showOk a = true then .ok (.str a.shown) h else .stuck
    | none => .stuck)
  | .ref n => (match deep h 60 (.ref n) with
    | some a => if showOk a = true then .ok (.str a.shown) h else .stuck
    | none => .stuck)
  | _ => .stuck
/-- [e for k, v in o.items() if t]; the dict is walked, nothing writes it meanwhile -/
def eCompI (vs : List Nat) (fo ft fe : EX) : EX := fun r h => match fo r h with
  | .ok (.ref n) _ => (match h[n]? with
    | some (.dct kvs) => (match fo r (h.set n (.hid kvs)) with
      | .ok (.ref n2) h1 => if n2 = n ∧ (kvs.all fun p => notS p.2) = true then (match h1[n]? with
        | some (.hid _) => (match compX (.its (kvs.map fun p => .tup [kyD p.1, p.2])) vs ft fe fuelN 0 [] (wipeL r vs) h1 with
          | .ok acc h2 => (match h2[n]? with
            | some (.hid _) => .ok (.ref h2.length) ((h2 ++ [O.lst acc]).set n (.dct kvs))
            | _ => .stuck)
          | _ => .stuck)
        | _ => .stuck) else .stuck
      | _ => .stuck)
    | _ => .stuck)
  | _ => .stuck
theorem RelKs.get {K : PySem.W.Frag} {m : Nat → Addr} {N : Nat} {H : Hp} : ∀ {ks : List (Ky × D)} {vs : List (L2.Key × V)} {i : Nat} {p : Ky × D}, RelKs K m N H ks vs → ks[i]? = some p → ∃ v, vs[i]? = some (p.1, v) ∧ RelD K m N H p.2 v
  | _, _, _, _, .nil, e => by cases e
  | _, _, 0, p, .cons (v := v) h _, e => by cases e; exact ⟨v, rfl, h⟩
  | _, _, i + 1, _, .cons _ r, e => RelKs.get (i := i) r e
section
variable {G : Gam} {K : PySem.W.Frag} {d : Addr} {od : Obj} {vs0 : List (L2.Key × V)}
end
section
variable {X : Cx} {G : Gam} {E : XK} {CX : CXT}
variable {elts : List Expr} {kk : Nat} {tpos : Pos}
variable {a e : Expr} {es : List Expr} {fa fe fo : EX} {fs : AX} {p pos apos : Pos}
theorem xaStar (ho : PE X e (tE G X.K E fo)) (hr : PA X es (tA G X.K E fs)) (hs : starEach (.Starred e p :: es) X.env = (true, eval e X.env) :: starEach es X.env := by rfl) :
    PA X (.Starred e p :: es) (tA G X.K E (aStar fo fs)) :=
  PA_mono (StX.pa_star ho hr hs) fun σ H Q ⟨m, r, h, rh, rs, o⟩ => by
    refine ⟨m, r, h, rh, rs, ?_⟩
    rcases OutA.bindR o with ⟨x, h1, e, o⟩ | ⟨c, fs, h1, e, o⟩
    · rw [e]
      intro m1 H1 v p1 d1
      cases q : seqD x h1 with
      | none => simp only [q] at o; exact o.elim
      | some xs =>
        simp only [q] at o
        obtain ⟨b, vs, rfl, sq, rd⟩ := seq_ok p1.rel d1 q
        refine ⟨b, vs, rfl, sq.symm, m1, r, h1, p1.rel, p1.s rs, ?_⟩
        rcases OutA.bindR o with ⟨ds, h2, e, o⟩ | ⟨c, fs, h2, e, o⟩
        · rw [e]
          intro m2 H2 ws p2 d2
          exact o m2 H2 _ (p1.trans p2) (relds_app (p2.ds rd) d2)
        · rw [e]; exact OutX.later p1 o
    · rw [e]; exact o
theorem xJoinL (ho : PE X a (tE G X.K E fo)) (he : PE X e (tE G X.K E fe)) (hs : starEach [e] X.env = [(false, eval e X.env)] := by rfl) (hbase : attributeBase a "join" X.env (eval a X.env) = eval a X.env := by rfl) (hline : (apos.endLine == pos.line) = true := by rfl) :
    PE X (.Call (.Attribute a "join" apos) [e] [] pos) (tE G X.K E (eJoinL fo fe)) := by
  refine PE_mono (pe_join ho he hs hbase hline) ?_
  rintro σ H Q ⟨m, r, h, rh, rs, o⟩
  refine ⟨m, r, h, rh, rs, ?_⟩
  rcases Out.bindR o with ⟨x, h1, e, o⟩ | ⟨c, fs, h1, e, o⟩
  · rw [e]
    intro m1 H1 v p1 d1
    cases d1 with
    | str y =>
      simp only at o
      refine ⟨⟨y, rfl⟩, m1, r, h1, p1.rel, p1.s rs, ?_⟩
      rcases Out.bindR o with ⟨z, h2, e, o⟩ | ⟨c, fs, h2, e, o⟩
      · rw [e]
        intro m2 H2 w p2 d2
        cases q : seqD z h2 with
        | none => simp only [q, Option.bind_none] at o; exact o.elim
        | some xs =>
          simp only [q, Option.bind_some] at o
          cases q2 : strsD xs with
          | none => simp only [q2] at o; exact o.elim
          | some ys =>
            simp only [q2] at o
            by_cases hl : (ys.map (·.length)).sum + ys.length * y.length ≤ 16777216
            · rw [if_pos hl] at o
              obtain ⟨b, vs, rfl, sq, rd⟩ := seq_ok p2.rel d2 q
              obtain rfl := strs_ok rd q2
              exact ⟨y, b, ys, rfl, rfl, sq, hl, o m2 H2 _ (p1.trans p2) (.str _)⟩
            · rw [if_neg hl] at o; exact o.elim
      · rw [e]; exact OutX.later p1 o
    | _ => exact o.elim
  · rw [e]; exact o
end
end Py

set_option Elab.async false
set_option linter.all false
set_option maxRecDepth 100000
set_option maxHeartbeats 2000000
/-! Own layer: texts sign by sign, their parts, int(text), str(int), a list unpacked, d[k] as a target, dict(list(d.items())). -/
namespace Py
open PySem PySem.Spec PyProof.Rows L2
/-- the signs of a text -/
def signsD (x : Str) : List D := x.cps.toList.map fun c => .str ⟨#[c]⟩
/-- what is walked: a text -/
def iStr (a : EX) : IX := fun r h => (a r h).bind fun d h1 => match d with
  | .str x => .ok (.its (signsD x)) h1
  | _ => .stuck
/-- x[lo:hi], x a text -/
def eSlS (a : EX) (lo hi : PX) : EX := fun r h => (a r h).bind fun x h1 => (lo r h1).bind fun l h2 => (hi r h2).bind fun u h3 => match x with
  | .str z => if z.length ≤ sizeLine then .ok (.str (cutS z l u)) h3 else .stuck
  | _ => .stuck
/-- x[i], x a text -/
def oIxS : D → D → LH → R D := fun x y h => match x, y with
  | .str z, .int i => if z.length ≤ sizeLine then (match L2.atI z.cps.toList i with
    | some c => .ok (.str ⟨#[c]⟩) h
    | none => .stuck) else .stuck
  | _, _ => .stuck
/-- a sign in a text -/
def oInS (neg : Bool) : D → D → LH → R D := fun x y h => match x, y with
  | .str s, .str z => (match s.cps.toList with
    | [c] => .ok (.bl (if neg then !decide (c ∈ z.cps.toList) else decide (c ∈ z.cps.toList))) h
    | _ => .stuck)
  | _, _ => .stuck
/-- str(x), a whole number or a text -/
def bStr : List D → LH → R D
  | [.int i], h => if i.natAbs.log2 < 1920 then .ok (.str (toString i)) h else .stuck
  | [.str x], h => .ok (.str x) h
  | _, _ => .stuck
/-- int(x), a text too -/
def bIntS : List D → LH → R D
  | [.str a], h => (match PySem.intText? a with
    | some n => if a.length ≤ 640 then .ok (.int n) h else .stuck
    | none => .stuck)
  | xs, h => bInt xs h
/-- a, b, .. = a list -/
def gL (n : Nat) (gs : GXs) : GX := fun d r h => match d with
  | .ref k => (match h[k]? with
    | some (.lst xs) => if xs.length = n then gs xs r h else .stuck
    | _ => .stuck)
  | _ => .stuck
/-- d[k] as a target -/
def gDput (o i : EX) : GX := fun d r h => (o r h).to fun x h1 => (i r h1).to fun y h2 => match x, keyD y with
  | .ref n, some k => (match h2[n]? with
    | some (.dct kvs) => if kvs.length < sizeLine then .nx r (h2.set n (.dct (putD kvs k d))) else .stuck
    | _ => .stuck)
  | _, _ => .stuck
/-- dict(list(o.items())) -/
def eDictItems (fo : EX) : EX := fun r h => (fo r h).bind fun x h1 => match dctD x h1 with
  | some ks => .ok (.ref h1.length) (h1 ++ [.dct (mergeD [] ks)])
  | none => .stuck
section
variable {X : Cx} {G : Gam} {E : XK} {CX : CXT} {a b e o i : Expr} {fa fb fe fo fi : EX} {pos p2 apos cpos : Pos} {lo hi : Option Expr}
theorem it_str {K : PySem.W.Frag} {m0 : Nat → Addr} {h0 : LH} {H0 : Hp} {x : Str} : ItRel G K m0 h0 H0 (Its x) (.its (signsD x)) := by
  intro m h H i p
  simp only [srcAt, signsD, List.getElem?_map]
  cases z : x.cps.toList[i]? with
  | none =>
    have e := List.getElem?_eq_none_iff.mp z
    show x.cps.size ≤ i
    simpa using e
  | some c =>
    have li := (List.getElem?_eq_some_iff.mp z).1
    refine ⟨by show i < x.cps.size; simpa using li, ?_⟩
    rintro y H' ⟨rfl, c', hc, rfl⟩
    rw [← Array.getElem?_toList, z] at hc
    cases hc
    exact ⟨Post.refl p.rel, .str _⟩
theorem iStr_ok {tg : Expr} (ha : PE X a (tE G X.K E fa)) : PI X tg a (tI G X.K E (Py.iStr fa)) := by
  refine PI_mono (pi_str ha) ?_
  rintro σ H Q ⟨m, r, h, rh, rs, o⟩
  refine ⟨m, r, h, rh, rs, ?_⟩
  rcases OutI.bindR o with ⟨d, h1, e, o⟩ | ⟨c, fs, h1, e, o⟩
  · rw [e]
    intro m1 H1 v p1 d1
    cases d1 with
    | str x => exact ⟨x, rfl, o m1 H1 _ p1 it_str⟩
    | _ => exact o.elim
  · rw [e]; exact o
theorem xSlS {pl pu : PX} (ha : PE X a (tE G X.K E fa)) (hl : PO X lo (tP G X.K E pl)) (hu : PO X hi (tP G X.K E pu)) : PE X (.Subscript a (.Slice lo hi none p2) pos) (tE G X.K E (eSlS fa pl pu)) := by
  refine PE_mono (pe_slice sl_str ha hl hu) ?_
  rintro σ H Q ⟨m, r, h, rh, rs, o⟩
  refine ⟨m, r, h, rh, rs, ?_⟩
  unfold eSlS at o
  cases q : fa r h with
  | stuck => rw [q] at o; exact o
  | exc c fs h1 => rw [q] at o; exact o
  | ok x h1 =>
    rw [q, R.bind_ok] at o
    intro m1 H1 v p1 d1
    refine ⟨m1, r, h1, p1.rel, p1.s rs, ?_⟩
    cases q1 : pl r h1 with
    | stuck => rw [q1] at o; exact o.elim
    | exc c fs h2 => rw [q1] at o; exact OutX.later p1 o
    | ok l h2 =>
      rw [q1, R.bind_ok] at o
      intro m2 H2 p2
      refine ⟨m2, r, h2, p2.rel, p2.s (p1.s rs), ?_⟩
      cases q2 : pu r h2 with
      | stuck => rw [q2] at o; exact o.elim
      | exc c fs h3 => rw [q2] at o; exact OutX.later (p1.trans p2) o
      | ok u h3 =>
        rw [q2, R.bind_ok] at o
        intro m3 H3 p3
        have pp := p1.trans (p2.trans p3)
        have d3 := (p2.trans p3).d d1
        cases d3 with
        | str z =>
          simp only at o
          by_cases hz : z.length ≤ sizeLine
          · rw [if_pos hz] at o
            exact ⟨z, rfl, hz, o m3 H3 _ pp (.str _)⟩
          · rw [if_neg hz] at o; exact o.elim
        | _ => exact o.elim
theorem ixS_ok : IxR X (r2 G X.K E oIxS) := by
  intro va sli pins s σ H x y v u Q I rx ry ⟨m, h, dx, dy, rh, d1, d2, o⟩ hpl
  cases d1 with
  | str z =>
    cases d2 with
    | int i =>
      simp only [oIxS] at o
      by_cases hz : z.length ≤ sizeLine
      · rw [if_pos hz] at o
        cases q : L2.atI z.cps.toList i with
        | none => simp only [q] at o; exact o.elim
        | some c =>
          simp only [q] at o
          exact ix_str va sli pins s σ H _ _ v u Q I rx ry ⟨z, i, c, rfl, rfl, hz, q, o m H _ (Post.refl rh) (.str _)⟩ hpl
      · rw [if_neg hz] at o; exact o.elim
    | _ => exact o.elim
  | _ => exact o.elim
theorem xIxS (ha : PE X a (tE G X.K E fa)) (hb : PE X b (tE G X.K E fb)) (hs : PlainIx b := by exact fun _ _ => rfl) : PE X (.Subscript a b pos) (tE G X.K E (e2 oIxS fa fb)) :=
  PE_mono (pe_ix ixS_ok ha hb hs) fun σ H Q t => toOp t
theorem inS_ok : OpR X (compareOp .In) (r2 G X.K E (oInS false)) := by
  intro pins s σ H x y v u Q I rx ry ⟨m, h, dx, dy, rh, d1, d2, o⟩
  cases d1 with
  | str a =>
    cases d2 with
    | str z =>
      simp only [oInS] at o
      cases q : a.cps.toList with
      | nil => simp only [q] at o; exact o.elim
      | cons c cs =>
        cases cs with
        | cons _ _ => simp only [q] at o; exact o.elim
        | nil =>
          simp only [q] at o
          have ea : a = ⟨#[c]⟩ := by
            cases a; congr 1; apply Array.toList_inj.mp; exact q
          exact op_in_sign pins s σ H _ _ v u Q I rx ry ⟨c, z, by rw [ea], rfl, o m H _ (Post.refl rh) (.bl _)⟩
    | _ => exact o.elim
  | _ => exact o.elim
theorem str_okB : CallR X (.type "str") (rA G X.K E bStr) := by
  intro pins s σ H xs us Q I r ⟨m, h, ds, rh, rd, o⟩
  cases rd with
  | nil => exact o.elim
  | cons a b =>
    cases b with
    | cons _ _ => cases a <;> exact o.elim
    | nil =>
      cases a with
      | int i =>
        simp only [bStr] at o
        by_cases hi : i.natAbs.log2 < 1920
        · rw [if_pos hi] at o
          exact call_str_int pins s σ H _ us Q I r ⟨i, rfl, hi, o m H _ (Post.refl rh) (.str _)⟩
        · rw [if_neg hi] at o; exact o.elim
      | str x => exact SkE.call_str_str pins s σ H _ us Q I r ⟨x, rfl, o m H _ (Post.refl rh) (.str _)⟩
      | _ => exact o.elim
theorem intS_okB : CallR X (.type "int") (rA G X.K E bIntS) := by
  intro pins s σ H xs us Q I r ⟨m, h, ds, rh, rd, o⟩
  have gen : bIntS ds h = bInt ds h → wpAny (model X.prog X.w) X.A (call (.type "int") us) (EP X pins σ Q) X.xe s := fun e => int_okB pins s σ H xs us Q I r ⟨m, h, ds, rh, rd, e ▸ o⟩
  cases rd with
  | nil => exact gen rfl
  | cons a b =>
    cases b with
    | cons _ _ => cases a <;> exact gen rfl
    | nil =>
      cases a with
      | str x =>
        simp only [bIntS] at o
        cases q : PySem.intText? x with
        | none => simp only [q] at o; exact o.elim
        | some n =>
          simp only [q] at o
          by_cases hl : x.length ≤ 640
          · rw [if_pos hl] at o
            exact call_int_str pins s σ H _ us Q I r ⟨x, n, rfl, q, hl, o m H _ (Post.refl rh) (.int _)⟩
          · rw [if_neg hl] at o; exact o.elim
      | _ => exact gen rfl
end
end Py

set_option Elab.async false
set_option linter.all false
set_option maxRecDepth 100000
set_option maxHeartbeats 2000000
/-! Own layer: x.index(y) and x.upper() of texts, list(a dict). -/
namespace Py
open PySem PySem.Spec PyProof.Rows L2
/-- where a text stands in a text -/
def oSIx (a : Str) : D → LH → R D := fun y h => match y with
  | .str b => (match Builtin.Str.occurrences a b 0 a.length 1 with
    | i :: _ => .ok (.int (i : Nat)) h
    | [] => .stuck)
  | _ => .stuck
def eSIx (fo fi : EX) : EX := fun r h => (fo r h).bind fun x h1 => match x with
  | .str a => (fi r h1).bind fun y h2 => oSIx a y h2
  | _ => .stuck
def eUp (fo : EX) : EX := fun r h => (fo r h).bind fun x h1 => match x with
  | .str a => if a.length ≤ 5592405 then .ok (.str (Txt.upper a)) h1 else .stuck
  | _ => .stuck
/-- list(x), a dict too -/
def bListK : List D → LH → R D := fun ds h => match ds with
  | [d] => (match dctD d h with
    | some kvs => .ok (.ref h.length) (h ++ [.lst (kvs.map fun p => kyD p.1)])
    | none => bList [d] h)
  | _ => .stuck
section
variable {X : Cx} {G : Gam} {E : XK} {o e : Expr} {fo fi : EX} {apos pos : Pos}
theorem xSIx (ho : PE X o (tE G X.K E fo)) (he : PE X e (tE G X.K E fi)) (hs : starEach [e] X.env = [(false, eval e X.env)] := by rfl)
    (hbase : attributeBase o "index" X.env (eval o X.env) = eval o X.env := by rfl) (hline : (apos.endLine == pos.line) = true := by rfl) : PE X (.Call (.Attribute o "index" apos) [e] [] pos) (tE G X.K E (eSIx fo fi)) := by
  refine PE_mono (pe_m1 PySem.F.slot_str_index PySem.F.type_str_index mt_sindex ho he hs hbase hline) ?_
  rintro σ H Q ⟨m, r, h, rh, rs, o⟩
  refine ⟨m, r, h, rh, rs, ?_⟩
  rcases Out.bindR o with ⟨x, h1, e, o⟩ | ⟨c, fs, h1, e, o⟩
  · rw [e]
    intro m1 H1 v p1 d1
    cases d1 with
    | str a =>
      refine ⟨⟨a, rfl⟩, m1, r, h1, p1.rel, p1.s rs, ?_⟩
      simp only at o
      rcases Out.bindR o with ⟨y, h2, e, o⟩ | ⟨c, fs, h2, e, o⟩
      · rw [e]
        intro m2 H2 w p2 d2
        have o := Out.later (p1.trans p2) o
        cases d2 with
        | str b =>
          simp only [oSIx] at o
          cases q : Builtin.Str.occurrences a b 0 a.length 1 with
          | nil => simp only [q] at o; exact o.elim
          | cons i rest =>
            simp only [q] at o
            exact ⟨a, b, i, rest, rfl, rfl, q, o m2 H2 _ (Post.refl p2.rel) (.int _)⟩
        | _ => exact o.elim
      · rw [e]; exact OutX.later p1 o
    | _ => exact o.elim
  · rw [e]; exact o
theorem xUp (ho : PE X o (tE G X.K E fo)) (hbase : attributeBase o "upper" X.env (eval o X.env) = eval o X.env := by rfl) (hline : (apos.endLine == pos.line) = true := by rfl) : PE X (.Call (.Attribute o "upper" apos) [] [] pos) (tE G X.K E (eUp fo)) := by
  refine PE_mono (pe_upper ho hbase hline) ?_
  rintro σ H Q ⟨m, r, h, rh, rs, o⟩
  refine ⟨m, r, h, rh, rs, ?_⟩
  rcases Out.bindR o with ⟨x, h1, e, o⟩ | ⟨c, fs, h1, e, o⟩
  · rw [e]
    intro m1 H1 v p1 d1
    cases d1 with
    | str a =>
      simp only at o
      by_cases c : a.length ≤ 5592405
      · rw [if_pos c] at o
        exact ⟨⟨a, rfl⟩, a, rfl, rfl, c, o m1 H1 _ p1 (.str _)⟩
      · rw [if_neg c] at o; exact o.elim
    | _ => exact o.elim
  · rw [e]; exact o
theorem listK_okB (hc : X.calm = true) : CallR X (.type "list") (rA G X.K E bListK) := by
  intro pins s σ H xs us Q I r ⟨m, h, ds, rh, rd, o⟩
  cases rd with
  | nil => exact o.elim
  | @cons d v ds vs a b =>
    cases b with
    | cons _ _ => exact o.elim
    | nil =>
      simp only [bListK] at o
      cases q : dctD d h with
      | none => simp only [q] at o; exact list_okB pins s σ H _ us Q I r ⟨m, h, [d], rh, .cons a .nil, o⟩
      | some kvs =>
        simp only [q] at o
        obtain ⟨n, vs, rfl, hn, rfl, _, e2, rk⟩ := dctD_ok rh a q
        refine call_listD hc pins s σ H _ us Q I r ⟨m n, vs, rfl, .inl e2, fun p hp => ?_⟩
        exact out_lst rh (RelKs.keys rk) o p hp
end
end Py

set_option Elab.async false
set_option linter.all false
set_option maxRecDepth 100000
set_option maxHeartbeats 2000000
/-! Own layer: whether a text is a key of a dict of the module. -/
namespace Py
open PySem PySem.Spec PyProof.Rows L2
def eTinF (neg : Bool) (t : Tb) (a : EX) : EX := e1 (fun x h => match x with
  | .str z => .ok (.bl (if neg then (tbAt t z).isNone else (tbAt t z).isSome)) h
  | _ => .stuck) a
/-- the dict holds just these -/
def TbF (K : PySem.W.Frag) (w : World) (a : Addr) (t : Tb) : Prop := TbK K w a t ∧ ∀ z, tbAt t z = none → PySem.W.nsIn K a z = some none
theorem dicW_es {K : PySem.W.Frag} {a : Addr} {l : List (Option (Str × Int))} (h : He.dicW K a = some l) :
    (a == sysModules) = false ∧ ∃ es n, K.lookup a = some ⟨.type "dict", none, .dict es n, #[]⟩ ∧ es.toList.map He.keyOf = l := by
  unfold He.dicW at h
  cases q : K.lookup a with
  | none => rw [q] at h; cases h
  | some o =>
    obtain ⟨oc, od, dt, osl⟩ := o
    rw [q] at h
    cases oc with
    | type c =>
      cases od with
      | none =>
        cases dt with
        | dict es n =>
          have h1 : (match decide (c = "dict") && (osl.isEmpty && !(a == sysModules)) with | true => some (es.toList.map He.keyOf) | false => none) = some l := h
          cases z : (decide (c = "dict") && (osl.isEmpty && !(a == sysModules))) with
          | false => rw [z] at h1; cases h1
          | true =>
            rw [z] at h1
            simp only [Bool.and_eq_true, decide_eq_true_eq, Bool.not_eq_true'] at z
            obtain ⟨rfl, z2, z3⟩ := z
            have e : osl = #[] := by simpa using z2
            subst e
            exact ⟨z3, es, n, rfl, Option.some.inj h1⟩
        | _ => cases h
      | some _ => cases h
    | _ => cases h
theorem find_none {P : Params} {z : Str} : ∀ {l : List DictEntry} {ks : List Str}, l.map He.keyOf = He.keysIn P ks → z ∉ ks → l.find? (·.key.isStr z) = none ∧ l.any (·.refKey) = false
  | [], _, _, _ => ⟨rfl, rfl⟩
  | e :: r, [], h, _ => by cases h
  | e :: r, k :: ks, h, m => by
    have h1 : He.keyOf e :: r.map He.keyOf = some (k, PyData.keyHash P k) :: He.keysIn P ks := h
    injection h1 with h2 h3
    obtain ⟨i1, i2⟩ := find_none (z := z) h3 fun q => m (List.mem_cons_of_mem _ q)
    have kz : k ≠ z := fun q => m (by rw [q]; exact List.mem_cons_self ..)
    have ek : ∃ t, e.key = .str k t := by
      unfold He.keyOf at h2
      split at h2
      · rename_i x t q
        obtain ⟨h5, h6⟩ := Prod.mk.inj (Option.some.inj h2)
        exact ⟨t, by rw [q, h5]⟩
      · cases h2
    obtain ⟨t, ek⟩ := ek
    have s1 : e.key.isStr z = false := by
      rw [ek]
      simp only [Value.isStr]
      simpa using kz
    have s2 : e.refKey = false := by
      unfold DictEntry.refKey; rw [ek]
    exact ⟨by rw [List.find?_cons, s1]; exact i1, by rw [List.any_cons, s2, i2]; rfl⟩
theorem tbAt_none {z : Str} : ∀ {t : Tb}, tbAt t z = none → z ∉ t.map (·.1)
  | [], _, m => by simp at m
  | (a, i) :: r, h, m => by
    unfold tbAt at h
    split at h
    · cases h
    · rename_i c
      rcases List.mem_cons.1 m with q | q
      · exact c q.symm
      · exact tbAt_none h q
theorem tbF_of {K : PySem.W.Frag} {w : World} {a : Addr} {t : Tb} (h : He.dicW K a = some (He.keysIn w.params (t.map (·.1)))) (hv : ∀ z i, tbAt t z = some i → ∃ tk, PySem.W.nsIn K a z = some (some (.int i tk))) : TbF K w a t := by
  obtain ⟨hs, es, n, hl, hq⟩ := dicW_es h
  refine ⟨⟨hs, es, n, hl, He.keysLit_of hq, hv⟩, fun z e => ?_⟩
  obtain ⟨f1, f2⟩ := find_none hq (tbAt_none e)
  unfold PySem.W.nsIn
  rw [hl]
  simp only [f1, f2]
  rfl
section
variable {X : Cx} {G : Gam} {E : XK} {x : Expr} {fx : EX} {y : Str} {a : Addr} {t : Tb} {p pos : Pos}
theorem tbF_ns {K : PySem.W.Frag} {w : World} (T : TbF K w a t) (z : Str) : ∃ r, PySem.W.nsIn K a z = some r ∧ r.isSome = (tbAt t z).isSome := by
  cases q : tbAt t z with
  | none => exact ⟨none, T.2 z q, rfl⟩
  | some i =>
    obtain ⟨⟨_, es, n, hl, hk, all⟩, _⟩ := T
    obtain ⟨tk, hz⟩ := all z i q
    exact ⟨_, hz, rfl⟩
theorem tnotinF_ok (T : TbF X.K X.w a t) : OpR X (compareOp .NotIn) (fun v w H Q => ∃ z, v = .str z ∧ w = .ref a ∧ Q (.bl (tbAt t z).isNone) H) := by
  rintro pins s σ H v w u u2 Q I rv rw' ⟨z, rfl, rfl, k⟩
  obtain ⟨r, hz, er⟩ := tbF_ns T z
  obtain ⟨⟨hsm, es, n, hl, hk, all⟩, _⟩ := id T
  obtain rfl : u2 = Value.ref a := rw'
  obtain ⟨t', rfl⟩ := (show ∃ t', u = Value.str z t' from rv)
  have hm := PySem.W.mapOf_K (prog := X.prog) (w := X.w) I.kIn hl hk
  refine wpAny_notIn_of (strKind_is X.prog X.w z t') hsm hm ?_
  rw [PySem.W.find_K hl hz]
  have e2 : (tbAt t z).isNone = !r.isSome := by rw [er]; cases tbAt t z <;> rfl
  rw [e2] at k
  exact ⟨.bl (!r.isSome), H, I.tok _, rfl, k⟩
theorem yTnotinF (T : TbF X.K X.w a t) (hg : Gl X y) (hm : X.mg y = some (.ref a)) (hx : PE X x (tE G X.K E fx)) (hd : (y == ("__debug__" : Str)) = false := by decide) : PT X (.Compare x [.NotIn] [.Name y p] pos) (tT G X.K E (eTinF true t fx)) := by
  refine PT_mono (pt_cmpR (tnotinF_ok T) hx (pe_glob (v := .ref a) hg hm rfl hd) rfl) ?_
  rintro σ H Q ⟨m, r, h, rh, rs, o⟩
  refine ⟨m, r, h, rh, rs, ?_⟩
  have o : OutT G X.K E m h.length H Q ((fx r h).bind fun x h => match x with
    | .str z => .ok (.bl (if true then (tbAt t z).isNone else (tbAt t z).isSome)) h
    | _ => .stuck) := o
  cases e : fx r h with
  | stuck => rw [e] at o; exact o.elim
  | exc c fs h1 => rw [e] at o; exact o
  | ok d h1 =>
    rw [e, R.bind_ok] at o
    intro m1 H1 v p1 d1
    cases d1 with
    | str z =>
      simp only at o
      obtain ⟨b, eb, o⟩ := o
      cases eb
      exact ⟨z, rfl, rfl, _, rfl, o m1 H1 p1⟩
    | _ => exact o.elim
end
end Py

set_option Elab.async false
set_option linter.all false
set_option maxRecDepth 100000
set_option maxHeartbeats 3000000
/-! Own layer: exceptions of the program's own classes, over any built-in base. -/
namespace Py
open PySem L2 PySem.Spec PyProof.Rows
/-- what is asked of the built-in class under an own one -/
structure BaseX (tl : List Value) (newId : String) : Prop where
  ok : ∃ B initId, ExcBaseFacts B newId initId tl ∧ PySem.StoreFacts B tl "object.__setattr__" "object"
theorem base_VE : BaseX [.type "ValueError", .type "Exception", .type "BaseException", .type "object"] "ValueError.__new__" := ⟨_, _, PySem.F.excBase_ValueError, PySem.F.store_ValueError⟩
/-- an own class of errors -/
structure ExC (K : PySem.W.Frag) (C : Addr) : Prop where
  base : ∃ tl newId, BaseX tl newId ∧ PySem.W.excInitIn K C tl newId = true ∧ PySem.W.excOver K C tl = true
  dict : PySem.W.hasDictIn K C = true
  put : PySem.W.findIn K (.ref C) "__setattr__" = some (some (.builtin "object.__setattr__"))
  sub : PySem.W.subIn K (.ref C) (.type "BaseException") = some true
  typ : PySem.W.typeIn K (.ref C) = some (.type "type")
  keeps : PySem.W.keepIn K (.ref C) = true
section
open PySem.Builtin PySem.Builtin.ObjectAttr
variable {prog : Program} {w : World} {A : Around} {R : Result → Shared → Prop} {hp : Heap} {g : Array GenState} {d : Drawn} {t : Nat} {os : OsState}
/-- the first field of an exception that has no dict -/
theorem osa_first {K : PySem.W.Frag} {nm : Str} {tok : Tok} {val : Value} {x C t1 : Addr} (T : ExC K C) (X : K.In hp)
    (hx : hp.get? x = some ({ cls := .ref C, dict := none, data := .fields #[.ref t1, .none, .none, .none, .bool false, .none] } : Obj)) (ha : PySem.W.takerIn K C nm = some none)
    (go : ∀ h' tk' dx, (∀ b o, b ≠ x → hp.get? b = some o → h'.get? b = some o) → hp.objs.size ≤ dx → dx ≠ x →
      h'.get? x = some ({ cls := .ref C, dict := some dx, data := .fields #[.ref t1, .none, .none, .none, .bool false, .none] } : Obj) →
      h'.Ns1 dx (fun y => if y = nm then some val else none) → R (.ok (.ret .none)) ⟨h', g, d, tk', os⟩) :
    codeAny (model prog w) A (.call (.builtin "object.__setattr__") ⟨[.ref x, .str nm tok, val], []⟩) R ⟨hp, g, d, t, os⟩ := by
  obtain ⟨tl, newId, ⟨B, initId, F, SF⟩, _, ho⟩ := T.base
  refine PySem.W.osa_openX (od := none) SF X ⟨hx, rfl, rfl, trivial⟩ ho ha fun b => ?_
  obtain ⟨cd, hc, hd⟩ := PySem.W.any_some T.dict
  have ne : x ≠ hp.objs.size := Nat.ne_of_lt (Heap.lt_size hx)
  refine wpAny_bind (wpAny_pure (wpAny_bind (PySem.W.instanceDict_exc hx (PySem.W.looks_clsIn X hc) hd ?_)))
  show wpAny _ _ (storeInDict hp.objs.size (.str nm tok) nm val) _ _ _
  refine PySem.HandSPX.store_in_new ?_ fun h' tk' hn sb => ?_
  · exact ⟨_, #[], _, (Heap.get?_update_ne _ _ _ _ ne.symm).trans (Heap.get?_push_at rfl rfl), rfl, fun e he => absurd he (by simp), fun _ => rfl⟩
  · refine go h' tk' hp.objs.size (fun b o nb e => ?_) (Nat.le_refl _) ne.symm ?_ hn
    · have l : b ≠ hp.objs.size := Nat.ne_of_lt (Heap.lt_size e)
      exact (sb.2 b l).trans ((Heap.get?_update_ne _ _ _ _ nb).trans (Heap.get?_push_of_some _ e))
    · exact (sb.2 x ne).trans (Heap.get?_update_self _ (Heap.get?_push_of_some _ hx) rfl)
/-- a further field -/
theorem osa_later {K : PySem.W.Frag} {nm : Str} {tok : Tok} {val : Value} {x C t1 dx : Addr} {was : Str → Option Value} {few : List Str} (T : ExC K C) (X : K.In hp)
    (hx : hp.get? x = some ({ cls := .ref C, dict := some dx, data := .fields #[.ref t1, .none, .none, .none, .bool false, .none] } : Obj)) (hns : hp.Ns1 dx was) (hw : Within was few) (hz : few.length ≤ 1000) (ha : PySem.W.takerIn K C nm = some none)
    (go : ∀ h' tk', (∀ b o, b ≠ dx → hp.get? b = some o → h'.get? b = some o) → h'.Ns1 dx (fun y => if y = nm then some val else was y) → R (.ok (.ret .none)) ⟨h', g, d, tk', os⟩) :
    codeAny (model prog w) A (.call (.builtin "object.__setattr__") ⟨[.ref x, .str nm tok, val], []⟩) R ⟨hp, g, d, t, os⟩ := by
  obtain ⟨oD, esD, epD, hoD, _, _⟩ := hns.count hw
  obtain ⟨tl, newId, ⟨B, initId, F, SF⟩, _, ho⟩ := T.base
  refine PySem.W.osa_openX (od := some oD) SF X ⟨hx, rfl, rfl, hoD⟩ ho ha fun b => ?_
  obtain ⟨cd, hc, hd⟩ := PySem.W.any_some T.dict
  refine wpAny_bind (wpAny_pure (wpAny_bind (wpAny_bind (wpAny_loadPart hx (wpAny_bind ((PySem.W.looks_clsIn X hc).here ?_))))))
  rw [hd]
  apply wpAny_pure (a := some dx)
  show wpAny _ _ (storeInDict dx (.str nm tok) nm val) _ _ _
  refine PySem.OEX.store_in_old hns hw hz fun h' tk' hn sb => ?_
  exact go h' tk' (fun b o nb e => (sb.2 b nb).trans e) hn
end
end Py

set_option Elab.async false
set_option linter.all false
set_option maxRecDepth 100000
set_option maxHeartbeats 3000000
/-! Own layer: self.f = v of an exception that is being made; such a def; the making; raise. -/
namespace Py
open PySem L2 PySem.Spec PyProof.Rows
section
variable {X : Cx} {pins : List (Addr × Obj)} {σ : L2.St} {H : Hp} {s : Shared} {a C dx : Addr} {f : Str} {y : V} {u : Value} {ff : List (Str × V)} {Q : Unit → Shared → Prop} {E : Value → Shared → Prop} {A : Around}
theorem setx_new (T : ExC X.K C) (I : Inv X pins σ H s) (e : H a = some (exo a C none)) (ht : PySem.W.takerIn X.K C f = some none) (ry : RelV y u)
    (goal : ∀ dx s', H dx = none → dx ≠ a → Inv X pins σ (upd (upd H dx (exd dx [(f, y)])) a (exo a C (some dx))) s' → Q () s') : wpAny (model X.prog X.w) A (setAttr (.ref a) f u) Q E s := by
  obtain ⟨tq, hx0⟩ := exo_at I.hok e
  obtain ⟨hp0, g, d, t, os⟩ := s
  refine PySem.W.set_plain I.kIn (ox := { cls := .ref C, dict := none, data := .fields #[.ref tq, .none, .none, .none, .bool false, .none] }) (od := none) ⟨hx0, rfl, rfl, trivial⟩ T.put (osa_first T I.kIn hx0 ht fun h' tk' dx k dn dne hx hn => ?_)
  have fresh : H dx = none := I.hok.fresh dn
  have offA : ∀ {b : Addr}, H b = none → b ≠ a := by intro b n z; rw [z, e] at n; exact nomatch n
  have offD : ∀ {b : Addr} {o : Obj}, hp0.get? b = some o → b ≠ dx := fun q => Nat.ne_of_lt (Nat.lt_of_lt_of_le (Heap.lt_size q) dn)
  have offK : ∀ {b : Addr} {o : HO}, H b = some o → b ≠ dx := by intro b o q z; rw [z, fresh] at q; exact nomatch q
  have offE : ∀ {b : Addr} {o : HO}, H b = some o → exo a C none ≠ o → b ≠ a := by intro b o q n z; rw [z, e] at q; exact n (Option.some.inj q)
  have same : ∀ {b : Addr}, b ≠ a → b ≠ dx → upd (upd H dx (exd dx [(f, y)])) a (exo a C (some dx)) b = H b := fun n1 n2 => by rw [upd_ne n1, upd_ne n2]
  refine goal dx _ fresh dne (I.un (t' := tk') (h' := h') ?_ fun b o q => ?_)
  · constructor
    · exact fun b o q n _ _ => k b o (offA n) q
    · exact fun b o q n _ _ => ⟨o.slots, k b o (offA n) q⟩
    · exact fun b o q n _ => by rw [same (offA n) (offD q)]; exact n
    · intro b o q _
      rcases Decidable.em (b = a) with z | z
      · exact ⟨_, by rw [z]; exact hx⟩
      · exact ⟨o, k b o z q⟩
    · exact fun b xs q => by rw [same (offE q exo_tup) (offK q)]; exact q
    · exact fun b o v q => by rw [same (offE q exo_frz) (offK q)]; exact q
    · exact fun b ps q => ⟨#[], by rw [same (offE q exo_tbl) (offK q), q]; simp⟩
  · rcases Decidable.em (b = a) with z | z
    · subst z; rw [upd_same] at q; cases q; exact exo_ok hx
    · rw [upd_ne z] at q
      rcases Decidable.em (b = dx) with z2 | z2
      · subst z2; rw [upd_same] at q; cases q
        exact exd_ok hn (relO_put (fs := []) ry fun _ => True.intro)
      · rw [upd_ne z2] at q
        refine (I.hok b o q).stay (fun c v hc w => k c v ?_ w) (fun c hc => ?_) (fun c xs hc => ?_)
        · rcases hc with hc | hc
          · rw [hc]; exact z
          · exact offE hc exo_own
        · rw [same (offE hc exo_own) (offK hc)]; exact hc
        · rw [same (offE hc exo_tup) (offK hc)]; exact hc
theorem setx_old (T : ExC X.K C) (I : Inv X pins σ H s) (e : H a = some (exo a C (some dx))) (eD : H dx = some (exd dx ff)) (hl : ff.length ≤ 900) (ht : PySem.W.takerIn X.K C f = some none) (ry : RelV y u)
    (goal : ∀ s', Inv X pins σ (upd H dx (exd dx ((f, y) :: ff))) s' → Q () s') : wpAny (model X.prog X.w) A (setAttr (.ref a) f u) Q E s := by
  obtain ⟨tq, hx0⟩ := exo_at I.hok e
  obtain ⟨mW, nsx, rl⟩ := exd_at I.hok eD
  have win := within_of rl
  obtain ⟨hp0, g, d, t, os⟩ := s
  obtain ⟨od0, _, _, hd0, _, _⟩ := nsx.count win
  refine PySem.W.set_plain I.kIn (ox := { cls := .ref C, dict := some dx, data := .fields #[.ref tq, .none, .none, .none, .bool false, .none] }) (od := some od0) ⟨hx0, rfl, rfl, hd0⟩ T.put
    (osa_later T I.kIn hx0 nsx win (by rw [List.length_map]; omega) ht fun h' tk' k hn => ?_)
  refine goal _ (I.write (t' := tk') (x := dx) (e := dx) (o := exd dx ((f, y) :: ff)) (by rw [eD]; exact True.intro) (.inl rfl) k ?_ (exd_ok hn (relO_put ry rl)))
  obtain ⟨o, _, _, z, _⟩ := hn
  exact ⟨o, z⟩
end
/-- self.f = e, self an exception that is being made -/
def tXset (K : PySem.W.Frag) (f : Str) (to te : TE) : TS := fun D σ H => te σ H fun y H1 => to σ H1 fun x Hb => ∃ a C : Addr, x = .ref a ∧ ExC K C ∧ PySem.W.takerIn K C f = some none ∧
  ((Hb a = some (exo a C none) ∧ ∀ dx, Hb dx = none → dx ≠ a → D.nx σ (upd (upd Hb dx (exd dx [(f, y)])) a (exo a C (some dx)))) ∨
    ∃ (dx : Addr) (ff : List (Str × V)), Hb a = some (exo a C (some dx)) ∧ Hb dx = some (exd dx ff) ∧ ff.length ≤ 900 ∧ D.nx σ (upd Hb dx (exd dx ((f, y) :: ff))))
theorem ps_xset {X : Cx} {o e : Expr} {to te : TE} {f : Str} {p' pos : Pos} (hx0 : PE X o to) (sh : PE X e te) (hs : swapsWith e (some (.Attribute o f p')) pos.line X.env = pure false := by rfl) : PS X (.Assign [.Attribute o f p'] e pos) (tXset X.K f to te) := by
  refine ⟨fun pins s σ H D I goal => plainObj_wpAny_Assign_Attribute (thn (sh.run pins s σ H _ I goal) fun v s1 ⟨y, H1, I1, r1, q1⟩ => thn (hx0.run pins s1 σ H1 _ I1 q1) fun u s2 ⟨x, Hb, I2, rv2, a, C, ex, T, ht, q⟩ => ?_) hs⟩
  subst ex
  obtain rfl : u = Value.ref a := rv2
  rcases q with ⟨eA, q⟩ | ⟨dx, ff, eA, eD, hl, q⟩
  · exact setx_new T I2 eA ht r1 fun dx s' n ne J => ⟨σ, _, J, q dx n ne⟩
  · exact setx_old T I2 eA eD hl ht r1 fun s' J => ⟨σ, _, J, q⟩
/-! ### def __init__(self, v): self.f = v -/
def spX1 (K : PySem.W.Frag) (f : Str) : Sp := fun vs H Q _ => ∃ (a C : Addr) (y : V), vs = [.ref a, y] ∧ ExC K C ∧ PySem.W.takerIn K C f = some none ∧ H a = some (exo a C none) ∧ ∀ dx, H dx = none → dx ≠ a → Q .non (upd (upd H dx (exd dx [(f, y)])) a (exo a C (some dx)))
theorem fn_x1 {P : Program} {w : World} {K : PySem.W.Frag} {mg : Str → Option Value} {base : Heap} {qual : Str} {params : Arguments} {scope : Scope} {dvs : List V} {kws : List (Str × V)} {fa : Addr} {fd : FuncData} {f sn vn : Str} {p1 p2 p' pos : Pos}
    (F : FunD K "__init__" qual params [.Assign [.Attribute (.Name sn p1) f p'] (.Name vn p2) pos] scope dvs kws fa fd) (S : FnScope [sn, vn] [sn, vn] scope) (v1 : Vis scope sn) (v2 : Vis scope vn)
    (d1 : (sn == ("__debug__" : Str)) = false := by decide) (d2 : (vn == ("__debug__" : Str)) = false := by decide) (c1 : (sn == ("__classdict__" : Str)) = false := by decide) (c2 : (vn == ("__classdict__" : Str)) = false := by decide) :
    FnOk P w K mg base CX0 1 fa fd [sn, vn] (spX1 K f) := by
  obtain ⟨oc, od, dV, kv, doc, pm, an, cdv, ct, sl, rfl, lk, hcd, _, _⟩ := F.ex
  refine fn_of (N := [sn, vn]) lk hcd S (fun vs H Q E ⟨a, C, y, e, _⟩ => by rw [e]; rfl) fun A outer s H vs Q E hr hsp => ?_
  obtain ⟨a, C, y, rfl, T, ht, eA, q⟩ := hsp
  refine ⟨_, pss_one (ps_xset (pe_var (i := 0) rfl v1 d1 c1) (pe_var (i := 1) rfl v2 d2 c2)), ?_⟩
  exact ⟨y, rfl, .ref a, rfl, a, C, rfl, T, ht, .inl ⟨eA, q⟩⟩
/-! ### the making -/
def tMkX (C : Addr) (sp : Sp) (ta : TA) : L2.St → Hp → XK → Prop := fun σ H Q => ta σ H fun vs H1 => vs.length ≤ 1000 ∧ ∀ a, H1 a = none → sp (.ref a :: vs) (upd H1 a (exo a C none))
  (fun v Hb => v = .non ∧ ∃ (d : Addr) (ff : List (Str × V)), Hb a = some (exo a C (some d)) ∧ Hb d = some (exd d ff) ∧ H1 d = none ∧ Q (.ref C) (some d) (upd (del Hb a) d (.xd ff))) (fun _ _ _ => False)
theorem pmk_x {X : Cx} {x : Str} {C fI : Addr} {k : Nat} {fd : FuncData} {ps : List Str} {sp : Sp} {e : Expr} {es : List Expr} {ta : TA} {p pos : Pos} (T : ExC X.K C) (ini : PySem.W.findIn X.K (.ref C) "__init__" = some (some (.ref fI))) (tI : PySem.W.typeIn X.K (.ref fI) = some (.type "function"))
    (F1 : FnOk X.prog X.w X.K X.mg X.base CX0 k fI fd ps sp) (hr : Room (k + 1) X.A) (hb : Binds X.K fd ps []) (gl : Gl X x) (gm : X.mg x = some (.ref C)) (ha : PA X (e :: es) ta)
    (ndb : (x == ("__debug__" : Str)) = false := by decide) (sh : starEach (e :: es) X.env = (false, eval e X.env) :: starEach es X.env := by rfl) (pl : (backTo pos (starEach es X.env)).any (·.1) = false := by rfl) :
    PMk X (.Call (.Name x p) (e :: es) [] pos) (tMkX C sp ta) := by
  intro pins s σ H Q I goal
  obtain ⟨tl, newId, ⟨B, initId, FB, _⟩, hin, _⟩ := T.base
  refine wpAny_Call_Name_kw (ld_glob I gl gm ?_ ndb)
  refine PySem.W.callWith_K (h₀ := X.base) I.ok.mod.kin T.keeps (thn (ha.run pos pins s σ H _ I goal) fun uu s1 ⟨vs, H1, I1, r1, hz, q1⟩ => ⟨I1.kIn, ?_⟩) sh pl
  show wpAny _ _ (call (.ref C) uu) _ _ _
  obtain ⟨hp0, g, dn0, tk, os⟩ := s1
  obtain ⟨nm, N, qn, bs, bm, hdct, sn, sub, ab, col, dd, k0, k1, k2, k3, k5, hC, hbm⟩ := PySem.W.excInit_of I1.kIn hin
  have hn : H1 (hp0.objs.size + 1) = none := I1.hok.fresh (Nat.le_succ _)
  have hy := q1 (hp0.objs.size + 1) hn
  have kp : ∀ b o, hp0.get? b = some o → ((hp0.push (PySem.W.kdv_tup uu)).push (PySem.HandSPX.excO C hp0.objs.size)).get? b = some o := fun b o e => Heap.get?_push_of_some _ (Heap.get?_push_of_some _ e)
  have got : ((hp0.push (PySem.W.kdv_tup uu)).push (PySem.HandSPX.excO C hp0.objs.size)).get? (hp0.objs.size + 1) = some (PySem.HandSPX.excO C hp0.objs.size) := by heap_get
  have I2 := I1.laid (t' := tk) (a := hp0.objs.size + 1) (o := exo (hp0.objs.size + 1) C none) kp (Nat.le_succ _) (exo_ok got)
  have rv2 : Vals (V.ref (hp0.objs.size + 1) :: vs) (Value.ref (hp0.objs.size + 1) :: uu) := .cons rfl r1
  have hl : (Value.ref (hp0.objs.size + 1) :: uu).length = ps.length := by
    rw [← rv2.length]; exact F1.len _ _ _ _ hy
  have fewus : uu.length ≤ sizeLine := by
    rw [← Paired.length r1, sizeLine_eq]; omega
  have hb2 := hb _ (Value.ref (hp0.objs.size + 1) :: uu) I2.kIn (by rw [List.append_nil]; exact hl)
  rw [List.append_nil] at hb2
  refine wpAny_call (PySem.HandSPX.call_own FB hbm hC (PySem.W.looks_findIn I1.kIn ini) (fun self => PySem.W.bind_fn I1.kIn self tI) fewus
    (codeAny_mono (F1.run _ X.stack _ _ ⟨Value.ref (hp0.objs.size + 1) :: uu, []⟩ (Value.ref (hp0.objs.size + 1) :: uu) _ _ (fun _ _ _ => False) (hr.make C uu []) (I2.env0.make C uu []) hb2 rv2 hy) fun r s' hz' => ?_))
  cases r with
  | error er => exact (show False from hz').elim
  | ok fl =>
    cases fl with
    | ret u =>
      obtain ⟨v, Hb, os2, bare2, un2, hok2, rv, ev, d, ff, eA, eD, hd1, q2⟩ := hz'
      subst ev
      obtain ⟨hb2, gg2, d2, t2, o'⟩ := s'
      exact ⟨rv, mk_end (raises_own T.sub T.typ) I1 (Nat.le_succ _) kp un2 hok2 os2 bare2 eA eD hd1 q2⟩
    | next => exact False.elim hz'
    | brk => exact False.elim hz'
    | cont => exact False.elim hz'
end Py

set_option Elab.async false
set_option linter.all false
set_option maxRecDepth 100000
set_option maxHeartbeats 3000000
/-! Own layer: raise; what may leave a def; try with several clauses. -/
namespace Py
open PySem L2 PySem.Spec PyProof.Rows
/-! ### raise -/
def sRaise1 (c i : Nat) (fa : EX) : SX := fun r h => (fa r h).to fun d h1 => .exc c [(i, d)] h1
def sRaise0 (c : Nat) : SX := fun _ h => .exc c [] h
section
variable {X : Cx} {G : Gam} {E : XK} {ee : Expr} {fa : EX} {x : Str} {p pos rpos : Pos}
theorem zRaise1 {c i : Nat} {fI : Addr} {k : Nat} {fd : FuncData} {sn vn : Str} (hc : X.calm = true) (tk : Takes X (fun cls d _ H => E cls d H)) (T : ExC X.K (G.cl c)) (hi : i < G.top) (ht : PySem.W.takerIn X.K (G.cl c) (G.nm i) = some none)
    (iC : PySem.W.findIn X.K (.ref (G.cl c)) "__init__" = some (some (.ref fI))) (tI : PySem.W.typeIn X.K (.ref fI) = some (.type "function")) (F1 : FnOk X.prog X.w X.K X.mg X.base CX0 k fI fd [sn, vn] (spX1 X.K (G.nm i)))
    (hr : Room (k + 1) X.A) (bod : Binds X.K fd [sn, vn] []) (gl : Gl X x) (hmm : X.mg x = some (.ref (G.cl c))) (ha : PE X ee (tE G X.K E fa))
    (hdb : (x == ("__debug__" : Str)) = false := by decide) (hx : starEach [ee] X.env = [(false, eval ee X.env)] := by rfl) :
    PS X (.Raise (some (.Call (.Name x p) [ee] [] pos)) none rpos) (tS G X.K E (sRaise1 c i fa)) := by
  refine PS_mono (ps_raise hc tk (pmk_x T iC tI F1 hr bod gl hmm (pa_cons ha pa_nil hx) hdb hx)) ?_
  rintro Z σ H ⟨m, r, h, rh, rs, o⟩
  refine ⟨m, r, h, rh, rs, ?_⟩
  rcases OutS.toR o with ⟨d, h1, ee, o⟩ | ⟨c', fs, h1, ee, o⟩
  · rw [ee]
    intro m1 H1 v p1 d1
    refine ⟨by simp, fun a na => ⟨a, G.cl c, v, rfl, T, ht, upd_same, fun dx n ne => ?_⟩⟩
    have nd : H1 dx = none := by rw [upd_ne ne] at n; exact n
    refine ⟨rfl, dx, [(G.nm i, v)], upd_same, by rw [upd_ne ne, upd_same], nd, ?_⟩
    have eq : upd (del (upd (upd (upd H1 a (exo a (G.cl c) none)) dx (exd dx [(G.nm i, v)])) a (exo a (G.cl c) (some dx))) a) dx (.xd [(G.nm i, v)]) = upd H1 dx (.xd [(G.nm i, v)]) := by
      funext b
      rcases Decidable.em (b = dx) with z | z
      · rw [z, upd_same, upd_same]
      · rw [upd_ne z, upd_ne z]
        rcases Decidable.em (b = a) with z2 | z2
        · rw [z2, del_same, na]
        · rw [del_ne z2, upd_ne z2, upd_ne z, upd_ne z2]
    rw [eq]
    exact o m1 _ (some dx) (p1.trans (p1.rel.newT nd)) (.inr ⟨dx, _, rfl, upd_same, .cons hi (d1.mono (fun _ _ => rfl) (Nat.le_refl _) (TK.upd_new nd)) .nil⟩)
  · rw [ee]; exact o
end
/-! ### a def that may let an error out -/
theorem takes_cx {P : Program} {w : World} {K : PySem.W.Frag} {mg : Str → Option Value} {base : Heap} {N : List Str} {qual : Str} {scope : Scope} {f : Addr} {cdv : Value} {A : Around} {outer : List Env} {s : Shared} {H : Hp} {E : XK} :
    Takes (cxOf (L2.CX P w) P w K mg base N qual scope f cdv A outer s H E) (fun cls d _ H' => E cls d H') := takes_of rfl rfl rfl rfl
theorem passesX {X : Cx} {E : XK} (tk : Takes X (fun cls d _ H => E cls d H)) : Passes (L2.CX X.prog X.w) X E := passes_call tk fun _ _ _ _ h => h
/-! ### try: several clauses, with names or not; all that comes is caught -/
def endAt (Z : Ends) : Option Nat → Ends
  | none => Z
  | some i => { nx := fun σ' H' => Z.nx (σ'.set i none) H', rt := Z.rt, bk := fun σ' H' => Z.bk (σ'.set i none) H', ct := fun σ' H' => Z.ct (σ'.set i none) H' }
def setAt (σ : L2.St) : Option Nat → Addr → L2.St
  | none, _ => σ
  | some i, a => σ.set i (some (.ref a))
abbrev Cl := Value × Option Nat × (Addr → Value → Option Addr → TS)
def wCls (K : PySem.W.Frag) (Z : Ends) : List Cl → WX
  | [] => fun _ _ _ _ => False
  | (c, oi, ts) :: l => fun cls d σ H => ∃ b, PySem.W.exmOne K cls c = some b ∧ (b = true → ∀ a, H a = none → ts a cls d (endAt Z oi) (setAt σ oi a) H) ∧ (b = false → wCls K Z l cls d σ H)
inductive ClsOk (X : Cx) : List ExceptHandler → List Cl → Prop
  | nil : ClsOk X [] []
  | plain {x : Str} {c : Value} {ts : Addr → Value → Option Addr → TS} {b₀ : Stmt} {suite : List Stmt} {np pos' : Pos} {cls' : List ExceptHandler} {l : List Cl} (hc : Names X x c)
      (hsu : ∀ (a : Addr) (ob : Obj) (cls : Value) (d : Option Addr) (pn : List (Addr × Obj)), Zc cls d ob → (∃ vs, ob.data = .fields vs) → PSs (X.suite a ((a, ob) :: pn)) (b₀ :: suite) (ts a cls d)) (r : ClsOk X cls' l) :
      ClsOk X (.ExceptHandler (some (.Name x np)) none (b₀ :: suite) pos' :: cls') ((c, none, ts) :: l)
  | named {x n : Str} {i : Nat} {c : Value} {ts : Addr → Value → Option Addr → TS} {b₀ : Stmt} {suite : List Stmt} {np pos' : Pos} {cls' : List ExceptHandler} {l : List Cl} (hN : X.N.Nodup) (hi : X.N[i]? = some n) (hln : X.env.kindOf n = some .local) (hc : Names X x c)
      (hsu : ∀ (a : Addr) (ob : Obj) (cls : Value) (d : Option Addr) (pn : List (Addr × Obj)), Zc cls d ob → (∃ vs, ob.data = .fields vs) → PSs (X.suite a ((a, ob) :: pn)) (b₀ :: suite) (ts a cls d)) (r : ClsOk X cls' l) :
      ClsOk X (.ExceptHandler (some (.Name x np)) (some n) (b₀ :: suite) pos' :: cls') ((c, some i, ts) :: l)
section
variable {X : Cx} {body : List Stmt} {h₀ : ExceptHandler} {cls' : List ExceptHandler} {l : List Cl} {pos : Pos} {tb : WX → TS}
/-- the clauses, met by an exception that stands on the ground -/
theorem met {B : Heap} {a : Addr} {cls : Value} {d : Option Addr} {pins : List (Addr × Obj)} {σ : L2.St} {H : Hp} {Z : Ends} {s : Shared} (ok : X.Ok) (hs : X.stack = X.env :: X.outer) (hf : X.env.frame = some X.env.locals)
    (back : ∀ {h4 : Heap}, HandSPX.FlyingZ B (X.env :: X.outer) a (Zc cls d) h4 → s.heap.UpToSlots h4 → Inv X pins σ H { s with heap := h4 }) (fly : HandSPX.FlyingZ B (X.env :: X.outer) a (Zc cls d) s.heap) (na : H a = none) (nL : a ≠ X.env.locals) (nF : a ∉ X.fs) :
    ∀ {cls' : List ExceptHandler} {l : List Cl}, ClsOk X cls' l → wCls X.K Z l cls d σ H → wpAny (model X.prog X.w) X.A (handleBy (.ref a) X.env cls') (SP X pins Z) X.xe s := by
  have J0 : Inv X pins σ H s := back fly (fun b o ee n => ⟨o.slots, ee⟩)
  obtain ⟨ob, vs, hx, hz, hd⟩ := fly.there
  have S0 := J0.suite hx hd na nL nF
  have LT : PySem.W.Looks (model X.prog X.w) s.heap (typeOf (.ref a)) cls := fun A Q E s k q => wpAny_typeOf_ref (k _ _ hx) (by rw [hz.1]; exact q)
  have test : ∀ {x : Str} {np : Pos} {c : Value} {Q : Value → Shared → Prop} {E : Value → Shared → Prop}, Names X x c → Q c s → wpAny (model X.prog X.w) (X.A.mark (some (.ref a))) (eval (.Name x np) X.env) Q E s := by
    intro x np c Q E hc q
    obtain ⟨gl, ndb, hmm | ⟨hmm, hvv, nnn⟩⟩ := hc
    · exact ld_glob (X := X.suite a ((a, ob) :: (X.pn ++ pins))) S0 gl hmm q ndb
    · exact ld_blt (X := X.suite a ((a, ob) :: (X.pn ++ pins))) S0 gl hmm hvv q nnn ndb
  intro cls' l hk
  induction hk with
  | nil => exact fun w => w.elim
  | @plain x c ts b₀ suite np pos' cls' l hc hsu r ih =>
    rintro ⟨b, bod, yes, no⟩
    refine wpAny_handleBy_cons (codeAny_handlers_test (test hc ((PySem.W.exm_one (M := model X.prog X.w) J0.kIn LT bod).here ?_))) (by intro q; cases q)
    cases b with
    | false => exact ih (no rfl)
    | true =>
      refine codeAny_handlers_suite (HandSPX.lands_againZ fly fun h4 fly4 ut4 => ?_)
      obtain ⟨ob4, ws4, hx4, hc4, hd4'⟩ := fly4.there
      have S4 := (back fly4 ut4).suite hx4 hd4' na nL nF
      refine wpAny_mono ((hsu a ob4 cls d (X.pn ++ pins) hc4 ⟨_, hd4'⟩).run [] _ _ H _ S4 (yes rfl a na)) (fun f s6 hsp => ?_) (fun _ _ z => z.elim)
      cases f with
      | ret u => obtain ⟨v6, σ6, H6, S6, r6, q6⟩ := hsp; exact ⟨_, _, _, S6.unsuite ok, r6, q6⟩
      | next => obtain ⟨σ6, H6, S6, q6⟩ := hsp; exact ⟨_, _, S6.unsuite ok, q6⟩
      | brk => obtain ⟨σ6, H6, S6, q6⟩ := hsp; exact ⟨_, _, S6.unsuite ok, q6⟩
      | cont => obtain ⟨σ6, H6, S6, q6⟩ := hsp; exact ⟨_, _, S6.unsuite ok, q6⟩
  | @named x n i c ts b₀ suite np pos' cls' l hN hi hln hc hsu r ih =>
    rintro ⟨b, bod, yes, no⟩
    refine wpAny_handleBy_cons (codeAny_handlers_test (test hc ((PySem.W.exm_one (M := model X.prog X.w) J0.kIn LT bod).here ?_))) (by intro q; cases q)
    cases b with
    | false => exact ih (no rfl)
    | true =>
      refine codeAny_handlers_suite_as (HandSPX.lands_againZ fly fun h4 fly4 ut4 => ?_)
      obtain ⟨ob4, ws4, hx4, hc4, hd4'⟩ := fly4.there
      have S4 := (back fly4 ut4).suite hx4 hd4' na nL nF
      refine store_ok (X := X.suite a ((a, ob4) :: (X.pn ++ pins))) (v := .ref a) S4 hN hi (.inl hln) rfl (fun s5 S5 => ?_) (.inr hln)
      refine wpAny_mono ((hsu a ob4 cls d (X.pn ++ pins) hc4 ⟨_, hd4'⟩).run [] s5 _ H _ S5 (yes rfl a na)) (fun f s6 hsp => ?_) (fun _ _ z => z.elim)
      have gone : ∀ {σ6 : L2.St} {H6 : Hp} {Q : Shared → Prop}, Inv (X.suite a ((a, ob4) :: (X.pn ++ pins))) [] σ6 H6 s6 → (∀ s7, Inv X pins (σ6.set i none) H6 s7 → Q s7) →
          wpAny (model X.prog X.w) X.A (do bindName X.env n .none; unbindBehindTheSuite X.env n pos') (fun _ s7 => Q s7) X.xe s6 := fun S6 hq => gone_ok (S6.unsuite ok) hN hi hln hq
      cases f with
      | ret u => obtain ⟨v6, σ6, H6, S6, r6, q6⟩ := hsp; exact gone S6 fun s7 J7 => ⟨_, _, _, J7, r6, q6⟩
      | next => obtain ⟨σ6, H6, S6, q6⟩ := hsp; exact gone S6 fun s7 J7 => ⟨_, _, J7, q6⟩
      | brk => obtain ⟨σ6, H6, S6, q6⟩ := hsp; exact gone S6 fun s7 J7 => ⟨_, _, J7, q6⟩
      | cont => obtain ⟨σ6, H6, S6, q6⟩ := hsp; exact gone S6 fun s7 J7 => ⟨_, _, J7, q6⟩
theorem ps_tryA (hs : X.stack = X.env :: X.outer) (hf : X.env.frame = some X.env.locals)
    (bod : ∀ (W : WX) (pn : List (Addr × Obj)) (xz : Value → Shared → Prop), Takes (X.tr pn xz) W → PassesOwn (model X.prog X.w) X.A X.env xz → PSs (X.tr pn xz) body (tb W))
    (hh : ClsOk X (h₀ :: cls') l) : PS X (.Try body (h₀ :: cls') [] [] pos) (fun Z σ H => tb (wCls X.K Z l) Z σ H) := by
  refine ⟨fun pins s σ H Z I h => ?_⟩
  have ok := I.ok
  have fr0 : X.A.frames = some (X.env :: X.outer) := by rw [ok.frames, hs]
  refine wpAny_Try_except ?_
  refine wpAny_mono ((bod (wCls X.K Z l) (X.pn ++ pins) (fun ee s₁ => wpAny (model X.prog X.w) X.A (noteFrame ee X.env) (fun _ s₂ => wpAny (model X.prog X.w) X.A (setFlight ee none) (fun _ s₃ =>
    wpAny (model X.prog X.w) X.A (handleBy ee X.env (h₀ :: cls')) (SP X pins Z) X.xe s₃) X.xe s₂) X.xe s₁) (fun u s' xx => ?_) PassesOwn.looking).run [] s σ H Z (I.toTry _) h) (fun f s1 hsp => ?_) (fun ee s1 hx => hx)
  · obtain ⟨a, B, sI, pins', σ', H', cls, d, rfl, J', nb, up, sk, na, os, ag, w⟩ := xx
    have J1 : Inv X pins σ' H' sI := J'.ofTry ok
    have sk' : Sky B (X.env :: X.outer) a (Zc cls d) X.env.locals s'.heap := by rw [← hs]; exact sk
    change wpAny _ X.A (noteFrame (.ref a) X.env) _ _ _
    refine Sky.land Zc.steady fr0 hf sk' fun h3 fly3 ut3 => ?_
    obtain ⟨ob3, vs3, hx3, hc3, hd3'⟩ := fly3.there
    have offF : a ∉ frs (X.env :: X.outer) := fun hmm => by
      obtain ⟨_, o', e', hnf⟩ := fly3.2.2.1.mem hmm
      rw [hx3] at e'; cases e'
      exact hnf _ hd3'
    refine met (B := B) (s := { s' with heap := h3 }) ok hs hf (fun {h4} fly4 ut4 => J1.landed nb fly4.1 ((up.trans ut3).trans ut4) os ag) fly3 na ?_ ?_ hh w
    · exact fun z => offF (List.mem_filterMap.mpr ⟨X.env, List.mem_cons_self, by rw [hf, z]⟩)
    · intro hmm
      obtain ⟨ee, hx, q⟩ := List.mem_filterMap.mp hmm
      exact offF (List.mem_filterMap.mpr ⟨ee, List.mem_cons_of_mem _ hx, q⟩)
  · cases f with
    | ret u => obtain ⟨v, σ', H', J', r, q⟩ := hsp; exact ⟨v, σ', H', J'.ofTry ok, r, q⟩
    | next => obtain ⟨σ', H', J', q⟩ := hsp; exact wpAny_execs_nil ⟨σ', H', J'.ofTry ok, q⟩
    | brk => obtain ⟨σ', H', J', q⟩ := hsp; exact ⟨σ', H', J'.ofTry ok, q⟩
    | cont => obtain ⟨σ', H', J', q⟩ := hsp; exact ⟨σ', H', J'.ofTry ok, q⟩
end
end Py

set_option Elab.async false
set_option linter.all false
set_option maxRecDepth 100000
set_option maxHeartbeats 3000000
/-! Own layer: try in the plain world, and its soundness; what a clause's suite reads of its exception. -/
namespace Py
open PySem L2 PySem.Spec PyProof.Rows
/-- a clause: which classes it takes, the slot of its name, its suite -/
abbrev Hd := (Nat → Option Bool) × Option Nat × (Nat → List (Nat × D) → SX)
def wipe (r : LS) : Option Nat → LS
  | none => r
  | some i => r.set i none
def wipeF (oi : Option Nat) : F → F
  | .nx r h => .nx (wipe r oi) h
  | .bk r h => .bk (wipe r oi) h
  | .ct r h => .ct (wipe r oi) h
  | .rt d h => .rt d h
  | _ => .stuck
def hdl : List Hd → Nat → List (Nat × D) → SX
  | [], _, _ => fun _ _ => .stuck
  | (mt, oi, b) :: l, c, fs => fun r h => match mt c with
    | some true => wipeF oi (b c fs (wipe r oi) h)
    | some false => hdl l c fs r h
    | none => .stuck
def sTry (b : SX) (l : List Hd) : SX := fun r h => match b r h with
  | .exc c fs h1 => hdl l c fs r h1
  | f => f
theorem RelS.wipe1 {K : PySem.W.Frag} {m : Nat → Addr} {N : Nat} {H : Hp} : ∀ {r : LS} {σ : L2.St} (i : Nat) (v : Option V), RelS K m N H r σ → RelS K m N H (r.set i none) (σ.set i v)
  | _, _, _, _, .nil => .nil
  | _, _, 0, _, .no q => .no q
  | _, _, 0, _, .yes _ q => .no q
  | _, _, i + 1, v, .no q => .no (RelS.wipe1 i v q)
  | _, _, i + 1, v, .yes d q => .yes d (RelS.wipe1 i v q)
theorem RelS.len {K : PySem.W.Frag} {m : Nat → Addr} {N : Nat} {H : Hp} : ∀ {r : LS} {σ : L2.St}, RelS K m N H r σ → r.length = σ.length
  | _, _, .nil => rfl
  | _, _, .no q => by simp [RelS.len q]
  | _, _, .yes _ q => by simp [RelS.len q]
section
variable {G : Gam} {K : PySem.W.Frag} {m m' : Nat → Addr} {N : Nat} {H H' : Hp} {h h' : LH}
theorem RelO.notX {a : Addr} {o : O} (r : RelO G K m N H a o) {vs : List (Str × V)} (e : H a = some (.xd vs)) : False := by
  cases o with
  | lst xs => obtain ⟨ws, h1, _⟩ := r; rw [e] at h1; exact nomatch h1
  | ins c fs => obtain ⟨dx, ws, h1, _⟩ := r; rw [e] at h1; exact nomatch h1
  | dct kv => obtain ⟨ws, h1, _⟩ := r; rw [e] at h1; exact nomatch h1
  | hid _ => obtain ⟨_, _, h1, _⟩ := r; rw [e] at h1; exact nomatch h1
theorem ExcAt.on {fs : List (Nat × D)} {od : Option Addr} (rh : RelH G K m h H) (p : Post G K m h.length H m' h' H') (x : ExcAt G K m h.length H fs od) : ExcAt G K m' h'.length H' fs od := by
  rcases x with x | ⟨a, vs, rfl, e, r⟩
  · exact .inl x
  · refine .inr ⟨a, vs, rfl, p.fr a _ e (fun _ z => nomatch z) fun i l z => ?_, r.mono p.agr p.len p.tk⟩
    have := rh.obj i _ (List.getElem?_eq_getElem l)
    rw [z] at this
    exact this.notX e
end
/-- what a clause's suite is worth: a the exception, cls its class, d its dict -/
def tHd (G : Gam) (K : PySem.W.Frag) (mt : Nat → Option Bool) (oi : Option Nat) (b : Nat → List (Nat × D) → SX) : Addr → Value → Option Addr → TS := fun a cls d Z σ H =>
  ∃ c fs m r h, cls = .ref (G.cl c) ∧ mt c = some true ∧ RelH G K m h H ∧ RelS K m h.length H r σ ∧ ExcAt G K m h.length H fs d ∧ (∀ i, oi = some i → i < σ.length → σ[i]? = some (some (.ref a))) ∧ OutS G K (fun _ _ _ => False) m h.length H Z (b c fs r h)
def clOf (G : Gam) (K : PySem.W.Frag) (p : Value × Hd) : Cl := (p.1, p.2.2.1, tHd G K p.2.1 p.2.2.1 p.2.2.2)
section
variable {X : Cx} {G : Gam} {E : XK}
theorem out_wipe {K : PySem.W.Frag} {m : Nat → Addr} {N : Nat} {H : Hp} {Z : Ends} {oi : Option Nat} {f : F} (o : OutS G K E m N H Z (wipeF oi f)) : OutS G K (fun _ _ _ => False) m N H (endAt Z oi) f := by
  cases f with
  | nx r h' =>
    cases oi with
    | none => exact o
    | some i => exact fun m' H' s p q => o m' H' _ p (q.wipe1 i none)
  | rt d h' => cases oi <;> exact o
  | bk r h' =>
    cases oi with
    | none => exact o
    | some i => exact fun m' H' s p q => o m' H' _ p (q.wipe1 i none)
  | ct r h' =>
    cases oi with
    | none => exact o
    | some i => exact fun m' H' s p q => o m' H' _ p (q.wipe1 i none)
  | exc c fs h' => exact o.elim
  | stuck => exact o
/-! ### suites -/
variable {a : Addr} {oe : Obj} {cls : Value} {d : Option Addr} {pn : List (Addr × Obj)}
/-- an expression of a suite, the exception's fields at hand -/
def tJ (G : Gam) (K : PySem.W.Frag) (c i : Nat) (fs : List (Nat × D)) (f : EX) (a : Addr) (cls : Value) (d : Option Addr) : TE := fun σ H Q =>
  ∃ m r h, cls = .ref (G.cl c) ∧ RelH G K m h H ∧ RelS K m h.length H r σ ∧ ExcAt G K m h.length H fs d ∧ (i < σ.length → σ[i]? = some (some (.ref a))) ∧ Out G K (fun _ _ _ => False) m h.length H Q (f r h)
def eXf (k : Nat) (fs : List (Nat × D)) : EX := fun _ h => match getA k fs with
  | some x => .ok x h
  | none => .stuck
theorem jLift {e : Expr} {f : EX} {c i : Nat} {fs : List (Nat × D)} (he : PE X e (tE G X.K (fun _ _ _ => False) f)) : PE X e (tJ G X.K c i fs f a cls d) :=
  PE_mono he fun σ H Q ⟨m, r, h, _, rh, rs, _, _, o⟩ => ⟨m, r, h, rh, rs, o⟩
/-- e.f -/
theorem jFld {c i k : Nat} {fs : List (Nat × D)} {n : Str} {p1 pos : Pos} (T : XfC X.K (G.cl c)) (hk : k < G.top) (hno : PySem.W.findIn X.K (.ref (G.cl c)) (G.nm k) = some none) (hz : Zc cls d oe) (hf : ∃ vs, oe.data = .fields vs) (hi : X.N[i]? = some n) (hln : Vis X.env.scope n)
    (h1 : (n == ("__debug__" : Str)) = false := by decide) (h2 : (n == ("__classdict__" : Str)) = false := by decide) (hb : attributeBase (.Name n p1) (G.nm k) X.env (eval (.Name n p1) X.env) = eval (.Name n p1) X.env := by rfl) :
    PE (X.suite a ((a, oe) :: pn)) (.Attribute (.Name n p1) (G.nm k) pos) (tJ G X.K c i fs (eXf k fs) a cls d) := by
  have base := pe_xf (X := X) (a := a) (pos := pos) (pn := pn) T hno hz hf (pe_var (X := X.suite a ((a, oe) :: pn)) (pos := p1) hi hln h1 h2) hb
  refine ⟨fun pins s σ H Q I t => base.run pins s σ H Q I ?_⟩
  obtain ⟨m, r, h, ec, rh, rs, ex, sl, o⟩ := t
  have il : i < σ.length := by rw [I.len]; exact (List.getElem?_eq_some_iff.mp hi).1
  refine ⟨.ref a, sl il, rfl, ec, ?_⟩
  unfold eXf at o
  cases g : getA k fs with
  | none => rw [g] at o; exact o.elim
  | some x =>
    rw [g] at o
    rcases ex with ⟨rfl, rfl⟩ | ⟨dd, vs, rfl, e, rf⟩
    · exact nomatch g
    · obtain ⟨v, l, rd⟩ := rf.get hk g
      exact ⟨dd, vs, v, rfl, e, l, o m H v (Post.refl rh) rd⟩
/-- a test of a suite -/
def tJT (G : Gam) (K : PySem.W.Frag) (c i : Nat) (fs : List (Nat × D)) (f : EX) (a : Addr) (cls : Value) (d : Option Addr) : TT := fun σ H Q =>
  ∃ m r h, cls = .ref (G.cl c) ∧ RelH G K m h H ∧ RelS K m h.length H r σ ∧ ExcAt G K m h.length H fs d ∧ (i < σ.length → σ[i]? = some (some (.ref a))) ∧ OutT G K (fun _ _ _ => False) m h.length H Q (f r h)
/-! ### the body of a try: one call that may let an error out -/
def CallS (X : Cx) (G : Gam) (E : L2.St → XK) (fv : Value) (op : KF) : Prop :=
  ∀ (pins : List (Addr × Obj)) (s : Shared) (σ : L2.St) (H : Hp) (us : List Value) (vs : List V) (Q : VK), Inv X pins σ H s → Vals vs us →
    (∃ m h ds, RelH G X.K m h H ∧ RelDs X.K m h.length H ds vs ∧ Out G X.K (E σ) m h.length H Q (op ds [] h)) → wpAny (model X.prog X.w) X.A (call fv us) (EP X pins σ Q) X.xe s
end
end Py

set_option Elab.async false
set_option linter.all false
set_option maxRecDepth 100000
set_option maxHeartbeats 3000000
/-! Own layer: small things for the printed texts. -/
namespace Py
open PySem L2 PySem.Spec PyProof.Rows
section
variable {X : Cx} {G : Gam} {E : XK}
/-- the clauses' classes -/
def HM (X : Cx) (G : Gam) (l : List (Value × Hd)) : Prop := ∀ p ∈ l, ∀ c k, p.2.1 c = some k → PySem.W.exmOne X.K (.ref (G.cl c)) p.1 = some k
theorem hm_nil : HM X G [] := fun _ z => nomatch z
theorem hm_cons {p : Value × Hd} {l : List (Value × Hd)} (a : ∀ c k, p.2.1 c = some k → PySem.W.exmOne X.K (.ref (G.cl c)) p.1 = some k) (r : HM X G l) : HM X G (p :: l) := fun q m => by
  rcases List.mem_cons.mp m with rfl | m
  · exact a
  · exact r q m
end
theorem binds_x {K : PySem.W.Frag} {x qual : Str} {params : Arguments} {body : List Stmt} {scope : Scope} {kws : List (Str × V)} {f : Addr} {fd : FuncData} {ps : List Str} (F : FunD K x qual params body scope [] kws f fd)
    (h : ∀ (kV doc pm : Value) (an : Option Addr) (cdv ct : Value) (us : List Value), us.length = ps.length → bindArgs (PySem.W.fnOf x qual params body scope .none kV doc pm an cdv ct) ⟨us, []⟩ = pure (ps.zip us)) : Binds K fd ps [] := fun s us _ hl => by
  rw [List.append_nil] at hl ⊢
  exact F.bindsA h s us hl
end Py

set_option Elab.async false
set_option linter.all false
set_option maxRecDepth 100000
set_option maxHeartbeats 4000000
/-! Own layer: what a clause's suite says of its error: its classes, its fields in lists. -/
namespace Py
open PySem L2 PySem.Spec PyProof.Rows PySem.Calls PySem.W
section
variable {prog : Program} {w : World} {A : Around} {E : Value → Shared → Prop} {s : Shared} {K : Frag} {x D : Addr} {ox : Obj} {od : Option Obj}
theorem look_bind {C : Addr} {n : Str} {a g : Value} (e0 : (clsIn K C).isSome = true) (e1 : findIn K (.ref C) n = some (some a)) (e2 : specialIn K a "__get__" = some (some g)) (e3 : takesIn K a = some true) : findObj K C od n = some (.bind g a) := by
  cases z : clsIn K C with
  | none => rw [z] at e0; exact nomatch e0
  | some cd => unfold findObj; rw [z, Option.bind_some, e1, Option.bind_some]; simp [e2, e3]
/-- e.__class__, e an error with a dict or without -/
theorem class_of (C : ExcC K D) (kin : K.In s.heap) (at_ : InstAt s.heap x ox D od) {Q : Option Value → Shared → Prop} (q : Q (some (.ref D)) { s with toks := s.toks + 1 }) : wpAny (model prog w) A (getAttr? (.ref x) "__class__") Q E s := by
  have some_ : (clsIn K D).isSome = true := by obtain ⟨cd, e, _⟩ := any_some C.hd; rw [e] <;> rfl
  have fnd : findObj K D od "__class__" = some (.bind (.builtin "getset_descriptor.__get__") (.builtin "object.__class__")) := look_bind some_ C.ha C.hn C.ht
  obtain ⟨hp, g, d, t, os⟩ := s
  have l0 := at_.type (M := model prog w)
  have l1 := looks_findIn (M := model prog w) kin C.hg; have l2 := looks_findIn (M := model prog w) kin C.hk
  have l3 := looks_find (M := model prog w) kin at_ fnd
  have isx : Looks (model prog w) hp (isInstance (.ref x) (.type "BaseException")) true := Looks.andThen l0 (looks_subIn kin C.hs)
  have n2 : (Value.builtin "BaseException.__getattribute__" == Value.builtin "object.__getattribute__") = false := by decide +kernel
  have n1 : (onTheHeap (Value.ref D) && Value.builtin "BaseException.__getattribute__" == Value.builtin "object.__getattribute__") = false := by rw [n2] <;> rfl
  have n0 : (false && onTheHeap (Value.builtin "BaseException.__getattribute__")) = false := rfl
  unfold getAttr?
  unfold getAttrBy?; unfold getAttrBy
  refine wpAny_bind (wpAny_mkText (wpAny_bind (wpAny_attempt (wpAny_holding (wpAny_bind (l0.at (wpAny_bind (l1.at ?_))))))))
  change wpAny _ _ (if (onTheHeap (Value.ref D) && Value.builtin "BaseException.__getattribute__" == Value.builtin "object.__getattribute__") = true then _ else _) _ _ _
  rw [n1, if_neg Bool.false_ne_true]
  unfold getAttrByItsOwn
  unfold hookBefore; refine wpAny_bind ?_
  rw [if_pos (show onTheHeap (Value.ref D) = true from rfl)]; refine l2.at (wpAny_bind (wpAny_attempt (wpAny_holding ?_)))
  unfold callGetattribute; rw [n0, if_neg Bool.false_ne_true]
  unfold boundAndCalled; rw [PySem.F.excAttr_ValueError.ga.bind (.ref x)]
  refine wpAny_bind (wpAny_pure ?_)
  change wpAny _ _ (call (.builtin "BaseException.__getattribute__") [.ref x, .str "__class__" t]) _ _ _
  refine wpAny_call (codeAny_call_builtin PySem.F.excAttr_ValueError.ga.plain PySem.F.entry_bexc_ga (@check_slot (model prog w) _ _ ⟨hp, g, d, t + 1, os⟩ "BaseException.__getattribute__" "BaseException" "__getattribute__" (.ref x) [.str "__class__" t] [] _ (by decide +kernel) (by decide +kernel) isx (PySem.F.args_bexc_ga (.ref x) (.str "__class__" t)) ?_))
  unfold Builtin.«object.__getattribute__»
  refine wpAny_bind (wpAny_of_eq (a := ((Value.ref x : Value), [Value.str "__class__" t])) (by first | rfl | (simp only [slotArgs]; rfl)) (wpAny_bind (wpAny_pure (wpAny_bind (l0.at (wpAny_bind (l3.at ?_)))))))
  change wpAny _ _ (holding [Value.builtin "object.__class__"] (call (.builtin "getset_descriptor.__get__") [.builtin "object.__class__", .ref x, .ref D]) >>= ret) _ _ _
  refine wpAny_bind (wpAny_holding (wpAny_call (class_get (s := ⟨hp, g, d, t + 1, os⟩) (ox := ox) (od := od) kin at_ C.hm (wpAny_pure ?_))))
  change wpAny _ _ (handedOut (.ref D)) _ _ _
  rw [handedOut_of (v := .ref D) rfl]
  first
    | exact wpAny_pure (wpAny_pure q)
    | exact wpAny_pure q
    | exact wpAny_pure (wpAny_bind (wpAny_pure (wpAny_pure q)))
theorem isE_kit (C : ExcC K D) : KitX K (.ref x) (.ref D) (fun h => ∃ od, InstAt h x ox D od) where
  ty := fun _ _ _ ⟨_, i⟩ => i.type
  it := fun _ _ kin _ => by
    obtain ⟨cd, e, _⟩ := any_some C.hd
    unfold clsIn at e
    split at e
    · rename_i at_
      intro A' Q' E' s' k q
      unfold isType loadHead
      exact wpAny_bind (wpAny_loadPart (k _ _ (kin _ _ at_)) (wpAny_pure q))
    · exact nomatch e
  ne := fun h tp dd its n sl kin at_ => by
    obtain ⟨cd, e, _⟩ := any_some C.hd
    refine Bool.eq_false_iff.mpr fun z => ?_
    have z2 : D = tp := Value.ref.inj (beq_iff_eq.mp z)
    subst z2
    unfold clsIn at e
    split at e
    · rename_i at2
      exact nomatch (kin _ _ at2).symm.trans at_
    · exact nomatch e
  ca := fun kin ⟨_, i⟩ q => class_of C kin i q
end
/-- isinstance(e, c): e the error of the suite -/
def rIs (K : Frag) (D a : Addr) (d : Option Addr) : List V → Hp → VK → Prop := fun xs H Q =>
  ∃ (c : V) (cv : Value) (b : Bool), xs = [.ref a, c] ∧ (∀ u, RelV c u → u = cv) ∧ kitOne K (.ref D) cv = some b ∧ (∀ dx, d = some dx → ∃ fs, H dx = some (.xd fs)) ∧ Q (.bl b) H
theorem is_ok {X : Cx} {a D : Addr} {oe : Obj} {d : Option Addr} {pn : List (Addr × Obj)} (C : ExcC X.K D) (hz : Zc (.ref D) d oe) (hf : ∃ vs, oe.data = .fields vs) : CallR (X.suite a ((a, oe) :: pn)) (.builtin "isinstance") (rIs X.K D a d) := by
  intro pins s σ H xs us Q I r ⟨c, cv, b, e0, e1, e2, e3, q⟩
  subst e0
  obtain ⟨u, us, rx, r2, rfl⟩ : ∃ u us', RelV (.ref a) u ∧ Vals [c] us' ∧ us = u :: us' := by cases r with | cons p q => exact ⟨_, _, p, q, rfl⟩
  obtain ⟨u2, rfl, rt⟩ := vals1 r2
  cases (show u = Value.ref a from rx)
  cases e1 _ rt
  obtain ⟨get, _⟩ := I.pin (a, oe) (List.mem_append.mpr (.inl List.mem_cons_self))
  obtain ⟨vs, hv⟩ := hf
  have here : ∃ od, InstAt s.heap a oe D od := by
    obtain ⟨oc, dict, data, sl⟩ := oe
    obtain ⟨c1, c2⟩ := hz
    dsimp only at c1 c2 hv
    subst c1 c2 hv
    cases dict with
    | none => exact ⟨none, get, rfl, rfl, True.intro⟩
    | some dx =>
      obtain ⟨fs, e⟩ := e3 dx rfl
      obtain ⟨mA, ⟨ob, es, ep, e4, _⟩, _⟩ := I.hok dx _ e
      exact ⟨some ob, get, rfl, rfl, e4⟩
  exact kia_one (isE_kit C) I.kIn here e2 (fun z => nomatch z) fun tk => ⟨.bl b, H, I.kept (t' := tk) fun _ _ z => z, rfl, q⟩
section
variable {X : Cx} {G : Gam} {a : Addr} {oe : Obj} {cls : Value} {d : Option Addr} {pn : List (Addr × Obj)} {c i : Nat} {fs : List (Nat × D)}
/-- a caught error's class, by the class that stands second -/
theorem jIs {p p1 p2 pos : Pos} {n y : Str} {cv : V} {vv : Value} {b : Bool} (C : ExcC X.K (G.cl c)) (hz : Zc cls d oe) (hf : ∃ vs, oe.data = .fields vs) (hi : X.N[i]? = some n) (hln : Vis X.env.scope n) (hg : Gl X "isinstance") (hm : X.mg "isinstance" = none)
    (h2 : PE (X.suite a ((a, oe) :: pn)) (.Name y p2) (fun _ H Q => Q cv H)) (hv : ∀ u, RelV cv u → u = vv) (hk : kitOne X.K (.ref (G.cl c)) vv = some b) (d1 : (n == ("__debug__" : Str)) = false := by decide) (d2 : (n == ("__classdict__" : Str)) = false := by decide)
    (s1 : starEach [.Name n p1, .Name y p2] X.env = (false, eval (.Name n p1) X.env) :: starEach [.Name y p2] X.env := by rfl) (s2 : starEach [.Name y p2] X.env = (false, eval (.Name y p2) X.env) :: starEach [] X.env := by rfl) (hpl : (backTo pos (starEach [.Name y p2] X.env)).any (·.1) = false := by rfl) :
    PE (X.suite a ((a, oe) :: pn)) (.Call (.Name "isinstance" p) [.Name n p1, .Name y p2] [] pos) (tJ G X.K c i fs (eC (.bl b)) a cls d) := by
  have run : PE (X.suite a ((a, oe) :: pn)) (.Call (.Name "isinstance" p) [.Name n p1, .Name y p2] [] pos) (fun σ H Q => σ[i]? = some (some (.ref a)) ∧ cls = .ref (G.cl c) ∧ (∀ dx, d = some dx → ∃ fs, H dx = some (.xd fs)) ∧ Q (.bl b) H) := by
    refine ⟨fun pins s σ H Q I ⟨sl, ec, hd, q⟩ => ?_⟩
    subst ec
    have base := pe_callB (p := p) (pos := pos) (X := X.suite a ((a, oe) :: pn)) (is_ok (X := X) (pn := pn) C hz hf) hg hm (by decide +kernel) (pa_cons (pe_var (X := X.suite a ((a, oe) :: pn)) (pos := p1) hi hln d1 d2) (pa_cons h2 pa_nil s2) s1) (by decide) (by decide) s1 hpl
    exact base.run pins s σ H Q I ⟨.ref a, sl, cv, vv, b, rfl, hv, hk, hd, q⟩
  refine ⟨fun pins s σ H Q I ⟨m, r, h, ec, rh, rs, ex, sl, o⟩ => run.run pins s σ H Q I ⟨sl ?_, ec, fun dx e => ?_, o m H _ (Post.refl rh) (.bl b)⟩⟩
  · rw [I.len]; exact (List.getElem?_eq_some_iff.mp hi).1
  · rcases ex with ⟨_, e2⟩ | ⟨a2, vs, e2, e3, _⟩
    · rw [e] at e2; exact nomatch e2
    · rw [e] at e2; cases e2; exact ⟨vs, e3⟩
/-- arguments -/
def tJA (G : Gam) (K : PySem.W.Frag) (c i : Nat) (fs : List (Nat × D)) (f : AX) (a : Addr) (cls : Value) (d : Option Addr) : TA := fun σ H Q =>
  ∃ m r h, cls = .ref (G.cl c) ∧ RelH G K m h H ∧ RelS K m h.length H r σ ∧ ExcAt G K m h.length H fs d ∧ (i < σ.length → σ[i]? = some (some (.ref a))) ∧ OutA G K (fun _ _ _ => False) m h.length H Q (f r h)
theorem jaNil : PA (X.suite a ((a, oe) :: pn)) [] (tJA G X.K c i fs aNil a cls d) := PA_mono pa_nil fun σ H Q ⟨m, r, h, ec, rh, rs, ex, sl, o⟩ => o m H [] (Post.refl rh) .nil
theorem jaCons {e : Expr} {es : List Expr} {f : EX} {g : AX} (he : PE (X.suite a ((a, oe) :: pn)) e (tJ G X.K c i fs f a cls d)) (hr : PA (X.suite a ((a, oe) :: pn)) es (tJA G X.K c i fs g a cls d)) (hs : starEach (e :: es) X.env = (false, eval e X.env) :: starEach es X.env := by rfl) :
    PA (X.suite a ((a, oe) :: pn)) (e :: es) (tJA G X.K c i fs (aCons f g) a cls d) :=
  PA_mono (pa_cons he hr hs) fun σ H Q ⟨m, r, h, ec, rh, rs, ex, sl, o⟩ => by
    refine ⟨m, r, h, ec, rh, rs, ex, sl, ?_⟩
    rcases OutA.bindR o with ⟨x, h1, e, o⟩ | ⟨c', fs', h1, e, o⟩
    · rw [e]
      intro m1 H1 v p1 d1
      refine ⟨m1, r, h1, ec, p1.rel, p1.s rs, ex.on rh p1, sl, ?_⟩
      rcases OutA.bindR o with ⟨y, h2, e, o⟩ | ⟨c', fs', h2, e, o⟩
      · rw [e]
        intro m2 H2 w p2 d2
        exact o m2 H2 _ (p1.trans p2) (.cons (p2.d d1) d2)
      · rw [e]; exact OutX.later p1 o
    · rw [e]; exact o
theorem toJA {op : List D → LH → R D} {f : AX} {rd : List V → Hp → VK → Prop} (hr : ∀ xs H Q, rA G X.K (fun _ _ _ => False) op xs H Q → rd xs H Q) {σ : L2.St} {H : Hp} {Q : VK} (t : tJ G X.K c i fs (eA op f) a cls d σ H Q) : tJA G X.K c i fs f a cls d σ H (fun vs H1 => rd vs H1 Q) := by
  obtain ⟨m, r, h, ec, rh, rs, ex, sl, o⟩ := t
  refine ⟨m, r, h, ec, rh, rs, ex, sl, ?_⟩
  rcases Out.bindR o with ⟨x, h1, e, o⟩ | ⟨c', fs', h1, e, o⟩
  · rw [e]
    intro m1 H1 v p1 d1
    exact hr _ _ _ ⟨m1, h1, x, p1.rel, d1, Out.later p1 o⟩
  · rw [e]; exact o
theorem jLst {es : List Expr} {g : AX} {pos : Pos} (h : PA (X.suite a ((a, oe) :: pn)) es (tJA G X.K c i fs g a cls d)) : PE (X.suite a ((a, oe) :: pn)) (.List es pos) (tJ G X.K c i fs (eLst g) a cls d) :=
  PE_mono (pe_lst h) fun σ H Q t => toJA (rd := fun xs H1 Q => xs.length ≤ sizeLine ∧ ∀ p, H1 p = none → Q (.ref p) (upd H1 p (.lst xs))) (fun xs H Q ⟨m, h, ds, rh, rd, o⟩ => by
    by_cases hz : ds.length ≤ sizeLine
    · simp only [if_pos hz] at o
      refine ⟨by rw [← rd.length]; exact hz, fun p hp => ?_⟩
      have q := rh.new (o := .lst ds) (u := .lst xs) hp (fun m' ag e => ⟨xs, upd_same, rd.mono ag (Nat.le_succ _) (TK.upd_new hp)⟩)
      have z : RelD X.K (ext m h.length p) (h ++ [O.lst ds]).length (upd H p (.lst xs)) (.ref h.length) (.ref (ext m h.length p h.length)) := .ref (by simp)
      rw [ext_self] at z
      exact o _ _ _ q z
    · simp only [if_neg hz] at o; exact False.elim o) t
/-- f(x, ..), f built-in -/
theorem jBlt {e : Expr} {es : List Expr} {g : AX} {op : List D → LH → R D} {id : String} {x : Str} {p pos : Pos} (hc : CallR (X.suite a ((a, oe) :: pn)) (.builtin id) (rA G X.K (fun _ _ _ => False) op)) (hg : Gl X x) (hm : X.mg x = none) (hv : bootBuiltins x = some (.builtin id)) (ha : PA (X.suite a ((a, oe) :: pn)) (e :: es) (tJA G X.K c i fs g a cls d))
    (hn : x ≠ "__name__" := by decide) (hdb : (x == ("__debug__" : Str)) = false := by decide) (hs : starEach (e :: es) X.env = (false, eval e X.env) :: starEach es X.env := by rfl) (hpl : (backTo pos (starEach es X.env)).any (·.1) = false := by rfl) :
    PE (X.suite a ((a, oe) :: pn)) (.Call (.Name x p) (e :: es) [] pos) (tJ G X.K c i fs (eA op g) a cls d) :=
  PE_mono (pe_callB (X := X.suite a ((a, oe) :: pn)) hc hg hm hv ha hn hdb hs hpl) fun σ H Q t => toJA (fun _ _ _ z => z) t
/-- return e: the suite of a clause -/
theorem hd_ret {e : Expr} {mt : Nat → Option Bool} {i : Nat} {fe : Nat → List (Nat × D) → EX} {pos : Pos} (hk : ∀ c fs, mt c = some true → PE (X.suite a ((a, oe) :: pn)) e (tJ G X.K c i fs (fe c fs) a cls d)) :
    PSs (X.suite a ((a, oe) :: pn)) [.Return (some e) pos] (tHd G X.K mt (some i) (fun c fs => sRet (fe c fs)) a cls d) := by
  refine ⟨fun pins s σ H Z I ⟨c, fs, m, r, h, ec, ek, rh, rs, ex, sl, o⟩ => ?_⟩
  refine (pss_one (ps_ret (hk c fs ek))).run pins s σ H Z I ⟨m, r, h, ec, rh, rs, ex, sl i rfl, ?_⟩
  rcases OutS.toR o with ⟨x, h1, e, o⟩ | ⟨c', fs', h1, e, o⟩
  · rw [e]; exact o
  · rw [e]; exact o
end
end Py

set_option Elab.async false
set_option linter.all false
set_option maxRecDepth 100000
set_option maxHeartbeats 3000000
/-! The end of a law whose defs make lambdas: tables of code objects. -/
namespace Py
open PySem L2 PySem.Spec PyProof.Rows
/-- the law's call, tables at hand -/
theorem law_endT {P : Program} {w : World} {K : PySem.W.Frag} {mg mb : Str → Option Value} {k : Nat} {fa a : Addr} {cs : List (Addr × Addr)} {fd : FuncData} {x : Str} {sp : Sp} {s1 : Shared} {vs : List Value} {ns : List Int}
    (kin : K.In s1.heap) (gl : s1.heap.Ns mainGlobals mg) (bl : s1.heap.Ns builtinsNs mb) (bb : ∀ y : Str, y ≠ "__name__" → mb y = bootBuiltins y) (lim : s1.heap.NoLimit) (g0 : s1.gens = #[])
    (tz : ∀ p ∈ cs, s1.heap.get? p.2 = some { cls := .none, data := .fields #[] }) (tn : ∀ p ∈ cs, K.lookup p.2 = none) (tc : ∀ p ∈ cs, PySem.W.CodeHd s1.heap p.1 p.2)
    (bmn : ∃ (bm : Addr) (ob : Obj), mg "__builtins__" = some (.ref bm) ∧ bm ≠ builtinsNs ∧ s1.heap.get? bm = some ob ∧ ob.cls = .type "module" ∧ ob.dict = some builtinsNs ∧ ob.data = .plain)
    (la : s1.heap.get? a = some { cls := .type "list", data := .seq vs.toArray }) (isn : IntsAre vs ns) (few : ns.length ≤ sizeLine) (room : Room k callerA)
    (F : ∀ base : Heap, K.In base → base.Ns mainGlobals mg → (∀ p ∈ cs, LamX.TabB base mg p.1 p.2) → FnG P w K mg base CX0 k fa fd [x] sp) (bnd : ∀ (s : Shared) (u : Value), BindsTo s fd ⟨[u], []⟩ [(x, u)])
    (hsp : ∀ H : Hp, (∀ p ∈ cs, H p.2 = some (.tbl #[])) → SqF K H a (ns.map V.int) → sp [.ref a] H (fun v _ => v = .bl true) fun _ _ _ => False) :
    codeAny (model P w) callerA (.call (.ref fa) ⟨[.ref a], []⟩) (fun r s' => r = .ok (.ret (.bool true)) ∧ OldK s1.heap s'.heap ∧ s'.os = s1.os ∧ AllBare s'.gens) s1 := by
  have rv : Vals (ns.map V.int) vs := vals_of_ints isn
  have lenV := isn.length
  obtain ⟨tabs, et⟩ : ∃ tabs : List Addr, tabs = cs.map (·.2) := ⟨_, rfl⟩
  have memT : ∀ p ∈ cs, p.2 ∈ tabs := fun p m => by rw [et]; exact List.mem_map_of_mem m
  have ofT : ∀ b ∈ tabs, ∃ p ∈ cs, p.2 = b := fun b m => by rw [et] at m; exact List.mem_map.mp m
  have zT : ∀ b ∈ tabs, s1.heap.get? b = some { cls := .none, data := .fields #[] } := fun b m => by
    obtain ⟨p, hp, rfl⟩ := ofT b m
    exact tz p hp
  have aT : a ∉ tabs := fun z => by
    have q := zT a z
    rw [la] at q
    exact nomatch congrArg Obj.data (Option.some.inj q)
  obtain ⟨ob, eo⟩ : ∃ ob : Obj, ob = { cls := .type "list", data := .seq vs.toArray } := ⟨_, rfl⟩
  rw [← eo] at la
  obtain ⟨H, eH⟩ : ∃ H : Hp, H = fun b => if b ∈ tabs then some (.tbl #[]) else if b = a ∧ K.lookup a = none then some (.frz ob (.lst (ns.map V.int))) else none := ⟨_, rfl⟩
  have hT : ∀ b ∈ tabs, H b = some (.tbl #[]) := fun b m => by rw [eH]; exact if_pos m
  have look : ∀ b u, H b = some u → (b ∈ tabs ∧ u = .tbl #[]) ∨ (b = a ∧ K.lookup a = none ∧ u = .frz ob (.lst (ns.map V.int))) := fun b u e => by
    rw [eH] at e
    by_cases m : b ∈ tabs
    · have e : some (HO.tbl #[]) = some u := (if_pos m).symm.trans e
      exact .inl ⟨m, (Option.some.inj e).symm⟩
    · have e := (if_neg m).symm.trans e
      by_cases c : b = a ∧ K.lookup a = none
      · have e := (if_pos c).symm.trans e
        exact .inr ⟨c.1, c.2, (Option.some.inj e).symm⟩
      · exact nomatch (if_neg c).symm.trans e
  have sq : SqF K H a (ns.map V.int) := by
    cases q : K.lookup a with
    | none => exact .inl ⟨ob, by rw [eH]; show (if a ∈ tabs then _ else _) = _; rw [if_neg aT, if_pos ⟨rfl, q⟩]⟩
    | some o =>
      have e := kin a o q
      rw [la, eo] at e
      cases e
      refine .inr ⟨_, vs.toArray, _, q, rfl, rfl, rfl, ?_, ?_⟩
      · rw [List.size_toArray, lenV]; exact few
      · simpa using rv
  have hok : HOk P w H s1.heap := fun b u e => by
    rcases look b u e with ⟨m, rfl⟩ | ⟨rfl, _, rfl⟩
    · exact zT b m
    · exact ⟨la, by rw [List.length_map]; exact few, vs, _, rv, by rw [la, eo]⟩
  have off : ∀ {b : Addr} {o : Obj}, s1.heap.get? b = some o → (∀ us n, o.data ≠ .seq us n) → o.data ≠ .fields #[] → H b = none := fun {b o} e n1 n2 => by
    cases q : H b with
    | none => rfl
    | some u =>
      rcases look b u q with ⟨m, _⟩ | ⟨rfl, _, _⟩
      · rw [zT b m] at e; cases e; exact absurd rfl n2
      · rw [la, eo] at e; cases e; exact absurd rfl (n1 _ _)
  have at_ : ∀ {b : Addr} {o : Obj}, s1.heap.get? b = some o → (∀ us n, o.data ≠ .seq us n) → o.data ≠ .fields #[] → (hidT s1.heap H).get? b = some o := fun e n1 n2 => hidT_get e (off e n1 n2)
  have nsK : ∀ {b : Addr} {m : Str → Option Value}, s1.heap.Ns b m → (hidT s1.heap H).Ns b m := fun {b m} ⟨o, es, ep, e, d, r⟩ =>
    ⟨o, es, ep, at_ e (fun us n z => by rw [d] at z; exact nomatch z) (fun z => by rw [d] at z; exact nomatch z), d, r⟩
  have kb : K.In (hidT s1.heap H) := fun b o e => hidT_get (kin b o e) (by
    cases q : H b with
    | none => rfl
    | some u =>
      exfalso
      rcases look b u q with ⟨m, _⟩ | ⟨rfl, z, _⟩
      · obtain ⟨p, hp, rfl⟩ := ofT b m
        rw [tn p hp] at e; exact nomatch e
      · rw [z] at e; exact nomatch e)
  have mod : Mod K mg (hidT s1.heap H) := by
    obtain ⟨mc, l1, l2⟩ := lim
    exact ⟨kb, nsK gl, ⟨mb, nsK bl, bb⟩, ⟨mc, nsK l1, l2⟩⟩
  have TB : ∀ p ∈ cs, LamX.TabB (hidT s1.heap H) mg p.1 p.2 := fun p hp => by
    refine ⟨?_, ?_, fun z => ?_⟩
    · obtain ⟨o, us, file, tf, flags, tg, inF, text, tt, c1, c2, c3, c4, c5⟩ := tc p hp
      refine ⟨o, us, file, tf, flags, tg, inF, text, tt, at_ c1 (fun us n z => ?_) (fun z => ?_), c2, c3, c4, c5⟩
      · rw [c3] at z; exact nomatch z
      · rw [c3] at z; cases z; simp at c4
    · obtain ⟨bm, o, b1, b2, b3, b4, b5, b6⟩ := bmn
      refine ⟨bm, o, b1, b2, fun z => ?_, fun z => ?_, at_ b3 (fun us n z => ?_) (fun z => ?_), b4, b5, b6⟩
      · obtain ⟨o', es, ep, e, d, _⟩ := gl
        rw [z, e] at b3; cases b3
        rw [d] at b6; exact nomatch b6
      · rw [z, tz p hp] at b3; cases b3; exact nomatch b6
      · rw [b6] at z; exact nomatch z
      · rw [b6] at z; exact nomatch z
    · obtain ⟨o, es, ep, e, d, _⟩ := gl
      rw [z, tz p hp] at e; cases e
      exact nomatch d
  have e0 : Env0 P w K mg (hidT s1.heap H) callerA [] s1 H :=
    ⟨rfl, mod, fun b o e => of_hidT e, Nat.le_of_eq (hidT_size _ _), trivial, fun b m => absurd (show b ∈ ([] : List Addr) from m) (by simp), hok, .of_eq g0⟩
  refine codeAny_mono ((F _ kb (nsK gl) TB).run callerA [] s1 H ⟨[.ref a], []⟩ [.ref a] [.ref a] _ _ rfl room e0 (bnd s1 (.ref a)) (.cons rfl .nil) (hsp H (fun p hp => hT _ (memT p hp)) sq)) fun r s' z => ?_
  cases r with
  | error e => exact False.elim z
  | ok fl =>
    cases fl with
    | next => exact z.elim
    | brk => exact z.elim
    | cont => exact z.elim
    | ret u =>
      obtain ⟨v, H', os, bare, un, hok', r', q⟩ := z
      subst q
      cases (show u = Value.bool true from r')
      have same : ∀ b o, b ∉ tabs → s1.heap.get? b = some o → s'.heap.get? b = some o := fun b o nb e => by
        cases q : H b with
        | none => exact un.keep b o e q (fun z => absurd (show b ∈ ([] : List Addr) from z) (by simp)) (by simp)
        | some u =>
          rcases look b u q with ⟨m, _⟩ | ⟨_, _, rfl⟩
          · exact absurd m nb
          · obtain ⟨e1, _⟩ := hok b _ q
            obtain ⟨e2, _⟩ := hok' b _ (un.frzs b _ _ q)
            rw [e] at e1; cases e1
            exact e2
      have more : ∀ p ∈ cs, ∃ us : Array Value, s'.heap.get? p.2 = some { cls := .none, data := .fields us } := fun p hp => by
        obtain ⟨us, z⟩ := un.tbls p.2 #[] (hT _ (memT p hp))
        exact ⟨_, hok' p.2 _ z⟩
      refine ⟨rfl, ⟨fun b o e => ?_, fun b o e => ?_⟩, os, bare⟩
      · by_cases m : b ∈ tabs
        · obtain ⟨p, hp, rfl⟩ := ofT b m
          obtain ⟨us, z⟩ := more p hp
          rw [tz p hp] at e; cases e
          exact .inr (.inl ⟨((tc p hp).tab (tz p hp)).isCodeTable, rfl, #[], us, rfl, by rw [Array.empty_append]; exact z⟩)
        · exact .inl (same b o m e)
      · by_cases m : b ∈ tabs
        · obtain ⟨p, hp, rfl⟩ := ofT b m
          obtain ⟨us, z⟩ := more p hp
          exact ⟨_, z⟩
        · exact ⟨o, same b o m e⟩
theorem tabs_of {cs : List (Addr × Addr)} {tabs : List (Addr × Str)} {H : Hp} (h : ∀ t ∈ tabs, ∃ p ∈ cs, p.2 = t.1) (z : ∀ p ∈ cs, H p.2 = some (.tbl #[])) : LamX.Tabs tabs H := fun t m => by
  obtain ⟨p, hp, e⟩ := h t m
  exact LamX.TabS.nil (by rw [← e]; exact z p hp)
end Py

set_option Elab.async false
set_option linter.all false
set_option maxRecDepth 100000
set_option maxHeartbeats 3000000
/-! Own layer: a lambda without parameters, handed to a def that calls it within a try. -/
namespace Py
open PySem L2 PySem.Spec PyProof.Rows LamX
section
variable {G : Gam} {K : PySem.W.Frag} {m m1 : Nat → Addr} {N : Nat} {h h1 : LH} {H H1 : Hp}
theorem RelO.noExt {a : Addr} {o : O} (r : RelO G K m N H a o) {c : Addr} {q : Str} (e : H c = some (CodeO c q)) : a ≠ c := fun z => by
  subst z
  cases o with
  | lst xs => obtain ⟨_, e1, _⟩ := r; rw [e] at e1; exact nomatch e1
  | ins c fs => obtain ⟨_, _, e1, _⟩ := r; rw [e] at e1; exact nomatch e1
  | dct kv => obtain ⟨_, e1, _⟩ := r; rw [e] at e1; exact nomatch e1
  | hid _ => obtain ⟨_, _, e1, _⟩ := r; rw [e] at e1; exact nomatch e1
/-- code objects stay -/
theorem Post.code (a : Post G K m h.length H m1 h1 H1) (r : RelH G K m h H) {c : Addr} {q : Str} (e : H c = some (CodeO c q)) : H1 c = some (CodeO c q) :=
  a.fr c _ e (fun ps => codeO_ne ps) fun i hi => (r.obj i _ (List.getElem?_eq_getElem hi)).noExt e
theorem TK.growN (k : ExtN H H1) : TK K H H1 := by
  refine ⟨fun a vs q => ?_, fun a vs q => ?_, fun a q => ?_, fun a o kvs q => k _ _ q fun ps z => nomatch z⟩
  · rcases q with (q | ⟨u, q⟩) | q
    · exact .inl (.inl (k _ _ q fun ps z => nomatch z))
    · exact .inl (.inr ⟨u, k _ _ q fun ps z => nomatch z⟩)
    · exact .inr q
  · rcases q with ⟨u, q⟩ | q
    · exact .inl ⟨u, k _ _ q fun ps z => nomatch z⟩
    · exact .inr q
  · rcases q with ⟨u, w, q, e⟩ | q
    · exact .inl ⟨u, w, k _ _ q (fun ps z => nomatch z), e⟩
    · exact .inr q
theorem RelH.growN (r : RelH G K m h H) (k : ExtN H H1) (t : Tabs G.tabs H1) : Post G K m h.length H m h H1 := by
  have tk : TK K H H1 := TK.growN k
  refine ⟨fun _ _ => rfl, Nat.le_refl _, tk, ⟨fun n o e => ?_, r.inj, t⟩, fun i h1 h2 => absurd h2 (Nat.not_lt.mpr h1), fun a o e nt _ => k a o e nt⟩
  have ob := r.obj n o e
  obtain ⟨u, hu⟩ := ob.isThere
  exact ob.mono (fun _ _ => rfl) (Nat.le_refl _) tk (by rw [hu]; exact k _ _ hu fun ps z => ob.noTbl ps (by rw [hu, z]))
end
/-! ### a(), in the def that got the lambda -/
section
variable {X : Cx} {pins : List (Addr × Obj)} {σ : L2.St} {H : Hp} {s : Shared}
theorem act_x {G : Gam} {th : EX} {Ng : List Str} {qg : Str} {sg : Scope} {g f c' : Addr} {cdg pm ctv : Value} {ps : Arguments} {body : Expr} {scope : Scope} {k i : Nat} {a : Str} {pn : List (Addr × Obj)} {xe : Value → Shared → Prop} {W : WX} {Eg : XK} {p1 p2 : Pos}
    (I : Inv X pins σ H s) (L : LamS X.env.scope scope) (fo : s.heap.get? f = some (PySem.W.kla_obj "<lambda>" (X.env.qual ++ "<lambda>") ps body scope (cloFrom X.env.cells scope.names []) pm c' ctv)) (fn : H f = none) (ff : f ∉ frs X.stack)
    (bnd : bindArgs (PySem.W.kla_fn "<lambda>" (X.env.qual ++ "<lambda>") ps body scope (cloFrom X.env.cells scope.names []) pm (.ref c') ctv) ⟨[], []⟩ = pure [])
    (tk : Takes ((cxOf CX0 X.prog X.w X.K X.mg X.base Ng qg sg g cdg X.A X.stack s H Eg).tr pn xe) W) (gd : X.A.guards = some []) (room : Room (k + 1) (X.A.deeper (envOfC qg sg s.heap.objs.size g cdg)))
    (bod : ∀ (A : Around) (outer : List Env) (s : Shared) (H : Hp) (E : XK), A.guards = some [] → Room k (A.deeper (lamEnv X scope s.heap.objs.size f c')) → PE (lamCx X A outer s H E scope f c') body (tE G X.K E th))
    (at_ : Ng[i]? = some a) (vi : Vis sg a) (d1 : (a == ("__debug__" : Str)) = false := by decide) (d2 : (a == ("__classdict__" : Str)) = false := by decide) :
    PE ((cxOf CX0 X.prog X.w X.K X.mg X.base Ng qg sg g cdg X.A X.stack s H Eg).tr pn xe) (.Call (.Name a p1) [] [] p2)
      (fun σZ HZ Q => σZ[i]? = some (some (.ref f)) ∧ HZ c' = some (CodeO c' (X.env.qual ++ "<lambda>")) ∧ tE G X.K (WE W σZ) th σ HZ Q) := by
  refine ⟨fun pz sz σZ HZ Q IZ ⟨slot, code, t⟩ => ?_⟩
  refine wpAny_Call_Name_kw (thn ((pe_var (pos := p1) (i := i) at_ vi d1 d2).run pz sz σZ HZ (fun v H1 => v = .ref f ∧ H1 = HZ) IZ ⟨.ref f, slot, rfl, rfl⟩) ?_)
  rintro u s1 ⟨v, H1, I1, r1, rfl, rfl⟩
  cases (show u = Value.ref f from r1)
  have obj1 := I1.base.keep f _ fo fn ff (fun z => nomatch (show f ∈ ([] : List Addr) from z))
  refine PySem.W.callWith_F0 ⟨_, _, _, _, obj1⟩ ?_
  have un : Un (frs X.stack) [] H H1 s.heap s1.heap := I1.base
  obtain ⟨⟨oc, us, tt, co1, co2, co3⟩, _, _⟩ := I1.hok c' _ code
  have run : codeAny (model X.prog X.w) (X.A.deeper (envOfC qg sg s.heap.objs.size g cdg)) (.call (.ref f) ⟨[], []⟩) (CR (L2.CX X.prog X.w) (envOfC qg sg s.heap.objs.size g cdg :: X.stack) X.prog X.w H1 s1 Q (WE W σZ)) s1 := by
    refine PySem.W.kla_callFunE room.depth obj1 rfl L.co L.gen rfl ⟨c', oc, us, tt, rfl, co1, co2, co3⟩ ?_
    rw [bnd]
    refine wpAny_pure (wpAny_newFunctionEnv (fun y hy => (L.own y hy).2) (fun y hy => nomatch hy) (fun h₁ names sub => ⟨I1.nolimit.fresh _ sub, ?_⟩) L.kind)
    have kept : ∀ b o, s1.heap.get? b = some o → h₁.get? b = some o := fun b o e => sub.extBut b o (Nat.ne_of_lt (Heap.lt_size e)) (Heap.get?_push_of_some _ e)
    have J : Inv (lamCx X (X.A.deeper (envOfC qg sg s.heap.objs.size g cdg)) (envOfC qg sg s.heap.objs.size g cdg :: X.stack) s1 H1 (WE W σZ) scope f c') [] σ H1 { s1 with heap := h₁, toks := s1.toks + ([] : List (Str × Value)).length } := lam_start2 I L I1.env0 room.hd un names kept
    refine PySem.W.kla_codeExpr (wpAny_mono ((bod (X.A.deeper (envOfC qg sg s.heap.objs.size g cdg)) _ s1 H1 _ gd (room.deeper _)).run [] _ _ H1 Q J t) ?_ (fun _ _ z => z))
    rintro v s' ⟨w', H', J', rv, q⟩
    exact ⟨w', H', J'.os, J'.bare, J'.base, J'.hok, rv, q⟩
  refine wpAny_call (codeAny_mono run ?_)
  intro r s' z
  cases r with
  | error e => exact passAt tk σZ pz H1 s1 e s' I1 z
  | ok fl =>
    cases fl with
    | ret u => exact I1.after z
    | next => exact z.elim
    | brk => exact z.elim
    | cont => exact z.elim
end
/-! ### the def that calls it -/
/-- told: f the lambda, c' its code object, σ0 the maker's locals, th what the lambda computes -/
def tB (G : Gam) (K : PySem.W.Frag) (f c' : Addr) (q : Str) (σ0 : L2.St) (th : EX) (E : XK) (b : (LH → R D) → SX) : TS := fun Z σ H =>
  ∃ m h r0 r, RelH G K m h H ∧ RelS K m h.length H r0 σ0 ∧ RelS K m h.length H r σ ∧ σ[0]? = some (some (.ref f)) ∧ H c' = some (CodeO c' q) ∧ OutS G K E m h.length H Z (b (th r0) r h)
/-- what the call of the lambda is worth there -/
def tZ (G : Gam) (K : PySem.W.Frag) (f c' : Addr) (q : Str) (σ0 : L2.St) (th : EX) (E : L2.St → XK) : TE := fun σ H Q => σ[0]? = some (some (.ref f)) ∧ H c' = some (CodeO c' q) ∧ tE G K (E σ) th σ0 H Q
def Act (Y : Cx) (G : Gam) (f c' : Addr) (q : Str) (σ0 : L2.St) (th : EX) (a : Str) (W : WX) : Prop := ∀ p1 p2 : Pos, PE Y (.Call (.Name a p1) [] [] p2) (tZ G Y.K f c' q σ0 th (WE W))
section
variable {X : Cx} {G : Gam} {E : XK} {f c' : Addr} {q a : Str} {σ0 : L2.St} {th : EX} {W : WX}
/-- return a() -/
def lRet : (LH → R D) → SX := fun k => sRet fun _ h => k h
/-- a() alone -/
def lE : (LH → R D) → SX := fun k => sE fun _ h => k h
/-- x = a() -/
def lAsg (g : GX) : (LH → R D) → SX := fun k => sAsg (fun _ h => k h) g
end
/-! ### the try around it -/
def lTry (b : (LH → R D) → SX) (l : List Hd) : (LH → R D) → SX := fun k => sTry (b k) l
def lSeq (b : (LH → R D) → SX) (g : SX) : (LH → R D) → SX := fun k => sSeq (b k) g
section
variable {X : Cx} {G : Gam} {E : XK}
/-- a try's outcome, seen from its body -/
theorem try_out {K : PySem.W.Frag} {b : SX} {l : List (Value × Hd)} {m : Nat → Addr} {h : LH} {H : Hp} {r : LS} {σ : L2.St} {Z : Ends} (hm : ∀ p ∈ l, ∀ c k, p.2.1 c = some k → PySem.W.exmOne K (.ref (G.cl c)) p.1 = some k)
    (rs : RelS K m h.length H r σ) (o : OutS G K E m h.length H Z (sTry b (l.map (·.2)) r h)) : OutS G K (WE (wCls K Z (l.map (clOf G K))) σ) m h.length H Z (b r h) := by
  unfold sTry at o
  cases q : b r h with
  | nx r1 h1 => rw [q] at o; exact o
  | rt d h1 => rw [q] at o; exact o
  | bk r1 h1 => rw [q] at o; exact o
  | ct r1 h1 => rw [q] at o; exact o
  | stuck => rw [q] at o; exact o
  | exc c fs h1 =>
    rw [q] at o
    intro m' H' od p ex
    have o' : OutS G K E m' h1.length H' Z (hdl (l.map (·.2)) c fs r h1) := OutS.later p o
    have rs' := p.s rs
    have rel := p.rel
    clear o q rs p
    show wCls K Z (l.map (clOf G K)) (.ref (G.cl c)) od σ H'
    induction l with
    | nil => exact o'
    | cons pp l ih =>
      obtain ⟨cv, mt, oi, bb⟩ := pp
      have one := hm _ (List.mem_cons_self ..)
      have o2 : OutS G K E m' h1.length H' Z (match mt c with | some true => wipeF oi (bb c fs (wipe r oi) h1) | some false => hdl (l.map (·.2)) c fs r h1 | none => .stuck) := o'
      cases k : mt c with
      | none => rw [k] at o2; exact o2.elim
      | some yes =>
        rw [k] at o2
        cases yes with
        | false => exact ⟨false, one c _ k, (fun z => nomatch z), fun _ => ih (fun p hp => hm p (List.mem_cons_of_mem _ hp)) o2⟩
        | true =>
          refine ⟨true, one c _ k, fun _ a na => ⟨c, fs, m', wipe r oi, h1, rfl, k, rel, ?_, ex, ?_, out_wipe o2⟩, (fun z => nomatch z)⟩
          · cases oi with
            | none => exact rs'
            | some i => exact rs'.wipe1 i _
          · intro i e
            cases e
            intro lt
            have lt : i < (σ.set i (some (.ref a))).length := lt
            rw [List.length_set] at lt
            exact List.getElem?_set_self lt
variable {f c' : Addr} {q a : Str} {σ0 : L2.St} {th : EX}
theorem lTry_ok {b : (LH → R D) → SX} {body : List Stmt} {h₀ : ExceptHandler} {hds : List ExceptHandler} {pos : Pos} {l : List (Value × Hd)} (hs : X.stack = X.env :: X.outer) (hf : X.env.frame = some X.env.locals)
    (ac : ∀ (W : WX) (pn : List (Addr × Obj)) (xe : Value → Shared → Prop), Takes (X.tr pn xe) W → Act (X.tr pn xe) G f c' q σ0 th a W)
    (hb : ∀ (W : WX) (pn : List (Addr × Obj)) (xe : Value → Shared → Prop), Act (X.tr pn xe) G f c' q σ0 th a W → PSs (X.tr pn xe) body (fun Z σ H => tB G X.K f c' q σ0 th (WE W σ) b Z σ H))
    (hh : ClsOk X (h₀ :: hds) (l.map (clOf G X.K))) (hm : ∀ p ∈ l, ∀ c k, p.2.1 c = some k → PySem.W.exmOne X.K (.ref (G.cl c)) p.1 = some k) :
    PS X (.Try body (h₀ :: hds) [] [] pos) (tB G X.K f c' q σ0 th E (lTry b (l.map (·.2)))) := by
  refine PS_mono (ps_tryA (tb := fun W Z σ H => tB G X.K f c' q σ0 th (WE W σ) b Z σ H) hs hf (fun W pn xe tk _ => hb W pn xe (ac W pn xe tk)) hh) ?_
  rintro Z σ H ⟨m, h, r0, r, rh, rs0, rs, sl, co, o⟩
  exact ⟨m, h, r0, r, rh, rs0, rs, sl, co, try_out hm rs o⟩
theorem lSeq_ok {st : Stmt} {sts : List Stmt} {b : (LH → R D) → SX} {g : SX} (h1 : PS X st (tB G X.K f c' q σ0 th E b)) (h2 : PSs X sts (tS G X.K E g)) : PSs X (st :: sts) (tB G X.K f c' q σ0 th E (lSeq b g)) :=
  PSs_mono (pss_cons h1 h2) fun Z σ H ⟨m, h, r0, r, rh, rs0, rs, sl, co, o⟩ => by
    refine ⟨m, h, r0, r, rh, rs0, rs, sl, co, ?_⟩
    have o : OutS G X.K E m h.length H Z (sSeq (b (th r0)) g r h) := o
    unfold sSeq at o
    cases z : b (th r0) r h with
    | nx r1 h1 =>
      rw [z] at o
      intro m1 H1 s1 p1 q1
      exact ⟨m1, r1, h1, p1.rel, q1, OutS.later p1 o⟩
    | rt d h1 => rw [z] at o; exact o
    | bk r1 h1 => rw [z] at o; exact o
    | ct r1 h1 => rw [z] at o; exact o
    | exc c fs h1 => rw [z] at o; exact o
    | stuck => rw [z] at o; exact o
end
/-! ### the call of such a def -/
/-- its body, wherever it is called -/
def Told (G : Gam) (P : Program) (w : World) (K : PySem.W.Frag) (mg : Str → Option Value) (base : Heap) (k : Nat) (N : List Str) (x : Str) (sg : Scope) (g : Addr) (bg : List Stmt) (a : Str) (b : (LH → R D) → SX) : Prop :=
  ∀ (cdv : Value) (A : Around) (outer : List Env) (s : Shared) (H : Hp) (f c' : Addr) (q : Str) (σ0 : L2.St) (th : EX), A.guards = some [] → Room k (A.deeper (envOfC x sg s.heap.objs.size g cdv)) →
    (∀ (W : WX) (pn : List (Addr × Obj)) (xe : Value → Shared → Prop), Takes ((cxOf CX0 P w K mg base N x sg g cdv A outer s H E0).nox.tr pn xe) W → Act ((cxOf CX0 P w K mg base N x sg g cdv A outer s H E0).nox.tr pn xe) G f c' q σ0 th a W) →
    PSs (cxOf CX0 P w K mg base N x sg g cdv A outer s H E0).nox bg (tB G K f c' q σ0 th E0 b)
theorem Told.up {G : Gam} {P : Program} {w : World} {K : PySem.W.Frag} {mg : Str → Option Value} {base : Heap} {j k : Nat} {N : List Str} {x : Str} {sg : Scope} {g : Addr} {bg : List Stmt} {a : Str} {b : (LH → R D) → SX} (T : Told G P w K mg base j N x sg g bg a b) (l : j ≤ k) : Told G P w K mg base k N x sg g bg a b :=
  fun cdv A outer s H f c' q σ0 th hg hr => T cdv A outer s H f c' q σ0 th hg (hr.mono l)
theorem takesL {X : Cx} {A : Around} {outer : List Env} {s : Shared} {H : Hp} {E : XK} {scope : Scope} {f c' : Addr} : Takes (lamCx X A outer s H E scope f c') (fun cls d _ H => E cls d H) := takes_of rfl rfl rfl rfl
def eTold (n : Nat) (b : (LH → R D) → SX) (th : EX) : EX := fun r h => match b (th r) (List.replicate n none) h with
  | .nx _ h1 => .ok .non h1
  | .rt d h1 => .ok d h1
  | _ => .stuck
/-- a def whose code object is known -/
def FunM (K : PySem.W.Frag) (x qual : Str) (params : Arguments) (body : List Stmt) (scope : Scope) (c f : Addr) (fd : FuncData) : Prop :=
  ∃ (oc : Value) (od : Option Addr) (kV doc pm : Value) (an : Option Addr) (ct : Value) (osl : Array (Option Value)),
    fd = PySem.W.fnOf x qual params body scope .none kV doc pm an (.ref c) ct ∧ K.lookup f = some ⟨oc, od, .func fd, osl⟩ ∧ PySem.W.codeIn K (.ref c) qual = true
theorem fnG_M {G : Gam} {CX : CXT} {P : Program} {w : World} {K : PySem.W.Frag} {mg : Str → Option Value} {base : Heap} {k : Nat} {x qual : Str} {params : Arguments} {body : List Stmt} {scope : Scope} {c f : Addr} {fd : FuncData} {N ps : List Str} {b : SX} {n kk : Nat}
    (F : FunM K x qual params body scope c f fd) (S : FnScope N ps scope) (hn : ps.length = n) (hk : N.length - ps.length = kk)
    (hbody : ∀ (A : Around) (outer : List Env) (s : Shared) (H : Hp) (E : XK), A.guards = some [] → Room k (A.deeper (envOfC qual scope s.heap.objs.size f (.ref c))) →
      PSs (cxOf CX P w K mg base N qual scope f (.ref c) A outer s H E) body (tS G K E b)) : FnG P w K mg base CX (k + 1) f fd ps (spF G K (runF n kk b)) := by
  obtain ⟨oc, od, kV, doc, pm, an, ct, osl, rfl, lk, hcd⟩ := F
  exact fnG_of lk hcd S hn hk hbody
section
variable {X : Cx} {G : Gam} {E : XK}
theorem xTold {x a : Str} {g c P : Addr} {k n : Nat} {fd : FuncData} {pg : Arguments} {bg : List Stmt} {sg : Scope} {Ng : List Str} {b : (LH → R D) → SX} {ps : Arguments} {body : Expr} {scope : Scope} {th : EX} {p lpos pos : Pos}
    (F : FunD X.K x x pg bg sg [] [] g fd) (S : FnScope Ng [a] sg) (hn : Ng.length = n + 1) (at0 : Ng[0]? = some a) (vi : Vis sg a)
    (bn : ∀ (kV doc pm : Value) (an : Option Addr) (cdv ct : Value) (us : List Value), us.length = 1 → bindArgs (PySem.W.fnOf x x pg bg sg .none kV doc pm an cdv ct) ⟨us, []⟩ = pure (([a] : List Str).zip us))
    (T : Told G X.prog X.w X.K X.mg X.base (k + 1) Ng x sg g bg a b) (gl : Gl X x) (hm : X.mg x = some (.ref g)) (TB : TabB X.base X.mg c P) (hc : X.env.code = .ref c) (inT : (P, X.env.qual ++ "<lambda>") ∈ G.tabs) (un : ∀ p ∈ G.tabs, p.1 = P → p.2 = X.env.qual ++ "<lambda>")
    (gd : X.A.guards = some []) (room : Room (k + 2) X.A) (L : LamS X.env.scope scope) (nd : defaultsOf ps X.env = ([], []))
    (lb : ∀ (q : Str) (cl : List (Str × Addr)) (pm cv ctv : Value), bindArgs (PySem.W.kla_fn "<lambda>" q ps body scope cl pm cv ctv) ⟨[], []⟩ = pure [])
    (bod : ∀ (f c' : Addr) (A : Around) (outer : List Env) (s : Shared) (H : Hp) (E : XK), A.guards = some [] → Room k (A.deeper (lamEnv X scope s.heap.objs.size f c')) → PE (lamCx X A outer s H E scope f c') body (tE G X.K E th))
    (d0 : (x == ("__debug__" : Str)) = false := by decide) (d1 : (a == ("__debug__" : Str)) = false := by decide) (d2 : (a == ("__classdict__" : Str)) = false := by decide) :
    PE X (.Call (.Name x p) [.Lambda ps body scope lpos] [] pos) (tE G X.K E (eTold (n + 1) b th)) := by
  refine ⟨fun pins s σ H Q I ⟨m, r, h, rh, rs, o⟩ => ?_⟩
  obtain ⟨oc, od, dV, kV, doc, pm, an, cdv, ct, osl, rfl, lk, hcd, dfl, _⟩ := F.ex
  have dz : dV = .none := by
    rcases dfl with ⟨_, e⟩ | ⟨e, _⟩
    · exact e
    · exact absurd rfl e
  subst dz
  refine wpAny_Call_Name_kw (ld_glob I gl hm ?_ d0)
  refine PySem.W.callWith_K (h₀ := X.base) I.ok.mod.kin F.kp ?_ (by rfl) (by rfl)
  show wpAny _ _ (spliced ((false, eval (.Lambda ps body scope lpos) X.env) :: backTo pos (starEach [] X.env))) _ _ s
  refine Calls.spliced_cons (lam_make2 I TB hc inT un rh.tab nd (L.has I.ok) fun f c' pm' ctv H1 s1 I1 grow T1 fo fn ff code => ?_)
  refine Calls.spliced_nil ⟨I1.kIn, ?_⟩
  have p1 := rh.growN grow T1
  have run : codeAny (model X.prog X.w) X.A (.call (.ref g) ⟨[.ref f], []⟩) (CR CX0 X.stack X.prog X.w H1 s1 Q E0) s1 := by
    refine run_ofS (N := Ng) (ps := [a]) (us := [.ref f]) (vs := [.ref f]) lk hcd S room I1.env0 ((F.bindsA (ps := [a]) bn) s1 [.ref f] rfl) (.cons rfl .nil) rfl fun room' => ?_
    refine ⟨_, (T cdv X.A X.stack s1 H1 f c' (X.env.qual ++ "<lambda>") σ th gd room' fun W pn xe tk p1 p2 => ?_).nox, ?_⟩
    · exact act_x (i := 0) (Eg := E0) I1 L fo fn ff (lb _ _ _ _ _) tk gd room' (fun A outer s H E g r => bod f c' A outer s H E g r) at0 vi d1 d2
    · have e1 : L2.start Ng [.ref f] = some (.ref f) :: List.replicate n none := by
        unfold L2.start
        rw [hn] <;> rfl
      rw [e1]
      refine ⟨m, h, r, List.replicate (n + 1) none, p1.rel, p1.s rs, .no (RelS.of n .nil), rfl, code, ?_⟩
      have o := Out.later p1 o
      unfold eTold at o
      cases z : b (th r) (List.replicate (n + 1) none) h with
      | nx r1 h1 => rw [z] at o; exact fun m' H' s p _ => o m' H' _ p .non
      | rt d h1 => rw [z] at o; exact o
      | bk r1 h1 => rw [z] at o; exact o.elim
      | ct r1 h1 => rw [z] at o; exact o.elim
      | exc c fs h1 => rw [z] at o; exact o.elim
      | stuck => rw [z] at o; exact o.elim
  refine wpAny_call (codeAny_mono run ?_)
  intro r s' z
  cases r with
  | error e => exact (show False from z).elim
  | ok fl =>
    cases fl with
    | ret u => exact I1.after z
    | next => exact z.elim
    | brk => exact z.elim
    | cont => exact z.elim
end
end Py

set_option Elab.async false
set_option linter.all false
set_option maxRecDepth 100000
set_option maxHeartbeats 4000000
/-! Own layer: lists with own instances compared (all found equal); isinstance of an own instance; calls that might raise but do not. -/
namespace GQ
open PySem PySem.SeqAt
open AutoSeq1 (wpAny_loadPart')
open MeetsSeq MeetsSeq2 MeetsSeq3 SeqRoads2
section
variable {prog : Program} {w : World} {A : Around} {R : Result → Shared → Prop}
end
section
variable {prog : Program} {w : World} {A : Around} {E : Value → Shared → Prop} {s : Shared}
end
end GQ
namespace Py
open PySem PySem.Spec PyProof.Rows L2
/-! ### == of lists with own instances -/
def sameF : D → D → Bool
  | .non, .non => true
  | .bl a, .bl b => a == b
  | .int a, .int b => decide (a = b)
  | .str a, .str b => decide (a = b)
  | _, _ => false
def eqItm (c : Nat) (cf : CF) (x y : D) (h : LH) : Option LH := if sameF x y = true then some h else match x, y with
  | .ref a, .ref b => if a = b then some h else (match h[a]?, h[b]? with
    | some (.ins c1 _), some (.ins c2 _) => if c1 = c ∧ c2 = c then (match cf [.ref a, .ref b] h with
      | .ok (.bl true) h1 => some h1
      | _ => none) else none
    | _, _ => none)
  | _, _ => none
def twoL (n k N : Nat) (h : LH) : Option (List D × List D) := match h[n]?, h[k]? with
  | some (.lst xs), some (.lst ys) => if xs.length = N ∧ ys.length = N then some (xs, ys) else none
  | _, _ => none
def eqLoop (c : Nat) (cf : CF) (n k N : Nat) : Nat → Nat → LH → Option LH
  | 0, _, h => (twoL n k N h).map fun _ => h
  | f + 1, i, h => (twoL n k N h).bind fun p => match p.1[i]?, p.2[i]? with
    | some x, some y => (eqItm c cf x y h).bind fun h1 => eqLoop c cf n k N f (i + 1) h1
    | _, _ => none
def oEqL (c : Nat) (cf : CF) (neg : Bool) : D → D → LH → R D
  | .ref n, .ref k, h => (match h[n]? with
    | some (.lst xs) => (match eqLoop c cf n k xs.length xs.length 0 h with
      | some h1 => .ok (.bl (!neg)) h1
      | none => .stuck)
    | _ => .stuck)
  | _, _, _ => .stuck
section
variable {X : Cx} {G : Gam} {E : XK} {CX : CXT}
/-! ### calls that might raise, but do not -/
def nxK (op : KF) : KF := fun ds es h => match op ds es h with
  | .exc _ _ _ => .stuck
  | r => r
/-! ### isinstance(x, (t1, t2)), x perhaps an own instance -/
def oIsiO (c : Nat) (ks : List Kd) : D → LH → R D := fun d h => match kindD d h with
  | some k => .ok (.bl (ks.any fun t => k.is t)) h
  | none => (match d with
    | .ref n => (match h[n]? with
      | some (.ins c' _) => if c' = c then .ok (.bl false) h else .stuck
      | _ => .stuck)
    | _ => .stuck)
variable {a : Expr} {fa : EX} {pos : Pos}
end
end Py

set_option Elab.async false
set_option linter.all false
set_option maxRecDepth 100000
set_option maxHeartbeats 3000000
/-! Own layer: return [x, a()]. -/
namespace Py
open PySem L2 PySem.Spec PyProof.Rows LamX
section
variable {X : Cx} {G : Gam} {f c' : Addr} {q a : Str} {σ0 : L2.St} {th : EX} {W : WX}
def lMade (x : Str) : (LH → R D) → SX := fun k => sRet (eLst (aCons (eC (.str x)) (aCons (fun _ h => k h) aNil)))
end
end Py

set_option Elab.async false
set_option linter.all false
set_option maxRecDepth 100000
set_option maxHeartbeats 2000000
/-! Own layer: repr of data with dicts in it. -/
namespace Py
open PySem PySem.Spec PyProof.Rows L2
def kyP : Ky → PyData
  | .inl i => .int i
  | .inr x => .str x
/-- data as a whole, dicts too -/
def deepK (h : LH) : Nat → D → Option PyData
  | _, .non => some .none
  | _, .bl b => some (.bool b)
  | _, .int i => some (.int i)
  | _, .str x => some (.str x)
  | _, .scr _ => none
  | _, .fn _ => none
  | 0, _ => none
  | n + 1, .tup xs => (mapO (deepK h n) xs).map .tuple
  | n + 1, .ref k => match h[k]? with
    | some (.lst xs) => (mapO (deepK h n) xs).map .list
    | some (.dct kvs) => (mapO (deepK h n) (kvs.map Prod.snd)).map fun ys => .dict ((kvs.map fun p => kyP p.1).zip ys)
    | _ => none
def showK (a : PyData) : Bool := a.showable && decide (a.depth ≤ 64) && decide (a.shown.length ≤ sizeLine)
/-- repr(x) of any data -/
def bRepK : List D → LH → R D
  | [.ref n], h => (match deepK h 60 (.ref n) with
    | some a => if showK a = true then .ok (.str a.shown) h else .stuck
    | none => .stuck)
  | [.tup xs], h => (match deepK h 60 (.tup xs) with
    | some a => if showK a = true then .ok (.str a.shown) h else .stuck
    | none => .stuck)
  | [.str x], h => if (reprText x).length ≤ sizeLine then .ok (.str (reprText x)) h else .stuck
  | [.bl b], h => .ok (.str (if b then "True" else "False")) h
  | xs, h => bRepN xs h
/-- a value that is read and shown -/
def Rd3 (P : Program) (w : World) (hp : Heap) (u : Value) (x : PyData) : Prop :=
  ∃ as bs, Reads hp u x as ∧ ReadAtMost hp x.depth bs ∧ ReprK P w bs hp x.depth u x.shown ∧ ∀ a, u = .ref a → ∃ T idr, ShowsBy P w hp a x T idr
def Rd3s (P : Program) (w : World) (hp : Heap) (us : List Value) (ys : List PyData) : Prop :=
  ∃ as bs, ReadsAll hp us ys as ∧ ReadAtMost hp (PyData.depthAll ys) bs ∧ ReprAllK P w bs hp (PyData.depthAll ys) us (PyData.shownAll ys)
section
variable {P : Program} {w : World} {hp : Heap}
theorem rd3_nil : Rd3s P w hp [] [] := ⟨[], [], .nil, (fun _ z => nomatch z), .nil⟩
theorem rd3_cons {u : Value} {x : PyData} {us : List Value} {ys : List PyData} (a : Rd3 P w hp u x) (b : Rd3s P w hp us ys) : Rd3s P w hp (u :: us) (x :: ys) := by
  obtain ⟨a1, b1, r1, m1, k1, _⟩ := a
  obtain ⟨a2, b2, r2, m2, k2⟩ := b
  refine ⟨_, b1 ++ b2, .cons r1 r2, ?_, ?_⟩
  · simp only [PyData.depthAll]
    exact (m1.mono (Nat.le_max_left _ _)).append (m2.mono (Nat.le_max_right _ _))
  · simp only [PyData.depthAll, PyData.shownAll]
    exact .cons ((k1.more fun b z => List.mem_append.mpr (.inl z)).level_le (Nat.le_max_left _ _)) (k2.more_le (fun b z => List.mem_append.mpr (.inr z)) (Nat.le_max_right _ _))
theorem rd3_flat {u : Value} {x : PyData} {t : Str} (r : Reads hp u x []) (s : ReprIs P w u t) (e : x.shown = t) (n : ∀ a, u ≠ .ref a) : Rd3 P w hp u x :=
  ⟨[], [], r, (fun _ z => nomatch z), by rw [e]; exact .of_is s _ _ _, fun a z => absurd z (n a)⟩
theorem rd3_lst {a : Addr} {o : Obj} {us : List Value} {n : Nat} {ys : List PyData} (g : hp.get? a = some o) (c : o.cls = .type "list") (d : o.data = .seq us.toArray n) (z : (PyData.list ys).shown.length ≤ sizeLine) (r : Rd3s P w hp us ys) : Rd3 P w hp (.ref a) (.list ys) := by
  obtain ⟨as, bs, r, m, k⟩ := r
  have q : Reads hp (.ref a) (.list ys) (a :: as) := .list g c d (by simpa using r)
  have na : a ∉ bs := not_mem_of_deeper q (by simp only [PyData.depth]; exact Nat.lt_succ_self _) m
  have z2 : (listText (PyData.shownAll ys)).length ≤ sizeLine := by simpa only [PyData.shown] using z
  refine ⟨_, a :: bs, q, ReadAtMost.cons q (by simp only [PyData.depth]; exact Nat.le_succ _) m, ?_, ?_⟩
  · simp only [PyData.depth, PyData.shown]
    cases us with
    | nil =>
      cases r
      simp only [PyData.shownAll, listText_nil]
      exact .listEmpty g c d
    | cons x l => exact .list g c d na (by simpa using k.length_eq) fun i y e => k.item i y (by simpa using e)
  · rintro b e
    cases e
    refine ⟨"list", "list.__repr__", F.slot_list_repr.toG, F.slot_list_str, F.slot_list_format, fun s kp => ⟨o, kp _ _ g, c⟩, fun A E s Q hg hu kp hQ => ?_⟩
    simp only [PyData.depth] at hu
    simp only [PyData.shown] at hQ
    cases us with
    | nil =>
      cases r
      simp only [PyData.shownAll, listText_nil] at hQ
      exact call_list_repr_empty ⟨o, kp _ _ g, c⟩ (kp _ _ g) d (hQ s.heap _ _ fun _ _ e => e)
    | cons x l => exact call_list_reprK g c d na (by simpa using k.length_eq) (fun i y e => k.item i y (by simpa using e)) hg (fun b _ => Clear.nil b) hu kp hQ z2
theorem rd3_tup {a : Addr} {o : Obj} {us : List Value} {n : Nat} {ys : List PyData} (g : hp.get? a = some o) (c : o.cls = .type "tuple") (d : o.data = .seq us.toArray n) (z : (PyData.tuple ys).shown.length ≤ sizeLine) (r : Rd3s P w hp us ys) : Rd3 P w hp (.ref a) (.tuple ys) := by
  obtain ⟨as, bs, r, m, k⟩ := r
  have q : Reads hp (.ref a) (.tuple ys) as := .tuple g c d (by simpa using r)
  have na : a ∉ bs := not_mem_of_deeper q (by simp only [PyData.depth]; exact Nat.lt_succ_self _) m
  have z2 : (tupleText (PyData.shownAll ys)).length ≤ sizeLine := by simpa only [PyData.shown] using z
  refine ⟨_, a :: bs, q, ReadAtMost.cons q (by simp only [PyData.depth]; exact Nat.le_succ _) m, ?_, ?_⟩
  · simp only [PyData.depth, PyData.shown]
    exact .tuple g c d na (by simpa using k)
  · rintro b e
    cases e
    refine ⟨"tuple", "tuple.__repr__", F.slot_tuple_repr, F.slot_tuple_str, F.slot_tuple_format, fun s kp => ⟨o, kp _ _ g, c⟩, fun A E s Q hg hu kp hQ => ?_⟩
    simp only [PyData.depth] at hu
    simp only [PyData.shown] at hQ
    exact call_tuple_reprK g c d na (by simpa using k) hg (fun b _ => Clear.nil b) hu kp hQ z2
theorem rd3_dct {a : Addr} {o : Obj} {es : Array DictEntry} {n : Nat} {kvs : List (PyData × PyData)} (g : hp.get? a = some o) (c : o.cls = .type "dict") (d : o.data = .dict es n) (sm : (a == sysModules) = false) (z : (PyData.dict kvs).shown.length ≤ sizeLine)
    (r1 : Rd3s P w hp (es.toList.map (·.key)) (kvs.map (·.1))) (r2 : Rd3s P w hp (es.toList.map (·.val)) (kvs.map (·.2))) : Rd3 P w hp (.ref a) (.dict kvs) := by
  obtain ⟨as1, bs1, r1, m1, k1⟩ := r1
  obtain ⟨as2, bs2, r2, m2, k2⟩ := r2
  have q : Reads hp (.ref a) (.dict kvs) (a :: as1 ++ as2) := .dict g c d r1 r2
  have m : ReadAtMost hp (PyData.depthKv kvs) (bs1 ++ bs2) := (m1.mono (PyData.depthAll_keys_le kvs)).append (m2.mono (PyData.depthAll_vals_le kvs))
  have na : a ∉ bs1 ++ bs2 := not_mem_of_deeper q (by simp only [PyData.depth]; exact Nat.lt_succ_self _) m
  have z2 : (dictText (PyData.shownKv kvs)).length ≤ sizeLine := by simpa only [PyData.shown] using z
  have en := ReprEntriesK.of_two es.toList _ _ (k1.more_le (fun b z => List.mem_append.mpr (.inl z)) (PyData.depthAll_keys_le kvs)) (k2.more_le (fun b z => List.mem_append.mpr (.inr z)) (PyData.depthAll_vals_le kvs))
  rw [← PyData.shownKv_eq] at en
  refine ⟨_, a :: (bs1 ++ bs2), q, ReadAtMost.cons q (by simp only [PyData.depth]; exact Nat.le_succ _) m, ?_, ?_⟩
  · simp only [PyData.depth, PyData.shown]
    exact .dict g c d sm na en
  · rintro b e
    cases e
    refine ⟨"dict", "dict.__repr__", F.slot_dict_repr, F.slot_dict_str, F.slot_dict_format, fun s kp => ⟨o, kp _ _ g, c⟩, fun A E s Q hg hu kp hQ => ?_⟩
    simp only [PyData.depth] at hu
    simp only [PyData.shown] at hQ
    exact call_dict_reprK g c d sm na en hg (fun b _ => Clear.nil b) hu kp hQ z2
end
theorem rel_snd {K : PySem.W.Frag} {m : Nat → Addr} {N : Nat} {H : Hp} : ∀ {kvs : List (Ky × D)} {vs : List (L2.Key × V)}, RelKs K m N H kvs vs → RelDs K m N H (kvs.map Prod.snd) (vs.map Prod.snd)
  | _, _, .nil => .nil
  | _, _, .cons a r => .cons a (rel_snd r)
theorem rel_keys {K : PySem.W.Frag} {m : Nat → Addr} {N : Nat} {H : Hp} : ∀ {kvs : List (Ky × D)} {vs : List (L2.Key × V)}, RelKs K m N H kvs vs → kvs.map Prod.fst = vs.map Prod.fst
  | _, _, .nil => rfl
  | _, _, .cons a r => by rw [List.map_cons, List.map_cons, rel_keys r]
theorem kv_snd : ∀ {vs : List (L2.Key × V)} {ws : List (L2.Key × Value)}, KV vs ws → vs.map Prod.fst = ws.map Prod.fst ∧ Vals (vs.map Prod.snd) (ws.map Prod.snd)
  | _, _, .nil => ⟨rfl, .nil⟩
  | _, _, .cons a r => by
    obtain ⟨e, v⟩ := kv_snd r
    exact ⟨by rw [List.map_cons, List.map_cons, e, a.1], .cons a.2 v⟩
theorem pairs_val {P : Program} {w : World} : ∀ {es : List DictEntry} {ws : List (L2.Key × Value)}, PySem.Pairs (mixKind P w) es ws → es.map (·.val) = ws.map Prod.snd
  | _, _, .nil => rfl
  | _, _, .cons _ e r => by rw [List.map_cons, List.map_cons, e, pairs_val r]
theorem pairs_key {P : Program} {w : World} {hp : Heap} : ∀ {es : List DictEntry} {ws : List (L2.Key × Value)}, PySem.Pairs (mixKind P w) es ws → PyData.showableAll (ws.map fun p => kyP p.1) = true → (∀ t ∈ PyData.shownAll (ws.map fun p => kyP p.1), t.length ≤ sizeLine) → Rd3s P w hp (es.map (·.key)) (ws.map fun p => kyP p.1)
  | _, _, .nil, _, _ => rd3_nil
  | _, _, .cons (e := e) (kv := kv) k _ r, s, z => by
    simp only [List.map_cons, PyData.showableAll, Bool.and_eq_true] at s
    simp only [List.map_cons, PyData.shownAll] at z
    refine rd3_cons ?_ (pairs_key r s.2 fun t m => z t (List.mem_cons_of_mem _ m))
    have k : keyIs kv.1 e.key = true := k
    obtain ⟨q, val⟩ := kv
    have s1 := s.1
    have z1 := z _ (List.mem_cons_self ..)
    clear s z
    rcases keyIs_shape k with ⟨i, t, e1, e2⟩ | ⟨x, t, e1, e2⟩
    · dsimp only at e1 s1 z1 ⊢
      subst e1
      rw [e2]
      exact rd3_flat (.int i t) (ReprIs.int t (by simpa [kyP, PyData.showable] using s1)) rfl fun a z => nomatch z
    · dsimp only at e1 s1 z1 ⊢
      subst e1
      rw [e2]
      exact rd3_flat (.str x t) (ReprIs.str x t (by simpa only [kyP, PyData.shown] using z1)) rfl fun a z => nomatch z
section
variable {X : Cx} {G : Gam} {E : XK} {pins : List (Addr × Obj)} {σ : L2.St} {H : Hp} {s : Shared} {m : Nat → Addr} {h : LH}
theorem rd3s_of {f : D → Option PyData} (ih : ∀ (d : D) (v : V) (u : Value) (x : PyData), RelD X.K m h.length H d v → RelV v u → f d = some x → x.showable = true → x.shown.length ≤ sizeLine → Rd3 X.prog X.w s.heap u x) :
    ∀ {xs : List D} {vs : List V} {us : List Value} {ys : List PyData}, RelDs X.K m h.length H xs vs → Vals vs us → mapO f xs = some ys → PyData.showableAll ys = true → (∀ t ∈ PyData.shownAll ys, t.length ≤ sizeLine) → Rd3s X.prog X.w s.heap us ys
  | _, _, _, _, .nil, r, e, _, _ => by cases e; cases r; exact rd3_nil
  | _, _, _, ys, .cons (d := d) (ds := ds) a r, rv, e, sh, z => by
    cases rv with
    | cons r1 r2 =>
      simp only [mapO] at e
      cases q1 : f d with
      | none => simp only [q1] at e; cases e
      | some x =>
        cases q2 : mapO f ds with
        | none => simp only [q1, q2] at e; cases e
        | some zs =>
          simp only [q1, q2] at e
          cases e
          simp only [PyData.showableAll, Bool.and_eq_true] at sh
          simp only [PyData.shownAll] at z
          exact rd3_cons (ih _ _ _ _ a r1 q1 sh.1 (z _ (List.mem_cons_self ..))) (rd3s_of ih r r2 q2 sh.2 fun t mm => z t (List.mem_cons_of_mem _ mm))
theorem mapO_len {α β : Type} {f : α → Option β} : ∀ {xs : List α} {ys : List β}, mapO f xs = some ys → ys.length = xs.length
  | [], _, e => by cases e; rfl
  | a :: r, ys, e => by
    simp only [mapO] at e
    cases q1 : f a with
    | none => simp only [q1] at e; cases e
    | some x =>
      cases q2 : mapO f r with
      | none => simp only [q1, q2] at e; cases e
      | some zs =>
        simp only [q1, q2] at e
        cases e
        simp [mapO_len q2]
theorem zip_fst {α β : Type} {xs : List α} {ys : List β} (e : ys.length = xs.length) : (xs.zip ys).map Prod.fst = xs := List.map_fst_zip (by omega)
theorem zip_snd {α β : Type} {xs : List α} {ys : List β} (e : ys.length = xs.length) : (xs.zip ys).map Prod.snd = ys := List.map_snd_zip (by omega)
theorem rd3_of (rh : RelH G X.K m h H) (I : L2.Inv X pins σ H s) : ∀ (n : Nat) (d : D) (v : V) (u : Value) (x : PyData), RelD X.K m h.length H d v → RelV v u → deepK h n d = some x → x.showable = true → x.shown.length ≤ sizeLine → Rd3 X.prog X.w s.heap u x
  | n, _, _, u, x, .non, r, e, _, _ => by cases n <;> (cases e; cases r; exact rd3_flat .none .none rfl fun a z => nomatch z)
  | n, _, _, u, x, .bl b, r, e, _, _ => by cases n <;> (cases e; cases r; exact rd3_flat (.bool b) (.bool b) rfl fun a z => nomatch z)
  | n, _, _, u, x, .int i, r, e, sh, _ => by cases n <;> (cases e; obtain ⟨t, rfl⟩ := r; exact rd3_flat (.int i t) (ReprIs.int t (by simpa [PyData.showable] using sh)) rfl fun a z => nomatch z)
  | n, _, _, u, x, .str y, r, e, _, z => by cases n <;> (cases e; obtain ⟨t, rfl⟩ := r; exact rd3_flat (.str y t) (ReprIs.str y t (by simpa only [PyData.shown] using z)) rfl fun a z => nomatch z)
  | n, _, _, u, x, .scr hs, r, e, _, _ => by cases n <;> cases e
  | n, _, _, u, x, .fn _, r, e, _, _ => by cases n <;> cases e
  | 0, _, _, u, x, .tup _ _, r, e, _, _ => by cases e
  | 0, _, _, u, x, .ref _, r, e, _, _ => by cases e
  | n + 1, .tup xs, _, u, x, .tup ht rs, r, e, sh, z => by
    simp only [deepK] at e
    cases q : mapO (deepK h n) xs with
    | none => simp only [q] at e; cases e
    | some ys =>
      simp only [q] at e
      cases e
      cases r
      obtain ⟨its, rv, ⟨o, ho, hc, k, hd⟩, _⟩ := I.tuple ht.sq
      exact rd3_tup ho hc hd z (rd3s_of (rd3_of rh I n) rs rv q (by simpa [PyData.showable] using sh) fun t mm => Nat.le_trans (tupleText_mem_le mm) (by simpa only [PyData.shown] using z))
  | n + 1, .ref k, _, u, x, .ref hk, r, e, sh, z => by
    simp only [deepK] at e
    cases y : h[k]? with
    | none => simp only [y] at e; cases e
    | some ob =>
      cases ob with
      | ins c fs => simp only [y] at e; cases e
      | hid _ => simp only [y] at e; cases e
      | lst xs =>
        simp only [y] at e
        cases q : mapO (deepK h n) xs with
        | none => simp only [q] at e; cases e
        | some ys =>
          simp only [q] at e
          cases e
          cases r
          obtain ⟨vs, e1, rs⟩ := lst_at rh y
          obtain ⟨its, rv, ⟨o, j, ho, hc, _, hd⟩, _⟩ := I.list (SqL.of e1)
          exact rd3_lst ho hc hd z (rd3s_of (rd3_of rh I n) rs rv q (by simpa [PyData.showable] using sh) fun t mm => Nat.le_trans (listText_mem_le mm) (by simpa only [PyData.shown] using z))
      | dct kvs =>
        simp only [y] at e
        cases q : mapO (deepK h n) (kvs.map Prod.snd) with
        | none => simp only [q] at e; cases e
        | some ys =>
          simp only [q] at e
          cases e
          cases r
          obtain ⟨vs, e1, rs⟩ := rh.obj k _ y
          obtain ⟨_, sm, ws, kv, o, es, ep, g, cc, dd, _, ps, _⟩ := I.hok _ _ e1
          obtain ⟨e2, vv⟩ := kv_snd kv
          have ek : (kvs.map fun p => kyP p.1) = ws.map fun p => kyP p.1 := by
            have a1 : (kvs.map fun p => kyP p.1) = (kvs.map Prod.fst).map kyP := by simp
            have a2 : (ws.map fun p => kyP p.1) = (ws.map Prod.fst).map kyP := by simp
            rw [a1, a2, rel_keys rs, e2]
          have len : ys.length = (kvs.map fun p => kyP p.1).length := by simpa using mapO_len q
          have z2 : (dictText (PyData.shownKv ((kvs.map fun p => kyP p.1).zip ys))).length ≤ sizeLine := by simpa only [PyData.shown] using z
          obtain ⟨s1, s2⟩ := PyData.showableKv_split _ (by simpa [PyData.showable] using sh)
          have t1 := fun t mm => let ⟨p, hp, hl⟩ := PyData.shownKv_key_le ((kvs.map fun p => kyP p.1).zip ys) t mm; Nat.le_trans hl (Nat.le_trans (dictText_mem_le hp) z2)
          have t2 := fun t mm => let ⟨p, hp, hl⟩ := PyData.shownKv_val_le ((kvs.map fun p => kyP p.1).zip ys) t mm; Nat.le_trans hl (Nat.le_trans (dictText_mem_le hp) z2)
          refine rd3_dct g cc.1 dd sm z ?_ ?_
          · rw [zip_fst len] at s1 t1 ⊢
            rw [ek] at s1 t1 ⊢
            exact pairs_key ps s1 t1
          · rw [zip_snd len] at s2 t2 ⊢
            rw [pairs_val ps]
            exact rd3s_of (rd3_of rh I n) (rel_snd rs) vv q s2 t2
theorem reprK_run {u : Value} {x : PyData} {Q : VK} (hg : X.A.guards = some []) (hu : X.A.units + 70 < cLine) (I : L2.Inv X pins σ H s) (rd : Rd3 X.prog X.w s.heap u x) (hr : ∃ p, u = .ref p) (hs : showK x = true) (q : Q (.str x.shown) H) :
    wpAny (model X.prog X.w) X.A (call (.builtin "repr") [u]) (EP X pins σ Q) X.xe s := by
  simp only [showK, Bool.and_eq_true, decide_eq_true_eq] at hs
  obtain ⟨⟨h1, h3⟩, h4⟩ := hs
  obtain ⟨p, rfl⟩ := hr
  obtain ⟨_, _, _, _, _, sh⟩ := rd
  obtain ⟨T, idr, S⟩ := sh p rfl
  refine call_repr_slot (by omega) (S.typeIs s fun _ _ e => e) S.slotRepr (S.call X.A.in1 _ s _ hg (by show X.A.units + 1 + x.depth < cLine; omega) (fun _ _ e => e) fun h' t tk kp => ⟨_, _, rfl, ?_⟩)
  exact ⟨.str x.shown, H, I.kept (t' := tk) kp, ⟨t, rfl⟩, q⟩
theorem repK_ok (hg : X.A.guards = some []) (hu : X.A.units + 70 < cLine) : CallR X (.builtin "repr") (rA G X.K E bRepK) := by
  intro pins s σ H xs us Q I r ⟨m, h, ds, rh, rd, o⟩
  have gen : bRepK ds h = bRepN ds h → wpAny (model X.prog X.w) X.A (call (.builtin "repr") us) (EP X pins σ Q) X.xe s := fun e => repN_ok hg hu pins s σ H xs us Q I r ⟨m, h, ds, rh, rd, e ▸ o⟩
  cases rd with
  | nil => exact gen rfl
  | @cons d v ds vs a b =>
    cases b with
    | cons _ _ => exact gen (by cases d <;> rfl)
    | nil =>
      have key : RelD X.K m h.length H d v → (∃ p, v = .ref p) → bRepK [d] h = (match deepK h 60 d with
          | some a => if showK a = true then .ok (.str a.shown) h else .stuck
          | none => .stuck) → wpAny (model X.prog X.w) X.A (call (.builtin "repr") us) (EP X pins σ Q) X.xe s := by
        intro a hv e
        rw [e] at o
        cases q : deepK h 60 d with
        | none => simp only [q] at o; exact o.elim
        | some x =>
          simp only [q] at o
          by_cases hs : showK x = true
          · rw [if_pos hs] at o
            obtain ⟨u, rfl, ru⟩ := Vals.one r
            have hs2 := hs
            simp only [showK, Bool.and_eq_true, decide_eq_true_eq] at hs2
            obtain ⟨p, rfl⟩ := hv
            exact reprK_run hg hu I (rd3_of rh I 60 _ _ _ _ a ru q hs2.1.1 hs2.2) ⟨p, ru⟩ hs (o m H _ (Post.refl rh) (.str _))
          · rw [if_neg hs] at o; exact o.elim
      cases a with
      | non => exact gen rfl
      | int _ => exact gen rfl
      | scr _ => exact gen rfl
      | fn _ => exact gen rfl
      | @ref n hn => exact key (.ref hn) ⟨_, rfl⟩ rfl
      | @tup p xs vs ht rs => exact key (.tup ht rs) ⟨_, rfl⟩ rfl
      | bl b =>
        obtain ⟨u, rfl, ru⟩ := Vals.one r
        obtain rfl : u = Value.bool b := ru
        exact PySem.P.repr_of_bool ⟨.str _, H, I.tok _, ⟨_, rfl⟩, o m H _ (Post.refl rh) (.str _)⟩
      | str x =>
        obtain ⟨u, rfl, ru⟩ := Vals.one r
        obtain ⟨tk, rfl⟩ := (show ∃ tk, u = Value.str x tk from ru)
        simp only [bRepK] at o
        by_cases hl : (reprText x).length ≤ sizeLine
        · rw [if_pos hl] at o
          exact PySem.P.repr_of_str ⟨.str _, H, I.tok _, ⟨_, rfl⟩, o m H _ (Post.refl rh) (.str _)⟩ hl
        · rw [if_neg hl] at o; exact o.elim
end
end Py

set_option Elab.async false
set_option linter.all false
set_option maxRecDepth 100000
set_option maxHeartbeats 3000000
/-! Own layer: return [x, f(a())], f a built-in. -/
namespace Py
open PySem L2 PySem.Spec PyProof.Rows LamX
section
variable {X : Cx} {G : Gam} {f c' : Addr} {q a : Str} {σ0 : L2.St} {th : EX} {W : WX}
theorem bltZ {id : String} {x : Str} {op : List D → LH → R D} {p pos p1 p2 : Pos} (ac : Act X G f c' q σ0 th a W) (hc : ∀ E, CallR X (.builtin id) (rA G X.K E op)) (hg : Gl X x) (hm : X.mg x = none) (hv : bootBuiltins x = some (.builtin id))
    (hn : x ≠ "__name__" := by decide) (hdb : (x == ("__debug__" : Str)) = false := by decide)
    (s1 : starEach [.Call (.Name a p1) [] [] p2] X.env = (false, eval (.Call (.Name a p1) [] [] p2) X.env) :: starEach [] X.env := by rfl) (hpl : (backTo pos (starEach [] X.env)).any (·.1) = false := by rfl) :
    PE X (.Call (.Name x p) [.Call (.Name a p1) [] [] p2] [] pos) (tZ G X.K f c' q σ0 (eA op (aCons th aNil)) (WE W)) := by
  refine PE_mono (pe_callB (r := fun xs H Q => ∃ σ, rA G X.K (WE W σ) op xs H Q) (fun pins s σ H xs us Q I r ⟨σ', h⟩ => hc _ pins s σ H xs us Q I r h) hg hm hv (pa_cons (ac p1 p2) pa_nil s1) hn hdb s1 hpl) ?_
  rintro σ H Q ⟨sl, co, m, r, h, rh, rs, o⟩
  refine ⟨sl, co, m, r, h, rh, rs, ?_⟩
  cases z : th r h with
  | stuck => simp only [eA, aCons, z, R.bind_stuck] at o; exact o.elim
  | exc c fs h1 =>
    simp only [eA, aCons, z, R.bind_exc] at o
    exact o
  | ok d h1 =>
    simp only [eA, aCons, aNil, z, R.bind_ok] at o
    intro m1 H1 v p1 d1
    exact ⟨σ, m1, h1, [d], p1.rel, .cons d1 .nil, Out.later p1 o⟩
def opK (op : List D → LH → R D) (t : LH → R D) : LH → R D := fun h => (t h).bind fun d h1 => op [d] h1
def lMadeB (x : Str) (op : List D → LH → R D) : (LH → R D) → SX := fun k => sRet (eLst (aCons (eC (.str x)) (aCons (fun _ h => opK op k h) aNil)))
theorem eA_opK {op : List D → LH → R D} {th : EX} {r : LS} {h : LH} : eA op (aCons th aNil) r h = opK op (th r) h := by
  unfold eA opK aCons aNil
  cases th r h <;> rfl
theorem lMadeB_ok {x : Str} {op : List D → LH → R D} {ce ae : Expr} {pos lp : Pos} (he : PE X ae (tZ G X.K f c' q σ0 (eA op (aCons th aNil)) (WE W))) (hc : PE X ce (tE G X.K E0 (eC (.str x)))) (h1 : starEach [ce, ae] X.env = (false, eval ce X.env) :: starEach [ae] X.env := by rfl)
    (h2 : starEach [ae] X.env = (false, eval ae X.env) :: starEach [] X.env := by rfl) :
    PSs X [.Return (some (.List [ce, ae] lp)) pos] (fun Z σ H => tB G X.K f c' q σ0 th (WE W σ) (lMadeB x op) Z σ H) := by
  refine PSs_mono (pss_one (ps_ret (pe_lst (pa_cons hc (pa_cons he pa_nil h2) h1)))) ?_
  rintro Z σ H ⟨m, h, r0, r, rh, rs0, rs, sl, co, o⟩
  refine ⟨m, r, h, rh, rs, ?_⟩
  intro m1 H1 v pA dA
  refine ⟨sl, pA.code rh co, m1, r0, h, pA.rel, pA.s rs0, ?_⟩
  have o : OutS G X.K (WE W σ) m h.length H Z (((aCons (eC (.str x)) (aCons (fun _ h => opK op (th r0) h) aNil) r h).bind fun xs h => if xs.length ≤ sizeLine then R.ok (D.ref h.length) (h ++ [.lst xs]) else .stuck).to fun d h1 => .rt d h1) := o
  rw [eA_opK]
  cases z : opK op (th r0) h with
  | stuck => simp only [aCons, eC, R.bind_ok, z, R.bind_stuck] at o; exact o.elim
  | exc c fs h' =>
    simp only [aCons, eC, R.bind_ok, z, R.bind_exc] at o
    exact OutX.later pA o
  | ok d h2 =>
    simp only [aCons, aNil, eC, R.bind_ok, z] at o
    rw [if_pos (show [D.str x, d].length ≤ sizeLine by show 2 ≤ sizeLine; decide)] at o
    intro m2 H2 w pB dB
    refine ⟨by show 2 ≤ sizeLine; decide, fun p hp => ?_⟩
    have pC := pB.rel.new (o := .lst [.str x, d]) (u := .lst [v, w]) hp (fun m' ag e => ⟨_, upd_same, .cons ((pB.d dA).mono ag (Nat.le_succ _) (TK.upd_new hp)) (.cons (dB.mono ag (Nat.le_succ _) (TK.upd_new hp)) .nil)⟩)
    have y : RelD X.K (ext m2 h2.length p) (h2 ++ [O.lst [.str x, d]]).length (upd H2 p (.lst [v, w])) (.ref h2.length) (.ref (ext m2 h2.length p h2.length)) := .ref (by simp)
    rw [ext_self] at y
    exact o _ _ _ ((pA.trans pB).trans pC) y
end
end Py

set_option Elab.async false
set_option linter.all false
set_option maxRecDepth 100000
/-! Own layer: weakest preconditions of the combinators. -/
namespace Ev
open Py PySem
abbrev EP := Nat → List (Nat × D) → LH → Prop
def noE : EP := fun _ _ _ => False
def WP {α : Type} (r : R α) (Q : α → LH → Prop) (E : EP) : Prop := match r with
  | .ok a h => Q a h
  | .exc c fs h => E c fs h
  | .stuck => False
abbrev NP := LS → LH → Prop
def WF (f : F) (N : NP) (T : D → LH → Prop) (B C : NP) (E : EP) : Prop := match f with
  | .nx r h => N r h
  | .rt d h => T d h
  | .bk r h => B r h
  | .ct r h => C r h
  | .exc c fs h => E c fs h
  | .stuck => False
def noN : NP := fun _ _ => False

section base
variable {α β : Type} {E E' : EP} {Q Q' : α → LH → Prop}
theorem wp_bind {r : R α} {f : α → LH → R β} {Q : β → LH → Prop} (q : WP r (fun a h => WP (f a h) Q E) E) : WP (r.bind f) Q E := by
  cases r <;> exact q
theorem wf_to {r : R α} {f : α → LH → F} {N : NP} {T : D → LH → Prop} {B C : NP} (q : WP r (fun a h => WF (f a h) N T B C E) E) : WF (r.to f) N T B C E := by
  cases r <;> exact q
theorem wp_use {r : R α} (p : WP r Q' E') (q : ∀ a h, Q' a h → Q a h) (e : ∀ c fs h, E' c fs h → E c fs h) : WP r Q E := by
  cases r with
  | ok a h => exact q _ _ p
  | exc c fs h => exact e _ _ _ p
  | stuck => exact p
theorem wp_use0 {r : R α} (p : WP r Q' noE) (q : ∀ a h, Q' a h → Q a h) : WP r Q E := wp_use p q (fun _ _ _ z => z.elim)
theorem wp_eq {r : R α} {Q : α → LH → Prop} (p : WP r Q noE) : ∃ a h, r = .ok a h ∧ Q a h := by
  cases r with
  | ok a h => exact ⟨a, h, rfl, p⟩
  | exc c fs h => exact p.elim
  | stuck => exact p.elim
theorem wf_use {f : F} {N N' : NP} {T T' : D → LH → Prop} {B B' C C' : NP} (p : WF f N' T' B' C' E') (n : ∀ r h, N' r h → N r h) (t : ∀ d h, T' d h → T d h) (b : ∀ r h, B' r h → B r h) (c : ∀ r h, C' r h → C r h) (e : ∀ c fs h, E' c fs h → E c fs h) : WF f N T B C E := by
  cases f with
  | nx r h => exact n _ _ p
  | rt r h => exact t _ _ p
  | bk r h => exact b _ _ p
  | ct r h => exact c _ _ p
  | exc k fs h => exact e _ _ _ p
  | stuck => exact p
end base

/-! truth -/
def Tr (x : D) (h : LH) (P : Bool → Prop) : Prop := match truth x h with
  | some k => P k
  | none => False
def Br (b : Bool) (P P' : Prop) : Prop := match b with
  | true => P
  | false => P'
theorem br_t {b : Bool} {P P' : Prop} (e : b = true) (p : P) : Br b P P' := by subst e; exact p
theorem br_f {b : Bool} {P P' : Prop} (e : b = false) (p : P') : Br b P P' := by subst e; exact p
theorem br_s {b : Bool} {P P' : Prop} (p : b = true → P) (p' : b = false → P') : Br b P P' := by
  cases b
  · exact p' rfl
  · exact p rfl
theorem br_d {c : Prop} [Decidable c] {P P' : Prop} (p : c → P) (p' : ¬ c → P') : Br (decide c) P P' := br_s (fun e => p (of_decide_eq_true e)) (fun e => p' (of_decide_eq_false e))
theorem br_dt {c : Prop} [Decidable c] {P P' : Prop} (e : c) (p : P) : Br (decide c) P P' := br_t (decide_eq_true e) p
theorem br_df {c : Prop} [Decidable c] {P P' : Prop} (e : ¬ c) (p : P') : Br (decide c) P P' := br_f (decide_eq_false e) p
theorem br_nt {b : Bool} {P P' : Prop} (p : Br b P' P) : Br (!b) P P' := by cases b <;> exact p
theorem tr_bl {b : Bool} {h : LH} {P : Bool → Prop} (p : P b) : Tr (.bl b) h P := p
/-- what is wanted by the way -/
def Need (c P : Prop) : Prop := c ∧ P
theorem need {c P : Prop} (e : c) (p : P) : Need c P := ⟨e, p⟩
def IntAt (x : D) (P : Int → Prop) : Prop := ∃ i, x = .int i ∧ P i
theorem intat {i : Int} {P : Int → Prop} (p : P i) : IntAt (.int i) P := ⟨i, rfl, p⟩
def StrAt (x : D) (P : Str → Prop) : Prop := ∃ i, x = .str i ∧ P i
theorem strat {i : Str} {P : Str → Prop} (p : P i) : StrAt (.str i) P := ⟨i, rfl, p⟩
def NonAt (x : D) (P : Prop) : Prop := x = .non ∧ P
theorem nonat {P : Prop} (p : P) : NonAt .non P := ⟨rfl, p⟩

section ex
variable {E : EP} {Q : D → LH → Prop} {r : LS} {h : LH}
theorem wp_eV {i : Nat} {d : D} (e : r[i]? = some (some d)) (q : Q d h) : WP (eV i r h) Q E := by
  unfold eV; rw [e]; exact q
theorem wp_eC {d : D} (q : Q d h) : WP (eC d r h) Q E := q
theorem wp_e1 {op : D → LH → R D} {a : EX} (q : WP (a r h) (fun x h1 => WP (op x h1) Q E) E) : WP (e1 op a r h) Q E := wp_bind q
theorem wp_e2 {op : D → D → LH → R D} {a b : EX} (q : WP (a r h) (fun x h1 => WP (b r h1) (fun y h2 => WP (op x y h2) Q E) E) E) : WP (e2 op a b r h) Q E :=
  wp_bind (wp_use q (fun _ _ z => wp_bind z) (fun _ _ _ z => z))
theorem wp_aNil {Q : List D → LH → Prop} (q : Q [] h) : WP (aNil r h) Q E := q
theorem wp_aCons {a : EX} {b : AX} {Q : List D → LH → Prop} (q : WP (a r h) (fun x h1 => WP (b r h1) (fun xs h2 => Q (x :: xs) h2) E) E) : WP (aCons a b r h) Q E :=
  wp_bind (wp_use q (fun _ _ z => wp_bind z) (fun _ _ _ z => z))
theorem wp_eA {op : List D → LH → R D} {a : AX} (q : WP (a r h) (fun x h1 => WP (op x h1) Q E) E) : WP (eA op a r h) Q E := wp_bind q
theorem wp_truth {x : D} {h1 : LH} {R1 R2 : R D} (q : Tr x h1 fun k => Br k (WP R1 Q E) (WP R2 Q E)) : WP (match truth x h1 with | some true => R1 | some false => R2 | none => .stuck) Q E := by
  unfold Tr at q
  match e : truth x h1 with
  | some true => rw [e] at q; exact q
  | some false => rw [e] at q; exact q
  | none => rw [e] at q; exact q
theorem wp_eAnd {a b : EX} (q : WP (a r h) (fun x h1 => Tr x h1 fun k => Br k (WP (b r h1) Q E) (Q x h1)) E) : WP (eAnd a b r h) Q E :=
  wp_bind (wp_use q (fun x h1 z => wp_truth (R1 := b r h1) (R2 := .ok x h1) z) (fun _ _ _ z => z))
theorem wp_eOr {a b : EX} (q : WP (a r h) (fun x h1 => Tr x h1 fun k => Br k (Q x h1) (WP (b r h1) Q E)) E) : WP (eOr a b r h) Q E :=
  wp_bind (wp_use q (fun x h1 z => wp_truth (R2 := b r h1) (R1 := .ok x h1) z) (fun _ _ _ z => z))
theorem wp_eIf {t a b : EX} (q : WP (t r h) (fun x h1 => Tr x h1 fun k => Br k (WP (a r h1) Q E) (WP (b r h1) Q E)) E) : WP (eIf t a b r h) Q E :=
  wp_bind (wp_use q (fun x h1 z => wp_truth (R2 := b r h1) (R1 := a r h1) z) (fun _ _ _ z => z))
theorem wp_eNot {a : EX} (q : WP (a r h) (fun x h1 => Tr x h1 fun k => Q (.bl (!k)) h1) E) : WP (eNot a r h) Q E := by
  refine wp_bind (wp_use q (fun x h1 z => ?_) (fun _ _ _ z => z))
  unfold Tr at z
  match e : truth x h1 with
  | some k => rw [e] at z; exact z
  | none => rw [e] at z; exact z.elim
/-- what is a bool -/
def IsB (x : D) (P : Bool → Prop) : Prop := match x with
  | .bl b => P b
  | _ => False
theorem isb {b : Bool} {P : Bool → Prop} (p : P b) : IsB (.bl b) P := p
theorem wp_eB {a : EX} (q : WP (a r h) (fun x h1 => IsB x fun b => Q (.bl b) h1) E) : WP (eB a r h) Q E :=
  wp_bind (wp_use q (fun x h1 z => by cases x <;> exact z) (fun _ _ _ z => z))
theorem wp_eNotB {a : EX} (q : WP (a r h) (fun x h1 => IsB x fun b => Q (.bl (!b)) h1) E) : WP (eNotB a r h) Q E :=
  wp_bind (wp_use q (fun x h1 z => by cases x <;> exact z) (fun _ _ _ z => z))
theorem wp_eAndB {a b : EX} (q : WP (a r h) (fun x h1 => IsB x fun k => Br k (WP (b r h1) Q E) (Q (.bl false) h1)) E) : WP (eAndB a b r h) Q E :=
  wp_bind (wp_use q (fun x h1 z => by
    cases x with
    | bl k => cases k <;> exact z
    | _ => exact z) (fun _ _ _ z => z))
theorem wp_eOrB {a b : EX} (q : WP (a r h) (fun x h1 => IsB x fun k => Br k (Q (.bl true) h1) (WP (b r h1) Q E)) E) : WP (eOrB a b r h) Q E :=
  wp_bind (wp_use q (fun x h1 z => by
    cases x with
    | bl k => cases k <;> exact z
    | _ => exact z) (fun _ _ _ z => z))
/-! ints -/
theorem wp_ite {α : Type} {Q : α → LH → Prop} {a : α} {c : Prop} [Decidable c] (e : c) (q : Q a h) : WP (if c then .ok a h else .stuck) Q E := by
  rw [if_pos e]; exact q
variable {i j : Int}
theorem wp_add (q : Q (.int (i + j)) h) : WP (oAdd (.int i) (.int j) h) Q E := q
theorem wp_addT {xs ys : List D} (e : xs.length + ys.length ≤ sizeLine) (q : Q (.tup (xs ++ ys)) h) : WP (oAdd (.tup xs) (.tup ys) h) Q E := by
  exact wp_ite e q
theorem wp_addS {x y : Str} (e : x.length + y.length ≤ sizeLine) (q : Q (.str (x ++ y)) h) : WP (oAdd (.str x) (.str y) h) Q E := by
  exact wp_ite e q
theorem wp_sub (q : Q (.int (i - j)) h) : WP (oSub (.int i) (.int j) h) Q E := q
theorem wp_mul (e : (-(2 ^ 64) < i ∧ i < 2 ^ 64) ∨ (-(2 ^ 64) < j ∧ j < 2 ^ 64)) (q : Q (.int (i * j)) h) : WP (oMul (.int i) (.int j) h) Q E := by
  have : (small i || small j) = true := by
    unfold small
    simpa only [Bool.or_eq_true, Bool.and_eq_true, decide_eq_true_eq] using e
  show WP (if (small i || small j) = true then R.ok (D.int (i * j)) h else R.stuck) Q E
  rw [if_pos this]; exact q
theorem wp_mod (e : 0 < j) (q : Q (.int (i % j)) h) : WP (oMod (.int i) (.int j) h) Q E := by
  exact wp_ite e q
theorem wp_div (e : 0 < j ∧ j < 1073741824) (q : Q (.int (i / j)) h) : WP (oDiv (.int i) (.int j) h) Q E := by
  exact wp_ite e q
theorem wp_pow (e : 0 ≤ j ∧ j ≤ 1000000 ∧ i.natAbs < 2 ^ 64) (q : Q (.int (i ^ j.toNat)) h) : WP (oPow (.int i) (.int j) h) Q E := by
  exact wp_ite e q
theorem wp_lt (q : Q (.bl (decide (i < j))) h) : WP (oLt (.int i) (.int j) h) Q E := q
theorem wp_le (q : Q (.bl (decide (i ≤ j))) h) : WP (oLe (.int i) (.int j) h) Q E := q
theorem wp_gt (q : Q (.bl (decide (j < i))) h) : WP (oGt (.int i) (.int j) h) Q E := q
theorem wp_ge (q : Q (.bl (decide (j ≤ i))) h) : WP (oGe (.int i) (.int j) h) Q E := q
theorem wp_eqI (q : Q (.bl (decide (i = j))) h) : WP (oEq false (.int i) (.int j) h) Q E := q
theorem wp_neI (q : Q (.bl (!decide (i = j))) h) : WP (oEq true (.int i) (.int j) h) Q E := q
theorem wp_eqS {x y : Str} (q : Q (.bl (decide (x = y))) h) : WP (oEq false (.str x) (.str y) h) Q E := q
theorem wp_neS {x y : Str} (q : Q (.bl (!decide (x = y))) h) : WP (oEq true (.str x) (.str y) h) Q E := q
theorem wp_neg (q : Q (.int (-i)) h) : WP (oNeg (.int i) h) Q E := q
theorem wp_isN {neg : Bool} (q : Q (.bl (!neg)) h) : WP (oIsN neg .non h) Q E := q
theorem wp_isNI {neg : Bool} (q : Q (.bl neg) h) : WP (oIsN neg (.int i) h) Q E := q
theorem wp_bMax (q : Q (.int (if j > i then j else i)) h) : WP (bMax [.int i, .int j] h) Q E := q
theorem wp_bMin (q : Q (.int (if j < i then j else i)) h) : WP (bMin [.int i, .int j] h) Q E := q
theorem wp_bAbs (q : Q (.int (if i < 0 then -i else i)) h) : WP (bAbs [.int i] h) Q E := q
theorem wp_bInt (q : Q (.int i) h) : WP (bInt [.int i] h) Q E := q
theorem wp_bDivmod (e : 0 < j ∧ j < 1073741824) (q : Q (.tup [.int (i / j), .int (i % j)]) h) : WP (bDivmod [.int i, .int j] h) Q E := by
  exact wp_ite e q
/-! lists -/
/-- the heap h1 behind the heap h: what stood there stands, but at the places of W -/
def Ext (W : List Nat) (h h1 : LH) : Prop := h.length ≤ h1.length ∧ ∀ n, n < h.length → n ∉ W → h1[n]? = h[n]?
theorem Ext.rfl' {W : List Nat} {h : LH} : Ext W h h := ⟨Nat.le_refl _, fun _ _ _ => rfl⟩
theorem lt_of_at {n : Nat} {o : O} {h : LH} (e : h[n]? = some o) : n < h.length := by
  rcases Nat.lt_or_ge n h.length with z | z
  · exact z
  · rw [List.getElem?_eq_none z] at e; exact nomatch e
theorem Ext.get {W : List Nat} {h h1 : LH} (x : Ext W h h1) {n : Nat} {o : O} (e : h[n]? = some o) (k : n ∉ W) : h1[n]? = some o := by
  rw [x.2 n (lt_of_at e) k]; exact e
theorem Ext.get0 {h h1 : LH} (x : Ext [] h h1) {n : Nat} {o : O} (e : h[n]? = some o) : h1[n]? = some o := x.get e (fun z => nomatch z)
theorem Ext.get1 {p : Nat} {h h1 : LH} (x : Ext [p] h h1) {n : Nat} {o : O} (e : h[n]? = some o) (k : n ≠ p) : h1[n]? = some o := x.get e (fun z => by simp at z; exact k z)
theorem Ext.trans {W : List Nat} {h h1 h2 : LH} (x : Ext W h h1) (y : Ext W h1 h2) : Ext W h h2 :=
  ⟨Nat.le_trans x.1 y.1, fun n a b => by rw [y.2 n (Nat.lt_of_lt_of_le a x.1) b, x.2 n a b]⟩
theorem Ext.wide {W W' : List Nat} {h h1 : LH} (x : Ext W h h1) (w : ∀ n, n < h.length → n ∈ W → n ∈ W') : Ext W' h h1 := ⟨x.1, fun n a b => x.2 n a (fun z => b (w n a z))⟩
theorem Ext.w0 {W : List Nat} {h h1 : LH} (x : Ext [] h h1) : Ext W h h1 := x.wide (fun _ _ z => nomatch z)
theorem ext_push {h : LH} {o : O} {W : List Nat} : Ext W h (h ++ [o]) := ⟨by simp, fun n a _ => by rw [List.getElem?_append_left a]⟩
theorem ext_set {h : LH} {n : Nat} {o : O} : Ext [n] h (h.set n o) := ⟨by simp, fun k a b => by
  rw [List.getElem?_set_ne (fun z => b (by simp [z]))]⟩
theorem at_push {h : LH} {o : O} : (h ++ [o])[h.length]? = some o := by simp
theorem at_set {h : LH} {n : Nat} {o o' : O} (e : h[n]? = some o') : (h.set n o)[n]? = some o := by
  rw [List.getElem?_set_self (lt_of_at e)]
/-- a new thing, in a heap of its own name -/
theorem wp_new {o : O} (q : ∀ n h1, h.length ≤ n → Ext [] h h1 → h1[n]? = some o → Q (.ref n) h1) : Q (.ref h.length) (h ++ [o]) := q _ _ (Nat.le_refl _) ext_push at_push
theorem wp_eTup {a : AX} (q : WP (a r h) (fun xs h1 => Need (xs.length ≤ sizeLine) (Q (.tup xs) h1)) E) : WP (eTup a r h) Q E :=
  wp_eA (wp_use q (fun xs h1 z => by simp only [if_pos z.1]; exact z.2) (fun _ _ _ z => z))
theorem wp_eLst {a : AX} (q : WP (a r h) (fun xs h1 => Need (xs.length ≤ sizeLine) (∀ n h2, h1.length ≤ n → Ext [] h1 h2 → h2[n]? = some (.lst xs) → Q (.ref n) h2)) E) : WP (eLst a r h) Q E :=
  wp_eA (wp_use q (fun xs h1 z => by simp only [if_pos z.1]; exact wp_new z.2) (fun _ _ _ z => z))
theorem wp_addL {n k : Nat} {xs ys : List D} (e1 : h[n]? = some (.lst xs)) (e2 : h[k]? = some (.lst ys)) (e : xs.length + ys.length ≤ sizeLine) (q : ∀ n h1, h.length ≤ n → Ext [] h h1 → h1[n]? = some (.lst (xs ++ ys)) → Q (.ref n) h1) : WP (oAdd (.ref n) (.ref k) h) Q E := by
  simp only [oAdd, e1, e2, if_pos e]; exact wp_new q
theorem seq_lst {n : Nat} {xs : List D} (e : h[n]? = some (.lst xs)) : seqD (.ref n) h = some xs := by simp only [seqD, e]
theorem seq_tup {xs : List D} : seqD (.tup xs) h = some xs := rfl
theorem seq_scr {ns : List Int} : seqD (.scr ns) h = some (ns.map .int) := rfl
theorem wp_ix {x : D} {xs : List D} {d : D} (e : seqD x h = some xs) (k : L2.atI xs i = some d) (q : Q d h) : WP (oIx x (.int i) h) Q E := by
  unfold oIx; simp only [e, k]; exact q
theorem wp_in {x y : D} {xs : List D} {neg : Bool} (e : seqD y h = some xs) (k : (flatD x && xs.all flatD) = true) (q : Q (.bl (if neg then !(xs.any fun z => eqF z x) else xs.any fun z => eqF z x)) h) : WP (oIn neg x y h) Q E := by
  unfold oIn; simp only [e, if_pos k]; exact q
theorem wp_len {x : D} {xs : List D} (e : seqD x h = some xs) (q : Q (.int (xs.length : Nat)) h) : WP (bLen [x] h) Q E := by
  cases x with
  | str s => exact nomatch e
  | _ => unfold bLen; simp only [e]; exact q
theorem wp_bList {x : D} {xs : List D} (e : seqD x h = some xs) (q : ∀ n h1, h.length ≤ n → Ext [] h h1 → h1[n]? = some (.lst xs) → Q (.ref n) h1) : WP (bList [x] h) Q E := by
  unfold bList; simp only [e]; exact wp_new q
theorem wp_bTuple {x : D} {xs : List D} (e : seqD x h = some xs) (q : Q (.tup xs) h) : WP (bTuple [x] h) Q E := by
  unfold bTuple; simp only [e]; exact q
theorem boolsD_map (ns : List Bool) : boolsD (ns.map .bl) = some ns := by
  induction ns with
  | nil => rfl
  | cons a r ih => simp [boolsD, ih]
theorem wp_bAll {n : Nat} {bs : List Bool} (e : h[n]? = some (.lst (bs.map .bl))) (q : Q (.bl (bs.all id)) h) : WP (bAll [.ref n] h) Q E := by
  unfold bAll lstD; simp only [e, Option.bind_some, boolsD_map]; exact q
theorem wp_listR {a b : EX} (q : WP (a r h) (fun x h1 => WP (b r h1) (fun y h2 => IntAt x fun i => IntAt y fun j => Need ((-(2 ^ 62) ≤ i ∧ i < 2 ^ 62) ∧ (-(2 ^ 62) ≤ j ∧ j < 2 ^ 62) ∧ j - i ≤ 1000000) (∀ n h3, h2.length ≤ n → Ext [] h2 h3 → h3[n]? = some (.lst (rangeL i j)) → Q (.ref n) h3)) E) E) : WP (eListR a b r h) Q E :=
  wp_bind (wp_use q (fun x h1 z => wp_bind (wp_use z (fun y h2 w => by
    obtain ⟨i, rfl, j, rfl, ⟨k1, k2, k3⟩, q⟩ := w
    have : small62 i = true ∧ small62 j = true ∧ j - i ≤ 1000000 := by
      unfold small62; simp only [Bool.and_eq_true, decide_eq_true_eq]; exact ⟨k1, k2, k3⟩
    simp only [if_pos this]; exact wp_new q) (fun _ _ _ z => z))) (fun _ _ _ z => z))
/-! fields -/
theorem wp_fld {c i n : Nat} {o : EX} {d : D} {fs : List (Nat × D)} (q : WP (o r h) (fun x h1 => ∃ n fs d, x = .ref n ∧ h1[n]? = some (.ins c fs) ∧ getA i fs = some d ∧ Q d h1) E) : WP (eFld c i o r h) Q E :=
  wp_e1 (wp_use q (fun x h1 z => by
    obtain ⟨n, fs, d, rfl, e, g, q⟩ := z
    simp only [e, if_pos, g]; exact q) (fun _ _ _ z => z))
end ex
end Ev

set_option Elab.async false
set_option linter.all false
set_option maxRecDepth 100000
namespace Ev
open Py PySem
section ex
variable {E : EP} {Q : D → LH → Prop} {r : LS} {h : LH}
def FdAt (c i : Nat) (x : D) (h : LH) (P : D → Prop) : Prop := ∃ n fs d, x = .ref n ∧ h[n]? = some (.ins c fs) ∧ getA i fs = some d ∧ P d
theorem fdat {c i n : Nat} {fs : List (Nat × D)} {d : D} {P : D → Prop} (e : h[n]? = some (.ins c fs)) (g : getA i fs = some d) (p : P d) : FdAt c i (.ref n) h P := ⟨n, fs, d, rfl, e, g, p⟩
theorem wp_eFld {c i : Nat} {o : EX} (q : WP (o r h) (fun x h1 => FdAt c i x h1 fun d => Q d h1) E) : WP (eFld c i o r h) Q E := wp_fld (n := 0) (d := .non) (fs := []) q
theorem wp_eCall {op : KF} {a k : AX} (q : WP (a r h) (fun ds h1 => WP (k r h1) (fun es h2 => WP (op ds es h2) Q E) E) E) : WP (eCall op a k r h) Q E :=
  wp_bind (wp_use q (fun _ _ z => wp_bind z) (fun _ _ _ z => z))
theorem wp_opF {n k : Nat} {bd : List D → List D → List D} {cf : CF} {ds es xs : List D} (l : ds.length = n ∧ es.length = k) (e : bd ds es = xs) (q : WP (cf xs h) Q E) : WP (opF n k bd cf ds es h) Q E := by
  subst e; unfold opF; rw [if_pos l]; exact q
theorem wp_opF0 {n k : Nat} {cf : CF} {ds es : List D} (l : ds.length = n ∧ es.length = k) (q : WP (cf ds h) Q E) : WP (opF n k bd0 cf ds es h) Q E := wp_opF l rfl q
def InsAt (c : Nat) (x : D) (h : LH) (P : Nat → Prop) : Prop := ∃ n fs, x = .ref n ∧ h[n]? = some (.ins c fs) ∧ P n
theorem insat {c n : Nat} {fs : List (Nat × D)} {P : Nat → Prop} (e : h[n]? = some (.ins c fs)) (p : P n) : InsAt c (.ref n) h P := ⟨n, fs, rfl, e, p⟩
theorem wp_eMeth {c : Nat} {op : KF} {o : EX} {a k : AX} (q : WP (o r h) (fun x h1 => InsAt c x h1 fun n => WP (a r h1) (fun ds h2 => WP (k r h2) (fun es h3 => WP (op (.ref n :: ds) es h3) Q E) E) E) E) : WP (eMeth c op o a k r h) Q E :=
  wp_bind (wp_use q (fun x h1 z => by
    obtain ⟨n, fs, rfl, e, z⟩ := z
    simp only [e, if_pos]
    exact wp_bind (wp_use z (fun _ _ z => wp_bind z) (fun _ _ _ z => z))) (fun _ _ _ z => z))
theorem wp_runF {n k : Nat} {b : SX} {ds : List D} {r0 : LS} (l : ds.length = n) (e : ds.map some ++ List.replicate k none = r0) (q : WF (b r0 h) (fun _ h' => Q .non h') Q noN noN E) : WP (runF n k b ds h) Q E := by
  subst e
  unfold runF; rw [if_pos l]
  revert q
  cases b (ds.map some ++ List.replicate k none) h with
  | nx r h => exact fun z => z
  | rt r h => exact fun z => z
  | bk r h => exact fun z => z.elim
  | ct r h => exact fun z => z.elim
  | exc k fs h => exact fun z => z
  | stuck => exact fun z => z
theorem wp_chain {op op' : D → D → LH → R D} {a b c : EX} (q : WP (a r h) (fun x h1 => WP (b r h1) (fun y h2 => WP (op x y h2) (fun z h3 => IsB z fun k => Br k (WP (c r h3) (fun w h4 => WP (op' y w h4) Q E) E) (Q (.bl false) h3)) E) E) E) : WP (eChain op op' a b c r h) Q E :=
  wp_bind (wp_use q (fun x h1 z => wp_bind (wp_use z (fun y h2 z => wp_bind (wp_use z (fun v h3 z => by
    cases v with
    | bl k => cases k with
      | true => exact wp_bind z
      | false => exact z
    | _ => exact z.elim) (fun _ _ _ z => z))) (fun _ _ _ z => z))) (fun _ _ _ z => z))
/-! slices -/
def PIs (P : Option Int → LH → Prop) (d : D) (h : LH) : Prop := ∃ i, d = .int i ∧ P (some i) h
theorem pis {P : Option Int → LH → Prop} {i : Int} (p : P (some i) h) : PIs P (.int i) h := ⟨i, rfl, p⟩
theorem wp_pNo {P : Option Int → LH → Prop} (p : P none h) : WP (pNo r h) P E := p
theorem wp_pSome {P : Option Int → LH → Prop} {a : EX} (p : WP (a r h) (PIs P) E) : WP (pSome a r h) P E :=
  wp_bind (wp_use p (fun x h1 z => by obtain ⟨i, rfl, z⟩ := z; exact z) (fun _ _ _ z => z))
def SlAt (x : D) (l u : Option Int) (h : LH) (Q : D → LH → Prop) : Prop := WP (match x with
  | .tup xs => .ok (.tup (cutD xs l u)) h
  | .ref n => (match h[n]? with
    | some (.lst xs) => .ok (.ref h.length) (h ++ [.lst (cutD xs l u)])
    | _ => .stuck)
  | _ => .stuck) Q noE
theorem slat_tup {xs : List D} {l u : Option Int} (q : Q (.tup (cutD xs l u)) h) : SlAt (.tup xs) l u h Q := q
theorem slat_lst {n : Nat} {xs : List D} {l u : Option Int} (e : h[n]? = some (.lst xs)) (q : ∀ n h1, h.length ≤ n → Ext [] h h1 → h1[n]? = some (.lst (cutD xs l u)) → Q (.ref n) h1) : SlAt (.ref n) l u h Q := by
  unfold SlAt; simp only [e]; exact wp_new q
theorem wp_eSl {a : EX} {lo hi : PX} (q : WP (a r h) (fun x h1 => WP (lo r h1) (fun l h2 => WP (hi r h2) (fun u h3 => SlAt x l u h3 Q) E) E) E) : WP (eSl a lo hi r h) Q E :=
  wp_bind (wp_use q (fun _ _ z => wp_bind (wp_use z (fun _ _ z => wp_bind (wp_use z (fun _ _ z => wp_use z (fun _ _ z => z) (fun _ _ _ z => z.elim)) (fun _ _ _ z => z))) (fun _ _ _ z => z))) (fun _ _ _ z => z))
/-! methods of lists -/
def LstAt (x : D) (h : LH) (P : Nat → Prop) : Prop := ∃ n xs, x = .ref n ∧ h[n]? = some (.lst xs) ∧ P n
theorem lstat {n : Nat} {xs : List D} {P : Nat → Prop} (e : h[n]? = some (.lst xs)) (p : P n) : LstAt (.ref n) h P := ⟨n, xs, rfl, e, p⟩
theorem wp_eBM {op : D → List D → LH → R D} {o : EX} {a : AX} (q : WP (o r h) (fun x h1 => LstAt x h1 fun n => WP (a r h1) (fun ds h2 => WP (op (.ref n) ds h2) Q E) E) E) : WP (eBM op o a r h) Q E :=
  wp_bind (wp_use q (fun x h1 z => by
    obtain ⟨n, xs, rfl, e, z⟩ := z
    simp only [lstD, e]
    exact wp_bind z) (fun _ _ _ z => z))
theorem wp_append {n : Nat} {xs : List D} {y : D} (e : h[n]? = some (.lst xs)) (l : xs.length < sizeLine) (q : ∀ h1, Ext [n] h h1 → h1[n]? = some (.lst (xs ++ [y])) → Q .non h1) : WP (mAppend (.ref n) [y] h) Q E := by
  simp only [mAppend, onL, e, if_pos l]; exact q _ ext_set (at_set e)
theorem wp_clear {n : Nat} {xs : List D} (e : h[n]? = some (.lst xs)) (q : ∀ h1, Ext [n] h h1 → h1[n]? = some (.lst []) → Q .non h1) : WP (mClear (.ref n) [] h) Q E := by
  simp only [mClear, onL, e]; exact q _ ext_set (at_set e)
/-! kinds -/
def KdAt (d : D) (h : LH) (P : Kd → Prop) : Prop := ∃ k, kindD d h = some k ∧ P k
theorem kd_int {i : Int} {P : Kd → Prop} (p : P .int) : KdAt (.int i) h P := ⟨_, rfl, p⟩
theorem kd_bl {i : Bool} {P : Kd → Prop} (p : P .bool) : KdAt (.bl i) h P := ⟨_, rfl, p⟩
theorem kd_str {i : Str} {P : Kd → Prop} (p : P .str) : KdAt (.str i) h P := ⟨_, rfl, p⟩
theorem kd_non {P : Kd → Prop} (p : P .non) : KdAt .non h P := ⟨_, rfl, p⟩
theorem kd_tup {xs : List D} {P : Kd → Prop} (p : P .tuple) : KdAt (.tup xs) h P := ⟨_, rfl, p⟩
theorem kd_lst {n : Nat} {xs : List D} {P : Kd → Prop} (e : h[n]? = some (.lst xs)) (p : P .list) : KdAt (.ref n) h P := ⟨_, by simp only [kindD, e], p⟩
theorem wp_eIsi {ks : List Kd} {a : EX} (q : WP (a r h) (fun d h1 => KdAt d h1 fun k => Q (.bl (ks.any fun t => k.is t)) h1) E) : WP (eIsi ks a r h) Q E :=
  wp_e1 (wp_use q (fun x h1 z => by obtain ⟨k, e, z⟩ := z; simp only [e]; exact z) (fun _ _ _ z => z))
theorem kind_lst {n : Nat} {xs : List D} (e : h[n]? = some (.lst xs)) : kindD (.ref n) h = some .list := by simp only [kindD, e]
/-! own len and repr -/
theorem wp_lenO {c n : Nat} {cf : CF} {fs : List (Nat × D)} (e : h[n]? = some (.ins c fs)) (q : WP (cf [.ref n] h) (fun v h1 => IntAt v fun k => Need (0 ≤ k ∧ k < 2 ^ 63) (Q (.int k) h1)) E) : WP (bLenO c cf [.ref n] h) Q E := by
  simp only [bLenO, e, if_pos]
  exact wp_bind (wp_use q (fun v h1 z => by obtain ⟨k, rfl, l, z⟩ := z; simp only [if_pos l]; exact z) (fun _ _ _ z => z))
theorem wp_reprO {c n : Nat} {cf : CF} {fs : List (Nat × D)} (e : h[n]? = some (.ins c fs)) (q : WP (cf [.ref n] h) (fun v h1 => StrAt v fun x => Q (.str x) h1) E) : WP (bReprO c cf [.ref n] h) Q E := by
  simp only [bReprO, e, if_pos]
  exact wp_bind (wp_use q (fun v h1 z => by obtain ⟨k, rfl, z⟩ := z; exact z) (fun _ _ _ z => z))
theorem wp_eFmt {a : EX} (q : WP (a r h) (fun d h1 => ∃ x, fmtD d h1 = some x ∧ Q (.str x) h1) E) : WP (eFmt a r h) Q E :=
  wp_e1 (wp_use q (fun x h1 z => by obtain ⟨k, e, z⟩ := z; simp only [e]; exact z) (fun _ _ _ z => z))
def JGo (as : List EX) (acc : Str) (r : LS) (h : LH) (Q : D → LH → Prop) (E : EP) : Prop := WP (jGo as acc r h) Q E
theorem wp_eJoin {as : List EX} (q : JGo as Str.empty r h Q E) : WP (eJoin as r h) Q E := q
theorem jgo_nil {acc : Str} (q : Q (.str acc) h) : JGo [] acc r h Q E := q
theorem jgo_cons {a : EX} {as : List EX} {acc : Str} (q : WP (a r h) (fun d h1 => StrAt d fun x => Need ((acc ++ x).length ≤ sizeLine) (JGo as (acc ++ x) r h1 Q E)) E) : JGo (a :: as) acc r h Q E :=
  wp_bind (wp_use q (fun d h1 z => by obtain ⟨x, rfl, l, z⟩ := z; simp only [if_pos l]; exact z) (fun _ _ _ z => z))
theorem wp_eqD {x y : D} {a b : PyData} {neg : Bool} (e : deep h 60 x = some a) (e' : deep h 60 y = some b) (s : (SeqAt.shaped a && SeqAt.shaped b) = true) (q : Q (.bl (if neg then !PyData.eqv a b else PyData.eqv a b)) h) : WP (oEqD neg x y h) Q E := by
  simp only [oEqD, e, e', if_pos s]; exact q
theorem wp_eqR {n k : Nat} {a b : PyData} {neg : Bool} (e : deep h 60 (.ref n) = some a) (e' : deep h 60 (.ref k) = some b) (s : (SeqAt.shaped a && SeqAt.shaped b) = true) (q : Q (.bl (if neg then !PyData.eqv a b else PyData.eqv a b)) h) : WP (oEq neg (.ref n) (.ref k) h) Q E := wp_eqD e e' s q
theorem wp_eqT {n k : List D} {a b : PyData} {neg : Bool} (e : deep h 60 (.tup n) = some a) (e' : deep h 60 (.tup k) = some b) (s : (SeqAt.shaped a && SeqAt.shaped b) = true) (q : Q (.bl (if neg then !PyData.eqv a b else PyData.eqv a b)) h) : WP (oEq neg (.tup n) (.tup k) h) Q E := wp_eqD e e' s q
end ex
/-! statements -/
section st
variable {E : EP} {N B C : NP} {T : D → LH → Prop} {r : LS} {h : LH}
theorem wf_nil (q : N r h) : WF (sNil r h) N T B C E := q
theorem wf_seq {a b : SX} (q : WF (a r h) (fun r1 h1 => WF (b r1 h1) N T B C E) T B C E) : WF (sSeq a b r h) N T B C E := by
  unfold sSeq
  revert q
  cases a r h <;> exact fun z => z
theorem wf_E {a : EX} (q : WP (a r h) (fun _ h1 => N r h1) E) : WF (sE a r h) N T B C E := wf_to q
theorem wf_Ret {a : EX} (q : WP (a r h) T E) : WF (sRet a r h) N T B C E := wf_to q
theorem wf_If {t : EX} {a b : SX} (q : WP (t r h) (fun x h1 => Tr x h1 fun k => Br k (WF (a r h1) N T B C E) (WF (b r h1) N T B C E)) E) : WF (sIf t a b r h) N T B C E :=
  wf_to (wp_use q (fun x h1 z => by
    unfold Tr at z
    match e : truth x h1 with
    | some true => rw [e] at z; exact z
    | some false => rw [e] at z; exact z
    | none => rw [e] at z; exact z) (fun _ _ _ z => z))
theorem wf_Asg {a : EX} {g : GX} (q : WP (a r h) (fun d h1 => WF (g d r h1) N T B C E) E) : WF (sAsg a g r h) N T B C E := wf_to q
theorem wf_gN {i : Nat} {d : D} {r' : LS} (e : r.set i (some d) = r') (q : N r' h) : WF (gN i d r h) N T B C E := by subst e; exact q
theorem wf_gT {n : Nat} {gs : GXs} {xs : List D} (l : xs.length = n) (q : WF (gs xs r h) N T B C E) : WF (gT n gs (.tup xs) r h) N T B C E := by
  simp only [gT, if_pos l]; exact q
theorem wf_gsNil (q : N r h) : WF (gsNil [] r h) N T B C E := q
theorem wf_gsCons {g : GX} {gs : GXs} {d : D} {ds : List D} (q : WF (g d r h) (fun r1 h1 => WF (gs ds r1 h1) N T B C E) T B C E) : WF (gsCons g gs (d :: ds) r h) N T B C E := by
  unfold gsCons
  revert q
  cases e : g d r h <;> simp only [e] <;> exact fun z => z
def SubAt (d x y : D) (r : LS) (h : LH) (N : NP) : Prop := ∃ n k xs j, x = .ref n ∧ y = .int k ∧ h[n]? = some (.lst xs) ∧ L2.ixN xs.length k = some j ∧ ∀ h1, Ext [n] h h1 → h1[n]? = some (.lst (xs.set j d)) → N r h1
theorem subat {n j : Nat} {k : Int} {xs : List D} {d : D} (e : h[n]? = some (.lst xs)) (l : L2.ixN xs.length k = some j) (q : ∀ h1, Ext [n] h h1 → h1[n]? = some (.lst (xs.set j d)) → N r h1) : SubAt d (.ref n) (.int k) r h N := ⟨n, k, xs, j, rfl, rfl, e, l, q⟩
theorem wf_gSub {o i : EX} {d : D} (q : WP (o r h) (fun x h1 => WP (i r h1) (fun y h2 => SubAt d x y r h2 N) E) E) : WF (gSub o i d r h) N T B C E :=
  wf_to (wp_use q (fun x h1 z => wf_to (wp_use z (fun y h2 z => by
    obtain ⟨n, k, xs, j, rfl, rfl, e, l, q⟩ := z
    simp only [e, l]; exact q _ ext_set (at_set e)) (fun _ _ _ z => z))) (fun _ _ _ z => z))
def FldAt (c i : Nat) (d x : D) (r : LS) (h : LH) (N : NP) : Prop := ∃ n fs, x = .ref n ∧ h[n]? = some (.ins c fs) ∧ fs.length < 1000 ∧ ∀ h1, Ext [n] h h1 → h1[n]? = some (.ins c (putA i d fs)) → N r h1
theorem fldat {c i n : Nat} {d : D} {fs fs' : List (Nat × D)} (e : h[n]? = some (.ins c fs)) (l : fs.length < 1000) (p : putA i d fs = fs') (q : ∀ h1, Ext [n] h h1 → h1[n]? = some (.ins c fs') → N r h1) : FldAt c i d (.ref n) r h N := by subst p; exact ⟨n, fs, rfl, e, l, q⟩
theorem wf_sFld {c i : Nat} {o e : EX} (q : WP (e r h) (fun d h1 => WP (o r h1) (fun x h2 => FldAt c i d x r h2 N) E) E) : WF (sFld c i o e r h) N T B C E :=
  wf_to (wp_use q (fun x h1 z => wf_to (wp_use z (fun y h2 z => by
    obtain ⟨n, fs, rfl, e, l, q⟩ := z
    simp only [e, if_pos (And.intro rfl l)]
    rw [if_pos ⟨trivial, l⟩]
    exact q _ ext_set (at_set e)) (fun _ _ _ z => z))) (fun _ _ _ z => z))
def ParAt (i j : Nat) (ds : List D) (r : LS) (h : LH) (N : NP) : Prop := ∃ x y, ds = [x, y] ∧ N ((r.set i (some x)).set j (some y)) h
theorem parat {i j : Nat} {x y : D} {r' : LS} (e : (r.set i (some x)).set j (some y) = r') (q : N r' h) : ParAt i j [x, y] r h N := by subst e; exact ⟨x, y, rfl, q⟩
theorem wf_sPar {i j : Nat} {a : AX} (q : WP (a r h) (fun ds h1 => ParAt i j ds r h1 N) E) : WF (sPar i j a r h) N T B C E :=
  wf_to (wp_use q (fun x h1 z => by obtain ⟨x, y, rfl, z⟩ := z; exact z) (fun _ _ _ z => z))
/-! loops -/
def SrcAt (x : D) (h : LH) (P : Src → Prop) : Prop := ∃ s, srcOf x h = some s ∧ P s
theorem srcat_tup {xs : List D} {P : Src → Prop} (p : P (.its xs)) : SrcAt (.tup xs) h P := ⟨_, rfl, p⟩
theorem srcat_scr {ns : List Int} {P : Src → Prop} (p : P (.its (ns.map .int))) : SrcAt (.scr ns) h P := ⟨_, rfl, p⟩
theorem srcat_lst {n : Nat} {xs : List D} {P : Src → Prop} (e : h[n]? = some (.lst xs)) (p : P (.lst n)) : SrcAt (.ref n) h P := ⟨.lst n, by simp only [srcOf, e], p⟩
theorem wp_iSeq {a : EX} {P : Src → LH → Prop} (q : WP (a r h) (fun x h1 => SrcAt x h1 fun s => P s h1) E) : WP (iSeq a r h) P E :=
  wp_bind (wp_use q (fun x h1 z => by obtain ⟨s, e, z⟩ := z; simp only [e]; exact z) (fun _ _ _ z => z))
theorem wp_iEnum {a : EX} {k : Int} {P : Src → LH → Prop} (q : WP (a r h) (fun x h1 => SrcAt x h1 fun s => P (.enm k s) h1) E) : WP (iEnum k a r h) P E :=
  wp_bind (wp_use q (fun x h1 z => by obtain ⟨s, e, z⟩ := z; simp only [e]; exact z) (fun _ _ _ z => z))
theorem wp_iRng1 {a : EX} {P : Src → LH → Prop} (q : WP (a r h) (fun x h1 => IntAt x fun j => Need (-(2 ^ 62) ≤ j ∧ j < 2 ^ 62) (P (.its (rangeL 0 j)) h1)) E) : WP (iRng1 a r h) P E :=
  wp_bind (wp_use q (fun x h1 z => by
    obtain ⟨j, rfl, l, z⟩ := z
    have : small62 j = true := by unfold small62; simpa only [Bool.and_eq_true, decide_eq_true_eq] using l
    simp only [if_pos this]; exact z) (fun _ _ _ z => z))
theorem wp_iRng2 {a b : EX} {P : Src → LH → Prop} (q : WP (a r h) (fun x h1 => WP (b r h1) (fun y h2 => IntAt x fun i => IntAt y fun j => Need ((-(2 ^ 62) ≤ i ∧ i < 2 ^ 62) ∧ (-(2 ^ 62) ≤ j ∧ j < 2 ^ 62)) (P (.its (rangeL i j)) h2)) E) E) : WP (iRng2 a b r h) P E :=
  wp_bind (wp_use q (fun x h1 z => wp_bind (wp_use z (fun y h2 z => by
    obtain ⟨i, rfl, j, rfl, ⟨l1, l2⟩, z⟩ := z
    have : small62 i = true ∧ small62 j = true := by
      unfold small62; simp only [Bool.and_eq_true, decide_eq_true_eq]; exact ⟨l1, l2⟩
    simp only [if_pos this]; exact z) (fun _ _ _ z => z))) (fun _ _ _ z => z))
theorem wf_sFor {it : IX} {g : GX} {b : SX} (q : WP (it r h) (fun s h1 => WF (forX s g b fuelN 0 r h1) N T B C E) E) : WF (sFor it g b r h) N T B C E := wf_to q
/-- a loop by an invariant of the turns done -/
theorem wf_loop {s : Src} {g : GX} {b : SX} (item : Nat → D) (len : Nat) (Inv : Nat → LS → LH → Prop) (hl : len < 1000000) (i0 : Inv 0 r h)
    (ie : ∀ r h, Inv len r h → srcAt s h len = some none ∧ N r h)
    (is : ∀ i r h, i < len → Inv i r h → srcAt s h i = some (some (item i)) ∧ WF (g (item i) r h) (fun r1 h1 => WF (b r1 h1) (Inv (i + 1)) T N (Inv (i + 1)) E) (fun _ _ => False) noN noN noE) :
    WF (forX s g b fuelN 0 r h) N T B C E := by
  have main : ∀ k i r h, i + k = len → Inv i r h → ∀ f, k < f → WF (forX s g b f i r h) N T B C E := by
    intro k
    induction k with
    | zero =>
      intro i r h e hi f hf
      obtain ⟨f, rfl⟩ : ∃ f', f = f' + 1 := ⟨f - 1, by omega⟩
      have : i = len := by omega
      subst this
      obtain ⟨e1, e2⟩ := ie _ _ hi
      unfold forX; rw [e1]; exact e2
    | succ k ih =>
      intro i r h e hi f hf
      obtain ⟨f, rfl⟩ : ∃ f', f = f' + 1 := ⟨f - 1, by omega⟩
      obtain ⟨e1, e2⟩ := is i r h (by omega) hi
      unfold forX; rw [e1]
      revert e2
      simp only
      cases g (item i) r h with
      | nx r1 h1 =>
        simp only
        intro e2
        have e2 : WF (b r1 h1) (Inv (i + 1)) T N (Inv (i + 1)) E := e2
        revert e2
        cases b r1 h1 with
        | nx r2 h2 => exact fun z => ih (i + 1) _ _ (by omega) z f (by omega)
        | ct r2 h2 => exact fun z => ih (i + 1) _ _ (by omega) z f (by omega)
        | bk r2 h2 => exact fun z => z
        | rt d h2 => exact fun z => z
        | exc c fs h2 => exact fun z => z
        | stuck => exact fun z => z
      | rt d h1 => exact fun z => z.elim
      | bk d h1 => exact fun z => z.elim
      | ct d h1 => exact fun z => z.elim
      | exc c fs h1 => exact fun z => z.elim
      | stuck => exact fun z => z.elim
  exact main len 0 r h (by omega) i0 _ (by unfold fuelN; omega)
/-- a new list, then Q -/
def NewL (Q : D → LH → Prop) : List D → LH → Prop := fun acc h2 => ∀ n h3, h2.length ≤ n → Ext [] h2 h3 → h3[n]? = some (.lst acc) → Q (.ref n) h3
/-- a comprehension by an invariant -/
theorem wp_eComp {Q : D → LH → Prop} {vs : List Nat} {it : IX} {t e : EX} {r' : LS} (ew : wipeL r vs = r') (q : WP (it r h) (fun s h1 => WP (compX s vs t e fuelN 0 [] r' h1) (NewL Q) E) E) : WP (eComp vs it t e r h) Q E := by
  subst ew
  exact wp_bind (wp_use q (fun s h1 z => wp_bind (wp_use z (fun acc h2 z => wp_new z) (fun _ _ _ z => z))) (fun _ _ _ z => z))
theorem wp_comp {Q : List D → LH → Prop} {s : Src} {vs : List Nat} {t e : EX} (item : Nat → D) (len : Nat) (Inv : Nat → List D → LH → Prop) (hl : len < 1000000) (i0 : Inv 0 [] h)
    (ie : ∀ acc h, Inv len acc h → srcAt s h len = some none ∧ Q acc h)
    (is : ∀ i acc h, i < len → Inv i acc h → srcAt s h i = some (some (item i)) ∧ ∃ r1, tgt vs (item i) r = some r1 ∧ WP (t r1 h) (fun x h2 => Tr x h2 fun k => Br k (WP (e r1 h2) (fun y h3 => Need (acc.length < sizeLine) (Inv (i + 1) (acc ++ [y]) h3)) noE) (Inv (i + 1) acc h2)) noE) :
    WP (compX s vs t e fuelN 0 [] r h) Q E := by
  have main : ∀ k i acc h, i + k = len → Inv i acc h → ∀ f, k < f → WP (compX s vs t e f i acc r h) Q E := by
    intro k
    induction k with
    | zero =>
      intro i acc h e0 hi f hf
      obtain ⟨f, rfl⟩ : ∃ f', f = f' + 1 := ⟨f - 1, by omega⟩
      have : i = len := by omega
      subst this
      obtain ⟨e1, e2⟩ := ie _ _ hi
      unfold compX; rw [e1]; exact e2
    | succ k ih =>
      intro i acc h e0 hi f hf
      obtain ⟨f, rfl⟩ : ∃ f', f = f' + 1 := ⟨f - 1, by omega⟩
      obtain ⟨e1, r1, e2, q⟩ := is i acc h (by omega) hi
      unfold compX; rw [e1]; simp only [e2]
      obtain ⟨x, h2, et, q⟩ := wp_eq q
      simp only [et]
      unfold Tr at q
      match e3 : truth x h2 with
      | none => rw [e3] at q; exact q.elim
      | some false => rw [e3] at q; exact ih (i + 1) _ _ (by omega) q f (by omega)
      | some true =>
        rw [e3] at q
        obtain ⟨y, h3, ee, l, q⟩ := wp_eq q
        simp only [ee, if_pos l]
        exact ih (i + 1) _ _ (by omega) q f (by omega)
  exact main len 0 [] h (by omega) i0 _ (by unfold fuelN; omega)
theorem src_lst {n i : Nat} {xs : List D} (e : h[n]? = some (.lst xs)) : srcAt (.lst n) h i = some xs[i]? := by simp only [srcAt, e]
end st
end Ev

set_option Elab.async false
set_option linter.all false
set_option maxRecDepth 100000
namespace Ev
open Py PySem
/-! sequences: a tuple or a list -/
def SeqOf (x : D) (h : LH) (xs : List D) : Prop := x = .tup xs ∨ ∃ n, x = .ref n ∧ h[n]? = some (.lst xs)
theorem SeqOf.ext {x : D} {h h1 : LH} {xs : List D} (s : SeqOf x h xs) (e : Ext [] h h1) : SeqOf x h1 xs := by
  rcases s with rfl | ⟨n, rfl, a⟩
  · exact .inl rfl
  · exact .inr ⟨n, rfl, e.get0 a⟩
theorem SeqOf.seq {x : D} {h : LH} {xs : List D} (s : SeqOf x h xs) : seqD x h = some xs := by
  rcases s with rfl | ⟨n, rfl, a⟩
  · rfl
  · exact seq_lst a
theorem SeqOf.kd {x : D} {h : LH} {xs : List D} (s : SeqOf x h xs) : kindD x h = some .tuple ∨ kindD x h = some .list := by
  rcases s with rfl | ⟨n, rfl, a⟩
  · exact .inl rfl
  · exact .inr (by simp only [kindD, a])
/-- a source that stays, with the items xs -/
def Gives (s : Src) (h : LH) (xs : List D) : Prop := ∀ h1, Ext [] h h1 → ∀ i, srcAt s h1 i = some xs[i]?
theorem SeqOf.src {x : D} {h : LH} {xs : List D} (s : SeqOf x h xs) {P : Src → Prop} (p : ∀ s, Gives s h xs → P s) : SrcAt x h P := by
  rcases s with rfl | ⟨n, rfl, a⟩
  · exact srcat_tup (p _ fun _ _ _ => rfl)
  · exact srcat_lst a (p _ fun h1 e i => src_lst (e.get0 a))
theorem gives_its {h : LH} {xs : List D} : Gives (.its xs) h xs := fun _ _ _ => rfl
theorem gives_lst {h : LH} {n : Nat} {xs : List D} (a : h[n]? = some (.lst xs)) : Gives (.lst n) h xs := fun h1 e i => src_lst (e.get0 a)
def enumD (k : Int) (xs : List D) : List D := (xs.zipIdx).map fun p => .tup [.int (k + (p.2 : Nat)), p.1]
theorem Gives.ext {s : Src} {h h1 : LH} {xs : List D} (g : Gives s h xs) (e : Ext [] h h1) : Gives s h1 xs := fun h2 e2 i => g h2 (e.trans e2) i
/-- a loop over the items xs -/
theorem wf_forL {E : EP} {N B C : NP} {T : D → LH → Prop} {r : LS} {h : LH} {s : Src} {g : GX} {b : SX} (xs : List D) (hl : xs.length < 1000000) (Inv : Nat → LS → LH → Prop) (gv : ∀ i r h, Inv i r h → srcAt s h i = some xs[i]?) (i0 : Inv 0 r h)
    (ie : ∀ r h, Inv xs.length r h → N r h)
    (is : ∀ i d r h, xs[i]? = some d → Inv i r h → WF (g d r h) (fun r1 h1 => WF (b r1 h1) (Inv (i + 1)) T N (Inv (i + 1)) E) (fun _ _ => False) noN noN noE) :
    WF (forX s g b fuelN 0 r h) N T B C E := by
  refine wf_loop (fun i => xs.getD i .non) xs.length Inv hl i0 (fun r h z => ⟨?_, ie r h z⟩) (fun i r h l z => ?_)
  · rw [gv _ _ h z]; simp
  · have e : xs[i]? = some xs[i] := List.getElem?_eq_getElem l
    have e' : xs.getD i .non = xs[i] := by simp [List.getD, e]
    rw [e']
    exact ⟨by rw [gv _ _ h z, e], is i _ r h e z⟩
theorem rangeL_len {a b : Int} : (rangeL a b).length = (b - a).toNat := by simp [rangeL]
/-- a comprehension over a source that stays; test and item are told by functions of the item -/
theorem wp_compL {E : EP} {r : LS} {h : LH} {s : Src} {vs : List Nat} {t e : EX} (xs : List D) (p : D → Bool) (v : D → D) (gv : Gives s h xs) (hl : xs.length < 1000000)
    (is : ∀ d h1, d ∈ xs → Ext [] h h1 → ∃ r1, tgt vs d r = some r1 ∧ WP (t r1 h1) (fun x h2 => Tr x h2 fun k => k = p d ∧ Ext [] h1 h2 ∧ (p d = true → WP (e r1 h2) (fun y h3 => y = v d ∧ Ext [] h2 h3) noE)) noE) :
    WP (compX s vs t e fuelN 0 [] r h) (fun acc h1 => acc = (xs.filter p).map v ∧ Ext [] h h1) E := by
  refine wp_comp (fun i => xs.getD i .non) xs.length (fun i acc h1 => acc = ((xs.take i).filter p).map v ∧ Ext [] h h1) hl ⟨by simp, Ext.rfl'⟩ (fun acc h1 z => ⟨?_, ?_⟩) (fun i acc h1 l z => ?_)
  · rw [gv h1 z.2]; simp
  · refine ⟨?_, z.2⟩
    rw [z.1, List.take_of_length_le (Nat.le_refl _)]
  · have e1 : xs[i]? = some xs[i] := List.getElem?_eq_getElem l
    have e' : xs.getD i .non = xs[i] := by simp [List.getD, e1]
    rw [e']
    refine ⟨by rw [gv h1 z.2, e1], ?_⟩
    obtain ⟨r1, et, q⟩ := is xs[i] h1 (List.getElem_mem l) z.2
    refine ⟨r1, et, wp_use q (fun x h2 q => ?_) (fun _ _ _ z => z)⟩
    have tk : xs.take (i + 1) = xs.take i ++ [xs[i]] := by rw [List.take_succ, e1]; rfl
    unfold Tr at q ⊢
    match e3 : truth x h2 with
    | none => rw [e3] at q; exact q
    | some k =>
      rw [e3] at q
      obtain ⟨rfl, x2, q⟩ := q
      show Br (p xs[i]) _ _
      refine br_s (fun c => ?_) (fun c => ?_)
      · refine wp_use (q c) (fun y h3 q => ?_) (fun _ _ _ z => z)
        obtain ⟨rfl, x3⟩ := q
        refine ⟨?_, ?_, (z.2.trans x2).trans x3⟩
        · rw [z.1, List.length_map]
          refine Nat.lt_of_le_of_lt (List.length_filter_le _ _) ?_
          rw [List.length_take]; unfold sizeLine; omega
        · rw [z.1, tk, List.filter_append, List.map_append]; simp [c]
      · refine ⟨?_, z.2.trans x2⟩
        rw [z.1, tk, List.filter_append, List.map_append]; simp [c]
theorem Ext.via {W W' : List Nat} {h h1 h2 : LH} (x : Ext W h h1) (y : Ext W' h1 h2) (w : ∀ n, n < h.length → n ∈ W' → n ∈ W) : Ext W h h2 :=
  ⟨Nat.le_trans x.1 y.1, fun n a b => by rw [y.2 n (Nat.lt_of_lt_of_le a x.1) (fun z => b (w n a z)), x.2 n a b]⟩
theorem Ext.new {W : List Nat} {h h1 h2 : LH} {n : Nat} (x : Ext W h h1) (y : Ext [n] h1 h2) (w : h.length ≤ n) : Ext W h h2 :=
  x.via y (fun k a b => by simp at b; omega)
theorem Ext.then0 {W : List Nat} {h h1 h2 : LH} (x : Ext W h h1) (y : Ext [] h1 h2) : Ext W h h2 := x.via y (fun _ _ z => nomatch z)
theorem wp_powN {i j : Int} {m : Nat} {h : LH} {Q : D → LH → Prop} {E : EP} (em : j.toNat = m) (e : 0 ≤ j ∧ j ≤ 1000000) (e' : i.natAbs < 2 ^ 64) (q : Q (.int (i ^ m)) h) : WP (oPow (.int i) (.int j) h) Q E := by
  subst em; exact wp_pow ⟨e.1, e.2, e'⟩ q
/-! lists of numbers -/
def iD (ks : List Nat) : List D := ks.map fun (k : Nat) => .int (k : Int)
theorem iD_len {ks : List Nat} : (iD ks).length = ks.length := by simp [iD]
theorem iD_mem {ks : List Nat} {d : D} (m : d ∈ iD ks) : ∃ k ∈ ks, d = .int (k : Int) := by
  obtain ⟨k, a, b⟩ := List.mem_map.1 m; exact ⟨k, a, b.symm⟩
theorem iD_filter {ks : List Nat} {p : D → Bool} : (iD ks).filter p = iD (ks.filter fun k => p (.int (k : Int))) := by
  simp [iD, List.filter_map]; rfl
theorem wp_ixN {x : D} {h : LH} {xs : List D} {k : Nat} {d : D} {Q : D → LH → Prop} {E : EP} (e : seqD x h = some xs) (a : xs[k]? = some d) (q : Q d h) : WP (oIx x (.int (k : Int)) h) Q E :=
  wp_ix e (L2.atI_nat a) q
theorem wp_ixS {x : D} {h : LH} {ns : List Int} {k : Nat} {i : Int} {Q : D → LH → Prop} {E : EP} (e : seqD x h = some (ns.map .int)) (a : ns[k]? = some i) (q : Q (.int i) h) : WP (oIx x (.int (k : Int)) h) Q E :=
  wp_ix e (L2.atI_nat (by rw [List.getElem?_map, a]; rfl)) q
end Ev

set_option Elab.async false
set_option linter.all false
set_option maxRecDepth 100000
/-! Own layer: texts of data, lengths; equality of data. -/
namespace Ev
open Py PySem
mutual
/-- at most so long a text -/
def room : PyData → Nat
  | .none => 4
  | .bool _ => 5
  | .int _ => 20
  | .str x => (reprText x).length
  | .list xs => 2 + roomAll xs
  | .tuple xs => 3 + roomAll xs
  | .dict _ => 0
def roomAll : List PyData → Nat
  | [] => 0
  | x :: xs => room x + 2 + roomAll xs
end
mutual
/-- whole numbers below 10 ** 18, no dicts -/
def tame : PyData → Bool
  | .int i => decide (i.natAbs < 10 ^ 18)
  | .none | .bool _ | .str _ => true
  | .list xs => tameAll xs
  | .tuple xs => tameAll xs
  | .dict _ => false
def tameAll : List PyData → Bool
  | [] => true
  | x :: xs => tame x && tameAll xs
end
theorem tf_len : ∀ (ts : List Str) (k : Nat) (acc : Str), (textFrom k acc ts).length ≤ acc.length + (ts.map fun t => t.length + 2).sum
  | [], k, acc => by simp [textFrom]
  | t :: ts, k, acc => by
    have := tf_len ts (k + 1) (acc ++ (if k > 0 then ", " else "" : String) ++ t)
    have e : (acc ++ (if k > 0 then ", " else "" : String) ++ t).length = acc.length + (if k > 0 then 2 else 0) + t.length := by
      rw [Str.length_append, Str.length_append]
      split <;> rfl
    rw [e] at this
    simp only [textFrom, List.map_cons, List.sum_cons]
    have : (if k > 0 then 2 else 0 : Nat) ≤ 2 := by split <;> omega
    omega
theorem join_len : ∀ (ts : List Str), (Str.join ", " ts).length ≤ (ts.map fun t => t.length + 2).sum
  | [] => by simp [Str.join, Str.empty, Str.length]
  | [x] => by simp [Str.join]
  | x :: y :: r => by
    have := join_len (y :: r)
    have e : (Str.join ", " (x :: y :: r)).length = x.length + 2 + (Str.join ", " (y :: r)).length := by
      rw [Str.join, Str.length_append, Str.length_append]; rfl
      intro z; exact nomatch z
    rw [e]
    simp only [List.map_cons, List.sum_cons] at this ⊢
    omega
mutual
theorem shown_len : ∀ d : PyData, tame d = true → d.shown.length ≤ room d
  | .none, _ => by rw [PyData.shown]; decide
  | .bool true, _ => by rw [PyData.shown]; decide
  | .bool false, _ => by rw [PyData.shown]; decide
  | .int i, t => by
    rw [PyData.shown, room]
    have t : i.natAbs < 10 ^ 18 := by simpa [tame] using t
    have e := int_text_length_le10 (k := 18) (by decide) t
    have : (Str.ofString (toString i)).length = (toString i).length := by rw [ofString_length]
    show (Str.ofString (toString i)).length ≤ 20
    omega
  | .str x, _ => by rw [PyData.shown, room]; exact Nat.le_refl _
  | .list xs, t => by
    rw [PyData.shown, room]
    have t : tameAll xs = true := by simpa [tame] using t
    have := shownAll_len xs t
    have h1 := tf_len (PyData.shownAll xs) 0 "["
    unfold listText
    rw [Str.length_append]
    have e1 : ("[" : Str).length = 1 := by decide
    have e2 : ("]" : Str).length = 1 := by decide
    omega
  | .tuple xs, t => by
    rw [PyData.shown, room]
    have t : tameAll xs = true := by simpa [tame] using t
    have := shownAll_len xs t
    have h1 := join_len (PyData.shownAll xs)
    unfold tupleText
    rw [Str.length_append, Str.length_append]
    have e1 : ("(" : Str).length = 1 := by decide
    have e2 : ((if (PyData.shownAll xs).length == 1 then ",)" else ")" : String) : Str).length ≤ 2 := by split <;> decide
    omega
  | .dict kvs, t => by simp [tame] at t
theorem shownAll_len : ∀ xs : List PyData, tameAll xs = true → ((PyData.shownAll xs).map fun t => t.length + 2).sum ≤ roomAll xs
  | [], _ => by rw [PyData.shownAll]; simp
  | x :: xs, t => by
    have t : tame x = true ∧ tameAll xs = true := by simpa [tameAll] using t
    have h1 := shown_len x t.1
    have h2 := shownAll_len xs t.2
    rw [PyData.shownAll, roomAll]
    simp only [List.map_cons, List.sum_cons]
    omega
end
mutual
theorem tame_show : ∀ d : PyData, tame d = true → d.showable = true ∧ d.hasDict = false
  | .none, _ => ⟨by simp [PyData.showable], by simp [PyData.hasDict]⟩
  | .bool _, _ => ⟨by simp [PyData.showable], by simp [PyData.hasDict]⟩
  | .str _, _ => ⟨by simp [PyData.showable], by simp [PyData.hasDict]⟩
  | .int i, t => by
    have t : i.natAbs < 10 ^ 18 := by simpa [tame] using t
    refine ⟨?_, by simp [PyData.hasDict]⟩
    rw [PyData.showable, decide_eq_true_eq]
    rcases Nat.eq_zero_or_pos i.natAbs with z | z
    · rw [z]; decide
    · have : i.natAbs.log2 < 60 := (Nat.log2_lt (by omega)).2 (Nat.lt_trans t (by decide))
      omega
  | .list xs, t => by
    have := tameAll_show xs (by simpa [tame] using t)
    exact ⟨by rw [PyData.showable]; exact this.1, by rw [PyData.hasDict]; exact this.2⟩
  | .tuple xs, t => by
    have := tameAll_show xs (by simpa [tame] using t)
    exact ⟨by rw [PyData.showable]; exact this.1, by rw [PyData.hasDict]; exact this.2⟩
  | .dict kvs, t => by simp [tame] at t
theorem tameAll_show : ∀ xs : List PyData, tameAll xs = true → PyData.showableAll xs = true ∧ PyData.hasDictAll xs = false
  | [], _ => ⟨by simp [PyData.showableAll], by simp [PyData.hasDictAll]⟩
  | x :: xs, t => by
    have t : tame x = true ∧ tameAll xs = true := by simpa [tameAll] using t
    have h1 := tame_show x t.1
    have h2 := tameAll_show xs t.2
    exact ⟨by rw [PyData.showableAll, h1.1, h2.1]; rfl, by rw [PyData.hasDictAll, h1.2, h2.2]; rfl⟩
end
/-! lists of numbers -/
def pN (ks : List Nat) : List PyData := ks.map fun (k : Nat) => .int (k : Int)
theorem deep_list {h : LH} {m n : Nat} {xs : List D} {ds : List PyData} (e : h[n]? = some (.lst xs)) (q : mapO (deep h m) xs = some ds) : deep h (m + 1) (.ref n) = some (.list ds) := by
  rw [deep, e]; simp only [q]; rfl
theorem deep_tup {h : LH} {m : Nat} {xs : List D} {ds : List PyData} (q : mapO (deep h m) xs = some ds) : deep h (m + 1) (.tup xs) = some (.tuple ds) := by
  rw [deep, q]; rfl
theorem mapO_nil {α β : Type} {f : α → Option β} : mapO f [] = some [] := rfl
theorem mapO_cons {α β : Type} {f : α → Option β} {a : α} {r : List α} {b : β} {bs : List β} (e : f a = some b) (q : mapO f r = some bs) : mapO f (a :: r) = some (b :: bs) := by
  rw [mapO, e, q]
/-- small numbers -/
def Small (m : Nat) (ks : List Nat) : Prop := ks.length ≤ m ∧ ∀ k ∈ ks, k < 10 ^ 18
theorem Small.up {m m' : Nat} {ks : List Nat} (s : Small m ks) (l : m ≤ m') : Small m' ks := ⟨Nat.le_trans s.1 l, s.2⟩
section
variable {E : EP} {Q : D → LH → Prop} {h : LH}
/-- flat data -/
def datF : D → PyData
  | .non => .none
  | .bl b => .bool b
  | .int i => .int i
  | .str x => .str x
  | _ => .none
theorem mapO_flat {n : Nat} : ∀ {xs : List D}, xs.all flatD = true → mapO (deep h n) xs = some (xs.map datF)
  | [], _ => rfl
  | x :: xs, f => by
    rw [List.all_cons, Bool.and_eq_true] at f
    have e : deep h n x = some (datF x) := by
      cases x with
      | tup _ => exact nomatch f.1
      | ref _ => exact nomatch f.1
      | scr _ => exact nomatch f.1
      | fn _ => exact nomatch f.1
      | _ => cases n <;> rfl
    exact mapO_cons e (mapO_flat f.2)
/-- flat data with a short text -/
def Mild (x : D) : Prop := flatD x = true ∧ tame (datF x) = true ∧ room (datF x) ≤ 50
end
end Ev

set_option Elab.async false
set_option linter.all false
set_option maxRecDepth 100000
/-! Plain trees: parents, ways, children. No program here. -/
namespace Ev
structure Ups (ks : List Nat) (m : Nat) : Prop where
  len : ks.length ≤ m
  up : ∀ j k : Nat, ks[j]? = some k → k ≤ j
theorem Ups.push {ks : List Nat} {m k : Nat} (U : Ups ks m) (l : ks.length < m) (e : k ≤ ks.length) : Ups (ks ++ [k]) m := by
  refine ⟨by simp; omega, fun j k' z => ?_⟩
  rw [List.getElem?_append] at z
  split at z
  · exact U.up _ _ z
  · rename_i c
    have : j = ks.length := by
      rcases Nat.lt_or_ge j (ks.length + 1) with y | y
      · omega
      · rw [List.getElem?_eq_none (by simp; omega)] at z; exact nomatch z
    subst this
    simp at z; omega
theorem Ups.mono {ks : List Nat} {m m' : Nat} (U : Ups ks m) (l : m ≤ m') : Ups ks m' := ⟨Nat.le_trans U.len l, U.up⟩
theorem Ups.nil {m : Nat} : Ups [] m := ⟨by simp, fun j k e => by simp at e⟩
theorem Ups.mem {ks : List Nat} {m k : Nat} (U : Ups ks m) (e : k ∈ ks) : k < ks.length := by
  obtain ⟨j, l, rfl⟩ := List.mem_iff_getElem.1 e
  have := U.up j _ (List.getElem?_eq_getElem l)
  omega
theorem Ups.take {ks : List Nat} {m i : Nat} (U : Ups ks m) : Ups (ks.take i) m := by
  refine ⟨by rw [List.length_take]; have := U.len; omega, fun j k e => ?_⟩
  rw [List.getElem?_take] at e
  split at e
  · exact U.up _ _ e
  · exact nomatch e
/-! children -/
def kidsN (ks : List Nat) (g : Nat) : List Nat := ((ks.zipIdx).filter fun p => p.1 == g).map fun p => p.2 + 1
theorem kids_mem {ks : List Nat} {g c : Nat} : c ∈ kidsN ks g ↔ ∃ j, c = j + 1 ∧ ks[j]? = some g := by
  unfold kidsN
  rw [List.mem_map]
  constructor
  · rintro ⟨⟨a, j⟩, m, rfl⟩
    rw [List.mem_filter, List.mem_zipIdx_iff_getElem?] at m
    refine ⟨j, rfl, ?_⟩
    rw [m.1]
    have : a = g := by simpa using m.2
    rw [this]
  · rintro ⟨j, rfl, e⟩
    refine ⟨(g, j), ?_, rfl⟩
    rw [List.mem_filter, List.mem_zipIdx_iff_getElem?]
    exact ⟨e, by simp⟩
/-! struck groups -/
structure SOk (ks ss : List Nat) : Prop where
  rng : ∀ s ∈ ss, 0 < s ∧ s ≤ ks.length
  nd : ss.Nodup
  cl : ∀ s ∈ ss, ∀ c ∈ kidsN ks s, c ∈ ss
theorem SOk.nil {ks : List Nat} : SOk ks [] := ⟨(fun _ z => nomatch z), List.nodup_nil, (fun _ z => nomatch z)⟩
theorem SOk.push {ks ss : List Nat} {g : Nat} (S : SOk ks ss) (l : 0 < g ∧ g ≤ ks.length) (n : g ∉ ss) (c : ∀ c ∈ kidsN ks g, c ∈ ss) : SOk ks (ss ++ [g]) := by
  refine ⟨fun s m => ?_, ?_, fun s m z y => ?_⟩
  · rcases List.mem_append.1 m with m | m
    · exact S.rng s m
    · simp at m; subst m; exact l
  · rw [List.nodup_append]; exact ⟨S.nd, by simp, fun a b c d e => by simp at d; subst d; subst e; exact n b⟩
  · rcases List.mem_append.1 m with m | m
    · exact List.mem_append_left _ (S.cl s m z y)
    · simp at m; subst m; exact List.mem_append_left _ (c z y)
theorem nodup_len : ∀ {n : Nat} {ss : List Nat}, ss.Nodup → (∀ s ∈ ss, s < n) → ss.length ≤ n
  | 0, [], _, _ => Nat.le_refl _
  | 0, s :: ss, _, l => absurd (l s (by simp)) (by omega)
  | n + 1, ss, d, l => by
    have := nodup_len (n := n) (d.erase n) (fun s m => by
      have h1 := l s (List.mem_of_mem_erase m)
      have h2 : s ≠ n := fun e => by subst e; exact (List.Nodup.mem_erase_iff d).1 m |>.1 rfl
      omega)
    rw [List.length_erase] at this
    split at this <;> omega
theorem SOk.len {ks ss : List Nat} (S : SOk ks ss) : ss.length ≤ ks.length := by
  have d : (ss.map fun s => s - 1).Nodup := by
    rw [List.nodup_iff_pairwise_ne, List.pairwise_map]
    refine List.Pairwise.imp_of_mem ?_ (List.nodup_iff_pairwise_ne.1 S.nd)
    intro a b ma mb ne
    have := S.rng a ma; have := S.rng b mb; omega
  have := nodup_len (n := ks.length) d (fun s m => by
    obtain ⟨a, ma, rfl⟩ := List.mem_map.1 m
    have := S.rng a ma; omega)
  simpa using this
theorem SOk.grow {ks ss : List Nat} {k : Nat} (S : SOk ks ss) (n : k ∉ ss) : SOk (ks ++ [k]) ss := by
  refine ⟨fun s m => by have := S.rng s m; simp; omega, S.nd, fun s m c z => ?_⟩
  obtain ⟨j, rfl, e⟩ := kids_mem.1 z
  rw [List.getElem?_append] at e
  split at e
  · exact S.cl s m _ (kids_mem.2 ⟨j, rfl, e⟩)
  · have : s = k := by
      rcases Nat.eq_zero_or_pos (j - ks.length) with y | y
      · rw [y] at e; simpa using e.symm
      · rw [List.getElem?_eq_none (by simp; omega)] at e; exact nomatch e
    subst this; exact absurd m n
/-! sorted -/
def insN (a : Nat) : List Nat → List Nat
  | [] => [a]
  | b :: r => if a ≤ b then a :: b :: r else b :: insN a r
def sortN : List Nat → List Nat
  | [] => []
  | a :: r => insN a (sortN r)
/-! ways -/
def wayF (ks : List Nat) : Nat → Nat → List Nat
  | _, 0 => [0]
  | 0, g + 1 => [g + 1]
  | f + 1, g + 1 => (g + 1) :: wayF ks f (ks.getD g 0)
def wayN (ks : List Nat) (g : Nat) : List Nat := wayF ks g g
def comN (ks : List Nat) (g s : Nat) : List Nat := (wayN ks g).filter fun x => decide (x ∈ wayN ks s)
def apN (ks : List Nat) (g s : Nat) : List Nat := (wayN ks g).filter fun x => !decide (x ∈ wayN ks s)
/-- below: seen is behind group on its way -/
def belN (ks : List Nat) (g s : Nat) : Bool := decide (s ∈ (wayN ks g).tail)
def zoneN (ks : List Nat) (g s : Nat) : Nat := if g = s then 2 else if s ∈ wayN ks g then 1 else 3
end Ev

set_option Elab.async false
set_option linter.all false
set_option maxRecDepth 100000
/-! Comprehensions over whole numbers, all and any. -/
namespace Ev
open Py PySem
section
variable {E : EP} {Q : D → LH → Prop} {r : LS} {h : LH} {s : Src} {vs : List Nat} {t e : EX}
theorem wp_filN {js : List Nat} (p : Nat → Bool) (v : Nat → D) (gv : Gives s h (iD js)) (hl : js.length < 1000000)
    (is : ∀ k ∈ js, ∀ h1, Ext [] h h1 → ∃ r1, tgt vs (.int (k : Int)) r = some r1 ∧ WP (t r1 h1) (fun x h2 => Tr x h2 fun b => b = p k ∧ Ext [] h1 h2 ∧ (p k = true → WP (e r1 h2) (fun y h3 => y = v k ∧ Ext [] h2 h3) noE)) noE)
    (q : ∀ n h2, h.length ≤ n → Ext [] h h2 → h2[n]? = some (.lst ((js.filter p).map v)) → Q (.ref n) h2) :
    WP (compX s vs t e fuelN 0 [] r h) (NewL Q) E := by
  refine wp_use0 (wp_compL (iD js) (fun d => match d with | .int i => p i.toNat | _ => false) (fun d => match d with | .int i => v i.toNat | _ => .non) gv (by rw [iD_len]; exact hl) ?_) ?_
  · intro d h1 m x1
    obtain ⟨k, mk, rfl⟩ := iD_mem m
    obtain ⟨r1, e1, w⟩ := is k mk h1 x1
    exact ⟨r1, e1, by simpa using w⟩
  · rintro acc h1 ⟨rfl, x1⟩ n h2 l2 x2 a2
    refine q n h2 (Nat.le_trans x1.1 l2) (x1.trans x2) ?_
    rw [a2, iD_filter]
    simp only [iD, List.map_map, Int.toNat_natCast]
    rfl
theorem wp_mapN {js : List Nat} (v : Nat → D) (gv : Gives s h (iD js)) (hl : js.length < 1000000)
    (is : ∀ k ∈ js, ∀ h1, Ext [] h h1 → ∃ r1, tgt vs (.int (k : Int)) r = some r1 ∧ WP (e r1 h1) (fun y h3 => y = v k ∧ Ext [] h1 h3) noE)
    (q : ∀ n h2, h.length ≤ n → Ext [] h h2 → h2[n]? = some (.lst (js.map v)) → Q (.ref n) h2) :
    WP (compX s vs (eC (.bl true)) e fuelN 0 [] r h) (NewL Q) E := by
  refine wp_filN (fun _ => true) v gv hl ?_ ?_
  · intro k m h1 x1
    obtain ⟨r1, e1, w⟩ := is k m h1 x1
    exact ⟨r1, e1, wp_eC ⟨rfl, Ext.rfl', fun _ => w⟩⟩
  · intro n h2 l x a
    rw [List.filter_eq_self.2 (fun _ _ => rfl)] at a
    exact q n h2 l x a
theorem gives_range {m : Nat} : Gives (.its (rangeL 0 (m : Int))) h (iD (List.range m)) := by
  have e : rangeL 0 (m : Int) = iD (List.range m) := by unfold rangeL iD; simp
  rw [e]; exact gives_its
theorem wp_allT {α : Type} {n : Nat} {js : List α} (e : h[n]? = some (.lst (js.map fun _ => D.bl true))) (q : Q (.bl true) h) : WP (bAll [.ref n] h) Q E := by
  refine wp_bAll (bs := js.map fun _ => true) (by rw [e]; simp) ?_
  have : ((js.map fun _ => true).all id) = true := by simp
  rw [this]; exact q
theorem wp_allB {α : Type} {n : Nat} {js : List α} {p : α → Bool} (e : h[n]? = some (.lst (js.map fun k => D.bl (p k)))) (q : Q (.bl (js.all p)) h) : WP (bAll [.ref n] h) Q E := by
  refine wp_bAll (bs := js.map p) (by rw [e]; simp) ?_
  have : ((js.map p).all id) = js.all p := by simp [List.all_map]
  rw [this]; exact q
end
section
variable {E : EP} {N B C : NP} {T : D → LH → Prop} {Q : D → LH → Prop} {r : LS} {h : LH}
def ParAt3 (i j l : Nat) (ds : List D) (r : LS) (h : LH) (N : NP) : Prop := ∃ x y z, ds = [x, y, z] ∧ N (((r.set i (some x)).set j (some y)).set l (some z)) h
theorem parat3 {i j l : Nat} {x y z : D} {r' : LS} (e : ((r.set i (some x)).set j (some y)).set l (some z) = r') (q : N r' h) : ParAt3 i j l [x, y, z] r h N := by subst e; exact ⟨x, y, z, rfl, q⟩
theorem wf_sPar3 {i j l : Nat} {a : AX} (q : WP (a r h) (fun ds h1 => ParAt3 i j l ds r h1 N) E) : WF (sPar3 i j l a r h) N T B C E :=
  wf_to (wp_use q (fun x h1 z => by obtain ⟨x, y, z, rfl, w⟩ := z; exact w) (fun _ _ _ z => z))
theorem wp_isBB {b c : Bool} (q : Q (.bl (c == b)) h) : WP (oIsB b (.bl c) h) Q E := q
def RvAt (x : D) (h : LH) (Q : D → LH → Prop) : Prop := ∃ n xs, x = .ref n ∧ h[n]? = some (.lst xs) ∧ ∀ k h1, h.length ≤ k → Ext [] h h1 → h1[k]? = some (.lst xs.reverse) → Q (.ref k) h1
theorem rvat {n : Nat} {xs : List D} (e : h[n]? = some (.lst xs)) (q : ∀ k h1, h.length ≤ k → Ext [] h h1 → h1[k]? = some (.lst xs.reverse) → Q (.ref k) h1) : RvAt (.ref n) h Q := ⟨n, xs, rfl, e, q⟩
theorem wp_eRev {a : EX} (q : WP (a r h) (fun x h1 => RvAt x h1 Q) E) : WP (eRev a r h) Q E :=
  wp_e1 (wp_use q (fun x h1 z => by
    obtain ⟨n, xs, rfl, e, q⟩ := z
    simp only [lstD, e]; exact wp_new q) (fun _ _ _ z => z))
/-- x is shown as d -/
def Shw (h : LH) (x : D) (d : PyData) : Prop := deep h 59 x = some d ∧ tame d = true ∧ room d ≤ 8000 ∧ d.depth ≤ 10
inductive Shs (h : LH) : List D → List PyData → Prop
  | nil : Shs h [] []
  | cons {x : D} {d : PyData} {xs : List D} {ds : List PyData} : Shw h x d → Shs h xs ds → Shs h (x :: xs) (d :: ds)
theorem Shs.all {xs : List D} {ds : List PyData} (s : Shs h xs ds) : mapO (deep h 59) xs = some ds ∧ tameAll ds = true ∧ roomAll ds ≤ 8002 * xs.length ∧ PyData.depthAll ds ≤ 10 := by
  induction s with
  | nil => exact ⟨rfl, rfl, by simp [roomAll], by simp [PyData.depthAll]⟩
  | cons a b ih =>
    obtain ⟨a1, a2, a3, a4⟩ := a
    obtain ⟨i1, i2, i3, i4⟩ := ih
    refine ⟨mapO_cons a1 i1, by rw [tameAll, a2, i2]; rfl, by rw [roomAll, List.length_cons]; omega, by rw [PyData.depthAll]; omega⟩
/-- the parent of g, None of the top -/
def upD (ks : List Nat) (g : Nat) : D := ((D.non :: iD ks)[g]?).getD .non
def upP (ks : List Nat) (g : Nat) : PyData := datF (upD ks g)
end
end Ev

set_option Elab.async false
set_option linter.all false
set_option maxRecDepth 100000
/-! own ==, isinstance of own classes, pop(i), extend, reverse. -/
namespace Ev
open Py PySem
section
variable {E : EP} {Q : D → LH → Prop} {h : LH}
theorem wp_extend {n k : Nat} {xs ys : List D} (e : h[n]? = some (.lst xs)) (e' : h[k]? = some (.lst ys)) (l : xs.length + ys.length ≤ sizeLine) (q : ∀ h1, Ext [n] h h1 → h1[n]? = some (.lst (xs ++ ys)) → Q .non h1) : WP (mExtend (.ref n) [.ref k] h) Q E := by
  simp only [mExtend, lstD, e', onL, e, if_pos l]; exact q _ ext_set (at_set e)
end
end Ev

set_option Elab.async false
set_option linter.all false
set_option maxRecDepth 100000
/-! Words, rows of words; dicts: rules of weakest preconditions. -/
namespace Py
open PySem
abbrev W := Fin 20
def wd (c : W) : Str := match c.val with
  | 0 => "look"
  | 1 => "add"
  | 2 => "try"
  | 3 => "live"
  | 4 => "home"
  | 5 => "off"
  | 6 => "end"
  | 7 => "set"
  | 8 => "both"
  | 9 => "undo"
  | 10 => "leave"
  | 11 => "wait"
  | 12 => "take"
  | 13 => "give"
  | 14 => "move"
  | 15 => "lift"
  | 16 => "settle"
  | 17 => "fail"
  | 18 => "fails"
  | _ => "shared"
def rowD (cs : List W) : List D := cs.map fun c => .str (wd c)
end Py
namespace Ev
open Py PySem
theorem wd_inj : ∀ a b : W, wd a = wd b → a = b := by decide +kernel
theorem wd_eq {a b : W} : decide (wd a = wd b) = decide (a = b) := by
  rw [Bool.eq_iff_iff, decide_eq_true_eq, decide_eq_true_eq]
  exact ⟨wd_inj a b, fun e => by rw [e]⟩
theorem row_at {cs : List W} {i : Nat} : (rowD cs)[i]? = cs[i]?.map fun c => .str (wd c) := by simp [rowD]
theorem row_mem {cs : List W} {d : D} (m : d ∈ rowD cs) : ∃ c ∈ cs, d = .str (wd c) := by
  obtain ⟨c, a, b⟩ := List.mem_map.1 m; exact ⟨c, a, b.symm⟩
theorem row_flat {cs : List W} : (rowD cs).all flatD = true := by
  rw [List.all_eq_true]; intro d m; obtain ⟨k, _, rfl⟩ := row_mem m; rfl
theorem row_has {cs : List W} {c : W} : ((rowD cs).any fun z => eqF z (.str (wd c))) = decide (c ∈ cs) := by
  rw [Bool.eq_iff_iff, List.any_eq_true, decide_eq_true_eq]
  constructor
  · rintro ⟨d, m, e⟩
    obtain ⟨j, a, rfl⟩ := row_mem m
    have : wd j = wd c := by simpa [eqF] using e
    rw [← wd_inj _ _ this]; exact a
  · exact fun m => ⟨.str (wd c), List.mem_map.2 ⟨c, m, rfl⟩, by simp [eqF]⟩
def rowP (cs : List W) : List PyData := cs.map fun c => .str (wd c)
theorem strOk_wd : ∀ c : W, PyData.canLay0 (.str (wd c)) = true := by decide +kernel
section
variable {E : EP} {Q : D → LH → Prop} {r : LS} {h : LH}
theorem wp_inW {c : W} {cs : List W} (q : Q (.bl (decide (c ∈ cs))) h) : WP (oIn false (.str (wd c)) (.tup (rowD cs)) h) Q E := by
  refine wp_in rfl ?_ ?_
  · rw [row_flat]; rfl
  · rw [row_has]; exact q
theorem wp_ninW {c : W} {cs : List W} (q : Q (.bl (!decide (c ∈ cs))) h) : WP (oIn true (.str (wd c)) (.tup (rowD cs)) h) Q E := by
  refine wp_in rfl ?_ ?_
  · rw [row_flat]; rfl
  · rw [row_has]; exact q
theorem wp_eqW {a b : W} (q : Q (.bl (decide (a = b))) h) : WP (oEq false (.str (wd a)) (.str (wd b)) h) Q E := by
  refine wp_eqS ?_; rw [wd_eq]; exact q
theorem wp_neW {a b : W} (q : Q (.bl (!decide (a = b))) h) : WP (oEq true (.str (wd a)) (.str (wd b)) h) Q E := by
  refine wp_neS ?_; rw [wd_eq]; exact q
theorem mapO_row {n : Nat} : ∀ cs : List W, mapO (deep h n) (rowD cs) = some (rowP cs)
  | [] => rfl
  | c :: cs => by
    refine mapO_cons (a := .str (wd c)) (b := .str (wd c)) ?_ (mapO_row cs)
    cases n <;> rfl
theorem lay_row : ∀ cs : List W, PyData.canLayAll0 (rowP cs) = true
  | [] => rfl
  | c :: cs => by
    show (PyData.canLay0 (.str (wd c)) && PyData.canLayAll0 (rowP cs)) = true
    rw [strOk_wd, lay_row cs]; rfl
theorem depth_row : ∀ cs : List W, PyData.depthAll (rowP cs) = 0
  | [] => by simp [rowP, PyData.depthAll]
  | c :: cs => by
    have := depth_row cs
    simp only [rowP, List.map_cons, PyData.depthAll, PyData.depth] at this ⊢
    rw [this]; rfl
theorem shaped_row {cs : List W} : SeqAt.shaped (.tuple (rowP cs)) = true := by
  unfold SeqAt.shaped; rw [PyData.canLay0, lay_row, PyData.depth, depth_row]; rfl
theorem eqv_row : ∀ {as bs : List W}, PyData.eqvAll (rowP as) (rowP bs) = decide (as = bs)
  | [], [] => by simp [rowP, PyData.eqvAll]
  | [], _ :: _ => by simp [rowP, PyData.eqvAll]
  | _ :: _, [] => by simp [rowP, PyData.eqvAll]
  | a :: as, b :: bs => by
    have ih := eqv_row (as := as) (bs := bs)
    simp only [rowP, List.map_cons, PyData.eqvAll, PyData.eqv] at ih ⊢
    rw [ih]
    have : (wd a == wd b) = decide (a = b) := by rw [← wd_eq]; rfl
    rw [this, Bool.eq_iff_iff]
    simp
theorem wp_eqRow {as bs : List W} (q : Q (.bl (decide (as = bs))) h) : WP (oEq false (.tup (rowD as)) (.tup (rowD bs)) h) Q E := by
  refine wp_eqT (deep_tup (mapO_row _)) (deep_tup (mapO_row _)) (by rw [shaped_row, shaped_row]; rfl) ?_
  rw [PyData.eqv, eqv_row]; exact q
theorem wp_neRow {as bs : List W} (q : Q (.bl (!decide (as = bs))) h) : WP (oEq true (.tup (rowD as)) (.tup (rowD bs)) h) Q E := by
  refine wp_eqT (deep_tup (mapO_row _)) (deep_tup (mapO_row _)) (by rw [shaped_row, shaped_row]; rfl) ?_
  rw [PyData.eqv, eqv_row]; exact q
/-- the row is empty -/
theorem wp_eqRow0 {as : List W} (q : Q (.bl (decide (as = []))) h) : WP (oEq false (.tup (rowD as)) (.tup []) h) Q E := wp_eqRow (bs := []) q
theorem wp_neRow0 {as : List W} (q : Q (.bl (!decide (as = []))) h) : WP (oEq true (.tup (rowD as)) (.tup []) h) Q E := wp_neRow (bs := []) q
theorem wp_eqB0 {a b : Bool} {neg : Bool} (q : Q (.bl (if neg then !(a == b) else (a == b))) h) : WP (oEq neg (.bl a) (.bl b) h) Q E := by
  refine wp_eqD (x := .bl a) (y := .bl b) (a := .bool a) (b := .bool b) rfl rfl ?_ ?_
  · unfold SeqAt.shaped; simp only [PyData.canLay0, PyData.depth]; rfl
  · simp only [PyData.eqv]; exact q
theorem wp_eqB {a b : Bool} (q : Q (.bl (a == b)) h) : WP (oEq false (.bl a) (.bl b) h) Q E := wp_eqB0 q
theorem wp_neB {a b : Bool} (q : Q (.bl (!(a == b))) h) : WP (oEq true (.bl a) (.bl b) h) Q E := wp_eqB0 q
theorem br_kt {ks : List Kd} {k : Kd} {P P' : Prop} (e : (ks.any fun t => k.is t) = true) (p : P) : Br (ks.any fun t => k.is t) P P' := br_t e p
theorem br_kf {ks : List Kd} {k : Kd} {P P' : Prop} (e : (ks.any fun t => k.is t) = false) (p : P') : Br (ks.any fun t => k.is t) P P' := br_f e p
/-- a comprehension over a source of f's values -/
theorem wp_compF {α : Type} {s : Src} {vs : List Nat} {t e : EX} (f : α → D) (js : List α) (p : α → Bool) (v : α → D) (gv : Gives s h (js.map f)) (hl : js.length < 1000000)
    (is : ∀ a ∈ js, ∀ h1, Ext [] h h1 → ∃ r1, tgt vs (f a) r = some r1 ∧ WP (t r1 h1) (fun x h2 => Tr x h2 fun k => k = p a ∧ Ext [] h1 h2 ∧ (p a = true → WP (e r1 h2) (fun y h3 => y = v a ∧ Ext [] h2 h3) noE)) noE)
    (q : ∀ n h2, h.length ≤ n → Ext [] h h2 → h2[n]? = some (.lst ((js.filter p).map v)) → Q (.ref n) h2) :
    WP (compX s vs t e fuelN 0 [] r h) (NewL Q) E := by
  refine wp_comp (fun i => (js.map f).getD i .non) js.length (fun i acc h1 => acc = ((js.take i).filter p).map v ∧ Ext [] h h1) hl ⟨by simp, Ext.rfl'⟩ (fun acc h1 z => ⟨?_, ?_⟩) (fun i acc h1 l z => ?_)
  · rw [gv h1 z.2, List.getElem?_eq_none (by simp)]
  · intro n h2 l2 x2 a2
    refine q n h2 (Nat.le_trans z.2.1 l2) (z.2.trans x2) ?_
    rw [a2, z.1, List.take_of_length_le (Nat.le_refl _)]
  · have e1 : js[i]? = some js[i] := List.getElem?_eq_getElem l
    have e0 : (js.map f)[i]? = some (f js[i]) := by rw [List.getElem?_map, e1]; rfl
    have e' : (js.map f).getD i .non = f js[i] := by simp [List.getD, e0]
    rw [e']
    refine ⟨by rw [gv h1 z.2, e0], ?_⟩
    obtain ⟨r1, et, q⟩ := is js[i] (List.getElem_mem l) h1 z.2
    refine ⟨r1, et, wp_use q (fun x h2 q => ?_) (fun _ _ _ z => z)⟩
    have tk : js.take (i + 1) = js.take i ++ [js[i]] := by rw [List.take_succ, e1]; rfl
    unfold Tr at q ⊢
    match e3 : truth x h2 with
    | none => rw [e3] at q; exact q
    | some k =>
      rw [e3] at q
      obtain ⟨rfl, x2, q⟩ := q
      show Br (p js[i]) _ _
      refine br_s (fun c => ?_) (fun c => ?_)
      · refine wp_use (q c) (fun y h3 q => ?_) (fun _ _ _ z => z)
        obtain ⟨rfl, x3⟩ := q
        refine ⟨?_, ?_, (z.2.trans x2).trans x3⟩
        · rw [z.1, List.length_map]
          refine Nat.lt_of_le_of_lt (List.length_filter_le _ _) ?_
          rw [List.length_take]; unfold sizeLine; omega
        · rw [z.1, tk, List.filter_append, List.map_append]; simp [c]
      · refine ⟨?_, z.2.trans x2⟩
        rw [z.1, tk, List.filter_append, List.map_append]; simp [c]
/-- .. that takes all -/
theorem wp_mapF {α : Type} {s : Src} {vs : List Nat} {e : EX} (f : α → D) (js : List α) (v : α → D) (gv : Gives s h (js.map f)) (hl : js.length < 1000000)
    (is : ∀ a ∈ js, ∀ h1, Ext [] h h1 → ∃ r1, tgt vs (f a) r = some r1 ∧ WP (e r1 h1) (fun y h3 => y = v a ∧ Ext [] h1 h3) noE)
    (q : ∀ n h2, h.length ≤ n → Ext [] h h2 → h2[n]? = some (.lst (js.map v)) → Q (.ref n) h2) :
    WP (compX s vs (eC (.bl true)) e fuelN 0 [] r h) (NewL Q) E := by
  refine wp_compF f js (fun _ => true) v gv hl ?_ ?_
  · intro a m h1 x1
    obtain ⟨r1, e1, w⟩ := is a m h1 x1
    exact ⟨r1, e1, wp_eC ⟨rfl, Ext.rfl', fun _ => w⟩⟩
  · intro n h2 l x a
    rw [List.filter_eq_self.2 (fun _ _ => rfl)] at a
    exact q n h2 l x a
/-! t.index(x) -/
def TupAt (x : D) (P : List D → Prop) : Prop := ∃ xs, x = .tup xs ∧ (strsD xs).isSome = true ∧ P xs
theorem strs_row : ∀ cs : List W, strsD (rowD cs) = some (cs.map wd)
  | [] => rfl
  | c :: cs => by
    show (strsD (rowD cs)).map (wd c :: ·) = _
    rw [strs_row cs]; rfl
theorem tupat {cs : List W} {P : List D → Prop} (p : P (rowD cs)) : TupAt (.tup (rowD cs)) P := ⟨_, rfl, by rw [strs_row]; rfl, p⟩
theorem wp_eTM {op : D → List D → LH → R D} {o : EX} {a : AX} (q : WP (o r h) (fun x h1 => TupAt x fun xs => WP (a r h1) (fun ds h2 => WP (op (.tup xs) ds h2) Q E) E) E) : WP (eTM op o a r h) Q E :=
  wp_bind (wp_use q (fun x h1 z => by
    obtain ⟨xs, rfl, e, z⟩ := z
    simp only [if_pos e]; exact wp_bind z) (fun _ _ _ z => z))
theorem find_row {c : W} : ∀ {cs : List W}, (cs.map wd).findIdx? (fun y => decide (y = wd c)) = if c ∈ cs then some (cs.idxOf c) else none
  | [] => by simp
  | a :: cs => by
    have ih := find_row (c := c) (cs := cs)
    rw [List.map_cons, List.findIdx?_cons, wd_eq]
    by_cases e : a = c
    · subst e; simp
    · have e2 : ¬ c = a := fun z => e z.symm
      rw [decide_eq_false e]
      simp only [Bool.false_eq_true, if_false, List.mem_cons, e2, false_or]
      rw [ih]
      by_cases m : c ∈ cs
      · simp only [if_pos m, Option.map_some, List.idxOf_cons]
        have : (a == c) = false := by simpa using e
        rw [this]; rfl
      · simp only [if_neg m, Option.map_none]
theorem wp_tupIx {c : W} {cs : List W} (m : c ∈ cs) (q : Q (.int (cs.idxOf c : Nat)) h) : WP (mTupIx (.tup (rowD cs)) [.str (wd c)] h) Q E := by
  simp only [mTupIx, strs_row, find_row, if_pos m]; exact q
theorem atI_last0 {xs : List D} {d : D} (e : xs.getLast? = some d) : L2.atI xs (-1) = some d := by
  have ne : xs ≠ [] := fun z => by subst z; exact nomatch e
  have l : 0 < xs.length := List.length_pos_iff.2 ne
  unfold L2.atI L2.ixN
  rw [if_neg (by omega), if_pos (by omega)]
  have : (-1 + (xs.length : Int)).toNat = xs.length - 1 := by omega
  rw [this, Option.bind_some, ← List.getLast?_eq_getElem?]; exact e
theorem row_last {cs : List W} {c : W} (e : cs.getLast? = some c) : (rowD cs).getLast? = some (.str (wd c)) := by
  unfold rowD; rw [List.getLast?_map, e]; rfl
theorem row_head {cs : List W} {c : W} (e : cs.head? = some c) : (rowD cs)[0]? = some (.str (wd c)) := by
  rw [row_at]; cases cs with
  | nil => exact nomatch e
  | cons a r => simp at e; subst e; rfl
theorem some_last {cs : List W} {c : W} (m : c ∈ cs) : ∃ d, cs.getLast? = some d := by
  cases e : cs.getLast? with
  | some d => exact ⟨d, rfl⟩
  | none => rw [List.getLast?_eq_none_iff] at e; subst e; exact nomatch m
theorem some_head {cs : List W} (m : ¬ cs = []) : ∃ d, cs.head? = some d := by
  cases cs with
  | nil => exact absurd rfl m
  | cons a r => exact ⟨a, rfl⟩
theorem wp_lastW {c : W} {cs : List W} (m : c ∈ cs) (q : ∀ d, cs.getLast? = some d → Q (.str (wd d)) h) : WP (oIx (.tup (rowD cs)) (.int (-1)) h) Q E := by
  obtain ⟨d, e⟩ := some_last m
  exact wp_ix rfl (atI_last0 (row_last e)) (q d e)
theorem wp_headW {cs : List W} (m : ¬ cs = []) (q : ∀ d, cs.head? = some d → Q (.str (wd d)) h) : WP (oIx (.tup (rowD cs)) (.int 0) h) Q E := by
  obtain ⟨d, e⟩ := some_head m
  exact wp_ix (i := ((0 : Nat) : Int)) rfl (L2.atI_nat (row_head e)) (q d e)
/-! dicts -/
theorem len_put (kvs : List (Ky × D)) (k : Ky) (v : D) : (putD kvs k v).length ≤ kvs.length + 1 := by
  unfold putD
  split
  · simp
  · simp
theorem len_merge : ∀ (more kvs : List (Ky × D)), (mergeD kvs more).length ≤ kvs.length + more.length
  | [], kvs => by show kvs.length ≤ _; simp
  | p :: more, kvs => by
    have h1 := len_merge more (putD kvs p.1 p.2)
    have h2 := len_put kvs p.1 p.2
    show (mergeD (putD kvs p.1 p.2) more).length ≤ _
    rw [List.length_cons]; omega
theorem len_merge0 (kvs : List (Ky × D)) : (mergeD [] kvs).length ≤ kvs.length := by
  have := len_merge kvs []; simpa using this
theorem wp_dg {n : Nat} {x : Str} {kvs : List (Ky × D)} {d : D} (e : h[n]? = some (.dct kvs)) (k : valD kvs (.inr x) = some d) (q : Q d h) : WP (oDg (.ref n) (.str x) h) Q E := by
  simp only [oDg, dctR, e, keyD, k]; exact q
theorem wp_bDict {n : Nat} {kvs : List (Ky × D)} (e : h[n]? = some (.dct kvs)) (q : ∀ n h1, h.length ≤ n → Ext [] h h1 → h1[n]? = some (.dct kvs) → Q (.ref n) h1) : WP (bDict [.ref n] h) Q E := by
  simp only [bDict, dctR, e]; exact wp_new q
theorem wp_eDnew (q : ∀ n h1, h.length ≤ n → Ext [] h h1 → h1[n]? = some (.dct []) → Q (.ref n) h1) : WP (eDnew r h) Q E := wp_new q
def Pairs (ps : List (EX × EX)) (r : LS) (h : LH) (P : List (Ky × D) → LH → Prop) (E : EP) : Prop := WP (pairsX ps r h) P E
def KeyAt (x : D) (P : Ky → Prop) : Prop := ∃ k, keyD x = some k ∧ P k
theorem keyat_s {x : Str} {P : Ky → Prop} (p : P (.inr x)) : KeyAt (.str x) P := ⟨_, rfl, p⟩
theorem pairs_nil {P : List (Ky × D) → LH → Prop} (p : P [] h) : Pairs [] r h P E := p
theorem pairs_cons {a b : EX} {ps : List (EX × EX)} {P : List (Ky × D) → LH → Prop} (p : WP (a r h) (fun x h1 => WP (b r h1) (fun y h2 => KeyAt x fun k => Pairs ps r h2 (fun kvs h3 => P ((k, y) :: kvs) h3) E) E) E) : Pairs ((a, b) :: ps) r h P E :=
  wp_bind (wp_use p (fun x h1 z => wp_bind (wp_use z (fun y h2 z => by
    obtain ⟨k, e, z⟩ := z
    simp only [e]; exact wp_bind z) (fun _ _ _ z => z))) (fun _ _ _ z => z))
theorem wp_eDisp {ps : List (EX × EX)} (q : ∀ n h0, h.length ≤ n → Ext [] h h0 → h0[n]? = some (.dct []) → Pairs ps r h0 (fun kvs h1 => Need (kvs.length ≤ 15) (h1[n]? = some (.dct []) ∧ ∀ h2, Ext [n] h1 h2 → h2[n]? = some (.dct (mergeD [] kvs)) → (mergeD [] kvs).length ≤ kvs.length → Q (.ref n) h2)) E) : WP (eDisp ps r h) Q E := by
  have q0 := q h.length (h ++ [.dct []]) (Nat.le_refl _) ext_push at_push
  unfold Pairs at q0
  refine wp_bind (wp_use q0 (fun kvs h1 z => ?_) (fun _ _ _ z => z))
  obtain ⟨l, e, q⟩ := z
  simp only [e, if_pos l]
  exact q _ ext_set (at_set e) (len_merge0 kvs)
def DputAt (d x y : D) (r : LS) (h : LH) (N : NP) : Prop := ∃ n s kvs, x = .ref n ∧ y = .str s ∧ h[n]? = some (.dct kvs) ∧ kvs.length < sizeLine ∧ ∀ h1, Ext [n] h h1 → h1[n]? = some (.dct (putD kvs (.inr s) d)) → (putD kvs (.inr s) d).length ≤ kvs.length + 1 → N r h1
theorem lt_line {n : Nat} (l : n ≤ 10000) : n < sizeLine := by unfold sizeLine; omega
/-! defs as values -/
def FnAt (x : D) (P : Str → Prop) : Prop := ∃ n, x = .fn n ∧ P n
theorem fnat {n : Str} {P : Str → Prop} (p : P n) : FnAt (.fn n) P := ⟨n, rfl, p⟩
theorem wp_eCallV {tab : Str → Option KF} {o : EX} {a : AX} (q : WP (o r h) (fun x h1 => FnAt x fun n => ∃ op, tab n = some op ∧ WP (a r h1) (fun ds h2 => WP (op ds [] h2) Q E) E) E) : WP (eCallV tab o a r h) Q E :=
  wp_bind (wp_use q (fun x h1 z => by
    obtain ⟨n, rfl, op, e, z⟩ := z
    simp only [e]; exact wp_bind z) (fun _ _ _ z => z))
end
end Ev

set_option Elab.async false
set_option linter.all false
set_option maxRecDepth 100000
set_option maxHeartbeats 4000000
namespace Lw
open PySem PySem.Spec PyProof.Rows L2 Py
def top (i : Nat) : Stmt := PySem.Challenge.pw_chargeways_k92_lines_of_deeds.main.body.getD i (.Pass ⟨0, 0, 0, 0⟩)
abbrev s__law_draw : Stmt := top 17
abbrev s__law_pick : Stmt := top 18
abbrev s__law_lots : Stmt := top 19
abbrev s__law_number : Stmt := top 20
abbrev s__law_act : Stmt := top 21
abbrev s__law_spelled : Stmt := top 22
abbrev s__law_heard : Stmt := top 26
abbrev s_is_integer : Stmt := top 1
abbrev s_is_deed : Stmt := top 8
abbrev s_line_of : Stmt := top 13
abbrev s__law_integer : Stmt := top 23
abbrev s__law_read : Stmt := top 24
abbrev s_number_of : Stmt := top 12
abbrev s_read_deed : Stmt := top 14
abbrev s__law_line_right : Stmt := top 29
abbrev s__law_odd_acts : Stmt := top 27
abbrev s__law_act_right : Stmt := top 28
abbrev s__law_bent : Stmt := top 25
abbrev s__law_right : Stmt := top 30
abbrev s__law_pot : Stmt := top 16
abbrev s_law : Stmt := top 31
abbrev s_InvalidDeed___init__ : Stmt := inClass (top 4) 0
abbrev s_InvalidText___init__ : Stmt := inClass (top 5) 0
def ar_line_of_deed {α : Type} : List α → List α → List α
  | [], [x0] => [x0]
  | _, _ => []
def ar_read_deed_line {α : Type} : List α → List α → List α
  | [], [x0] => [x0]
  | _, _ => []
/-! ### the program as combinators -/
def t_DEED_NUMBERS : Tb := [("group", 1), ("limit", 2), ("strike", 1), ((wd 12), 2), ((wd 13), 2), ((wd 14), 3), ((wd 15), 2), ((wd 16), 2), ("step", 1)]
def mt_InvalidDeed : Nat → Option Bool
  | 0 => some true
  | 1 => some false
  | _ => none
theorem mt_InvalidDeed_one : ∀ c, mt_InvalidDeed c = some true → c = 0 := by
  intro c e
  unfold mt_InvalidDeed at e
  split at e <;> first | rfl | exact nomatch e
def mt_InvalidText : Nat → Option Bool
  | 0 => some false
  | 1 => some true
  | _ => none
theorem mt_InvalidText_one : ∀ c, mt_InvalidText c = some true → c = 1 := by
  intro c e
  unfold mt_InvalidText at e
  split at e <;> first | rfl | exact nomatch e
def b__law_draw : SX := (sSeq (sIf (e2 oGt (e2 oIx (eV 0) (eC (.int 0))) (eC (.int 0))) (sSeq (sAsg (eA bDivmod (aCons (e2 oIx (eV 0) (eC (.int 0))) (aCons (eV 1) aNil))) (gT 2 (gsCons (Py.gSub (eV 0) (eC (.int 0))) (gsCons (gN 2) gsNil)))) (sSeq (sRet (eV 2)) sNil)) sNil) (sSeq (sAsg (e2 oMod (eA bIntS (aCons (e2 oAdd (e2 oMul (e2 oIx (eV 0) (eC (.int 1))) (eC (.int 40009))) (eC (.int 17011))) aNil)) (eC (.int 2147483549))) (Py.gSub (eV 0) (eC (.int 1)))) (sSeq (sRet (e2 oMod (eA bIntS (aCons (e2 oDiv (e2 oMod (eA bIntS (aCons (e2 oMul (e2 oIx (eV 0) (eC (.int 1))) (e2 oIx (eV 0) (eC (.int 1)))) aNil)) (eC (.int 2147483587))) (eC (.int 11))) aNil)) (eV 1))) sNil)))
def f__law_draw : CF := runF 2 1 b__law_draw
def b__law_pick : SX := (sSeq (sRet (e2 oIx (eV 1) (eCall (opF 2 0 bd0 f__law_draw) (aCons (eV 0) (aCons (eA bLen (aCons (eV 1) aNil)) aNil)) aNil))) sNil)
def f__law_pick : CF := runF 2 0 b__law_pick
def b__law_lots : SX := (sSeq (sRet (eDisp [((eC (.str "group")), (eC (.int 1))), ((eC (.str "limit")), (eC (.int 2))), ((eC (.str "strike")), (eC (.int 1))), ((eC (.str (wd 12))), (eC (.int 2))), ((eC (.str (wd 13))), (eC (.int 2))), ((eC (.str (wd 14))), (eC (.int 3))), ((eC (.str (wd 15))), (eC (.int 2))), ((eC (.str (wd 16))), (eC (.int 2))), ((eC (.str "step")), (eC (.int 1)))])) sNil)
def f__law_lots : CF := runF 0 0 b__law_lots
def b__law_number : SX := (sSeq (sAsg (eCall (opF 2 0 bd0 f__law_pick) (aCons (eV 0) (aCons (eLst (aCons (e2 oPow (eC (.int 10)) (eC (.int 38))) (aCons (e2 oSub (e2 oPow (eC (.int 10)) (eC (.int 39))) (eC (.int 1))) (aCons (e2 oAdd (e2 oPow (eC (.int 10)) (eC (.int 12))) (eC (.int 7))) (aCons (eC (.int 100)) (aCons (eC (.int 10)) aNil)))))) aNil)) aNil) (gN 1)) (sSeq (sAsg (eCall (opF 2 0 bd0 f__law_draw) (aCons (eV 0) (aCons (eC (.int 1000)) aNil)) aNil) (gN 2)) (sSeq (sRet (eCall (opF 2 0 bd0 f__law_pick) (aCons (eV 0) (aCons (eLst (aCons (eC (.int 0)) (aCons (eC (.int 0)) (aCons (eC (.int 1)) (aCons (eC (.int 2)) (aCons (eC (.int 7)) (aCons (eC (.int 10)) (aCons (e1 oNeg (eC (.int 1))) (aCons (e1 oNeg (eC (.int 10))) (aCons (eV 1) (aCons (e2 oSub (eC (.int 0)) (eV 1)) (aCons (eV 2) (aCons (e2 oSub (eC (.int 0)) (e2 oMul (eV 2) (e2 oPow (eC (.int 10)) (eC (.int 6))))) aNil))))))))))))) aNil)) aNil)) sNil)))
def f__law_number : CF := runF 1 2 b__law_number
def b__law_act : SX := (sSeq (sAsg (eCall (opF 2 0 bd0 f__law_pick) (aCons (eV 0) (aCons (eA bListK (aCons (eCall (opF 0 0 bd0 f__law_lots) aNil aNil) aNil)) aNil)) aNil) (gN 1)) (sSeq (sAsg (e2 oAdd (eLst (aCons (eV 1) aNil)) (eComp [3] (Py.iRng1 (e2 oDg (eCall (opF 0 0 bd0 f__law_lots) aNil aNil) (eV 1))) (eC (.bl true)) (eCall (opF 1 0 bd0 f__law_number) (aCons (eV 0) aNil) aNil))) (gN 2)) (sSeq (sIf (eAnd (e2 (oEq false) (eV 1) (eC (.str "limit"))) (e2 (oEq false) (eCall (opF 2 0 bd0 f__law_draw) (aCons (eV 0) (aCons (eC (.int 3)) aNil)) aNil) (eC (.int 0)))) (sSeq (sAsg (eC .non) (Py.gSub (eV 2) (eC (.int 2)))) sNil) sNil) (sSeq (sRet (eA bTuple (aCons (eV 2) aNil))) sNil))))
def f__law_act : CF := runF 1 3 b__law_act
def b__law_spelled : SX := (sSeq (sRet (eJoinL (eC (.str " ")) (eComp [1] (iSeq (eV 0)) (eC (.bl true)) (eIf (e1 (oIsN false) (eV 1)) (eC (.str "none")) (eA bStr (aCons (eV 1) aNil)))))) sNil)
def f__law_spelled : CF := runF 1 1 b__law_spelled
def b__law_heard : (LH → R D) → SX := (lSeq (lTry (lMadeB "told" bRepK) [(mt_InvalidDeed, (some 1), fun _ fs => sRet (eLst (aCons (eC (.str "deed")) (aCons (eA bRepK (aCons (eXf 0 fs) aNil)) (aCons (eC (.bl true)) aNil))))), (mt_InvalidText, (some 1), fun _ fs => sRet (eLst (aCons (eC (.str "text")) (aCons (eA bRepK (aCons (eXf 1 fs) aNil)) (aCons (eC (.bl true)) aNil)))))]) sNil)
def b_is_integer : SX := (sSeq (sRet (eAndB (eIsi [.int] (eV 0)) (eNotB (eIsi [.bool] (eV 0))))) sNil)
def f_is_integer : CF := runF 1 0 b_is_integer
def b_is_deed : SX := (sSeq (sIf (eOr (eNot (eB (eIsi [.tuple] (eV 0)))) (eOr (e2 (oEq false) (eA bLen (aCons (eV 0) aNil)) (eC (.int 0))) (eNot (eB (eIsi [.str] (e2 oIx (eV 0) (eC (.int 0)))))))) (sSeq (sRet (eC (.bl false))) sNil) sNil) (sSeq (sIf (eOr (eTinF true t_DEED_NUMBERS (e2 oIx (eV 0) (eC (.int 0)))) (e2 (oEq true) (eA bLen (aCons (eV 0) aNil)) (e2 oAdd (eC (.int 1)) (eTix t_DEED_NUMBERS (e2 oIx (eV 0) (eC (.int 0))))))) (sSeq (sRet (eC (.bl false))) sNil) sNil) (sSeq (sIf (eAnd (e2 (oEq false) (e2 oIx (eV 0) (eC (.int 0))) (eC (.str "limit"))) (e1 (oIsN false) (e2 oIx (eV 0) (eC (.int 2))))) (sSeq (sRet (eCall (opF 1 0 bd0 f_is_integer) (aCons (e2 oIx (eV 0) (eC (.int 1))) aNil) aNil)) sNil) sNil) (sSeq (sRet (eA bAll (aCons (eComp [1] (iSeq (eSl (eV 0) (pSome (eC (.int 1))) pNo)) (eC (.bl true)) (eCall (opF 1 0 bd0 f_is_integer) (aCons (eV 1) aNil) aNil)) aNil))) sNil))))
def f_is_deed : CF := runF 1 1 b_is_deed
def b_line_of : SX := (sSeq (sIf (eNot (eB (eCall (opF 1 0 bd0 f_is_deed) (aCons (eV 0) aNil) aNil))) (sSeq (sRaise1 0 0 (eV 0)) sNil) sNil) (sSeq (sRet (eJoinL (eC (.str " ")) (e2 oAdd (eLst (aCons (e2 oIx (eV 0) (eC (.int 0))) aNil)) (eComp [1] (iSeq (eSl (eV 0) (pSome (eC (.int 1))) pNo)) (eC (.bl true)) (eIf (e1 (oIsN false) (eV 1)) (eC (.str "none")) (eA bStr (aCons (eV 1) aNil))))))) sNil))
def f_line_of : CF := runF 1 1 b_line_of
def b__law_integer : SX := (sSeq (sAsg (eIf (e2 (oEq false) (eSlS (eV 0) pNo (pSome (eC (.int 1)))) (eC (.str "-"))) (eSlS (eV 0) (pSome (eC (.int 1))) pNo) (eV 0)) (gN 1)) (sSeq (sIf (eOr (e2 (oEq false) (eV 1) (eC (.str ""))) (eNot (eB (eA bAll (aCons (eComp [3] (Py.iStr (eV 1)) (eC (.bl true)) (e2 (oInS false) (eV 3) (eC (.str "0123456789")))) aNil))))) (sSeq (sRet (eC .non)) sNil) sNil) (sSeq (sIf (eAnd (e2 (oEq false) (e2 oIxS (eV 1) (eC (.int 0))) (eC (.str "0"))) (e2 (oEq true) (eV 0) (eC (.str "0")))) (sSeq (sRet (eC .non)) sNil) sNil) (sSeq (sAsg (eC (.int 0)) (gN 2)) (sSeq (sFor (Py.iStr (eV 1)) (gN 3) (sSeq (sAsg (e2 oAdd (e2 oMul (eC (.int 10)) (eV 2)) (eSIx (eC (.str "0123456789")) (eV 3))) (gN 2)) sNil)) (sSeq (sRet (eIf (e2 (oEq false) (eSlS (eV 0) pNo (pSome (eC (.int 1)))) (eC (.str "-"))) (e2 oSub (eC (.int 0)) (eV 2)) (eV 2))) sNil))))))
def f__law_integer : CF := runF 1 3 b__law_integer
def b__law_read : SX := (sSeq (sAsg (eSpl (eV 0) (eC (.str " "))) (gN 1)) (sSeq (sIf (eOr (e2 (oDin true) (e2 oIx (eV 1) (eC (.int 0))) (eCall (opF 0 0 bd0 f__law_lots) aNil aNil)) (e2 (oEq true) (eA bLen (aCons (eV 1) aNil)) (e2 oAdd (eC (.int 1)) (e2 oDg (eCall (opF 0 0 bd0 f__law_lots) aNil aNil) (e2 oIx (eV 1) (eC (.int 0))))))) (sSeq (sRet (eC .non)) sNil) sNil) (sSeq (sAsg (e2 oAdd (eLst (aCons (e2 oIx (eV 1) (eC (.int 0))) aNil)) (eComp [3] (iSeq (eSl (eV 1) (pSome (eC (.int 1))) pNo)) (eC (.bl true)) (eCall (opF 1 0 bd0 f__law_integer) (aCons (eV 3) aNil) aNil))) (gN 2)) (sSeq (sIf (eAnd (e2 (oEq false) (e2 oIx (eV 1) (eC (.int 0))) (eC (.str "limit"))) (e2 (oEq false) (e2 oIx (eV 1) (eC (.int 2))) (eC (.str "none")))) (sSeq (sRet (eIf (e1 (oIsN false) (e2 oIx (eV 2) (eC (.int 1)))) (eC .non) (eTup (aCons (e2 oIx (eV 1) (eC (.int 0))) (aCons (e2 oIx (eV 2) (eC (.int 1))) (aCons (eC .non) aNil)))))) sNil) sNil) (sSeq (sRet (eIf (e2 (oIn false) (eC .non) (eV 2)) (eC .non) (eA bTuple (aCons (eV 2) aNil)))) sNil)))))
def f__law_read : CF := runF 1 3 b__law_read
def b_number_of : SX := (sSeq (sAsg (eIf (e2 (oEq false) (eSlS (eV 0) pNo (pSome (eC (.int 1)))) (eC (.str "-"))) (eSlS (eV 0) (pSome (eC (.int 1))) pNo) (eV 0)) (gN 1)) (sSeq (sIf (eOr (e2 (oEq false) (eV 1) (eC (.str ""))) (eNot (eB (eA bAll (aCons (eComp [2] (Py.iStr (eV 1)) (eC (.bl true)) (e2 (oInS false) (eV 2) (eC (.str "0123456789")))) aNil))))) (sSeq (sRet (eC .non)) sNil) sNil) (sSeq (sIf (eAnd (e2 (oEq false) (e2 oIxS (eV 1) (eC (.int 0))) (eC (.str "0"))) (e2 (oEq true) (eV 0) (eC (.str "0")))) (sSeq (sRet (eC .non)) sNil) sNil) (sSeq (sRet (eA bIntS (aCons (eV 0) aNil))) sNil))))
def f_number_of : CF := runF 1 2 b_number_of
def b_read_deed : SX := (sSeq (sIf (eNot (eB (eIsi [.str] (eV 0)))) (sSeq (sRaise1 1 1 (eC (.int 1))) sNil) sNil) (sSeq (sAsg (eSpl (eV 0) (eC (.str " "))) (gN 1)) (sSeq (sAsg (eComp [4] (iSeq (eSl (eV 1) (pSome (eC (.int 1))) pNo)) (eC (.bl true)) (eIf (e2 (oEq false) (eV 4) (eC (.str "none"))) (eC .non) (eCall (opF 1 0 bd0 f_number_of) (aCons (eV 4) aNil) aNil))) (gN 2)) (sSeq (sAsg (eTup (aCons (e2 oIx (eV 1) (eC (.int 0))) (aStar (eV 2) aNil))) (gN 3)) (sSeq (sIf (eOr (eNot (eB (eCall (opF 1 0 bd0 f_is_deed) (aCons (eV 3) aNil) aNil))) (e2 (oEq true) (eCall (opF 1 0 bd0 f_line_of) (aCons (eV 3) aNil) aNil) (eV 0))) (sSeq (sRaise1 1 1 (eC (.int 1))) sNil) sNil) (sSeq (sRet (eV 3)) sNil))))))
def f_read_deed : CF := runF 1 4 b_read_deed
def b__law_line_right : SX := (sSeq (sAsg (eCall (opF 1 0 bd0 f__law_read) (aCons (eV 0) aNil) aNil) (gN 1)) (sSeq (sAsg (eIf (e1 (oIsN false) (eV 1)) (eLst (aCons (eC (.str "text")) (aCons (eC (.str "1")) (aCons (eC (.bl true)) aNil)))) (eLst (aCons (eC (.str "told")) (aCons (eA bRepK (aCons (eV 1) aNil)) aNil)))) (gN 2)) (sSeq (sIf (e2 (oEq true) (eTold 2 b__law_heard (eCall (opF 0 1 (fun a b => ar_read_deed_line a b) f_read_deed) aNil (aCons (eV 0) aNil))) (eV 2)) (sSeq (sRet (eC (.bl false))) sNil) sNil) (sSeq (sRet (e2 (oEq false) (eTold 2 b__law_heard (eCall (opF 1 0 bd0 f_read_deed) (aCons (eV 0) aNil) aNil)) (eV 2))) sNil))))
def f__law_line_right : CF := runF 1 2 b__law_line_right
def b__law_odd_acts : SX := (sSeq (sAsg (e2 oAdd (eC (.int 1)) (eCall (opF 2 0 bd0 f__law_draw) (aCons (eV 0) (aCons (e2 oSub (eA bLen (aCons (eV 1) aNil)) (eC (.int 1))) aNil)) aNil)) (gN 2)) (sSeq (sAsg (eLst (aCons (eC .non) (aCons (eC (.int 0)) (aCons (eC (.str "")) (aCons (e2 oIx (eV 1) (eC (.int 0))) (aCons (eCall (opF 1 0 bd0 f__law_spelled) (aCons (eV 1) aNil) aNil) (aCons (eA bListK (aCons (eV 1) aNil)) (aCons (eSl (eV 1) pNo (pSome (e1 oNeg (eC (.int 1))))) (aCons (e2 oAdd (eV 1) (eTup (aCons (eC (.int 0)) aNil))) (aCons (eTup aNil) (aCons (eTup (aCons (eV 1) aNil)) (aCons (eLst (aCons (eV 1) aNil)) (aCons eDnew (aCons (eSl (eV 1) (pSome (eC (.int 1))) pNo) aNil)))))))))))))) (gN 3)) (sSeq (sFor (iSeq (eLst (aCons (eC (.bl true)) (aCons (eC (.str "0")) (aCons (eTup (aCons (eC (.int 0)) aNil)) (aCons (eLst (aCons (eC (.int 1)) aNil)) (aCons (eC (.str "none")) (aCons (eC (.bl false)) aNil)))))))) (gN 4) (sSeq (sE (eBM mAppend (eV 3) (aCons (e2 oAdd (e2 oAdd (eSl (eV 1) pNo (pSome (eV 2))) (eTup (aCons (eV 4) aNil))) (eSl (eV 1) (pSome (e2 oAdd (eV 2) (eC (.int 1)))) pNo)) aNil))) sNil)) (sSeq (sE (eBM mExtend (eV 3) (aCons (eLst (aCons (e2 oAdd (eTup (aCons (eC .non) aNil)) (eSl (eV 1) (pSome (eC (.int 1))) pNo)) (aCons (e2 oAdd (eTup (aCons (eUp (e2 oIx (eV 1) (eC (.int 0)))) aNil)) (eSl (eV 1) (pSome (eC (.int 1))) pNo)) (aCons (e2 oAdd (eTup (aCons (eC (.str (wd 9))) aNil)) (eSl (eV 1) (pSome (eC (.int 1))) pNo)) (aCons (e2 oAdd (eTup (aCons (eC (.int 0)) aNil)) (eSl (eV 1) (pSome (eC (.int 1))) pNo)) aNil))))) aNil))) (sSeq (sIf (eOr (e2 (oEq true) (e2 oIx (eV 1) (eC (.int 0))) (eC (.str "limit"))) (e2 (oEq false) (eV 2) (eC (.int 1)))) (sSeq (sE (eBM mAppend (eV 3) (aCons (e2 oAdd (e2 oAdd (eSl (eV 1) pNo (pSome (eV 2))) (eTup (aCons (eC .non) aNil))) (eSl (eV 1) (pSome (e2 oAdd (eV 2) (eC (.int 1)))) pNo)) aNil))) sNil) sNil) (sSeq (sRet (eV 3)) sNil))))))
def f__law_odd_acts : CF := runF 2 3 b__law_odd_acts
def b__law_act_right : SX := (sSeq (sAsg (eCall (opF 1 0 bd0 f__law_spelled) (aCons (eV 1) aNil) aNil) (gN 2)) (sSeq (sIf (e2 (oEq true) (eTold 2 b__law_heard (eCall (opF 1 0 bd0 f_line_of) (aCons (eV 1) aNil) aNil)) (eLst (aCons (eC (.str "told")) (aCons (eA bRepK (aCons (eV 2) aNil)) aNil)))) (sSeq (sRet (eC (.bl false))) sNil) sNil) (sSeq (sIf (e2 (oEq true) (eTold 2 b__law_heard (eCall (opF 0 1 (fun a b => ar_line_of_deed a b) f_line_of) aNil (aCons (eV 1) aNil))) (eLst (aCons (eC (.str "told")) (aCons (eA bRepK (aCons (eV 2) aNil)) aNil)))) (sSeq (sRet (eC (.bl false))) sNil) sNil) (sSeq (sIf (eOr (eNot (eB (eCall (opF 1 0 bd0 f__law_line_right) (aCons (eV 2) aNil) aNil))) (e2 (oEq true) (eA bRepK (aCons (eCall (opF 1 0 bd0 f__law_read) (aCons (eV 2) aNil) aNil) aNil)) (eA bRepK (aCons (eV 1) aNil)))) (sSeq (sRet (eC (.bl false))) sNil) sNil) (sSeq (sFor (iSeq (eCall (opF 2 0 bd0 f__law_odd_acts) (aCons (eV 0) (aCons (eV 1) aNil)) aNil)) (gN 3) (sSeq (sIf (e2 (oEq true) (eTold 2 b__law_heard (eCall (opF 1 0 bd0 f_line_of) (aCons (eV 3) aNil) aNil)) (eLst (aCons (eC (.str "deed")) (aCons (eA bRepK (aCons (eV 3) aNil)) (aCons (eC (.bl true)) aNil))))) (sSeq (sRet (eC (.bl false))) sNil) sNil) sNil)) (sSeq (sRet (eC (.bl true))) sNil))))))
def f__law_act_right : CF := runF 2 2 b__law_act_right
def b__law_bent : SX := (sSeq (sPar 3 4 (aCons (eSpl (eV 1) (eC (.str " "))) (aCons (eCall (opF 2 0 bd0 f__law_draw) (aCons (eV 0) (aCons (eC (.int 9)) aNil)) aNil) aNil))) (sSeq (sAsg (eCall (opF 2 0 bd0 f__law_draw) (aCons (eV 0) (aCons (eA bLen (aCons (eV 3) aNil)) aNil)) aNil) (gN 2)) (sSeq (sIf (e2 (oEq false) (eV 4) (eC (.int 0))) (sSeq (sRet (eJoinL (eC (.str " ")) (e2 oAdd (eSl (eV 3) pNo (pSome (eV 2))) (eSl (eV 3) (pSome (e2 oAdd (eV 2) (eC (.int 1)))) pNo)))) sNil) sNil) (sSeq (sIf (e2 (oEq false) (eV 4) (eC (.int 1))) (sSeq (sRet (eJoinL (eC (.str " ")) (e2 oAdd (e2 oAdd (eSl (eV 3) pNo (pSome (eV 2))) (eLst (aCons (e2 oIx (eV 3) (eV 2)) aNil))) (eSl (eV 3) (pSome (eV 2)) pNo)))) sNil) sNil) (sSeq (sIf (e2 (oEq false) (eV 4) (eC (.int 2))) (sSeq (sRet (eJoinL (eC (.str " ")) (e2 oAdd (e2 oAdd (eSl (eV 3) pNo (pSome (eV 2))) (eLst (aCons (eC (.str "")) aNil))) (eSl (eV 3) (pSome (eV 2)) pNo)))) sNil) sNil) (sSeq (sIf (e2 (oEq false) (eV 4) (eC (.int 3))) (sSeq (sRet (e2 oAdd (eV 1) (eCall (opF 2 0 bd0 f__law_pick) (aCons (eV 0) (aCons (eLst (aCons (eC (.str " ")) (aCons (eC (.str "\n")) (aCons (eC (.str " 0")) (aCons (eC (.str "0")) (aCons (eC (.str ".")) (aCons (eC (.str " none")) aNil))))))) aNil)) aNil))) sNil) sNil) (sSeq (sIf (e2 (oEq false) (eV 4) (eC (.int 4))) (sSeq (sRet (e2 oAdd (eCall (opF 2 0 bd0 f__law_pick) (aCons (eV 0) (aCons (eLst (aCons (eC (.str " ")) (aCons (eC (.str "\n")) (aCons (eC (.str "0")) (aCons (eC (.str "-")) (aCons (eC (.str "s")) aNil)))))) aNil)) aNil) (eV 1))) sNil) sNil) (sSeq (sIf (e2 (oEq false) (eV 4) (eC (.int 5))) (sSeq (sAsg (eCall (opF 2 0 bd0 f__law_pick) (aCons (eV 0) (aCons (eLst (aCons (e2 oAdd (eC (.str "0")) (e2 oIx (eV 3) (eV 2))) (aCons (e2 oAdd (eC (.str "-")) (e2 oIx (eV 3) (eV 2))) (aCons (e2 oAdd (eC (.str "+")) (e2 oIx (eV 3) (eV 2))) (aCons (e2 oAdd (e2 oIx (eV 3) (eV 2)) (eC (.str "_0"))) (aCons (eSlS (e2 oIx (eV 3) (eV 2)) (pSome (eC (.int 1))) pNo) aNil)))))) aNil)) aNil) (gN 5)) (sSeq (sRet (eJoinL (eC (.str " ")) (e2 oAdd (e2 oAdd (eSl (eV 3) pNo (pSome (eV 2))) (eLst (aCons (eV 5) aNil))) (eSl (eV 3) (pSome (e2 oAdd (eV 2) (eC (.int 1)))) pNo)))) sNil)) sNil) (sSeq (sIf (e2 (oEq false) (eV 4) (eC (.int 6))) (sSeq (sAsg (eCall (opF 2 0 bd0 f__law_pick) (aCons (eV 0) (aCons (eLst (aCons (eC (.str "none")) (aCons (eC (.str "None")) (aCons (eC (.str "-0")) (aCons (eC (.str "00")) (aCons (eC (.str "0")) (aCons (eC (.str "1e3")) (aCons (eC (.str "1.0")) (aCons (eC (.str "x")) (aCons (eC (.str "Group")) (aCons (eC (.str (wd 9))) (aCons (eC (.str "work")) (aCons (eC (.str "limit")) aNil))))))))))))) aNil)) aNil) (gN 5)) (sSeq (sRet (eJoinL (eC (.str " ")) (e2 oAdd (e2 oAdd (eSl (eV 3) pNo (pSome (eV 2))) (eLst (aCons (eV 5) aNil))) (eSl (eV 3) (pSome (e2 oAdd (eV 2) (eC (.int 1)))) pNo)))) sNil)) sNil) (sSeq (sRet (e2 oAdd (eCall (opF 2 0 bd0 f__law_pick) (aCons (eV 0) (aCons (eA bListK (aCons (eCall (opF 0 0 bd0 f__law_lots) aNil aNil) aNil)) aNil)) aNil) (eSlS (eV 1) (pSome (eA bLen (aCons (e2 oIx (eV 3) (eC (.int 0))) aNil))) pNo))) sNil))))))))))
def f__law_bent : CF := runF 2 4 b__law_bent
def b__law_right : SX := (sSeq (sAsg (eComp [4] (Py.iRng1 (eC (.int 8))) (eC (.bl true)) (eCall (opF 1 0 bd0 f__law_act) (aCons (eV 0) aNil) aNil)) (gN 1)) (sSeq (sFor (iSeq (eV 1)) (gN 2) (sSeq (sIf (eNot (eB (eCall (opF 2 0 bd0 f__law_act_right) (aCons (eV 0) (aCons (eV 2) aNil)) aNil))) (sSeq (sRet (eC (.bl false))) sNil) sNil) (sSeq (sIf (eNot (eB (eA bAll (aCons (eComp [4] (Py.iRng1 (eC (.int 8))) (eC (.bl true)) (eCall (opF 1 0 bd0 f__law_line_right) (aCons (eCall (opF 2 0 bd0 f__law_bent) (aCons (eV 0) (aCons (eCall (opF 1 0 bd0 f__law_spelled) (aCons (eV 2) aNil) aNil) aNil)) aNil) aNil) aNil)) aNil)))) (sSeq (sRet (eC (.bl false))) sNil) sNil) sNil))) (sSeq (sFor (iSeq (eLst (aCons (eC .non) (aCons (eC (.int 0)) (aCons (eC (.bl true)) (aCons (eLst aNil) (aCons (eTup (aCons (eC (.str "step")) (aCons (eC (.int 0)) aNil))) (aCons (eLst (aCons (eC (.str "step 0")) aNil)) (aCons eDnew (aCons (eV 1) aNil)))))))))) (gN 3) (sSeq (sIf (e2 (oEq true) (eTold 2 b__law_heard (eCall (opF 1 0 bd0 f_read_deed) (aCons (eV 3) aNil) aNil)) (eLst (aCons (eC (.str "text")) (aCons (eC (.str "1")) (aCons (eC (.bl true)) aNil))))) (sSeq (sRet (eC (.bl false))) sNil) sNil) sNil)) (sSeq (sIf (eOr (eNot (eB (eCall (opF 1 0 bd0 f__law_line_right) (aCons (eC (.str "")) aNil) aNil))) (eOr (eNot (eB (eCall (opF 1 0 bd0 f__law_line_right) (aCons (eC (.str "step")) aNil) aNil))) (eNot (eB (eCall (opF 1 0 bd0 f__law_line_right) (aCons (eC (.str (wd 9))) aNil) aNil))))) (sSeq (sRet (eC (.bl false))) sNil) sNil) (sSeq (sRet (eCall (opF 2 0 bd0 f__law_act_right) (aCons (eV 0) (aCons (e2 oIx (eV 1) (eC (.int 0))) aNil)) aNil)) sNil)))))
def f__law_right : CF := runF 1 4 b__law_right
def b__law_pot : SX := (sSeq (sAsg (e2 oAdd (e2 oMul (eC (.int 17)) (eV 1)) (eC (.int 11))) (gN 2)) (sSeq (sIf (e2 oLt (eV 1) (eA bLen (aCons (eV 0) aNil))) (sSeq (sAsg (eA bAbs (aCons (e2 oIx (eV 0) (eV 1)) aNil)) (gN 2)) sNil) sNil) (sSeq (sRet (eLst (aCons (eA bMax (aCons (eC (.int 0)) (aCons (e2 oSub (eV 2) (e2 oPow (eC (.int 10)) (eC (.int 18)))) aNil))) (aCons (e2 oAdd (e2 oMod (e2 oMul (eA bIntS (aCons (e2 oAdd (e2 oMod (eA bIntS (aCons (eV 2) aNil)) (eC (.int 2147483543))) (eC (.int 7))) aNil)) (e2 oPow (e2 oAdd (e2 oMul (eC (.int 2)) (eV 1)) (eC (.int 3))) (eC (.int 3)))) (eC (.int 2147483489))) (eC (.int 1))) aNil)))) sNil)))
def f__law_pot : CF := runF 2 1 b__law_pot
def b_law : SX := (sSeq (sRet (eA bAll (aCons (eComp [1] (Py.iRng1 (eA bMax (aCons (eC (.int 1)) (aCons (eA bMin (aCons (eA bLen (aCons (eV 0) aNil)) (aCons (eC (.int 3)) aNil))) aNil)))) (eC (.bl true)) (eCall (opF 1 0 bd0 f__law_right) (aCons (eCall (opF 2 0 bd0 f__law_pot) (aCons (eV 0) (aCons (eV 1) aNil)) aNil) aNil) aNil)) aNil))) sNil)
def f_law : CF := runF 1 1 b_law
/-! ### names -/
def nmF : Nat → Str
  | 0 => "value"
  | 1 => "line"
  | _ => ""
theorem nm_inj : ∀ i, i < 2 → ∀ j, j < 2 → nmF i = nmF j → i = j := by decide +kernel
def mkG (C_InvalidDeed C_InvalidText C_WayError c__law_act_right_ P__law_act_right_ c__law_line_right_ P__law_line_right_ c__law_right_ P__law_right_ : Addr) : Gam := ⟨fun i => match i with | 0 => C_InvalidDeed | 1 => C_InvalidText | _ => 0, nmF, 2, fun i j hi hj e => nm_inj i hi j hj e, [(P__law_act_right_, ("_law_act_right" ++ ".<locals>.") ++ "<lambda>"), (P__law_line_right_, ("_law_line_right" ++ ".<locals>.") ++ "<lambda>"), (P__law_right_, ("_law_right" ++ ".<locals>.") ++ "<lambda>")]⟩
structure Bx (base : Heap) (mg : Str → Option Value) (C_InvalidDeed C_InvalidText C_WayError c__law_act_right_ P__law_act_right_ c__law_line_right_ P__law_line_right_ c__law_right_ P__law_right_ : Addr) : Prop where
  b__law_act_right : LamX.TabB base mg c__law_act_right_ P__law_act_right_
  b__law_line_right : LamX.TabB base mg c__law_line_right_ P__law_line_right_
  b__law_right : LamX.TabB base mg c__law_right_ P__law_right_
theorem sc__law_draw : FnScope ["_law_pot_here", "_law_sides", "_law_digit"] ["_law_pot_here", "_law_sides"] (defScope s__law_draw) := ⟨rfl, rfl, rfl, by decide +kernel, rfl, by decide +kernel, by decide +kernel⟩
theorem sc__law_pick : FnScope ["_law_pot_here", "_law_some"] ["_law_pot_here", "_law_some"] (defScope s__law_pick) := ⟨rfl, rfl, rfl, by decide +kernel, rfl, by decide +kernel, by decide +kernel⟩
theorem sc__law_lots : FnScope [] [] (defScope s__law_lots) := ⟨rfl, rfl, rfl, by decide +kernel, rfl, by decide +kernel, by decide +kernel⟩
theorem sc__law_number : FnScope ["_law_pot_here", "_law_far", "_law_near"] ["_law_pot_here"] (defScope s__law_number) := ⟨rfl, rfl, rfl, by decide +kernel, rfl, by decide +kernel, by decide +kernel⟩
theorem sc__law_act : FnScope ["_law_pot_here", "_law_word", "_law_found", "_law_turn"] ["_law_pot_here"] (defScope s__law_act) := ⟨rfl, rfl, rfl, by decide +kernel, rfl, by decide +kernel, by decide +kernel⟩
theorem sc__law_spelled : FnScope ["_law_act_here", "_law_part"] ["_law_act_here"] (defScope s__law_spelled) := ⟨rfl, rfl, rfl, by decide +kernel, rfl, by decide +kernel, by decide +kernel⟩
theorem sc__law_heard : FnScope ["_law_ask", "e"] ["_law_ask"] (defScope s__law_heard) := ⟨rfl, rfl, rfl, by decide +kernel, rfl, by decide +kernel, by decide +kernel⟩
theorem sc_is_integer : FnScope ["value"] ["value"] (defScope s_is_integer) := ⟨rfl, rfl, rfl, by decide +kernel, rfl, by decide +kernel, by decide +kernel⟩
theorem sc_is_deed : FnScope ["value", "number"] ["value"] (defScope s_is_deed) := ⟨rfl, rfl, rfl, by decide +kernel, rfl, by decide +kernel, by decide +kernel⟩
theorem sc_line_of : FnScope ["deed", "part"] ["deed"] (defScope s_line_of) := ⟨rfl, rfl, rfl, by decide +kernel, rfl, by decide +kernel, by decide +kernel⟩
theorem sc__law_integer : FnScope ["_law_word", "_law_digits", "_law_total", "_law_sign"] ["_law_word"] (defScope s__law_integer) := ⟨rfl, rfl, rfl, by decide +kernel, rfl, by decide +kernel, by decide +kernel⟩
theorem sc__law_read : FnScope ["_law_spelled_here", "_law_words", "_law_found", "_law_word"] ["_law_spelled_here"] (defScope s__law_read) := ⟨rfl, rfl, rfl, by decide +kernel, rfl, by decide +kernel, by decide +kernel⟩
theorem sc_number_of : FnScope ["word", "digits", "digit"] ["word"] (defScope s_number_of) := ⟨rfl, rfl, rfl, by decide +kernel, rfl, by decide +kernel, by decide +kernel⟩
theorem sc_read_deed : FnScope ["line", "words", "parts", "deed", "word"] ["line"] (defScope s_read_deed) := ⟨rfl, rfl, rfl, by decide +kernel, rfl, by decide +kernel, by decide +kernel⟩
theorem sc__law_line_right : FnScope ["_law_spelled_here", "_law_act_here", "_law_wanted"] ["_law_spelled_here"] (defScope s__law_line_right) := ⟨rfl, rfl, rfl, by decide +kernel, rfl, by decide +kernel, by decide +kernel⟩
theorem sc__law_odd_acts : FnScope ["_law_pot_here", "_law_act_here", "_law_at", "_law_found", "_law_part"] ["_law_pot_here", "_law_act_here"] (defScope s__law_odd_acts) := ⟨rfl, rfl, rfl, by decide +kernel, rfl, by decide +kernel, by decide +kernel⟩
theorem sc__law_act_right : FnScope ["_law_pot_here", "_law_act_here", "_law_spelled_here", "_law_odd"] ["_law_pot_here", "_law_act_here"] (defScope s__law_act_right) := ⟨rfl, rfl, rfl, by decide +kernel, rfl, by decide +kernel, by decide +kernel⟩
theorem sc__law_bent : FnScope ["_law_pot_here", "_law_spelled_here", "_law_at", "_law_words", "_law_option", "_law_fresh"] ["_law_pot_here", "_law_spelled_here"] (defScope s__law_bent) := ⟨rfl, rfl, rfl, by decide +kernel, rfl, by decide +kernel, by decide +kernel⟩
theorem sc__law_right : FnScope ["_law_pot_here", "_law_acts", "_law_act_here", "_law_odd", "_law_turn"] ["_law_pot_here"] (defScope s__law_right) := ⟨rfl, rfl, rfl, by decide +kernel, rfl, by decide +kernel, by decide +kernel⟩
theorem sc__law_pot : FnScope ["_law_script", "_law_k", "_law_cell"] ["_law_script", "_law_k"] (defScope s__law_pot) := ⟨rfl, rfl, rfl, by decide +kernel, rfl, by decide +kernel, by decide +kernel⟩
theorem sc_law : FnScope ["_law_script", "_law_k"] ["_law_script"] (defScope s_law) := ⟨rfl, rfl, rfl, by decide +kernel, rfl, by decide +kernel, by decide +kernel⟩
theorem sc_InvalidDeed___init__ : FnScope ["self", "value"] ["self", "value"] (defScope s_InvalidDeed___init__) := ⟨rfl, rfl, rfl, by decide +kernel, rfl, by decide +kernel, by decide +kernel⟩
theorem sc_InvalidText___init__ : FnScope ["self", "line"] ["self", "line"] (defScope s_InvalidText___init__) := ⟨rfl, rfl, rfl, by decide +kernel, rfl, by decide +kernel, by decide +kernel⟩
/-! ### what the top has written -/
structure Tx (w : World) (K : PySem.W.Frag) (mg : Str → Option Value) (C_InvalidDeed C_InvalidText C_WayError c__law_act_right_ P__law_act_right_ c__law_line_right_ P__law_line_right_ c__law_right_ P__law_right_ : Addr) : Prop where
  mg_InvalidDeed : mg "InvalidDeed" = some (.ref C_InvalidDeed)
  x_InvalidDeed : ExC K C_InvalidDeed
  xh_InvalidDeed : PySem.W.takerIn K C_InvalidDeed "value" = some none
  xl_InvalidDeed : XfC K C_InvalidDeed
  xn_InvalidDeed : PySem.W.findIn K (.ref C_InvalidDeed) "value" = some none
  mg_InvalidText : mg "InvalidText" = some (.ref C_InvalidText)
  x_InvalidText : ExC K C_InvalidText
  xh_InvalidText : PySem.W.takerIn K C_InvalidText "line" = some none
  xl_InvalidText : XfC K C_InvalidText
  xn_InvalidText : PySem.W.findIn K (.ref C_InvalidText) "line" = some none
  xm_InvalidDeed_InvalidDeed : PySem.W.exmOne K (.ref C_InvalidDeed) (.ref C_InvalidDeed) = some true
  xm_InvalidDeed_InvalidText : PySem.W.exmOne K (.ref C_InvalidDeed) (.ref C_InvalidText) = some false
  xm_InvalidText_InvalidDeed : PySem.W.exmOne K (.ref C_InvalidText) (.ref C_InvalidDeed) = some false
  xm_InvalidText_InvalidText : PySem.W.exmOne K (.ref C_InvalidText) (.ref C_InvalidText) = some true
  F_InvalidDeed___init__ : ∃ f fd, FunD K "__init__" "InvalidDeed.__init__" (defArgs s_InvalidDeed___init__) (defBody s_InvalidDeed___init__) (defScope s_InvalidDeed___init__) [] [] f fd ∧ PySem.W.findIn K (.ref C_InvalidDeed) "__init__" = some (some (.ref f)) ∧ PySem.W.typeIn K (.ref f) = some (.type "function")
  F_InvalidText___init__ : ∃ f fd, FunD K "__init__" "InvalidText.__init__" (defArgs s_InvalidText___init__) (defBody s_InvalidText___init__) (defScope s_InvalidText___init__) [] [] f fd ∧ PySem.W.findIn K (.ref C_InvalidText) "__init__" = some (some (.ref f)) ∧ PySem.W.typeIn K (.ref f) = some (.type "function")
  mg_WayError : mg "WayError" = some (.ref C_WayError)
  ec_InvalidDeed : ExcC K C_InvalidDeed
  ec_InvalidText : ExcC K C_InvalidText
  is_InvalidDeed_WayError : PySem.W.kitOne K (.ref C_InvalidDeed) (.ref C_WayError) = some true
  is_InvalidText_WayError : PySem.W.kitOne K (.ref C_InvalidText) (.ref C_WayError) = some true
  dt__law_line_right__law_act_right : P__law_line_right_ ≠ P__law_act_right_
  dt__law_right__law_act_right : P__law_right_ ≠ P__law_act_right_
  dt__law_right__law_line_right : P__law_right_ ≠ P__law_line_right_
  F__law_draw : ∃ f fd, FunD K "_law_draw" "_law_draw" (defArgs s__law_draw) (defBody s__law_draw) (defScope s__law_draw) [] [] f fd ∧ mg "_law_draw" = some (.ref f)
  F__law_pick : ∃ f fd, FunD K "_law_pick" "_law_pick" (defArgs s__law_pick) (defBody s__law_pick) (defScope s__law_pick) [] [] f fd ∧ mg "_law_pick" = some (.ref f)
  F__law_lots : ∃ f fd, FunD K "_law_lots" "_law_lots" (defArgs s__law_lots) (defBody s__law_lots) (defScope s__law_lots) [] [] f fd ∧ mg "_law_lots" = some (.ref f)
  F__law_number : ∃ f fd, FunD K "_law_number" "_law_number" (defArgs s__law_number) (defBody s__law_number) (defScope s__law_number) [] [] f fd ∧ mg "_law_number" = some (.ref f)
  F__law_act : ∃ f fd, FunD K "_law_act" "_law_act" (defArgs s__law_act) (defBody s__law_act) (defScope s__law_act) [] [] f fd ∧ mg "_law_act" = some (.ref f)
  F__law_spelled : ∃ f fd, FunD K "_law_spelled" "_law_spelled" (defArgs s__law_spelled) (defBody s__law_spelled) (defScope s__law_spelled) [] [] f fd ∧ mg "_law_spelled" = some (.ref f)
  F__law_heard : ∃ f fd, FunD K "_law_heard" "_law_heard" (defArgs s__law_heard) (defBody s__law_heard) (defScope s__law_heard) [] [] f fd ∧ mg "_law_heard" = some (.ref f)
  F_is_integer : ∃ f fd, FunD K "is_integer" "is_integer" (defArgs s_is_integer) (defBody s_is_integer) (defScope s_is_integer) [] [] f fd ∧ mg "is_integer" = some (.ref f)
  F_is_deed : ∃ f fd, FunD K "is_deed" "is_deed" (defArgs s_is_deed) (defBody s_is_deed) (defScope s_is_deed) [] [] f fd ∧ mg "is_deed" = some (.ref f)
  F_line_of : ∃ f fd, FunD K "line_of" "line_of" (defArgs s_line_of) (defBody s_line_of) (defScope s_line_of) [] [] f fd ∧ mg "line_of" = some (.ref f)
  F__law_integer : ∃ f fd, FunD K "_law_integer" "_law_integer" (defArgs s__law_integer) (defBody s__law_integer) (defScope s__law_integer) [] [] f fd ∧ mg "_law_integer" = some (.ref f)
  F__law_read : ∃ f fd, FunD K "_law_read" "_law_read" (defArgs s__law_read) (defBody s__law_read) (defScope s__law_read) [] [] f fd ∧ mg "_law_read" = some (.ref f)
  F_number_of : ∃ f fd, FunD K "number_of" "number_of" (defArgs s_number_of) (defBody s_number_of) (defScope s_number_of) [] [] f fd ∧ mg "number_of" = some (.ref f)
  F_read_deed : ∃ f fd, FunD K "read_deed" "read_deed" (defArgs s_read_deed) (defBody s_read_deed) (defScope s_read_deed) [] [] f fd ∧ mg "read_deed" = some (.ref f)
  F__law_line_right : ∃ f fd, FunD K "_law_line_right" "_law_line_right" (defArgs s__law_line_right) (defBody s__law_line_right) (defScope s__law_line_right) [] [] f fd ∧ mg "_law_line_right" = some (.ref f) ∧ FunM K "_law_line_right" "_law_line_right" (defArgs s__law_line_right) (defBody s__law_line_right) (defScope s__law_line_right) c__law_line_right_ f fd
  F__law_odd_acts : ∃ f fd, FunD K "_law_odd_acts" "_law_odd_acts" (defArgs s__law_odd_acts) (defBody s__law_odd_acts) (defScope s__law_odd_acts) [] [] f fd ∧ mg "_law_odd_acts" = some (.ref f)
  F__law_act_right : ∃ f fd, FunD K "_law_act_right" "_law_act_right" (defArgs s__law_act_right) (defBody s__law_act_right) (defScope s__law_act_right) [] [] f fd ∧ mg "_law_act_right" = some (.ref f) ∧ FunM K "_law_act_right" "_law_act_right" (defArgs s__law_act_right) (defBody s__law_act_right) (defScope s__law_act_right) c__law_act_right_ f fd
  F__law_bent : ∃ f fd, FunD K "_law_bent" "_law_bent" (defArgs s__law_bent) (defBody s__law_bent) (defScope s__law_bent) [] [] f fd ∧ mg "_law_bent" = some (.ref f)
  F__law_right : ∃ f fd, FunD K "_law_right" "_law_right" (defArgs s__law_right) (defBody s__law_right) (defScope s__law_right) [] [] f fd ∧ mg "_law_right" = some (.ref f) ∧ FunM K "_law_right" "_law_right" (defArgs s__law_right) (defBody s__law_right) (defScope s__law_right) c__law_right_ f fd
  F__law_pot : ∃ f fd, FunD K "_law_pot" "_law_pot" (defArgs s__law_pot) (defBody s__law_pot) (defScope s__law_pot) [] [] f fd ∧ mg "_law_pot" = some (.ref f)
  F_law : ∃ f fd, FunD K "law" "law" (defArgs s_law) (defBody s_law) (defScope s_law) [] [] f fd ∧ mg "law" = some (.ref f)
  b_abs : mg "abs" = none
  b_all : mg "all" = none
  b_bool : mg "bool" = none
  b_divmod : mg "divmod" = none
  b_int : mg "int" = none
  b_isinstance : mg "isinstance" = none
  b_len : mg "len" = none
  b_list : mg "list" = none
  b_max : mg "max" = none
  b_min : mg "min" = none
  b_range : mg "range" = none
  b_repr : mg "repr" = none
  b_str : mg "str" = none
  b_tuple : mg "tuple" = none
  g_DEED_NUMBERS : ∃ a, mg "DEED_NUMBERS" = some (.ref a) ∧ TbF K w a t_DEED_NUMBERS
  g_DIGITS : ∃ t, mg "DIGITS" = some (.str "0123456789" t)
  g_NOTHING : ∃ t, mg "NOTHING" = some (.str "none" t)
theorem mt_InvalidDeed_ok {w : World} {K : PySem.W.Frag} {mg : Str → Option Value} {C_InvalidDeed C_InvalidText C_WayError c__law_act_right_ P__law_act_right_ c__law_line_right_ P__law_line_right_ c__law_right_ P__law_right_ : Addr} (T : Tx w K mg C_InvalidDeed C_InvalidText C_WayError c__law_act_right_ P__law_act_right_ c__law_line_right_ P__law_line_right_ c__law_right_ P__law_right_) : ∀ c k, mt_InvalidDeed c = some k → PySem.W.exmOne K (.ref ((mkG C_InvalidDeed C_InvalidText C_WayError c__law_act_right_ P__law_act_right_ c__law_line_right_ P__law_line_right_ c__law_right_ P__law_right_).cl c)) (.ref C_InvalidDeed) = some k := by
  intro c k e
  unfold mt_InvalidDeed at e
  split at e <;> first | (cases e; first | exact T.xm_InvalidDeed_InvalidDeed | exact T.xm_InvalidText_InvalidDeed) | exact nomatch e
theorem mt_InvalidText_ok {w : World} {K : PySem.W.Frag} {mg : Str → Option Value} {C_InvalidDeed C_InvalidText C_WayError c__law_act_right_ P__law_act_right_ c__law_line_right_ P__law_line_right_ c__law_right_ P__law_right_ : Addr} (T : Tx w K mg C_InvalidDeed C_InvalidText C_WayError c__law_act_right_ P__law_act_right_ c__law_line_right_ P__law_line_right_ c__law_right_ P__law_right_) : ∀ c k, mt_InvalidText c = some k → PySem.W.exmOne K (.ref ((mkG C_InvalidDeed C_InvalidText C_WayError c__law_act_right_ P__law_act_right_ c__law_line_right_ P__law_line_right_ c__law_right_ P__law_right_).cl c)) (.ref C_InvalidText) = some k := by
  intro c k e
  unfold mt_InvalidText at e
  split at e <;> first | (cases e; first | exact T.xm_InvalidDeed_InvalidText | exact T.xm_InvalidText_InvalidText) | exact nomatch e
/-! ### how arguments bind -/
section
variable {K : PySem.W.Frag}
theorem bd__law_draw {f : Addr} {fd : FuncData} (F : FunD K "_law_draw" "_law_draw" (defArgs s__law_draw) (defBody s__law_draw) (defScope s__law_draw) [] [] f fd) : Bnd K fd ["_law_pot_here", "_law_sides"] 2 [] bd0 := bnd_plain F rfl fun _ _ _ _ _ _ us hl => match us, hl with | [_, _], _ => rfl
theorem bd__law_pick {f : Addr} {fd : FuncData} (F : FunD K "_law_pick" "_law_pick" (defArgs s__law_pick) (defBody s__law_pick) (defScope s__law_pick) [] [] f fd) : Bnd K fd ["_law_pot_here", "_law_some"] 2 [] bd0 := bnd_plain F rfl fun _ _ _ _ _ _ us hl => match us, hl with | [_, _], _ => rfl
theorem bd__law_lots {f : Addr} {fd : FuncData} (F : FunD K "_law_lots" "_law_lots" (defArgs s__law_lots) (defBody s__law_lots) (defScope s__law_lots) [] [] f fd) : Bnd K fd [] 0 [] bd0 := bnd_plain F rfl fun _ _ _ _ _ _ us hl => match us, hl with | [], _ => rfl
theorem bd__law_number {f : Addr} {fd : FuncData} (F : FunD K "_law_number" "_law_number" (defArgs s__law_number) (defBody s__law_number) (defScope s__law_number) [] [] f fd) : Bnd K fd ["_law_pot_here"] 1 [] bd0 := bnd_plain F rfl fun _ _ _ _ _ _ us hl => match us, hl with | [_], _ => rfl
theorem bd__law_act {f : Addr} {fd : FuncData} (F : FunD K "_law_act" "_law_act" (defArgs s__law_act) (defBody s__law_act) (defScope s__law_act) [] [] f fd) : Bnd K fd ["_law_pot_here"] 1 [] bd0 := bnd_plain F rfl fun _ _ _ _ _ _ us hl => match us, hl with | [_], _ => rfl
theorem bd__law_spelled {f : Addr} {fd : FuncData} (F : FunD K "_law_spelled" "_law_spelled" (defArgs s__law_spelled) (defBody s__law_spelled) (defScope s__law_spelled) [] [] f fd) : Bnd K fd ["_law_act_here"] 1 [] bd0 := bnd_plain F rfl fun _ _ _ _ _ _ us hl => match us, hl with | [_], _ => rfl
theorem bd__law_heard {f : Addr} {fd : FuncData} (F : FunD K "_law_heard" "_law_heard" (defArgs s__law_heard) (defBody s__law_heard) (defScope s__law_heard) [] [] f fd) : Bnd K fd ["_law_ask"] 1 [] bd0 := bnd_plain F rfl fun _ _ _ _ _ _ us hl => match us, hl with | [_], _ => rfl
theorem bd_is_integer {f : Addr} {fd : FuncData} (F : FunD K "is_integer" "is_integer" (defArgs s_is_integer) (defBody s_is_integer) (defScope s_is_integer) [] [] f fd) : Bnd K fd ["value"] 1 [] bd0 := bnd_plain F rfl fun _ _ _ _ _ _ us hl => match us, hl with | [_], _ => rfl
theorem bd_is_deed {f : Addr} {fd : FuncData} (F : FunD K "is_deed" "is_deed" (defArgs s_is_deed) (defBody s_is_deed) (defScope s_is_deed) [] [] f fd) : Bnd K fd ["value"] 1 [] bd0 := bnd_plain F rfl fun _ _ _ _ _ _ us hl => match us, hl with | [_], _ => rfl
theorem bd_line_of {f : Addr} {fd : FuncData} (F : FunD K "line_of" "line_of" (defArgs s_line_of) (defBody s_line_of) (defScope s_line_of) [] [] f fd) : Bnd K fd ["deed"] 1 [] bd0 := bnd_plain F rfl fun _ _ _ _ _ _ us hl => match us, hl with | [_], _ => rfl
theorem bd__law_integer {f : Addr} {fd : FuncData} (F : FunD K "_law_integer" "_law_integer" (defArgs s__law_integer) (defBody s__law_integer) (defScope s__law_integer) [] [] f fd) : Bnd K fd ["_law_word"] 1 [] bd0 := bnd_plain F rfl fun _ _ _ _ _ _ us hl => match us, hl with | [_], _ => rfl
theorem bd__law_read {f : Addr} {fd : FuncData} (F : FunD K "_law_read" "_law_read" (defArgs s__law_read) (defBody s__law_read) (defScope s__law_read) [] [] f fd) : Bnd K fd ["_law_spelled_here"] 1 [] bd0 := bnd_plain F rfl fun _ _ _ _ _ _ us hl => match us, hl with | [_], _ => rfl
theorem bd_number_of {f : Addr} {fd : FuncData} (F : FunD K "number_of" "number_of" (defArgs s_number_of) (defBody s_number_of) (defScope s_number_of) [] [] f fd) : Bnd K fd ["word"] 1 [] bd0 := bnd_plain F rfl fun _ _ _ _ _ _ us hl => match us, hl with | [_], _ => rfl
theorem bd_read_deed {f : Addr} {fd : FuncData} (F : FunD K "read_deed" "read_deed" (defArgs s_read_deed) (defBody s_read_deed) (defScope s_read_deed) [] [] f fd) : Bnd K fd ["line"] 1 [] bd0 := bnd_plain F rfl fun _ _ _ _ _ _ us hl => match us, hl with | [_], _ => rfl
theorem bd__law_line_right {f : Addr} {fd : FuncData} (F : FunD K "_law_line_right" "_law_line_right" (defArgs s__law_line_right) (defBody s__law_line_right) (defScope s__law_line_right) [] [] f fd) : Bnd K fd ["_law_spelled_here"] 1 [] bd0 := bnd_plain F rfl fun _ _ _ _ _ _ us hl => match us, hl with | [_], _ => rfl
theorem bd__law_odd_acts {f : Addr} {fd : FuncData} (F : FunD K "_law_odd_acts" "_law_odd_acts" (defArgs s__law_odd_acts) (defBody s__law_odd_acts) (defScope s__law_odd_acts) [] [] f fd) : Bnd K fd ["_law_pot_here", "_law_act_here"] 2 [] bd0 := bnd_plain F rfl fun _ _ _ _ _ _ us hl => match us, hl with | [_, _], _ => rfl
theorem bd__law_act_right {f : Addr} {fd : FuncData} (F : FunD K "_law_act_right" "_law_act_right" (defArgs s__law_act_right) (defBody s__law_act_right) (defScope s__law_act_right) [] [] f fd) : Bnd K fd ["_law_pot_here", "_law_act_here"] 2 [] bd0 := bnd_plain F rfl fun _ _ _ _ _ _ us hl => match us, hl with | [_, _], _ => rfl
theorem bd__law_bent {f : Addr} {fd : FuncData} (F : FunD K "_law_bent" "_law_bent" (defArgs s__law_bent) (defBody s__law_bent) (defScope s__law_bent) [] [] f fd) : Bnd K fd ["_law_pot_here", "_law_spelled_here"] 2 [] bd0 := bnd_plain F rfl fun _ _ _ _ _ _ us hl => match us, hl with | [_, _], _ => rfl
theorem bd__law_right {f : Addr} {fd : FuncData} (F : FunD K "_law_right" "_law_right" (defArgs s__law_right) (defBody s__law_right) (defScope s__law_right) [] [] f fd) : Bnd K fd ["_law_pot_here"] 1 [] bd0 := bnd_plain F rfl fun _ _ _ _ _ _ us hl => match us, hl with | [_], _ => rfl
theorem bd__law_pot {f : Addr} {fd : FuncData} (F : FunD K "_law_pot" "_law_pot" (defArgs s__law_pot) (defBody s__law_pot) (defScope s__law_pot) [] [] f fd) : Bnd K fd ["_law_script", "_law_k"] 2 [] bd0 := bnd_plain F rfl fun _ _ _ _ _ _ us hl => match us, hl with | [_, _], _ => rfl
theorem b_line_of_deed {f : Addr} {fd : FuncData} (F : FunD K "line_of" "line_of" (defArgs s_line_of) (defBody s_line_of) (defScope s_line_of) [] [] f fd) : Bnd K fd ["deed"] 0 ["deed"] (fun a b => ar_line_of_deed a b) := by
  refine bnd_kw (fun {α} => ar_line_of_deed (α := α)) F ?_ ?_ ?_
  · intro vs zs us ws r1 r2 h1 h2
    cases r1 with
    | cons _ _ => exact nomatch h1
    | nil =>
      cases r2 with
      | nil => exact nomatch h2
      | cons x0 r2 =>
        cases r2 with
        | cons _ _ => exact nomatch h2
        | nil => exact (.cons x0 .nil)
  · intro m N H vs zs us ws r1 r2 h1 h2
    cases r1 with
    | cons _ _ => exact nomatch h1
    | nil =>
      cases r2 with
      | nil => exact nomatch h2
      | cons x0 r2 =>
        cases r2 with
        | cons _ _ => exact nomatch h2
        | nil => exact (.cons x0 .nil)
  · intro kV doc pm an cdv ct us ws h1 h2
    match us, ws, h1, h2 with
    | [], [_], _, _ => rfl
theorem b_read_deed_line {f : Addr} {fd : FuncData} (F : FunD K "read_deed" "read_deed" (defArgs s_read_deed) (defBody s_read_deed) (defScope s_read_deed) [] [] f fd) : Bnd K fd ["line"] 0 ["line"] (fun a b => ar_read_deed_line a b) := by
  refine bnd_kw (fun {α} => ar_read_deed_line (α := α)) F ?_ ?_ ?_
  · intro vs zs us ws r1 r2 h1 h2
    cases r1 with
    | cons _ _ => exact nomatch h1
    | nil =>
      cases r2 with
      | nil => exact nomatch h2
      | cons x0 r2 =>
        cases r2 with
        | cons _ _ => exact nomatch h2
        | nil => exact (.cons x0 .nil)
  · intro m N H vs zs us ws r1 r2 h1 h2
    cases r1 with
    | cons _ _ => exact nomatch h1
    | nil =>
      cases r2 with
      | nil => exact nomatch h2
      | cons x0 r2 =>
        cases r2 with
        | cons _ _ => exact nomatch h2
        | nil => exact (.cons x0 .nil)
  · intro kV doc pm an cdv ct us ws h1 h2
    match us, ws, h1, h2 with
    | [], [_], _, _ => rfl
end
/-! ### the promises -/
section
variable {P : Program} {w : World} {K : PySem.W.Frag} {mg : Str → Option Value} {base : Heap} {C_InvalidDeed C_InvalidText C_WayError c__law_act_right_ P__law_act_right_ c__law_line_right_ P__law_line_right_ c__law_right_ P__law_right_ : Addr}
theorem in__law_act_right : (P__law_act_right_, ((("_law_act_right" : Str) ++ (".<locals>." : Str)) ++ ("<lambda>" : Str))) ∈ (mkG C_InvalidDeed C_InvalidText C_WayError c__law_act_right_ P__law_act_right_ c__law_line_right_ P__law_line_right_ c__law_right_ P__law_right_).tabs := .head _
theorem un__law_act_right (T : Tx w K mg C_InvalidDeed C_InvalidText C_WayError c__law_act_right_ P__law_act_right_ c__law_line_right_ P__law_line_right_ c__law_right_ P__law_right_) : ∀ p ∈ (mkG C_InvalidDeed C_InvalidText C_WayError c__law_act_right_ P__law_act_right_ c__law_line_right_ P__law_line_right_ c__law_right_ P__law_right_).tabs, p.1 = P__law_act_right_ → p.2 = (("_law_act_right" : Str) ++ (".<locals>." : Str)) ++ ("<lambda>" : Str) := by
  intro p m e
  rcases List.mem_cons.mp m with z | m
  · rw [z]
  rcases List.mem_cons.mp m with z | m
  · rw [z] at e; exact absurd e T.dt__law_line_right__law_act_right
  rcases List.mem_cons.mp m with z | m
  · rw [z] at e; exact absurd e T.dt__law_right__law_act_right
  exact nomatch m
theorem in__law_line_right : (P__law_line_right_, ((("_law_line_right" : Str) ++ (".<locals>." : Str)) ++ ("<lambda>" : Str))) ∈ (mkG C_InvalidDeed C_InvalidText C_WayError c__law_act_right_ P__law_act_right_ c__law_line_right_ P__law_line_right_ c__law_right_ P__law_right_).tabs := .tail _ (.head _)
theorem un__law_line_right (T : Tx w K mg C_InvalidDeed C_InvalidText C_WayError c__law_act_right_ P__law_act_right_ c__law_line_right_ P__law_line_right_ c__law_right_ P__law_right_) : ∀ p ∈ (mkG C_InvalidDeed C_InvalidText C_WayError c__law_act_right_ P__law_act_right_ c__law_line_right_ P__law_line_right_ c__law_right_ P__law_right_).tabs, p.1 = P__law_line_right_ → p.2 = (("_law_line_right" : Str) ++ (".<locals>." : Str)) ++ ("<lambda>" : Str) := by
  intro p m e
  rcases List.mem_cons.mp m with z | m
  · rw [z] at e; exact absurd e.symm T.dt__law_line_right__law_act_right
  rcases List.mem_cons.mp m with z | m
  · rw [z]
  rcases List.mem_cons.mp m with z | m
  · rw [z] at e; exact absurd e T.dt__law_right__law_line_right
  exact nomatch m
theorem in__law_right : (P__law_right_, ((("_law_right" : Str) ++ (".<locals>." : Str)) ++ ("<lambda>" : Str))) ∈ (mkG C_InvalidDeed C_InvalidText C_WayError c__law_act_right_ P__law_act_right_ c__law_line_right_ P__law_line_right_ c__law_right_ P__law_right_).tabs := .tail _ (.tail _ (.head _))
theorem un__law_right (T : Tx w K mg C_InvalidDeed C_InvalidText C_WayError c__law_act_right_ P__law_act_right_ c__law_line_right_ P__law_line_right_ c__law_right_ P__law_right_) : ∀ p ∈ (mkG C_InvalidDeed C_InvalidText C_WayError c__law_act_right_ P__law_act_right_ c__law_line_right_ P__law_line_right_ c__law_right_ P__law_right_).tabs, p.1 = P__law_right_ → p.2 = (("_law_right" : Str) ++ (".<locals>." : Str)) ++ ("<lambda>" : Str) := by
  intro p m e
  rcases List.mem_cons.mp m with z | m
  · rw [z] at e; exact absurd e.symm T.dt__law_right__law_act_right
  rcases List.mem_cons.mp m with z | m
  · rw [z] at e; exact absurd e.symm T.dt__law_right__law_line_right
  rcases List.mem_cons.mp m with z | m
  · rw [z]
  exact nomatch m
theorem ok__law_draw (T : Tx w K mg C_InvalidDeed C_InvalidText C_WayError c__law_act_right_ P__law_act_right_ c__law_line_right_ P__law_line_right_ c__law_right_ P__law_right_)  (B : Bx base mg C_InvalidDeed C_InvalidText C_WayError c__law_act_right_ P__law_act_right_ c__law_line_right_ P__law_line_right_ c__law_right_ P__law_right_) {f : Addr} {fd : FuncData} (F : FunD K "_law_draw" "_law_draw" (defArgs s__law_draw) (defBody s__law_draw) (defScope s__law_draw) [] [] f fd) : FnG P w K mg base CX0 1 f fd ["_law_pot_here", "_law_sides"] (spF (mkG C_InvalidDeed C_InvalidText C_WayError c__law_act_right_ P__law_act_right_ c__law_line_right_ P__law_line_right_ c__law_right_ P__law_right_) K f__law_draw) := by
  refine fnG_D F sc__law_draw rfl rfl fun cdv A outer s H E hg hr => PSs.nox ?_
  have hu := hu64 hr
  have hu7 := hu70 hr
  exact (zCons (zIf (yCmp gt_ok isB_gt (xIx (xV 0) xInt) xInt (nomark _)) (zCons (zAsg (ng_tup (ngs_cons ng_sub (ngs_cons ng_name ngs_nil))) (bltn divmod_okB rfl T.b_divmod (by decide +kernel) (xaCons (xIx (xV 0) xInt) (xaCons (xV 1) xaNil))) (gT_ok rfl (gsCons_ok (gSub_ok (xV 0) xInt) (gsCons_ok (gName_ok (i := 2) sc__law_draw.nd rfl (Or.inl rfl)) gsNil_ok))))
    (zCons (zRet (xV 2))
    zNil)) zNil)
    (zCons (zAsg ng_sub (x2 mod_ok (bltnT intS_okB rfl T.b_int (by decide +kernel) (xaCons (x2 add_ok (x2 mul_ok (xIx (xV 0) xInt) xInt) xInt) xaNil)) xInt) (gSub_ok (xV 0) xInt))
    (zCons (zRet (x2 mod_ok (bltnT intS_okB rfl T.b_int (by decide +kernel) (xaCons (x2 div_ok (x2 mod_ok (bltnT intS_okB rfl T.b_int (by decide +kernel) (xaCons (x2 mul_ok (xIx (xV 0) xInt) (xIx (xV 0) xInt)) xaNil)) xInt) xInt) xaNil)) (xV 1)))
    zNil)))
theorem ok__law_pick (T : Tx w K mg C_InvalidDeed C_InvalidText C_WayError c__law_act_right_ P__law_act_right_ c__law_line_right_ P__law_line_right_ c__law_right_ P__law_right_)  (B : Bx base mg C_InvalidDeed C_InvalidText C_WayError c__law_act_right_ P__law_act_right_ c__law_line_right_ P__law_line_right_ c__law_right_ P__law_right_) {f : Addr} {fd : FuncData} (F : FunD K "_law_pick" "_law_pick" (defArgs s__law_pick) (defBody s__law_pick) (defScope s__law_pick) [] [] f fd) : FnG P w K mg base CX0 2 f fd ["_law_pot_here", "_law_some"] (spF (mkG C_InvalidDeed C_InvalidText C_WayError c__law_act_right_ P__law_act_right_ c__law_line_right_ P__law_line_right_ c__law_right_ P__law_right_) K f__law_pick) := by
  obtain ⟨a__law_draw, d__law_draw, F__law_draw, m__law_draw⟩ := T.F__law_draw
  have b__law_draw := bd__law_draw F__law_draw
  have k__law_draw := F__law_draw.kp
  have g__law_draw := ok__law_draw (P := P) (w := w) (base := base) T B F__law_draw
  refine fnG_D F sc__law_pick rfl rfl fun cdv A outer s H E hg hr => PSs.nox ?_
  have hu := hu64 hr
  have hu7 := hu70 hr
  exact (zCons (zRet (xIx (xV 1) (xCall (cg_fn g__law_draw hg (hr.mono (by decide)) passes0 b__law_draw) rfl m__law_draw k__law_draw (xaCons (xV 0) (xaCons (bltn len_okB rfl T.b_len (by decide +kernel) (xaCons (xV 1) xaNil)) xaNil)))))
    zNil)
theorem ok__law_lots (T : Tx w K mg C_InvalidDeed C_InvalidText C_WayError c__law_act_right_ P__law_act_right_ c__law_line_right_ P__law_line_right_ c__law_right_ P__law_right_)  (B : Bx base mg C_InvalidDeed C_InvalidText C_WayError c__law_act_right_ P__law_act_right_ c__law_line_right_ P__law_line_right_ c__law_right_ P__law_right_) {f : Addr} {fd : FuncData} (F : FunD K "_law_lots" "_law_lots" (defArgs s__law_lots) (defBody s__law_lots) (defScope s__law_lots) [] [] f fd) : FnG P w K mg base CX0 1 f fd [] (spF (mkG C_InvalidDeed C_InvalidText C_WayError c__law_act_right_ P__law_act_right_ c__law_line_right_ P__law_line_right_ c__law_right_ P__law_right_) K f__law_lots) := by
  refine fnG_D F sc__law_lots rfl rfl fun cdv A outer s H E hg hr => PSs.nox ?_
  have hu := hu64 hr
  have hu7 := hu70 hr
  exact (zCons (zRet (xDisp (ppCons xStr xInt (ppCons xStr xInt (ppCons xStr xInt (ppCons xStr xInt (ppCons xStr xInt (ppCons xStr xInt (ppCons xStr xInt (ppCons xStr xInt (ppCons xStr xInt ppNil)))))))))))
    zNil)
theorem ok__law_number (T : Tx w K mg C_InvalidDeed C_InvalidText C_WayError c__law_act_right_ P__law_act_right_ c__law_line_right_ P__law_line_right_ c__law_right_ P__law_right_)  (B : Bx base mg C_InvalidDeed C_InvalidText C_WayError c__law_act_right_ P__law_act_right_ c__law_line_right_ P__law_line_right_ c__law_right_ P__law_right_) {f : Addr} {fd : FuncData} (F : FunD K "_law_number" "_law_number" (defArgs s__law_number) (defBody s__law_number) (defScope s__law_number) [] [] f fd) : FnG P w K mg base CX0 3 f fd ["_law_pot_here"] (spF (mkG C_InvalidDeed C_InvalidText C_WayError c__law_act_right_ P__law_act_right_ c__law_line_right_ P__law_line_right_ c__law_right_ P__law_right_) K f__law_number) := by
  obtain ⟨a__law_pick, d__law_pick, F__law_pick, m__law_pick⟩ := T.F__law_pick
  have b__law_pick := bd__law_pick F__law_pick
  have k__law_pick := F__law_pick.kp
  have g__law_pick := ok__law_pick (P := P) (w := w) (base := base) T B F__law_pick
  obtain ⟨a__law_draw, d__law_draw, F__law_draw, m__law_draw⟩ := T.F__law_draw
  have b__law_draw := bd__law_draw F__law_draw
  have k__law_draw := F__law_draw.kp
  have g__law_draw := ok__law_draw (P := P) (w := w) (base := base) T B F__law_draw
  refine fnG_D F sc__law_number rfl rfl fun cdv A outer s H E hg hr => PSs.nox ?_
  have hu := hu64 hr
  have hu7 := hu70 hr
  exact (zCons (zSet (i := 1) sc__law_number.nd rfl (Or.inl rfl) (xCall (cg_fn g__law_pick hg (hr.mono (by decide)) passes0 b__law_pick) rfl m__law_pick k__law_pick (xaCons (xV 0) (xaCons (xLst (xaCons (x2 pow_ok xInt xInt) (xaCons (x2 sub_ok (x2 pow_ok xInt xInt) xInt) (xaCons (x2 add_ok (x2 pow_ok xInt xInt) xInt) (xaCons xInt (xaCons xInt xaNil)))))) xaNil))))
    (zCons (zSet (i := 2) sc__law_number.nd rfl (Or.inl rfl) (xCall (cg_fn g__law_draw hg (hr.mono (by decide)) passes0 b__law_draw) rfl m__law_draw k__law_draw (xaCons (xV 0) (xaCons xInt xaNil))))
    (zCons (zRet (xCall (cg_fn g__law_pick hg (hr.mono (by decide)) passes0 b__law_pick) rfl m__law_pick k__law_pick (xaCons (xV 0) (xaCons (xLst (xaCons xInt (xaCons xInt (xaCons xInt (xaCons xInt (xaCons xInt (xaCons xInt (xaCons (xNeg xInt) (xaCons (xNeg xInt) (xaCons (xV 1) (xaCons (x2 sub_ok xInt (xV 1)) (xaCons (xV 2) (xaCons (x2 sub_ok xInt (x2 mul_ok (xV 2) (x2 pow_ok xInt xInt))) xaNil))))))))))))) xaNil))))
    zNil)))
theorem ok__law_act (T : Tx w K mg C_InvalidDeed C_InvalidText C_WayError c__law_act_right_ P__law_act_right_ c__law_line_right_ P__law_line_right_ c__law_right_ P__law_right_)  (B : Bx base mg C_InvalidDeed C_InvalidText C_WayError c__law_act_right_ P__law_act_right_ c__law_line_right_ P__law_line_right_ c__law_right_ P__law_right_) {f : Addr} {fd : FuncData} (F : FunD K "_law_act" "_law_act" (defArgs s__law_act) (defBody s__law_act) (defScope s__law_act) [] [] f fd) : FnG P w K mg base CX0 4 f fd ["_law_pot_here"] (spF (mkG C_InvalidDeed C_InvalidText C_WayError c__law_act_right_ P__law_act_right_ c__law_line_right_ P__law_line_right_ c__law_right_ P__law_right_) K f__law_act) := by
  obtain ⟨a__law_pick, d__law_pick, F__law_pick, m__law_pick⟩ := T.F__law_pick
  have b__law_pick := bd__law_pick F__law_pick
  have k__law_pick := F__law_pick.kp
  have g__law_pick := ok__law_pick (P := P) (w := w) (base := base) T B F__law_pick
  obtain ⟨a__law_lots, d__law_lots, F__law_lots, m__law_lots⟩ := T.F__law_lots
  have b__law_lots := bd__law_lots F__law_lots
  have k__law_lots := F__law_lots.kp
  have g__law_lots := ok__law_lots (P := P) (w := w) (base := base) T B F__law_lots
  obtain ⟨a__law_number, d__law_number, F__law_number, m__law_number⟩ := T.F__law_number
  have b__law_number := bd__law_number F__law_number
  have k__law_number := F__law_number.kp
  have g__law_number := ok__law_number (P := P) (w := w) (base := base) T B F__law_number
  obtain ⟨a__law_draw, d__law_draw, F__law_draw, m__law_draw⟩ := T.F__law_draw
  have b__law_draw := bd__law_draw F__law_draw
  have k__law_draw := F__law_draw.kp
  have g__law_draw := ok__law_draw (P := P) (w := w) (base := base) T B F__law_draw
  refine fnG_D F sc__law_act rfl rfl fun cdv A outer s H E hg hr => PSs.nox ?_
  have hu := hu64 hr
  have hu7 := hu70 hr
  exact (zCons (zSet (i := 1) sc__law_act.nd rfl (Or.inl rfl) (xCall (cg_fn g__law_pick hg (hr.mono (by decide)) passes0 b__law_pick) rfl m__law_pick k__law_pick (xaCons (xV 0) (xaCons (bltnT (listK_okB rfl) rfl T.b_list (by decide +kernel) (xaCons (xCall0 (cg_fn g__law_lots hg (hr.mono (by decide)) passes0 b__law_lots) rfl m__law_lots k__law_lots) xaNil)) xaNil))))
    (zCons (zSet (i := 2) sc__law_act.nd rfl (Or.inl rfl) (x2 add_ok (xLst (xaCons (xV 1) xaNil)) (xComp rfl sc__law_act.nd (iRng1_ok rfl T.b_range (xDg (hu1_of hu7) (xCall0 (cg_fn g__law_lots hg (hr.mono (by decide)) passes0 b__law_lots) rfl m__law_lots k__law_lots) (xV 1))) (blkOk_by (N := ["_law_pot_here", "_law_word", "_law_found", "_law_turn"]) (sc := defScope s__law_act) (own := [("_law_turn", 3)]) (by decide +kernel)) rfl (tg1 3) (fun _ _ _ _ _ => pg_name (i := 3) sc__law_act.nd rfl (Or.inl rfl)) (fun _ _ _ _ _ => ptsNil) (fun _ _ _ _ _ => (xCall (cg_fn g__law_number hg (hr.mono (by decide)) passes0 b__law_number) rfl m__law_number k__law_number (xaCons (xV 0) xaNil))))))
    (zCons (zIf (PW.pt (wAnd (yCmp (eq_ok hu) (isB_eq false) (xV 1) xStr (nomark _)) (wOne (yCmp (eq_ok hu) (isB_eq false) (xCall (cg_fn g__law_draw hg (hr.mono (by decide)) passes0 b__law_draw) rfl m__law_draw k__law_draw (xaCons (xV 0) (xaCons xInt xaNil))) xInt (nomark _))))) (zCons (zAsg ng_sub xNon (gSub_ok (xV 2) xInt))
    zNil) zNil)
    (zCons (zRet (bltnT tuple_okB rfl T.b_tuple (by decide +kernel) (xaCons (xV 2) xaNil)))
    zNil))))
theorem ok__law_spelled (T : Tx w K mg C_InvalidDeed C_InvalidText C_WayError c__law_act_right_ P__law_act_right_ c__law_line_right_ P__law_line_right_ c__law_right_ P__law_right_)  (B : Bx base mg C_InvalidDeed C_InvalidText C_WayError c__law_act_right_ P__law_act_right_ c__law_line_right_ P__law_line_right_ c__law_right_ P__law_right_) {f : Addr} {fd : FuncData} (F : FunD K "_law_spelled" "_law_spelled" (defArgs s__law_spelled) (defBody s__law_spelled) (defScope s__law_spelled) [] [] f fd) : FnG P w K mg base CX0 1 f fd ["_law_act_here"] (spF (mkG C_InvalidDeed C_InvalidText C_WayError c__law_act_right_ P__law_act_right_ c__law_line_right_ P__law_line_right_ c__law_right_ P__law_right_) K f__law_spelled) := by
  refine fnG_D F sc__law_spelled rfl rfl fun cdv A outer s H E hg hr => PSs.nox ?_
  have hu := hu64 hr
  have hu7 := hu70 hr
  exact (zCons (zRet (xJoinL xStr (xComp rfl sc__law_spelled.nd (iSeq_ok (xV 0)) (blkOk_by (N := ["_law_act_here", "_law_part"]) (sc := defScope s__law_spelled) (own := [("_law_part", 1)]) (by decide +kernel)) rfl (tg1 1) (fun _ _ _ _ _ => pg_name (i := 1) sc__law_spelled.nd rfl (Or.inl rfl)) (fun _ _ _ _ _ => ptsNil) (fun _ _ _ _ _ => (xIf (yIsN (xV 1)) xStr (bltnT str_okB rfl T.b_str (by decide +kernel) (xaCons (xV 1) xaNil)))))))
    zNil)
theorem told__law_heard (T : Tx w K mg C_InvalidDeed C_InvalidText C_WayError c__law_act_right_ P__law_act_right_ c__law_line_right_ P__law_line_right_ c__law_right_ P__law_right_) {g : Addr} : Told (mkG C_InvalidDeed C_InvalidText C_WayError c__law_act_right_ P__law_act_right_ c__law_line_right_ P__law_line_right_ c__law_right_ P__law_right_) P w K mg base 1 ["_law_ask", "e"] "_law_heard" (defScope s__law_heard) g (defBody s__law_heard) "_law_ask" b__law_heard := by
  intro cdv A outer s H f c' q σ0 th hg hr ac0
  have hu := hu64 hr
  have hu7 := hu70 hr
  exact (lSeq_ok (lTry_ok (l := [(.ref C_InvalidDeed, mt_InvalidDeed, (some 1), fun _ fs => sRet (eLst (aCons (eC (.str "deed")) (aCons (eA bRepK (aCons (eXf 0 fs) aNil)) (aCons (eC (.bl true)) aNil))))), (.ref C_InvalidText, mt_InvalidText, (some 1), fun _ fs => sRet (eLst (aCons (eC (.str "text")) (aCons (eA bRepK (aCons (eXf 1 fs) aNil)) (aCons (eC (.bl true)) aNil)))))]) rfl rfl ac0 (fun W pn xe ac => lMadeB_ok (bltZ ac (fun _ => repK_ok hg hu7) rfl T.b_repr (by decide +kernel)) xStr) (.named sc__law_heard.nd rfl rfl ⟨rfl, by decide, .inl T.mg_InvalidDeed⟩ (fun a oe cls d pn hz hf => hd_ret (fe := fun _ fs => (eLst (aCons (eC (.str "deed")) (aCons (eA bRepK (aCons (eXf 0 fs) aNil)) (aCons (eC (.bl true)) aNil))))) (fun c fs ek => by obtain rfl := mt_InvalidDeed_one c ek; exact (jLst (jaCons (jLift xStr) (jaCons (jBlt (repK_ok hg hu7) rfl T.b_repr (by decide +kernel) (jaCons (jFld (G := mkG _ _ _ _ _ _ _ _ _) (k := 0) T.xl_InvalidDeed (by show 0 < 2; decide) T.xn_InvalidDeed hz hf rfl (Or.inl rfl)) jaNil)) (jaCons (by exact jIs (G := mkG _ _ _ _ _ _ _ _ _) (i := 1) T.ec_InvalidDeed hz hf rfl (Or.inl rfl) rfl T.b_isinstance (pe_glob (v := .ref C_WayError) rfl T.mg_WayError rfl (by decide)) (fun u (h : u = Value.ref C_WayError) => h) T.is_InvalidDeed_WayError) jaNil)))))) (.named sc__law_heard.nd rfl rfl ⟨rfl, by decide, .inl T.mg_InvalidText⟩ (fun a oe cls d pn hz hf => hd_ret (fe := fun _ fs => (eLst (aCons (eC (.str "text")) (aCons (eA bRepK (aCons (eXf 1 fs) aNil)) (aCons (eC (.bl true)) aNil))))) (fun c fs ek => by obtain rfl := mt_InvalidText_one c ek; exact (jLst (jaCons (jLift xStr) (jaCons (jBlt (repK_ok hg hu7) rfl T.b_repr (by decide +kernel) (jaCons (jFld (G := mkG _ _ _ _ _ _ _ _ _) (k := 1) T.xl_InvalidText (by show 1 < 2; decide) T.xn_InvalidText hz hf rfl (Or.inl rfl)) jaNil)) (jaCons (by exact jIs (G := mkG _ _ _ _ _ _ _ _ _) (i := 1) T.ec_InvalidText hz hf rfl (Or.inl rfl) rfl T.b_isinstance (pe_glob (v := .ref C_WayError) rfl T.mg_WayError rfl (by decide)) (fun u (h : u = Value.ref C_WayError) => h) T.is_InvalidText_WayError) jaNil)))))) .nil)) (hm_cons (mt_InvalidDeed_ok T) (hm_cons (mt_InvalidText_ok T) hm_nil))) zNil)
theorem ok_is_integer (T : Tx w K mg C_InvalidDeed C_InvalidText C_WayError c__law_act_right_ P__law_act_right_ c__law_line_right_ P__law_line_right_ c__law_right_ P__law_right_)  (B : Bx base mg C_InvalidDeed C_InvalidText C_WayError c__law_act_right_ P__law_act_right_ c__law_line_right_ P__law_line_right_ c__law_right_ P__law_right_) {f : Addr} {fd : FuncData} (F : FunD K "is_integer" "is_integer" (defArgs s_is_integer) (defBody s_is_integer) (defScope s_is_integer) [] [] f fd) : FnG P w K mg base CX0 1 f fd ["value"] (spF (mkG C_InvalidDeed C_InvalidText C_WayError c__law_act_right_ P__law_act_right_ c__law_line_right_ P__law_line_right_ c__law_right_ P__law_right_) K f_is_integer) := by
  refine fnG_D F sc_is_integer rfl rfl fun cdv A outer s H E hg hr => PSs.nox ?_
  have hu := hu64 hr
  have hu7 := hu70 hr
  exact (zCons (zRet (xAndB (xIsi1 .int (fun z => nomatch z) rfl T.b_isinstance rfl T.b_int (by decide +kernel) (xV 0)) (xOne (xNotB (xIsi1 .bool (fun z => nomatch z) rfl T.b_isinstance rfl T.b_bool (by decide +kernel) (xV 0))))))
    zNil)
theorem ok_is_deed (T : Tx w K mg C_InvalidDeed C_InvalidText C_WayError c__law_act_right_ P__law_act_right_ c__law_line_right_ P__law_line_right_ c__law_right_ P__law_right_)  (B : Bx base mg C_InvalidDeed C_InvalidText C_WayError c__law_act_right_ P__law_act_right_ c__law_line_right_ P__law_line_right_ c__law_right_ P__law_right_) {f : Addr} {fd : FuncData} (F : FunD K "is_deed" "is_deed" (defArgs s_is_deed) (defBody s_is_deed) (defScope s_is_deed) [] [] f fd) : FnG P w K mg base CX0 2 f fd ["value"] (spF (mkG C_InvalidDeed C_InvalidText C_WayError c__law_act_right_ P__law_act_right_ c__law_line_right_ P__law_line_right_ c__law_right_ P__law_right_) K f_is_deed) := by
  obtain ⟨a_is_integer, d_is_integer, F_is_integer, m_is_integer⟩ := T.F_is_integer
  have b_is_integer := bd_is_integer F_is_integer
  have k_is_integer := F_is_integer.kp
  have g_is_integer := ok_is_integer (P := P) (w := w) (base := base) T B F_is_integer
  obtain ⟨a_DEED_NUMBERS, c_DEED_NUMBERS, k_DEED_NUMBERS⟩ := T.g_DEED_NUMBERS
  refine fnG_D F sc_is_deed rfl rfl fun cdv A outer s H E hg hr => PSs.nox ?_
  have hu := hu64 hr
  have hu7 := hu70 hr
  exact (zCons (zIf (PW.pt (wOr (yNot (yB (xIsi1 .tuple (fun z => nomatch z) rfl T.b_isinstance rfl T.b_tuple (by decide +kernel) (xV 0)))) (wOr (yCmp (eq_ok hu) (isB_eq false) (bltn len_okB rfl T.b_len (by decide +kernel) (xaCons (xV 0) xaNil)) xInt (nomark _)) (wOneO (yNot (yB (xIsi1 .str (fun z => nomatch z) rfl T.b_isinstance rfl T.b_str (by decide +kernel) (xIx (xV 0) xInt)))))))) (zCons (zRet xBl)
    zNil) zNil)
    (zCons (zIf (PW.pt (wOr (yTnotinF (a := a_DEED_NUMBERS) k_DEED_NUMBERS rfl c_DEED_NUMBERS (xIx (xV 0) xInt)) (wOneO (yCmp (ne_ok hu) (isB_eq true) (bltn len_okB rfl T.b_len (by decide +kernel) (xaCons (xV 0) xaNil)) (x2 add_ok xInt (xTix (a := a_DEED_NUMBERS) k_DEED_NUMBERS.1 rfl c_DEED_NUMBERS (xIx (xV 0) xInt))) (nomark _))))) (zCons (zRet xBl)
    zNil) zNil)
    (zCons (zIf (PW.pt (wAnd (yCmp (eq_ok hu) (isB_eq false) (xIx (xV 0) xInt) xStr (nomark _)) (wOne (yIsN (xIx (xV 0) xInt))))) (zCons (zRet (xCall (cg_fn g_is_integer hg (hr.mono (by decide)) passes0 b_is_integer) rfl m_is_integer k_is_integer (xaCons (xIx (xV 0) xInt) xaNil)))
    zNil) zNil)
    (zCons (zRet (bltn (all_okB rfl) rfl T.b_all (by decide +kernel) (xaCons (xComp rfl sc_is_deed.nd (iSeq_ok (xSl (xV 0) (pSome_ok xInt) pNo_ok)) (blkOk_by (N := ["value", "number"]) (sc := defScope s_is_deed) (own := [("number", 1)]) (by decide +kernel)) rfl (tg1 1) (fun _ _ _ _ _ => pg_name (i := 1) sc_is_deed.nd rfl (Or.inl rfl)) (fun _ _ _ _ _ => ptsNil) (fun _ _ _ _ _ => (xCall (cg_fn g_is_integer hg (hr.mono (by decide)) passes0 b_is_integer) rfl m_is_integer k_is_integer (xaCons (xV 1) xaNil)))) xaNil)))
    zNil))))
theorem ok_line_of (T : Tx w K mg C_InvalidDeed C_InvalidText C_WayError c__law_act_right_ P__law_act_right_ c__law_line_right_ P__law_line_right_ c__law_right_ P__law_right_)  (B : Bx base mg C_InvalidDeed C_InvalidText C_WayError c__law_act_right_ P__law_act_right_ c__law_line_right_ P__law_line_right_ c__law_right_ P__law_right_) {f : Addr} {fd : FuncData} (F : FunD K "line_of" "line_of" (defArgs s_line_of) (defBody s_line_of) (defScope s_line_of) [] [] f fd) : FnG P w K mg base (L2.CX P w) 3 f fd ["deed"] (spF (mkG C_InvalidDeed C_InvalidText C_WayError c__law_act_right_ P__law_act_right_ c__law_line_right_ P__law_line_right_ c__law_right_ P__law_right_) K f_line_of) := by
  obtain ⟨a_is_deed, d_is_deed, F_is_deed, m_is_deed⟩ := T.F_is_deed
  have b_is_deed := bd_is_deed F_is_deed
  have k_is_deed := F_is_deed.kp
  have g_is_deed := ok_is_deed (P := P) (w := w) (base := base) T B F_is_deed
  obtain ⟨a_InvalidDeed___init__, d_InvalidDeed___init__, F_InvalidDeed___init__, i_InvalidDeed___init__, t_InvalidDeed___init__⟩ := T.F_InvalidDeed___init__
  have fx_InvalidDeed___init__ := fn_x1 (P := P) (w := w) (mg := mg) (base := base) (f := nmF 0) F_InvalidDeed___init__ sc_InvalidDeed___init__ (Or.inl rfl) (Or.inl rfl)
  have bx_InvalidDeed___init__ := binds_x (ps := ["self", "value"]) F_InvalidDeed___init__ fun _ _ _ _ _ _ us hl => match us, hl with | [_, _], _ => rfl
  obtain ⟨t_NOTHING, c_NOTHING⟩ := T.g_NOTHING
  refine fnG_D F sc_line_of rfl rfl fun cdv A outer s H E hg hr => ?_
  have tk := takes_cx (P := P) (w := w) (K := K) (mg := mg) (base := base) (N := ["deed", "part"]) (qual := "line_of") (scope := defScope s_line_of) (f := f) (cdv := cdv) (A := A) (outer := outer) (s := s) (H := H) (E := E)
  have hu := hu64 hr
  have hu7 := hu70 hr
  exact (zCons (zIf (yNot (yB (xCall (cg_fn g_is_deed hg (hr.mono (by decide)) passes0 b_is_deed) rfl m_is_deed k_is_deed (xaCons (xV 0) xaNil)))) (zCons (zRaise1 (c := 0) (i := 0) rfl tk T.x_InvalidDeed (by show 0 < 2; decide) T.xh_InvalidDeed i_InvalidDeed___init__ t_InvalidDeed___init__ fx_InvalidDeed___init__ (hr.mono (by decide)) bx_InvalidDeed___init__ rfl T.mg_InvalidDeed (xV 0))
    zNil) zNil)
    (zCons (zRet (xJoinL xStr (x2 add_ok (xLst (xaCons (xIx (xV 0) xInt) xaNil)) (xComp rfl sc_line_of.nd (iSeq_ok (xSl (xV 0) (pSome_ok xInt) pNo_ok)) (blkOk_by (N := ["deed", "part"]) (sc := defScope s_line_of) (own := [("part", 1)]) (by decide +kernel)) rfl (tg1 1) (fun _ _ _ _ _ => pg_name (i := 1) sc_line_of.nd rfl (Or.inl rfl)) (fun _ _ _ _ _ => ptsNil) (fun _ _ _ _ _ => (xIf (yIsN (xV 1)) (xGlob (v := .str "none") rfl c_NOTHING ⟨_, rfl⟩ (fun _ _ _ => .str _)) (bltnT str_okB rfl T.b_str (by decide +kernel) (xaCons (xV 1) xaNil))))))))
    zNil))
theorem ok__law_integer (T : Tx w K mg C_InvalidDeed C_InvalidText C_WayError c__law_act_right_ P__law_act_right_ c__law_line_right_ P__law_line_right_ c__law_right_ P__law_right_)  (B : Bx base mg C_InvalidDeed C_InvalidText C_WayError c__law_act_right_ P__law_act_right_ c__law_line_right_ P__law_line_right_ c__law_right_ P__law_right_) {f : Addr} {fd : FuncData} (F : FunD K "_law_integer" "_law_integer" (defArgs s__law_integer) (defBody s__law_integer) (defScope s__law_integer) [] [] f fd) : FnG P w K mg base CX0 1 f fd ["_law_word"] (spF (mkG C_InvalidDeed C_InvalidText C_WayError c__law_act_right_ P__law_act_right_ c__law_line_right_ P__law_line_right_ c__law_right_ P__law_right_) K f__law_integer) := by
  refine fnG_D F sc__law_integer rfl rfl fun cdv A outer s H E hg hr => PSs.nox ?_
  have hu := hu64 hr
  have hu7 := hu70 hr
  exact (zCons (zSet (i := 1) sc__law_integer.nd rfl (Or.inl rfl) (xIf (yCmp (eq_ok hu) (isB_eq false) (xSlS (xV 0) pNo_ok (pSome_ok xInt)) xStr (nomark _)) (xSlS (xV 0) (pSome_ok xInt) pNo_ok) (xV 0)))
    (zCons (zIf (PW.pt (wOr (yCmp (eq_ok hu) (isB_eq false) (xV 1) xStr (nomark _)) (wOneO (yNot (yB (bltn (all_okB rfl) rfl T.b_all (by decide +kernel) (xaCons (xComp rfl sc__law_integer.nd (iStr_ok (xV 1)) (blkOk_by (N := ["_law_word", "_law_digits", "_law_total", "_law_sign"]) (sc := defScope s__law_integer) (own := [("_law_sign", 3)]) (by decide +kernel)) rfl (tg1 3) (fun _ _ _ _ _ => pg_name (i := 3) sc__law_integer.nd rfl (Or.inl rfl)) (fun _ _ _ _ _ => ptsNil) (fun _ _ _ _ _ => (xCmp inS_ok (xV 3) xStr rfl))) xaNil))))))) (zCons (zRet xNon)
    zNil) zNil)
    (zCons (zIf (PW.pt (wAnd (yCmp (eq_ok hu) (isB_eq false) (xIxS (xV 1) xInt) xStr (nomark _)) (wOne (yCmp (ne_ok hu) (isB_eq true) (xV 0) xStr (nomark _))))) (zCons (zRet xNon)
    zNil) zNil)
    (zCons (zSet (i := 2) sc__law_integer.nd rfl (Or.inl rfl) xInt)
    (zCons (zFor PassesOwn.never rfl (iStr_ok (xV 1)) (gName_ok (i := 3) sc__law_integer.nd rfl (Or.inl rfl)) (zCons (zSet (i := 2) sc__law_integer.nd rfl (Or.inl rfl) (x2 add_ok (x2 mul_ok xInt (xV 2)) (xSIx xStr (xV 3))))
    zNil))
    (zCons (zRet (xIf (yCmp (eq_ok hu) (isB_eq false) (xSlS (xV 0) pNo_ok (pSome_ok xInt)) xStr (nomark _)) (x2 sub_ok xInt (xV 2)) (xV 2)))
    zNil))))))
theorem ok__law_read (T : Tx w K mg C_InvalidDeed C_InvalidText C_WayError c__law_act_right_ P__law_act_right_ c__law_line_right_ P__law_line_right_ c__law_right_ P__law_right_)  (B : Bx base mg C_InvalidDeed C_InvalidText C_WayError c__law_act_right_ P__law_act_right_ c__law_line_right_ P__law_line_right_ c__law_right_ P__law_right_) {f : Addr} {fd : FuncData} (F : FunD K "_law_read" "_law_read" (defArgs s__law_read) (defBody s__law_read) (defScope s__law_read) [] [] f fd) : FnG P w K mg base CX0 2 f fd ["_law_spelled_here"] (spF (mkG C_InvalidDeed C_InvalidText C_WayError c__law_act_right_ P__law_act_right_ c__law_line_right_ P__law_line_right_ c__law_right_ P__law_right_) K f__law_read) := by
  obtain ⟨a__law_lots, d__law_lots, F__law_lots, m__law_lots⟩ := T.F__law_lots
  have b__law_lots := bd__law_lots F__law_lots
  have k__law_lots := F__law_lots.kp
  have g__law_lots := ok__law_lots (P := P) (w := w) (base := base) T B F__law_lots
  obtain ⟨a__law_integer, d__law_integer, F__law_integer, m__law_integer⟩ := T.F__law_integer
  have b__law_integer := bd__law_integer F__law_integer
  have k__law_integer := F__law_integer.kp
  have g__law_integer := ok__law_integer (P := P) (w := w) (base := base) T B F__law_integer
  refine fnG_D F sc__law_read rfl rfl fun cdv A outer s H E hg hr => PSs.nox ?_
  have hu := hu64 hr
  have hu7 := hu70 hr
  exact (zCons (zSet (i := 1) sc__law_read.nd rfl (Or.inl rfl) (xSplit (xV 0) xStr))
    (zCons (zIf (PW.pt (wOr (yCmp (dnotin_ok (hu1_of hu7)) (isB_din true) (xIx (xV 1) xInt) (xCall0 (cg_fn g__law_lots hg (hr.mono (by decide)) passes0 b__law_lots) rfl m__law_lots k__law_lots) rfl) (wOneO (yCmp (ne_ok hu) (isB_eq true) (bltn len_okB rfl T.b_len (by decide +kernel) (xaCons (xV 1) xaNil)) (x2 add_ok xInt (xDg (hu1_of hu7) (xCall0 (cg_fn g__law_lots hg (hr.mono (by decide)) passes0 b__law_lots) rfl m__law_lots k__law_lots) (xIx (xV 1) xInt))) (nomark _))))) (zCons (zRet xNon)
    zNil) zNil)
    (zCons (zSet (i := 2) sc__law_read.nd rfl (Or.inl rfl) (x2 add_ok (xLst (xaCons (xIx (xV 1) xInt) xaNil)) (xComp rfl sc__law_read.nd (iSeq_ok (xSl (xV 1) (pSome_ok xInt) pNo_ok)) (blkOk_by (N := ["_law_spelled_here", "_law_words", "_law_found", "_law_word"]) (sc := defScope s__law_read) (own := [("_law_word", 3)]) (by decide +kernel)) rfl (tg1 3) (fun _ _ _ _ _ => pg_name (i := 3) sc__law_read.nd rfl (Or.inl rfl)) (fun _ _ _ _ _ => ptsNil) (fun _ _ _ _ _ => (xCall (cg_fn g__law_integer hg (hr.mono (by decide)) passes0 b__law_integer) rfl m__law_integer k__law_integer (xaCons (xV 3) xaNil))))))
    (zCons (zIf (PW.pt (wAnd (yCmp (eq_ok hu) (isB_eq false) (xIx (xV 1) xInt) xStr (nomark _)) (wOne (yCmp (eq_ok hu) (isB_eq false) (xIx (xV 1) xInt) xStr (nomark _))))) (zCons (zRet (xIf (yIsN (xIx (xV 2) xInt)) xNon (xTup (xaCons (xIx (xV 1) xInt) (xaCons (xIx (xV 2) xInt) (xaCons xNon xaNil))))))
    zNil) zNil)
    (zCons (zRet (xIf (yCmp in_ok (isB_in false) xNon (xV 2) rfl) xNon (bltnT tuple_okB rfl T.b_tuple (by decide +kernel) (xaCons (xV 2) xaNil))))
    zNil)))))
theorem ok_number_of (T : Tx w K mg C_InvalidDeed C_InvalidText C_WayError c__law_act_right_ P__law_act_right_ c__law_line_right_ P__law_line_right_ c__law_right_ P__law_right_)  (B : Bx base mg C_InvalidDeed C_InvalidText C_WayError c__law_act_right_ P__law_act_right_ c__law_line_right_ P__law_line_right_ c__law_right_ P__law_right_) {f : Addr} {fd : FuncData} (F : FunD K "number_of" "number_of" (defArgs s_number_of) (defBody s_number_of) (defScope s_number_of) [] [] f fd) : FnG P w K mg base CX0 1 f fd ["word"] (spF (mkG C_InvalidDeed C_InvalidText C_WayError c__law_act_right_ P__law_act_right_ c__law_line_right_ P__law_line_right_ c__law_right_ P__law_right_) K f_number_of) := by
  obtain ⟨t_DIGITS, c_DIGITS⟩ := T.g_DIGITS
  refine fnG_D F sc_number_of rfl rfl fun cdv A outer s H E hg hr => PSs.nox ?_
  have hu := hu64 hr
  have hu7 := hu70 hr
  exact (zCons (zSet (i := 1) sc_number_of.nd rfl (Or.inl rfl) (xIf (yCmp (eq_ok hu) (isB_eq false) (xSlS (xV 0) pNo_ok (pSome_ok xInt)) xStr (nomark _)) (xSlS (xV 0) (pSome_ok xInt) pNo_ok) (xV 0)))
    (zCons (zIf (PW.pt (wOr (yCmp (eq_ok hu) (isB_eq false) (xV 1) xStr (nomark _)) (wOneO (yNot (yB (bltn (all_okB rfl) rfl T.b_all (by decide +kernel) (xaCons (xComp rfl sc_number_of.nd (iStr_ok (xV 1)) (blkOk_by (N := ["word", "digits", "digit"]) (sc := defScope s_number_of) (own := [("digit", 2)]) (by decide +kernel)) rfl (tg1 2) (fun _ _ _ _ _ => pg_name (i := 2) sc_number_of.nd rfl (Or.inl rfl)) (fun _ _ _ _ _ => ptsNil) (fun _ _ _ _ _ => (xCmp inS_ok (xV 2) (xGlob (v := .str "0123456789") rfl c_DIGITS ⟨_, rfl⟩ (fun _ _ _ => .str _)) rfl))) xaNil))))))) (zCons (zRet xNon)
    zNil) zNil)
    (zCons (zIf (PW.pt (wAnd (yCmp (eq_ok hu) (isB_eq false) (xIxS (xV 1) xInt) xStr (nomark _)) (wOne (yCmp (ne_ok hu) (isB_eq true) (xV 0) xStr (nomark _))))) (zCons (zRet xNon)
    zNil) zNil)
    (zCons (zRet (bltnT intS_okB rfl T.b_int (by decide +kernel) (xaCons (xV 0) xaNil)))
    zNil))))
theorem ok_read_deed (T : Tx w K mg C_InvalidDeed C_InvalidText C_WayError c__law_act_right_ P__law_act_right_ c__law_line_right_ P__law_line_right_ c__law_right_ P__law_right_)  (B : Bx base mg C_InvalidDeed C_InvalidText C_WayError c__law_act_right_ P__law_act_right_ c__law_line_right_ P__law_line_right_ c__law_right_ P__law_right_) {f : Addr} {fd : FuncData} (F : FunD K "read_deed" "read_deed" (defArgs s_read_deed) (defBody s_read_deed) (defScope s_read_deed) [] [] f fd) : FnG P w K mg base (L2.CX P w) 4 f fd ["line"] (spF (mkG C_InvalidDeed C_InvalidText C_WayError c__law_act_right_ P__law_act_right_ c__law_line_right_ P__law_line_right_ c__law_right_ P__law_right_) K f_read_deed) := by
  obtain ⟨a_InvalidText___init__, d_InvalidText___init__, F_InvalidText___init__, i_InvalidText___init__, t_InvalidText___init__⟩ := T.F_InvalidText___init__
  have fx_InvalidText___init__ := fn_x1 (P := P) (w := w) (mg := mg) (base := base) (f := nmF 1) F_InvalidText___init__ sc_InvalidText___init__ (Or.inl rfl) (Or.inl rfl)
  have bx_InvalidText___init__ := binds_x (ps := ["self", "line"]) F_InvalidText___init__ fun _ _ _ _ _ _ us hl => match us, hl with | [_, _], _ => rfl
  obtain ⟨a_number_of, d_number_of, F_number_of, m_number_of⟩ := T.F_number_of
  have b_number_of := bd_number_of F_number_of
  have k_number_of := F_number_of.kp
  have g_number_of := ok_number_of (P := P) (w := w) (base := base) T B F_number_of
  obtain ⟨a_is_deed, d_is_deed, F_is_deed, m_is_deed⟩ := T.F_is_deed
  have b_is_deed := bd_is_deed F_is_deed
  have k_is_deed := F_is_deed.kp
  have g_is_deed := ok_is_deed (P := P) (w := w) (base := base) T B F_is_deed
  obtain ⟨a_line_of, d_line_of, F_line_of, m_line_of⟩ := T.F_line_of
  have b_line_of := bd_line_of F_line_of
  have k_line_of := F_line_of.kp
  have g_line_of := ok_line_of (P := P) (w := w) (base := base) T B F_line_of
  obtain ⟨t_NOTHING, c_NOTHING⟩ := T.g_NOTHING
  refine fnG_D F sc_read_deed rfl rfl fun cdv A outer s H E hg hr => ?_
  have tk := takes_cx (P := P) (w := w) (K := K) (mg := mg) (base := base) (N := ["line", "words", "parts", "deed", "word"]) (qual := "read_deed") (scope := defScope s_read_deed) (f := f) (cdv := cdv) (A := A) (outer := outer) (s := s) (H := H) (E := E)
  have hu := hu64 hr
  have hu7 := hu70 hr
  exact (zCons (zIf (yNot (yB (xIsi1 .str (fun z => nomatch z) rfl T.b_isinstance rfl T.b_str (by decide +kernel) (xV 0)))) (zCons (zRaise1 (c := 1) (i := 1) rfl tk T.x_InvalidText (by show 1 < 2; decide) T.xh_InvalidText i_InvalidText___init__ t_InvalidText___init__ fx_InvalidText___init__ (hr.mono (by decide)) bx_InvalidText___init__ rfl T.mg_InvalidText xInt)
    zNil) zNil)
    (zCons (zSet (i := 1) sc_read_deed.nd rfl (Or.inl rfl) (xSplit (xV 0) xStr))
    (zCons (zSetLc (i := 2) rfl sc_read_deed.nd rfl rfl (sw_true rfl rfl rfl (by decide +kernel)) (iSeq_ok (xSl (xV 1) (pSome_ok xInt) pNo_ok)) (blkOk_by (N := ["line", "words", "parts", "deed", "word"]) (sc := defScope s_read_deed) (own := [("word", 4)]) (by decide +kernel)) rfl (tg1 4) (fun _ _ _ _ _ => pg_name (i := 4) sc_read_deed.nd rfl (Or.inl rfl)) (fun _ _ _ _ _ => ptsNil) (fun _ _ _ _ _ => (xIf (yCmp (eq_ok hu) (isB_eq false) (xV 4) (xGlob (v := .str "none") rfl c_NOTHING ⟨_, rfl⟩ (fun _ _ _ => .str _)) (nomark _)) xNon (xCall (cg_fn g_number_of hg (hr.mono (by decide)) passes0 b_number_of) rfl m_number_of k_number_of (xaCons (xV 4) xaNil)))))
    (zCons (zSet (i := 3) sc_read_deed.nd rfl (Or.inl rfl) (xTup (xaCons (xIx (xV 1) xInt) (xaStar (xV 2) xaNil))))
    (zCons (zIf (PW.pt (wOr (yNot (yB (xCall (cg_fn g_is_deed hg (hr.mono (by decide)) passes0 b_is_deed) rfl m_is_deed k_is_deed (xaCons (xV 3) xaNil)))) (wOneO (yCmp (ne_ok hu) (isB_eq true) (xCall (cg_fn g_line_of hg (hr.mono (by decide)) (passesX tk) b_line_of) rfl m_line_of k_line_of (xaCons (xV 3) xaNil)) (xV 0) (nomark _))))) (zCons (zRaise1 (c := 1) (i := 1) rfl tk T.x_InvalidText (by show 1 < 2; decide) T.xh_InvalidText i_InvalidText___init__ t_InvalidText___init__ fx_InvalidText___init__ (hr.mono (by decide)) bx_InvalidText___init__ rfl T.mg_InvalidText xInt)
    zNil) zNil)
    (zCons (zRet (xV 3))
    zNil))))))
theorem ok__law_line_right (T : Tx w K mg C_InvalidDeed C_InvalidText C_WayError c__law_act_right_ P__law_act_right_ c__law_line_right_ P__law_line_right_ c__law_right_ P__law_right_)  (B : Bx base mg C_InvalidDeed C_InvalidText C_WayError c__law_act_right_ P__law_act_right_ c__law_line_right_ P__law_line_right_ c__law_right_ P__law_right_) {f : Addr} {fd : FuncData} (F : FunD K "_law_line_right" "_law_line_right" (defArgs s__law_line_right) (defBody s__law_line_right) (defScope s__law_line_right) [] [] f fd) (M : FunM K "_law_line_right" "_law_line_right" (defArgs s__law_line_right) (defBody s__law_line_right) (defScope s__law_line_right) c__law_line_right_ f fd) : FnG P w K mg base CX0 7 f fd ["_law_spelled_here"] (spF (mkG C_InvalidDeed C_InvalidText C_WayError c__law_act_right_ P__law_act_right_ c__law_line_right_ P__law_line_right_ c__law_right_ P__law_right_) K f__law_line_right) := by
  obtain ⟨a__law_read, d__law_read, F__law_read, m__law_read⟩ := T.F__law_read
  have b__law_read := bd__law_read F__law_read
  have k__law_read := F__law_read.kp
  have g__law_read := ok__law_read (P := P) (w := w) (base := base) T B F__law_read
  obtain ⟨a__law_heard, d__law_heard, F__law_heard, m__law_heard⟩ := T.F__law_heard
  have b__law_heard := bd__law_heard F__law_heard
  have k__law_heard := F__law_heard.kp
  obtain ⟨a_read_deed, d_read_deed, F_read_deed, m_read_deed⟩ := T.F_read_deed
  have b_read_deed := bd_read_deed F_read_deed
  have k_read_deed := F_read_deed.kp
  have g_read_deed := ok_read_deed (P := P) (w := w) (base := base) T B F_read_deed
  refine fnG_M M sc__law_line_right rfl rfl fun A outer s H E hg hr => PSs.nox ?_
  have hu := hu64 hr
  have hu7 := hu70 hr
  exact (zCons (zSet (i := 1) sc__law_line_right.nd rfl (Or.inl rfl) (xCall (cg_fn g__law_read hg (hr.mono (by decide)) passes0 b__law_read) rfl m__law_read k__law_read (xaCons (xV 0) xaNil)))
    (zCons (zSet (i := 2) sc__law_line_right.nd rfl (Or.inl rfl) (xIf (yIsN (xV 1)) (xLst (xaCons xStr (xaCons xStr (xaCons xBl xaNil)))) (xLst (xaCons xStr (xaCons (bltn (repK_ok hg hu7) rfl T.b_repr (by decide +kernel) (xaCons (xV 1) xaNil)) xaNil)))))
    (zCons (zIf (yCmp (ne_ok hu) (isB_eq true) (xTold (n := 1) (k := 4) F__law_heard sc__law_heard rfl rfl (Or.inl rfl) (fun _ _ _ _ _ _ us hl => match us, hl with | [_], _ => rfl) ((told__law_heard T (g := a__law_heard)).up (by decide)) rfl m__law_heard B.b__law_line_right rfl in__law_line_right (un__law_line_right T) hg (hr.mono (by decide)) (LamX.lamS_by rfl) rfl (fun _ _ _ _ _ => rfl) (fun f c' A outer s H E hg hr => by have hu := hu64 hr; have hu7 := hu70 hr; exact (by refine xCall0K ?_ rfl m_read_deed k_read_deed (kCons (xV 0) kNil); exact (cg_fn g_read_deed hg (hr.mono (by decide)) (passesX takesL) (b_read_deed_line F_read_deed))))) (xV 2) (nomark _)) (zCons (zRet xBl)
    zNil) zNil)
    (zCons (zRet (xCmp (eq_ok hu) (xTold (n := 1) (k := 4) F__law_heard sc__law_heard rfl rfl (Or.inl rfl) (fun _ _ _ _ _ _ us hl => match us, hl with | [_], _ => rfl) ((told__law_heard T (g := a__law_heard)).up (by decide)) rfl m__law_heard B.b__law_line_right rfl in__law_line_right (un__law_line_right T) hg (hr.mono (by decide)) (LamX.lamS_by rfl) rfl (fun _ _ _ _ _ => rfl) (fun f c' A outer s H E hg hr => by have hu := hu64 hr; have hu7 := hu70 hr; exact (xCall (cg_fn g_read_deed hg (hr.mono (by decide)) (passesX takesL) b_read_deed) rfl m_read_deed k_read_deed (xaCons (xV 0) xaNil)))) (xV 2) (nomark _)))
    zNil))))
theorem ok__law_odd_acts (T : Tx w K mg C_InvalidDeed C_InvalidText C_WayError c__law_act_right_ P__law_act_right_ c__law_line_right_ P__law_line_right_ c__law_right_ P__law_right_)  (B : Bx base mg C_InvalidDeed C_InvalidText C_WayError c__law_act_right_ P__law_act_right_ c__law_line_right_ P__law_line_right_ c__law_right_ P__law_right_) {f : Addr} {fd : FuncData} (F : FunD K "_law_odd_acts" "_law_odd_acts" (defArgs s__law_odd_acts) (defBody s__law_odd_acts) (defScope s__law_odd_acts) [] [] f fd) : FnG P w K mg base CX0 2 f fd ["_law_pot_here", "_law_act_here"] (spF (mkG C_InvalidDeed C_InvalidText C_WayError c__law_act_right_ P__law_act_right_ c__law_line_right_ P__law_line_right_ c__law_right_ P__law_right_) K f__law_odd_acts) := by
  obtain ⟨a__law_draw, d__law_draw, F__law_draw, m__law_draw⟩ := T.F__law_draw
  have b__law_draw := bd__law_draw F__law_draw
  have k__law_draw := F__law_draw.kp
  have g__law_draw := ok__law_draw (P := P) (w := w) (base := base) T B F__law_draw
  obtain ⟨a__law_spelled, d__law_spelled, F__law_spelled, m__law_spelled⟩ := T.F__law_spelled
  have b__law_spelled := bd__law_spelled F__law_spelled
  have k__law_spelled := F__law_spelled.kp
  have g__law_spelled := ok__law_spelled (P := P) (w := w) (base := base) T B F__law_spelled
  refine fnG_D F sc__law_odd_acts rfl rfl fun cdv A outer s H E hg hr => PSs.nox ?_
  have hu := hu64 hr
  have hu7 := hu70 hr
  exact (zCons (zSet (i := 2) sc__law_odd_acts.nd rfl (Or.inl rfl) (x2 add_ok xInt (xCall (cg_fn g__law_draw hg (hr.mono (by decide)) passes0 b__law_draw) rfl m__law_draw k__law_draw (xaCons (xV 0) (xaCons (x2 sub_ok (bltn len_okB rfl T.b_len (by decide +kernel) (xaCons (xV 1) xaNil)) xInt) xaNil)))))
    (zCons (zSet (i := 3) sc__law_odd_acts.nd rfl (Or.inl rfl) (xLst (xaCons xNon (xaCons xInt (xaCons xStr (xaCons (xIx (xV 1) xInt) (xaCons (xCall (cg_fn g__law_spelled hg (hr.mono (by decide)) passes0 b__law_spelled) rfl m__law_spelled k__law_spelled (xaCons (xV 1) xaNil)) (xaCons (bltnT (listK_okB rfl) rfl T.b_list (by decide +kernel) (xaCons (xV 1) xaNil)) (xaCons (xSl (xV 1) pNo_ok (pSome_ok (xNeg xInt))) (xaCons (x2 add_ok (xV 1) (xTup (xaCons xInt xaNil))) (xaCons (xTup xaNil) (xaCons (xTup (xaCons (xV 1) xaNil)) (xaCons (xLst (xaCons (xV 1) xaNil)) (xaCons xDnew (xaCons (xSl (xV 1) (pSome_ok xInt) pNo_ok) xaNil)))))))))))))))
    (zCons (zFor PassesOwn.never rfl (iSeq_ok (xLst (xaCons xBl (xaCons xStr (xaCons (xTup (xaCons xInt xaNil)) (xaCons (xLst (xaCons xInt xaNil)) (xaCons xStr (xaCons xBl xaNil)))))))) (gName_ok (i := 4) sc__law_odd_acts.nd rfl (Or.inl rfl)) (zCons (zE (xAppend (xV 3) (xaCons (x2 add_ok (x2 add_ok (xSl (xV 1) pNo_ok (pSome_ok (xV 2))) (xTup (xaCons (xV 4) xaNil))) (xSl (xV 1) (pSome_ok (x2 add_ok (xV 2) xInt)) pNo_ok)) xaNil)))
    zNil))
    (zCons (zE (xExtend (xV 3) (xaCons (xLst (xaCons (x2 add_ok (xTup (xaCons xNon xaNil)) (xSl (xV 1) (pSome_ok xInt) pNo_ok)) (xaCons (x2 add_ok (xTup (xaCons (xUp (xIx (xV 1) xInt)) xaNil)) (xSl (xV 1) (pSome_ok xInt) pNo_ok)) (xaCons (x2 add_ok (xTup (xaCons xStr xaNil)) (xSl (xV 1) (pSome_ok xInt) pNo_ok)) (xaCons (x2 add_ok (xTup (xaCons xInt xaNil)) (xSl (xV 1) (pSome_ok xInt) pNo_ok)) xaNil))))) xaNil)))
    (zCons (zIf (PW.pt (wOr (yCmp (ne_ok hu) (isB_eq true) (xIx (xV 1) xInt) xStr (nomark _)) (wOneO (yCmp (eq_ok hu) (isB_eq false) (xV 2) xInt (nomark _))))) (zCons (zE (xAppend (xV 3) (xaCons (x2 add_ok (x2 add_ok (xSl (xV 1) pNo_ok (pSome_ok (xV 2))) (xTup (xaCons xNon xaNil))) (xSl (xV 1) (pSome_ok (x2 add_ok (xV 2) xInt)) pNo_ok)) xaNil)))
    zNil) zNil)
    (zCons (zRet (xV 3))
    zNil))))))
theorem ok__law_act_right (T : Tx w K mg C_InvalidDeed C_InvalidText C_WayError c__law_act_right_ P__law_act_right_ c__law_line_right_ P__law_line_right_ c__law_right_ P__law_right_)  (B : Bx base mg C_InvalidDeed C_InvalidText C_WayError c__law_act_right_ P__law_act_right_ c__law_line_right_ P__law_line_right_ c__law_right_ P__law_right_) {f : Addr} {fd : FuncData} (F : FunD K "_law_act_right" "_law_act_right" (defArgs s__law_act_right) (defBody s__law_act_right) (defScope s__law_act_right) [] [] f fd) (M : FunM K "_law_act_right" "_law_act_right" (defArgs s__law_act_right) (defBody s__law_act_right) (defScope s__law_act_right) c__law_act_right_ f fd) : FnG P w K mg base CX0 8 f fd ["_law_pot_here", "_law_act_here"] (spF (mkG C_InvalidDeed C_InvalidText C_WayError c__law_act_right_ P__law_act_right_ c__law_line_right_ P__law_line_right_ c__law_right_ P__law_right_) K f__law_act_right) := by
  obtain ⟨a__law_spelled, d__law_spelled, F__law_spelled, m__law_spelled⟩ := T.F__law_spelled
  have b__law_spelled := bd__law_spelled F__law_spelled
  have k__law_spelled := F__law_spelled.kp
  have g__law_spelled := ok__law_spelled (P := P) (w := w) (base := base) T B F__law_spelled
  obtain ⟨a__law_heard, d__law_heard, F__law_heard, m__law_heard⟩ := T.F__law_heard
  have b__law_heard := bd__law_heard F__law_heard
  have k__law_heard := F__law_heard.kp
  obtain ⟨a_line_of, d_line_of, F_line_of, m_line_of⟩ := T.F_line_of
  have b_line_of := bd_line_of F_line_of
  have k_line_of := F_line_of.kp
  have g_line_of := ok_line_of (P := P) (w := w) (base := base) T B F_line_of
  obtain ⟨a__law_line_right, d__law_line_right, F__law_line_right, m__law_line_right, M__law_line_right⟩ := T.F__law_line_right
  have b__law_line_right := bd__law_line_right F__law_line_right
  have k__law_line_right := F__law_line_right.kp
  have g__law_line_right := ok__law_line_right (P := P) (w := w) (base := base) T B F__law_line_right M__law_line_right
  obtain ⟨a__law_read, d__law_read, F__law_read, m__law_read⟩ := T.F__law_read
  have b__law_read := bd__law_read F__law_read
  have k__law_read := F__law_read.kp
  have g__law_read := ok__law_read (P := P) (w := w) (base := base) T B F__law_read
  obtain ⟨a__law_odd_acts, d__law_odd_acts, F__law_odd_acts, m__law_odd_acts⟩ := T.F__law_odd_acts
  have b__law_odd_acts := bd__law_odd_acts F__law_odd_acts
  have k__law_odd_acts := F__law_odd_acts.kp
  have g__law_odd_acts := ok__law_odd_acts (P := P) (w := w) (base := base) T B F__law_odd_acts
  refine fnG_M M sc__law_act_right rfl rfl fun A outer s H E hg hr => PSs.nox ?_
  have hu := hu64 hr
  have hu7 := hu70 hr
  exact (zCons (zSet (i := 2) sc__law_act_right.nd rfl (Or.inl rfl) (xCall (cg_fn g__law_spelled hg (hr.mono (by decide)) passes0 b__law_spelled) rfl m__law_spelled k__law_spelled (xaCons (xV 1) xaNil)))
    (zCons (zIf (yCmp (ne_ok hu) (isB_eq true) (xTold (n := 1) (k := 3) F__law_heard sc__law_heard rfl rfl (Or.inl rfl) (fun _ _ _ _ _ _ us hl => match us, hl with | [_], _ => rfl) ((told__law_heard T (g := a__law_heard)).up (by decide)) rfl m__law_heard B.b__law_act_right rfl in__law_act_right (un__law_act_right T) hg (hr.mono (by decide)) (LamX.lamS_by rfl) rfl (fun _ _ _ _ _ => rfl) (fun f c' A outer s H E hg hr => by have hu := hu64 hr; have hu7 := hu70 hr; exact (xCall (cg_fn g_line_of hg (hr.mono (by decide)) (passesX takesL) b_line_of) rfl m_line_of k_line_of (xaCons (xV 1) xaNil)))) (xLst (xaCons xStr (xaCons (bltn (repK_ok hg hu7) rfl T.b_repr (by decide +kernel) (xaCons (xV 2) xaNil)) xaNil))) (nomark _)) (zCons (zRet xBl)
    zNil) zNil)
    (zCons (zIf (yCmp (ne_ok hu) (isB_eq true) (xTold (n := 1) (k := 3) F__law_heard sc__law_heard rfl rfl (Or.inl rfl) (fun _ _ _ _ _ _ us hl => match us, hl with | [_], _ => rfl) ((told__law_heard T (g := a__law_heard)).up (by decide)) rfl m__law_heard B.b__law_act_right rfl in__law_act_right (un__law_act_right T) hg (hr.mono (by decide)) (LamX.lamS_by rfl) rfl (fun _ _ _ _ _ => rfl) (fun f c' A outer s H E hg hr => by have hu := hu64 hr; have hu7 := hu70 hr; exact (by refine xCall0K ?_ rfl m_line_of k_line_of (kCons (xV 1) kNil); exact (cg_fn g_line_of hg (hr.mono (by decide)) (passesX takesL) (b_line_of_deed F_line_of))))) (xLst (xaCons xStr (xaCons (bltn (repK_ok hg hu7) rfl T.b_repr (by decide +kernel) (xaCons (xV 2) xaNil)) xaNil))) (nomark _)) (zCons (zRet xBl)
    zNil) zNil)
    (zCons (zIf (PW.pt (wOr (yNot (yB (xCall (cg_fn g__law_line_right hg (hr.mono (by decide)) passes0 b__law_line_right) rfl m__law_line_right k__law_line_right (xaCons (xV 2) xaNil)))) (wOneO (yCmp (ne_ok hu) (isB_eq true) (bltn (repK_ok hg hu7) rfl T.b_repr (by decide +kernel) (xaCons (xCall (cg_fn g__law_read hg (hr.mono (by decide)) passes0 b__law_read) rfl m__law_read k__law_read (xaCons (xV 2) xaNil)) xaNil)) (bltn (repK_ok hg hu7) rfl T.b_repr (by decide +kernel) (xaCons (xV 1) xaNil)) (nomark _))))) (zCons (zRet xBl)
    zNil) zNil)
    (zCons (zFor PassesOwn.never rfl (iSeq_ok (xCall (cg_fn g__law_odd_acts hg (hr.mono (by decide)) passes0 b__law_odd_acts) rfl m__law_odd_acts k__law_odd_acts (xaCons (xV 0) (xaCons (xV 1) xaNil)))) (gName_ok (i := 3) sc__law_act_right.nd rfl (Or.inr rfl)) (zCons (zIf (yCmp (ne_ok hu) (isB_eq true) (xTold (n := 1) (k := 3) F__law_heard sc__law_heard rfl rfl (Or.inl rfl) (fun _ _ _ _ _ _ us hl => match us, hl with | [_], _ => rfl) ((told__law_heard T (g := a__law_heard)).up (by decide)) rfl m__law_heard B.b__law_act_right rfl in__law_act_right (un__law_act_right T) hg (hr.mono (by decide)) (LamX.lamS_by rfl) rfl (fun _ _ _ _ _ => rfl) (fun f c' A outer s H E hg hr => by have hu := hu64 hr; have hu7 := hu70 hr; exact (xCall (cg_fn g_line_of hg (hr.mono (by decide)) (passesX takesL) b_line_of) rfl m_line_of k_line_of (xaCons (xV 3) xaNil)))) (xLst (xaCons xStr (xaCons (bltn (repK_ok hg hu7) rfl T.b_repr (by decide +kernel) (xaCons (xV 3) xaNil)) (xaCons xBl xaNil)))) (nomark _)) (zCons (zRet xBl)
    zNil) zNil)
    zNil))
    (zCons (zRet xBl)
    zNil))))))
theorem ok__law_bent (T : Tx w K mg C_InvalidDeed C_InvalidText C_WayError c__law_act_right_ P__law_act_right_ c__law_line_right_ P__law_line_right_ c__law_right_ P__law_right_)  (B : Bx base mg C_InvalidDeed C_InvalidText C_WayError c__law_act_right_ P__law_act_right_ c__law_line_right_ P__law_line_right_ c__law_right_ P__law_right_) {f : Addr} {fd : FuncData} (F : FunD K "_law_bent" "_law_bent" (defArgs s__law_bent) (defBody s__law_bent) (defScope s__law_bent) [] [] f fd) : FnG P w K mg base CX0 3 f fd ["_law_pot_here", "_law_spelled_here"] (spF (mkG C_InvalidDeed C_InvalidText C_WayError c__law_act_right_ P__law_act_right_ c__law_line_right_ P__law_line_right_ c__law_right_ P__law_right_) K f__law_bent) := by
  obtain ⟨a__law_draw, d__law_draw, F__law_draw, m__law_draw⟩ := T.F__law_draw
  have b__law_draw := bd__law_draw F__law_draw
  have k__law_draw := F__law_draw.kp
  have g__law_draw := ok__law_draw (P := P) (w := w) (base := base) T B F__law_draw
  obtain ⟨a__law_pick, d__law_pick, F__law_pick, m__law_pick⟩ := T.F__law_pick
  have b__law_pick := bd__law_pick F__law_pick
  have k__law_pick := F__law_pick.kp
  have g__law_pick := ok__law_pick (P := P) (w := w) (base := base) T B F__law_pick
  obtain ⟨a__law_lots, d__law_lots, F__law_lots, m__law_lots⟩ := T.F__law_lots
  have b__law_lots := bd__law_lots F__law_lots
  have k__law_lots := F__law_lots.kp
  have g__law_lots := ok__law_lots (P := P) (w := w) (base := base) T B F__law_lots
  refine fnG_D F sc__law_bent rfl rfl fun cdv A outer s H E hg hr => PSs.nox ?_
  have hu := hu64 hr
  have hu7 := hu70 hr
  exact (zCons (zPar (i := 3) (j := 4) rfl sc__law_bent.nd rfl rfl (by decide) rfl rfl (xaCons (xSplit (xV 1) xStr) (xaCons (xCall (cg_fn g__law_draw hg (hr.mono (by decide)) passes0 b__law_draw) rfl m__law_draw k__law_draw (xaCons (xV 0) (xaCons xInt xaNil))) xaNil)) rfl)
    (zCons (zSet (i := 2) sc__law_bent.nd rfl (Or.inl rfl) (xCall (cg_fn g__law_draw hg (hr.mono (by decide)) passes0 b__law_draw) rfl m__law_draw k__law_draw (xaCons (xV 0) (xaCons (bltn len_okB rfl T.b_len (by decide +kernel) (xaCons (xV 3) xaNil)) xaNil))))
    (zCons (zIf (yCmp (eq_ok hu) (isB_eq false) (xV 4) xInt (nomark _)) (zCons (zRet (xJoinL xStr (x2 add_ok (xSl (xV 3) pNo_ok (pSome_ok (xV 2))) (xSl (xV 3) (pSome_ok (x2 add_ok (xV 2) xInt)) pNo_ok))))
    zNil) zNil)
    (zCons (zIf (yCmp (eq_ok hu) (isB_eq false) (xV 4) xInt (nomark _)) (zCons (zRet (xJoinL xStr (x2 add_ok (x2 add_ok (xSl (xV 3) pNo_ok (pSome_ok (xV 2))) (xLst (xaCons (xIx (xV 3) (xV 2)) xaNil))) (xSl (xV 3) (pSome_ok (xV 2)) pNo_ok))))
    zNil) zNil)
    (zCons (zIf (yCmp (eq_ok hu) (isB_eq false) (xV 4) xInt (nomark _)) (zCons (zRet (xJoinL xStr (x2 add_ok (x2 add_ok (xSl (xV 3) pNo_ok (pSome_ok (xV 2))) (xLst (xaCons xStr xaNil))) (xSl (xV 3) (pSome_ok (xV 2)) pNo_ok))))
    zNil) zNil)
    (zCons (zIf (yCmp (eq_ok hu) (isB_eq false) (xV 4) xInt (nomark _)) (zCons (zRet (x2 add_ok (xV 1) (xCall (cg_fn g__law_pick hg (hr.mono (by decide)) passes0 b__law_pick) rfl m__law_pick k__law_pick (xaCons (xV 0) (xaCons (xLst (xaCons xStr (xaCons xStr (xaCons xStr (xaCons xStr (xaCons xStr (xaCons xStr xaNil))))))) xaNil)))))
    zNil) zNil)
    (zCons (zIf (yCmp (eq_ok hu) (isB_eq false) (xV 4) xInt (nomark _)) (zCons (zRet (x2 add_ok (xCall (cg_fn g__law_pick hg (hr.mono (by decide)) passes0 b__law_pick) rfl m__law_pick k__law_pick (xaCons (xV 0) (xaCons (xLst (xaCons xStr (xaCons xStr (xaCons xStr (xaCons xStr (xaCons xStr xaNil)))))) xaNil))) (xV 1)))
    zNil) zNil)
    (zCons (zIf (yCmp (eq_ok hu) (isB_eq false) (xV 4) xInt (nomark _)) (zCons (zSet (i := 5) sc__law_bent.nd rfl (Or.inl rfl) (xCall (cg_fn g__law_pick hg (hr.mono (by decide)) passes0 b__law_pick) rfl m__law_pick k__law_pick (xaCons (xV 0) (xaCons (xLst (xaCons (x2 add_ok xStr (xIx (xV 3) (xV 2))) (xaCons (x2 add_ok xStr (xIx (xV 3) (xV 2))) (xaCons (x2 add_ok xStr (xIx (xV 3) (xV 2))) (xaCons (x2 add_ok (xIx (xV 3) (xV 2)) xStr) (xaCons (xSlS (xIx (xV 3) (xV 2)) (pSome_ok xInt) pNo_ok) xaNil)))))) xaNil))))
    (zCons (zRet (xJoinL xStr (x2 add_ok (x2 add_ok (xSl (xV 3) pNo_ok (pSome_ok (xV 2))) (xLst (xaCons (xV 5) xaNil))) (xSl (xV 3) (pSome_ok (x2 add_ok (xV 2) xInt)) pNo_ok))))
    zNil)) zNil)
    (zCons (zIf (yCmp (eq_ok hu) (isB_eq false) (xV 4) xInt (nomark _)) (zCons (zSet (i := 5) sc__law_bent.nd rfl (Or.inl rfl) (xCall (cg_fn g__law_pick hg (hr.mono (by decide)) passes0 b__law_pick) rfl m__law_pick k__law_pick (xaCons (xV 0) (xaCons (xLst (xaCons xStr (xaCons xStr (xaCons xStr (xaCons xStr (xaCons xStr (xaCons xStr (xaCons xStr (xaCons xStr (xaCons xStr (xaCons xStr (xaCons xStr (xaCons xStr xaNil))))))))))))) xaNil))))
    (zCons (zRet (xJoinL xStr (x2 add_ok (x2 add_ok (xSl (xV 3) pNo_ok (pSome_ok (xV 2))) (xLst (xaCons (xV 5) xaNil))) (xSl (xV 3) (pSome_ok (x2 add_ok (xV 2) xInt)) pNo_ok))))
    zNil)) zNil)
    (zCons (zRet (x2 add_ok (xCall (cg_fn g__law_pick hg (hr.mono (by decide)) passes0 b__law_pick) rfl m__law_pick k__law_pick (xaCons (xV 0) (xaCons (bltnT (listK_okB rfl) rfl T.b_list (by decide +kernel) (xaCons (xCall0 (cg_fn g__law_lots hg (hr.mono (by decide)) passes0 b__law_lots) rfl m__law_lots k__law_lots) xaNil)) xaNil))) (xSlS (xV 1) (pSome_ok (bltn len_okB rfl T.b_len (by decide +kernel) (xaCons (xIx (xV 3) xInt) xaNil))) pNo_ok)))
    zNil))))))))))
theorem ok__law_right (T : Tx w K mg C_InvalidDeed C_InvalidText C_WayError c__law_act_right_ P__law_act_right_ c__law_line_right_ P__law_line_right_ c__law_right_ P__law_right_)  (B : Bx base mg C_InvalidDeed C_InvalidText C_WayError c__law_act_right_ P__law_act_right_ c__law_line_right_ P__law_line_right_ c__law_right_ P__law_right_) {f : Addr} {fd : FuncData} (F : FunD K "_law_right" "_law_right" (defArgs s__law_right) (defBody s__law_right) (defScope s__law_right) [] [] f fd) (M : FunM K "_law_right" "_law_right" (defArgs s__law_right) (defBody s__law_right) (defScope s__law_right) c__law_right_ f fd) : FnG P w K mg base CX0 9 f fd ["_law_pot_here"] (spF (mkG C_InvalidDeed C_InvalidText C_WayError c__law_act_right_ P__law_act_right_ c__law_line_right_ P__law_line_right_ c__law_right_ P__law_right_) K f__law_right) := by
  obtain ⟨a__law_act, d__law_act, F__law_act, m__law_act⟩ := T.F__law_act
  have b__law_act := bd__law_act F__law_act
  have k__law_act := F__law_act.kp
  have g__law_act := ok__law_act (P := P) (w := w) (base := base) T B F__law_act
  obtain ⟨a__law_act_right, d__law_act_right, F__law_act_right, m__law_act_right, M__law_act_right⟩ := T.F__law_act_right
  have b__law_act_right := bd__law_act_right F__law_act_right
  have k__law_act_right := F__law_act_right.kp
  have g__law_act_right := ok__law_act_right (P := P) (w := w) (base := base) T B F__law_act_right M__law_act_right
  obtain ⟨a__law_line_right, d__law_line_right, F__law_line_right, m__law_line_right, M__law_line_right⟩ := T.F__law_line_right
  have b__law_line_right := bd__law_line_right F__law_line_right
  have k__law_line_right := F__law_line_right.kp
  have g__law_line_right := ok__law_line_right (P := P) (w := w) (base := base) T B F__law_line_right M__law_line_right
  obtain ⟨a__law_bent, d__law_bent, F__law_bent, m__law_bent⟩ := T.F__law_bent
  have b__law_bent := bd__law_bent F__law_bent
  have k__law_bent := F__law_bent.kp
  have g__law_bent := ok__law_bent (P := P) (w := w) (base := base) T B F__law_bent
  obtain ⟨a__law_spelled, d__law_spelled, F__law_spelled, m__law_spelled⟩ := T.F__law_spelled
  have b__law_spelled := bd__law_spelled F__law_spelled
  have k__law_spelled := F__law_spelled.kp
  have g__law_spelled := ok__law_spelled (P := P) (w := w) (base := base) T B F__law_spelled
  obtain ⟨a__law_heard, d__law_heard, F__law_heard, m__law_heard⟩ := T.F__law_heard
  have b__law_heard := bd__law_heard F__law_heard
  have k__law_heard := F__law_heard.kp
  obtain ⟨a_read_deed, d_read_deed, F_read_deed, m_read_deed⟩ := T.F_read_deed
  have b_read_deed := bd_read_deed F_read_deed
  have k_read_deed := F_read_deed.kp
  have g_read_deed := ok_read_deed (P := P) (w := w) (base := base) T B F_read_deed
  refine fnG_M M sc__law_right rfl rfl fun A outer s H E hg hr => PSs.nox ?_
  have hu := hu64 hr
  have hu7 := hu70 hr
  exact (zCons (zSetLc (i := 1) rfl sc__law_right.nd rfl rfl (sw_true rfl rfl rfl (by decide +kernel)) (iRng1_ok rfl T.b_range xInt) (blkOk_by (N := ["_law_pot_here", "_law_acts", "_law_act_here", "_law_odd", "_law_turn"]) (sc := defScope s__law_right) (own := [("_law_turn", 4)]) (by decide +kernel)) rfl (tg1 4) (fun _ _ _ _ _ => pg_name (i := 4) sc__law_right.nd rfl (Or.inl rfl)) (fun _ _ _ _ _ => ptsNil) (fun _ _ _ _ _ => (xCall (cg_fn g__law_act hg (hr.mono (by decide)) passes0 b__law_act) rfl m__law_act k__law_act (xaCons (xV 0) xaNil))))
    (zCons (zFor PassesOwn.never rfl (iSeq_ok (xV 1)) (gName_ok (i := 2) sc__law_right.nd rfl (Or.inr rfl)) (zCons (zIf (yNot (yB (xCall (cg_fn g__law_act_right hg (hr.mono (by decide)) passes0 b__law_act_right) rfl m__law_act_right k__law_act_right (xaCons (xV 0) (xaCons (xV 2) xaNil))))) (zCons (zRet xBl)
    zNil) zNil)
    (zCons (zIf (yNot (yB (bltn (all_okB rfl) rfl T.b_all (by decide +kernel) (xaCons (xComp rfl sc__law_right.nd (iRng1_ok rfl T.b_range xInt) (blkOk_by (N := ["_law_pot_here", "_law_acts", "_law_act_here", "_law_odd", "_law_turn"]) (sc := defScope s__law_right) (own := [("_law_turn", 4)]) (by decide +kernel)) rfl (tg1 4) (fun _ _ _ _ _ => pg_name (i := 4) sc__law_right.nd rfl (Or.inl rfl)) (fun _ _ _ _ _ => ptsNil) (fun _ _ _ _ _ => (xCall (cg_fn g__law_line_right hg (hr.mono (by decide)) passes0 b__law_line_right) rfl m__law_line_right k__law_line_right (xaCons (xCall (cg_fn g__law_bent hg (hr.mono (by decide)) passes0 b__law_bent) rfl m__law_bent k__law_bent (xaCons (xV 0) (xaCons (xCall (cg_fn g__law_spelled hg (hr.mono (by decide)) passes0 b__law_spelled) rfl m__law_spelled k__law_spelled (xaCons (xV 2) xaNil)) xaNil))) xaNil)))) xaNil)))) (zCons (zRet xBl)
    zNil) zNil)
    zNil)))
    (zCons (zFor PassesOwn.never rfl (iSeq_ok (xLst (xaCons xNon (xaCons xInt (xaCons xBl (xaCons (xLst xaNil) (xaCons (xTup (xaCons xStr (xaCons xInt xaNil))) (xaCons (xLst (xaCons xStr xaNil)) (xaCons xDnew (xaCons (xV 1) xaNil)))))))))) (gName_ok (i := 3) sc__law_right.nd rfl (Or.inr rfl)) (zCons (zIf (yCmp (ne_ok hu) (isB_eq true) (xTold (n := 1) (k := 4) F__law_heard sc__law_heard rfl rfl (Or.inl rfl) (fun _ _ _ _ _ _ us hl => match us, hl with | [_], _ => rfl) ((told__law_heard T (g := a__law_heard)).up (by decide)) rfl m__law_heard B.b__law_right rfl in__law_right (un__law_right T) hg (hr.mono (by decide)) (LamX.lamS_by rfl) rfl (fun _ _ _ _ _ => rfl) (fun f c' A outer s H E hg hr => by have hu := hu64 hr; have hu7 := hu70 hr; exact (xCall (cg_fn g_read_deed hg (hr.mono (by decide)) (passesX takesL) b_read_deed) rfl m_read_deed k_read_deed (xaCons (xV 3) xaNil)))) (xLst (xaCons xStr (xaCons xStr (xaCons xBl xaNil)))) (nomark _)) (zCons (zRet xBl)
    zNil) zNil)
    zNil))
    (zCons (zIf (PW.pt (wOr (yNot (yB (xCall (cg_fn g__law_line_right hg (hr.mono (by decide)) passes0 b__law_line_right) rfl m__law_line_right k__law_line_right (xaCons xStr xaNil)))) (wOr (yNot (yB (xCall (cg_fn g__law_line_right hg (hr.mono (by decide)) passes0 b__law_line_right) rfl m__law_line_right k__law_line_right (xaCons xStr xaNil)))) (wOneO (yNot (yB (xCall (cg_fn g__law_line_right hg (hr.mono (by decide)) passes0 b__law_line_right) rfl m__law_line_right k__law_line_right (xaCons xStr xaNil)))))))) (zCons (zRet xBl)
    zNil) zNil)
    (zCons (zRet (xCall (cg_fn g__law_act_right hg (hr.mono (by decide)) passes0 b__law_act_right) rfl m__law_act_right k__law_act_right (xaCons (xV 0) (xaCons (xIx (xV 1) xInt) xaNil))))
    zNil)))))
theorem ok__law_pot (T : Tx w K mg C_InvalidDeed C_InvalidText C_WayError c__law_act_right_ P__law_act_right_ c__law_line_right_ P__law_line_right_ c__law_right_ P__law_right_)  (B : Bx base mg C_InvalidDeed C_InvalidText C_WayError c__law_act_right_ P__law_act_right_ c__law_line_right_ P__law_line_right_ c__law_right_ P__law_right_) {f : Addr} {fd : FuncData} (F : FunD K "_law_pot" "_law_pot" (defArgs s__law_pot) (defBody s__law_pot) (defScope s__law_pot) [] [] f fd) : FnG P w K mg base CX0 1 f fd ["_law_script", "_law_k"] (spF (mkG C_InvalidDeed C_InvalidText C_WayError c__law_act_right_ P__law_act_right_ c__law_line_right_ P__law_line_right_ c__law_right_ P__law_right_) K f__law_pot) := by
  refine fnG_D F sc__law_pot rfl rfl fun cdv A outer s H E hg hr => PSs.nox ?_
  have hu := hu64 hr
  have hu7 := hu70 hr
  exact (zCons (zSet (i := 2) sc__law_pot.nd rfl (Or.inl rfl) (x2 add_ok (x2 mul_ok xInt (xV 1)) xInt))
    (zCons (zIf (yCmp lt_ok isB_lt (xV 1) (bltn len_okB rfl T.b_len (by decide +kernel) (xaCons (xV 0) xaNil)) (nomark _)) (zCons (zSet (i := 2) sc__law_pot.nd rfl (Or.inl rfl) (bltn abs_okB rfl T.b_abs (by decide +kernel) (xaCons (xIx (xV 0) (xV 1)) xaNil)))
    zNil) zNil)
    (zCons (zRet (xLst (xaCons (bltn (max_okB rfl) rfl T.b_max (by decide +kernel) (xaCons xInt (xaCons (x2 sub_ok (xV 2) (x2 pow_ok xInt xInt)) xaNil))) (xaCons (x2 add_ok (x2 mod_ok (x2 mul_ok (bltnT intS_okB rfl T.b_int (by decide +kernel) (xaCons (x2 add_ok (x2 mod_ok (bltnT intS_okB rfl T.b_int (by decide +kernel) (xaCons (xV 2) xaNil)) xInt) xInt) xaNil)) (x2 pow_ok (x2 add_ok (x2 mul_ok xInt (xV 1)) xInt) xInt)) xInt) xInt) xaNil))))
    zNil)))
theorem ok_law (T : Tx w K mg C_InvalidDeed C_InvalidText C_WayError c__law_act_right_ P__law_act_right_ c__law_line_right_ P__law_line_right_ c__law_right_ P__law_right_)  (B : Bx base mg C_InvalidDeed C_InvalidText C_WayError c__law_act_right_ P__law_act_right_ c__law_line_right_ P__law_line_right_ c__law_right_ P__law_right_) {f : Addr} {fd : FuncData} (F : FunD K "law" "law" (defArgs s_law) (defBody s_law) (defScope s_law) [] [] f fd) : FnG P w K mg base CX0 10 f fd ["_law_script"] (spF (mkG C_InvalidDeed C_InvalidText C_WayError c__law_act_right_ P__law_act_right_ c__law_line_right_ P__law_line_right_ c__law_right_ P__law_right_) K f_law) := by
  obtain ⟨a__law_right, d__law_right, F__law_right, m__law_right, M__law_right⟩ := T.F__law_right
  have b__law_right := bd__law_right F__law_right
  have k__law_right := F__law_right.kp
  have g__law_right := ok__law_right (P := P) (w := w) (base := base) T B F__law_right M__law_right
  obtain ⟨a__law_pot, d__law_pot, F__law_pot, m__law_pot⟩ := T.F__law_pot
  have b__law_pot := bd__law_pot F__law_pot
  have k__law_pot := F__law_pot.kp
  have g__law_pot := ok__law_pot (P := P) (w := w) (base := base) T B F__law_pot
  refine fnG_D F sc_law rfl rfl fun cdv A outer s H E hg hr => PSs.nox ?_
  have hu := hu64 hr
  have hu7 := hu70 hr
  exact (zCons (zRet (bltn (all_okB rfl) rfl T.b_all (by decide +kernel) (xaCons (xComp rfl sc_law.nd (iRng1_ok rfl T.b_range (bltn (max_okB rfl) rfl T.b_max (by decide +kernel) (xaCons xInt (xaCons (bltn (min_okB rfl) rfl T.b_min (by decide +kernel) (xaCons (bltn len_okB rfl T.b_len (by decide +kernel) (xaCons (xV 0) xaNil)) (xaCons xInt xaNil))) xaNil)))) (blkOk_by (N := ["_law_script", "_law_k"]) (sc := defScope s_law) (own := [("_law_k", 1)]) (by decide +kernel)) rfl (tg1 1) (fun _ _ _ _ _ => pg_name (i := 1) sc_law.nd rfl (Or.inl rfl)) (fun _ _ _ _ _ => ptsNil) (fun _ _ _ _ _ => (xCall (cg_fn g__law_right hg (hr.mono (by decide)) passes0 b__law_right) rfl m__law_right k__law_right (xaCons (xCall (cg_fn g__law_pot hg (hr.mono (by decide)) passes0 b__law_pot) rfl m__law_pot k__law_pot (xaCons (xV 0) (xaCons (xV 1) xaNil))) xaNil)))) xaNil)))
    zNil)
end
/-! ### the head -/
theorem all_mk (hT : ∀ ns : List Int, ns.length ≤ 63 → ∃ h', f_law [.scr ns] [] = .ok (.bl true) h') {l : PySem.W.OpenLaw} {w : World} {K : PySem.W.Frag} {h : Heap} {mg : Str → Option Value} {fa C_InvalidDeed C_InvalidText C_WayError c__law_act_right_ P__law_act_right_ c__law_line_right_ P__law_line_right_ c__law_right_ P__law_right_ : Addr} {f_InvalidDeed___init___ : Addr} {oc_InvalidDeed___init__ kv_InvalidDeed___init__ dc_InvalidDeed___init__ pm_InvalidDeed___init__ cd_InvalidDeed___init__ ct_InvalidDeed___init__ : Value} {od_InvalidDeed___init__ an_InvalidDeed___init__ : Option Addr} {sl_InvalidDeed___init__ : Array (Option Value)} {f_InvalidText___init___ : Addr} {oc_InvalidText___init__ kv_InvalidText___init__ dc_InvalidText___init__ pm_InvalidText___init__ cd_InvalidText___init__ ct_InvalidText___init__ : Value} {od_InvalidText___init__ an_InvalidText___init__ : Option Addr} {sl_InvalidText___init__ : Array (Option Value)} {f__law_draw_ : Addr} {oc__law_draw kv__law_draw dc__law_draw pm__law_draw cd__law_draw ct__law_draw : Value} {od__law_draw an__law_draw : Option Addr} {sl__law_draw : Array (Option Value)} {f__law_pick_ : Addr} {oc__law_pick kv__law_pick dc__law_pick pm__law_pick cd__law_pick ct__law_pick : Value} {od__law_pick an__law_pick : Option Addr} {sl__law_pick : Array (Option Value)} {f__law_lots_ : Addr} {oc__law_lots kv__law_lots dc__law_lots pm__law_lots cd__law_lots ct__law_lots : Value} {od__law_lots an__law_lots : Option Addr} {sl__law_lots : Array (Option Value)} {f__law_number_ : Addr} {oc__law_number kv__law_number dc__law_number pm__law_number cd__law_number ct__law_number : Value} {od__law_number an__law_number : Option Addr} {sl__law_number : Array (Option Value)} {f__law_act_ : Addr} {oc__law_act kv__law_act dc__law_act pm__law_act cd__law_act ct__law_act : Value} {od__law_act an__law_act : Option Addr} {sl__law_act : Array (Option Value)} {f__law_spelled_ : Addr} {oc__law_spelled kv__law_spelled dc__law_spelled pm__law_spelled cd__law_spelled ct__law_spelled : Value} {od__law_spelled an__law_spelled : Option Addr} {sl__law_spelled : Array (Option Value)} {f__law_heard_ : Addr} {oc__law_heard kv__law_heard dc__law_heard pm__law_heard cd__law_heard ct__law_heard : Value} {od__law_heard an__law_heard : Option Addr} {sl__law_heard : Array (Option Value)} {f_is_integer_ : Addr} {oc_is_integer kv_is_integer dc_is_integer pm_is_integer cd_is_integer ct_is_integer : Value} {od_is_integer an_is_integer : Option Addr} {sl_is_integer : Array (Option Value)} {f_is_deed_ : Addr} {oc_is_deed kv_is_deed dc_is_deed pm_is_deed cd_is_deed ct_is_deed : Value} {od_is_deed an_is_deed : Option Addr} {sl_is_deed : Array (Option Value)} {f_line_of_ : Addr} {oc_line_of kv_line_of dc_line_of pm_line_of cd_line_of ct_line_of : Value} {od_line_of an_line_of : Option Addr} {sl_line_of : Array (Option Value)} {f__law_integer_ : Addr} {oc__law_integer kv__law_integer dc__law_integer pm__law_integer cd__law_integer ct__law_integer : Value} {od__law_integer an__law_integer : Option Addr} {sl__law_integer : Array (Option Value)} {f__law_read_ : Addr} {oc__law_read kv__law_read dc__law_read pm__law_read cd__law_read ct__law_read : Value} {od__law_read an__law_read : Option Addr} {sl__law_read : Array (Option Value)} {f_number_of_ : Addr} {oc_number_of kv_number_of dc_number_of pm_number_of cd_number_of ct_number_of : Value} {od_number_of an_number_of : Option Addr} {sl_number_of : Array (Option Value)} {f_read_deed_ : Addr} {oc_read_deed kv_read_deed dc_read_deed pm_read_deed cd_read_deed ct_read_deed : Value} {od_read_deed an_read_deed : Option Addr} {sl_read_deed : Array (Option Value)} {f__law_line_right_ : Addr} {oc__law_line_right kv__law_line_right dc__law_line_right pm__law_line_right ct__law_line_right : Value} {od__law_line_right an__law_line_right : Option Addr} {sl__law_line_right : Array (Option Value)} {f__law_odd_acts_ : Addr} {oc__law_odd_acts kv__law_odd_acts dc__law_odd_acts pm__law_odd_acts cd__law_odd_acts ct__law_odd_acts : Value} {od__law_odd_acts an__law_odd_acts : Option Addr} {sl__law_odd_acts : Array (Option Value)} {f__law_act_right_ : Addr} {oc__law_act_right kv__law_act_right dc__law_act_right pm__law_act_right ct__law_act_right : Value} {od__law_act_right an__law_act_right : Option Addr} {sl__law_act_right : Array (Option Value)} {f__law_bent_ : Addr} {oc__law_bent kv__law_bent dc__law_bent pm__law_bent cd__law_bent ct__law_bent : Value} {od__law_bent an__law_bent : Option Addr} {sl__law_bent : Array (Option Value)} {f__law_right_ : Addr} {oc__law_right kv__law_right dc__law_right pm__law_right ct__law_right : Value} {od__law_right an__law_right : Option Addr} {sl__law_right : Array (Option Value)} {f__law_pot_ : Addr} {oc__law_pot kv__law_pot dc__law_pot pm__law_pot cd__law_pot ct__law_pot : Value} {od__law_pot an__law_pot : Option Addr} {sl__law_pot : Array (Option Value)} {f_law_ : Addr} {oc_law kv_law dc_law pm_law cd_law ct_law : Value} {od_law an_law : Option Addr} {sl_law : Array (Option Value)} {ad_DEED_NUMBERS : Addr} {kk_DEED_NUMBERS_0 : Tok} {kk_DEED_NUMBERS_1 : Tok} {kk_DEED_NUMBERS_2 : Tok} {kk_DEED_NUMBERS_3 : Tok} {kk_DEED_NUMBERS_4 : Tok} {kk_DEED_NUMBERS_5 : Tok} {kk_DEED_NUMBERS_6 : Tok} {kk_DEED_NUMBERS_7 : Tok} {kk_DEED_NUMBERS_8 : Tok} {tk_DIGITS : Tok} {tk_NOTHING : Tok} {qq : Program} {dr__law_act_right : DefRec} {dr__law_line_right : DefRec} {dr__law_right : DefRec} (X : K.In h) (G : h.Ns mainGlobals mg) (hfa : mg "law" = some (.ref fa))
    (aC_InvalidDeed : PySem.W.nsIn K mainGlobals "InvalidDeed" = some (some (.ref C_InvalidDeed)))
    (xk_InvalidDeed : PySem.W.keepIn K (.ref C_InvalidDeed) = true)
    (xs_InvalidDeed : PySem.W.subIn K (.ref C_InvalidDeed) (.type "BaseException") = some true)
    (xt_InvalidDeed : PySem.W.typeIn K (.ref C_InvalidDeed) = some (.type "type"))
    (xa_InvalidDeed : PySem.W.excInitIn K C_InvalidDeed [.type "ValueError", .type "Exception", .type "BaseException", .type "object"] "ValueError.__new__" = true)
    (xb_InvalidDeed : PySem.W.excOver K C_InvalidDeed [.type "ValueError", .type "Exception", .type "BaseException", .type "object"] = true)
    (xc_InvalidDeed : PySem.W.hasDictIn K C_InvalidDeed = true)
    (xd_InvalidDeed : PySem.W.findIn K (.ref C_InvalidDeed) "__setattr__" = some (some (.builtin "object.__setattr__")))
    (xh_InvalidDeed : PySem.W.takerIn K C_InvalidDeed "value" = some none)
    (xe_InvalidDeed : PySem.W.findIn K (.ref C_InvalidDeed) "__getattribute__" = some (some (.builtin "BaseException.__getattribute__")))
    (xg_InvalidDeed : PySem.W.findIn K (.ref C_InvalidDeed) "__getattr__" = some none)
    (xn_InvalidDeed : PySem.W.findIn K (.ref C_InvalidDeed) "value" = some none)
    (aC_InvalidText : PySem.W.nsIn K mainGlobals "InvalidText" = some (some (.ref C_InvalidText)))
    (xk_InvalidText : PySem.W.keepIn K (.ref C_InvalidText) = true)
    (xs_InvalidText : PySem.W.subIn K (.ref C_InvalidText) (.type "BaseException") = some true)
    (xt_InvalidText : PySem.W.typeIn K (.ref C_InvalidText) = some (.type "type"))
    (xa_InvalidText : PySem.W.excInitIn K C_InvalidText [.type "ValueError", .type "Exception", .type "BaseException", .type "object"] "ValueError.__new__" = true)
    (xb_InvalidText : PySem.W.excOver K C_InvalidText [.type "ValueError", .type "Exception", .type "BaseException", .type "object"] = true)
    (xc_InvalidText : PySem.W.hasDictIn K C_InvalidText = true)
    (xd_InvalidText : PySem.W.findIn K (.ref C_InvalidText) "__setattr__" = some (some (.builtin "object.__setattr__")))
    (xh_InvalidText : PySem.W.takerIn K C_InvalidText "line" = some none)
    (xe_InvalidText : PySem.W.findIn K (.ref C_InvalidText) "__getattribute__" = some (some (.builtin "BaseException.__getattribute__")))
    (xg_InvalidText : PySem.W.findIn K (.ref C_InvalidText) "__getattr__" = some none)
    (xn_InvalidText : PySem.W.findIn K (.ref C_InvalidText) "line" = some none)
    (xm_InvalidDeed_InvalidDeed : PySem.W.exmOne K (.ref C_InvalidDeed) (.ref C_InvalidDeed) = some true)
    (xm_InvalidDeed_InvalidText : PySem.W.exmOne K (.ref C_InvalidDeed) (.ref C_InvalidText) = some false)
    (xm_InvalidText_InvalidDeed : PySem.W.exmOne K (.ref C_InvalidText) (.ref C_InvalidDeed) = some false)
    (xm_InvalidText_InvalidText : PySem.W.exmOne K (.ref C_InvalidText) (.ref C_InvalidText) = some true)
    (a_InvalidDeed___init__ : PySem.W.findIn K (.ref C_InvalidDeed) "__init__" = some (some (.ref f_InvalidDeed___init___)))
    (i_InvalidDeed___init__ : PySem.W.typeIn K (.ref f_InvalidDeed___init___) = some (.type "function"))
    (l_InvalidDeed___init__ : K.lookup f_InvalidDeed___init___ = some ⟨oc_InvalidDeed___init__, od_InvalidDeed___init__, .func (PySem.W.fnOf "__init__" "InvalidDeed.__init__" (defArgs s_InvalidDeed___init__) (defBody s_InvalidDeed___init__) (defScope s_InvalidDeed___init__) .none kv_InvalidDeed___init__ dc_InvalidDeed___init__ pm_InvalidDeed___init__ an_InvalidDeed___init__ cd_InvalidDeed___init__ ct_InvalidDeed___init__), sl_InvalidDeed___init__⟩)
    (c_InvalidDeed___init__ : PySem.W.codeIn K cd_InvalidDeed___init__ "InvalidDeed.__init__" = true)
    (k_InvalidDeed___init__ : PySem.W.keepIn K (.ref f_InvalidDeed___init___) = true)
    (a_InvalidText___init__ : PySem.W.findIn K (.ref C_InvalidText) "__init__" = some (some (.ref f_InvalidText___init___)))
    (i_InvalidText___init__ : PySem.W.typeIn K (.ref f_InvalidText___init___) = some (.type "function"))
    (l_InvalidText___init__ : K.lookup f_InvalidText___init___ = some ⟨oc_InvalidText___init__, od_InvalidText___init__, .func (PySem.W.fnOf "__init__" "InvalidText.__init__" (defArgs s_InvalidText___init__) (defBody s_InvalidText___init__) (defScope s_InvalidText___init__) .none kv_InvalidText___init__ dc_InvalidText___init__ pm_InvalidText___init__ an_InvalidText___init__ cd_InvalidText___init__ ct_InvalidText___init__), sl_InvalidText___init__⟩)
    (c_InvalidText___init__ : PySem.W.codeIn K cd_InvalidText___init__ "InvalidText.__init__" = true)
    (k_InvalidText___init__ : PySem.W.keepIn K (.ref f_InvalidText___init___) = true)
    (aC_WayError : PySem.W.nsIn K mainGlobals "WayError" = some (some (.ref C_WayError)))
    (ea_InvalidDeed : PySem.W.findIn K (.ref C_InvalidDeed) "__getattribute__" = some (some (.builtin "BaseException.__getattribute__")))
    (eb_InvalidDeed : PySem.W.findIn K (.ref C_InvalidDeed) "__getattr__" = some none)
    (es_InvalidDeed : PySem.W.subIn K (.ref C_InvalidDeed) (.type "BaseException") = some true)
    (ed_InvalidDeed : PySem.W.hasDictIn K C_InvalidDeed = true)
    (ee_InvalidDeed : PySem.W.findIn K (.ref C_InvalidDeed) "__class__" = some (some (.builtin "object.__class__")))
    (ef_InvalidDeed : PySem.W.specialIn K (.builtin "object.__class__") "__get__" = some (some (.builtin "getset_descriptor.__get__")))
    (eg_InvalidDeed : PySem.W.takesIn K (.builtin "object.__class__") = some true)
    (eh_InvalidDeed : PySem.W.mroIn K C_InvalidDeed (.type "object") = some true)
    (ea_InvalidText : PySem.W.findIn K (.ref C_InvalidText) "__getattribute__" = some (some (.builtin "BaseException.__getattribute__")))
    (eb_InvalidText : PySem.W.findIn K (.ref C_InvalidText) "__getattr__" = some none)
    (es_InvalidText : PySem.W.subIn K (.ref C_InvalidText) (.type "BaseException") = some true)
    (ed_InvalidText : PySem.W.hasDictIn K C_InvalidText = true)
    (ee_InvalidText : PySem.W.findIn K (.ref C_InvalidText) "__class__" = some (some (.builtin "object.__class__")))
    (ef_InvalidText : PySem.W.specialIn K (.builtin "object.__class__") "__get__" = some (some (.builtin "getset_descriptor.__get__")))
    (eg_InvalidText : PySem.W.takesIn K (.builtin "object.__class__") = some true)
    (eh_InvalidText : PySem.W.mroIn K C_InvalidText (.type "object") = some true)
    (ki_InvalidDeed_WayError : PySem.W.kitOne K (.ref C_InvalidDeed) (.ref C_WayError) = some true)
    (ki_InvalidText_WayError : PySem.W.kitOne K (.ref C_InvalidText) (.ref C_WayError) = some true)
    (dt__law_line_right__law_act_right : P__law_line_right_ ≠ P__law_act_right_)
    (dt__law_right__law_act_right : P__law_right_ ≠ P__law_act_right_)
    (dt__law_right__law_line_right : P__law_right_ ≠ P__law_line_right_)
    (a__law_draw : PySem.W.nsIn K mainGlobals "_law_draw" = some (some (.ref f__law_draw_)))
    (l__law_draw : K.lookup f__law_draw_ = some ⟨oc__law_draw, od__law_draw, .func (PySem.W.fnOf "_law_draw" "_law_draw" (defArgs s__law_draw) (defBody s__law_draw) (defScope s__law_draw) .none kv__law_draw dc__law_draw pm__law_draw an__law_draw cd__law_draw ct__law_draw), sl__law_draw⟩)
    (c__law_draw : PySem.W.codeIn K cd__law_draw "_law_draw" = true)
    (k__law_draw : PySem.W.keepIn K (.ref f__law_draw_) = true)
    (a__law_pick : PySem.W.nsIn K mainGlobals "_law_pick" = some (some (.ref f__law_pick_)))
    (l__law_pick : K.lookup f__law_pick_ = some ⟨oc__law_pick, od__law_pick, .func (PySem.W.fnOf "_law_pick" "_law_pick" (defArgs s__law_pick) (defBody s__law_pick) (defScope s__law_pick) .none kv__law_pick dc__law_pick pm__law_pick an__law_pick cd__law_pick ct__law_pick), sl__law_pick⟩)
    (c__law_pick : PySem.W.codeIn K cd__law_pick "_law_pick" = true)
    (k__law_pick : PySem.W.keepIn K (.ref f__law_pick_) = true)
    (a__law_lots : PySem.W.nsIn K mainGlobals "_law_lots" = some (some (.ref f__law_lots_)))
    (l__law_lots : K.lookup f__law_lots_ = some ⟨oc__law_lots, od__law_lots, .func (PySem.W.fnOf "_law_lots" "_law_lots" (defArgs s__law_lots) (defBody s__law_lots) (defScope s__law_lots) .none kv__law_lots dc__law_lots pm__law_lots an__law_lots cd__law_lots ct__law_lots), sl__law_lots⟩)
    (c__law_lots : PySem.W.codeIn K cd__law_lots "_law_lots" = true)
    (k__law_lots : PySem.W.keepIn K (.ref f__law_lots_) = true)
    (a__law_number : PySem.W.nsIn K mainGlobals "_law_number" = some (some (.ref f__law_number_)))
    (l__law_number : K.lookup f__law_number_ = some ⟨oc__law_number, od__law_number, .func (PySem.W.fnOf "_law_number" "_law_number" (defArgs s__law_number) (defBody s__law_number) (defScope s__law_number) .none kv__law_number dc__law_number pm__law_number an__law_number cd__law_number ct__law_number), sl__law_number⟩)
    (c__law_number : PySem.W.codeIn K cd__law_number "_law_number" = true)
    (k__law_number : PySem.W.keepIn K (.ref f__law_number_) = true)
    (a__law_act : PySem.W.nsIn K mainGlobals "_law_act" = some (some (.ref f__law_act_)))
    (l__law_act : K.lookup f__law_act_ = some ⟨oc__law_act, od__law_act, .func (PySem.W.fnOf "_law_act" "_law_act" (defArgs s__law_act) (defBody s__law_act) (defScope s__law_act) .none kv__law_act dc__law_act pm__law_act an__law_act cd__law_act ct__law_act), sl__law_act⟩)
    (c__law_act : PySem.W.codeIn K cd__law_act "_law_act" = true)
    (k__law_act : PySem.W.keepIn K (.ref f__law_act_) = true)
    (a__law_spelled : PySem.W.nsIn K mainGlobals "_law_spelled" = some (some (.ref f__law_spelled_)))
    (l__law_spelled : K.lookup f__law_spelled_ = some ⟨oc__law_spelled, od__law_spelled, .func (PySem.W.fnOf "_law_spelled" "_law_spelled" (defArgs s__law_spelled) (defBody s__law_spelled) (defScope s__law_spelled) .none kv__law_spelled dc__law_spelled pm__law_spelled an__law_spelled cd__law_spelled ct__law_spelled), sl__law_spelled⟩)
    (c__law_spelled : PySem.W.codeIn K cd__law_spelled "_law_spelled" = true)
    (k__law_spelled : PySem.W.keepIn K (.ref f__law_spelled_) = true)
    (a__law_heard : PySem.W.nsIn K mainGlobals "_law_heard" = some (some (.ref f__law_heard_)))
    (l__law_heard : K.lookup f__law_heard_ = some ⟨oc__law_heard, od__law_heard, .func (PySem.W.fnOf "_law_heard" "_law_heard" (defArgs s__law_heard) (defBody s__law_heard) (defScope s__law_heard) .none kv__law_heard dc__law_heard pm__law_heard an__law_heard cd__law_heard ct__law_heard), sl__law_heard⟩)
    (c__law_heard : PySem.W.codeIn K cd__law_heard "_law_heard" = true)
    (k__law_heard : PySem.W.keepIn K (.ref f__law_heard_) = true)
    (a_is_integer : PySem.W.nsIn K mainGlobals "is_integer" = some (some (.ref f_is_integer_)))
    (l_is_integer : K.lookup f_is_integer_ = some ⟨oc_is_integer, od_is_integer, .func (PySem.W.fnOf "is_integer" "is_integer" (defArgs s_is_integer) (defBody s_is_integer) (defScope s_is_integer) .none kv_is_integer dc_is_integer pm_is_integer an_is_integer cd_is_integer ct_is_integer), sl_is_integer⟩)
    (c_is_integer : PySem.W.codeIn K cd_is_integer "is_integer" = true)
    (k_is_integer : PySem.W.keepIn K (.ref f_is_integer_) = true)
    (a_is_deed : PySem.W.nsIn K mainGlobals "is_deed" = some (some (.ref f_is_deed_)))
    (l_is_deed : K.lookup f_is_deed_ = some ⟨oc_is_deed, od_is_deed, .func (PySem.W.fnOf "is_deed" "is_deed" (defArgs s_is_deed) (defBody s_is_deed) (defScope s_is_deed) .none kv_is_deed dc_is_deed pm_is_deed an_is_deed cd_is_deed ct_is_deed), sl_is_deed⟩)
    (c_is_deed : PySem.W.codeIn K cd_is_deed "is_deed" = true)
    (k_is_deed : PySem.W.keepIn K (.ref f_is_deed_) = true)
    (a_line_of : PySem.W.nsIn K mainGlobals "line_of" = some (some (.ref f_line_of_)))
    (l_line_of : K.lookup f_line_of_ = some ⟨oc_line_of, od_line_of, .func (PySem.W.fnOf "line_of" "line_of" (defArgs s_line_of) (defBody s_line_of) (defScope s_line_of) .none kv_line_of dc_line_of pm_line_of an_line_of cd_line_of ct_line_of), sl_line_of⟩)
    (c_line_of : PySem.W.codeIn K cd_line_of "line_of" = true)
    (k_line_of : PySem.W.keepIn K (.ref f_line_of_) = true)
    (a__law_integer : PySem.W.nsIn K mainGlobals "_law_integer" = some (some (.ref f__law_integer_)))
    (l__law_integer : K.lookup f__law_integer_ = some ⟨oc__law_integer, od__law_integer, .func (PySem.W.fnOf "_law_integer" "_law_integer" (defArgs s__law_integer) (defBody s__law_integer) (defScope s__law_integer) .none kv__law_integer dc__law_integer pm__law_integer an__law_integer cd__law_integer ct__law_integer), sl__law_integer⟩)
    (c__law_integer : PySem.W.codeIn K cd__law_integer "_law_integer" = true)
    (k__law_integer : PySem.W.keepIn K (.ref f__law_integer_) = true)
    (a__law_read : PySem.W.nsIn K mainGlobals "_law_read" = some (some (.ref f__law_read_)))
    (l__law_read : K.lookup f__law_read_ = some ⟨oc__law_read, od__law_read, .func (PySem.W.fnOf "_law_read" "_law_read" (defArgs s__law_read) (defBody s__law_read) (defScope s__law_read) .none kv__law_read dc__law_read pm__law_read an__law_read cd__law_read ct__law_read), sl__law_read⟩)
    (c__law_read : PySem.W.codeIn K cd__law_read "_law_read" = true)
    (k__law_read : PySem.W.keepIn K (.ref f__law_read_) = true)
    (a_number_of : PySem.W.nsIn K mainGlobals "number_of" = some (some (.ref f_number_of_)))
    (l_number_of : K.lookup f_number_of_ = some ⟨oc_number_of, od_number_of, .func (PySem.W.fnOf "number_of" "number_of" (defArgs s_number_of) (defBody s_number_of) (defScope s_number_of) .none kv_number_of dc_number_of pm_number_of an_number_of cd_number_of ct_number_of), sl_number_of⟩)
    (c_number_of : PySem.W.codeIn K cd_number_of "number_of" = true)
    (k_number_of : PySem.W.keepIn K (.ref f_number_of_) = true)
    (a_read_deed : PySem.W.nsIn K mainGlobals "read_deed" = some (some (.ref f_read_deed_)))
    (l_read_deed : K.lookup f_read_deed_ = some ⟨oc_read_deed, od_read_deed, .func (PySem.W.fnOf "read_deed" "read_deed" (defArgs s_read_deed) (defBody s_read_deed) (defScope s_read_deed) .none kv_read_deed dc_read_deed pm_read_deed an_read_deed cd_read_deed ct_read_deed), sl_read_deed⟩)
    (c_read_deed : PySem.W.codeIn K cd_read_deed "read_deed" = true)
    (k_read_deed : PySem.W.keepIn K (.ref f_read_deed_) = true)
    (a__law_line_right : PySem.W.nsIn K mainGlobals "_law_line_right" = some (some (.ref f__law_line_right_)))
    (tb__law_line_right : PySem.W.tabIn K "_law_line_right" = some (c__law_line_right_, P__law_line_right_))
    (tn__law_line_right : K.lookup P__law_line_right_ = none)
    (l__law_line_right : K.lookup f__law_line_right_ = some ⟨oc__law_line_right, od__law_line_right, .func (PySem.W.fnOf "_law_line_right" "_law_line_right" (defArgs s__law_line_right) (defBody s__law_line_right) (defScope s__law_line_right) .none kv__law_line_right dc__law_line_right pm__law_line_right an__law_line_right (.ref c__law_line_right_) ct__law_line_right), sl__law_line_right⟩)
    (c__law_line_right : PySem.W.codeIn K (.ref c__law_line_right_) "_law_line_right" = true)
    (k__law_line_right : PySem.W.keepIn K (.ref f__law_line_right_) = true)
    (a__law_odd_acts : PySem.W.nsIn K mainGlobals "_law_odd_acts" = some (some (.ref f__law_odd_acts_)))
    (l__law_odd_acts : K.lookup f__law_odd_acts_ = some ⟨oc__law_odd_acts, od__law_odd_acts, .func (PySem.W.fnOf "_law_odd_acts" "_law_odd_acts" (defArgs s__law_odd_acts) (defBody s__law_odd_acts) (defScope s__law_odd_acts) .none kv__law_odd_acts dc__law_odd_acts pm__law_odd_acts an__law_odd_acts cd__law_odd_acts ct__law_odd_acts), sl__law_odd_acts⟩)
    (c__law_odd_acts : PySem.W.codeIn K cd__law_odd_acts "_law_odd_acts" = true)
    (k__law_odd_acts : PySem.W.keepIn K (.ref f__law_odd_acts_) = true)
    (a__law_act_right : PySem.W.nsIn K mainGlobals "_law_act_right" = some (some (.ref f__law_act_right_)))
    (tb__law_act_right : PySem.W.tabIn K "_law_act_right" = some (c__law_act_right_, P__law_act_right_))
    (tn__law_act_right : K.lookup P__law_act_right_ = none)
    (l__law_act_right : K.lookup f__law_act_right_ = some ⟨oc__law_act_right, od__law_act_right, .func (PySem.W.fnOf "_law_act_right" "_law_act_right" (defArgs s__law_act_right) (defBody s__law_act_right) (defScope s__law_act_right) .none kv__law_act_right dc__law_act_right pm__law_act_right an__law_act_right (.ref c__law_act_right_) ct__law_act_right), sl__law_act_right⟩)
    (c__law_act_right : PySem.W.codeIn K (.ref c__law_act_right_) "_law_act_right" = true)
    (k__law_act_right : PySem.W.keepIn K (.ref f__law_act_right_) = true)
    (a__law_bent : PySem.W.nsIn K mainGlobals "_law_bent" = some (some (.ref f__law_bent_)))
    (l__law_bent : K.lookup f__law_bent_ = some ⟨oc__law_bent, od__law_bent, .func (PySem.W.fnOf "_law_bent" "_law_bent" (defArgs s__law_bent) (defBody s__law_bent) (defScope s__law_bent) .none kv__law_bent dc__law_bent pm__law_bent an__law_bent cd__law_bent ct__law_bent), sl__law_bent⟩)
    (c__law_bent : PySem.W.codeIn K cd__law_bent "_law_bent" = true)
    (k__law_bent : PySem.W.keepIn K (.ref f__law_bent_) = true)
    (a__law_right : PySem.W.nsIn K mainGlobals "_law_right" = some (some (.ref f__law_right_)))
    (tb__law_right : PySem.W.tabIn K "_law_right" = some (c__law_right_, P__law_right_))
    (tn__law_right : K.lookup P__law_right_ = none)
    (l__law_right : K.lookup f__law_right_ = some ⟨oc__law_right, od__law_right, .func (PySem.W.fnOf "_law_right" "_law_right" (defArgs s__law_right) (defBody s__law_right) (defScope s__law_right) .none kv__law_right dc__law_right pm__law_right an__law_right (.ref c__law_right_) ct__law_right), sl__law_right⟩)
    (c__law_right : PySem.W.codeIn K (.ref c__law_right_) "_law_right" = true)
    (k__law_right : PySem.W.keepIn K (.ref f__law_right_) = true)
    (a__law_pot : PySem.W.nsIn K mainGlobals "_law_pot" = some (some (.ref f__law_pot_)))
    (l__law_pot : K.lookup f__law_pot_ = some ⟨oc__law_pot, od__law_pot, .func (PySem.W.fnOf "_law_pot" "_law_pot" (defArgs s__law_pot) (defBody s__law_pot) (defScope s__law_pot) .none kv__law_pot dc__law_pot pm__law_pot an__law_pot cd__law_pot ct__law_pot), sl__law_pot⟩)
    (c__law_pot : PySem.W.codeIn K cd__law_pot "_law_pot" = true)
    (k__law_pot : PySem.W.keepIn K (.ref f__law_pot_) = true)
    (a_law : PySem.W.nsIn K mainGlobals "law" = some (some (.ref f_law_)))
    (l_law : K.lookup f_law_ = some ⟨oc_law, od_law, .func (PySem.W.fnOf "law" "law" (defArgs s_law) (defBody s_law) (defScope s_law) .none kv_law dc_law pm_law an_law cd_law ct_law), sl_law⟩)
    (c_law : PySem.W.codeIn K cd_law "law" = true)
    (k_law : PySem.W.keepIn K (.ref f_law_) = true)
    (z_abs : PySem.W.nsIn K mainGlobals "abs" = some none)
    (z_all : PySem.W.nsIn K mainGlobals "all" = some none)
    (z_bool : PySem.W.nsIn K mainGlobals "bool" = some none)
    (z_divmod : PySem.W.nsIn K mainGlobals "divmod" = some none)
    (z_int : PySem.W.nsIn K mainGlobals "int" = some none)
    (z_isinstance : PySem.W.nsIn K mainGlobals "isinstance" = some none)
    (z_len : PySem.W.nsIn K mainGlobals "len" = some none)
    (z_list : PySem.W.nsIn K mainGlobals "list" = some none)
    (z_max : PySem.W.nsIn K mainGlobals "max" = some none)
    (z_min : PySem.W.nsIn K mainGlobals "min" = some none)
    (z_range : PySem.W.nsIn K mainGlobals "range" = some none)
    (z_repr : PySem.W.nsIn K mainGlobals "repr" = some none)
    (z_str : PySem.W.nsIn K mainGlobals "str" = some none)
    (z_tuple : PySem.W.nsIn K mainGlobals "tuple" = some none)
    (y_DEED_NUMBERS : PySem.W.nsIn K mainGlobals "DEED_NUMBERS" = some (some (.ref ad_DEED_NUMBERS)))
    (dw_DEED_NUMBERS : He.dicW K ad_DEED_NUMBERS = some (He.keysIn w.params ["group", "limit", "strike", (wd 12), (wd 13), (wd 14), (wd 15), (wd 16), "step"]))
    (nk_DEED_NUMBERS_0 : PySem.W.nsIn K ad_DEED_NUMBERS "group" = some (some (.int 1 kk_DEED_NUMBERS_0)))
    (nk_DEED_NUMBERS_1 : PySem.W.nsIn K ad_DEED_NUMBERS "limit" = some (some (.int 2 kk_DEED_NUMBERS_1)))
    (nk_DEED_NUMBERS_2 : PySem.W.nsIn K ad_DEED_NUMBERS "strike" = some (some (.int 1 kk_DEED_NUMBERS_2)))
    (nk_DEED_NUMBERS_3 : PySem.W.nsIn K ad_DEED_NUMBERS (wd 12) = some (some (.int 2 kk_DEED_NUMBERS_3)))
    (nk_DEED_NUMBERS_4 : PySem.W.nsIn K ad_DEED_NUMBERS (wd 13) = some (some (.int 2 kk_DEED_NUMBERS_4)))
    (nk_DEED_NUMBERS_5 : PySem.W.nsIn K ad_DEED_NUMBERS (wd 14) = some (some (.int 3 kk_DEED_NUMBERS_5)))
    (nk_DEED_NUMBERS_6 : PySem.W.nsIn K ad_DEED_NUMBERS (wd 15) = some (some (.int 2 kk_DEED_NUMBERS_6)))
    (nk_DEED_NUMBERS_7 : PySem.W.nsIn K ad_DEED_NUMBERS (wd 16) = some (some (.int 2 kk_DEED_NUMBERS_7)))
    (nk_DEED_NUMBERS_8 : PySem.W.nsIn K ad_DEED_NUMBERS "step" = some (some (.int 1 kk_DEED_NUMBERS_8)))
    (y_DIGITS : PySem.W.nsIn K mainGlobals "DIGITS" = some (some (.str "0123456789" tk_DIGITS)))
    (y_NOTHING : PySem.W.nsIn K mainGlobals "NOTHING" = some (some (.str "none" tk_NOTHING)))
    (tabOf : ∀ (e : DefRec) (y : Str) (c P : Addr), (recsOf qq).find? (fun e => e.name == y) = some e → PySem.W.tabIn K y = some (c, P) → PySem.W.CodeHd h c P ∧ h.get? P = some { cls := .none, data := .fields #[] })
    (rc__law_act_right : (recsOf qq).find? (fun e => e.name == ("_law_act_right" : Str)) = some dr__law_act_right)
    (rc__law_line_right : (recsOf qq).find? (fun e => e.name == ("_law_line_right" : Str)) = some dr__law_line_right)
    (rc__law_right : (recsOf qq).find? (fun e => e.name == ("_law_right" : Str)) = some dr__law_right)
    : ∃ (fd : FuncData) (cs : List (Addr × Addr)) (tabs : List (Addr × Str)), (∀ (s : Shared) (u : Value), BindsTo s fd ⟨[u], []⟩ [("_law_script", u)]) ∧
      (∀ p ∈ cs, (PySem.W.CodeHd h p.1 p.2 ∧ h.get? p.2 = some { cls := .none, data := .fields #[] }) ∧ K.lookup p.2 = none) ∧ (∀ H : Hp, (∀ p ∈ cs, H p.2 = some (.tbl #[])) → LamX.Tabs tabs H) ∧
      ∀ base : Heap, K.In base → base.Ns mainGlobals mg → (∀ p ∈ cs, LamX.TabB base mg p.1 p.2) → FnG l.prog w K mg base CX0 10 fa fd ["_law_script"] (spLaw 63 K tabs) := by
  have T : Tx w K mg C_InvalidDeed C_InvalidText C_WayError c__law_act_right_ P__law_act_right_ c__law_line_right_ P__law_line_right_ c__law_right_ P__law_right_ := ⟨PySem.W.mg_of X G aC_InvalidDeed,
    ⟨⟨_, _, base_VE, xa_InvalidDeed, xb_InvalidDeed⟩, xc_InvalidDeed, xd_InvalidDeed, xs_InvalidDeed, xt_InvalidDeed, xk_InvalidDeed⟩,
    xh_InvalidDeed,
    ⟨xe_InvalidDeed, xg_InvalidDeed, xs_InvalidDeed, xc_InvalidDeed⟩,
    xn_InvalidDeed,
    PySem.W.mg_of X G aC_InvalidText,
    ⟨⟨_, _, base_VE, xa_InvalidText, xb_InvalidText⟩, xc_InvalidText, xd_InvalidText, xs_InvalidText, xt_InvalidText, xk_InvalidText⟩,
    xh_InvalidText,
    ⟨xe_InvalidText, xg_InvalidText, xs_InvalidText, xc_InvalidText⟩,
    xn_InvalidText,
    xm_InvalidDeed_InvalidDeed,
    xm_InvalidDeed_InvalidText,
    xm_InvalidText_InvalidDeed,
    xm_InvalidText_InvalidText,
    ⟨_, _, ⟨⟨_, _, _, _, _, _, _, _, _, _, rfl, l_InvalidDeed___init__, c_InvalidDeed___init__, .inl ⟨rfl, rfl⟩, .inl rfl⟩, k_InvalidDeed___init__⟩, a_InvalidDeed___init__, i_InvalidDeed___init__⟩,
    ⟨_, _, ⟨⟨_, _, _, _, _, _, _, _, _, _, rfl, l_InvalidText___init__, c_InvalidText___init__, .inl ⟨rfl, rfl⟩, .inl rfl⟩, k_InvalidText___init__⟩, a_InvalidText___init__, i_InvalidText___init__⟩,
    PySem.W.mg_of X G aC_WayError,
    ⟨ea_InvalidDeed, eb_InvalidDeed, es_InvalidDeed, ed_InvalidDeed, ee_InvalidDeed, ef_InvalidDeed, eg_InvalidDeed, eh_InvalidDeed⟩,
    ⟨ea_InvalidText, eb_InvalidText, es_InvalidText, ed_InvalidText, ee_InvalidText, ef_InvalidText, eg_InvalidText, eh_InvalidText⟩,
    ki_InvalidDeed_WayError,
    ki_InvalidText_WayError,
    dt__law_line_right__law_act_right,
    dt__law_right__law_act_right,
    dt__law_right__law_line_right,
    ⟨_, _, ⟨⟨_, _, _, _, _, _, _, _, _, _, rfl, l__law_draw, c__law_draw, .inl ⟨rfl, rfl⟩, .inl rfl⟩, k__law_draw⟩, PySem.W.mg_of X G a__law_draw⟩,
    ⟨_, _, ⟨⟨_, _, _, _, _, _, _, _, _, _, rfl, l__law_pick, c__law_pick, .inl ⟨rfl, rfl⟩, .inl rfl⟩, k__law_pick⟩, PySem.W.mg_of X G a__law_pick⟩,
    ⟨_, _, ⟨⟨_, _, _, _, _, _, _, _, _, _, rfl, l__law_lots, c__law_lots, .inl ⟨rfl, rfl⟩, .inl rfl⟩, k__law_lots⟩, PySem.W.mg_of X G a__law_lots⟩,
    ⟨_, _, ⟨⟨_, _, _, _, _, _, _, _, _, _, rfl, l__law_number, c__law_number, .inl ⟨rfl, rfl⟩, .inl rfl⟩, k__law_number⟩, PySem.W.mg_of X G a__law_number⟩,
    ⟨_, _, ⟨⟨_, _, _, _, _, _, _, _, _, _, rfl, l__law_act, c__law_act, .inl ⟨rfl, rfl⟩, .inl rfl⟩, k__law_act⟩, PySem.W.mg_of X G a__law_act⟩,
    ⟨_, _, ⟨⟨_, _, _, _, _, _, _, _, _, _, rfl, l__law_spelled, c__law_spelled, .inl ⟨rfl, rfl⟩, .inl rfl⟩, k__law_spelled⟩, PySem.W.mg_of X G a__law_spelled⟩,
    ⟨_, _, ⟨⟨_, _, _, _, _, _, _, _, _, _, rfl, l__law_heard, c__law_heard, .inl ⟨rfl, rfl⟩, .inl rfl⟩, k__law_heard⟩, PySem.W.mg_of X G a__law_heard⟩,
    ⟨_, _, ⟨⟨_, _, _, _, _, _, _, _, _, _, rfl, l_is_integer, c_is_integer, .inl ⟨rfl, rfl⟩, .inl rfl⟩, k_is_integer⟩, PySem.W.mg_of X G a_is_integer⟩,
    ⟨_, _, ⟨⟨_, _, _, _, _, _, _, _, _, _, rfl, l_is_deed, c_is_deed, .inl ⟨rfl, rfl⟩, .inl rfl⟩, k_is_deed⟩, PySem.W.mg_of X G a_is_deed⟩,
    ⟨_, _, ⟨⟨_, _, _, _, _, _, _, _, _, _, rfl, l_line_of, c_line_of, .inl ⟨rfl, rfl⟩, .inl rfl⟩, k_line_of⟩, PySem.W.mg_of X G a_line_of⟩,
    ⟨_, _, ⟨⟨_, _, _, _, _, _, _, _, _, _, rfl, l__law_integer, c__law_integer, .inl ⟨rfl, rfl⟩, .inl rfl⟩, k__law_integer⟩, PySem.W.mg_of X G a__law_integer⟩,
    ⟨_, _, ⟨⟨_, _, _, _, _, _, _, _, _, _, rfl, l__law_read, c__law_read, .inl ⟨rfl, rfl⟩, .inl rfl⟩, k__law_read⟩, PySem.W.mg_of X G a__law_read⟩,
    ⟨_, _, ⟨⟨_, _, _, _, _, _, _, _, _, _, rfl, l_number_of, c_number_of, .inl ⟨rfl, rfl⟩, .inl rfl⟩, k_number_of⟩, PySem.W.mg_of X G a_number_of⟩,
    ⟨_, _, ⟨⟨_, _, _, _, _, _, _, _, _, _, rfl, l_read_deed, c_read_deed, .inl ⟨rfl, rfl⟩, .inl rfl⟩, k_read_deed⟩, PySem.W.mg_of X G a_read_deed⟩,
    ⟨_, _, ⟨⟨_, _, _, _, _, _, _, _, _, _, rfl, l__law_line_right, c__law_line_right, .inl ⟨rfl, rfl⟩, .inl rfl⟩, k__law_line_right⟩, PySem.W.mg_of X G a__law_line_right, ⟨_, _, _, _, _, _, _, _, rfl, l__law_line_right, c__law_line_right⟩⟩,
    ⟨_, _, ⟨⟨_, _, _, _, _, _, _, _, _, _, rfl, l__law_odd_acts, c__law_odd_acts, .inl ⟨rfl, rfl⟩, .inl rfl⟩, k__law_odd_acts⟩, PySem.W.mg_of X G a__law_odd_acts⟩,
    ⟨_, _, ⟨⟨_, _, _, _, _, _, _, _, _, _, rfl, l__law_act_right, c__law_act_right, .inl ⟨rfl, rfl⟩, .inl rfl⟩, k__law_act_right⟩, PySem.W.mg_of X G a__law_act_right, ⟨_, _, _, _, _, _, _, _, rfl, l__law_act_right, c__law_act_right⟩⟩,
    ⟨_, _, ⟨⟨_, _, _, _, _, _, _, _, _, _, rfl, l__law_bent, c__law_bent, .inl ⟨rfl, rfl⟩, .inl rfl⟩, k__law_bent⟩, PySem.W.mg_of X G a__law_bent⟩,
    ⟨_, _, ⟨⟨_, _, _, _, _, _, _, _, _, _, rfl, l__law_right, c__law_right, .inl ⟨rfl, rfl⟩, .inl rfl⟩, k__law_right⟩, PySem.W.mg_of X G a__law_right, ⟨_, _, _, _, _, _, _, _, rfl, l__law_right, c__law_right⟩⟩,
    ⟨_, _, ⟨⟨_, _, _, _, _, _, _, _, _, _, rfl, l__law_pot, c__law_pot, .inl ⟨rfl, rfl⟩, .inl rfl⟩, k__law_pot⟩, PySem.W.mg_of X G a__law_pot⟩,
    ⟨_, _, ⟨⟨_, _, _, _, _, _, _, _, _, _, rfl, l_law, c_law, .inl ⟨rfl, rfl⟩, .inl rfl⟩, k_law⟩, PySem.W.mg_of X G a_law⟩,
    PySem.W.mg_none_of X G z_abs,
    PySem.W.mg_none_of X G z_all,
    PySem.W.mg_none_of X G z_bool,
    PySem.W.mg_none_of X G z_divmod,
    PySem.W.mg_none_of X G z_int,
    PySem.W.mg_none_of X G z_isinstance,
    PySem.W.mg_none_of X G z_len,
    PySem.W.mg_none_of X G z_list,
    PySem.W.mg_none_of X G z_max,
    PySem.W.mg_none_of X G z_min,
    PySem.W.mg_none_of X G z_range,
    PySem.W.mg_none_of X G z_repr,
    PySem.W.mg_none_of X G z_str,
    PySem.W.mg_none_of X G z_tuple,
    ⟨_, PySem.W.mg_of X G y_DEED_NUMBERS, tbF_of dw_DEED_NUMBERS (by
    intro z i e
    unfold t_DEED_NUMBERS at e
    simp only [tbAt] at e
    split at e
    · rename_i z0; subst z0; cases e; exact ⟨_, nk_DEED_NUMBERS_0⟩
    split at e
    · rename_i z0; subst z0; cases e; exact ⟨_, nk_DEED_NUMBERS_1⟩
    split at e
    · rename_i z0; subst z0; cases e; exact ⟨_, nk_DEED_NUMBERS_2⟩
    split at e
    · rename_i z0; subst z0; cases e; exact ⟨_, nk_DEED_NUMBERS_3⟩
    split at e
    · rename_i z0; subst z0; cases e; exact ⟨_, nk_DEED_NUMBERS_4⟩
    split at e
    · rename_i z0; subst z0; cases e; exact ⟨_, nk_DEED_NUMBERS_5⟩
    split at e
    · rename_i z0; subst z0; cases e; exact ⟨_, nk_DEED_NUMBERS_6⟩
    split at e
    · rename_i z0; subst z0; cases e; exact ⟨_, nk_DEED_NUMBERS_7⟩
    split at e
    · rename_i z0; subst z0; cases e; exact ⟨_, nk_DEED_NUMBERS_8⟩
    exact nomatch e)⟩,
    ⟨_, PySem.W.mg_of X G y_DIGITS⟩,
    ⟨_, PySem.W.mg_of X G y_NOTHING⟩⟩
  have e := hfa.symm.trans (PySem.W.mg_of X G a_law)
  cases e
  have F : FunD K "law" "law" (defArgs s_law) (defBody s_law) (defScope s_law) [] [] fa _ := ⟨⟨_, _, _, _, _, _, _, _, _, _, rfl, l_law, c_law, .inl ⟨rfl, rfl⟩, .inl rfl⟩, k_law⟩
  refine ⟨_, [(c__law_act_right_, P__law_act_right_), (c__law_line_right_, P__law_line_right_), (c__law_right_, P__law_right_)], (mkG C_InvalidDeed C_InvalidText C_WayError c__law_act_right_ P__law_act_right_ c__law_line_right_ P__law_line_right_ c__law_right_ P__law_right_).tabs, fun s u => F.bindsA (ps := ["_law_script"]) (fun _ _ _ _ _ _ us hl => match us, hl with | [_], _ => rfl) s [u] rfl, ?_, ?_, fun base _ _ tb => law_of (ok_law T ⟨tb _ (.head _), tb _ (.tail _ (.head _)), tb _ (.tail _ (.tail _ (.head _)))⟩ F) hT⟩
  · intro p m
    rcases List.mem_cons.mp m with z | m
    · rw [z]; exact ⟨tabOf _ _ _ _ rc__law_act_right tb__law_act_right, tn__law_act_right⟩
    rcases List.mem_cons.mp m with z | m
    · rw [z]; exact ⟨tabOf _ _ _ _ rc__law_line_right tb__law_line_right, tn__law_line_right⟩
    rcases List.mem_cons.mp m with z | m
    · rw [z]; exact ⟨tabOf _ _ _ _ rc__law_right tb__law_right, tn__law_right⟩
    exact nomatch m
  · intro H z
    refine tabs_of (cs := [(c__law_act_right_, P__law_act_right_), (c__law_line_right_, P__law_line_right_), (c__law_right_, P__law_right_)]) ?_ z
    intro t m
    rcases List.mem_cons.mp m with e | m
    · exact ⟨_, .head _, by rw [e]⟩
    rcases List.mem_cons.mp m with e | m
    · exact ⟨_, .tail _ (.head _), by rw [e]⟩
    rcases List.mem_cons.mp m with e | m
    · exact ⟨_, .tail _ (.tail _ (.head _)), by rw [e]⟩
    exact nomatch m
end Lw

set_option Elab.async false
set_option linter.all false
set_option maxRecDepth 100000
/-! Rules for raise, try, an error's field. -/
namespace Ev
open Py PySem
section
variable {E : EP} {Q : D → LH → Prop} {h : LH} {r : LS} {N B C : NP} {T : D → LH → Prop}
theorem wf_Raise1 {c i : Nat} {fa : EX} (q : WP (fa r h) (fun d h1 => E c [(i, d)] h1) E) : WF (sRaise1 c i fa r h) N T B C E := wf_to q
theorem wf_Raise0 {c : Nat} (q : E c [] h) : WF (sRaise0 c r h) N T B C E := q
theorem wf_Try {b : SX} {l : List Hd} (q : WF (b r h) N T B C (fun c fs h1 => WF (hdl l c fs r h1) N T B C E)) : WF (sTry b l r h) N T B C E := by
  unfold sTry
  cases z : b r h with
  | nx r1 h1 => rw [z] at q; exact q
  | rt d h1 => rw [z] at q; exact q
  | bk r1 h1 => rw [z] at q; exact q
  | ct r1 h1 => rw [z] at q; exact q
  | exc c fs h1 => rw [z] at q; exact q
  | stuck => rw [z] at q; exact q
theorem wf_hdlT {mt : Nat → Option Bool} {oi : Option Nat} {b : Nat → List (Nat × D) → SX} {l : List Hd} {c : Nat} {fs : List (Nat × D)} (e : mt c = some true) (q : WF (b c fs (wipe r oi) h) (fun r' h' => N (wipe r' oi) h') T (fun r' h' => B (wipe r' oi) h') (fun r' h' => C (wipe r' oi) h') noE) : WF (hdl ((mt, oi, b) :: l) c fs r h) N T B C E := by
  unfold hdl
  rw [e]
  show WF (wipeF oi (b c fs (wipe r oi) h)) N T B C E
  cases z : b c fs (wipe r oi) h with
  | nx r1 h1 => rw [z] at q; exact q
  | rt d h1 => rw [z] at q; exact q
  | bk r1 h1 => rw [z] at q; exact q
  | ct r1 h1 => rw [z] at q; exact q
  | exc c fs h1 => rw [z] at q; exact q.elim
  | stuck => rw [z] at q; exact q
theorem wf_hdlF {mt : Nat → Option Bool} {oi : Option Nat} {b : Nat → List (Nat × D) → SX} {l : List Hd} {c : Nat} {fs : List (Nat × D)} (e : mt c = some false) (q : WF (hdl l c fs r h) N T B C E) : WF (hdl ((mt, oi, b) :: l) c fs r h) N T B C E := by
  unfold hdl
  rw [e]
  exact q
theorem wp_eXf {k : Nat} {fs : List (Nat × D)} {x : D} (e : getA k fs = some x) (q : Q x h) : WP (eXf k fs r h) Q E := by
  unfold eXf
  rw [e]
  exact q
theorem wipe_s {i : Nat} : wipe r (some i) = r.set i none := rfl
end
end Ev

set_option Elab.async false
set_option linter.all false
set_option maxRecDepth 100000
/-! Rules for dict(list(d.items()) + l), d.update(e), [*d.values(), ..], range(a, b, -1), x.split(sep). -/
namespace Ev
open Py PySem
section
variable {E : EP} {Q : D → LH → Prop} {h : LH} {r : LS}
def DctAt (x : D) (h : LH) (P : List (Ky × D) → Prop) : Prop := ∃ ks, dctD x h = some ks ∧ P ks
theorem dctat {n : Nat} {ks : List (Ky × D)} {P : List (Ky × D) → Prop} (e : h[n]? = some (.dct ks)) (p : P ks) : DctAt (.ref n) h P := ⟨ks, by simp only [dctD, e], p⟩
theorem wp_eDictPlus {fo fl : EX} (q : WP (fo r h) (fun x h1 => DctAt x h1 fun ks => WP (fl r h1) (fun y h2 => WP (plusD ks y h2) Q E) E) E) : WP (eDictPlus fo fl r h) Q E :=
  wp_bind (wp_use q (fun x h1 z => by
    obtain ⟨ks, e, z⟩ := z
    simp only [e]; exact wp_bind z) (fun _ _ _ z => z))
theorem wp_oSpl {a b : Str} (l : (b.length == 0) = false ∧ a.length + 2 ≤ sizeLine) (q : ∀ n h1, h.length ≤ n → Ext [] h h1 → h1[n]? = some (.lst ((Txt.split a b).map D.str)) → Q (.ref n) h1) : WP (oSpl (.str a) (.str b) h) Q E := by
  show WP (splL a b h) Q E
  unfold splL; rw [if_pos l]; exact wp_new q
end
end Ev

set_option Elab.async false
set_option linter.all false
set_option maxRecDepth 100000
/-! Rules for runs: dicts of whole keys, o[i] += x, fields as targets. -/
namespace Ev
open Py PySem
section
variable {E : EP} {Q : D → LH → Prop} {h : LH} {r : LS} {N B C : NP} {T : D → LH → Prop}
def DputK (d x y : D) (r : LS) (h : LH) (N : NP) : Prop := ∃ n k kvs, x = .ref n ∧ keyD y = some k ∧ h[n]? = some (.dct kvs) ∧ kvs.length < sizeLine ∧ ∀ h1, Ext [n] h h1 → h1[n]? = some (.dct (putD kvs k d)) → (putD kvs k d).length ≤ kvs.length + 1 → N r h1
theorem dputk_s {n : Nat} {s : Str} {kvs : List (Ky × D)} {d : D} {N : NP} (e : h[n]? = some (.dct kvs)) (l : kvs.length < sizeLine) (q : ∀ h1, Ext [n] h h1 → h1[n]? = some (.dct (putD kvs (.inr s) d)) → (putD kvs (.inr s) d).length ≤ kvs.length + 1 → N r h1) : DputK d (.ref n) (.str s) r h N := ⟨n, _, kvs, rfl, rfl, e, l, q⟩
theorem wf_sDputK {o i e : EX} (q : WP (e r h) (fun d h1 => WP (o r h1) (fun x h2 => WP (i r h2) (fun y h3 => DputK d x y r h3 N) E) E) E) : WF (sDput o i e r h) N T B C E :=
  wf_to (wp_use q (fun d h1 z => wf_to (wp_use z (fun x h2 z => wf_to (wp_use z (fun y h3 z => by
    obtain ⟨n, k, kvs, rfl, ek, e, l, q⟩ := z
    simp only [ek, e, if_pos l]; exact q _ ext_set (at_set e) (len_put _ _ _)) (fun _ _ _ z => z))) (fun _ _ _ z => z))) (fun _ _ _ z => z))
theorem wp_eGet1 {fo fi : EX} (q : WP (fo r h) (fun x h1 => DctAt x h1 fun _ => WP (fi r h1) (fun y h2 => WP (get1D x y h2) Q E) E) E) : WP (eGet1 fo fi r h) Q E :=
  wp_bind (wp_use q (fun x h1 z => by
    obtain ⟨ks, e, z⟩ := z
    simp only [e]; exact wp_bind z) (fun _ _ _ z => z))
theorem wp_eGet2 {fo fi fz : EX} (q : WP (fo r h) (fun x h1 => DctAt x h1 fun _ => WP (fi r h1) (fun y h2 => WP (fz r h2) (fun z h3 => WP (get2D x y z h3) Q E) E) E) E) : WP (eGet2 fo fi fz r h) Q E :=
  wp_bind (wp_use q (fun x h1 z => by
    obtain ⟨ks, e, z⟩ := z
    simp only [e]; exact wp_bind (wp_use z (fun _ _ z => wp_bind z) (fun _ _ _ z => z))) (fun _ _ _ z => z))
theorem wp_ePop {fo fi : EX} (q : WP (fo r h) (fun x h1 => DctAt x h1 fun _ => WP (fi r h1) (fun y h2 => WP (popD x y h2) Q E) E) E) : WP (ePop fo fi r h) Q E :=
  wp_bind (wp_use q (fun x h1 z => by
    obtain ⟨ks, e, z⟩ := z
    simp only [e]; exact wp_bind z) (fun _ _ _ z => z))
end
end Ev

set_option Elab.async false
set_option linter.all false
set_option maxRecDepth 100000
/-! Rules for zip, == of dicts, reflected ==, a loop over a dict's keys, items, [*l, ..], join, !r. -/
namespace Ev
open Py PySem
section
variable {E : EP} {Q : D → LH → Prop} {h : LH} {r : LS} {N B C : NP} {T : D → LH → Prop}
def ZipAt (x y : D) (h : LH) (P : Src → Prop) : Prop := ∃ n k xs ys, x = .ref n ∧ y = .ref k ∧ h[n]? = some (.lst xs) ∧ h[k]? = some (.lst ys) ∧ P (.zip (.lst n) (.lst k))
theorem zipat {n k : Nat} {xs ys : List D} {P : Src → Prop} (e1 : h[n]? = some (.lst xs)) (e2 : h[k]? = some (.lst ys)) (p : P (.zip (.lst n) (.lst k))) : ZipAt (.ref n) (.ref k) h P := ⟨n, k, xs, ys, rfl, rfl, e1, e2, p⟩
theorem wp_iZip {a b : EX} {P : Src → LH → Prop} (q : WP (a r h) (fun x h1 => WP (b r h1) (fun y h2 => ZipAt x y h2 fun s => P s h2) E) E) : WP (Py.iZip a b r h) P E :=
  wp_bind (wp_use q (fun x h1 z => wp_bind (wp_use z (fun y h2 z => by
    obtain ⟨n, k, xs, ys, rfl, rfl, e1, e2, z⟩ := z
    simp only [e1, e2]; exact z) (fun _ _ _ z => z))) (fun _ _ _ z => z))
def zipD (xs ys : List D) : List D := List.zipWith (fun x y => .tup [x, y]) xs ys
def IsD (h : LH) (n : Nat) (kvs : List (Ky × D)) : Prop := h[n]? = some (.dct kvs) ∨ h[n]? = some (.hid kvs)
theorem IsD.rd {n : Nat} {kvs : List (Ky × D)} (e : IsD h n kvs) : dctR (.ref n) h = some kvs := by
  rcases e with e | e <;> simp only [dctR, e]
theorem IsD.ext {W : List Nat} {h1 : LH} {n : Nat} {kvs : List (Ky × D)} (e : IsD h n kvs) (x : Ext W h h1) (k : n ∉ W) : IsD h1 n kvs := e.imp (fun e => x.get e k) (fun e => x.get e k)
theorem IsD.lt {n : Nat} {kvs : List (Ky × D)} (e : IsD h n kvs) : n < h.length := by rcases e with e | e <;> exact lt_of_at e
def SqAt (x : D) (h : LH) (P : List D → Prop) : Prop := ∃ xs, seqD x h = some xs ∧ P xs
theorem sqat {x : D} {xs : List D} {P : List D → Prop} (e : seqD x h = some xs) (p : P xs) : SqAt x h P := ⟨xs, e, p⟩
theorem wp_aStar {fo : EX} {fa : AX} {Q : List D → LH → Prop} (q : WP (fo r h) (fun x h1 => SqAt x h1 fun xs => WP (fa r h1) (fun ds h2 => Q (xs ++ ds) h2) E) E) : WP (aStar fo fa r h) Q E :=
  wp_bind (wp_use q (fun x h1 z => by
    obtain ⟨ks, e, z⟩ := z
    simp only [e]
    exact wp_bind (wp_use z (fun _ _ z => z) (fun _ _ _ z => z))) (fun _ _ _ z => z))
def JnAt (a : Str) (y : D) (h : LH) (P : List Str → Prop) : Prop := ∃ ys, (seqD y h).bind strsD = some ys ∧ (ys.map (·.length)).sum + ys.length * a.length ≤ 16777216 ∧ P ys
theorem wp_eJoinL {fo fe : EX} (q : WP (fo r h) (fun x h1 => StrAt x fun a => WP (fe r h1) (fun y h2 => JnAt a y h2 fun ys => Q (.str (Txt.join a ys)) h2) E) E) : WP (eJoinL fo fe r h) Q E :=
  wp_bind (wp_use q (fun x h1 z => by
    obtain ⟨a, rfl, z⟩ := z
    exact wp_bind (wp_use z (fun y h2 z => by
      obtain ⟨ys, e, l, z⟩ := z
      simp only [e, if_pos l]; exact z) (fun _ _ _ z => z))) (fun _ _ _ z => z))
theorem wp_rB {b : Bool} (q : Q (.str (if b then "True" else "False")) h) : WP (oFmtR (.bl b) h) Q E := q
end
end Ev

set_option Elab.async false
set_option linter.all false
set_option maxRecDepth 100000
/-! Rules for texts sign by sign, int(text), str(int), lists unpacked, d[k] as a target, dict(list(d.items())). -/
namespace Ev
open Py PySem
section
variable {E : EP} {Q : D → LH → Prop} {h : LH} {r : LS} {N B C : NP} {T : D → LH → Prop}
theorem wp_iStr {a : EX} {P : Src → LH → Prop} (q : WP (a r h) (fun d h1 => StrAt d fun x => P (.its (signsD x)) h1) E) : WP (Py.iStr a r h) P E :=
  wp_bind (wp_use q (fun x h1 z => by obtain ⟨x, rfl, z⟩ := z; exact z) (fun _ _ _ z => z))
theorem wp_eSlS {a : EX} {lo hi : PX} (q : WP (a r h) (fun x h1 => WP (lo r h1) (fun l h2 => WP (hi r h2) (fun u h3 => StrAt x fun z => Need (z.length ≤ sizeLine) (Q (.str (L2.cutS z l u)) h3)) E) E) E) : WP (eSlS a lo hi r h) Q E :=
  wp_bind (wp_use q (fun x h1 z => wp_bind (wp_use z (fun l h2 z => wp_bind (wp_use z (fun u h3 z => by
    obtain ⟨y, rfl, l, z⟩ := z
    simp only [if_pos l]; exact z) (fun _ _ _ z => z))) (fun _ _ _ z => z))) (fun _ _ _ z => z))
theorem wp_ixSt {z : Str} {i : Int} {c : Nat} (l : z.length ≤ sizeLine) (e : L2.atI z.cps.toList i = some c) (q : Q (.str ⟨#[c]⟩) h) : WP (oIxS (.str z) (.int i) h) Q E := by
  simp only [oIxS, if_pos l, e]; exact q
theorem wp_inS {z : Str} {c : Nat} (q : Q (.bl (decide (c ∈ z.cps.toList))) h) : WP (oInS false (.str ⟨#[c]⟩) (.str z) h) Q E := q
theorem wp_strI {i : Int} (l : i.natAbs.log2 < 1920) (q : Q (.str (toString i)) h) : WP (bStr [.int i] h) Q E := by
  simp only [bStr, if_pos l]; exact q
theorem wp_strS {x : Str} (q : Q (.str x) h) : WP (bStr [.str x] h) Q E := q
theorem wp_intS {x : Str} {n : Int} (e : intText? x = some n) (l : x.length ≤ 640) (q : Q (.int n) h) : WP (bIntS [.str x] h) Q E := by
  simp only [bIntS, e, if_pos l]; exact q
theorem wp_intI {i : Int} (q : Q (.int i) h) : WP (bIntS [.int i] h) Q E := q
theorem wp_intB {b : Bool} (q : Q (.int (if b then 1 else 0)) h) : WP (bIntS [.bl b] h) Q E := q
theorem wf_gDput {o i : EX} {d : D} (q : WP (o r h) (fun x h1 => WP (i r h1) (fun y h2 => DputK d x y r h2 N) E) E) : WF (gDput o i d r h) N T B C E :=
  wf_to (wp_use q (fun x h1 z => wf_to (wp_use z (fun y h2 z => by
    obtain ⟨n, k, kvs, rfl, ek, e, l, q⟩ := z
    simp only [ek, e, if_pos l]; exact q _ ext_set (at_set e) (len_put _ _ _)) (fun _ _ _ z => z))) (fun _ _ _ z => z))
theorem wp_eDictItems {fo : EX} (q : WP (fo r h) (fun x h1 => DctAt x h1 fun ks => ∀ n h2, h1.length ≤ n → Ext [] h1 h2 → h2[n]? = some (.dct (mergeD [] ks)) → Q (.ref n) h2) E) : WP (eDictItems fo r h) Q E :=
  wp_bind (wp_use q (fun x h1 z => by
    obtain ⟨ks, e, z⟩ := z
    simp only [e]; exact wp_new z) (fun _ _ _ z => z))
theorem merge_fresh : ∀ (b a : List (Ky × D)), (b.map (·.1)).Nodup → (∀ p ∈ b, ∀ q ∈ a, p.1 ≠ q.1) → mergeD a b = a ++ b
  | [], a, _, _ => by simp [mergeD]
  | p :: b, a, nd, f => by
    rw [List.map_cons, List.nodup_cons] at nd
    have e : putD a p.1 p.2 = a ++ [p] := by
      unfold putD
      rw [if_neg]
      intro z
      obtain ⟨q, mq, e⟩ := List.any_eq_true.1 z
      exact f p (List.mem_cons_self ..) q mq (of_decide_eq_true e).symm
    show mergeD (putD a p.1 p.2) b = _
    rw [e, merge_fresh b (a ++ [p]) nd.2 ?_]
    · simp
    · intro u mu q mq
      rcases List.mem_append.1 mq with mq | mq
      · exact f u (List.mem_cons_of_mem _ mu) q mq
      · rw [List.mem_singleton.1 mq]
        intro z
        exact nd.1 (List.mem_map.2 ⟨u, mu, z⟩)
end
end Ev

set_option Elab.async false
set_option linter.all false
set_option maxRecDepth 100000
/-! Rules for a lambda handed to a def. -/
namespace Ev
open Py PySem
section
variable {E : EP} {Q : D → LH → Prop} {h : LH} {r : LS} {N B C : NP} {T : D → LH → Prop}
theorem wp_eTold {n : Nat} {b : (LH → R D) → SX} {th : EX} (q : WF (b (th r) (List.replicate n none) h) (fun _ h1 => Q .non h1) Q noN noN noE) : WP (eTold n b th r h) Q E := by
  unfold eTold
  cases z : b (th r) (List.replicate n none) h with
  | nx r1 h1 => rw [z] at q; exact q
  | rt d h1 => rw [z] at q; exact q
  | bk r1 h1 => rw [z] at q; exact q.elim
  | ct r1 h1 => rw [z] at q; exact q.elim
  | exc c fs h1 => rw [z] at q; exact q.elim
  | stuck => rw [z] at q; exact q
theorem wf_lSeq {b : (LH → R D) → SX} {g : SX} {k : LH → R D} (q : WF (sSeq (b k) g r h) N T B C E) : WF (lSeq b g k r h) N T B C E := q
theorem wf_lTry {b : (LH → R D) → SX} {l : List Hd} {k : LH → R D} (q : WF (b k r h) N T B C (fun c fs h1 => WF (hdl l c fs r h1) N T B C E)) : WF (lTry b l k r h) N T B C E := wf_Try q
end
end Ev

set_option Elab.async false
set_option linter.all false
set_option maxRecDepth 100000
/-! Rules: isinstance of what may be an own instance, repr of None, calls that might raise, lists with own instances compared, a lambda's value in a list. -/
namespace Ev
open Py PySem
section
variable {E : EP} {Q : D → LH → Prop} {h : LH} {r : LS} {N B C : NP} {T : D → LH → Prop}
end
end Ev

set_option Elab.async false
set_option linter.all false
set_option maxRecDepth 100000
set_option maxHeartbeats 3000000
/-! Own layer: return [x, isinstance(a(), t)]. -/
namespace Py
open PySem L2 PySem.Spec PyProof.Rows LamX
section
variable {X : Cx} {G : Gam} {f c' : Addr} {q a : Str} {σ0 : L2.St} {th : EX} {W : WX}
def isiK (k : Kd) (t : LH → R D) : LH → R D := fun h => (t h).bind fun d h1 => match kindD d h1 with
  | some x => .ok (.bl (([k] : List Kd).any fun t => x.is t)) h1
  | none => .stuck
def lMadeIs (x : Str) (kd : Kd) : (LH → R D) → SX := fun k => sRet (eLst (aCons (eC (.str x)) (aCons (fun _ h => isiK kd k h) aNil)))
end
end Py

set_option Elab.async false
set_option linter.all false
set_option maxRecDepth 100000
/-! Rules: repr of data with dicts, isinstance of what a lambda gives. -/
namespace Ev
open Py PySem
section
variable {E : EP} {Q : D → LH → Prop} {h : LH} {r : LS} {N B C : NP} {T : D → LH → Prop}
theorem deepK_list {m n : Nat} {xs : List D} {ds : List PyData} (e : h[n]? = some (.lst xs)) (q : mapO (deepK h m) xs = some ds) : deepK h (m + 1) (.ref n) = some (.list ds) := by
  rw [deepK, e]; simp only [q]; rfl
theorem deepK_tup {m : Nat} {xs : List D} {ds : List PyData} (q : mapO (deepK h m) xs = some ds) : deepK h (m + 1) (.tup xs) = some (.tuple ds) := by
  rw [deepK, q]; rfl
theorem deepK_dct {m n : Nat} {kvs : List (Ky × D)} {ds : List PyData} (e : h[n]? = some (.dct kvs)) (q : mapO (deepK h m) (kvs.map Prod.snd) = some ds) : deepK h (m + 1) (.ref n) = some (.dict ((kvs.map fun p => kyP p.1).zip ds)) := by
  rw [deepK, e]; simp only [q]; rfl
theorem sum_le {k : Nat} : ∀ {ts : List Str}, (∀ t ∈ ts, t.length ≤ k) → (ts.map fun t => t.length + 2).sum ≤ ts.length * (k + 2)
  | [], _ => by simp
  | t :: ts, l => by
    have a := l t (List.mem_cons_self ..)
    have b := sum_le (ts := ts) fun x m => l x (List.mem_cons_of_mem _ m)
    simp only [List.map_cons, List.sum_cons, List.length_cons, Nat.succ_mul]
    omega
theorem all_len : ∀ {xs : List PyData}, (PyData.shownAll xs).length = xs.length
  | [] => by rw [PyData.shownAll]; rfl
  | x :: xs => by rw [PyData.shownAll, List.length_cons, List.length_cons, all_len]
/-- a text that is not long -/
structure Brief (k m : Nat) (a : PyData) : Prop where
  show_ : a.showable = true
  deep_ : a.depth ≤ k
  len_ : a.shown.length ≤ m
theorem Brief.up {k m k' m' : Nat} {a : PyData} (b : Brief k m a) (hk : k ≤ k' := by decide) (hm : m ≤ m' := by decide) : Brief k' m' a := ⟨b.1, Nat.le_trans b.2 hk, Nat.le_trans b.3 hm⟩
theorem brief_all {k m : Nat} : ∀ {xs : List PyData}, (∀ x ∈ xs, Brief k m x) → PyData.showableAll xs = true ∧ PyData.depthAll xs ≤ k ∧ ∀ t ∈ PyData.shownAll xs, t.length ≤ m
  | [], _ => ⟨by rw [PyData.showableAll], by rw [PyData.depthAll]; exact Nat.zero_le _, by rw [PyData.shownAll]; simp⟩
  | x :: xs, l => by
    obtain ⟨a1, a2, a3⟩ := brief_all (xs := xs) fun y m => l y (List.mem_cons_of_mem _ m)
    have b := l x (List.mem_cons_self ..)
    refine ⟨by rw [PyData.showableAll, b.1, a1]; rfl, by rw [PyData.depthAll]; have := b.2; omega, ?_⟩
    rw [PyData.shownAll]
    intro t mt
    rcases List.mem_cons.1 mt with rfl | mt
    · exact b.3
    · exact a3 t mt
theorem brief_list {k m : Nat} {xs : List PyData} (l : ∀ x ∈ xs, Brief k m x) : Brief (k + 1) (2 + xs.length * (m + 2)) (.list xs) := by
  obtain ⟨a1, a2, a3⟩ := brief_all l
  refine ⟨by rw [PyData.showable]; exact a1, by rw [PyData.depth]; omega, ?_⟩
  have h1 := tf_len (PyData.shownAll xs) 0 "["
  have h2 := sum_le a3
  rw [all_len] at h2
  rw [PyData.shown]
  unfold listText
  rw [Str.length_append]
  have e1 : ("[" : Str).length = 1 := by decide
  have e2 : ("]" : Str).length = 1 := by decide
  omega
theorem showK_of {k m : Nat} {a : PyData} (b : Brief k m a) (hk : k ≤ 64 := by decide) (hm : m ≤ sizeLine := by decide) : showK a = true := by
  unfold showK
  rw [b.1, decide_eq_true (Nat.le_trans b.2 hk), decide_eq_true (Nat.le_trans b.3 hm)]; rfl
/-! lists of lists -/
def Conts (h : LH) (n : Nat) : List Nat → List (List D) → Prop
  | [], [] => True
  | m :: ms, L :: Ls => (m ≠ n ∧ h[m]? = some (.lst L)) ∧ Conts h n ms Ls
  | _, _ => False
theorem Conts.ext {h1 : LH} {n : Nat} (x : Ext [n] h h1) : ∀ {ms : List Nat} {Ls : List (List D)}, Conts h n ms Ls → Conts h1 n ms Ls
  | [], [], _ => True.intro
  | m :: ms, L :: Ls, z => ⟨⟨z.1.1, x.get1 z.1.2 z.1.1⟩, Conts.ext x z.2⟩
  | [], _ :: _, z => z.elim
  | _ :: _, [], z => z.elim
theorem Conts.ext0 {h1 : LH} {n : Nat} (x : Ext [] h h1) : ∀ {ms : List Nat} {Ls : List (List D)}, Conts h n ms Ls → Conts h1 n ms Ls
  | [], [], _ => True.intro
  | m :: ms, L :: Ls, z => ⟨⟨z.1.1, x.get0 z.1.2⟩, Conts.ext0 x z.2⟩
  | [], _ :: _, z => z.elim
  | _ :: _, [], z => z.elim
theorem Conts.snoc {n m : Nat} {L : List D} (a : m ≠ n) (b : h[m]? = some (.lst L)) : ∀ {ms : List Nat} {Ls : List (List D)}, Conts h n ms Ls → Conts h n (ms ++ [m]) (Ls ++ [L])
  | [], [], _ => ⟨⟨a, b⟩, True.intro⟩
  | _ :: ms, _ :: Ls, z => ⟨z.1, Conts.snoc a b z.2⟩
  | [], _ :: _, z => z.elim
  | _ :: _, [], z => z.elim
theorem Conts.len {n : Nat} : ∀ {ms : List Nat} {Ls : List (List D)}, Conts h n ms Ls → ms.length = Ls.length
  | [], [], _ => rfl
  | _ :: ms, _ :: Ls, z => by simp [Conts.len z.2]
  | [], _ :: _, z => z.elim
  | _ :: _, [], z => z.elim
theorem Conts.deepK {n k : Nat} : ∀ {ms : List Nat} {Ls : List (List D)} {ds : List (List PyData)}, Conts h n ms Ls → mapO (mapO (deepK h k)) Ls = some ds → mapO (Py.deepK h (k + 1)) (ms.map D.ref) = some (ds.map PyData.list)
  | [], [], _, _, e => by cases e; rfl
  | m :: ms, L :: Ls, ds, z, e => by
    simp only [mapO] at e
    cases q1 : mapO (Py.deepK h k) L with
    | none => simp only [q1] at e; cases e
    | some x =>
      cases q2 : mapO (mapO (Py.deepK h k)) Ls with
      | none => simp only [q1, q2] at e; cases e
      | some zs =>
        simp only [q1, q2] at e
        cases e
        exact mapO_cons (deepK_list z.1.2 q1) (Conts.deepK z.2 q2)
  | [], _ :: _, _, z, _ => z.elim
  | _ :: _, [], _, z, _ => z.elim
theorem Conts.deep {n k : Nat} : ∀ {ms : List Nat} {Ls : List (List D)} {ds : List (List PyData)}, Conts h n ms Ls → mapO (mapO (deep h k)) Ls = some ds → mapO (Py.deep h (k + 1)) (ms.map D.ref) = some (ds.map PyData.list)
  | [], [], _, _, e => by cases e; rfl
  | m :: ms, L :: Ls, ds, z, e => by
    simp only [mapO] at e
    cases q1 : mapO (Py.deep h k) L with
    | none => simp only [q1] at e; cases e
    | some x =>
      cases q2 : mapO (mapO (Py.deep h k)) Ls with
      | none => simp only [q1, q2] at e; cases e
      | some zs =>
        simp only [q1, q2] at e
        cases e
        exact mapO_cons (deep_list z.1.2 q1) (Conts.deep z.2 q2)
  | [], _ :: _, _, z, _ => z.elim
  | _ :: _, [], _, z, _ => z.elim
/-- a list of lists -/
structure Tolds (h : LH) (n : Nat) (ms : List Nat) (Ls : List (List D)) : Prop where
  lst : h[n]? = some (.lst (ms.map D.ref))
  all : Conts h n ms Ls
theorem Tolds.ext0 {h1 : LH} {n : Nat} {ms : List Nat} {Ls : List (List D)} (t : Tolds h n ms Ls) (x : Ext [] h h1) : Tolds h1 n ms Ls := ⟨x.get0 t.lst, t.all.ext0 x⟩
end
end Ev

set_option Elab.async false
set_option linter.all false
set_option maxRecDepth 100000
/-! Rules: texts' index and upper, list(dict), keys of a module's dict, repr of any data. -/
namespace Ev
open Py PySem
section
variable {E : EP} {Q : D → LH → Prop} {h : LH} {r : LS} {N B C : NP} {T : D → LH → Prop}
theorem wp_eSIx {fo fi : EX} (q : WP (fo r h) (fun x h1 => StrAt x fun a => WP (fi r h1) (fun y h2 => WP (oSIx a y h2) Q E) E) E) : WP (eSIx fo fi r h) Q E :=
  wp_bind (wp_use q (fun x h1 z => by
    obtain ⟨a, rfl, z⟩ := z
    exact wp_bind z) (fun _ _ _ z => z))
theorem wp_SIx {a b : Str} {i : Nat} {rest : List Nat} (e : Builtin.Str.occurrences a b 0 a.length 1 = i :: rest) (q : Q (.int (i : Nat)) h) : WP (oSIx a (.str b) h) Q E := by
  simp only [oSIx, e]; exact q
theorem wp_eUp {fo : EX} (q : WP (fo r h) (fun x h1 => StrAt x fun a => Need (a.length ≤ 5592405) (Q (.str (Txt.upper a)) h1)) E) : WP (eUp fo r h) Q E :=
  wp_bind (wp_use q (fun x h1 z => by
    obtain ⟨a, rfl, l, z⟩ := z
    simp only [if_pos l]; exact z) (fun _ _ _ z => z))
theorem wp_listKD {n : Nat} {kvs : List (Ky × D)} (e : h[n]? = some (.dct kvs)) (q : ∀ k h1, h.length ≤ k → Ext [] h h1 → h1[k]? = some (.lst (kvs.map fun p => kyD p.1)) → Q (.ref k) h1) : WP (bListK [.ref n] h) Q E := by
  simp only [bListK, dctD, e]; exact wp_new q
theorem wp_listKT {xs : List D} (q : ∀ k h1, h.length ≤ k → Ext [] h h1 → h1[k]? = some (.lst xs) → Q (.ref k) h1) : WP (bListK [.tup xs] h) Q E := by
  simp only [bListK, dctD]; exact wp_bList rfl q
theorem wp_eTinF {neg : Bool} {t : Tb} {a : EX} (q : WP (a r h) (fun x h1 => StrAt x fun z => Q (.bl (if neg then (tbAt t z).isNone else (tbAt t z).isSome)) h1) E) : WP (eTinF neg t a r h) Q E :=
  wp_e1 (wp_use q (fun x h1 z => by obtain ⟨a, rfl, z⟩ := z; exact z) (fun _ _ _ z => z))
theorem wp_eTix {t : Tb} {a : EX} (q : WP (a r h) (fun x h1 => StrAt x fun z => ∃ i, tbAt t z = some i ∧ Q (.int i) h1) E) : WP (eTix t a r h) Q E :=
  wp_e1 (wp_use q (fun x h1 z => by obtain ⟨a, rfl, i, e, z⟩ := z; simp only [e]; exact z) (fun _ _ _ z => z))
theorem wf_lMadeB {x : Str} {op : List D → LH → R D} {k : LH → R D} (q : WP (k h) (fun d h1 => WP (op [d] h1) (fun y h2 => ∀ n h3, h2.length ≤ n → Ext [] h2 h3 → h3[n]? = some (.lst [.str x, y]) → T (.ref n) h3) E) E) : WF (lMadeB x op k r h) N T B C E := by
  unfold lMadeB
  refine wf_Ret (wp_eLst (wp_aCons (wp_eC (wp_aCons ?_))))
  show WP (opK op k h) _ E
  unfold opK
  refine wp_bind (wp_use q (fun d h1 z => ?_) (fun _ _ _ z => z))
  refine wp_use z (fun y h2 z => ?_) (fun _ _ _ z => z)
  refine wp_aNil ?_
  exact need (by show 2 ≤ sizeLine; decide) z
theorem mapO_mono {α β : Type} {f g : α → Option β} (m : ∀ x a, f x = some a → g x = some a) : ∀ {xs : List α} {ys : List β}, mapO f xs = some ys → mapO g xs = some ys
  | [], ys, e => e
  | x :: xs, ys, e => by
    simp only [mapO] at e
    cases q1 : f x with
    | none => rw [q1] at e; cases e
    | some b =>
      cases q2 : mapO f xs with
      | none => rw [q1, q2] at e; cases e
      | some bs =>
        rw [q1, q2] at e
        cases e
        exact mapO_cons (m x b q1) (mapO_mono m q2)
theorem deepK_ext {h1 : LH} (x : Ext [] h h1) : ∀ (n : Nat) (d : D) (a : PyData), deepK h n d = some a → deepK h1 n d = some a
  | 0, d, a, e => by
    cases d with
    | tup _ => exact nomatch e
    | ref _ => exact nomatch e
    | _ => exact e
  | n + 1, d, a, e => by
    cases d with
    | tup xs =>
      rw [deepK] at e ⊢
      obtain ⟨ys, e1, e2⟩ := Option.map_eq_some_iff.1 e
      rw [mapO_mono (deepK_ext x n) e1]
      exact congrArg some e2
    | ref k =>
      rw [deepK] at e ⊢
      cases q : h[k]? with
      | none => rw [q] at e; exact nomatch e
      | some o =>
        rw [x.get0 q]
        rw [q] at e
        cases o with
        | lst xs =>
          simp only at e ⊢
          obtain ⟨ys, e1, e2⟩ := Option.map_eq_some_iff.1 e
          rw [mapO_mono (deepK_ext x n) e1]
          exact congrArg some e2
        | dct kvs =>
          simp only at e ⊢
          obtain ⟨ys, e1, e2⟩ := Option.map_eq_some_iff.1 e
          rw [mapO_mono (deepK_ext x n) e1]
          exact congrArg some e2
        | _ => exact nomatch e
    | _ => exact e
theorem wp_repKd {d : D} {a : PyData} (e : deepK h 60 d = some a) (s : showK a = true) (q : Q (.str a.shown) h) : WP (bRepK [d] h) Q E := by
  have s' := s
  unfold showK at s'
  simp only [Bool.and_eq_true, decide_eq_true_eq] at s'
  obtain ⟨⟨s1, _⟩, s3⟩ := s'
  cases d with
  | non => cases e; rw [PyData.shown] at q; exact q
  | bl b => cases e; rw [PyData.shown] at q; exact q
  | int i =>
    cases e
    rw [PyData.shown] at q
    rw [PyData.showable, decide_eq_true_eq] at s1
    show WP (bRep [.int i] h) Q E
    simp only [bRep, if_pos s1]
    exact q
  | str x =>
    cases e
    rw [PyData.shown] at q s3
    simp only [bRepK, if_pos s3]; exact q
  | tup xs => simp only [bRepK, e, if_pos s]; exact q
  | ref n => simp only [bRepK, e, if_pos s]; exact q
  | scr _ => exact nomatch e
  | fn _ => exact nomatch e
theorem kind_ext0 {h1 : LH} {d : D} {k : Kd} (e : kindD d h = some k) (x : Ext [] h h1) : kindD d h1 = some k := by
  cases d with
  | ref n =>
    simp only [kindD] at e ⊢
    cases q : h[n]? with
    | none => rw [q] at e; exact nomatch e
    | some o => rw [q] at e; rw [x.get0 q]; exact e
  | _ => exact e
end
end Ev

set_option Elab.async false
set_option linter.all false
set_option maxRecDepth 100000
set_option maxHeartbeats 2000000
/-! Numbers as words: plain law. -/
namespace Lw
open PySem
/-- the value of signs that are digits -/
def dval (l : List Nat) : Nat := l.foldl (fun a c => a * 10 + (c - 48)) 0
def isDig (c : Nat) : Bool := decide (48 ≤ c ∧ c ≤ 57)
def numL? (l : List Nat) : Option Int :=
  let d := if l.take 1 = [45] then l.drop 1 else l
  if d = [] ∨ d.all isDig = false then none
  else if d.take 1 = [48] ∧ l ≠ [48] then none
  else some (if l.take 1 = [45] then -((dval d : Nat) : Int) else ((dval d : Nat) : Int))
/-- the number that a word tells, none if it is no such word -/
def numQ (w : Str) : Option Int := numL? w.cps.toList
theorem dval_snoc (r : List Nat) (c : Nat) : dval (r ++ [c]) = dval r * 10 + (c - 48) := by
  unfold dval; rw [List.foldl_append]; rfl
theorem numL_dval : ∀ (n : Nat) (ds : List Nat), ds.length = n → ds ≠ [] → ds.all isDig = true → (ds.take 1 = [48] → ds = [48]) → TL.numL (dval ds) = ds
  | 0, ds, l, ne, _, _ => absurd (List.length_eq_zero_iff.1 l) ne
  | n + 1, ds, l, ne, dg, hd => by
    obtain ⟨r, c, rfl⟩ : ∃ r c, ds = r ++ [c] := ⟨ds.dropLast, ds.getLast ne, (List.dropLast_concat_getLast ne).symm⟩
    rw [List.all_append, Bool.and_eq_true] at dg
    obtain ⟨dr, dc⟩ := dg
    have dc : 48 ≤ c ∧ c ≤ 57 := by simpa [isDig] using dc
    rw [dval_snoc]
    rw [List.length_append] at l
    have l : r.length = n := by simpa using l
    cases r with
    | nil =>
      show TL.numL (0 * 10 + (c - 48)) = [c]
      rw [TL.numL_lt (by omega)]
      congr 1; omega
    | cons a s =>
      have ha : a ≠ 48 := fun z => by
        subst z
        have := hd rfl
        simp at this
      have ih := numL_dval n (a :: s) l (by simp) dr (fun z => absurd (by simpa using z) ha)
      have pos : 1 ≤ dval (a :: s) := by
        rcases Nat.eq_zero_or_pos (dval (a :: s)) with z | z
        · rw [z] at ih
          have e : TL.numL 0 = [48] := TL.numL_lt (by omega)
          rw [e] at ih
          simp at ih
          exact absurd ih.1.symm ha
        · exact z
      rw [TL.numL_step (by omega)]
      have e1 : (dval (a :: s) * 10 + (c - 48)) / 10 = dval (a :: s) := by omega
      have e2 : 48 + (dval (a :: s) * 10 + (c - 48)) % 10 = c := by omega
      rw [e1, e2, ih]
theorem dval_numL (n : Nat) : dval (TL.numL n) = n := TL.numL_val n
/-- a number's own signs -/
theorem dig_numL (n : Nat) : (TL.numL n).all isDig = true := by
  rw [List.all_eq_true]
  intro c m
  have := TL.numL_digits n c m
  simp [isDig]; omega
theorem numL_inv0 {n : Nat} (h : (TL.numL n).take 1 = [48]) : n = 0 := by
  induction n using Nat.strongRecOn with
  | _ n ih =>
    by_cases c : n < 10
    · rw [TL.numL_lt c] at h
      simp at h; omega
    · rw [TL.numL_step (by omega)] at h
      have ne := TL.numL_ne (n / 10)
      rw [List.take_append_of_le_length (by
        have : 0 < (TL.numL (n / 10)).length := List.length_pos_iff.2 ne
        omega)] at h
      have := ih (n / 10) (by omega) h
      omega
theorem strS_nat (n : Nat) : (Str.ofString (toString ((n : Nat) : Int))).cps.toList = TL.numL n := TL.tl_num n
theorem strS_neg (n : Nat) : (Str.ofString (toString (-(((n + 1 : Nat)) : Int)))).cps.toList = 45 :: TL.numL (n + 1) := by
  have e : toString (-(((n + 1 : Nat)) : Int)) = "-" ++ toString (((n + 1 : Nat)) : Int) := by
    rw [PyProof.Rows.toString_neg (by omega)]
    congr 2; omega
  rw [e, ← strS_nat]
  simp [Str.ofString]
  rfl
def intS (i : Int) : Str := Str.ofString (toString i)
theorem numQ_int (i : Int) : numQ (intS i) = some i := by
  unfold numQ intS
  rcases (by omega : i < 0 ∨ 0 ≤ i) with c | c
  · obtain ⟨n, rfl⟩ : ∃ n : Nat, i = -(((n + 1 : Nat)) : Int) := ⟨(-i - 1).toNat, by omega⟩
    rw [strS_neg]
    unfold numL?
    simp only [List.take_succ_cons, List.take_zero, if_true, List.drop_succ_cons, List.drop_zero]
    rw [if_neg (by rw [dig_numL]; simp [TL.numL_ne])]
    rw [if_neg (fun z => by have := numL_inv0 z.1; omega), dval_numL]
  · obtain ⟨n, rfl⟩ : ∃ n : Nat, i = ((n : Nat) : Int) := ⟨i.toNat, by omega⟩
    rw [strS_nat]
    have h45 : (TL.numL n).take 1 ≠ [45] := fun z => by
      have m : 45 ∈ TL.numL n := List.mem_of_mem_take (i := 1) (by rw [z]; simp)
      exact TL.numL_free (n := n) (s := 45) (.inl (by omega)) m
    unfold numL?
    simp only [if_neg h45]
    rw [if_neg (by rw [dig_numL]; simp [TL.numL_ne])]
    rw [if_neg (fun z => by
      have := numL_inv0 z.1
      subst this
      exact z.2 (TL.numL_lt (by omega))), dval_numL]
theorem numQ_inv {w : Str} {i : Int} (e : numQ w = some i) : intS i = w := by
  have key : (intS i).cps.toList = w.cps.toList := by
    unfold numQ numL? at e
    unfold intS
    generalize w.cps.toList = l at e ⊢
    by_cases c : l.take 1 = [45]
    · simp only [if_pos c] at e
      split at e
      · exact nomatch e
      rename_i h1
      split at e
      · exact nomatch e
      rename_i h2
      cases e
      have ne : l.drop 1 ≠ [] := fun z => h1 (.inl z)
      have dg : (l.drop 1).all isDig = true := by
        cases z : (l.drop 1).all isDig with
        | true => rfl
        | false => exact absurd (.inr z) h1
      have l48 : l ≠ [48] := fun z => by rw [z] at c; simp at c
      have h48 : (l.drop 1).take 1 ≠ [48] := fun z => h2 ⟨z, l48⟩
      have nv := numL_dval _ (l.drop 1) rfl ne dg (fun z => absurd z h48)
      obtain ⟨m, em⟩ : ∃ m, dval (l.drop 1) = m + 1 := by
        cases z : dval (l.drop 1) with
        | zero =>
          rw [z] at nv
          have : TL.numL 0 = [48] := TL.numL_lt (by omega)
          rw [this] at nv
          rw [← nv] at h48
          exact absurd rfl h48
        | succ m => exact ⟨m, rfl⟩
      rw [em, strS_neg, ← em, nv]
      cases l with
      | nil => simp at c
      | cons a r => simp at c; subst c; rfl
    · simp only [if_neg c] at e
      split at e
      · exact nomatch e
      rename_i h1
      split at e
      · exact nomatch e
      rename_i h2
      cases e
      have ne : l ≠ [] := fun z => h1 (.inl z)
      have dg : l.all isDig = true := by
        cases z : l.all isDig with
        | true => rfl
        | false => exact absurd (.inr z) h1
      rw [strS_nat, numL_dval _ l rfl ne dg (fun z => Classical.byContradiction fun y => h2 ⟨z, y⟩)]
  exact TL.ext_tl key
/-! words of a line -/
theorem spl1_join {s : Nat} : ∀ (l acc : List Nat), TL.joinL [s] (TL.spl [s] 0 acc l) = acc ++ l
  | [], acc => by rw [TL.spl_nil]; simp [TL.joinL]
  | c :: r, acc => by
    by_cases e : c = s
    · subst e
      rw [TL.spl_hit (by simp [TL.pre])]
      have ih := spl1_join (s := c) r []
      have ne : TL.spl [c] 0 [] r ≠ [] := by
        cases r with
        | nil => rw [TL.spl_nil]; simp
        | cons a r =>
          intro z
          have := congrArg List.length z
          revert this
          clear ih z
          suffices ∀ (l acc : List Nat), (TL.spl [c] 0 acc l).length ≠ 0 by simpa using this (a :: r) []
          intro l
          induction l with
          | nil => intro acc; rw [TL.spl_nil]; simp
          | cons b l ih =>
            intro acc
            by_cases y : TL.pre [c] (b :: l) = true
            · rw [TL.spl_hit y]; simp
            · rw [TL.spl_miss (by simpa using y)]; exact ih _
      show TL.joinL [c] (acc :: TL.spl [c] 0 [] r) = acc ++ c :: r
      cases z : TL.spl [c] 0 [] r with
      | nil => exact absurd z ne
      | cons p q =>
        rw [z] at ih
        show acc ++ ([c] ++ TL.joinL [c] (p :: q)) = _
        rw [ih]; rfl
    · rw [TL.spl_miss (by simp [TL.pre]; exact fun z => e z)]
      rw [spl1_join (s := s) r (acc ++ [c])]
      simp
theorem spl1_free {s : Nat} : ∀ (l acc : List Nat), s ∉ acc → ∀ p ∈ TL.spl [s] 0 acc l, s ∉ p
  | [], acc, h, p, m => by
    rw [TL.spl_nil] at m
    rw [List.mem_singleton.1 m]; exact h
  | c :: r, acc, h, p, m => by
    by_cases e : c = s
    · subst e
      rw [TL.spl_hit (by simp [TL.pre])] at m
      rcases List.mem_cons.1 m with rfl | m
      · exact h
      · exact spl1_free r [] (by simp) p m
    · rw [TL.spl_miss (by simp [TL.pre]; exact fun z => e z)] at m
      exact spl1_free r (acc ++ [c]) (by simp [h]; exact fun z => e z.symm) p m
theorem spl1_ne {s : Nat} : ∀ (l acc : List Nat), TL.spl [s] 0 acc l ≠ []
  | [], acc => by rw [TL.spl_nil]; simp
  | c :: r, acc => by
    by_cases y : TL.pre [s] (c :: r) = true
    · rw [TL.spl_hit y]; simp
    · rw [TL.spl_miss (by simpa using y)]; exact spl1_ne r _
theorem sp_tl : TL.tl (" " : Str) = [32] := by decide +kernel
theorem split_tl (L : Str) : (Txt.split L " ").map TL.tl = TL.spl [32] 0 [] (TL.tl L) := by
  have := TL.split_spl L " " (by rw [sp_tl]; simp) (TL.kind_ok (by decide +kernel))
  rwa [sp_tl] at this
theorem join_split (L : Str) : Txt.join " " (Txt.split L " ") = L := by
  refine TL.ext_tl ?_
  rw [TL.join_eq, TL.tl_join, split_tl, sp_tl, spl1_join]; rfl
theorem split_ne (L : Str) : Txt.split L " " ≠ [] := fun z => by
  have := split_tl L
  rw [z] at this
  exact spl1_ne _ _ this.symm
theorem split_free (L : Str) : ∀ w ∈ Txt.split L " ", 32 ∉ w.cps.toList := fun w m => by
  have := List.mem_map_of_mem (f := TL.tl) m
  rw [split_tl] at this
  exact spl1_free _ _ (by simp) _ this
theorem split_words {ws : List Str} (ne : ws ≠ []) (f : ∀ w ∈ ws, 32 ∉ w.cps.toList) : Txt.split (Txt.join " " ws) " " = ws :=
  TL.split_join (s := 32) (S := []) sp_tl (by decide +kernel) ne f
theorem join_words {as bs : List Str} (na : as ≠ []) (nb : bs ≠ []) (fa : ∀ w ∈ as, 32 ∉ w.cps.toList) (fb : ∀ w ∈ bs, 32 ∉ w.cps.toList) (e : Txt.join " " as = Txt.join " " bs) : as = bs := by
  rw [← split_words na fa, e, split_words nb fb]
theorem intS_free (i : Int) : 32 ∉ (intS i).cps.toList := by
  unfold intS
  rcases (by omega : i < 0 ∨ 0 ≤ i) with c | c
  · obtain ⟨n, rfl⟩ : ∃ n : Nat, i = -(((n + 1 : Nat)) : Int) := ⟨(-i - 1).toNat, by omega⟩
    rw [strS_neg]
    intro m
    rcases List.mem_cons.1 m with z | m
    · exact absurd z (by decide)
    · exact TL.numL_free (n := n + 1) (s := 32) (.inl (by omega)) m
  · obtain ⟨n, rfl⟩ : ∃ n : Nat, i = ((n : Nat) : Int) := ⟨i.toNat, by omega⟩
    rw [strS_nat]
    exact TL.numL_free (.inl (by omega))
theorem intS_len {i : Int} (l : i.natAbs < 10 ^ 45) : (intS i).length ≤ 46 := by
  have e : (intS i).length = (intS i).cps.toList.length := by simp [Str.length]
  rw [e]
  unfold intS
  rcases (by omega : i < 0 ∨ 0 ≤ i) with c | c
  · obtain ⟨n, rfl⟩ : ∃ n : Nat, i = -(((n + 1 : Nat)) : Int) := ⟨(-i - 1).toNat, by omega⟩
    rw [strS_neg]
    have := TL.numL_len (n := n + 1) (k := 45) (by decide) (by omega)
    simp; omega
  · obtain ⟨n, rfl⟩ : ∃ n : Nat, i = ((n : Nat) : Int) := ⟨i.toNat, by omega⟩
    rw [strS_nat]
    have := TL.numL_len (n := n) (k := 45) (by decide) (by omega)
    omega
end Lw

set_option Elab.async false
set_option linter.all false
set_option maxRecDepth 100000
set_option maxHeartbeats 4000000
namespace Lw
open Py Ev PySem
section
local macro_rules | `(tactic| walk_at "rf") => `(tactic| with_unfolding_all exact rfl)
local macro_rules | `(tactic| walk_at "nin") => `(tactic| first | exact List.not_mem_nil | (simp only [List.mem_cons, List.not_mem_nil, or_false, not_or]; omega))
local macro_rules | `(tactic| walk_at "lk") => `(tactic| first | assumption | (refine Ext.get (by assumption) ?_ ?_; (walk_at "lk"); (walk_at "nin")))
local macro_rules | `(tactic| walk_at "sq") => `(tactic| first | exact seq_tup | exact seq_scr | exact SeqOf.seq (by assumption) | exact seq_lst (by walk_at "lk"))
local macro_rules | `(tactic| walk_at "sz") => `(tactic| first | omega | (simp only [List.length_cons, List.length_nil, List.length_append, List.length_map, List.length_replicate, iD_len, sizeLine]; omega))
local macro_rules | `(tactic| walk_at "ls") => `(tactic| (simp only [List.set_cons_succ, List.set_cons_zero, List.map_cons, List.map_nil, List.replicate_succ, List.replicate_zero, List.cons_append, List.nil_append, wipeL]; rfl))
local macro_rules | `(tactic| walk_at "call") => `(tactic| fail)
local macro_rules | `(tactic| walk_at "run") => `(tactic| with_reducible first
  | (apply wp_eV; (· walk_at "rf"))
  | refine wp_eC ?_
  | refine wp_e2 ?_
  | refine wp_e1 ?_
  | refine wp_aCons ?_
  | refine wp_aNil ?_
  | refine wp_eA ?_
  | refine wf_seq ?_
  | refine wf_Asg ?_
  | (apply wf_gN; (· walk_at "ls"))
  | refine wf_E ?_
  | refine wf_Ret ?_
  | refine wf_If ?_
  | refine wf_nil ?_
  | refine wp_eCall ?_
  | (apply wp_opF0; (· with_unfolding_all exact ⟨rfl, rfl⟩))
  | refine wp_eMeth ?_
  | (apply insat; (· walk_at "lk"))
  | refine wp_add ?_
  | refine wp_sub ?_
  | refine wp_lt ?_
  | refine wp_le ?_
  | refine wp_gt ?_
  | refine wp_ge ?_
  | (apply br_kt; (· with_unfolding_all rfl))
  | (apply br_kf; (· with_unfolding_all rfl))
  | refine wp_eqW ?_
  | refine wp_neW ?_
  | refine wp_eqB ?_
  | refine wp_neB ?_
  | (apply wp_lastW; (· assumption))
  | (apply wp_headW; (· assumption))
  | refine wp_inW ?_
  | refine wp_ninW ?_
  | refine wp_eqRow0 ?_
  | refine wp_neRow0 ?_
  | refine wp_eDisp ?_
  | refine pairs_cons ?_
  | refine pairs_nil ?_
  | refine keyat_s ?_
  | refine wf_sDputK ?_
  | (apply dputk_s; (· walk_at "lk"); (· exact lt_line (by omega)))
  | refine wp_eGet1 ?_
  | refine wp_eGet2 ?_
  | refine wp_ePop ?_
  | (apply dctat; (· walk_at "lk"))
  | (apply wp_dg; (· walk_at "lk"); (· assumption))
  | (apply wp_bDict; (· walk_at "lk"))
  | refine wp_eTM ?_
  | refine tupat ?_
  | (apply wp_tupIx; (· assumption))
  | refine wp_eCallV ?_
  | refine fnat ?_
  | refine wp_eqI ?_
  | refine wp_neI ?_
  | refine wp_eqS ?_
  | refine wp_neS ?_
  | (apply wp_mod; (· omega))
  | (apply wp_div; (· omega))
  | (apply wp_mul; (· omega))
  | (apply wp_powN; (· (simp only [Int.reduceToNat]; rfl)); (· omega); (· omega))
  | refine wp_neg ?_
  | refine wp_isN ?_
  | refine wp_isNI ?_
  | refine wp_bMax ?_
  | refine wp_bMin ?_
  | refine wp_bAbs ?_
  | refine wp_bInt ?_
  | (apply wp_bDivmod; (· omega))
  | refine tr_bl ?_
  | refine isb ?_
  | (apply br_t; (· rfl))
  | (apply br_f; (· rfl))
  | refine br_nt ?_
  | (apply br_dt; (· omega))
  | (apply br_df; (· omega))
  | refine wp_eNot ?_
  | refine wp_eB ?_
  | refine wp_eOr ?_
  | refine wp_eAnd ?_
  | refine wp_eAndB ?_
  | refine wp_eOrB ?_
  | refine wp_eNotB ?_
  | refine wp_eIf ?_
  | refine wp_chain ?_
  | refine wp_eFld ?_
  | (apply fdat; (· walk_at "lk"); (· walk_at "rf"))
  | refine wp_eSIx ?_
  | refine wp_eUp ?_
  | refine wp_eTinF ?_
  | refine wp_eTix ?_
  | refine wp_eTup ?_
  | refine wp_eLst ?_
  | refine wp_listR ?_
  | (apply wp_addT; (· walk_at "sz"))
  | (apply need; (· walk_at "sz"))
  | refine intat ?_
  | refine strat ?_
  | refine nonat ?_
  | (apply wp_len; (· walk_at "sq"))
  | (apply wp_ix; (· walk_at "sq"); (· walk_at "rf"))
  | (apply wp_bTuple; (· walk_at "sq"))
  | (apply wp_bList; (· walk_at "sq"))
  | refine wp_eBM ?_
  | (apply lstat; (· walk_at "lk"))
  | (apply wp_append; (· walk_at "lk"); (· walk_at "sz"))
  | (apply wp_clear; (· walk_at "lk"))
  | refine wp_eSl ?_
  | refine wp_pSome ?_
  | refine pis ?_
  | refine wp_pNo ?_
  | refine slat_tup ?_
  | (apply slat_lst; (· walk_at "lk"))
  | (apply wf_gT; (· walk_at "rf"))
  | refine wf_gsCons ?_
  | refine wf_gsNil ?_
  | refine wf_gSub ?_
  | (apply subat; (· walk_at "lk"); (· walk_at "rf"))
  | refine wf_sFld ?_
  | (apply fldat; (· walk_at "lk"); (· walk_at "sz"); (· walk_at "rf"))
  | refine wf_sPar ?_
  | (apply parat; (· walk_at "ls"))
  | refine wf_sPar3 ?_
  | (apply parat3; (· walk_at "ls"))
  | refine wp_eRev ?_
  | (apply rvat; (· walk_at "lk"))
  | refine wp_isBB ?_
  | refine wf_sFor ?_
  | refine wp_iSeq ?_
  | refine wp_iZip ?_
  | refine wp_iStr ?_
  | refine wp_eSlS ?_
  | refine wf_gDput ?_
  | refine wp_eDictItems ?_
  | refine wp_eDictPlus ?_
  | refine wp_strS ?_
  | refine wp_intI ?_
  | refine wp_intB ?_
  | (apply zipat; (· walk_at "lk"); (· walk_at "lk"))
  | refine wp_aStar ?_
  | (apply sqat; (· walk_at "sq"))
  | refine wp_eJoinL ?_
  | refine wp_rB ?_
  | refine wp_iEnum ?_
  | refine wp_iRng1 ?_
  | refine wp_iRng2 ?_
  | refine srcat_tup ?_
  | refine srcat_scr ?_
  | (apply srcat_lst; (· walk_at "lk"))
  | refine wp_eIsi ?_
  | refine kd_int ?_
  | refine kd_bl ?_
  | refine kd_str ?_
  | refine kd_non ?_
  | refine kd_tup ?_
  | (apply kd_lst; (· walk_at "lk"))
  | (apply wp_eComp; (· walk_at "ls"))
  | (apply wp_lenO; (· walk_at "lk"))
  | (apply wp_reprO; (· walk_at "lk"))
  | refine wp_eFmt ?_
  | refine wp_eJoin ?_
  | refine jgo_cons ?_
  | refine jgo_nil ?_
  | walk_at "call")
local macro_rules | `(tactic| walk_at "go") => `(tactic| repeat (with_reducible first
  | (apply wp_eV; (· walk_at "rf"))
  | refine wp_eC ?_
  | refine wp_e2 ?_
  | refine wp_e1 ?_
  | refine wp_aCons ?_
  | refine wp_aNil ?_
  | refine wp_eA ?_
  | refine wf_seq ?_
  | refine wf_Asg ?_
  | (apply wf_gN; (· walk_at "ls"))
  | refine wf_E ?_
  | refine wf_Ret ?_
  | refine wf_If ?_
  | refine wf_nil ?_
  | refine wp_eCall ?_
  | (apply wp_opF0; (· with_unfolding_all exact ⟨rfl, rfl⟩))
  | refine wp_eMeth ?_
  | (apply insat; (· walk_at "lk"))
  | refine wp_add ?_
  | refine wp_sub ?_
  | refine wp_lt ?_
  | refine wp_le ?_
  | refine wp_gt ?_
  | refine wp_ge ?_
  | (apply br_kt; (· with_unfolding_all rfl))
  | (apply br_kf; (· with_unfolding_all rfl))
  | refine wp_eqW ?_
  | refine wp_neW ?_
  | refine wp_eqB ?_
  | refine wp_neB ?_
  | (apply wp_lastW; (· assumption))
  | (apply wp_headW; (· assumption))
  | refine wp_inW ?_
  | refine wp_ninW ?_
  | refine wp_eqRow0 ?_
  | refine wp_neRow0 ?_
  | refine wp_eDisp ?_
  | refine pairs_cons ?_
  | refine pairs_nil ?_
  | refine keyat_s ?_
  | refine wf_sDputK ?_
  | (apply dputk_s; (· walk_at "lk"); (· exact lt_line (by omega)))
  | refine wp_eGet1 ?_
  | refine wp_eGet2 ?_
  | refine wp_ePop ?_
  | (apply dctat; (· walk_at "lk"))
  | (apply wp_dg; (· walk_at "lk"); (· assumption))
  | (apply wp_bDict; (· walk_at "lk"))
  | refine wp_eTM ?_
  | refine tupat ?_
  | (apply wp_tupIx; (· assumption))
  | refine wp_eCallV ?_
  | refine fnat ?_
  | refine wp_eqI ?_
  | refine wp_neI ?_
  | refine wp_eqS ?_
  | refine wp_neS ?_
  | (apply wp_mod; (· omega))
  | (apply wp_div; (· omega))
  | (apply wp_mul; (· omega))
  | (apply wp_powN; (· (simp only [Int.reduceToNat]; rfl)); (· omega); (· omega))
  | refine wp_neg ?_
  | refine wp_isN ?_
  | refine wp_isNI ?_
  | refine wp_bMax ?_
  | refine wp_bMin ?_
  | refine wp_bAbs ?_
  | refine wp_bInt ?_
  | (apply wp_bDivmod; (· omega))
  | refine tr_bl ?_
  | refine isb ?_
  | (apply br_t; (· rfl))
  | (apply br_f; (· rfl))
  | refine br_nt ?_
  | (apply br_dt; (· omega))
  | (apply br_df; (· omega))
  | refine wp_eNot ?_
  | refine wp_eB ?_
  | refine wp_eOr ?_
  | refine wp_eAnd ?_
  | refine wp_eAndB ?_
  | refine wp_eOrB ?_
  | refine wp_eNotB ?_
  | refine wp_eIf ?_
  | refine wp_chain ?_
  | refine wp_eFld ?_
  | (apply fdat; (· walk_at "lk"); (· walk_at "rf"))
  | refine wp_eSIx ?_
  | refine wp_eUp ?_
  | refine wp_eTinF ?_
  | refine wp_eTix ?_
  | refine wp_eTup ?_
  | refine wp_eLst ?_
  | refine wp_listR ?_
  | (apply wp_addT; (· walk_at "sz"))
  | (apply need; (· walk_at "sz"))
  | refine intat ?_
  | refine strat ?_
  | refine nonat ?_
  | (apply wp_len; (· walk_at "sq"))
  | (apply wp_ix; (· walk_at "sq"); (· walk_at "rf"))
  | (apply wp_bTuple; (· walk_at "sq"))
  | (apply wp_bList; (· walk_at "sq"))
  | refine wp_eBM ?_
  | (apply lstat; (· walk_at "lk"))
  | (apply wp_append; (· walk_at "lk"); (· walk_at "sz"))
  | (apply wp_clear; (· walk_at "lk"))
  | refine wp_eSl ?_
  | refine wp_pSome ?_
  | refine pis ?_
  | refine wp_pNo ?_
  | refine slat_tup ?_
  | (apply slat_lst; (· walk_at "lk"))
  | (apply wf_gT; (· walk_at "rf"))
  | refine wf_gsCons ?_
  | refine wf_gsNil ?_
  | refine wf_gSub ?_
  | (apply subat; (· walk_at "lk"); (· walk_at "rf"))
  | refine wf_sFld ?_
  | (apply fldat; (· walk_at "lk"); (· walk_at "sz"); (· walk_at "rf"))
  | refine wf_sPar ?_
  | (apply parat; (· walk_at "ls"))
  | refine wf_sPar3 ?_
  | (apply parat3; (· walk_at "ls"))
  | refine wp_eRev ?_
  | (apply rvat; (· walk_at "lk"))
  | refine wp_isBB ?_
  | refine wf_sFor ?_
  | refine wp_iSeq ?_
  | refine wp_iZip ?_
  | refine wp_iStr ?_
  | refine wp_eSlS ?_
  | refine wf_gDput ?_
  | refine wp_eDictItems ?_
  | refine wp_eDictPlus ?_
  | refine wp_strS ?_
  | refine wp_intI ?_
  | refine wp_intB ?_
  | (apply zipat; (· walk_at "lk"); (· walk_at "lk"))
  | refine wp_aStar ?_
  | (apply sqat; (· walk_at "sq"))
  | refine wp_eJoinL ?_
  | refine wp_rB ?_
  | refine wp_iEnum ?_
  | refine wp_iRng1 ?_
  | refine wp_iRng2 ?_
  | refine srcat_tup ?_
  | refine srcat_scr ?_
  | (apply srcat_lst; (· walk_at "lk"))
  | refine wp_eIsi ?_
  | refine kd_int ?_
  | refine kd_bl ?_
  | refine kd_str ?_
  | refine kd_non ?_
  | refine kd_tup ?_
  | (apply kd_lst; (· walk_at "lk"))
  | (apply wp_eComp; (· walk_at "ls"))
  | (apply wp_lenO; (· walk_at "lk"))
  | (apply wp_reprO; (· walk_at "lk"))
  | refine wp_eFmt ?_
  | refine wp_eJoin ?_
  | refine jgo_cons ?_
  | refine jgo_nil ?_
  | refine wf_Raise1 ?_
  | refine wf_Raise0 ?_
  | refine wf_Try ?_
  | (apply wp_eXf; (· walk_at "rf"))
  | walk_at "call"))
/-- into a def -/
local macro_rules | `(tactic| walk_at "into") => `(tactic| (refine wp_runF (by walk_at "rf") (by walk_at "ls") ?_))
/-- on, through all branches -/
local macro_rules | `(tactic| walk_at "br") => `(tactic| repeat' (first | walk_at "run" | (with_reducible apply br_dt; (· assumption)) | (with_reducible apply br_df; (· assumption)) | (with_reducible apply br_t; (· assumption)) | (with_reducible apply br_f; (· assumption)) | (with_reducible refine br_d (fun _ => ?_) (fun _ => ?_)) | (with_reducible refine br_s (fun _ => ?_) (fun _ => ?_)) | (intro d ed)))
/-! ### the law's own draws -/
def Pot (h : LH) (p : Nat) : Prop := ∃ a b : Int, h[p]? = some (.lst [.int a, .int b]) ∧ 0 ≤ a ∧ 0 ≤ b ∧ b < 2147483648
theorem Pot.lt {h : LH} {p : Nat} (P : Pot h p) : p < h.length := by obtain ⟨a, b, e, _⟩ := P; exact lt_of_at e
theorem Pot.ext {W : List Nat} {h h1 : LH} {p : Nat} (P : Pot h p) (x : Ext W h h1) (k : p ∉ W) : Pot h1 p := by
  obtain ⟨a, b, e, z⟩ := P; exact ⟨a, b, x.get e k, z⟩
theorem draw_spec {h : LH} {p : Nat} {n : Int} (P : Pot h p) (hn : 0 < n ∧ n < 1073741824) :
    WP (f__law_draw [.ref p, .int n] h) (fun d h1 => ∃ k : Nat, d = .int k ∧ (k : Int) < n ∧ Pot h1 p ∧ Ext [p] h h1) noE := by
  obtain ⟨a, b, e, ha, hb, hc⟩ := P
  unfold f__law_draw b__law_draw
  walk_at "into"
  walk_at "go"
  have m1 := Int.emod_nonneg a (show n ≠ 0 by omega)
  have m2 := Int.emod_lt_of_pos a hn.1
  refine br_d (fun c => ?_) (fun c => ?_)
  · walk_at "go"
    intro h1 x1 a1
    walk_at "go"
    refine ⟨(a % n).toNat, ?_, by omega, ⟨a / n, b, a1, Int.ediv_nonneg ha (by omega), hb, hc⟩, x1⟩
    rw [Int.toNat_of_nonneg m1]
  · walk_at "go"
    intro h1 x1 a1
    have a1 : h1[p]? = some (O.lst [.int a, .int ((b * 40009 + 17011) % 2147483549)]) := a1
    walk_at "go"
    have g1 := Int.emod_nonneg (((b * 40009 + 17011) % 2147483549) * ((b * 40009 + 17011) % 2147483549) % 2147483587 / 11) (show n ≠ 0 by omega)
    have g2 := Int.emod_lt_of_pos (((b * 40009 + 17011) % 2147483549) * ((b * 40009 + 17011) % 2147483549) % 2147483587 / 11) hn.1
    refine ⟨(((b * 40009 + 17011) % 2147483549) * ((b * 40009 + 17011) % 2147483549) % 2147483587 / 11 % n).toNat, ?_, by omega, ⟨a, _, a1, ha, by omega, by omega⟩, x1⟩
    rw [Int.toNat_of_nonneg g1]
theorem pot_spec {h : LH} {ns : List Int} {k : Nat} (hk : k < 64) :
    WP (f__law_pot [.scr ns, .int k] h) (fun d h1 => ∃ p, d = .ref p ∧ Pot h1 p ∧ h.length ≤ p ∧ Ext [] h h1) noE := by
  unfold f__law_pot b__law_pot
  walk_at "into"
  walk_at "go"
  refine br_d (fun c => ?_) (fun c => ?_)
  · walk_at "go"
    have l : k < ns.length := by simpa using c
    refine wp_ixS rfl (List.getElem?_eq_getElem l) ?_
    walk_at "go"
    intro n h1 l x a
    refine ⟨n, rfl, ⟨_, _, a, ?_, by omega, by omega⟩, l, x⟩
    split <;> omega
  · have ge : ∃ cell : Int, 17 * (k : Int) + 11 = cell := ⟨_, rfl⟩
    obtain ⟨cell, ge⟩ := ge
    rw [ge]
    walk_at "go"
    intro n h1 l x a
    refine ⟨n, rfl, ⟨_, _, a, ?_, by omega, by omega⟩, l, x⟩
    split <;> omega
theorem draw_w {E : EP} {Q : D → LH → Prop} {h : LH} {p : Nat} {n : Int} (P : Pot h p) (hn : 0 < n ∧ n < 1073741824) (q : ∀ (k : Nat) h1, (k : Int) < n → Pot h1 p → Ext [p] h h1 → Q (.int (k : Int)) h1) : WP (f__law_draw [.ref p, .int n] h) Q E :=
  wp_use0 (draw_spec P hn) (by rintro d h1 ⟨k, rfl, a, b, c⟩; exact q k h1 a b c)
theorem pot_w {E : EP} {Q : D → LH → Prop} {h : LH} {ns : List Int} {k : Nat} (hk : k < 64) (q : ∀ p h1, h.length ≤ p → Pot h1 p → Ext [] h h1 → Q (.ref p) h1) : WP (f__law_pot [.scr ns, .int k] h) Q E :=
  wp_use0 (pot_spec hk) (by rintro d h1 ⟨p, rfl, a, b, c⟩; exact q p h1 b a c)
end
end Lw

set_option Elab.async false
set_option linter.all false
set_option maxRecDepth 100000
set_option maxHeartbeats 4000000
namespace Lw
open Py Ev PySem
section
local macro_rules | `(tactic| walk_at "rf") => `(tactic| with_unfolding_all exact rfl)
local macro_rules | `(tactic| walk_at "nin") => `(tactic| first | exact List.not_mem_nil | (simp only [List.mem_cons, List.not_mem_nil, or_false, not_or]; omega))
local macro_rules | `(tactic| walk_at "lk") => `(tactic| first | assumption | (refine Ext.get (by assumption) ?_ ?_; (walk_at "lk"); (walk_at "nin")))
local macro_rules | `(tactic| walk_at "sq") => `(tactic| first | exact seq_tup | exact seq_scr | exact SeqOf.seq (by assumption) | exact seq_lst (by walk_at "lk"))
local macro_rules | `(tactic| walk_at "sz") => `(tactic| first | omega | (simp only [List.length_cons, List.length_nil, List.length_append, List.length_map, List.length_replicate, iD_len, sizeLine]; omega))
local macro_rules | `(tactic| walk_at "ls") => `(tactic| (simp only [List.set_cons_succ, List.set_cons_zero, List.map_cons, List.map_nil, List.replicate_succ, List.replicate_zero, List.cons_append, List.nil_append, wipeL]; rfl))
local macro_rules | `(tactic| walk_at "call") => `(tactic| fail)
local macro_rules | `(tactic| walk_at "run") => `(tactic| with_reducible first
  | (apply wp_eV; (· walk_at "rf"))
  | refine wp_eC ?_
  | refine wp_e2 ?_
  | refine wp_e1 ?_
  | refine wp_aCons ?_
  | refine wp_aNil ?_
  | refine wp_eA ?_
  | refine wf_seq ?_
  | refine wf_Asg ?_
  | (apply wf_gN; (· walk_at "ls"))
  | refine wf_E ?_
  | refine wf_Ret ?_
  | refine wf_If ?_
  | refine wf_nil ?_
  | refine wp_eCall ?_
  | (apply wp_opF0; (· with_unfolding_all exact ⟨rfl, rfl⟩))
  | refine wp_eMeth ?_
  | (apply insat; (· walk_at "lk"))
  | refine wp_add ?_
  | refine wp_sub ?_
  | refine wp_lt ?_
  | refine wp_le ?_
  | refine wp_gt ?_
  | refine wp_ge ?_
  | (apply br_kt; (· with_unfolding_all rfl))
  | (apply br_kf; (· with_unfolding_all rfl))
  | refine wp_eqW ?_
  | refine wp_neW ?_
  | refine wp_eqB ?_
  | refine wp_neB ?_
  | (apply wp_lastW; (· assumption))
  | (apply wp_headW; (· assumption))
  | refine wp_inW ?_
  | refine wp_ninW ?_
  | refine wp_eqRow0 ?_
  | refine wp_neRow0 ?_
  | refine wp_eDisp ?_
  | refine pairs_cons ?_
  | refine pairs_nil ?_
  | refine keyat_s ?_
  | refine wf_sDputK ?_
  | (apply dputk_s; (· walk_at "lk"); (· exact lt_line (by omega)))
  | refine wp_eGet1 ?_
  | refine wp_eGet2 ?_
  | refine wp_ePop ?_
  | (apply dctat; (· walk_at "lk"))
  | (apply wp_dg; (· walk_at "lk"); (· assumption))
  | (apply wp_bDict; (· walk_at "lk"))
  | refine wp_eTM ?_
  | refine tupat ?_
  | (apply wp_tupIx; (· assumption))
  | refine wp_eCallV ?_
  | refine fnat ?_
  | refine wp_eqI ?_
  | refine wp_neI ?_
  | refine wp_eqS ?_
  | refine wp_neS ?_
  | (apply wp_mod; (· omega))
  | (apply wp_div; (· omega))
  | (apply wp_mul; (· omega))
  | (apply wp_powN; (· (simp only [Int.reduceToNat]; rfl)); (· omega); (· omega))
  | refine wp_neg ?_
  | refine wp_isN ?_
  | refine wp_isNI ?_
  | refine wp_bMax ?_
  | refine wp_bMin ?_
  | refine wp_bAbs ?_
  | refine wp_bInt ?_
  | (apply wp_bDivmod; (· omega))
  | refine tr_bl ?_
  | refine isb ?_
  | (apply br_t; (· rfl))
  | (apply br_f; (· rfl))
  | refine br_nt ?_
  | (apply br_dt; (· omega))
  | (apply br_df; (· omega))
  | refine wp_eNot ?_
  | refine wp_eB ?_
  | refine wp_eOr ?_
  | refine wp_eAnd ?_
  | refine wp_eAndB ?_
  | refine wp_eOrB ?_
  | refine wp_eNotB ?_
  | refine wp_eIf ?_
  | refine wp_chain ?_
  | refine wp_eFld ?_
  | (apply fdat; (· walk_at "lk"); (· walk_at "rf"))
  | refine wp_eSIx ?_
  | refine wp_eUp ?_
  | refine wp_eTinF ?_
  | refine wp_eTix ?_
  | refine wp_eTup ?_
  | refine wp_eLst ?_
  | refine wp_listR ?_
  | (apply wp_addT; (· walk_at "sz"))
  | (apply need; (· walk_at "sz"))
  | refine intat ?_
  | refine strat ?_
  | refine nonat ?_
  | (apply wp_len; (· walk_at "sq"))
  | (apply wp_ix; (· walk_at "sq"); (· walk_at "rf"))
  | (apply wp_bTuple; (· walk_at "sq"))
  | (apply wp_bList; (· walk_at "sq"))
  | refine wp_eBM ?_
  | (apply lstat; (· walk_at "lk"))
  | (apply wp_append; (· walk_at "lk"); (· walk_at "sz"))
  | (apply wp_clear; (· walk_at "lk"))
  | refine wp_eSl ?_
  | refine wp_pSome ?_
  | refine pis ?_
  | refine wp_pNo ?_
  | refine slat_tup ?_
  | (apply slat_lst; (· walk_at "lk"))
  | (apply wf_gT; (· walk_at "rf"))
  | refine wf_gsCons ?_
  | refine wf_gsNil ?_
  | refine wf_gSub ?_
  | (apply subat; (· walk_at "lk"); (· walk_at "rf"))
  | refine wf_sFld ?_
  | (apply fldat; (· walk_at "lk"); (· walk_at "sz"); (· walk_at "rf"))
  | refine wf_sPar ?_
  | (apply parat; (· walk_at "ls"))
  | refine wf_sPar3 ?_
  | (apply parat3; (· walk_at "ls"))
  | refine wp_eRev ?_
  | (apply rvat; (· walk_at "lk"))
  | refine wp_isBB ?_
  | refine wf_sFor ?_
  | refine wp_iSeq ?_
  | refine wp_iZip ?_
  | refine wp_iStr ?_
  | refine wp_eSlS ?_
  | refine wf_gDput ?_
  | refine wp_eDictItems ?_
  | refine wp_eDictPlus ?_
  | refine wp_strS ?_
  | refine wp_intI ?_
  | refine wp_intB ?_
  | (apply zipat; (· walk_at "lk"); (· walk_at "lk"))
  | refine wp_aStar ?_
  | (apply sqat; (· walk_at "sq"))
  | refine wp_eJoinL ?_
  | refine wp_rB ?_
  | refine wp_iEnum ?_
  | refine wp_iRng1 ?_
  | refine wp_iRng2 ?_
  | refine srcat_tup ?_
  | refine srcat_scr ?_
  | (apply srcat_lst; (· walk_at "lk"))
  | refine wp_eIsi ?_
  | refine kd_int ?_
  | refine kd_bl ?_
  | refine kd_str ?_
  | refine kd_non ?_
  | refine kd_tup ?_
  | (apply kd_lst; (· walk_at "lk"))
  | (apply wp_eComp; (· walk_at "ls"))
  | (apply wp_lenO; (· walk_at "lk"))
  | (apply wp_reprO; (· walk_at "lk"))
  | refine wp_eFmt ?_
  | refine wp_eJoin ?_
  | refine jgo_cons ?_
  | refine jgo_nil ?_
  | walk_at "call")
local macro_rules | `(tactic| walk_at "go") => `(tactic| repeat (with_reducible first
  | (apply wp_eV; (· walk_at "rf"))
  | refine wp_eC ?_
  | refine wp_e2 ?_
  | refine wp_e1 ?_
  | refine wp_aCons ?_
  | refine wp_aNil ?_
  | refine wp_eA ?_
  | refine wf_seq ?_
  | refine wf_Asg ?_
  | (apply wf_gN; (· walk_at "ls"))
  | refine wf_E ?_
  | refine wf_Ret ?_
  | refine wf_If ?_
  | refine wf_nil ?_
  | refine wp_eCall ?_
  | (apply wp_opF0; (· with_unfolding_all exact ⟨rfl, rfl⟩))
  | refine wp_eMeth ?_
  | (apply insat; (· walk_at "lk"))
  | refine wp_add ?_
  | refine wp_sub ?_
  | refine wp_lt ?_
  | refine wp_le ?_
  | refine wp_gt ?_
  | refine wp_ge ?_
  | (apply br_kt; (· with_unfolding_all rfl))
  | (apply br_kf; (· with_unfolding_all rfl))
  | refine wp_eqW ?_
  | refine wp_neW ?_
  | refine wp_eqB ?_
  | refine wp_neB ?_
  | (apply wp_lastW; (· assumption))
  | (apply wp_headW; (· assumption))
  | refine wp_inW ?_
  | refine wp_ninW ?_
  | refine wp_eqRow0 ?_
  | refine wp_neRow0 ?_
  | refine wp_eDisp ?_
  | refine pairs_cons ?_
  | refine pairs_nil ?_
  | refine keyat_s ?_
  | refine wf_sDputK ?_
  | (apply dputk_s; (· walk_at "lk"); (· exact lt_line (by omega)))
  | refine wp_eGet1 ?_
  | refine wp_eGet2 ?_
  | refine wp_ePop ?_
  | (apply dctat; (· walk_at "lk"))
  | (apply wp_dg; (· walk_at "lk"); (· assumption))
  | (apply wp_bDict; (· walk_at "lk"))
  | refine wp_eTM ?_
  | refine tupat ?_
  | (apply wp_tupIx; (· assumption))
  | refine wp_eCallV ?_
  | refine fnat ?_
  | refine wp_eqI ?_
  | refine wp_neI ?_
  | refine wp_eqS ?_
  | refine wp_neS ?_
  | (apply wp_mod; (· omega))
  | (apply wp_div; (· omega))
  | (apply wp_mul; (· omega))
  | (apply wp_powN; (· (simp only [Int.reduceToNat]; rfl)); (· omega); (· omega))
  | refine wp_neg ?_
  | refine wp_isN ?_
  | refine wp_isNI ?_
  | refine wp_bMax ?_
  | refine wp_bMin ?_
  | refine wp_bAbs ?_
  | refine wp_bInt ?_
  | (apply wp_bDivmod; (· omega))
  | refine tr_bl ?_
  | refine isb ?_
  | (apply br_t; (· rfl))
  | (apply br_f; (· rfl))
  | refine br_nt ?_
  | (apply br_dt; (· omega))
  | (apply br_df; (· omega))
  | refine wp_eNot ?_
  | refine wp_eB ?_
  | refine wp_eOr ?_
  | refine wp_eAnd ?_
  | refine wp_eAndB ?_
  | refine wp_eOrB ?_
  | refine wp_eNotB ?_
  | refine wp_eIf ?_
  | refine wp_chain ?_
  | refine wp_eFld ?_
  | (apply fdat; (· walk_at "lk"); (· walk_at "rf"))
  | refine wp_eSIx ?_
  | refine wp_eUp ?_
  | refine wp_eTinF ?_
  | refine wp_eTix ?_
  | refine wp_eTup ?_
  | refine wp_eLst ?_
  | refine wp_listR ?_
  | (apply wp_addT; (· walk_at "sz"))
  | (apply need; (· walk_at "sz"))
  | refine intat ?_
  | refine strat ?_
  | refine nonat ?_
  | (apply wp_len; (· walk_at "sq"))
  | (apply wp_ix; (· walk_at "sq"); (· walk_at "rf"))
  | (apply wp_bTuple; (· walk_at "sq"))
  | (apply wp_bList; (· walk_at "sq"))
  | refine wp_eBM ?_
  | (apply lstat; (· walk_at "lk"))
  | (apply wp_append; (· walk_at "lk"); (· walk_at "sz"))
  | (apply wp_clear; (· walk_at "lk"))
  | refine wp_eSl ?_
  | refine wp_pSome ?_
  | refine pis ?_
  | refine wp_pNo ?_
  | refine slat_tup ?_
  | (apply slat_lst; (· walk_at "lk"))
  | (apply wf_gT; (· walk_at "rf"))
  | refine wf_gsCons ?_
  | refine wf_gsNil ?_
  | refine wf_gSub ?_
  | (apply subat; (· walk_at "lk"); (· walk_at "rf"))
  | refine wf_sFld ?_
  | (apply fldat; (· walk_at "lk"); (· walk_at "sz"); (· walk_at "rf"))
  | refine wf_sPar ?_
  | (apply parat; (· walk_at "ls"))
  | refine wf_sPar3 ?_
  | (apply parat3; (· walk_at "ls"))
  | refine wp_eRev ?_
  | (apply rvat; (· walk_at "lk"))
  | refine wp_isBB ?_
  | refine wf_sFor ?_
  | refine wp_iSeq ?_
  | refine wp_iZip ?_
  | refine wp_iStr ?_
  | refine wp_eSlS ?_
  | refine wf_gDput ?_
  | refine wp_eDictItems ?_
  | refine wp_eDictPlus ?_
  | refine wp_strS ?_
  | refine wp_intI ?_
  | refine wp_intB ?_
  | (apply zipat; (· walk_at "lk"); (· walk_at "lk"))
  | refine wp_aStar ?_
  | (apply sqat; (· walk_at "sq"))
  | refine wp_eJoinL ?_
  | refine wp_rB ?_
  | refine wp_iEnum ?_
  | refine wp_iRng1 ?_
  | refine wp_iRng2 ?_
  | refine srcat_tup ?_
  | refine srcat_scr ?_
  | (apply srcat_lst; (· walk_at "lk"))
  | refine wp_eIsi ?_
  | refine kd_int ?_
  | refine kd_bl ?_
  | refine kd_str ?_
  | refine kd_non ?_
  | refine kd_tup ?_
  | (apply kd_lst; (· walk_at "lk"))
  | (apply wp_eComp; (· walk_at "ls"))
  | (apply wp_lenO; (· walk_at "lk"))
  | (apply wp_reprO; (· walk_at "lk"))
  | refine wp_eFmt ?_
  | refine wp_eJoin ?_
  | refine jgo_cons ?_
  | refine jgo_nil ?_
  | refine wf_Raise1 ?_
  | refine wf_Raise0 ?_
  | refine wf_Try ?_
  | (apply wp_eXf; (· walk_at "rf"))
  | walk_at "call"))
/-- into a def -/
local macro_rules | `(tactic| walk_at "into") => `(tactic| (refine wp_runF (by walk_at "rf") (by walk_at "ls") ?_))
/-- on, through all branches -/
local macro_rules | `(tactic| walk_at "br") => `(tactic| repeat' (first | walk_at "run" | (with_reducible apply br_dt; (· assumption)) | (with_reducible apply br_df; (· assumption)) | (with_reducible apply br_t; (· assumption)) | (with_reducible apply br_f; (· assumption)) | (with_reducible refine br_d (fun _ => ?_) (fun _ => ?_)) | (with_reducible refine br_s (fun _ => ?_) (fun _ => ?_)) | (intro d ed)))
theorem qb' {Q : D → LH → Prop} {h : LH} {d d' : D} (q : Q d h) (e : d = d') : Q d' h := e ▸ q
/-! ### words that are numbers, as both read them -/
theorem cut_head (w : Str) : decide (L2.cutS w none (some 1) = "-") = decide (w.cps.toList.take 1 = [45]) := by
  rw [decide_eq_decide]
  have e : (L2.cutS w none (some 1)).cps.toList = w.cps.toList.take 1 := by
    unfold L2.cutS
    rw [show (some (1 : Int)) = some (((1 : Nat) : Nat) : Int) from rfl, HT.sIx_none, HT.sIx_nat]
    simp [Str.length]
  constructor
  · intro z
    rw [← e, z]; decide
  · intro z
    refine TL.ext_tl ?_
    show (L2.cutS w none (some 1)).cps.toList = _
    rw [e, z]; decide
theorem cut_rest (w : Str) : (L2.cutS w (some 1) none).cps.toList = w.cps.toList.drop 1 := by
  unfold L2.cutS
  rw [show (some (1 : Int)) = some (((1 : Nat) : Nat) : Int) from rfl, HT.sIx_none, HT.sIx_nat]
  simp [Str.length]
  have l : w.cps.toList.length = w.cps.size := by simp
  rw [← l]
  cases w.cps.toList with
  | nil => rfl
  | cons a s =>
    rw [List.length_cons]
    have : min 1 (s.length + 1) = 1 := by omega
    rw [this]
    simp
def numD : Option Int → D
  | none => .non
  | some i => .int i
theorem digs_eq : ("0123456789" : Str).cps.toList = [48, 49, 50, 51, 52, 53, 54, 55, 56, 57] := by decide +kernel
theorem dig_in (c : Nat) : decide (c ∈ ("0123456789" : Str).cps.toList) = isDig c := by
  rw [digs_eq]
  unfold isDig
  rw [decide_eq_decide]
  simp only [List.mem_cons, List.not_mem_nil, or_false]
  omega
theorem sign_eq (c : Nat) : decide ((⟨#[c]⟩ : Str) = "0") = decide (c = 48) := by
  rw [decide_eq_decide]
  constructor
  · intro z
    have := congrArg (fun x : Str => x.cps.toList) z
    have e : ("0" : Str).cps.toList = [48] := by decide
    rw [e] at this
    simpa using this
  · rintro rfl; decide
theorem word0 (w : Str) : (w = "0") ↔ w.cps.toList = [48] := by
  have e : ("0" : Str).cps.toList = [48] := by decide
  exact ⟨fun z => by rw [z, e], fun z => TL.ext_tl (by show w.cps.toList = ("0" : Str).cps.toList; rw [z, e])⟩
theorem empty_iff (w : Str) : (w = "") ↔ w.cps.toList = [] := by
  have e : ("" : Str).cps.toList = [] := by decide
  exact ⟨fun z => by rw [z, e], fun z => TL.ext_tl (by show w.cps.toList = ("" : Str).cps.toList; rw [z, e])⟩
theorem sign_ix : ∀ d : Fin 10, ∃ rest, Builtin.Str.occurrences "0123456789" ⟨#[48 + d.val]⟩ 0 ("0123456789" : Str).length 1 = d.val :: rest := by
  have h : ∀ d : Fin 10, (Builtin.Str.occurrences "0123456789" ⟨#[48 + d.val]⟩ 0 ("0123456789" : Str).length 1).head? = some d.val := by decide +kernel
  intro d
  have := h d
  cases z : Builtin.Str.occurrences "0123456789" ⟨#[48 + d.val]⟩ 0 ("0123456789" : Str).length 1 with
  | nil => rw [z] at this; exact nomatch this
  | cons a r => rw [z] at this; simp at this; exact ⟨r, by rw [this]⟩
theorem dig_ix {c : Nat} (d : isDig c = true) : ∃ rest, Builtin.Str.occurrences "0123456789" ⟨#[c]⟩ 0 ("0123456789" : Str).length 1 = (c - 48) :: rest := by
  have l : 48 ≤ c ∧ c ≤ 57 := by simpa [isDig] using d
  have := sign_ix ⟨c - 48, by omega⟩
  simp only [Nat.add_sub_cancel' l.1] at this
  exact this
theorem all_dig {l : List Nat} (h : l.all isDig = true) : NumText.AllDigits l := by
  intro c m
  have := List.all_eq_true.1 h c m
  simpa [isDig] using this
/-- the number, by cases -/
theorem numL_eq {l d : List Nat} (e : (if l.take 1 = [45] then l.drop 1 else l) = d) : numL? l = (if d = [] ∨ d.all isDig = false then none else if d.take 1 = [48] ∧ l ≠ [48] then none else some (if l.take 1 = [45] then -((dval d : Nat) : Int) else ((dval d : Nat) : Int))) := by
  subst e; rfl
theorem num_none1 {l : List Nat} (h : (if l.take 1 = [45] then l.drop 1 else l) = []) : numL? l = none := by
  rw [numL_eq h, if_pos (.inl rfl)]
theorem num_none2 {l d : List Nat} (e : (if l.take 1 = [45] then l.drop 1 else l) = d) (h : d.all isDig = false) : numL? l = none := by
  rw [numL_eq e, if_pos (.inr h)]
theorem num_none3 {l d : List Nat} (e : (if l.take 1 = [45] then l.drop 1 else l) = d) (h : d.take 1 = [48]) (n : l ≠ [48]) : numL? l = none := by
  rw [numL_eq e]
  by_cases c : d = [] ∨ d.all isDig = false
  · rw [if_pos c]
  · rw [if_neg c, if_pos ⟨h, n⟩]
theorem num_some {l d : List Nat} (e : (if l.take 1 = [45] then l.drop 1 else l) = d) (h1 : d ≠ []) (h2 : d.all isDig = true) (h3 : ¬ (d.take 1 = [48] ∧ l ≠ [48])) :
    numL? l = some (if l.take 1 = [45] then -((dval d : Nat) : Int) else ((dval d : Nat) : Int)) := by
  rw [numL_eq e, if_neg (by rintro (z | z); exact h1 z; rw [h2] at z; exact nomatch z), if_neg h3]
section
variable {E : EP} {Q : D → LH → Prop} {h : LH}
theorem number_w {w : Str} (l : w.length ≤ 600) (q : ∀ h1, Ext [] h h1 → Q (numD (numQ w)) h1) : WP (f_number_of [.str w] h) Q E := by
  have sz : w.length ≤ sizeLine := by unfold sizeLine; omega
  have ll : w.cps.toList.length = w.length := by simp [Str.length]
  unfold f_number_of b_number_of
  walk_at "into"
  refine wf_seq (wf_use (N' := fun r h' => ∃ dS : Str, dS.cps.toList = (if w.cps.toList.take 1 = [45] then w.cps.toList.drop 1 else w.cps.toList) ∧ r = [some (.str w), some (.str dS), none] ∧ h' = h) ?_ ?_ (fun _ _ z => z) (fun _ _ z => z) (fun _ _ z => z) (fun _ _ _ z => z))
  · walk_at "go"
    rw [cut_head]
    refine br_d (fun c => ?_) (fun c => ?_)
    · walk_at "go"
      exact ⟨_, by rw [cut_rest, if_pos c], rfl, rfl⟩
    · walk_at "go"
      exact ⟨_, by rw [if_neg c], rfl, rfl⟩
  rintro r h' ⟨dS, ed, rfl, rfl⟩
  have dl : dS.cps.toList.length = dS.length := by simp [Str.length]
  have ds : dS.length ≤ 600 := by
    rw [← dl, ed]
    split
    · rw [List.length_drop]; omega
    · omega
  have dz : dS.length ≤ sizeLine := by unfold sizeLine; omega
  walk_at "go"
  refine br_d (fun c => ?_) (fun c => ?_)
  · walk_at "go"
    refine qb' (q _ Ext.rfl') ?_
    rw [empty_iff, ed] at c
    unfold numQ; rw [num_none1 c]; rfl
  rw [empty_iff, ed] at c
  walk_at "go"
  refine wp_mapF (fun c => .str ⟨#[c]⟩) dS.cps.toList (fun c => .bl (isDig c)) gives_its (by omega) ?_ ?_
  · intro c mc h1 x1
    refine ⟨_, rfl, ?_⟩
    walk_at "go"
    refine wp_inS ?_
    rw [dig_in]
    exact ⟨rfl, Ext.rfl'⟩
  intro n1 h1 l1 x1 a1
  walk_at "go"
  refine wp_allB a1 ?_
  rw [ed]
  walk_at "go"
  refine br_s (fun c2 => ?_) (fun c2 => ?_)
  · have hd : ∃ c0 rest, dS.cps.toList = c0 :: rest := by
      rw [← ed] at c
      cases z : dS.cps.toList with
      | nil => exact absurd z c
      | cons a r => exact ⟨a, r, rfl⟩
    obtain ⟨c0, rest, ec⟩ := hd
    have tk : (if w.cps.toList.take 1 = [45] then w.cps.toList.drop 1 else w.cps.toList).take 1 = [c0] := by rw [← ed, ec]; rfl
    walk_at "go"
    refine wp_ixSt (c := c0) dz (by rw [ec]; exact L2.atI_nat (j := 0) rfl) ?_
    walk_at "go"
    rw [sign_eq]
    have fin : ∀ h2, Ext [] h' h2 → ¬ ((if w.cps.toList.take 1 = [45] then w.cps.toList.drop 1 else w.cps.toList).take 1 = [48] ∧ w.cps.toList ≠ [48]) → WP (bIntS [.str w] h2) Q E := by
      intro h2 x2 c3
      have en := num_some rfl c c2 c3
      refine wp_intS (n := (numQ w).getD 0) ?_ (by omega) ?_
      · unfold numQ
        rw [en]
        show _ = some _
        by_cases c4 : w.cps.toList.take 1 = [45]
        · simp only [if_pos c4] at c c2 ⊢
          obtain ⟨cs, ecs⟩ : ∃ cs, w.cps.toList = 45 :: cs := by
            cases z : w.cps.toList with
            | nil => rw [z] at c4; exact nomatch c4
            | cons a r => rw [z] at c4; simp at c4; subst c4; exact ⟨r, rfl⟩
          rw [ecs] at c c2 ⊢
          have := intText_neg ecs (all_dig c2) c (by omega)
          rw [this]; rfl
        · simp only [if_neg c4] at c c2 ⊢
          have := intText_digits (all_dig c2) c (by omega)
          rw [this]; rfl
      · refine qb' (q h2 x2) ?_
        unfold numQ
        rw [en]; rfl
    by_cases c3 : c0 = 48
    · refine br_dt c3 ?_
      walk_at "go"
      refine br_d (fun c5 => ?_) (fun c5 => ?_)
      · walk_at "go"
        exact fin h1 x1 (fun z => z.2 ((word0 w).1 c5))
      · walk_at "go"
        refine qb' (q h1 x1) ?_
        unfold numQ
        rw [num_none3 rfl (by rw [tk, c3]) (fun z => c5 ((word0 w).2 z))]; rfl
    · refine br_df c3 ?_
      walk_at "go"
      exact fin h1 x1 (fun z => c3 (by have := z.1; rw [tk] at this; simpa using this))
  · walk_at "go"
    refine qb' (q h1 x1) ?_
    unfold numQ; rw [num_none2 rfl c2]; rfl
end
section
variable {E : EP} {Q : D → LH → Prop} {h : LH}
theorem integer_w {w : Str} (l : w.length ≤ 600) (q : ∀ h1, Ext [] h h1 → Q (numD (numQ w)) h1) : WP (f__law_integer [.str w] h) Q E := by
  have sz : w.length ≤ sizeLine := by unfold sizeLine; omega
  have ll : w.cps.toList.length = w.length := by simp [Str.length]
  unfold f__law_integer b__law_integer
  walk_at "into"
  refine wf_seq (wf_use (N' := fun r h' => ∃ dS : Str, dS.cps.toList = (if w.cps.toList.take 1 = [45] then w.cps.toList.drop 1 else w.cps.toList) ∧ r = [some (.str w), some (.str dS), none, none] ∧ h' = h) ?_ ?_ (fun _ _ z => z) (fun _ _ z => z) (fun _ _ z => z) (fun _ _ _ z => z))
  · walk_at "go"
    rw [cut_head]
    refine br_d (fun c => ?_) (fun c => ?_)
    · walk_at "go"
      exact ⟨_, by rw [cut_rest, if_pos c], rfl, rfl⟩
    · walk_at "go"
      exact ⟨_, by rw [if_neg c], rfl, rfl⟩
  rintro r h' ⟨dS, ed, rfl, rfl⟩
  have dl : dS.cps.toList.length = dS.length := by simp [Str.length]
  have ds : dS.length ≤ 600 := by
    rw [← dl, ed]
    split
    · rw [List.length_drop]; omega
    · omega
  have dz : dS.length ≤ sizeLine := by unfold sizeLine; omega
  walk_at "go"
  refine br_d (fun c => ?_) (fun c => ?_)
  · walk_at "go"
    refine qb' (q _ Ext.rfl') ?_
    rw [empty_iff, ed] at c
    unfold numQ; rw [num_none1 c]; rfl
  rw [empty_iff, ed] at c
  walk_at "go"
  refine wp_mapF (fun c => .str ⟨#[c]⟩) dS.cps.toList (fun c => .bl (isDig c)) gives_its (by omega) ?_ ?_
  · intro c mc h1 x1
    refine ⟨_, rfl, ?_⟩
    walk_at "go"
    refine wp_inS ?_
    rw [dig_in]
    exact ⟨rfl, Ext.rfl'⟩
  intro n1 h1 l1 x1 a1
  walk_at "go"
  refine wp_allB a1 ?_
  rw [ed]
  walk_at "go"
  refine br_s (fun c2 => ?_) (fun c2 => ?_)
  · have hd : ∃ c0 rest, dS.cps.toList = c0 :: rest := by
      rw [← ed] at c
      cases z : dS.cps.toList with
      | nil => exact absurd z c
      | cons a r => exact ⟨a, r, rfl⟩
    obtain ⟨c0, rest, ec⟩ := hd
    have tk : (if w.cps.toList.take 1 = [45] then w.cps.toList.drop 1 else w.cps.toList).take 1 = [c0] := by rw [← ed, ec]; rfl
    refine wf_seq (wf_use (N' := fun r h2 => r = [some (.str w), some (.str dS), none, none] ∧ h2 = h1 ∧ ¬ ((if w.cps.toList.take 1 = [45] then w.cps.toList.drop 1 else w.cps.toList).take 1 = [48] ∧ w.cps.toList ≠ [48])) ?_ ?_ (fun _ _ z => z) (fun _ _ z => z) (fun _ _ z => z) (fun _ _ _ z => z))
    · walk_at "go"
      refine wp_ixSt (c := c0) dz (by rw [ec]; exact L2.atI_nat (j := 0) rfl) ?_
      walk_at "go"
      rw [sign_eq]
      by_cases c3 : c0 = 48
      · refine br_dt c3 ?_
        walk_at "go"
        refine br_d (fun c5 => ?_) (fun c5 => ?_)
        · walk_at "go"
          exact ⟨rfl, rfl, fun z => z.2 ((word0 w).1 c5)⟩
        · walk_at "go"
          refine qb' (q h1 x1) ?_
          unfold numQ
          rw [num_none3 rfl (by rw [tk, c3]) (fun z => c5 ((word0 w).2 z))]; rfl
      · refine br_df c3 ?_
        walk_at "go"
        exact ⟨rfl, rfl, fun z => c3 (by have := z.1; rw [tk] at this; simpa using this)⟩
    rintro r h2 ⟨rfl, rfl, c3⟩
    have en := num_some rfl c c2 c3
    rw [← ed] at c2 en
    walk_at "go"
    refine wf_forL (dS.cps.toList.map fun c => D.str ⟨#[c]⟩) (by rw [List.length_map]; omega) (fun i r h' => ∃ c3 : Option D, r = [some (.str w), some (.str dS), some (.int ((dval (dS.cps.toList.take i) : Nat) : Int)), c3] ∧ h' = h2) (fun _ _ _ _ => rfl) ⟨_, rfl, rfl⟩ ?_ ?_
    · rintro r h3 ⟨c4, rfl, rfl⟩
      rw [List.length_map, List.take_length]
      walk_at "go"
      rw [cut_head]
      refine br_d (fun c5 => ?_) (fun c5 => ?_)
      · walk_at "go"
        refine qb' (q _ x1) ?_
        unfold numQ
        rw [en, if_pos c5]
        show D.int _ = D.int _
        congr 1; omega
      · walk_at "go"
        refine qb' (q _ x1) ?_
        unfold numQ
        rw [en, if_neg c5]; rfl
    · rintro i d r h3 ei ⟨c4, rfl, rfl⟩
      rw [List.getElem?_map] at ei
      obtain ⟨s, es, rfl⟩ := Option.map_eq_some_iff.1 ei
      have ds1 := List.all_eq_true.1 c2 s (List.mem_of_getElem? es)
      obtain ⟨rs, er⟩ := dig_ix ds1
      walk_at "go"
      refine wp_SIx er ?_
      walk_at "go"
      refine ⟨some (.str ⟨#[s]⟩), ?_, rfl⟩
      have tk2 : dS.cps.toList.take (i + 1) = dS.cps.toList.take i ++ [s] := by rw [List.take_succ, es]; rfl
      rw [tk2, dval_snoc]
      have e2 : (10 * ((dval (dS.cps.toList.take i) : Nat) : Int) + ((s - 48 : Nat) : Int)) = ((dval (dS.cps.toList.take i) * 10 + (s - 48) : Nat) : Int) := by omega
      rw [e2]
  · walk_at "go"
    refine qb' (q h1 x1) ?_
    unfold numQ; rw [num_none2 rfl c2]; rfl
end
end
end Lw

set_option Elab.async false
set_option linter.all false
set_option maxRecDepth 100000
set_option maxHeartbeats 4000000
namespace Lw
open Py Ev PySem
section
local macro_rules | `(tactic| walk_at "rf") => `(tactic| with_unfolding_all exact rfl)
local macro_rules | `(tactic| walk_at "nin") => `(tactic| first | exact List.not_mem_nil | (simp only [List.mem_cons, List.not_mem_nil, or_false, not_or]; omega))
local macro_rules | `(tactic| walk_at "lk") => `(tactic| first | assumption | (refine Ext.get (by assumption) ?_ ?_; (walk_at "lk"); (walk_at "nin")))
local macro_rules | `(tactic| walk_at "sq") => `(tactic| first | exact seq_tup | exact seq_scr | exact SeqOf.seq (by assumption) | exact seq_lst (by walk_at "lk"))
local macro_rules | `(tactic| walk_at "sz") => `(tactic| first | omega | (simp only [List.length_cons, List.length_nil, List.length_append, List.length_map, List.length_replicate, iD_len, sizeLine]; omega))
local macro_rules | `(tactic| walk_at "ls") => `(tactic| (simp only [List.set_cons_succ, List.set_cons_zero, List.map_cons, List.map_nil, List.replicate_succ, List.replicate_zero, List.cons_append, List.nil_append, wipeL]; rfl))
local macro_rules | `(tactic| walk_at "call") => `(tactic| fail)
local macro_rules | `(tactic| walk_at "run") => `(tactic| with_reducible first
  | (apply wp_eV; (· walk_at "rf"))
  | refine wp_eC ?_
  | refine wp_e2 ?_
  | refine wp_e1 ?_
  | refine wp_aCons ?_
  | refine wp_aNil ?_
  | refine wp_eA ?_
  | refine wf_seq ?_
  | refine wf_Asg ?_
  | (apply wf_gN; (· walk_at "ls"))
  | refine wf_E ?_
  | refine wf_Ret ?_
  | refine wf_If ?_
  | refine wf_nil ?_
  | refine wp_eCall ?_
  | (apply wp_opF0; (· with_unfolding_all exact ⟨rfl, rfl⟩))
  | refine wp_eMeth ?_
  | (apply insat; (· walk_at "lk"))
  | refine wp_add ?_
  | refine wp_sub ?_
  | refine wp_lt ?_
  | refine wp_le ?_
  | refine wp_gt ?_
  | refine wp_ge ?_
  | (apply br_kt; (· with_unfolding_all rfl))
  | (apply br_kf; (· with_unfolding_all rfl))
  | refine wp_eqW ?_
  | refine wp_neW ?_
  | refine wp_eqB ?_
  | refine wp_neB ?_
  | (apply wp_lastW; (· assumption))
  | (apply wp_headW; (· assumption))
  | refine wp_inW ?_
  | refine wp_ninW ?_
  | refine wp_eqRow0 ?_
  | refine wp_neRow0 ?_
  | refine wp_eDisp ?_
  | refine pairs_cons ?_
  | refine pairs_nil ?_
  | refine keyat_s ?_
  | refine wf_sDputK ?_
  | (apply dputk_s; (· walk_at "lk"); (· exact lt_line (by omega)))
  | refine wp_eGet1 ?_
  | refine wp_eGet2 ?_
  | refine wp_ePop ?_
  | (apply dctat; (· walk_at "lk"))
  | (apply wp_dg; (· walk_at "lk"); (· assumption))
  | (apply wp_bDict; (· walk_at "lk"))
  | refine wp_eTM ?_
  | refine tupat ?_
  | (apply wp_tupIx; (· assumption))
  | refine wp_eCallV ?_
  | refine fnat ?_
  | refine wp_eqI ?_
  | refine wp_neI ?_
  | refine wp_eqS ?_
  | refine wp_neS ?_
  | (apply wp_mod; (· omega))
  | (apply wp_div; (· omega))
  | (apply wp_mul; (· omega))
  | (apply wp_powN; (· (simp only [Int.reduceToNat]; rfl)); (· omega); (· omega))
  | refine wp_neg ?_
  | refine wp_isN ?_
  | refine wp_isNI ?_
  | refine wp_bMax ?_
  | refine wp_bMin ?_
  | refine wp_bAbs ?_
  | refine wp_bInt ?_
  | (apply wp_bDivmod; (· omega))
  | refine tr_bl ?_
  | refine isb ?_
  | (apply br_t; (· rfl))
  | (apply br_f; (· rfl))
  | refine br_nt ?_
  | (apply br_dt; (· omega))
  | (apply br_df; (· omega))
  | refine wp_eNot ?_
  | refine wp_eB ?_
  | refine wp_eOr ?_
  | refine wp_eAnd ?_
  | refine wp_eAndB ?_
  | refine wp_eOrB ?_
  | refine wp_eNotB ?_
  | refine wp_eIf ?_
  | refine wp_chain ?_
  | refine wp_eFld ?_
  | (apply fdat; (· walk_at "lk"); (· walk_at "rf"))
  | refine wp_eSIx ?_
  | refine wp_eUp ?_
  | refine wp_eTinF ?_
  | refine wp_eTix ?_
  | refine wp_eTup ?_
  | refine wp_eLst ?_
  | refine wp_listR ?_
  | (apply wp_addT; (· walk_at "sz"))
  | (apply need; (· walk_at "sz"))
  | refine intat ?_
  | refine strat ?_
  | refine nonat ?_
  | (apply wp_len; (· walk_at "sq"))
  | (apply wp_ix; (· walk_at "sq"); (· walk_at "rf"))
  | (apply wp_bTuple; (· walk_at "sq"))
  | (apply wp_bList; (· walk_at "sq"))
  | refine wp_eBM ?_
  | (apply lstat; (· walk_at "lk"))
  | (apply wp_append; (· walk_at "lk"); (· walk_at "sz"))
  | (apply wp_clear; (· walk_at "lk"))
  | refine wp_eSl ?_
  | refine wp_pSome ?_
  | refine pis ?_
  | refine wp_pNo ?_
  | refine slat_tup ?_
  | (apply slat_lst; (· walk_at "lk"))
  | (apply wf_gT; (· walk_at "rf"))
  | refine wf_gsCons ?_
  | refine wf_gsNil ?_
  | refine wf_gSub ?_
  | (apply subat; (· walk_at "lk"); (· walk_at "rf"))
  | refine wf_sFld ?_
  | (apply fldat; (· walk_at "lk"); (· walk_at "sz"); (· walk_at "rf"))
  | refine wf_sPar ?_
  | (apply parat; (· walk_at "ls"))
  | refine wf_sPar3 ?_
  | (apply parat3; (· walk_at "ls"))
  | refine wp_eRev ?_
  | (apply rvat; (· walk_at "lk"))
  | refine wp_isBB ?_
  | refine wf_sFor ?_
  | refine wp_iSeq ?_
  | refine wp_iZip ?_
  | refine wp_iStr ?_
  | refine wp_eSlS ?_
  | refine wf_gDput ?_
  | refine wp_eDictItems ?_
  | refine wp_eDictPlus ?_
  | refine wp_strS ?_
  | refine wp_intI ?_
  | refine wp_intB ?_
  | (apply zipat; (· walk_at "lk"); (· walk_at "lk"))
  | refine wp_aStar ?_
  | (apply sqat; (· walk_at "sq"))
  | refine wp_eJoinL ?_
  | refine wp_rB ?_
  | refine wp_iEnum ?_
  | refine wp_iRng1 ?_
  | refine wp_iRng2 ?_
  | refine srcat_tup ?_
  | refine srcat_scr ?_
  | (apply srcat_lst; (· walk_at "lk"))
  | refine wp_eIsi ?_
  | refine kd_int ?_
  | refine kd_bl ?_
  | refine kd_str ?_
  | refine kd_non ?_
  | refine kd_tup ?_
  | (apply kd_lst; (· walk_at "lk"))
  | (apply wp_eComp; (· walk_at "ls"))
  | (apply wp_lenO; (· walk_at "lk"))
  | (apply wp_reprO; (· walk_at "lk"))
  | refine wp_eFmt ?_
  | refine wp_eJoin ?_
  | refine jgo_cons ?_
  | refine jgo_nil ?_
  | walk_at "call")
local macro_rules | `(tactic| walk_at "go") => `(tactic| repeat (with_reducible first
  | (apply wp_eV; (· walk_at "rf"))
  | refine wp_eC ?_
  | refine wp_e2 ?_
  | refine wp_e1 ?_
  | refine wp_aCons ?_
  | refine wp_aNil ?_
  | refine wp_eA ?_
  | refine wf_seq ?_
  | refine wf_Asg ?_
  | (apply wf_gN; (· walk_at "ls"))
  | refine wf_E ?_
  | refine wf_Ret ?_
  | refine wf_If ?_
  | refine wf_nil ?_
  | refine wp_eCall ?_
  | (apply wp_opF0; (· with_unfolding_all exact ⟨rfl, rfl⟩))
  | refine wp_eMeth ?_
  | (apply insat; (· walk_at "lk"))
  | refine wp_add ?_
  | refine wp_sub ?_
  | refine wp_lt ?_
  | refine wp_le ?_
  | refine wp_gt ?_
  | refine wp_ge ?_
  | (apply br_kt; (· with_unfolding_all rfl))
  | (apply br_kf; (· with_unfolding_all rfl))
  | refine wp_eqW ?_
  | refine wp_neW ?_
  | refine wp_eqB ?_
  | refine wp_neB ?_
  | (apply wp_lastW; (· assumption))
  | (apply wp_headW; (· assumption))
  | refine wp_inW ?_
  | refine wp_ninW ?_
  | refine wp_eqRow0 ?_
  | refine wp_neRow0 ?_
  | refine wp_eDisp ?_
  | refine pairs_cons ?_
  | refine pairs_nil ?_
  | refine keyat_s ?_
  | refine wf_sDputK ?_
  | (apply dputk_s; (· walk_at "lk"); (· exact lt_line (by omega)))
  | refine wp_eGet1 ?_
  | refine wp_eGet2 ?_
  | refine wp_ePop ?_
  | (apply dctat; (· walk_at "lk"))
  | (apply wp_dg; (· walk_at "lk"); (· assumption))
  | (apply wp_bDict; (· walk_at "lk"))
  | refine wp_eTM ?_
  | refine tupat ?_
  | (apply wp_tupIx; (· assumption))
  | refine wp_eCallV ?_
  | refine fnat ?_
  | refine wp_eqI ?_
  | refine wp_neI ?_
  | refine wp_eqS ?_
  | refine wp_neS ?_
  | (apply wp_mod; (· omega))
  | (apply wp_div; (· omega))
  | (apply wp_mul; (· omega))
  | (apply wp_powN; (· (simp only [Int.reduceToNat]; rfl)); (· omega); (· omega))
  | refine wp_neg ?_
  | refine wp_isN ?_
  | refine wp_isNI ?_
  | refine wp_bMax ?_
  | refine wp_bMin ?_
  | refine wp_bAbs ?_
  | refine wp_bInt ?_
  | (apply wp_bDivmod; (· omega))
  | refine tr_bl ?_
  | refine isb ?_
  | (apply br_t; (· rfl))
  | (apply br_f; (· rfl))
  | refine br_nt ?_
  | (apply br_dt; (· omega))
  | (apply br_df; (· omega))
  | refine wp_eNot ?_
  | refine wp_eB ?_
  | refine wp_eOr ?_
  | refine wp_eAnd ?_
  | refine wp_eAndB ?_
  | refine wp_eOrB ?_
  | refine wp_eNotB ?_
  | refine wp_eIf ?_
  | refine wp_chain ?_
  | refine wp_eFld ?_
  | (apply fdat; (· walk_at "lk"); (· walk_at "rf"))
  | refine wp_eSIx ?_
  | refine wp_eUp ?_
  | refine wp_eTinF ?_
  | refine wp_eTix ?_
  | refine wp_eTup ?_
  | refine wp_eLst ?_
  | refine wp_listR ?_
  | (apply wp_addT; (· walk_at "sz"))
  | (apply need; (· walk_at "sz"))
  | refine intat ?_
  | refine strat ?_
  | refine nonat ?_
  | (apply wp_len; (· walk_at "sq"))
  | (apply wp_ix; (· walk_at "sq"); (· walk_at "rf"))
  | (apply wp_bTuple; (· walk_at "sq"))
  | (apply wp_bList; (· walk_at "sq"))
  | refine wp_eBM ?_
  | (apply lstat; (· walk_at "lk"))
  | (apply wp_append; (· walk_at "lk"); (· walk_at "sz"))
  | (apply wp_clear; (· walk_at "lk"))
  | refine wp_eSl ?_
  | refine wp_pSome ?_
  | refine pis ?_
  | refine wp_pNo ?_
  | refine slat_tup ?_
  | (apply slat_lst; (· walk_at "lk"))
  | (apply wf_gT; (· walk_at "rf"))
  | refine wf_gsCons ?_
  | refine wf_gsNil ?_
  | refine wf_gSub ?_
  | (apply subat; (· walk_at "lk"); (· walk_at "rf"))
  | refine wf_sFld ?_
  | (apply fldat; (· walk_at "lk"); (· walk_at "sz"); (· walk_at "rf"))
  | refine wf_sPar ?_
  | (apply parat; (· walk_at "ls"))
  | refine wf_sPar3 ?_
  | (apply parat3; (· walk_at "ls"))
  | refine wp_eRev ?_
  | (apply rvat; (· walk_at "lk"))
  | refine wp_isBB ?_
  | refine wf_sFor ?_
  | refine wp_iSeq ?_
  | refine wp_iZip ?_
  | refine wp_iStr ?_
  | refine wp_eSlS ?_
  | refine wf_gDput ?_
  | refine wp_eDictItems ?_
  | refine wp_eDictPlus ?_
  | refine wp_strS ?_
  | refine wp_intI ?_
  | refine wp_intB ?_
  | (apply zipat; (· walk_at "lk"); (· walk_at "lk"))
  | refine wp_aStar ?_
  | (apply sqat; (· walk_at "sq"))
  | refine wp_eJoinL ?_
  | refine wp_rB ?_
  | refine wp_iEnum ?_
  | refine wp_iRng1 ?_
  | refine wp_iRng2 ?_
  | refine srcat_tup ?_
  | refine srcat_scr ?_
  | (apply srcat_lst; (· walk_at "lk"))
  | refine wp_eIsi ?_
  | refine kd_int ?_
  | refine kd_bl ?_
  | refine kd_str ?_
  | refine kd_non ?_
  | refine kd_tup ?_
  | (apply kd_lst; (· walk_at "lk"))
  | (apply wp_eComp; (· walk_at "ls"))
  | (apply wp_lenO; (· walk_at "lk"))
  | (apply wp_reprO; (· walk_at "lk"))
  | refine wp_eFmt ?_
  | refine wp_eJoin ?_
  | refine jgo_cons ?_
  | refine jgo_nil ?_
  | refine wf_Raise1 ?_
  | refine wf_Raise0 ?_
  | refine wf_Try ?_
  | (apply wp_eXf; (· walk_at "rf"))
  | walk_at "call"))
/-- into a def -/
local macro_rules | `(tactic| walk_at "into") => `(tactic| (refine wp_runF (by walk_at "rf") (by walk_at "ls") ?_))
/-- on, through all branches -/
local macro_rules | `(tactic| walk_at "br") => `(tactic| repeat' (first | walk_at "run" | (with_reducible apply br_dt; (· assumption)) | (with_reducible apply br_df; (· assumption)) | (with_reducible apply br_t; (· assumption)) | (with_reducible apply br_f; (· assumption)) | (with_reducible refine br_d (fun _ => ?_) (fun _ => ?_)) | (with_reducible refine br_s (fun _ => ?_) (fun _ => ?_)) | (intro d ed)))
/-! ### deeds -/
abbrev DW := Fin 9
def dw (c : DW) : Str := match c.val with
  | 0 => "group"
  | 1 => "limit"
  | 2 => "strike"
  | 3 => wd 12
  | 4 => wd 13
  | 5 => wd 14
  | 6 => wd 15
  | 7 => wd 16
  | _ => "step"
def lots (c : DW) : Nat := match c.val with
  | 0 => 1
  | 1 => 2
  | 2 => 1
  | 3 => 2
  | 4 => 2
  | 5 => 3
  | 6 => 2
  | 7 => 2
  | _ => 1
def dws : List DW := [0, 1, 2, 3, 4, 5, 6, 7, 8]
def kindOf (w : Str) : Option DW := dws.find? fun c => decide (dw c = w)
theorem kind_dw : ∀ c, kindOf (dw c) = some c := by decide +kernel
theorem kind_some {w : Str} {c : DW} (e : kindOf w = some c) : w = dw c := by
  have := List.find?_some e
  simpa using (of_decide_eq_true this).symm
theorem dw_lim {c : DW} : dw c = "limit" ↔ c = 1 := by
  revert c; decide +kernel
theorem dw_free : ∀ c, 32 ∉ (dw c).cps.toList ∧ (dw c).length ≤ 10 := by decide +kernel
theorem dw_up : ∀ c, kindOf (Txt.upper (dw c)) = none ∧ (Txt.upper (dw c)).length ≤ 10 := by decide +kernel
theorem kind_undo : kindOf (wd 9) = none := by decide +kernel
theorem lots_pos : ∀ c, 1 ≤ lots c ∧ lots c ≤ 3 := by decide
def lotsK : List (Ky × D) := dws.map fun c => (.inr (dw c), .int ((lots c : Nat) : Int))
theorem lotsK_at (w : Str) : valD lotsK (.inr w) = (kindOf w).map fun c => .int ((lots c : Nat) : Int) := by
  unfold valD lotsK kindOf
  rw [List.find?_map]
  have : ((fun kv : Ky × D => decide (kv.1 = .inr w)) ∘ fun c => ((.inr (dw c) : Ky), D.int ((lots c : Nat) : Int))) = fun c => decide (dw c = w) := by
    funext c
    simp only [Function.comp]
    rw [decide_eq_decide]
    exact ⟨fun z => Sum.inr.inj z, fun z => by rw [z]⟩
  rw [this, Option.map_map]; rfl
theorem lotsK_nd : (lotsK.map (·.1)).Nodup := by decide +kernel
theorem tb_at (w : Str) : ∀ l : List DW, tbAt (l.map fun c => (dw c, ((lots c : Nat) : Int))) w = (l.find? fun c => decide (dw c = w)).map fun c => ((lots c : Nat) : Int)
  | [] => rfl
  | c :: l => by
    have ih := tb_at w l
    rw [List.map_cons]
    unfold tbAt
    rw [List.find?_cons]
    by_cases e : dw c = w
    · rw [if_pos e, decide_eq_true e]; rfl
    · rw [if_neg e, decide_eq_false e]; exact ih
theorem deed_at (w : Str) : tbAt t_DEED_NUMBERS w = (kindOf w).map fun c => ((lots c : Nat) : Int) := tb_at w dws
theorem cut_tail {x : D} {xs : List D} : cutD (x :: xs) (some 1) none = xs := by
  unfold cutD
  rw [show (some (1 : Int)) = some (((1 : Nat) : Nat) : Int) from rfl, HT.sIx_nat, HT.sIx_none, List.length_cons]
  have : min 1 (xs.length + 1) = 1 := by omega
  rw [this]
  simp
/-- a number of a deed, or none -/
abbrev Nm := Option Int
def numS : Nm → Str
  | none => "none"
  | some i => intS i
def actD (w : Str) (as : List Nm) : D := .tup (.str w :: as.map numD)
def lineS (w : Str) (as : List Nm) : Str := Txt.join " " (w :: as.map numS)
def isI : D → Bool
  | .int _ => true
  | _ => false
def isNo : D → Bool
  | .non => true
  | _ => false
/-- whether a text and items behind it are a deed -/
def deedB (w : Str) (xs : List D) : Bool := match kindOf w with
  | none => false
  | some c => if xs.length = lots c then (match decide (c = 1) && isNo (xs.getD 1 (.int 0)) with
    | true => isI (xs.getD 0 .non)
    | false => xs.all isI) else false
section
variable {E : EP} {Q : D → LH → Prop} {h : LH}
theorem wp_ix0 {x : D} {xs : List D} (q : Q x h) : WP (oIx (.tup (x :: xs)) (.int 0) h) Q E := wp_ix (i := ((0 : Nat) : Int)) (xs := x :: xs) (d := x) rfl (L2.atI_nat rfl) q
theorem lots_w (q : ∀ l h1, h.length ≤ l → Ext [] h h1 → h1[l]? = some (.dct lotsK) → Q (.ref l) h1) : WP (f__law_lots [] h) Q E := by
  unfold f__law_lots b__law_lots
  walk_at "into"
  walk_at "go"
  intro l h0 l0 x0 a0
  walk_at "go"
  refine ⟨a0, ?_⟩
  intro h1 x1 a1 _
  walk_at "go"
  refine q l h1 l0 (x0.new x1 l0) ?_
  rw [a1]
  have := merge_fresh lotsK [] lotsK_nd (fun _ _ q (m : q ∈ []) => absurd m (by simp))
  have e : mergeD [] lotsK = lotsK := this
  exact congrArg (fun z => some (O.dct z)) e
theorem isint_w {d : D} (k : ∃ k, kindD d h = some k) (q : Q (.bl (isI d)) h) : WP (f_is_integer [d] h) Q E := by
  unfold f_is_integer b_is_integer
  walk_at "into"
  cases d with
  | non => walk_at "go"; exact q
  | bl b => walk_at "go"; exact q
  | int i => walk_at "go"; exact q
  | str x => walk_at "go"; exact q
  | tup xs => walk_at "go"; exact q
  | ref n =>
    obtain ⟨k, e⟩ := k
    walk_at "go"
    refine ⟨k, e, ?_⟩
    have kk : k = .list ∨ k = .dict := by
      simp only [kindD] at e
      split at e
      · cases e; exact .inl rfl
      · cases e; exact .inr rfl
      · exact nomatch e
    rcases kk with rfl | rfl
    · walk_at "go"; exact q
    · walk_at "go"; exact q
  | scr ns =>
    walk_at "go"
    refine ⟨.list, rfl, ?_⟩
    walk_at "go"; exact q
  | fn x =>
    obtain ⟨k, e⟩ := k
    exact nomatch e
theorem wp_isNo {d : D} (q : Q (.bl (isNo d)) h) : WP (oIsN false d h) Q E := by
  cases d <;> exact q
theorem deed_w {w : Str} {xs : List D} (F : ∀ x ∈ xs, ∃ k, kindD x h = some k) (l : xs.length ≤ 1000) (q : ∀ h1, Ext [] h h1 → Q (.bl (deedB w xs)) h1) : WP (f_is_deed [.tup (.str w :: xs)] h) Q E := by
  unfold f_is_deed b_is_deed
  walk_at "into"
  walk_at "go"
  refine br_df (by rw [List.length_cons]; omega) ?_
  walk_at "go"
  refine wp_ix0 ?_
  walk_at "go"
  refine wp_ix0 ?_
  walk_at "go"
  rw [deed_at]
  cases ek : kindOf w with
  | none =>
    walk_at "go"
    refine qb' (q h Ext.rfl') ?_
    unfold deedB; rw [ek]
  | some c =>
    have ew := kind_some ek
    subst ew
    have lp := lots_pos c
    walk_at "go"
    refine br_f rfl ?_
    walk_at "go"
    refine wp_ix0 ?_
    walk_at "go"
    refine ⟨_, by rw [deed_at, ek]; rfl, ?_⟩
    walk_at "go"
    by_cases c1 : xs.length = lots c
    · refine br_dt (by show ((xs.length + 1 : Nat) : Int) = 1 + ((lots c : Nat) : Int); omega) ?_
      have dB : deedB (dw c) xs = (match decide (c = 1) && isNo (xs.getD 1 (.int 0)) with
        | true => isI (xs.getD 0 .non)
        | false => xs.all isI) := by
        unfold deedB; rw [ek]; simp only; rw [if_pos c1]
      have x0 : xs[0]? = some (xs.getD 0 .non) := by
        rw [List.getD, List.getElem?_eq_getElem (by omega)]; rfl
      walk_at "go"
      refine wp_ix0 ?_
      walk_at "go"
      have rest : (decide (c = 1) && isNo (xs.getD 1 (.int 0))) = false → ∀ r, r = [some (D.tup (.str (dw c) :: xs)), none] → WF ((sSeq (sRet (eA bAll (aCons (eComp [1] (iSeq (eSl (eV 0) (pSome (eC (.int 1))) pNo)) (eC (.bl true)) (eCall (opF 1 0 bd0 f_is_integer) (aCons (eV 1) aNil) aNil)) aNil))) sNil) r h) (fun _ h' => Q .non h') Q noN noN E := by
        rintro e r rfl
        walk_at "go"
        rw [cut_tail]
        refine wp_mapF id xs (fun d => .bl (isI d)) (by rw [List.map_id]; exact gives_its) (by omega) ?_ ?_
        · intro d md h1 x1
          refine ⟨_, rfl, ?_⟩
          obtain ⟨k, ek⟩ := F d md
          walk_at "go"
          refine isint_w ⟨k, kind_ext0 ek x1⟩ ?_
          exact ⟨rfl, Ext.rfl'⟩
        intro n1 h1 l1 x1 a1
        walk_at "go"
        refine wp_allB a1 ?_
        refine qb' (q h1 x1) ?_
        rw [dB, e]
      by_cases c2 : c = 1
      · subst c2
        refine br_dt rfl ?_
        have x1 : xs[1]? = some (xs.getD 1 (.int 0)) := by
          have : lots 1 = 2 := rfl
          rw [List.getD, List.getElem?_eq_getElem (by omega)]; rfl
        walk_at "go"
        refine wp_ix (i := ((2 : Nat) : Int)) (xs := D.str (dw 1) :: xs) (d := xs.getD 1 (.int 0)) rfl (L2.atI_nat (by rw [List.getElem?_cons_succ]; exact x1)) ?_
        walk_at "go"
        refine wp_isNo ?_
        walk_at "go"
        refine br_s (fun z => ?_) (fun z => ?_)
        · walk_at "go"
          refine wp_ix (i := ((1 : Nat) : Int)) (xs := D.str (dw 1) :: xs) (d := xs.getD 0 .non) rfl (L2.atI_nat (by rw [List.getElem?_cons_succ]; exact x0)) ?_
          walk_at "go"
          refine isint_w (F _ (List.mem_of_getElem? x0)) ?_
          refine qb' (q h Ext.rfl') ?_
          rw [dB, z]; rfl
        · walk_at "run"
          exact rest (by rw [z]; rfl) _ rfl
      · refine br_df (fun z => c2 (dw_lim.1 z)) ?_
        refine br_df (fun z => c2 (dw_lim.1 z)) ?_
        walk_at "run"
        exact rest (by rw [decide_eq_false c2]; rfl) _ rfl
    · refine br_df (fun z => c1 (by have z : ((xs.length + 1 : Nat) : Int) = 1 + ((lots c : Nat) : Int) := z; omega)) ?_
      walk_at "go"
      refine qb' (q h Ext.rfl') ?_
      unfold deedB; rw [ek]; simp only; rw [if_neg c1]
end
end
end Lw

set_option Elab.async false
set_option linter.all false
set_option maxRecDepth 100000
set_option maxHeartbeats 4000000
namespace Lw
open Py Ev PySem
section
local macro_rules | `(tactic| walk_at "rf") => `(tactic| with_unfolding_all exact rfl)
local macro_rules | `(tactic| walk_at "nin") => `(tactic| first | exact List.not_mem_nil | (simp only [List.mem_cons, List.not_mem_nil, or_false, not_or]; omega))
local macro_rules | `(tactic| walk_at "lk") => `(tactic| first | assumption | (refine Ext.get (by assumption) ?_ ?_; (walk_at "lk"); (walk_at "nin")))
local macro_rules | `(tactic| walk_at "sq") => `(tactic| first | exact seq_tup | exact seq_scr | exact SeqOf.seq (by assumption) | exact seq_lst (by walk_at "lk"))
local macro_rules | `(tactic| walk_at "sz") => `(tactic| first | omega | (simp only [List.length_cons, List.length_nil, List.length_append, List.length_map, List.length_replicate, iD_len, sizeLine]; omega))
local macro_rules | `(tactic| walk_at "ls") => `(tactic| (simp only [List.set_cons_succ, List.set_cons_zero, List.map_cons, List.map_nil, List.replicate_succ, List.replicate_zero, List.cons_append, List.nil_append, wipeL]; rfl))
local macro_rules | `(tactic| walk_at "call") => `(tactic| fail)
local macro_rules | `(tactic| walk_at "run") => `(tactic| with_reducible first
  | (apply wp_eV; (· walk_at "rf"))
  | refine wp_eC ?_
  | refine wp_e2 ?_
  | refine wp_e1 ?_
  | refine wp_aCons ?_
  | refine wp_aNil ?_
  | refine wp_eA ?_
  | refine wf_seq ?_
  | refine wf_Asg ?_
  | (apply wf_gN; (· walk_at "ls"))
  | refine wf_E ?_
  | refine wf_Ret ?_
  | refine wf_If ?_
  | refine wf_nil ?_
  | refine wp_eCall ?_
  | (apply wp_opF0; (· with_unfolding_all exact ⟨rfl, rfl⟩))
  | refine wp_eMeth ?_
  | (apply insat; (· walk_at "lk"))
  | refine wp_add ?_
  | refine wp_sub ?_
  | refine wp_lt ?_
  | refine wp_le ?_
  | refine wp_gt ?_
  | refine wp_ge ?_
  | (apply br_kt; (· with_unfolding_all rfl))
  | (apply br_kf; (· with_unfolding_all rfl))
  | refine wp_eqW ?_
  | refine wp_neW ?_
  | refine wp_eqB ?_
  | refine wp_neB ?_
  | (apply wp_lastW; (· assumption))
  | (apply wp_headW; (· assumption))
  | refine wp_inW ?_
  | refine wp_ninW ?_
  | refine wp_eqRow0 ?_
  | refine wp_neRow0 ?_
  | refine wp_eDisp ?_
  | refine pairs_cons ?_
  | refine pairs_nil ?_
  | refine keyat_s ?_
  | refine wf_sDputK ?_
  | (apply dputk_s; (· walk_at "lk"); (· exact lt_line (by omega)))
  | refine wp_eGet1 ?_
  | refine wp_eGet2 ?_
  | refine wp_ePop ?_
  | (apply dctat; (· walk_at "lk"))
  | (apply wp_dg; (· walk_at "lk"); (· assumption))
  | (apply wp_bDict; (· walk_at "lk"))
  | refine wp_eTM ?_
  | refine tupat ?_
  | (apply wp_tupIx; (· assumption))
  | refine wp_eCallV ?_
  | refine fnat ?_
  | refine wp_eqI ?_
  | refine wp_neI ?_
  | refine wp_eqS ?_
  | refine wp_neS ?_
  | (apply wp_mod; (· omega))
  | (apply wp_div; (· omega))
  | (apply wp_mul; (· omega))
  | (apply wp_powN; (· (simp only [Int.reduceToNat]; rfl)); (· omega); (· omega))
  | refine wp_neg ?_
  | refine wp_isN ?_
  | refine wp_isNI ?_
  | refine wp_bMax ?_
  | refine wp_bMin ?_
  | refine wp_bAbs ?_
  | refine wp_bInt ?_
  | (apply wp_bDivmod; (· omega))
  | refine tr_bl ?_
  | refine isb ?_
  | (apply br_t; (· rfl))
  | (apply br_f; (· rfl))
  | refine br_nt ?_
  | (apply br_dt; (· omega))
  | (apply br_df; (· omega))
  | refine wp_eNot ?_
  | refine wp_eB ?_
  | refine wp_eOr ?_
  | refine wp_eAnd ?_
  | refine wp_eAndB ?_
  | refine wp_eOrB ?_
  | refine wp_eNotB ?_
  | refine wp_eIf ?_
  | refine wp_chain ?_
  | refine wp_eFld ?_
  | (apply fdat; (· walk_at "lk"); (· walk_at "rf"))
  | refine wp_eSIx ?_
  | refine wp_eUp ?_
  | refine wp_eTinF ?_
  | refine wp_eTix ?_
  | refine wp_eTup ?_
  | refine wp_eLst ?_
  | refine wp_listR ?_
  | (apply wp_addT; (· walk_at "sz"))
  | (apply need; (· walk_at "sz"))
  | refine intat ?_
  | refine strat ?_
  | refine nonat ?_
  | (apply wp_len; (· walk_at "sq"))
  | (apply wp_ix; (· walk_at "sq"); (· walk_at "rf"))
  | (apply wp_bTuple; (· walk_at "sq"))
  | (apply wp_bList; (· walk_at "sq"))
  | refine wp_eBM ?_
  | (apply lstat; (· walk_at "lk"))
  | (apply wp_append; (· walk_at "lk"); (· walk_at "sz"))
  | (apply wp_clear; (· walk_at "lk"))
  | refine wp_eSl ?_
  | refine wp_pSome ?_
  | refine pis ?_
  | refine wp_pNo ?_
  | refine slat_tup ?_
  | (apply slat_lst; (· walk_at "lk"))
  | (apply wf_gT; (· walk_at "rf"))
  | refine wf_gsCons ?_
  | refine wf_gsNil ?_
  | refine wf_gSub ?_
  | (apply subat; (· walk_at "lk"); (· walk_at "rf"))
  | refine wf_sFld ?_
  | (apply fldat; (· walk_at "lk"); (· walk_at "sz"); (· walk_at "rf"))
  | refine wf_sPar ?_
  | (apply parat; (· walk_at "ls"))
  | refine wf_sPar3 ?_
  | (apply parat3; (· walk_at "ls"))
  | refine wp_eRev ?_
  | (apply rvat; (· walk_at "lk"))
  | refine wp_isBB ?_
  | refine wf_sFor ?_
  | refine wp_iSeq ?_
  | refine wp_iZip ?_
  | refine wp_iStr ?_
  | refine wp_eSlS ?_
  | refine wf_gDput ?_
  | refine wp_eDictItems ?_
  | refine wp_eDictPlus ?_
  | refine wp_strS ?_
  | refine wp_intI ?_
  | refine wp_intB ?_
  | (apply zipat; (· walk_at "lk"); (· walk_at "lk"))
  | refine wp_aStar ?_
  | (apply sqat; (· walk_at "sq"))
  | refine wp_eJoinL ?_
  | refine wp_rB ?_
  | refine wp_iEnum ?_
  | refine wp_iRng1 ?_
  | refine wp_iRng2 ?_
  | refine srcat_tup ?_
  | refine srcat_scr ?_
  | (apply srcat_lst; (· walk_at "lk"))
  | refine wp_eIsi ?_
  | refine kd_int ?_
  | refine kd_bl ?_
  | refine kd_str ?_
  | refine kd_non ?_
  | refine kd_tup ?_
  | (apply kd_lst; (· walk_at "lk"))
  | (apply wp_eComp; (· walk_at "ls"))
  | (apply wp_lenO; (· walk_at "lk"))
  | (apply wp_reprO; (· walk_at "lk"))
  | refine wp_eFmt ?_
  | refine wp_eJoin ?_
  | refine jgo_cons ?_
  | refine jgo_nil ?_
  | walk_at "call")
local macro_rules | `(tactic| walk_at "go") => `(tactic| repeat (with_reducible first
  | (apply wp_eV; (· walk_at "rf"))
  | refine wp_eC ?_
  | refine wp_e2 ?_
  | refine wp_e1 ?_
  | refine wp_aCons ?_
  | refine wp_aNil ?_
  | refine wp_eA ?_
  | refine wf_seq ?_
  | refine wf_Asg ?_
  | (apply wf_gN; (· walk_at "ls"))
  | refine wf_E ?_
  | refine wf_Ret ?_
  | refine wf_If ?_
  | refine wf_nil ?_
  | refine wp_eCall ?_
  | (apply wp_opF0; (· with_unfolding_all exact ⟨rfl, rfl⟩))
  | refine wp_eMeth ?_
  | (apply insat; (· walk_at "lk"))
  | refine wp_add ?_
  | refine wp_sub ?_
  | refine wp_lt ?_
  | refine wp_le ?_
  | refine wp_gt ?_
  | refine wp_ge ?_
  | (apply br_kt; (· with_unfolding_all rfl))
  | (apply br_kf; (· with_unfolding_all rfl))
  | refine wp_eqW ?_
  | refine wp_neW ?_
  | refine wp_eqB ?_
  | refine wp_neB ?_
  | (apply wp_lastW; (· assumption))
  | (apply wp_headW; (· assumption))
  | refine wp_inW ?_
  | refine wp_ninW ?_
  | refine wp_eqRow0 ?_
  | refine wp_neRow0 ?_
  | refine wp_eDisp ?_
  | refine pairs_cons ?_
  | refine pairs_nil ?_
  | refine keyat_s ?_
  | refine wf_sDputK ?_
  | (apply dputk_s; (· walk_at "lk"); (· exact lt_line (by omega)))
  | refine wp_eGet1 ?_
  | refine wp_eGet2 ?_
  | refine wp_ePop ?_
  | (apply dctat; (· walk_at "lk"))
  | (apply wp_dg; (· walk_at "lk"); (· assumption))
  | (apply wp_bDict; (· walk_at "lk"))
  | refine wp_eTM ?_
  | refine tupat ?_
  | (apply wp_tupIx; (· assumption))
  | refine wp_eCallV ?_
  | refine fnat ?_
  | refine wp_eqI ?_
  | refine wp_neI ?_
  | refine wp_eqS ?_
  | refine wp_neS ?_
  | (apply wp_mod; (· omega))
  | (apply wp_div; (· omega))
  | (apply wp_mul; (· omega))
  | (apply wp_powN; (· (simp only [Int.reduceToNat]; rfl)); (· omega); (· omega))
  | refine wp_neg ?_
  | refine wp_isN ?_
  | refine wp_isNI ?_
  | refine wp_bMax ?_
  | refine wp_bMin ?_
  | refine wp_bAbs ?_
  | refine wp_bInt ?_
  | (apply wp_bDivmod; (· omega))
  | refine tr_bl ?_
  | refine isb ?_
  | (apply br_t; (· rfl))
  | (apply br_f; (· rfl))
  | refine br_nt ?_
  | (apply br_dt; (· omega))
  | (apply br_df; (· omega))
  | refine wp_eNot ?_
  | refine wp_eB ?_
  | refine wp_eOr ?_
  | refine wp_eAnd ?_
  | refine wp_eAndB ?_
  | refine wp_eOrB ?_
  | refine wp_eNotB ?_
  | refine wp_eIf ?_
  | refine wp_chain ?_
  | refine wp_eFld ?_
  | (apply fdat; (· walk_at "lk"); (· walk_at "rf"))
  | refine wp_eSIx ?_
  | refine wp_eUp ?_
  | refine wp_eTinF ?_
  | refine wp_eTix ?_
  | refine wp_eTup ?_
  | refine wp_eLst ?_
  | refine wp_listR ?_
  | (apply wp_addT; (· walk_at "sz"))
  | (apply need; (· walk_at "sz"))
  | refine intat ?_
  | refine strat ?_
  | refine nonat ?_
  | (apply wp_len; (· walk_at "sq"))
  | (apply wp_ix; (· walk_at "sq"); (· walk_at "rf"))
  | (apply wp_bTuple; (· walk_at "sq"))
  | (apply wp_bList; (· walk_at "sq"))
  | refine wp_eBM ?_
  | (apply lstat; (· walk_at "lk"))
  | (apply wp_append; (· walk_at "lk"); (· walk_at "sz"))
  | (apply wp_clear; (· walk_at "lk"))
  | refine wp_eSl ?_
  | refine wp_pSome ?_
  | refine pis ?_
  | refine wp_pNo ?_
  | refine slat_tup ?_
  | (apply slat_lst; (· walk_at "lk"))
  | (apply wf_gT; (· walk_at "rf"))
  | refine wf_gsCons ?_
  | refine wf_gsNil ?_
  | refine wf_gSub ?_
  | (apply subat; (· walk_at "lk"); (· walk_at "rf"))
  | refine wf_sFld ?_
  | (apply fldat; (· walk_at "lk"); (· walk_at "sz"); (· walk_at "rf"))
  | refine wf_sPar ?_
  | (apply parat; (· walk_at "ls"))
  | refine wf_sPar3 ?_
  | (apply parat3; (· walk_at "ls"))
  | refine wp_eRev ?_
  | (apply rvat; (· walk_at "lk"))
  | refine wp_isBB ?_
  | refine wf_sFor ?_
  | refine wp_iSeq ?_
  | refine wp_iZip ?_
  | refine wp_iStr ?_
  | refine wp_eSlS ?_
  | refine wf_gDput ?_
  | refine wp_eDictItems ?_
  | refine wp_eDictPlus ?_
  | refine wp_strS ?_
  | refine wp_intI ?_
  | refine wp_intB ?_
  | (apply zipat; (· walk_at "lk"); (· walk_at "lk"))
  | refine wp_aStar ?_
  | (apply sqat; (· walk_at "sq"))
  | refine wp_eJoinL ?_
  | refine wp_rB ?_
  | refine wp_iEnum ?_
  | refine wp_iRng1 ?_
  | refine wp_iRng2 ?_
  | refine srcat_tup ?_
  | refine srcat_scr ?_
  | (apply srcat_lst; (· walk_at "lk"))
  | refine wp_eIsi ?_
  | refine kd_int ?_
  | refine kd_bl ?_
  | refine kd_str ?_
  | refine kd_non ?_
  | refine kd_tup ?_
  | (apply kd_lst; (· walk_at "lk"))
  | (apply wp_eComp; (· walk_at "ls"))
  | (apply wp_lenO; (· walk_at "lk"))
  | (apply wp_reprO; (· walk_at "lk"))
  | refine wp_eFmt ?_
  | refine wp_eJoin ?_
  | refine jgo_cons ?_
  | refine jgo_nil ?_
  | refine wf_Raise1 ?_
  | refine wf_Raise0 ?_
  | refine wf_Try ?_
  | (apply wp_eXf; (· walk_at "rf"))
  | walk_at "call"))
/-- into a def -/
local macro_rules | `(tactic| walk_at "into") => `(tactic| (refine wp_runF (by walk_at "rf") (by walk_at "ls") ?_))
/-- on, through all branches -/
local macro_rules | `(tactic| walk_at "br") => `(tactic| repeat' (first | walk_at "run" | (with_reducible apply br_dt; (· assumption)) | (with_reducible apply br_df; (· assumption)) | (with_reducible apply br_t; (· assumption)) | (with_reducible apply br_f; (· assumption)) | (with_reducible refine br_d (fun _ => ?_) (fun _ => ?_)) | (with_reducible refine br_s (fun _ => ?_) (fun _ => ?_)) | (intro d ed)))
/-! ### lines -/
theorem sum_len {k : Nat} : ∀ {ts : List Str}, (∀ t ∈ ts, t.length ≤ k) → (ts.map (·.length)).sum ≤ k * ts.length
  | [], _ => by simp
  | t :: ts, l => by
    have ih := sum_len (k := k) (ts := ts) fun t m => l t (by simp [m])
    have := l t (by simp)
    rw [List.map_cons, List.sum_cons, List.length_cons, Nat.mul_add]; omega
theorem strs_map2 : ∀ ys : List Str, strsD (ys.map D.str) = some ys
  | [] => rfl
  | y :: ys => by
    show (strsD (ys.map D.str)).map (y :: ·) = _
    rw [strs_map2 ys]; rfl
theorem jnat2 {h : LH} {a : Str} {n : Nat} {ys : List Str} {P : List Str → Prop} (e : h[n]? = some (.lst (ys.map D.str))) (l : (ys.map (·.length)).sum + ys.length * a.length ≤ 16777216) (p : P ys) : JnAt a (.ref n) h P :=
  ⟨ys, by rw [seq_lst e, Option.bind_some, strs_map2], l, p⟩
theorem jnat3 {h : LH} {k : Nat} {n : Nat} {ys : List Str} {P : List Str → Prop} (e : h[n]? = some (.lst (ys.map D.str))) (l : ∀ y ∈ ys, y.length ≤ 1000) (c : ys.length ≤ 1100) (p : P ys) : JnAt " " (.ref n) h P := by
  refine jnat2 e ?_ p
  have := sum_len l
  have e1 : (" " : Str).length = 1 := by decide
  rw [e1]; omega
/-- a part of a deed that can be told -/
structure Fit (a : Nm) : Prop where
  len : (numS a).length ≤ 700
  bits : ∀ i, a = some i → i.natAbs.log2 < 1920
theorem fit_none : Fit none := ⟨by show ("none" : Str).length ≤ 700; decide, fun i e => nomatch e⟩
theorem dval_lt : ∀ (n : Nat) (l : List Nat), l.length = n → l.all isDig = true → dval l < 10 ^ n
  | 0, l, e, _ => by
    have : l = [] := List.length_eq_zero_iff.1 e
    subst this; decide
  | n + 1, l, e, d => by
    have ne : l ≠ [] := fun z => by subst z; simp at e
    obtain ⟨r, c, rfl⟩ : ∃ r c, l = r ++ [c] := ⟨l.dropLast, l.getLast ne, (List.dropLast_concat_getLast ne).symm⟩
    rw [List.all_append, Bool.and_eq_true] at d
    have ih := dval_lt n r (by simpa using e) d.1
    have dc : 48 ≤ c ∧ c ≤ 57 := by simpa [isDig] using d.2
    rw [dval_snoc, Nat.pow_succ]
    omega
theorem bits_of {n : Nat} (h : n < 10 ^ 570) : n.log2 < 1920 := by
  rcases Nat.eq_zero_or_pos n with z | z
  · rw [z]; decide
  · exact (Nat.log2_lt (by omega)).2 (Nat.lt_trans h (by decide +kernel))
theorem numQ_bits {w : Str} {i : Int} (l : w.length ≤ 560) (e : numQ w = some i) : i.natAbs.log2 < 1920 := by
  refine bits_of ?_
  have ll : w.cps.toList.length = w.length := by simp [Str.length]
  unfold numQ at e
  generalize w.cps.toList = cs at e ll
  have key : ∀ d : List Nat, d.length ≤ 560 → d.all isDig = true → dval d < 10 ^ 570 := fun d dl dd =>
    Nat.lt_of_lt_of_le (dval_lt _ d rfl dd) (Nat.pow_le_pow_right (by decide) (by omega))
  obtain ⟨d, ed⟩ : ∃ d, (if cs.take 1 = [45] then cs.drop 1 else cs) = d := ⟨_, rfl⟩
  rw [numL_eq ed] at e
  by_cases c1 : d = [] ∨ d.all isDig = false
  · rw [if_pos c1] at e; exact nomatch e
  rw [if_neg c1] at e
  by_cases c2 : d.take 1 = [48] ∧ cs ≠ [48]
  · rw [if_pos c2] at e; exact nomatch e
  rw [if_neg c2] at e
  have dd : d.all isDig = true := by
    cases z : d.all isDig with
    | true => rfl
    | false => exact absurd (Or.inr z) c1
  have dl : d.length ≤ 560 := by
    rw [← ed]
    split
    · rw [List.length_drop]; omega
    · omega
  have k := key _ dl dd
  have e := Option.some.inj e
  by_cases c3 : cs.take 1 = [45]
  · rw [if_pos c3] at e; subst e; rw [Int.natAbs_neg, Int.natAbs_natCast]; exact k
  · rw [if_neg c3] at e; subst e; rw [Int.natAbs_natCast]; exact k
theorem fit_num {w : Str} (l : w.length ≤ 560) : Fit (numQ w) := by
  cases e : numQ w with
  | none => exact fit_none
  | some i =>
    refine ⟨?_, fun j ej => ?_⟩
    · show (intS i).length ≤ 700
      rw [numQ_inv e]; omega
    · cases ej; exact numQ_bits l e
theorem fit_int {i : Int} (l : i.natAbs < 10 ^ 45) : Fit (some i) :=
  ⟨by show (intS i).length ≤ 700; have := intS_len l; omega, fun j e => by cases e; exact bits_of (Nat.lt_of_lt_of_le l (by decide +kernel))⟩
theorem kind_num (h : LH) (a : Nm) : ∃ k, kindD (numD a) h = some k := by cases a <;> exact ⟨_, rfl⟩
theorem isI_num (a : Nm) : isI (numD a) = a.isSome := by cases a <;> rfl
theorem isNo_num (a : Nm) : isNo (numD a) = a.isNone := by cases a <;> rfl
theorem all_num (as : List Nm) : (as.map numD).all isI = as.all (·.isSome) := by
  rw [List.all_map]; exact List.all_congr rfl fun a => isI_num a
section
variable {E : EP} {Q : D → LH → Prop} {h : LH}
theorem line_w {w : Str} {as : List Nm} (lw : w.length ≤ 700) (l : as.length ≤ 1000) (F : ∀ a ∈ as, Fit a) (q : deedB w (as.map numD) = true → ∀ h1, Ext [] h h1 → Q (.str (lineS w as)) h1) (e : deedB w (as.map numD) = false → ∀ h1, Ext [] h h1 → E 0 [(0, actD w as)] h1) : WP (f_line_of [actD w as] h) Q E := by
  unfold f_line_of b_line_of actD
  walk_at "into"
  walk_at "go"
  refine deed_w (fun x m => by obtain ⟨a, _, rfl⟩ := List.mem_map.1 m; exact kind_num h a) (by rw [List.length_map]; exact l) ?_
  intro h1 x1
  walk_at "go"
  refine br_s (fun z => ?_) (fun z => ?_)
  · walk_at "go"
    refine wp_ix0 ?_
    walk_at "go"
    intro n2 h2 l2 x2 a2
    walk_at "go"
    rw [cut_tail]
    refine wp_mapF numD as (fun a => .str (numS a)) gives_its (by omega) ?_ ?_
    · intro a ma h3 x3
      refine ⟨_, rfl, ?_⟩
      cases a with
      | none =>
        walk_at "go"
        exact ⟨rfl, Ext.rfl'⟩
      | some i =>
        walk_at "go"
        refine wp_strI ((F _ ma).bits i rfl) ?_
        exact ⟨rfl, Ext.rfl'⟩
    intro n3 h3 l3 x3 a3
    refine wp_addL (x3.get0 a2) a3 (by simp only [List.length_cons, List.length_nil, List.length_map]; unfold sizeLine; omega) ?_
    intro n4 h4 l4 x4 a4
    have a4' : h4[n4]? = some (.lst ((w :: as.map numS).map D.str)) := by rw [a4, List.map_cons, List.map_map]; rfl
    refine jnat3 (k := 0) a4' ?_ (by rw [List.length_cons, List.length_map]; omega) ?_
    · intro y m
      rcases List.mem_cons.1 m with rfl | m
      · omega
      · obtain ⟨a, ma, rfl⟩ := List.mem_map.1 m
        have := (F a ma).len; omega
    · exact q z h4 (((x1.trans x2).trans x3).trans x4)
  · walk_at "go"
    exact e z h1 x1
end
/-- the deed that a line tells, by the law -/
def lawQ : List Str → Option (List Nm)
  | [] => none
  | w :: rs => match kindOf w with
    | none => none
    | some c => if rs.length = lots c then (match decide (c = 1) && decide (rs.getD 1 "" = "none") with
      | true => (match numQ (rs.getD 0 "") with
        | none => none
        | some i => some [some i, none])
      | false => (match rs.all fun r => (numQ r).isSome with
        | true => some (rs.map numQ)
        | false => none)) else none
theorem lawQ_cons (w : Str) (rs : List Str) : lawQ (w :: rs) = (match kindOf w with
    | none => none
    | some c => if rs.length = lots c then (match decide (c = 1) && decide (rs.getD 1 "" = "none") with
      | true => (match numQ (rs.getD 0 "") with
        | none => none
        | some i => some [some i, none])
      | false => (match rs.all fun r => (numQ r).isSome with
        | true => some (rs.map numQ)
        | false => none)) else none) := rfl
theorem numQ_none : numQ "none" = none := by decide +kernel
theorem none_free : 32 ∉ ("none" : Str).cps.toList := by decide
theorem numS_free (a : Nm) : 32 ∉ (numS a).cps.toList := by
  cases a with
  | none => exact none_free
  | some i => exact intS_free i
theorem numS_back {r : Str} (e : (numQ r).isSome = true) : numS (numQ r) = r := by
  cases z : numQ r with
  | none => rw [z] at e; exact nomatch e
  | some i => exact numQ_inv z
theorem map_back : ∀ {rs : List Str}, (rs.all fun r => (numQ r).isSome) = true → (rs.map numQ).map numS = rs
  | [], _ => rfl
  | r :: rs, h => by
    rw [List.all_cons, Bool.and_eq_true] at h
    rw [List.map_cons, List.map_cons, numS_back h.1, map_back h.2]
theorem all_numQ (rs : List Str) : ((rs.map numQ).map numD).all isI = rs.all fun r => (numQ r).isSome := by
  rw [all_num, List.all_map]; rfl
/-- the two readings agree -/
theorem read_some {w : Str} {rs : List Str} {as : List Nm} (e : lawQ (w :: rs) = some as) : deedB w ((rs.map numQ).map numD) = true ∧ as = rs.map numQ ∧ lineS w (rs.map numQ) = Txt.join " " (w :: rs) := by
  rw [lawQ_cons] at e
  unfold deedB
  cases ek : kindOf w with
  | none => rw [ek] at e; exact nomatch e
  | some c =>
    rw [ek] at e
    simp only at e ⊢
    by_cases cl : rs.length = lots c
    · rw [if_pos cl] at e
      rw [if_pos (by rw [List.length_map, List.length_map]; exact cl)]
      by_cases c1 : c = 1
      · subst c1
        have l2 : rs.length = 2 := cl
        obtain ⟨r0, r1, rfl⟩ : ∃ r0 r1, rs = [r0, r1] := by
          match rs, l2 with
          | [a, b], _ => exact ⟨a, b, rfl⟩
        by_cases cn : r1 = "none"
        · subst cn
          have e : (match numQ r0 with | none => none | some i => some [some i, none]) = some as := e
          cases z : numQ r0 with
          | none => rw [z] at e; exact nomatch e
          | some i =>
            rw [z] at e
            cases e
            refine ⟨?_, ?_, ?_⟩
            · simp only [List.map_cons, List.map_nil, z, numQ_none]; rfl
            · simp only [List.map_cons, List.map_nil, z, numQ_none]
            · simp only [List.map_cons, List.map_nil, z, numQ_none, lineS, numS]
              rw [numQ_inv z]
        · have cd : (decide ((1 : DW) = 1) && decide (([r0, r1] : List Str).getD 1 "" = "none")) = false := by
            show (true && decide (r1 = "none")) = false
            rw [decide_eq_false cn]; rfl
          rw [cd] at e
          simp only at e
          cases z : ([r0, r1] : List Str).all fun r => (numQ r).isSome with
          | false => rw [z] at e; exact nomatch e
          | true =>
            rw [z] at e
            cases e
            refine ⟨?_, rfl, ?_⟩
            · have z2 := z
              simp only [List.all_cons, List.all_nil, Bool.and_true, Bool.and_eq_true] at z2
              have nn : isNo (numD (numQ r1)) = false := by
                rw [isNo_num]
                cases y : numQ r1 with
                | none => rw [y] at z2; exact absurd z2.2 (by simp)
                | some _ => rfl
              have cm : (decide ((1 : DW) = 1) && isNo ((([r0, r1] : List Str).map numQ).map numD |>.getD 1 (.int 0))) = false := by
                show (true && isNo (numD (numQ r1))) = false
                rw [nn]; rfl
              rw [cm]
              simp only
              rw [all_numQ]; exact z
            · unfold lineS; rw [map_back z]
      · have cd : (decide (c = 1) && decide (rs.getD 1 "" = "none")) = false := by rw [decide_eq_false c1]; rfl
        rw [cd] at e
        simp only at e
        cases z : rs.all fun r => (numQ r).isSome with
        | false => rw [z] at e; exact nomatch e
        | true =>
          rw [z] at e
          cases e
          refine ⟨?_, rfl, ?_⟩
          · rw [show (decide (c = 1) && isNo (((rs.map numQ).map numD).getD 1 (.int 0))) = false by rw [decide_eq_false c1]; rfl]
            simp only
            rw [all_numQ]; exact z
          · unfold lineS; rw [map_back z]
    · rw [if_neg cl] at e; exact nomatch e
theorem read_none {w : Str} {rs : List Str} (fw : 32 ∉ w.cps.toList) (fr : ∀ r ∈ rs, 32 ∉ r.cps.toList) (e : lawQ (w :: rs) = none) : deedB w ((rs.map numQ).map numD) = true → lineS w (rs.map numQ) ≠ Txt.join " " (w :: rs) := by
  intro d z
  unfold lineS at z
  have z := join_words (by simp) (by simp) (by
    intro y m
    rcases List.mem_cons.1 m with rfl | m
    · exact fw
    · obtain ⟨a, _, rfl⟩ := List.mem_map.1 m
      exact numS_free a) (by
    intro y m
    rcases List.mem_cons.1 m with rfl | m
    · exact fw
    · exact fr y m) z
  have z : (rs.map numQ).map numS = rs := (List.cons.inj z).2
  rw [lawQ_cons] at e
  unfold deedB at d
  cases ek : kindOf w with
  | none => rw [ek] at d; exact nomatch d
  | some c =>
    rw [ek] at e d
    simp only at e d
    by_cases cl : rs.length = lots c
    · rw [if_pos cl] at e
      rw [if_pos (by rw [List.length_map, List.length_map]; exact cl)] at d
      by_cases c1 : c = 1
      · subst c1
        have l2 : rs.length = 2 := cl
        obtain ⟨r0, r1, rfl⟩ : ∃ r0 r1, rs = [r0, r1] := by
          match rs, l2 with
          | [a, b], _ => exact ⟨a, b, rfl⟩
        cases y1 : numQ r1 with
        | none =>
          have er : r1 = "none" := by
            have : numS (numQ r1) = r1 := by
              have := congrArg (fun l => l.getD 1 "") z
              exact this
            rw [y1] at this
            exact this.symm
          subst er
          have d : isI (numD (numQ r0)) = true := by
            have d2 := d
            simp only [List.map_cons, List.map_nil, y1] at d2
            exact d2
          rw [isI_num] at d
          have e : (match numQ r0 with | none => none | some i => some [some i, (none : Nm)]) = none := e
          cases y0 : numQ r0 with
          | none => rw [y0] at d; exact nomatch d
          | some i => rw [y0] at e; exact nomatch e
        | some i1 =>
          have nn : r1 ≠ "none" := fun q => by rw [q, numQ_none] at y1; exact nomatch y1
          have cd : (decide ((1 : DW) = 1) && decide (([r0, r1] : List Str).getD 1 "" = "none")) = false := by
            show (true && decide (r1 = "none")) = false
            rw [decide_eq_false nn]; rfl
          rw [cd] at e
          have cm : (decide ((1 : DW) = 1) && isNo ((([r0, r1] : List Str).map numQ).map numD |>.getD 1 (.int 0))) = false := by
            show (true && isNo (numD (numQ r1))) = false
            rw [y1]; rfl
          rw [cm] at d
          simp only at d e
          rw [all_numQ] at d
          rw [d] at e; exact nomatch e
      · rw [show (decide (c = 1) && decide (rs.getD 1 "" = "none")) = false by rw [decide_eq_false c1]; rfl] at e
        rw [show (decide (c = 1) && isNo (((rs.map numQ).map numD).getD 1 (.int 0))) = false by rw [decide_eq_false c1]; rfl] at d
        simp only at d e
        rw [all_numQ] at d
        rw [d] at e; exact nomatch e
    · rw [if_neg (by rw [List.length_map, List.length_map]; exact cl)] at d; exact nomatch d
end
end Lw

set_option Elab.async false
set_option linter.all false
set_option maxRecDepth 100000
set_option maxHeartbeats 4000000
namespace Lw
open Py Ev PySem
section
local macro_rules | `(tactic| walk_at "rf") => `(tactic| with_unfolding_all exact rfl)
local macro_rules | `(tactic| walk_at "nin") => `(tactic| first | exact List.not_mem_nil | (simp only [List.mem_cons, List.not_mem_nil, or_false, not_or]; omega))
local macro_rules | `(tactic| walk_at "lk") => `(tactic| first | assumption | (refine Ext.get (by assumption) ?_ ?_; (walk_at "lk"); (walk_at "nin")))
local macro_rules | `(tactic| walk_at "sq") => `(tactic| first | exact seq_tup | exact seq_scr | exact SeqOf.seq (by assumption) | exact seq_lst (by walk_at "lk"))
local macro_rules | `(tactic| walk_at "sz") => `(tactic| first | omega | (simp only [List.length_cons, List.length_nil, List.length_append, List.length_map, List.length_replicate, iD_len, sizeLine]; omega))
local macro_rules | `(tactic| walk_at "ls") => `(tactic| (simp only [List.set_cons_succ, List.set_cons_zero, List.map_cons, List.map_nil, List.replicate_succ, List.replicate_zero, List.cons_append, List.nil_append, wipeL]; rfl))
local macro_rules | `(tactic| walk_at "call") => `(tactic| fail)
local macro_rules | `(tactic| walk_at "run") => `(tactic| with_reducible first
  | (apply wp_eV; (· walk_at "rf"))
  | refine wp_eC ?_
  | refine wp_e2 ?_
  | refine wp_e1 ?_
  | refine wp_aCons ?_
  | refine wp_aNil ?_
  | refine wp_eA ?_
  | refine wf_seq ?_
  | refine wf_Asg ?_
  | (apply wf_gN; (· walk_at "ls"))
  | refine wf_E ?_
  | refine wf_Ret ?_
  | refine wf_If ?_
  | refine wf_nil ?_
  | refine wp_eCall ?_
  | (apply wp_opF0; (· with_unfolding_all exact ⟨rfl, rfl⟩))
  | refine wp_eMeth ?_
  | (apply insat; (· walk_at "lk"))
  | refine wp_add ?_
  | refine wp_sub ?_
  | refine wp_lt ?_
  | refine wp_le ?_
  | refine wp_gt ?_
  | refine wp_ge ?_
  | (apply br_kt; (· with_unfolding_all rfl))
  | (apply br_kf; (· with_unfolding_all rfl))
  | refine wp_eqW ?_
  | refine wp_neW ?_
  | refine wp_eqB ?_
  | refine wp_neB ?_
  | (apply wp_lastW; (· assumption))
  | (apply wp_headW; (· assumption))
  | refine wp_inW ?_
  | refine wp_ninW ?_
  | refine wp_eqRow0 ?_
  | refine wp_neRow0 ?_
  | refine wp_eDisp ?_
  | refine pairs_cons ?_
  | refine pairs_nil ?_
  | refine keyat_s ?_
  | refine wf_sDputK ?_
  | (apply dputk_s; (· walk_at "lk"); (· exact lt_line (by omega)))
  | refine wp_eGet1 ?_
  | refine wp_eGet2 ?_
  | refine wp_ePop ?_
  | (apply dctat; (· walk_at "lk"))
  | (apply wp_dg; (· walk_at "lk"); (· assumption))
  | (apply wp_bDict; (· walk_at "lk"))
  | refine wp_eTM ?_
  | refine tupat ?_
  | (apply wp_tupIx; (· assumption))
  | refine wp_eCallV ?_
  | refine fnat ?_
  | refine wp_eqI ?_
  | refine wp_neI ?_
  | refine wp_eqS ?_
  | refine wp_neS ?_
  | (apply wp_mod; (· omega))
  | (apply wp_div; (· omega))
  | (apply wp_mul; (· omega))
  | (apply wp_powN; (· (simp only [Int.reduceToNat]; rfl)); (· omega); (· omega))
  | refine wp_neg ?_
  | refine wp_isN ?_
  | refine wp_isNI ?_
  | refine wp_bMax ?_
  | refine wp_bMin ?_
  | refine wp_bAbs ?_
  | refine wp_bInt ?_
  | (apply wp_bDivmod; (· omega))
  | refine tr_bl ?_
  | refine isb ?_
  | (apply br_t; (· rfl))
  | (apply br_f; (· rfl))
  | refine br_nt ?_
  | (apply br_dt; (· omega))
  | (apply br_df; (· omega))
  | refine wp_eNot ?_
  | refine wp_eB ?_
  | refine wp_eOr ?_
  | refine wp_eAnd ?_
  | refine wp_eAndB ?_
  | refine wp_eOrB ?_
  | refine wp_eNotB ?_
  | refine wp_eIf ?_
  | refine wp_chain ?_
  | refine wp_eFld ?_
  | (apply fdat; (· walk_at "lk"); (· walk_at "rf"))
  | refine wp_eSIx ?_
  | refine wp_eUp ?_
  | refine wp_eTinF ?_
  | refine wp_eTix ?_
  | refine wp_eTup ?_
  | refine wp_eLst ?_
  | refine wp_listR ?_
  | (apply wp_addT; (· walk_at "sz"))
  | (apply need; (· walk_at "sz"))
  | refine intat ?_
  | refine strat ?_
  | refine nonat ?_
  | (apply wp_len; (· walk_at "sq"))
  | (apply wp_ix; (· walk_at "sq"); (· walk_at "rf"))
  | (apply wp_bTuple; (· walk_at "sq"))
  | (apply wp_bList; (· walk_at "sq"))
  | refine wp_eBM ?_
  | (apply lstat; (· walk_at "lk"))
  | (apply wp_append; (· walk_at "lk"); (· walk_at "sz"))
  | (apply wp_clear; (· walk_at "lk"))
  | refine wp_eSl ?_
  | refine wp_pSome ?_
  | refine pis ?_
  | refine wp_pNo ?_
  | refine slat_tup ?_
  | (apply slat_lst; (· walk_at "lk"))
  | (apply wf_gT; (· walk_at "rf"))
  | refine wf_gsCons ?_
  | refine wf_gsNil ?_
  | refine wf_gSub ?_
  | (apply subat; (· walk_at "lk"); (· walk_at "rf"))
  | refine wf_sFld ?_
  | (apply fldat; (· walk_at "lk"); (· walk_at "sz"); (· walk_at "rf"))
  | refine wf_sPar ?_
  | (apply parat; (· walk_at "ls"))
  | refine wf_sPar3 ?_
  | (apply parat3; (· walk_at "ls"))
  | refine wp_eRev ?_
  | (apply rvat; (· walk_at "lk"))
  | refine wp_isBB ?_
  | refine wf_sFor ?_
  | refine wp_iSeq ?_
  | refine wp_iZip ?_
  | refine wp_iStr ?_
  | refine wp_eSlS ?_
  | refine wf_gDput ?_
  | refine wp_eDictItems ?_
  | refine wp_eDictPlus ?_
  | refine wp_strS ?_
  | refine wp_intI ?_
  | refine wp_intB ?_
  | (apply zipat; (· walk_at "lk"); (· walk_at "lk"))
  | refine wp_aStar ?_
  | (apply sqat; (· walk_at "sq"))
  | refine wp_eJoinL ?_
  | refine wp_rB ?_
  | refine wp_iEnum ?_
  | refine wp_iRng1 ?_
  | refine wp_iRng2 ?_
  | refine srcat_tup ?_
  | refine srcat_scr ?_
  | (apply srcat_lst; (· walk_at "lk"))
  | refine wp_eIsi ?_
  | refine kd_int ?_
  | refine kd_bl ?_
  | refine kd_str ?_
  | refine kd_non ?_
  | refine kd_tup ?_
  | (apply kd_lst; (· walk_at "lk"))
  | (apply wp_eComp; (· walk_at "ls"))
  | (apply wp_lenO; (· walk_at "lk"))
  | (apply wp_reprO; (· walk_at "lk"))
  | refine wp_eFmt ?_
  | refine wp_eJoin ?_
  | refine jgo_cons ?_
  | refine jgo_nil ?_
  | walk_at "call")
local macro_rules | `(tactic| walk_at "go") => `(tactic| repeat (with_reducible first
  | (apply wp_eV; (· walk_at "rf"))
  | refine wp_eC ?_
  | refine wp_e2 ?_
  | refine wp_e1 ?_
  | refine wp_aCons ?_
  | refine wp_aNil ?_
  | refine wp_eA ?_
  | refine wf_seq ?_
  | refine wf_Asg ?_
  | (apply wf_gN; (· walk_at "ls"))
  | refine wf_E ?_
  | refine wf_Ret ?_
  | refine wf_If ?_
  | refine wf_nil ?_
  | refine wp_eCall ?_
  | (apply wp_opF0; (· with_unfolding_all exact ⟨rfl, rfl⟩))
  | refine wp_eMeth ?_
  | (apply insat; (· walk_at "lk"))
  | refine wp_add ?_
  | refine wp_sub ?_
  | refine wp_lt ?_
  | refine wp_le ?_
  | refine wp_gt ?_
  | refine wp_ge ?_
  | (apply br_kt; (· with_unfolding_all rfl))
  | (apply br_kf; (· with_unfolding_all rfl))
  | refine wp_eqW ?_
  | refine wp_neW ?_
  | refine wp_eqB ?_
  | refine wp_neB ?_
  | (apply wp_lastW; (· assumption))
  | (apply wp_headW; (· assumption))
  | refine wp_inW ?_
  | refine wp_ninW ?_
  | refine wp_eqRow0 ?_
  | refine wp_neRow0 ?_
  | refine wp_eDisp ?_
  | refine pairs_cons ?_
  | refine pairs_nil ?_
  | refine keyat_s ?_
  | refine wf_sDputK ?_
  | (apply dputk_s; (· walk_at "lk"); (· exact lt_line (by omega)))
  | refine wp_eGet1 ?_
  | refine wp_eGet2 ?_
  | refine wp_ePop ?_
  | (apply dctat; (· walk_at "lk"))
  | (apply wp_dg; (· walk_at "lk"); (· assumption))
  | (apply wp_bDict; (· walk_at "lk"))
  | refine wp_eTM ?_
  | refine tupat ?_
  | (apply wp_tupIx; (· assumption))
  | refine wp_eCallV ?_
  | refine fnat ?_
  | refine wp_eqI ?_
  | refine wp_neI ?_
  | refine wp_eqS ?_
  | refine wp_neS ?_
  | (apply wp_mod; (· omega))
  | (apply wp_div; (· omega))
  | (apply wp_mul; (· omega))
  | (apply wp_powN; (· (simp only [Int.reduceToNat]; rfl)); (· omega); (· omega))
  | refine wp_neg ?_
  | refine wp_isN ?_
  | refine wp_isNI ?_
  | refine wp_bMax ?_
  | refine wp_bMin ?_
  | refine wp_bAbs ?_
  | refine wp_bInt ?_
  | (apply wp_bDivmod; (· omega))
  | refine tr_bl ?_
  | refine isb ?_
  | (apply br_t; (· rfl))
  | (apply br_f; (· rfl))
  | refine br_nt ?_
  | (apply br_dt; (· omega))
  | (apply br_df; (· omega))
  | refine wp_eNot ?_
  | refine wp_eB ?_
  | refine wp_eOr ?_
  | refine wp_eAnd ?_
  | refine wp_eAndB ?_
  | refine wp_eOrB ?_
  | refine wp_eNotB ?_
  | refine wp_eIf ?_
  | refine wp_chain ?_
  | refine wp_eFld ?_
  | (apply fdat; (· walk_at "lk"); (· walk_at "rf"))
  | refine wp_eSIx ?_
  | refine wp_eUp ?_
  | refine wp_eTinF ?_
  | refine wp_eTix ?_
  | refine wp_eTup ?_
  | refine wp_eLst ?_
  | refine wp_listR ?_
  | (apply wp_addT; (· walk_at "sz"))
  | (apply need; (· walk_at "sz"))
  | refine intat ?_
  | refine strat ?_
  | refine nonat ?_
  | (apply wp_len; (· walk_at "sq"))
  | (apply wp_ix; (· walk_at "sq"); (· walk_at "rf"))
  | (apply wp_bTuple; (· walk_at "sq"))
  | (apply wp_bList; (· walk_at "sq"))
  | refine wp_eBM ?_
  | (apply lstat; (· walk_at "lk"))
  | (apply wp_append; (· walk_at "lk"); (· walk_at "sz"))
  | (apply wp_clear; (· walk_at "lk"))
  | refine wp_eSl ?_
  | refine wp_pSome ?_
  | refine pis ?_
  | refine wp_pNo ?_
  | refine slat_tup ?_
  | (apply slat_lst; (· walk_at "lk"))
  | (apply wf_gT; (· walk_at "rf"))
  | refine wf_gsCons ?_
  | refine wf_gsNil ?_
  | refine wf_gSub ?_
  | (apply subat; (· walk_at "lk"); (· walk_at "rf"))
  | refine wf_sFld ?_
  | (apply fldat; (· walk_at "lk"); (· walk_at "sz"); (· walk_at "rf"))
  | refine wf_sPar ?_
  | (apply parat; (· walk_at "ls"))
  | refine wf_sPar3 ?_
  | (apply parat3; (· walk_at "ls"))
  | refine wp_eRev ?_
  | (apply rvat; (· walk_at "lk"))
  | refine wp_isBB ?_
  | refine wf_sFor ?_
  | refine wp_iSeq ?_
  | refine wp_iZip ?_
  | refine wp_iStr ?_
  | refine wp_eSlS ?_
  | refine wf_gDput ?_
  | refine wp_eDictItems ?_
  | refine wp_eDictPlus ?_
  | refine wp_strS ?_
  | refine wp_intI ?_
  | refine wp_intB ?_
  | (apply zipat; (· walk_at "lk"); (· walk_at "lk"))
  | refine wp_aStar ?_
  | (apply sqat; (· walk_at "sq"))
  | refine wp_eJoinL ?_
  | refine wp_rB ?_
  | refine wp_iEnum ?_
  | refine wp_iRng1 ?_
  | refine wp_iRng2 ?_
  | refine srcat_tup ?_
  | refine srcat_scr ?_
  | (apply srcat_lst; (· walk_at "lk"))
  | refine wp_eIsi ?_
  | refine kd_int ?_
  | refine kd_bl ?_
  | refine kd_str ?_
  | refine kd_non ?_
  | refine kd_tup ?_
  | (apply kd_lst; (· walk_at "lk"))
  | (apply wp_eComp; (· walk_at "ls"))
  | (apply wp_lenO; (· walk_at "lk"))
  | (apply wp_reprO; (· walk_at "lk"))
  | refine wp_eFmt ?_
  | refine wp_eJoin ?_
  | refine jgo_cons ?_
  | refine jgo_nil ?_
  | refine wf_Raise1 ?_
  | refine wf_Raise0 ?_
  | refine wf_Try ?_
  | (apply wp_eXf; (· walk_at "rf"))
  | walk_at "call"))
/-- into a def -/
local macro_rules | `(tactic| walk_at "into") => `(tactic| (refine wp_runF (by walk_at "rf") (by walk_at "ls") ?_))
/-- on, through all branches -/
local macro_rules | `(tactic| walk_at "br") => `(tactic| repeat' (first | walk_at "run" | (with_reducible apply br_dt; (· assumption)) | (with_reducible apply br_df; (· assumption)) | (with_reducible apply br_t; (· assumption)) | (with_reducible apply br_f; (· assumption)) | (with_reducible refine br_d (fun _ => ?_) (fun _ => ?_)) | (with_reducible refine br_s (fun _ => ?_) (fun _ => ?_)) | (intro d ed)))
/-! ### lines that are read -/
def nmP : Nm → PyData
  | none => .none
  | some i => .int i
def actP (w : Str) (as : List Nm) : PyData := .tuple (.str w :: as.map nmP)
theorem deep_num {h : LH} {n : Nat} (a : Nm) : deepK h n (numD a) = some (nmP a) := by
  cases a <;> (cases n <;> rfl)
theorem deep_nums {h : LH} {n : Nat} : ∀ as : List Nm, mapO (deepK h n) (as.map numD) = some (as.map nmP)
  | [] => rfl
  | a :: as => mapO_cons (deep_num a) (deep_nums as)
theorem deep_act {h : LH} {n : Nat} {w : Str} {as : List Nm} : deepK h (n + 1) (actD w as) = some (actP w as) :=
  deepK_tup (mapO_cons (by cases n <;> rfl) (deep_nums as))
def Low (x : Str) : Prop := ∀ c ∈ x.cps.toList, c < 16 ^ 8
theorem brief_str {x : Str} {n : Nat} (l : x.length ≤ n) (k : Low x) : Brief 0 (10 * n + 2) (.str x) :=
  ⟨by rw [PyData.showable], by rw [PyData.depth]; exact Nat.le_refl _, by rw [PyData.shown]; have := StrLaws.reprText_len x k; omega⟩
theorem brief_nm {a : Nm} (f : Fit a) : Brief 0 700 (nmP a) := by
  cases a with
  | none => exact ⟨by decide +kernel, by decide +kernel, by decide +kernel⟩
  | some i =>
    refine ⟨?_, by show PyData.depth (.int i) ≤ 0; rw [PyData.depth]; exact Nat.le_refl _, ?_⟩
    · show PyData.showable (.int i) = true
      rw [PyData.showable, decide_eq_true_eq]; exact f.bits i rfl
    · show (PyData.shown (.int i)).length ≤ 700
      rw [PyData.shown]; exact f.len
theorem brief_tup {k m : Nat} {xs : List PyData} (l : ∀ x ∈ xs, Brief k m x) : Brief (k + 1) (3 + xs.length * (m + 2)) (.tuple xs) := by
  obtain ⟨a1, a2, a3⟩ := brief_all l
  refine ⟨by rw [PyData.showable]; exact a1, by rw [PyData.depth]; omega, ?_⟩
  have h1 := join_len (PyData.shownAll xs)
  have h2 := sum_le a3
  rw [all_len] at h2
  rw [PyData.shown]
  unfold tupleText
  rw [Str.length_append, Str.length_append]
  have e1 : ("(" : Str).length = 1 := by decide
  have e2 : ((if (PyData.shownAll xs).length == 1 then ",)" else ")" : String) : Str).length ≤ 2 := by split <;> decide
  omega
theorem split_len (L : Str) : ∀ w ∈ Txt.split L " ", w.length ≤ L.length := by
  intro w m
  have e := congrArg (fun x : Str => x.cps.toList.length) (join_split L)
  have k : ∀ (ls : List (List Nat)) (p : List Nat), p ∈ ls → p.length ≤ (TL.joinL [32] ls).length := by
    intro ls
    induction ls with
    | nil => intro p m; exact nomatch m
    | cons a r ih =>
      intro p m
      cases r with
      | nil => rw [List.mem_singleton.1 m]; exact Nat.le_refl _
      | cons b r =>
        show p.length ≤ (a ++ ([32] ++ TL.joinL [32] (b :: r))).length
        rw [List.length_append, List.length_append]
        rcases List.mem_cons.1 m with rfl | m
        · omega
        · have := ih p m; omega
  have e2 : (Txt.join " " (Txt.split L " ")).cps.toList = TL.joinL [32] ((Txt.split L " ").map TL.tl) := by
    rw [TL.join_eq]
    have := TL.tl_join " " (Txt.split L " ")
    rw [sp_tl] at this
    exact this
  have l2 : L.cps.toList.length = (TL.joinL [32] ((Txt.split L " ").map TL.tl)).length := by
    rw [← e2, join_split]
  have := k _ (TL.tl w) (List.mem_map_of_mem m)
  have lw : (TL.tl w).length = w.length := by show w.cps.toList.length = _; simp [Str.length]
  have lL : L.cps.toList.length = L.length := by simp [Str.length]
  omega
theorem split_head (L : Str) : ∃ w rs, Txt.split L " " = w :: rs := by
  cases e : Txt.split L " " with
  | nil => exact absurd e (split_ne L)
  | cons w rs => exact ⟨w, rs, rfl⟩
theorem split_count (L : Str) : (Txt.split L " ").length ≤ L.length + 1 := by
  have k : ∀ (ls : List (List Nat)), ls.length ≤ (TL.joinL [32] ls).length + 1 := by
    intro ls
    induction ls with
    | nil => simp
    | cons a r ih =>
      cases r with
      | nil => simp
      | cons b r =>
        show (a :: b :: r).length ≤ (a ++ ([32] ++ TL.joinL [32] (b :: r))).length + 1
        rw [List.length_append, List.length_append, List.length_cons]
        simp only [List.length_cons, List.length_nil] at ih ⊢
        omega
  have e2 : (Txt.join " " (Txt.split L " ")).cps.toList = TL.joinL [32] ((Txt.split L " ").map TL.tl) := by
    rw [TL.join_eq]
    have := TL.tl_join " " (Txt.split L " ")
    rw [sp_tl] at this
    exact this
  rw [join_split] at e2
  have := k ((Txt.split L " ").map TL.tl)
  rw [List.length_map, ← e2] at this
  have lL : L.cps.toList.length = L.length := by simp [Str.length]
  omega
section
variable {E : EP} {Q : D → LH → Prop} {h : LH}
theorem read_w {L w : Str} {rs : List Str} (l : L.length ≤ 500) (es : Txt.split L " " = w :: rs) (q : ∀ as, lawQ (w :: rs) = some as → ∀ h1, Ext [] h h1 → Q (actD w as) h1) (e : lawQ (w :: rs) = none → ∀ h1, Ext [] h h1 → E 1 [(1, .int 1)] h1) : WP (f_read_deed [.str L] h) Q E := by
  have sl := split_len L
  have sc := split_count L
  have sf := split_free L
  have sj := join_split L
  rw [es] at sl sc sf sj
  rw [List.length_cons] at sc
  have rl : rs.length ≤ 500 := by omega
  have wl := sl w (by simp)
  have F : ∀ a ∈ rs.map numQ, Fit a := by
    intro a m
    obtain ⟨r, mr, rfl⟩ := List.mem_map.1 m
    have := sl r (by simp [mr])
    exact fit_num (by omega)
  unfold f_read_deed b_read_deed
  walk_at "into"
  walk_at "go"
  refine wp_oSpl ⟨by decide, by unfold sizeLine; omega⟩ ?_
  intro n1 h1 l1 x1 a1
  rw [es] at a1
  have a1' : h1[n1]? = some (.lst (.str w :: rs.map D.str)) := a1
  walk_at "go"
  rw [cut_tail]
  intro n2 h2 l2 x2 a2
  have a12 := x2.get0 a1'
  walk_at "go"
  refine wp_mapF D.str rs (fun r => numD (numQ r)) (gives_lst a2) (by omega) ?_ ?_
  · intro r mr h3 x3
    refine ⟨_, rfl, ?_⟩
    walk_at "go"
    refine br_d (fun c => ?_) (fun c => ?_)
    · walk_at "go"
      subst c
      exact ⟨by rw [numQ_none]; rfl, Ext.rfl'⟩
    · walk_at "go"
      have := sl r (by simp [mr])
      refine number_w (by omega) ?_
      intro h4 x4
      exact ⟨rfl, x4⟩
  intro n3 h3 l3 x3 a3
  have a13 := x3.get0 a12
  walk_at "go"
  refine wp_ix (i := ((0 : Nat) : Int)) (seq_lst a13) (L2.atI_nat (v := D.str w) rfl) ?_
  walk_at "go"
  have ea : D.tup ([D.str w] ++ (rs.map (fun r => numD (numQ r)) ++ [])) = actD w (rs.map numQ) := by
    unfold actD; rw [List.append_nil, List.map_map]; rfl
  have ea2 : D.tup (.str w :: (rs.map (fun r => numD (numQ r)) ++ [])) = D.tup (.str w :: (rs.map numQ).map numD) := by
    rw [List.append_nil, List.map_map]; rfl
  rw [ea2]
  have x13 := (x1.trans x2).trans x3
  refine deed_w (fun x m => by obtain ⟨a, _, rfl⟩ := List.mem_map.1 m; exact kind_num h3 a) (by rw [List.length_map, List.length_map]; omega) ?_
  intro h4 x4
  have x14 := x13.trans x4
  walk_at "go"
  cases eq : lawQ (w :: rs) with
  | some as =>
    obtain ⟨d1, d2, d3⟩ := read_some eq
    subst d2
    refine br_t d1 ?_
    walk_at "go"
    refine line_w (w := w) (as := rs.map numQ) (by omega) (by rw [List.length_map]; omega) F ?_ ?_
    · intro _ h5 x5
      walk_at "go"
      refine br_dt (by rw [d3, sj]) ?_
      walk_at "go"
      exact q _ eq h5 (x14.trans x5)
    · intro z
      rw [d1] at z; exact nomatch z
  | none =>
    have rn := read_none (sf w (by simp)) (fun r m => sf r (by simp [m])) eq
    refine br_s (fun z => ?_) (fun z => ?_)
    · walk_at "go"
      refine line_w (w := w) (as := rs.map numQ) (by omega) (by rw [List.length_map]; omega) F ?_ ?_
      · intro _ h5 x5
        walk_at "go"
        have ne := rn z
        rw [sj] at ne
        refine br_df ne ?_
        walk_at "go"
        exact e eq h5 (x14.trans x5)
      · intro z2
        rw [z] at z2; exact nomatch z2
    · walk_at "go"
      refine br_f z ?_
      walk_at "go"
      exact e eq h4 x14
theorem wp_wr {x : Str} {n : Nat} {neg : Bool} (e : h[n]? = some (.dct lotsK)) (q : Q (.bl (if neg then !(kindOf x).isSome else (kindOf x).isSome)) h) : WP (oDin neg (.str x) (.ref n) h) Q E := by
  simp only [oDin, dctR, e, keyD]
  rw [lotsK_at]
  cases z : kindOf x with
  | none => rw [z] at q; exact q
  | some c => rw [z] at q; exact q
theorem law_read_w {L w : Str} {rs : List Str} (l : L.length ≤ 500) (es : Txt.split L " " = w :: rs) (q : ∀ h1, Ext [] h h1 → Q (match lawQ (w :: rs) with | none => .non | some as => actD w as) h1) : WP (f__law_read [.str L] h) Q E := by
  have sl := split_len L
  have sc := split_count L
  rw [es] at sl sc
  rw [List.length_cons] at sc
  unfold f__law_read b__law_read
  walk_at "into"
  walk_at "go"
  refine wp_oSpl ⟨by decide, by unfold sizeLine; omega⟩ ?_
  intro n1 h1 l1 x1 a1
  rw [es] at a1
  have a1 : h1[n1]? = some (.lst (.str w :: rs.map D.str)) := a1
  walk_at "go"
  refine wp_ix (i := ((0 : Nat) : Int)) (seq_lst a1) (L2.atI_nat (v := D.str w) rfl) ?_
  walk_at "go"
  refine lots_w ?_
  intro k2 h2 l2 x2 k2e
  have a2 := x2.get0 a1
  walk_at "go"
  refine wp_wr k2e ?_
  walk_at "go"
  cases ek : kindOf w with
  | none =>
    refine br_t rfl ?_
    walk_at "go"
    refine qb' (q h2 (x1.trans x2)) ?_
    rw [lawQ_cons, ek]
  | some c =>
    have ew := kind_some ek
    subst ew
    refine br_f rfl ?_
    walk_at "go"
    refine lots_w ?_
    intro k3 h3 l3 x3 k3e
    have a3 := x3.get0 a2
    walk_at "go"
    refine wp_ix (i := ((0 : Nat) : Int)) (seq_lst a3) (L2.atI_nat (v := D.str (dw c)) rfl) ?_
    walk_at "go"
    refine wp_dg k3e (d := .int ((lots c : Nat) : Int)) (by rw [lotsK_at, ek]; rfl) ?_
    walk_at "go"
    have x03 := (x1.trans x2).trans x3
    by_cases cl : rs.length = lots c
    · refine br_dt (by rw [List.length_cons, List.length_map]; omega) ?_
      walk_at "go"
      refine wp_ix (i := ((0 : Nat) : Int)) (seq_lst a3) (L2.atI_nat (v := D.str (dw c)) rfl) ?_
      walk_at "go"
      intro n4 h4 l4 x4 a4
      have a34 := x4.get0 a3
      walk_at "go"
      rw [cut_tail]
      intro n5 h5 l5 x5 a5
      have a35 := x5.get0 a34
      have a45 := x5.get0 a4
      walk_at "go"
      refine wp_mapF D.str rs (fun r => numD (numQ r)) (gives_lst a5) (by omega) ?_ ?_
      · intro r mr h6 x6
        refine ⟨_, rfl, ?_⟩
        walk_at "go"
        have := sl r (by simp [mr])
        refine integer_w (by omega) ?_
        intro h7 x7
        exact ⟨rfl, x7⟩
      intro n6 h6 l6 x6 a6
      refine wp_addL (x6.get0 a45) a6 (by simp only [List.length_cons, List.length_nil, List.length_map]; unfold sizeLine; omega) ?_
      intro n7 h7 l7 x7 a7
      have a37 := x7.get0 (x6.get0 a35)
      have x07 := (((x03.trans x4).trans x5).trans x6).trans x7
      have a7' : h7[n7]? = some (.lst (.str (dw c) :: (rs.map numQ).map numD)) := by rw [a7, List.map_map]; rfl
      clear a4 a45 a5 a6 a7 x1 x2 x3 x4 x5 x6 x7 x03 a35 a34
      walk_at "go"
      refine wp_ix (i := ((0 : Nat) : Int)) (seq_lst a37) (L2.atI_nat (v := D.str (dw c)) rfl) ?_
      walk_at "go"
      have fin : (decide (c = 1) && decide (rs.getD 1 "" = "none")) = false → ∀ r, r = [some (.str L), some (.ref n1), some (.ref n7), none] → WF ((sSeq (sRet (eIf (e2 (oIn false) (eC .non) (eV 2)) (eC .non) (eA bTuple (aCons (eV 2) aNil)))) sNil) r h7) (fun _ h' => Q .non h') Q noN noN E := by
        rintro z r rfl
        have ex : (((.str (dw c) :: (rs.map numQ).map numD) : List D).any fun z => eqF z .non) = !(rs.all fun r => (numQ r).isSome) := by
          rw [List.any_cons, show eqF (.str (dw c)) .non = false from rfl, Bool.false_or, List.map_map, List.any_map]
          rw [List.any_eq_not_all_not]
          congr 1
          refine List.all_congr rfl fun r => ?_
          show (!eqF (numD (numQ r)) .non) = _
          cases numQ r <;> rfl
        walk_at "go"
        refine wp_in (seq_lst a7') (by
          rw [List.all_cons, show flatD (.str (dw c)) = true from rfl]
          simp only [Bool.true_and]
          rw [show flatD D.non = true from rfl, Bool.true_and, List.all_eq_true]
          intro x m
          obtain ⟨a, _, rfl⟩ := List.mem_map.1 m
          cases a <;> rfl) ?_
        simp only [Bool.false_eq_true, if_false]
        rw [ex]
        walk_at "go"
        refine br_s (fun y => ?_) (fun y => ?_)
        · walk_at "go"
          refine qb' (q h7 x07) ?_
          rw [lawQ_cons, ek]
          simp only
          rw [if_pos cl, z]
          simp only
          rw [y]; rfl
        · walk_at "go"
          refine qb' (q h7 x07) ?_
          rw [lawQ_cons, ek]
          simp only
          rw [if_pos cl, z]
          simp only
          rw [y]
      by_cases c1 : c = 1
      · subst c1
        have l2 : rs.length = 2 := cl
        obtain ⟨r0, r1, rfl⟩ : ∃ r0 r1, rs = [r0, r1] := by
          match rs, l2 with
          | [a, b], _ => exact ⟨a, b, rfl⟩
        refine br_dt rfl ?_
        walk_at "go"
        refine br_d (fun c2 => ?_) (fun c2 => ?_)
        · walk_at "go"
          refine wp_isNo ?_
          rw [isNo_num]
          walk_at "go"
          have em : lawQ (dw 1 :: [r0, r1]) = (match numQ r0 with | none => none | some i => some [some i, none]) := by
            rw [lawQ_cons, ek]
            simp only
            rw [if_pos cl]
            show (match (true && decide (r1 = "none")) with | true => _ | false => _) = _
            rw [decide_eq_true c2]; rfl
          cases z : numQ r0 with
          | none =>
            refine br_t rfl ?_
            walk_at "go"
            refine qb' (q h7 x07) ?_
            rw [em, z]
          | some i =>
            refine br_f rfl ?_
            walk_at "go"
            refine qb' (q h7 x07) ?_
            rw [em, z]; rfl
        · walk_at "run"
          exact fin (by show (true && decide (r1 = "none")) = false; rw [decide_eq_false c2]; rfl) _ rfl
      · refine br_df (fun z => c1 (dw_lim.1 z)) ?_
        refine br_df (fun z => c1 (dw_lim.1 z)) ?_
        walk_at "run"
        exact fin (by rw [decide_eq_false c1]; rfl) _ rfl
    · refine br_df (fun z => cl (by rw [List.length_cons, List.length_map] at z; omega)) ?_
      walk_at "go"
      refine qb' (q h3 x03) ?_
      rw [lawQ_cons, ek]
      simp only
      rw [if_neg cl]
end
end
end Lw

set_option Elab.async false
set_option linter.all false
set_option maxRecDepth 100000
set_option maxHeartbeats 4000000
namespace Lw
open Py Ev PySem
section
local macro_rules | `(tactic| walk_at "rf") => `(tactic| with_unfolding_all exact rfl)
local macro_rules | `(tactic| walk_at "nin") => `(tactic| first | exact List.not_mem_nil | (simp only [List.mem_cons, List.not_mem_nil, or_false, not_or]; omega))
local macro_rules | `(tactic| walk_at "lk") => `(tactic| first | assumption | (refine Ext.get (by assumption) ?_ ?_; (walk_at "lk"); (walk_at "nin")))
local macro_rules | `(tactic| walk_at "sq") => `(tactic| first | exact seq_tup | exact seq_scr | exact SeqOf.seq (by assumption) | exact seq_lst (by walk_at "lk"))
local macro_rules | `(tactic| walk_at "sz") => `(tactic| first | omega | (simp only [List.length_cons, List.length_nil, List.length_append, List.length_map, List.length_replicate, iD_len, sizeLine]; omega))
local macro_rules | `(tactic| walk_at "ls") => `(tactic| (simp only [List.set_cons_succ, List.set_cons_zero, List.map_cons, List.map_nil, List.replicate_succ, List.replicate_zero, List.cons_append, List.nil_append, wipeL]; rfl))
local macro_rules | `(tactic| walk_at "call") => `(tactic| fail)
local macro_rules | `(tactic| walk_at "run") => `(tactic| with_reducible first
  | (apply wp_eV; (· walk_at "rf"))
  | refine wp_eC ?_
  | refine wp_e2 ?_
  | refine wp_e1 ?_
  | refine wp_aCons ?_
  | refine wp_aNil ?_
  | refine wp_eA ?_
  | refine wf_seq ?_
  | refine wf_Asg ?_
  | (apply wf_gN; (· walk_at "ls"))
  | refine wf_E ?_
  | refine wf_Ret ?_
  | refine wf_If ?_
  | refine wf_nil ?_
  | refine wp_eCall ?_
  | (apply wp_opF0; (· with_unfolding_all exact ⟨rfl, rfl⟩))
  | refine wp_eMeth ?_
  | (apply insat; (· walk_at "lk"))
  | refine wp_add ?_
  | refine wp_sub ?_
  | refine wp_lt ?_
  | refine wp_le ?_
  | refine wp_gt ?_
  | refine wp_ge ?_
  | (apply br_kt; (· with_unfolding_all rfl))
  | (apply br_kf; (· with_unfolding_all rfl))
  | refine wp_eqW ?_
  | refine wp_neW ?_
  | refine wp_eqB ?_
  | refine wp_neB ?_
  | (apply wp_lastW; (· assumption))
  | (apply wp_headW; (· assumption))
  | refine wp_inW ?_
  | refine wp_ninW ?_
  | refine wp_eqRow0 ?_
  | refine wp_neRow0 ?_
  | refine wp_eDisp ?_
  | refine pairs_cons ?_
  | refine pairs_nil ?_
  | refine keyat_s ?_
  | refine wf_sDputK ?_
  | (apply dputk_s; (· walk_at "lk"); (· exact lt_line (by omega)))
  | refine wp_eGet1 ?_
  | refine wp_eGet2 ?_
  | refine wp_ePop ?_
  | (apply dctat; (· walk_at "lk"))
  | (apply wp_dg; (· walk_at "lk"); (· assumption))
  | (apply wp_bDict; (· walk_at "lk"))
  | refine wp_eTM ?_
  | refine tupat ?_
  | (apply wp_tupIx; (· assumption))
  | refine wp_eCallV ?_
  | refine fnat ?_
  | refine wp_eqI ?_
  | refine wp_neI ?_
  | refine wp_eqS ?_
  | refine wp_neS ?_
  | (apply wp_mod; (· omega))
  | (apply wp_div; (· omega))
  | (apply wp_mul; (· omega))
  | (apply wp_powN; (· (simp only [Int.reduceToNat]; rfl)); (· omega); (· omega))
  | refine wp_neg ?_
  | refine wp_isN ?_
  | refine wp_isNI ?_
  | refine wp_bMax ?_
  | refine wp_bMin ?_
  | refine wp_bAbs ?_
  | refine wp_bInt ?_
  | (apply wp_bDivmod; (· omega))
  | refine tr_bl ?_
  | refine isb ?_
  | (apply br_t; (· rfl))
  | (apply br_f; (· rfl))
  | refine br_nt ?_
  | (apply br_dt; (· omega))
  | (apply br_df; (· omega))
  | refine wp_eNot ?_
  | refine wp_eB ?_
  | refine wp_eOr ?_
  | refine wp_eAnd ?_
  | refine wp_eAndB ?_
  | refine wp_eOrB ?_
  | refine wp_eNotB ?_
  | refine wp_eIf ?_
  | refine wp_chain ?_
  | refine wp_eFld ?_
  | (apply fdat; (· walk_at "lk"); (· walk_at "rf"))
  | refine wp_eSIx ?_
  | refine wp_eUp ?_
  | refine wp_eTinF ?_
  | refine wp_eTix ?_
  | refine wp_eTup ?_
  | refine wp_eLst ?_
  | refine wp_listR ?_
  | (apply wp_addT; (· walk_at "sz"))
  | (apply need; (· walk_at "sz"))
  | refine intat ?_
  | refine strat ?_
  | refine nonat ?_
  | (apply wp_len; (· walk_at "sq"))
  | (apply wp_ix; (· walk_at "sq"); (· walk_at "rf"))
  | (apply wp_bTuple; (· walk_at "sq"))
  | (apply wp_bList; (· walk_at "sq"))
  | refine wp_eBM ?_
  | (apply lstat; (· walk_at "lk"))
  | (apply wp_append; (· walk_at "lk"); (· walk_at "sz"))
  | (apply wp_clear; (· walk_at "lk"))
  | refine wp_eSl ?_
  | refine wp_pSome ?_
  | refine pis ?_
  | refine wp_pNo ?_
  | refine slat_tup ?_
  | (apply slat_lst; (· walk_at "lk"))
  | (apply wf_gT; (· walk_at "rf"))
  | refine wf_gsCons ?_
  | refine wf_gsNil ?_
  | refine wf_gSub ?_
  | (apply subat; (· walk_at "lk"); (· walk_at "rf"))
  | refine wf_sFld ?_
  | (apply fldat; (· walk_at "lk"); (· walk_at "sz"); (· walk_at "rf"))
  | refine wf_sPar ?_
  | (apply parat; (· walk_at "ls"))
  | refine wf_sPar3 ?_
  | (apply parat3; (· walk_at "ls"))
  | refine wp_eRev ?_
  | (apply rvat; (· walk_at "lk"))
  | refine wp_isBB ?_
  | refine wf_sFor ?_
  | refine wp_iSeq ?_
  | refine wp_iZip ?_
  | refine wp_iStr ?_
  | refine wp_eSlS ?_
  | refine wf_gDput ?_
  | refine wp_eDictItems ?_
  | refine wp_eDictPlus ?_
  | refine wp_strS ?_
  | refine wp_intI ?_
  | refine wp_intB ?_
  | (apply zipat; (· walk_at "lk"); (· walk_at "lk"))
  | refine wp_aStar ?_
  | (apply sqat; (· walk_at "sq"))
  | refine wp_eJoinL ?_
  | refine wp_rB ?_
  | refine wp_iEnum ?_
  | refine wp_iRng1 ?_
  | refine wp_iRng2 ?_
  | refine srcat_tup ?_
  | refine srcat_scr ?_
  | (apply srcat_lst; (· walk_at "lk"))
  | refine wp_eIsi ?_
  | refine kd_int ?_
  | refine kd_bl ?_
  | refine kd_str ?_
  | refine kd_non ?_
  | refine kd_tup ?_
  | (apply kd_lst; (· walk_at "lk"))
  | (apply wp_eComp; (· walk_at "ls"))
  | (apply wp_lenO; (· walk_at "lk"))
  | (apply wp_reprO; (· walk_at "lk"))
  | refine wp_eFmt ?_
  | refine wp_eJoin ?_
  | refine jgo_cons ?_
  | refine jgo_nil ?_
  | walk_at "call")
local macro_rules | `(tactic| walk_at "go") => `(tactic| repeat (with_reducible first
  | (apply wp_eV; (· walk_at "rf"))
  | refine wp_eC ?_
  | refine wp_e2 ?_
  | refine wp_e1 ?_
  | refine wp_aCons ?_
  | refine wp_aNil ?_
  | refine wp_eA ?_
  | refine wf_seq ?_
  | refine wf_Asg ?_
  | (apply wf_gN; (· walk_at "ls"))
  | refine wf_E ?_
  | refine wf_Ret ?_
  | refine wf_If ?_
  | refine wf_nil ?_
  | refine wp_eCall ?_
  | (apply wp_opF0; (· with_unfolding_all exact ⟨rfl, rfl⟩))
  | refine wp_eMeth ?_
  | (apply insat; (· walk_at "lk"))
  | refine wp_add ?_
  | refine wp_sub ?_
  | refine wp_lt ?_
  | refine wp_le ?_
  | refine wp_gt ?_
  | refine wp_ge ?_
  | (apply br_kt; (· with_unfolding_all rfl))
  | (apply br_kf; (· with_unfolding_all rfl))
  | refine wp_eqW ?_
  | refine wp_neW ?_
  | refine wp_eqB ?_
  | refine wp_neB ?_
  | (apply wp_lastW; (· assumption))
  | (apply wp_headW; (· assumption))
  | refine wp_inW ?_
  | refine wp_ninW ?_
  | refine wp_eqRow0 ?_
  | refine wp_neRow0 ?_
  | refine wp_eDisp ?_
  | refine pairs_cons ?_
  | refine pairs_nil ?_
  | refine keyat_s ?_
  | refine wf_sDputK ?_
  | (apply dputk_s; (· walk_at "lk"); (· exact lt_line (by omega)))
  | refine wp_eGet1 ?_
  | refine wp_eGet2 ?_
  | refine wp_ePop ?_
  | (apply dctat; (· walk_at "lk"))
  | (apply wp_dg; (· walk_at "lk"); (· assumption))
  | (apply wp_bDict; (· walk_at "lk"))
  | refine wp_eTM ?_
  | refine tupat ?_
  | (apply wp_tupIx; (· assumption))
  | refine wp_eCallV ?_
  | refine fnat ?_
  | refine wp_eqI ?_
  | refine wp_neI ?_
  | refine wp_eqS ?_
  | refine wp_neS ?_
  | (apply wp_mod; (· omega))
  | (apply wp_div; (· omega))
  | (apply wp_mul; (· omega))
  | (apply wp_powN; (· (simp only [Int.reduceToNat]; rfl)); (· omega); (· omega))
  | refine wp_neg ?_
  | refine wp_isN ?_
  | refine wp_isNI ?_
  | refine wp_bMax ?_
  | refine wp_bMin ?_
  | refine wp_bAbs ?_
  | refine wp_bInt ?_
  | (apply wp_bDivmod; (· omega))
  | refine tr_bl ?_
  | refine isb ?_
  | (apply br_t; (· rfl))
  | (apply br_f; (· rfl))
  | refine br_nt ?_
  | (apply br_dt; (· omega))
  | (apply br_df; (· omega))
  | refine wp_eNot ?_
  | refine wp_eB ?_
  | refine wp_eOr ?_
  | refine wp_eAnd ?_
  | refine wp_eAndB ?_
  | refine wp_eOrB ?_
  | refine wp_eNotB ?_
  | refine wp_eIf ?_
  | refine wp_chain ?_
  | refine wp_eFld ?_
  | (apply fdat; (· walk_at "lk"); (· walk_at "rf"))
  | refine wp_eSIx ?_
  | refine wp_eUp ?_
  | refine wp_eTinF ?_
  | refine wp_eTix ?_
  | refine wp_eTup ?_
  | refine wp_eLst ?_
  | refine wp_listR ?_
  | (apply wp_addT; (· walk_at "sz"))
  | (apply need; (· walk_at "sz"))
  | refine intat ?_
  | refine strat ?_
  | refine nonat ?_
  | (apply wp_len; (· walk_at "sq"))
  | (apply wp_ix; (· walk_at "sq"); (· walk_at "rf"))
  | (apply wp_bTuple; (· walk_at "sq"))
  | (apply wp_bList; (· walk_at "sq"))
  | refine wp_eBM ?_
  | (apply lstat; (· walk_at "lk"))
  | (apply wp_append; (· walk_at "lk"); (· walk_at "sz"))
  | (apply wp_clear; (· walk_at "lk"))
  | refine wp_eSl ?_
  | refine wp_pSome ?_
  | refine pis ?_
  | refine wp_pNo ?_
  | refine slat_tup ?_
  | (apply slat_lst; (· walk_at "lk"))
  | (apply wf_gT; (· walk_at "rf"))
  | refine wf_gsCons ?_
  | refine wf_gsNil ?_
  | refine wf_gSub ?_
  | (apply subat; (· walk_at "lk"); (· walk_at "rf"))
  | refine wf_sFld ?_
  | (apply fldat; (· walk_at "lk"); (· walk_at "sz"); (· walk_at "rf"))
  | refine wf_sPar ?_
  | (apply parat; (· walk_at "ls"))
  | refine wf_sPar3 ?_
  | (apply parat3; (· walk_at "ls"))
  | refine wp_eRev ?_
  | (apply rvat; (· walk_at "lk"))
  | refine wp_isBB ?_
  | refine wf_sFor ?_
  | refine wp_iSeq ?_
  | refine wp_iZip ?_
  | refine wp_iStr ?_
  | refine wp_eSlS ?_
  | refine wf_gDput ?_
  | refine wp_eDictItems ?_
  | refine wp_eDictPlus ?_
  | refine wp_strS ?_
  | refine wp_intI ?_
  | refine wp_intB ?_
  | (apply zipat; (· walk_at "lk"); (· walk_at "lk"))
  | refine wp_aStar ?_
  | (apply sqat; (· walk_at "sq"))
  | refine wp_eJoinL ?_
  | refine wp_rB ?_
  | refine wp_iEnum ?_
  | refine wp_iRng1 ?_
  | refine wp_iRng2 ?_
  | refine srcat_tup ?_
  | refine srcat_scr ?_
  | (apply srcat_lst; (· walk_at "lk"))
  | refine wp_eIsi ?_
  | refine kd_int ?_
  | refine kd_bl ?_
  | refine kd_str ?_
  | refine kd_non ?_
  | refine kd_tup ?_
  | (apply kd_lst; (· walk_at "lk"))
  | (apply wp_eComp; (· walk_at "ls"))
  | (apply wp_lenO; (· walk_at "lk"))
  | (apply wp_reprO; (· walk_at "lk"))
  | refine wp_eFmt ?_
  | refine wp_eJoin ?_
  | refine jgo_cons ?_
  | refine jgo_nil ?_
  | refine wf_Raise1 ?_
  | refine wf_Raise0 ?_
  | refine wf_Try ?_
  | (apply wp_eXf; (· walk_at "rf"))
  | walk_at "call"))
/-- into a def -/
local macro_rules | `(tactic| walk_at "into") => `(tactic| (refine wp_runF (by walk_at "rf") (by walk_at "ls") ?_))
/-- on, through all branches -/
local macro_rules | `(tactic| walk_at "br") => `(tactic| repeat' (first | walk_at "run" | (with_reducible apply br_dt; (· assumption)) | (with_reducible apply br_df; (· assumption)) | (with_reducible apply br_t; (· assumption)) | (with_reducible apply br_f; (· assumption)) | (with_reducible refine br_d (fun _ => ?_) (fun _ => ?_)) | (with_reducible refine br_s (fun _ => ?_) (fun _ => ?_)) | (intro d ed)))
/-! ### texts of data: their signs -/
def Sok (x : Str) : Prop := ∀ c ∈ x.cps.toList, c < 1114112
theorem Sok.low {x : Str} (s : Sok x) : Low x := fun c m => Nat.lt_of_lt_of_le (s c m) (by decide)
theorem Sok.ok {x : Str} (s : Sok x) : PyData.strOk x = true := by
  unfold PyData.strOk
  rw [Array.all_eq_true']
  intro c m
  have := s c (by simpa using m)
  simpa using this
theorem sok_app {x y : Str} (a : Sok x) (b : Sok y) : Sok (x ++ y) := by
  intro c m
  rw [Str.cps_append, Array.toList_append] at m
  rcases List.mem_append.1 m with m | m
  · exact a c m
  · exact b c m
theorem sok_dec {x : Str} (h : x.cps.toList.all (fun c => decide (c < 1114112)) = true) : Sok x := fun c m => by
  have := List.all_eq_true.1 h c m
  simpa using this
theorem sok_join {y : Str} (hy : Sok y) : ∀ {ws : List Str}, (∀ w ∈ ws, Sok w) → Sok (Str.join y ws)
  | [], _ => sok_dec (x := Str.empty) (by decide)
  | [w], h => h w (by simp)
  | w :: v :: r, h => by
    have ih := sok_join hy (ws := v :: r) fun u m => h u (List.mem_cons_of_mem _ m)
    exact sok_app (sok_app (h w (by simp)) hy) ih
theorem sok_from : ∀ (ts : List Str) (k : Nat) (acc : Str), Sok acc → (∀ t ∈ ts, Sok t) → Sok (textFrom k acc ts)
  | [], k, acc, a, _ => by rw [textFrom]; exact a
  | t :: ts, k, acc, a, h => by
    rw [textFrom]
    refine sok_from ts (k + 1) _ (sok_app (sok_app a ?_) (h t (by simp))) fun u m => h u (by simp [m])
    split
    · exact sok_dec (by decide)
    · exact sok_dec (by decide)
theorem char_lt (c : Char) : c.toNat < 1114112 := by
  have := c.valid
  unfold UInt32.isValidChar Nat.isValidChar at this
  show c.val.toNat < 1114112
  omega
theorem hex_ok {w n : Nat} : ∀ c ∈ List.replicate w 48 ++ (Nat.toDigits 16 n).map Char.toNat, c < 1114112 := by
  intro c m
  rcases List.mem_append.1 m with m | m
  · rw [List.eq_of_mem_replicate m]; decide
  · obtain ⟨d, _, rfl⟩ := List.mem_map.1 m
    exact char_lt d
theorem char_ok {q c : Nat} (hq : q < 1114112) (hc : c < 1114112) : ∀ d ∈ Builtin.Str.reprChar q c, d < 1114112 := by
  intro d m
  unfold Builtin.Str.reprChar at m
  dsimp only at m
  have two : ∀ {a b : Nat}, a < 1114112 → b < 1114112 → d ∈ [a, b] → d < 1114112 := by
    intro a b ha hb m
    simp only [List.mem_cons, List.not_mem_nil, or_false] at m
    rcases m with rfl | rfl
    · exact ha
    · exact hb
  have hx : ∀ {a b w : Nat}, a < 1114112 → b < 1114112 → d ∈ [a, b] ++ (List.replicate w 48 ++ (Nat.toDigits 16 c).map Char.toNat) → d < 1114112 := by
    intro a b w ha hb m
    rcases List.mem_append.1 m with m | m
    · exact two ha hb m
    · exact hex_ok d m
  split at m
  · exact two (by decide) hc m
  split at m
  · exact two (by decide) (by decide) m
  split at m
  · exact two (by decide) (by decide) m
  split at m
  · exact two (by decide) (by decide) m
  split at m
  · rw [List.mem_singleton.1 m]; exact hc
  split at m
  · exact hx (by decide) (by decide) m
  split at m
  · exact hx (by decide) (by decide) m
  · exact hx (by decide) (by decide) m
theorem fold_ok {q : Nat} (hq : q < 1114112) : ∀ (l : List Nat) (acc : Array Nat), (∀ c ∈ l, c < 1114112) → (∀ c ∈ acc.toList, c < 1114112) → ∀ c ∈ (l.foldl (fun out c => out ++ (Builtin.Str.reprChar q c).toArray) acc).toList, c < 1114112
  | [], acc, _, h => h
  | a :: r, acc, hl, h => by
    rw [List.foldl_cons]
    refine fold_ok hq r _ (fun c m => hl c (by simp [m])) ?_
    intro c m
    rw [Array.toList_append] at m
    rcases List.mem_append.1 m with m | m
    · exact h c m
    · exact char_ok hq (hl a (by simp)) c m
theorem sok_repr {x : Str} (s : Sok x) : Sok (reprText x) := by
  have hq : reprQuote x < 1114112 := by unfold reprQuote; split <;> decide
  intro c m
  unfold reprText at m
  simp only [Array.toList_push] at m
  rcases List.mem_append.1 m with m | m
  · rw [← Array.foldl_toList] at m
    exact fold_ok hq _ _ s (by intro c m; simp at m; rw [m]; exact hq) c m
  · rw [List.mem_singleton.1 m]; exact hq
theorem sok_int (i : Int) : Sok (intS i) := by
  have dg : ∀ n, ∀ c ∈ TL.numL n, c < 1114112 := fun n c m => by have := TL.numL_digits n c m; omega
  intro c m
  unfold intS at m
  rcases (by omega : i < 0 ∨ 0 ≤ i) with z | z
  · obtain ⟨n, rfl⟩ : ∃ n : Nat, i = -(((n + 1 : Nat)) : Int) := ⟨(-i - 1).toNat, by omega⟩
    rw [strS_neg] at m
    rcases List.mem_cons.1 m with rfl | m
    · decide
    · exact dg _ c m
  · obtain ⟨n, rfl⟩ : ∃ n : Nat, i = ((n : Nat) : Int) := ⟨i.toNat, by omega⟩
    rw [strS_nat] at m
    exact dg _ c m
theorem sok_num (a : Nm) : Sok (numS a) := by
  cases a with
  | none => exact sok_dec (by decide)
  | some i => exact sok_int i
/-- data whose text is not long, of signs that are signs -/
structure Fine (k m : Nat) (a : PyData) : Prop where
  b : Brief k m a
  s : Sok a.shown
theorem Fine.up {k m k' m' : Nat} {a : PyData} (f : Fine k m a) (hk : k ≤ k') (hm : m ≤ m') : Fine k' m' a := ⟨f.b.up hk hm, f.s⟩
theorem fine_all {k m : Nat} : ∀ {xs : List PyData}, (∀ x ∈ xs, Fine k m x) → ∀ t ∈ PyData.shownAll xs, Sok t
  | [], _ => by rw [PyData.shownAll]; simp
  | x :: xs, l => by
    have ih := fine_all (xs := xs) fun y m => l y (List.mem_cons_of_mem _ m)
    rw [PyData.shownAll]
    intro t mt
    rcases List.mem_cons.1 mt with rfl | mt
    · exact (l x (by simp)).s
    · exact ih t mt
theorem fine_tup {k m : Nat} {xs : List PyData} (l : ∀ x ∈ xs, Fine k m x) : Fine (k + 1) (3 + xs.length * (m + 2)) (.tuple xs) := by
  refine ⟨brief_tup fun x m => (l x m).b, ?_⟩
  rw [PyData.shown]
  unfold tupleText
  refine sok_app (sok_app (sok_dec (by decide)) (sok_join (sok_dec (by decide)) (fine_all l))) ?_
  split
  · exact sok_dec (by decide)
  · exact sok_dec (by decide)
theorem fine_list {k m : Nat} {xs : List PyData} (l : ∀ x ∈ xs, Fine k m x) : Fine (k + 1) (2 + xs.length * (m + 2)) (.list xs) := by
  refine ⟨brief_list fun x m => (l x m).b, ?_⟩
  rw [PyData.shown]
  unfold listText
  exact sok_app (sok_from _ _ _ (sok_dec (by decide)) (fine_all l)) (sok_dec (by decide))
theorem fine_str {x : Str} {n : Nat} (l : x.length ≤ n) (s : Sok x) : Fine 0 (10 * n + 2) (.str x) :=
  ⟨brief_str l s.low, by rw [PyData.shown]; exact sok_repr s⟩
theorem fine_nm {a : Nm} (f : Fit a) : Fine 0 700 (nmP a) := by
  refine ⟨brief_nm f, ?_⟩
  cases a with
  | none => show Sok (PyData.shown .none); rw [PyData.shown]; exact sok_dec (by decide)
  | some i => show Sok (PyData.shown (.int i)); rw [PyData.shown]; exact sok_int i
theorem fine_act {w : Str} {as : List Nm} (lw : w.length ≤ 600) (kw : Sok w) (l : as.length ≤ 10) (F : ∀ a ∈ as, Fit a) : Fine 1 70000 (actP w as) := by
  have := fine_tup (k := 0) (m := 6002) (xs := .str w :: as.map nmP) (by
    intro x m
    rcases List.mem_cons.1 m with rfl | m
    · exact fine_str lw kw
    · obtain ⟨a, ma, rfl⟩ := List.mem_map.1 m
      exact (fine_nm (F a ma)).up (Nat.le_refl _) (by omega))
  refine this.up (Nat.le_refl _) ?_
  rw [List.length_cons, List.length_map]
  have : (as.length + 1) * 6004 ≤ 11 * 6004 := Nat.mul_le_mul_right _ (by omega)
  omega
theorem Fine.show {k m : Nat} {a : PyData} (f : Fine k m a) (hk : k ≤ 64) (hm : m ≤ 1000000) : showK a = true := showK_of f.b hk (Nat.le_trans hm (by decide))
/-! ### what is heard -/
section
variable {E : EP} {Q : D → LH → Prop} {h : LH}
theorem wp_eqFl {n k : Nat} {xs : List D} {neg : Bool} (a : h[n]? = some (.lst xs)) (b : h[k]? = some (.lst xs)) (f : xs.all flatD = true) (s : ∀ x ∈ xs, ∀ z, x = .str z → Sok z) (q : Q (.bl (!neg)) h) : WP (oEq neg (.ref n) (.ref k) h) Q E := by
  have can : ∀ l : List D, l.all flatD = true → (∀ x ∈ l, ∀ z, x = .str z → Sok z) → PyData.canLayAll0 (l.map datF) = true ∧ PyData.depthAll (l.map datF) = 0 ∧ PyData.eqvAll (l.map datF) (l.map datF) = true := by
    intro l
    induction l with
    | nil => intro _ _; exact ⟨rfl, by simp [PyData.depthAll], by simp [PyData.eqvAll]⟩
    | cons x l ih =>
      intro f s
      rw [List.all_cons, Bool.and_eq_true] at f
      obtain ⟨i1, i2, i3⟩ := ih f.2 fun y m => s y (by simp [m])
      have c : PyData.canLay0 (datF x) = true ∧ PyData.depth (datF x) = 0 ∧ PyData.eqv (datF x) (datF x) = true := by
        cases x with
        | non => exact ⟨by simp [datF, PyData.canLay0], by simp [datF, PyData.depth], by simp [datF, PyData.eqv]⟩
        | bl b => exact ⟨by simp [datF, PyData.canLay0], by simp [datF, PyData.depth], by simp [datF, PyData.eqv]⟩
        | int i => exact ⟨by simp [datF, PyData.canLay0], by simp [datF, PyData.depth], by simp [datF, PyData.eqv]⟩
        | str z =>
          refine ⟨?_, by simp [datF, PyData.depth], by simp [datF, PyData.eqv]⟩
          show PyData.canLay0 (.str z) = true
          rw [PyData.canLay0]; exact (s _ (by simp) z rfl).ok
        | _ => exact absurd f.1 (by simp [flatD])
      refine ⟨?_, ?_, ?_⟩
      · rw [List.map_cons, PyData.canLayAll0, c.1, i1]; rfl
      · rw [List.map_cons, PyData.depthAll, c.2.1, i2]; rfl
      · rw [List.map_cons, PyData.eqvAll, c.2.2, i3]; rfl
  obtain ⟨c1, c2, c3⟩ := can xs f s
  have sh : SeqAt.shaped (.list (xs.map datF)) = true := by
    unfold SeqAt.shaped
    rw [PyData.canLay0, c1, PyData.depth, c2]; rfl
  refine wp_eqR (deep_list a (mapO_flat f)) (deep_list b (mapO_flat f)) (by rw [sh]; rfl) ?_
  rw [PyData.eqv, c3]
  cases neg <;> exact q
theorem heard_w {th : EX} {r : LS} (q : WP (th r h) (fun d h1 => ∃ a, deepK h1 60 d = some a ∧ showK a = true ∧ ∀ n h2, h1.length ≤ n → Ext [] h1 h2 → h2[n]? = some (.lst [.str "told", .str a.shown]) → Q (.ref n) h2)
      (fun c fs h1 => (c = 0 ∧ ∃ d a, fs = [(0, d)] ∧ deepK h1 60 d = some a ∧ showK a = true ∧ ∀ n h2, h1.length ≤ n → Ext [] h1 h2 → h2[n]? = some (.lst [.str "deed", .str a.shown, .bl true]) → Q (.ref n) h2) ∨
        (c = 1 ∧ fs = [(1, .int 1)] ∧ ∀ n h2, h1.length ≤ n → Ext [] h1 h2 → h2[n]? = some (.lst [.str "text", .str "1", .bl true]) → Q (.ref n) h2))) : WP (eTold 2 b__law_heard th r h) Q E := by
  refine wp_eTold ?_
  unfold b__law_heard
  refine wf_lSeq (wf_seq (wf_lTry (wf_lMadeB (wp_use q ?_ ?_))))
  · rintro d h1 ⟨a, e, s, z⟩
    exact wp_repKd e s z
  · rintro c fs h1 (⟨rfl, d, a, rfl, e, s, z⟩ | ⟨rfl, rfl, z⟩)
    · refine wf_hdlT rfl ?_
      rw [wipe_s]
      walk_at "go"
      refine wp_repKd e s ?_
      walk_at "go"
      exact z
    · refine wf_hdlF rfl (wf_hdlT rfl ?_)
      rw [wipe_s]
      walk_at "go"
      refine wp_repKd (a := .int 1) rfl (by decide +kernel) ?_
      walk_at "go"
      have e1 : PyData.shown (.int 1) = ("1" : Str) := by decide +kernel
      rw [e1]
      exact z
/-- what is wanted of a line -/
def wantL (o : Option (List Nm)) (w : Str) : List D := match o with
  | none => [.str "text", .str "1", .bl true]
  | some as => [.str "told", .str (actP w as).shown]
theorem want_flat {o : Option (List Nm)} {w : Str} : (wantL o w).all flatD = true := by cases o <;> rfl
theorem read_told {L w : Str} {rs : List Str} {th : EX} {r : LS} (l : L.length ≤ 500) (sL : ∀ as, lawQ (w :: rs) = some as → Fine 1 70000 (actP w as)) (es : Txt.split L " " = w :: rs)
    (ht : ∀ (Q : D → LH → Prop) (E : EP), WP (f_read_deed [.str L] h) Q E → WP (th r h) Q E)
    (q : ∀ n h1, h.length ≤ n → Ext [] h h1 → h1[n]? = some (.lst (wantL (lawQ (w :: rs)) w)) → Q (.ref n) h1) : WP (eTold 2 b__law_heard th r h) Q E := by
  refine heard_w (ht _ _ (read_w l es ?_ ?_))
  · intro as e h1 x1
    have f := sL as e
    refine ⟨_, deep_act, f.show (by decide) (by decide), ?_⟩
    intro n h2 l2 x2 a2
    refine q n h2 (by have := x1.1; omega) (x1.trans x2) ?_
    rw [e]; exact a2
  · intro e h1 x1
    refine .inr ⟨rfl, rfl, ?_⟩
    intro n h2 l2 x2 a2
    refine q n h2 (by have := x1.1; omega) (x1.trans x2) ?_
    rw [e]; exact a2
theorem fine_read {L w : Str} {rs : List Str} {bs : List Nm} (l : L.length ≤ 500) (es : Txt.split L " " = w :: rs) (e : lawQ (w :: rs) = some bs) : Fine 1 70000 (actP w bs) := by
  have sl := split_len L
  rw [es] at sl
  obtain ⟨d1, d2, d3⟩ := read_some e
  subst d2
  have kw : ∃ c, w = dw c ∧ rs.length = lots c := by
    rw [lawQ_cons] at e
    cases ek : kindOf w with
    | none => rw [ek] at e; exact nomatch e
    | some c =>
      rw [ek] at e
      simp only at e
      by_cases cl : rs.length = lots c
      · exact ⟨c, kind_some ek, cl⟩
      · rw [if_neg cl] at e; exact nomatch e
  obtain ⟨c, rfl, cl⟩ := kw
  have lp := lots_pos c
  have hd : ∀ c : DW, (dw c).cps.toList.all (fun c => decide (c < 1114112)) = true := by decide +kernel
  refine fine_act (by have := (dw_free c).2; omega) (sok_dec (hd c)) (by rw [List.length_map]; omega) ?_
  intro a m
  obtain ⟨r, mr, rfl⟩ := List.mem_map.1 m
  have := sl r (by simp [mr])
  exact fit_num (by omega)
theorem line_right_w {L : Str} (l : L.length ≤ 500) (q : ∀ h1, Ext [] h h1 → Q (.bl true) h1) : WP (f__law_line_right [.str L] h) Q E := by
  obtain ⟨w, rs, es⟩ := split_head L
  have fr := fun bs e => fine_read (bs := bs) l es e
  unfold f__law_line_right b__law_line_right
  walk_at "into"
  walk_at "go"
  refine law_read_w l es ?_
  intro h1 x1
  have sw : ∀ x ∈ wantL (lawQ (w :: rs)) w, ∀ z, x = .str z → Sok z := by
    intro x m z ez
    subst ez
    cases e : lawQ (w :: rs) with
    | none =>
      rw [e] at m
      simp only [wantL, List.mem_cons, List.not_mem_nil, or_false, reduceCtorEq, D.str.injEq] at m
      rcases m with rfl | rfl
      · exact sok_dec (by decide)
      · exact sok_dec (by decide)
    | some as =>
      rw [e] at m
      simp only [wantL, List.mem_cons, List.not_mem_nil, or_false, D.str.injEq] at m
      rcases m with rfl | rfl
      · exact sok_dec (by decide)
      · exact (fr as e).s
  refine wf_gN rfl ?_
  refine wf_seq (wf_use (N' := fun r h' => ∃ n d, r = [some (.str L), some d, some (.ref n)] ∧ h'[n]? = some (.lst (wantL (lawQ (w :: rs)) w)) ∧ Ext [] h h') ?_ ?_ (fun _ _ z => z) (fun _ _ z => z) (fun _ _ z => z) (fun _ _ _ z => z))
  · cases e : lawQ (w :: rs) with
    | none =>
      walk_at "go"
      intro n h2 l2 x2 a2
      walk_at "go"
      exact ⟨n, _, rfl, a2, x1.trans x2⟩
    | some as =>
      refine wf_Asg (wp_eIf ?_)
      refine wp_e1 (wp_eV rfl ?_)
      refine wp_isNo ?_
      refine tr_bl (br_f rfl ?_)
      walk_at "go"
      refine wp_repKd (a := actP w as) deep_act ((fr as e).show (by decide) (by decide)) ?_
      walk_at "go"
      intro n h2 l2 x2 a2
      walk_at "go"
      exact ⟨n, _, rfl, a2, x1.trans x2⟩
  rintro r h2 ⟨n, d, rfl, a2, x2⟩
  walk_at "run"
  walk_at "run"
  walk_at "run"
  refine read_told l fr es (fun Q E z => ?_) ?_
  · walk_at "go"; exact z
  intro m h3 l3 x3 a3
  walk_at "go"
  refine wp_eqFl a3 (x3.get0 a2) want_flat sw ?_
  walk_at "go"
  refine read_told l fr es (fun Q E z => ?_) ?_
  · walk_at "go"; exact z
  intro m2 h4 l4 x4 a4
  walk_at "go"
  refine wp_eqFl a4 (x4.get0 (x3.get0 a2)) want_flat sw ?_
  exact q h4 ((x2.trans x3).trans x4)
end
end
end Lw

set_option Elab.async false
set_option linter.all false
set_option maxRecDepth 100000
set_option maxHeartbeats 4000000
namespace Lw
open Py Ev PySem
section
local macro_rules | `(tactic| walk_at "rf") => `(tactic| with_unfolding_all exact rfl)
local macro_rules | `(tactic| walk_at "nin") => `(tactic| first | exact List.not_mem_nil | (simp only [List.mem_cons, List.not_mem_nil, or_false, not_or]; omega))
local macro_rules | `(tactic| walk_at "lk") => `(tactic| first | assumption | (refine Ext.get (by assumption) ?_ ?_; (walk_at "lk"); (walk_at "nin")))
local macro_rules | `(tactic| walk_at "sq") => `(tactic| first | exact seq_tup | exact seq_scr | exact SeqOf.seq (by assumption) | exact seq_lst (by walk_at "lk"))
local macro_rules | `(tactic| walk_at "sz") => `(tactic| first | omega | (simp only [List.length_cons, List.length_nil, List.length_append, List.length_map, List.length_replicate, iD_len, sizeLine]; omega))
local macro_rules | `(tactic| walk_at "ls") => `(tactic| (simp only [List.set_cons_succ, List.set_cons_zero, List.map_cons, List.map_nil, List.replicate_succ, List.replicate_zero, List.cons_append, List.nil_append, wipeL]; rfl))
local macro_rules | `(tactic| walk_at "call") => `(tactic| fail)
local macro_rules | `(tactic| walk_at "run") => `(tactic| with_reducible first
  | (apply wp_eV; (· walk_at "rf"))
  | refine wp_eC ?_
  | refine wp_e2 ?_
  | refine wp_e1 ?_
  | refine wp_aCons ?_
  | refine wp_aNil ?_
  | refine wp_eA ?_
  | refine wf_seq ?_
  | refine wf_Asg ?_
  | (apply wf_gN; (· walk_at "ls"))
  | refine wf_E ?_
  | refine wf_Ret ?_
  | refine wf_If ?_
  | refine wf_nil ?_
  | refine wp_eCall ?_
  | (apply wp_opF0; (· with_unfolding_all exact ⟨rfl, rfl⟩))
  | refine wp_eMeth ?_
  | (apply insat; (· walk_at "lk"))
  | refine wp_add ?_
  | refine wp_sub ?_
  | refine wp_lt ?_
  | refine wp_le ?_
  | refine wp_gt ?_
  | refine wp_ge ?_
  | (apply br_kt; (· with_unfolding_all rfl))
  | (apply br_kf; (· with_unfolding_all rfl))
  | refine wp_eqW ?_
  | refine wp_neW ?_
  | refine wp_eqB ?_
  | refine wp_neB ?_
  | (apply wp_lastW; (· assumption))
  | (apply wp_headW; (· assumption))
  | refine wp_inW ?_
  | refine wp_ninW ?_
  | refine wp_eqRow0 ?_
  | refine wp_neRow0 ?_
  | refine wp_eDisp ?_
  | refine pairs_cons ?_
  | refine pairs_nil ?_
  | refine keyat_s ?_
  | refine wf_sDputK ?_
  | (apply dputk_s; (· walk_at "lk"); (· exact lt_line (by omega)))
  | refine wp_eGet1 ?_
  | refine wp_eGet2 ?_
  | refine wp_ePop ?_
  | (apply dctat; (· walk_at "lk"))
  | (apply wp_dg; (· walk_at "lk"); (· assumption))
  | (apply wp_bDict; (· walk_at "lk"))
  | refine wp_eTM ?_
  | refine tupat ?_
  | (apply wp_tupIx; (· assumption))
  | refine wp_eCallV ?_
  | refine fnat ?_
  | refine wp_eqI ?_
  | refine wp_neI ?_
  | refine wp_eqS ?_
  | refine wp_neS ?_
  | (apply wp_mod; (· omega))
  | (apply wp_div; (· omega))
  | (apply wp_mul; (· omega))
  | (apply wp_powN; (· (simp only [Int.reduceToNat]; rfl)); (· omega); (· omega))
  | refine wp_neg ?_
  | refine wp_isN ?_
  | refine wp_isNI ?_
  | refine wp_bMax ?_
  | refine wp_bMin ?_
  | refine wp_bAbs ?_
  | refine wp_bInt ?_
  | (apply wp_bDivmod; (· omega))
  | refine tr_bl ?_
  | refine isb ?_
  | (apply br_t; (· rfl))
  | (apply br_f; (· rfl))
  | refine br_nt ?_
  | (apply br_dt; (· omega))
  | (apply br_df; (· omega))
  | refine wp_eNot ?_
  | refine wp_eB ?_
  | refine wp_eOr ?_
  | refine wp_eAnd ?_
  | refine wp_eAndB ?_
  | refine wp_eOrB ?_
  | refine wp_eNotB ?_
  | refine wp_eIf ?_
  | refine wp_chain ?_
  | refine wp_eFld ?_
  | (apply fdat; (· walk_at "lk"); (· walk_at "rf"))
  | refine wp_eSIx ?_
  | refine wp_eUp ?_
  | refine wp_eTinF ?_
  | refine wp_eTix ?_
  | refine wp_eTup ?_
  | refine wp_eLst ?_
  | refine wp_listR ?_
  | (apply wp_addT; (· walk_at "sz"))
  | (apply need; (· walk_at "sz"))
  | refine intat ?_
  | refine strat ?_
  | refine nonat ?_
  | (apply wp_len; (· walk_at "sq"))
  | (apply wp_ix; (· walk_at "sq"); (· walk_at "rf"))
  | (apply wp_bTuple; (· walk_at "sq"))
  | (apply wp_bList; (· walk_at "sq"))
  | refine wp_eBM ?_
  | (apply lstat; (· walk_at "lk"))
  | (apply wp_append; (· walk_at "lk"); (· walk_at "sz"))
  | (apply wp_clear; (· walk_at "lk"))
  | refine wp_eSl ?_
  | refine wp_pSome ?_
  | refine pis ?_
  | refine wp_pNo ?_
  | refine slat_tup ?_
  | (apply slat_lst; (· walk_at "lk"))
  | (apply wf_gT; (· walk_at "rf"))
  | refine wf_gsCons ?_
  | refine wf_gsNil ?_
  | refine wf_gSub ?_
  | (apply subat; (· walk_at "lk"); (· walk_at "rf"))
  | refine wf_sFld ?_
  | (apply fldat; (· walk_at "lk"); (· walk_at "sz"); (· walk_at "rf"))
  | refine wf_sPar ?_
  | (apply parat; (· walk_at "ls"))
  | refine wf_sPar3 ?_
  | (apply parat3; (· walk_at "ls"))
  | refine wp_eRev ?_
  | (apply rvat; (· walk_at "lk"))
  | refine wp_isBB ?_
  | refine wf_sFor ?_
  | refine wp_iSeq ?_
  | refine wp_iZip ?_
  | refine wp_iStr ?_
  | refine wp_eSlS ?_
  | refine wf_gDput ?_
  | refine wp_eDictItems ?_
  | refine wp_eDictPlus ?_
  | refine wp_strS ?_
  | refine wp_intI ?_
  | refine wp_intB ?_
  | (apply zipat; (· walk_at "lk"); (· walk_at "lk"))
  | refine wp_aStar ?_
  | (apply sqat; (· walk_at "sq"))
  | refine wp_eJoinL ?_
  | refine wp_rB ?_
  | refine wp_iEnum ?_
  | refine wp_iRng1 ?_
  | refine wp_iRng2 ?_
  | refine srcat_tup ?_
  | refine srcat_scr ?_
  | (apply srcat_lst; (· walk_at "lk"))
  | refine wp_eIsi ?_
  | refine kd_int ?_
  | refine kd_bl ?_
  | refine kd_str ?_
  | refine kd_non ?_
  | refine kd_tup ?_
  | (apply kd_lst; (· walk_at "lk"))
  | (apply wp_eComp; (· walk_at "ls"))
  | (apply wp_lenO; (· walk_at "lk"))
  | (apply wp_reprO; (· walk_at "lk"))
  | refine wp_eFmt ?_
  | refine wp_eJoin ?_
  | refine jgo_cons ?_
  | refine jgo_nil ?_
  | walk_at "call")
local macro_rules | `(tactic| walk_at "go") => `(tactic| repeat (with_reducible first
  | (apply wp_eV; (· walk_at "rf"))
  | refine wp_eC ?_
  | refine wp_e2 ?_
  | refine wp_e1 ?_
  | refine wp_aCons ?_
  | refine wp_aNil ?_
  | refine wp_eA ?_
  | refine wf_seq ?_
  | refine wf_Asg ?_
  | (apply wf_gN; (· walk_at "ls"))
  | refine wf_E ?_
  | refine wf_Ret ?_
  | refine wf_If ?_
  | refine wf_nil ?_
  | refine wp_eCall ?_
  | (apply wp_opF0; (· with_unfolding_all exact ⟨rfl, rfl⟩))
  | refine wp_eMeth ?_
  | (apply insat; (· walk_at "lk"))
  | refine wp_add ?_
  | refine wp_sub ?_
  | refine wp_lt ?_
  | refine wp_le ?_
  | refine wp_gt ?_
  | refine wp_ge ?_
  | (apply br_kt; (· with_unfolding_all rfl))
  | (apply br_kf; (· with_unfolding_all rfl))
  | refine wp_eqW ?_
  | refine wp_neW ?_
  | refine wp_eqB ?_
  | refine wp_neB ?_
  | (apply wp_lastW; (· assumption))
  | (apply wp_headW; (· assumption))
  | refine wp_inW ?_
  | refine wp_ninW ?_
  | refine wp_eqRow0 ?_
  | refine wp_neRow0 ?_
  | refine wp_eDisp ?_
  | refine pairs_cons ?_
  | refine pairs_nil ?_
  | refine keyat_s ?_
  | refine wf_sDputK ?_
  | (apply dputk_s; (· walk_at "lk"); (· exact lt_line (by omega)))
  | refine wp_eGet1 ?_
  | refine wp_eGet2 ?_
  | refine wp_ePop ?_
  | (apply dctat; (· walk_at "lk"))
  | (apply wp_dg; (· walk_at "lk"); (· assumption))
  | (apply wp_bDict; (· walk_at "lk"))
  | refine wp_eTM ?_
  | refine tupat ?_
  | (apply wp_tupIx; (· assumption))
  | refine wp_eCallV ?_
  | refine fnat ?_
  | refine wp_eqI ?_
  | refine wp_neI ?_
  | refine wp_eqS ?_
  | refine wp_neS ?_
  | (apply wp_mod; (· omega))
  | (apply wp_div; (· omega))
  | (apply wp_mul; (· omega))
  | (apply wp_powN; (· (simp only [Int.reduceToNat]; rfl)); (· omega); (· omega))
  | refine wp_neg ?_
  | refine wp_isN ?_
  | refine wp_isNI ?_
  | refine wp_bMax ?_
  | refine wp_bMin ?_
  | refine wp_bAbs ?_
  | refine wp_bInt ?_
  | (apply wp_bDivmod; (· omega))
  | refine tr_bl ?_
  | refine isb ?_
  | (apply br_t; (· rfl))
  | (apply br_f; (· rfl))
  | refine br_nt ?_
  | (apply br_dt; (· omega))
  | (apply br_df; (· omega))
  | refine wp_eNot ?_
  | refine wp_eB ?_
  | refine wp_eOr ?_
  | refine wp_eAnd ?_
  | refine wp_eAndB ?_
  | refine wp_eOrB ?_
  | refine wp_eNotB ?_
  | refine wp_eIf ?_
  | refine wp_chain ?_
  | refine wp_eFld ?_
  | (apply fdat; (· walk_at "lk"); (· walk_at "rf"))
  | refine wp_eSIx ?_
  | refine wp_eUp ?_
  | refine wp_eTinF ?_
  | refine wp_eTix ?_
  | refine wp_eTup ?_
  | refine wp_eLst ?_
  | refine wp_listR ?_
  | (apply wp_addT; (· walk_at "sz"))
  | (apply need; (· walk_at "sz"))
  | refine intat ?_
  | refine strat ?_
  | refine nonat ?_
  | (apply wp_len; (· walk_at "sq"))
  | (apply wp_ix; (· walk_at "sq"); (· walk_at "rf"))
  | (apply wp_bTuple; (· walk_at "sq"))
  | (apply wp_bList; (· walk_at "sq"))
  | refine wp_eBM ?_
  | (apply lstat; (· walk_at "lk"))
  | (apply wp_append; (· walk_at "lk"); (· walk_at "sz"))
  | (apply wp_clear; (· walk_at "lk"))
  | refine wp_eSl ?_
  | refine wp_pSome ?_
  | refine pis ?_
  | refine wp_pNo ?_
  | refine slat_tup ?_
  | (apply slat_lst; (· walk_at "lk"))
  | (apply wf_gT; (· walk_at "rf"))
  | refine wf_gsCons ?_
  | refine wf_gsNil ?_
  | refine wf_gSub ?_
  | (apply subat; (· walk_at "lk"); (· walk_at "rf"))
  | refine wf_sFld ?_
  | (apply fldat; (· walk_at "lk"); (· walk_at "sz"); (· walk_at "rf"))
  | refine wf_sPar ?_
  | (apply parat; (· walk_at "ls"))
  | refine wf_sPar3 ?_
  | (apply parat3; (· walk_at "ls"))
  | refine wp_eRev ?_
  | (apply rvat; (· walk_at "lk"))
  | refine wp_isBB ?_
  | refine wf_sFor ?_
  | refine wp_iSeq ?_
  | refine wp_iZip ?_
  | refine wp_iStr ?_
  | refine wp_eSlS ?_
  | refine wf_gDput ?_
  | refine wp_eDictItems ?_
  | refine wp_eDictPlus ?_
  | refine wp_strS ?_
  | refine wp_intI ?_
  | refine wp_intB ?_
  | (apply zipat; (· walk_at "lk"); (· walk_at "lk"))
  | refine wp_aStar ?_
  | (apply sqat; (· walk_at "sq"))
  | refine wp_eJoinL ?_
  | refine wp_rB ?_
  | refine wp_iEnum ?_
  | refine wp_iRng1 ?_
  | refine wp_iRng2 ?_
  | refine srcat_tup ?_
  | refine srcat_scr ?_
  | (apply srcat_lst; (· walk_at "lk"))
  | refine wp_eIsi ?_
  | refine kd_int ?_
  | refine kd_bl ?_
  | refine kd_str ?_
  | refine kd_non ?_
  | refine kd_tup ?_
  | (apply kd_lst; (· walk_at "lk"))
  | (apply wp_eComp; (· walk_at "ls"))
  | (apply wp_lenO; (· walk_at "lk"))
  | (apply wp_reprO; (· walk_at "lk"))
  | refine wp_eFmt ?_
  | refine wp_eJoin ?_
  | refine jgo_cons ?_
  | refine jgo_nil ?_
  | refine wf_Raise1 ?_
  | refine wf_Raise0 ?_
  | refine wf_Try ?_
  | (apply wp_eXf; (· walk_at "rf"))
  | walk_at "call"))
/-- into a def -/
local macro_rules | `(tactic| walk_at "into") => `(tactic| (refine wp_runF (by walk_at "rf") (by walk_at "ls") ?_))
/-- on, through all branches -/
local macro_rules | `(tactic| walk_at "br") => `(tactic| repeat' (first | walk_at "run" | (with_reducible apply br_dt; (· assumption)) | (with_reducible apply br_df; (· assumption)) | (with_reducible apply br_t; (· assumption)) | (with_reducible apply br_f; (· assumption)) | (with_reducible refine br_d (fun _ => ?_) (fun _ => ?_)) | (with_reducible refine br_s (fun _ => ?_) (fun _ => ?_)) | (intro d ed)))
/-! ### acts -/
structure Act (c : DW) (as : List Nm) : Prop where
  len : as.length = lots c
  sm : ∀ a ∈ as, ∀ i, a = some i → i.natAbs < 10 ^ 45
  no : ∀ j, as[j]? = some none → c = 1 ∧ j = 1
theorem Act.fit {c : DW} {as : List Nm} (A : Act c as) : ∀ a ∈ as, Fit a := by
  intro a m
  cases a with
  | none => exact fit_none
  | some i => exact fit_int (A.sm _ m i rfl)
theorem Act.few {c : DW} {as : List Nm} (A : Act c as) : 1 ≤ as.length ∧ as.length ≤ 3 := by rw [A.len]; exact lots_pos c
theorem Act.first {c : DW} {as : List Nm} (A : Act c as) : ∃ i r, as = some i :: r := by
  have l := A.few
  cases as with
  | nil => simp at l
  | cons a r =>
    cases a with
    | none => have := (A.no 0 rfl).2; exact absurd this (by decide)
    | some i => exact ⟨i, r, rfl⟩
theorem numQ_S (a : Nm) : numQ (numS a) = a := by
  cases a with
  | none => exact numQ_none
  | some i => exact numQ_int i
theorem map_QS (as : List Nm) : (as.map numS).map numQ = as := by
  rw [List.map_map]
  have : (numQ ∘ numS) = id := funext numQ_S
  rw [this, List.map_id]
theorem all_some {as : List Nm} (h : ∀ j : Nat, as[j]? ≠ some none) : as.all (·.isSome) = true := by
  rw [List.all_eq_true]
  intro a m
  cases a with
  | some _ => rfl
  | none =>
    obtain ⟨j, e⟩ := List.mem_iff_getElem?.1 m
    exact absurd e (h j)
theorem Act.read {c : DW} {as : List Nm} (A : Act c as) : lawQ (dw c :: as.map numS) = some as := by
  rw [lawQ_cons, kind_dw]
  simp only
  rw [if_pos (by rw [List.length_map]; exact A.len)]
  have main : (∀ j : Nat, as[j]? ≠ some none) → (decide (c = 1) && decide ((as.map numS).getD 1 "" = "none")) = false → (match (decide (c = 1) && decide ((as.map numS).getD 1 "" = "none")) with
      | true => (match numQ ((as.map numS).getD 0 "") with | none => none | some i => some [some i, none])
      | false => (match (as.map numS).all fun r => (numQ r).isSome with | true => some ((as.map numS).map numQ) | false => none)) = some as := by
    intro h z
    rw [z]
    simp only
    have : ((as.map numS).all fun r => (numQ r).isSome) = true := by
      rw [List.all_map]
      rw [← all_some h]
      refine List.all_congr rfl fun a => ?_
      show (numQ (numS a)).isSome = _
      rw [numQ_S]
    rw [this]
    simp only
    rw [map_QS]
  by_cases c1 : c = 1
  · subst c1
    have l2 : as.length = 2 := A.len
    obtain ⟨i, r, rfl⟩ := A.first
    obtain ⟨a1, rfl⟩ : ∃ a, r = [a] := by
      cases r with
      | nil => simp at l2
      | cons a s => cases s with
        | nil => exact ⟨a, rfl⟩
        | cons _ _ => simp at l2
    cases a1 with
    | none =>
      have e1 : (decide ((1 : DW) = 1) && decide ((([some i, none] : List Nm).map numS).getD 1 "" = "none")) = true := by
        show (true && decide (("none" : Str) = "none")) = true
        rw [decide_eq_true rfl]; rfl
      rw [e1]
      show (match numQ (intS i) with | none => none | some i => some [some i, (none : Nm)]) = _
      rw [numQ_int]
    | some j =>
      refine main ?_ ?_
      · intro k e
        match k with
        | 0 => exact nomatch e
        | 1 => exact nomatch e
        | k + 2 => exact nomatch e
      · show (true && decide (intS j = "none")) = false
        have : intS j ≠ "none" := fun z => by
          have := numQ_int j
          rw [z, numQ_none] at this
          exact nomatch this
        rw [decide_eq_false this]; rfl
  · refine main (fun j e => c1 (A.no j e).1) ?_
    rw [decide_eq_false c1]; rfl
theorem Act.words {c : DW} {as : List Nm} (A : Act c as) : Txt.split (lineS (dw c) as) " " = dw c :: as.map numS := by
  unfold lineS
  refine split_words (by simp) ?_
  intro w m
  rcases List.mem_cons.1 m with rfl | m
  · exact (dw_free c).1
  · obtain ⟨a, _, rfl⟩ := List.mem_map.1 m
    exact numS_free a
theorem numS_len {a : Nm} (h : ∀ i, a = some i → i.natAbs < 10 ^ 45) : (numS a).length ≤ 46 := by
  cases a with
  | none => show ("none" : Str).length ≤ 46; decide
  | some i => exact intS_len (h i rfl)
theorem Act.wlen {c : DW} {as : List Nm} (A : Act c as) : ∀ w ∈ dw c :: as.map numS, w.length ≤ 46 := by
  intro w m
  rcases List.mem_cons.1 m with rfl | m
  · have := (dw_free c).2; omega
  · obtain ⟨a, ma, rfl⟩ := List.mem_map.1 m
    exact numS_len (A.sm a ma)
theorem join_le {y : Str} {k : Nat} : ∀ {ws : List Str}, (∀ w ∈ ws, w.length ≤ k) → (Str.join y ws).length ≤ (k + y.length) * ws.length
  | [], _ => by simp [Str.join, Str.empty, Str.length]
  | [w], h => by
    have := h w (by simp)
    show w.length ≤ (k + y.length) * 1
    omega
  | w :: v :: r, h => by
    have ih := join_le (y := y) (ws := v :: r) fun u m => h u (List.mem_cons_of_mem _ m)
    have := h w (by simp)
    have e : (Str.join y (w :: v :: r)).length = w.length + y.length + (Str.join y (v :: r)).length := by
      show (w ++ y ++ Str.join y (v :: r)).length = _
      rw [Str.length_append, Str.length_append]
    rw [e, List.length_cons (a := w), Nat.mul_add]; omega
theorem join_few {ws : List Str} {k : Nat} (h : ∀ w ∈ ws, w.length ≤ 49) (l : ws.length ≤ k) : (Txt.join " " ws).length ≤ 50 * k := by
  rw [TL.join_eq]
  have := join_le (y := " ") h
  have e1 : (" " : Str).length = 1 := by decide
  rw [e1] at this
  have : 50 * ws.length ≤ 50 * k := Nat.mul_le_mul_left _ l
  omega
theorem Act.llen {c : DW} {as : List Nm} (A : Act c as) : (lineS (dw c) as).length ≤ 200 :=
  join_few (k := 4) (fun w m => by have := A.wlen w m; omega) (by rw [List.length_cons, List.length_map]; have := A.few; omega)
theorem sok_dw (c : DW) : Sok (dw c) := by
  have hd : ∀ c : DW, (dw c).cps.toList.all (fun c => decide (c < 1114112)) = true := by decide +kernel
  exact sok_dec (hd c)
theorem sok_line (c : DW) (as : List Nm) : Sok (lineS (dw c) as) := by
  unfold lineS
  rw [TL.join_eq]
  refine sok_join (sok_dec (by decide)) ?_
  intro w m
  rcases List.mem_cons.1 m with rfl | m
  · exact sok_dw c
  · obtain ⟨a, _, rfl⟩ := List.mem_map.1 m
    exact sok_num a
section
variable {E : EP} {Q : D → LH → Prop} {h : LH}
theorem spelled_w {c : DW} {as : List Nm} (A : Act c as) (q : ∀ h1, Ext [] h h1 → Q (.str (lineS (dw c) as)) h1) : WP (f__law_spelled [actD (dw c) as] h) Q E := by
  have few := A.few
  unfold f__law_spelled b__law_spelled actD
  walk_at "into"
  walk_at "go"
  refine wp_mapF (fun o : Option Nm => match o with | none => .str (dw c) | some a => numD a) (none :: as.map some) (fun o => .str (match o with | none => dw c | some a => numS a)) ?_ (by rw [List.length_cons, List.length_map]; omega) ?_ ?_
  · have e : (none :: as.map some).map (fun o : Option Nm => match o with | none => D.str (dw c) | some a => numD a) = .str (dw c) :: as.map numD := by
      rw [List.map_cons, List.map_map]; rfl
    rw [e]; exact gives_its
  · intro o mo h1 x1
    refine ⟨_, rfl, ?_⟩
    cases o with
    | none =>
      walk_at "go"
      refine wp_isNo ?_
      refine tr_bl (br_f rfl ?_)
      walk_at "go"
      exact ⟨rfl, Ext.rfl'⟩
    | some a =>
      have ma : a ∈ as := by
        rcases List.mem_cons.1 mo with z | z
        · exact nomatch z
        · obtain ⟨b, mb, e⟩ := List.mem_map.1 z
          cases e; exact mb
      cases a with
      | none =>
        walk_at "go"
        exact ⟨rfl, Ext.rfl'⟩
      | some i =>
        walk_at "go"
        refine wp_strI ((A.fit _ ma).bits i rfl) ?_
        exact ⟨rfl, Ext.rfl'⟩
  intro n h1 l1 x1 a1
  have a1' : h1[n]? = some (.lst ((dw c :: as.map numS).map D.str)) := by
    rw [a1, List.map_cons, List.map_map, List.map_cons, List.map_map]; rfl
  refine jnat3 (k := 0) a1' ?_ (by rw [List.length_cons, List.length_map]; omega) ?_
  · intro w m
    have := A.wlen w m; omega
  · exact q h1 x1
theorem pick_w {p l : Nat} {xs : List D} (P : Pot h p) (L : h[l]? = some (.lst xs)) (pl : l ≠ p) (hx : 0 < xs.length ∧ xs.length < 1000000) (q : ∀ d h1, d ∈ xs → Pot h1 p → Ext [p] h h1 → Q d h1) : WP (f__law_pick [.ref p, .ref l] h) Q E := by
  unfold f__law_pick b__law_pick
  walk_at "into"
  walk_at "go"
  refine draw_w P (by omega) ?_
  intro k h1 lk P1 x1
  have kl : k < xs.length := by omega
  refine wp_ixN (seq_lst (x1.get1 L pl)) (List.getElem?_eq_getElem kl) ?_
  exact q _ h1 (List.getElem_mem kl) P1 x1
theorem number_draw_w {p : Nat} (P : Pot h p) (q : ∀ (i : Int) h1, i.natAbs < 10 ^ 45 → Pot h1 p → Ext [p] h h1 → Q (.int i) h1) : WP (f__law_number [.ref p] h) Q E := by
  have pl := P.lt
  unfold f__law_number b__law_number
  walk_at "into"
  walk_at "go"
  intro l1 h1 k1 x1 a1
  have P1 := P.ext x1 (by simp)
  have e1 := x1.1
  walk_at "go"
  refine pick_w P1 a1 (by omega) (by simp) ?_
  intro d h2 md P2 x2
  obtain ⟨f, hf, rfl⟩ : ∃ f : Int, f.natAbs < 10 ^ 40 ∧ d = .int f := by
    simp only [List.mem_cons, List.not_mem_nil, or_false] at md
    rcases md with rfl | rfl | rfl | rfl | rfl
    · exact ⟨_, by decide +kernel, rfl⟩
    · exact ⟨_, by decide +kernel, rfl⟩
    · exact ⟨_, by decide +kernel, rfl⟩
    · exact ⟨_, by decide +kernel, rfl⟩
    · exact ⟨_, by decide +kernel, rfl⟩
  walk_at "go"
  refine draw_w P2 (by omega) ?_
  intro k h3 lk P3 x3
  have y3 : Ext [p] h h3 := (x1.w0.trans x2).trans x3
  walk_at "go"
  intro l4 h4 k4 x4 a4
  have P4 := P3.ext x4 (by simp)
  have pl3 := P3.lt
  walk_at "go"
  refine pick_w P4 a4 (by omega) (by simp) ?_
  intro d h5 md P5 x5
  obtain ⟨i, hi, rfl⟩ : ∃ i : Int, i.natAbs < 10 ^ 45 ∧ d = .int i := by
    simp only [List.mem_cons, List.not_mem_nil, or_false] at md
    have e40 : (10 : Nat) ^ 40 = 10000000000000000000000000000000000000000 := by decide
    have e45 : (10 : Nat) ^ 45 = 1000000000000000000000000000000000000000000000 := by decide
    rw [e40] at hf
    rw [e45]
    rcases md with rfl | rfl | rfl | rfl | rfl | rfl | rfl | rfl | rfl | rfl | rfl | rfl
    all_goals refine ⟨_, ?_, rfl⟩
    all_goals first | omega | (simp only [Int.reducePow]; omega)
  exact q i h5 hi P5 ((y3.then0 x4).trans x5)
end
end
end Lw

set_option Elab.async false
set_option linter.all false
set_option maxRecDepth 100000
set_option maxHeartbeats 4000000
namespace Lw
open Py Ev PySem
section
local macro_rules | `(tactic| walk_at "rf") => `(tactic| with_unfolding_all exact rfl)
local macro_rules | `(tactic| walk_at "nin") => `(tactic| first | exact List.not_mem_nil | (simp only [List.mem_cons, List.not_mem_nil, or_false, not_or]; omega))
local macro_rules | `(tactic| walk_at "lk") => `(tactic| first | assumption | (refine Ext.get (by assumption) ?_ ?_; (walk_at "lk"); (walk_at "nin")))
local macro_rules | `(tactic| walk_at "sq") => `(tactic| first | exact seq_tup | exact seq_scr | exact SeqOf.seq (by assumption) | exact seq_lst (by walk_at "lk"))
local macro_rules | `(tactic| walk_at "sz") => `(tactic| first | omega | (simp only [List.length_cons, List.length_nil, List.length_append, List.length_map, List.length_replicate, iD_len, sizeLine]; omega))
local macro_rules | `(tactic| walk_at "ls") => `(tactic| (simp only [List.set_cons_succ, List.set_cons_zero, List.map_cons, List.map_nil, List.replicate_succ, List.replicate_zero, List.cons_append, List.nil_append, wipeL]; rfl))
local macro_rules | `(tactic| walk_at "call") => `(tactic| fail)
local macro_rules | `(tactic| walk_at "run") => `(tactic| with_reducible first
  | (apply wp_eV; (· walk_at "rf"))
  | refine wp_eC ?_
  | refine wp_e2 ?_
  | refine wp_e1 ?_
  | refine wp_aCons ?_
  | refine wp_aNil ?_
  | refine wp_eA ?_
  | refine wf_seq ?_
  | refine wf_Asg ?_
  | (apply wf_gN; (· walk_at "ls"))
  | refine wf_E ?_
  | refine wf_Ret ?_
  | refine wf_If ?_
  | refine wf_nil ?_
  | refine wp_eCall ?_
  | (apply wp_opF0; (· with_unfolding_all exact ⟨rfl, rfl⟩))
  | refine wp_eMeth ?_
  | (apply insat; (· walk_at "lk"))
  | refine wp_add ?_
  | refine wp_sub ?_
  | refine wp_lt ?_
  | refine wp_le ?_
  | refine wp_gt ?_
  | refine wp_ge ?_
  | (apply br_kt; (· with_unfolding_all rfl))
  | (apply br_kf; (· with_unfolding_all rfl))
  | refine wp_eqW ?_
  | refine wp_neW ?_
  | refine wp_eqB ?_
  | refine wp_neB ?_
  | (apply wp_lastW; (· assumption))
  | (apply wp_headW; (· assumption))
  | refine wp_inW ?_
  | refine wp_ninW ?_
  | refine wp_eqRow0 ?_
  | refine wp_neRow0 ?_
  | refine wp_eDisp ?_
  | refine pairs_cons ?_
  | refine pairs_nil ?_
  | refine keyat_s ?_
  | refine wf_sDputK ?_
  | (apply dputk_s; (· walk_at "lk"); (· exact lt_line (by omega)))
  | refine wp_eGet1 ?_
  | refine wp_eGet2 ?_
  | refine wp_ePop ?_
  | (apply dctat; (· walk_at "lk"))
  | (apply wp_dg; (· walk_at "lk"); (· assumption))
  | (apply wp_bDict; (· walk_at "lk"))
  | refine wp_eTM ?_
  | refine tupat ?_
  | (apply wp_tupIx; (· assumption))
  | refine wp_eCallV ?_
  | refine fnat ?_
  | refine wp_eqI ?_
  | refine wp_neI ?_
  | refine wp_eqS ?_
  | refine wp_neS ?_
  | (apply wp_mod; (· omega))
  | (apply wp_div; (· omega))
  | (apply wp_mul; (· omega))
  | (apply wp_powN; (· (simp only [Int.reduceToNat]; rfl)); (· omega); (· omega))
  | refine wp_neg ?_
  | refine wp_isN ?_
  | refine wp_isNI ?_
  | refine wp_bMax ?_
  | refine wp_bMin ?_
  | refine wp_bAbs ?_
  | refine wp_bInt ?_
  | (apply wp_bDivmod; (· omega))
  | refine tr_bl ?_
  | refine isb ?_
  | (apply br_t; (· rfl))
  | (apply br_f; (· rfl))
  | refine br_nt ?_
  | (apply br_dt; (· omega))
  | (apply br_df; (· omega))
  | refine wp_eNot ?_
  | refine wp_eB ?_
  | refine wp_eOr ?_
  | refine wp_eAnd ?_
  | refine wp_eAndB ?_
  | refine wp_eOrB ?_
  | refine wp_eNotB ?_
  | refine wp_eIf ?_
  | refine wp_chain ?_
  | refine wp_eFld ?_
  | (apply fdat; (· walk_at "lk"); (· walk_at "rf"))
  | refine wp_eSIx ?_
  | refine wp_eUp ?_
  | refine wp_eTinF ?_
  | refine wp_eTix ?_
  | refine wp_eTup ?_
  | refine wp_eLst ?_
  | refine wp_listR ?_
  | (apply wp_addT; (· walk_at "sz"))
  | (apply need; (· walk_at "sz"))
  | refine intat ?_
  | refine strat ?_
  | refine nonat ?_
  | (apply wp_len; (· walk_at "sq"))
  | (apply wp_ix; (· walk_at "sq"); (· walk_at "rf"))
  | (apply wp_bTuple; (· walk_at "sq"))
  | (apply wp_bList; (· walk_at "sq"))
  | refine wp_eBM ?_
  | (apply lstat; (· walk_at "lk"))
  | (apply wp_append; (· walk_at "lk"); (· walk_at "sz"))
  | (apply wp_clear; (· walk_at "lk"))
  | refine wp_eSl ?_
  | refine wp_pSome ?_
  | refine pis ?_
  | refine wp_pNo ?_
  | refine slat_tup ?_
  | (apply slat_lst; (· walk_at "lk"))
  | (apply wf_gT; (· walk_at "rf"))
  | refine wf_gsCons ?_
  | refine wf_gsNil ?_
  | refine wf_gSub ?_
  | (apply subat; (· walk_at "lk"); (· walk_at "rf"))
  | refine wf_sFld ?_
  | (apply fldat; (· walk_at "lk"); (· walk_at "sz"); (· walk_at "rf"))
  | refine wf_sPar ?_
  | (apply parat; (· walk_at "ls"))
  | refine wf_sPar3 ?_
  | (apply parat3; (· walk_at "ls"))
  | refine wp_eRev ?_
  | (apply rvat; (· walk_at "lk"))
  | refine wp_isBB ?_
  | refine wf_sFor ?_
  | refine wp_iSeq ?_
  | refine wp_iZip ?_
  | refine wp_iStr ?_
  | refine wp_eSlS ?_
  | refine wf_gDput ?_
  | refine wp_eDictItems ?_
  | refine wp_eDictPlus ?_
  | refine wp_strS ?_
  | refine wp_intI ?_
  | refine wp_intB ?_
  | (apply zipat; (· walk_at "lk"); (· walk_at "lk"))
  | refine wp_aStar ?_
  | (apply sqat; (· walk_at "sq"))
  | refine wp_eJoinL ?_
  | refine wp_rB ?_
  | refine wp_iEnum ?_
  | refine wp_iRng1 ?_
  | refine wp_iRng2 ?_
  | refine srcat_tup ?_
  | refine srcat_scr ?_
  | (apply srcat_lst; (· walk_at "lk"))
  | refine wp_eIsi ?_
  | refine kd_int ?_
  | refine kd_bl ?_
  | refine kd_str ?_
  | refine kd_non ?_
  | refine kd_tup ?_
  | (apply kd_lst; (· walk_at "lk"))
  | (apply wp_eComp; (· walk_at "ls"))
  | (apply wp_lenO; (· walk_at "lk"))
  | (apply wp_reprO; (· walk_at "lk"))
  | refine wp_eFmt ?_
  | refine wp_eJoin ?_
  | refine jgo_cons ?_
  | refine jgo_nil ?_
  | walk_at "call")
local macro_rules | `(tactic| walk_at "go") => `(tactic| repeat (with_reducible first
  | (apply wp_eV; (· walk_at "rf"))
  | refine wp_eC ?_
  | refine wp_e2 ?_
  | refine wp_e1 ?_
  | refine wp_aCons ?_
  | refine wp_aNil ?_
  | refine wp_eA ?_
  | refine wf_seq ?_
  | refine wf_Asg ?_
  | (apply wf_gN; (· walk_at "ls"))
  | refine wf_E ?_
  | refine wf_Ret ?_
  | refine wf_If ?_
  | refine wf_nil ?_
  | refine wp_eCall ?_
  | (apply wp_opF0; (· with_unfolding_all exact ⟨rfl, rfl⟩))
  | refine wp_eMeth ?_
  | (apply insat; (· walk_at "lk"))
  | refine wp_add ?_
  | refine wp_sub ?_
  | refine wp_lt ?_
  | refine wp_le ?_
  | refine wp_gt ?_
  | refine wp_ge ?_
  | (apply br_kt; (· with_unfolding_all rfl))
  | (apply br_kf; (· with_unfolding_all rfl))
  | refine wp_eqW ?_
  | refine wp_neW ?_
  | refine wp_eqB ?_
  | refine wp_neB ?_
  | (apply wp_lastW; (· assumption))
  | (apply wp_headW; (· assumption))
  | refine wp_inW ?_
  | refine wp_ninW ?_
  | refine wp_eqRow0 ?_
  | refine wp_neRow0 ?_
  | refine wp_eDisp ?_
  | refine pairs_cons ?_
  | refine pairs_nil ?_
  | refine keyat_s ?_
  | refine wf_sDputK ?_
  | (apply dputk_s; (· walk_at "lk"); (· exact lt_line (by omega)))
  | refine wp_eGet1 ?_
  | refine wp_eGet2 ?_
  | refine wp_ePop ?_
  | (apply dctat; (· walk_at "lk"))
  | (apply wp_dg; (· walk_at "lk"); (· assumption))
  | (apply wp_bDict; (· walk_at "lk"))
  | refine wp_eTM ?_
  | refine tupat ?_
  | (apply wp_tupIx; (· assumption))
  | refine wp_eCallV ?_
  | refine fnat ?_
  | refine wp_eqI ?_
  | refine wp_neI ?_
  | refine wp_eqS ?_
  | refine wp_neS ?_
  | (apply wp_mod; (· omega))
  | (apply wp_div; (· omega))
  | (apply wp_mul; (· omega))
  | (apply wp_powN; (· (simp only [Int.reduceToNat]; rfl)); (· omega); (· omega))
  | refine wp_neg ?_
  | refine wp_isN ?_
  | refine wp_isNI ?_
  | refine wp_bMax ?_
  | refine wp_bMin ?_
  | refine wp_bAbs ?_
  | refine wp_bInt ?_
  | (apply wp_bDivmod; (· omega))
  | refine tr_bl ?_
  | refine isb ?_
  | (apply br_t; (· rfl))
  | (apply br_f; (· rfl))
  | refine br_nt ?_
  | (apply br_dt; (· omega))
  | (apply br_df; (· omega))
  | refine wp_eNot ?_
  | refine wp_eB ?_
  | refine wp_eOr ?_
  | refine wp_eAnd ?_
  | refine wp_eAndB ?_
  | refine wp_eOrB ?_
  | refine wp_eNotB ?_
  | refine wp_eIf ?_
  | refine wp_chain ?_
  | refine wp_eFld ?_
  | (apply fdat; (· walk_at "lk"); (· walk_at "rf"))
  | refine wp_eSIx ?_
  | refine wp_eUp ?_
  | refine wp_eTinF ?_
  | refine wp_eTix ?_
  | refine wp_eTup ?_
  | refine wp_eLst ?_
  | refine wp_listR ?_
  | (apply wp_addT; (· walk_at "sz"))
  | (apply need; (· walk_at "sz"))
  | refine intat ?_
  | refine strat ?_
  | refine nonat ?_
  | (apply wp_len; (· walk_at "sq"))
  | (apply wp_ix; (· walk_at "sq"); (· walk_at "rf"))
  | (apply wp_bTuple; (· walk_at "sq"))
  | (apply wp_bList; (· walk_at "sq"))
  | refine wp_eBM ?_
  | (apply lstat; (· walk_at "lk"))
  | (apply wp_append; (· walk_at "lk"); (· walk_at "sz"))
  | (apply wp_clear; (· walk_at "lk"))
  | refine wp_eSl ?_
  | refine wp_pSome ?_
  | refine pis ?_
  | refine wp_pNo ?_
  | refine slat_tup ?_
  | (apply slat_lst; (· walk_at "lk"))
  | (apply wf_gT; (· walk_at "rf"))
  | refine wf_gsCons ?_
  | refine wf_gsNil ?_
  | refine wf_gSub ?_
  | (apply subat; (· walk_at "lk"); (· walk_at "rf"))
  | refine wf_sFld ?_
  | (apply fldat; (· walk_at "lk"); (· walk_at "sz"); (· walk_at "rf"))
  | refine wf_sPar ?_
  | (apply parat; (· walk_at "ls"))
  | refine wf_sPar3 ?_
  | (apply parat3; (· walk_at "ls"))
  | refine wp_eRev ?_
  | (apply rvat; (· walk_at "lk"))
  | refine wp_isBB ?_
  | refine wf_sFor ?_
  | refine wp_iSeq ?_
  | refine wp_iZip ?_
  | refine wp_iStr ?_
  | refine wp_eSlS ?_
  | refine wf_gDput ?_
  | refine wp_eDictItems ?_
  | refine wp_eDictPlus ?_
  | refine wp_strS ?_
  | refine wp_intI ?_
  | refine wp_intB ?_
  | (apply zipat; (· walk_at "lk"); (· walk_at "lk"))
  | refine wp_aStar ?_
  | (apply sqat; (· walk_at "sq"))
  | refine wp_eJoinL ?_
  | refine wp_rB ?_
  | refine wp_iEnum ?_
  | refine wp_iRng1 ?_
  | refine wp_iRng2 ?_
  | refine srcat_tup ?_
  | refine srcat_scr ?_
  | (apply srcat_lst; (· walk_at "lk"))
  | refine wp_eIsi ?_
  | refine kd_int ?_
  | refine kd_bl ?_
  | refine kd_str ?_
  | refine kd_non ?_
  | refine kd_tup ?_
  | (apply kd_lst; (· walk_at "lk"))
  | (apply wp_eComp; (· walk_at "ls"))
  | (apply wp_lenO; (· walk_at "lk"))
  | (apply wp_reprO; (· walk_at "lk"))
  | refine wp_eFmt ?_
  | refine wp_eJoin ?_
  | refine jgo_cons ?_
  | refine jgo_nil ?_
  | refine wf_Raise1 ?_
  | refine wf_Raise0 ?_
  | refine wf_Try ?_
  | (apply wp_eXf; (· walk_at "rf"))
  | walk_at "call"))
/-- into a def -/
local macro_rules | `(tactic| walk_at "into") => `(tactic| (refine wp_runF (by walk_at "rf") (by walk_at "ls") ?_))
/-- on, through all branches -/
local macro_rules | `(tactic| walk_at "br") => `(tactic| repeat' (first | walk_at "run" | (with_reducible apply br_dt; (· assumption)) | (with_reducible apply br_df; (· assumption)) | (with_reducible apply br_t; (· assumption)) | (with_reducible apply br_f; (· assumption)) | (with_reducible refine br_d (fun _ => ?_) (fun _ => ?_)) | (with_reducible refine br_s (fun _ => ?_) (fun _ => ?_)) | (intro d ed)))
theorem rangeL_get {a b : Int} {i : Nat} (l : i < (b - a).toNat) : (rangeL a b)[i]? = some (.int (a + (i : Nat))) := by
  unfold rangeL; rw [List.getElem?_map, List.getElem?_range l]; rfl
theorem rangeL_none {a b : Int} {i : Nat} (l : (b - a).toNat ≤ i) : (rangeL a b)[i]? = none := List.getElem?_eq_none (by rw [rangeL_len]; exact l)
section
variable {E : EP} {Q : D → LH → Prop} {h : LH}
theorem act_w {p : Nat} (P : Pot h p) (q : ∀ c as h1, Act c as → Pot h1 p → Ext [p] h h1 → Q (actD (dw c) as) h1) : WP (f__law_act [.ref p] h) Q E := by
  have pl := P.lt
  unfold f__law_act b__law_act
  walk_at "into"
  walk_at "go"
  refine lots_w ?_
  intro k1 h1 l1 x1 k1e
  have P1 := P.ext x1 (by simp)
  have b1 := x1.1
  walk_at "go"
  refine wp_listKD k1e ?_
  intro k2 h2 l2 x2 a2
  have P2 := P1.ext x2 (by simp)
  have b2 := x2.1
  walk_at "go"
  refine pick_w P2 a2 (by omega) (by simp [lotsK, dws]) ?_
  intro d h3 md P3 x3
  obtain ⟨c, rfl⟩ : ∃ c, d = .str (dw c) := by
    obtain ⟨kv, mk, rfl⟩ := List.mem_map.1 md
    obtain ⟨c, _, rfl⟩ := List.mem_map.1 mk
    exact ⟨c, rfl⟩
  have lp := lots_pos c
  have y3 : Ext [p] h h3 := (x1.w0.trans x2.w0).trans x3
  have b3 := y3.1
  clear x1 x2 x3 P1 P2 a2 k1e md
  walk_at "go"
  intro k4 h4 l4 x4 a4
  have P4 := P3.ext x4 (by simp)
  have b4 := x4.1
  have kp : k4 ≠ p := by omega
  walk_at "go"
  refine lots_w ?_
  intro k5 h5 l5 x5 k5e
  have P5 := P4.ext x5 (by simp)
  have a5 := x5.get0 a4
  have b5 := x5.1
  walk_at "go"
  refine wp_dg k5e (d := .int ((lots c : Nat) : Int)) (by rw [lotsK_at, kind_dw]; rfl) ?_
  walk_at "go"
  refine wp_comp (fun i => .int (0 + (i : Nat))) (lots c) (fun i acc h' => ∃ is : List Int, acc = is.map D.int ∧ is.length = i ∧ (∀ z ∈ is, z.natAbs < 10 ^ 45) ∧ Pot h' p ∧ Ext [p] h5 h') (by omega) ⟨[], rfl, rfl, (fun z m => nomatch m), P5, Ext.rfl'⟩ ?_ ?_
  · rintro acc h6 ⟨is, rfl, il, sm, P6, x6⟩
    refine ⟨?_, ?_⟩
    · show some (rangeL 0 ((lots c : Nat) : Int))[lots c]? = some none
      rw [rangeL_none (by omega)]
    intro k7 h7 l7 x7 a7
    have a57 := x7.get0 (x6.get1 a5 kp)
    refine wp_addL a57 a7 (by simp only [List.length_cons, List.length_nil, List.length_map]; unfold sizeLine; omega) ?_
    intro k8 h8 l8 x8 a8
    have P8 := (P6.ext x7 (by simp)).ext x8 (by simp)
    have z8 : Ext [p] h h8 := ((((y3.then0 x4).then0 x5).trans x6).then0 x7).then0 x8
    have b8 := z8.1
    have b7 := x7.1
    have b6 := x6.1
    have ep : (is.map D.int) = (is.map some).map numD := by rw [List.map_map]; rfl
    have fin : ∀ (as : List Nm) (h9 : LH), Act c as → Pot h9 p → Ext [p] h h9 → Q (actD (dw c) as) h9 := by
      intro as h9 A P9 x9
      exact q c as h9 A P9 x9
    have A0 : Act c (is.map some) := by
      refine ⟨by rw [List.length_map]; exact il, ?_, ?_⟩
      · intro a m i e
        obtain ⟨z, mz, rfl⟩ := List.mem_map.1 m
        cases e; exact sm _ mz
      · intro j e
        rw [List.getElem?_map] at e
        obtain ⟨z, _, e⟩ := Option.map_eq_some_iff.1 e
        exact nomatch e
    have a8' : h8[k8]? = some (.lst (.str (dw c) :: (is.map some).map numD)) := by rw [a8, ep]; rfl
    clear a57 a7 x7 x6 x5 x4 P4 P5 P6 a4 a5 k5e
    walk_at "go"
    by_cases c1 : c = 1
    · subst c1
      have l2 : is.length = 2 := il
      obtain ⟨i0, i1, rfl⟩ : ∃ i0 i1, is = [i0, i1] := by
        match is, l2 with
        | [a, b], _ => exact ⟨a, b, rfl⟩
      refine br_dt rfl ?_
      walk_at "go"
      refine draw_w P8 (by omega) ?_
      intro k h9 lk P9 x9
      have k8p : k8 ≠ p := by omega
      have a9 := x9.get1 a8' k8p
      walk_at "go"
      refine br_d (fun c2 => ?_) (fun c2 => ?_)
      · have a9 : h9[k8]? = some (.lst [.str (dw 1), .int i0, .int i1]) := a9
        walk_at "go"
        intro h10 x10 a10
        walk_at "go"
        refine fin [some i0, none] h10 ?_ (P9.ext x10 (by simpa using fun z => k8p z.symm)) ((z8.trans x9).new x10 (by omega))
        refine ⟨rfl, ?_, ?_⟩
        · intro a m i e
          subst e
          simp at m
          subst m
          exact sm _ (by simp)
        · intro j e
          match j with
          | 0 => exact nomatch e
          | 1 => exact ⟨rfl, rfl⟩
          | j + 2 => exact nomatch e
      · walk_at "go"
        exact fin (([i0, i1] : List Int).map some) h9 A0 P9 (z8.trans x9)
    · refine br_df (fun z => c1 (dw_lim.1 z)) ?_
      refine br_df (fun z => c1 (dw_lim.1 z)) ?_
      walk_at "go"
      exact fin (is.map some) h8 A0 P8 z8
  · rintro i acc h6 li ⟨is, rfl, il, sm, P6, x6⟩
    refine ⟨?_, _, rfl, ?_⟩
    · show some (rangeL 0 ((lots c : Nat) : Int))[i]? = _
      rw [rangeL_get (by omega)]
    walk_at "go"
    refine number_draw_w P6 ?_
    intro z h7 hz P7 x7
    refine need (by rw [List.length_map]; exact lt_line (by omega)) ?_
    refine ⟨is ++ [z], by rw [List.map_append]; rfl, by simp; omega, ?_, P7, x6.trans x7⟩
    intro y m
    rcases List.mem_append.1 m with m | m
    · exact sm y m
    · rw [List.mem_singleton.1 m]; exact hz
end
theorem cut_lt {xs : List D} {lo hi : Option Int} {d : D} (m : d ∈ cutD xs lo hi) : d ∈ xs := List.mem_of_mem_drop (List.mem_of_mem_take m)
theorem cut_le {xs : List D} {lo hi : Option Int} : (cutD xs lo hi).length ≤ xs.length := by
  unfold cutD; rw [List.length_take, List.length_drop]; omega
/-- texts that are not long -/
def Short (xs : List D) : Prop := ∀ d ∈ xs, ∃ s : Str, d = .str s ∧ s.length ≤ 49
theorem Short.strs {xs : List D} (s : Short xs) : ∃ ws : List Str, xs = ws.map D.str ∧ ∀ w ∈ ws, w.length ≤ 49 := by
  induction xs with
  | nil => exact ⟨[], rfl, by simp⟩
  | cons d xs ih =>
    obtain ⟨w, e, l⟩ := s d (by simp)
    obtain ⟨ws, e2, l2⟩ := ih fun y m => s y (by simp [m])
    refine ⟨w :: ws, by rw [e, e2]; rfl, ?_⟩
    intro y m
    rcases List.mem_cons.1 m with rfl | m
    · exact l
    · exact l2 y m
theorem Short.cut {xs : List D} {lo hi : Option Int} (s : Short xs) : Short (cutD xs lo hi) := fun d m => s d (cut_lt m)
theorem Short.app {xs ys : List D} (s : Short xs) (t : Short ys) : Short (xs ++ ys) := fun d m => by
  rcases List.mem_append.1 m with m | m
  · exact s d m
  · exact t d m
theorem short_one {s : Str} (l : s.length ≤ 49) : Short [.str s] := fun d m => by rw [List.mem_singleton.1 m]; exact ⟨s, rfl, l⟩
section
variable {E : EP} {Q : D → LH → Prop} {h : LH}
theorem joined {n : Nat} {xs : List D} {P : List Str → Prop} (e : h[n]? = some (.lst xs)) (s : Short xs) (l : xs.length ≤ 9) (p : ∀ ws : List Str, (Txt.join " " ws).length ≤ 450 → P ws) : JnAt " " (.ref n) h P := by
  obtain ⟨ws, rfl, lw⟩ := s.strs
  rw [List.length_map] at l
  refine jnat3 (k := 0) e (fun w m => by have := lw w m; omega) (by omega) ?_
  exact p ws (join_few (k := 9) lw l)
theorem wp_lenStr {x : Str} (l : x.length ≤ sizeLine) (q : Q (.int (x.length : Nat)) h) : WP (bLen [.str x] h) Q E := by
  simp only [bLen, if_pos l]; exact q
theorem cutS_le (z : Str) (lo hi : Option Int) : (L2.cutS z lo hi).length ≤ z.length := L2.cutS_length z lo hi
theorem bent_w {p : Nat} {c : DW} {as : List Nm} (P : Pot h p) (A : Act c as) (q : ∀ (s : Str) h1, s.length ≤ 500 → Pot h1 p → Ext [p] h h1 → Q (.str s) h1) : WP (f__law_bent [.ref p, .str (lineS (dw c) as)] h) Q E := by
  have pl := P.lt
  have ll := A.llen
  have few := A.few
  have sh : Short ((dw c :: as.map numS).map D.str) := by
    intro d m
    obtain ⟨w, mw, rfl⟩ := List.mem_map.1 m
    exact ⟨w, rfl, by have := A.wlen w mw; omega⟩
  have wl : ((dw c :: as.map numS).map D.str).length ≤ 4 := by simp; omega
  have w0 : 0 < ((dw c :: as.map numS).map D.str).length := by simp
  have zl : ∀ d ∈ (dw c :: as.map numS).map D.str, ∃ w : Str, d = .str w ∧ w.length ≤ 46 := by
    intro d m
    obtain ⟨w, mw, rfl⟩ := List.mem_map.1 m
    exact ⟨w, rfl, A.wlen w mw⟩
  unfold f__law_bent b__law_bent
  walk_at "into"
  walk_at "go"
  refine wp_oSpl ⟨by decide, by unfold sizeLine; omega⟩ ?_
  intro s1 h1 l1 x1 a1
  rw [A.words] at a1
  generalize (dw c :: as.map numS).map D.str = ws at a1 sh wl w0 zl
  have P1 := P.ext x1 (by simp)
  have sp : s1 ≠ p := by omega
  have b1 := x1.1
  walk_at "go"
  refine draw_w P1 (by omega) ?_
  intro o h2 lo P2 x2
  have a2 := x2.get1 a1 sp
  walk_at "go"
  refine draw_w P2 (by omega) ?_
  intro t h3 lt P3 x3
  have a3 := x3.get1 a2 sp
  have y3 : Ext [p] h h3 := (x1.w0.trans x2).trans x3
  have b3 := y3.1
  have ws3 : s1 < h3.length := lt_of_at a3
  have tl : t < ws.length := by omega
  have q3 : ∀ (s : Str) h9, s.length ≤ 500 → Pot h9 p → Ext [p] h3 h9 → Q (.str s) h9 := fun s h9 l P9 x9 => q s h9 l P9 (y3.trans x9)
  clear q a1 a2 P1 P2 x1 x2 x3
  -- ' '.join(words[:at] + [x] + words[..:])
  have glue : ∀ (h4 : LH) (lo' : Option Int) (s : Str) (m4 : Nat), Ext [] h3 h4 → h4[m4]? = some (.lst [.str s]) → s.length ≤ 49 → ∀ (R : D → LH → Prop) (n5 : Nat), h4[n5]? = some (.lst (cutD ws none (some (t : Int)))) → (∀ n h5, Ext [] h4 h5 → h5[n]? = some (.lst (cutD ws none (some (t : Int)) ++ [.str s])) → R (.ref n) h5) → WP (oAdd (.ref n5) (.ref m4) h4) R E := by
    intro h4 lo' s m4 x4 e4 ls R n5 e5 r
    refine wp_addL e5 e4 (by have := cut_le (xs := ws) (lo := none) (hi := some (t : Int)); simp only [List.length_cons, List.length_nil]; unfold sizeLine; omega) ?_
    intro n6 h6 l6 x6 a6
    exact r n6 h6 x6 a6
  have c1 := cut_le (xs := ws) (lo := none) (hi := some (t : Int))
  have c2 := cut_le (xs := ws) (lo := some ((t : Int) + 1)) (hi := none)
  have c3 := cut_le (xs := ws) (lo := some (t : Int)) (hi := none)
  have ix : ∃ w : Str, ws[t]? = some (.str w) ∧ w.length ≤ 46 := by
    have e := List.getElem?_eq_getElem tl
    obtain ⟨w, ew, lw⟩ := zl _ (List.mem_of_getElem? e)
    exact ⟨w, by rw [e, ew], lw⟩
  obtain ⟨wt, et, lwt⟩ := ix
  walk_at "go"
  refine br_d (fun z => ?_) (fun z => ?_)
  · walk_at "go"
    intro n4 h4 l4 x4 a4
    have a34 := x4.get0 a3
    walk_at "go"
    intro n5 h5 l5 x5 a5
    refine wp_addL (x5.get0 a4) a5 (by unfold sizeLine; omega) ?_
    intro n6 h6 l6 x6 a6
    have x36 := (x4.trans x5).trans x6
    refine joined a6 (sh.cut.app sh.cut) (by rw [List.length_append]; omega) ?_
    intro ys ly
    exact q3 _ h6 (by omega) (P3.ext x36 (by simp)) x36.w0
  clear z
  walk_at "go"
  refine br_d (fun z => ?_) (fun z => ?_)
  · walk_at "go"
    intro n4 h4 l4 x4 a4
    have a34 := x4.get0 a3
    walk_at "go"
    refine wp_ix (seq_lst a34) (L2.atI_nat et) ?_
    walk_at "go"
    intro n5 h5 l5 x5 a5
    have a35 := x5.get0 a34
    walk_at "go"
    refine wp_addL (x5.get0 a4) a5 (by simp only [List.length_cons, List.length_nil]; unfold sizeLine; omega) ?_
    intro n6 h6 l6 x6 a6
    have a36 := x6.get0 a35
    walk_at "go"
    intro n7 h7 l7 x7 a7
    refine wp_addL (x7.get0 a6) a7 (by simp only [List.length_append, List.length_cons, List.length_nil]; unfold sizeLine; omega) ?_
    intro n8 h8 l8 x8 a8
    have x38 := (((x4.trans x5).trans x6).trans x7).trans x8
    refine joined a8 ((sh.cut.app (short_one (by omega))).app sh.cut) (by simp only [List.length_append, List.length_cons, List.length_nil]; omega) ?_
    intro ys ly
    exact q3 _ h8 (by omega) (P3.ext x38 (by simp)) x38.w0
  clear z
  walk_at "go"
  refine br_d (fun z => ?_) (fun z => ?_)
  · walk_at "go"
    intro n4 h4 l4 x4 a4
    have a34 := x4.get0 a3
    walk_at "go"
    intro n5 h5 l5 x5 a5
    have a35 := x5.get0 a34
    walk_at "go"
    refine wp_addL (x5.get0 a4) a5 (by simp only [List.length_cons, List.length_nil]; unfold sizeLine; omega) ?_
    intro n6 h6 l6 x6 a6
    have a36 := x6.get0 a35
    walk_at "go"
    intro n7 h7 l7 x7 a7
    refine wp_addL (x7.get0 a6) a7 (by simp only [List.length_append, List.length_cons, List.length_nil]; unfold sizeLine; omega) ?_
    intro n8 h8 l8 x8 a8
    have x38 := (((x4.trans x5).trans x6).trans x7).trans x8
    refine joined a8 ((sh.cut.app (short_one (by decide))).app sh.cut) (by simp only [List.length_append, List.length_cons, List.length_nil]; omega) ?_
    intro ys ly
    exact q3 _ h8 (by omega) (P3.ext x38 (by simp)) x38.w0
  clear z
  walk_at "go"
  refine br_d (fun z => ?_) (fun z => ?_)
  · walk_at "go"
    intro n4 h4 l4 x4 a4
    walk_at "go"
    refine pick_w (P3.ext x4 (by simp)) a4 (by omega) (by simp) ?_
    intro d h5 md P5 x5
    obtain ⟨s, rfl, ls⟩ : ∃ s : Str, d = .str s ∧ s.length ≤ 10 := by
      simp only [List.mem_cons, List.not_mem_nil, or_false] at md
      rcases md with rfl | rfl | rfl | rfl | rfl | rfl
      all_goals exact ⟨_, rfl, by decide⟩
    walk_at "go"
    refine wp_addS (by unfold sizeLine; omega) ?_
    walk_at "go"
    exact q3 _ h5 (by rw [Str.length_append]; omega) P5 (x4.w0.trans x5)
  clear z
  walk_at "go"
  refine br_d (fun z => ?_) (fun z => ?_)
  · walk_at "go"
    intro n4 h4 l4 x4 a4
    walk_at "go"
    refine pick_w (P3.ext x4 (by simp)) a4 (by omega) (by simp) ?_
    intro d h5 md P5 x5
    obtain ⟨s, rfl, ls⟩ : ∃ s : Str, d = .str s ∧ s.length ≤ 10 := by
      simp only [List.mem_cons, List.not_mem_nil, or_false] at md
      rcases md with rfl | rfl | rfl | rfl | rfl
      all_goals exact ⟨_, rfl, by decide⟩
    walk_at "go"
    refine wp_addS (by unfold sizeLine; omega) ?_
    walk_at "go"
    exact q3 _ h5 (by rw [Str.length_append]; omega) P5 (x4.w0.trans x5)
  clear z
  -- words[:at] + [fresh] + words[at + 1:]
  have last : ∀ (h4 : LH) (s : Str) (r : LS), s.length ≤ 49 → Pot h4 p → Ext [p] h3 h4 → r = [some (.ref p), some (.str (lineS (dw c) as)), some (.int (t : Int)), some (.ref s1), some (.int (o : Int)), some (.str s)] → WP ((eJoinL (eC (.str " ")) (e2 oAdd (e2 oAdd (eSl (eV 3) pNo (pSome (eV 2))) (eLst (aCons (eV 5) aNil))) (eSl (eV 3) (pSome (e2 oAdd (eV 2) (eC (.int 1)))) pNo))) r h4) Q E := by
    rintro h4 s r ls P4 x4 rfl
    have a4 := x4.get1 a3 sp
    walk_at "go"
    intro n5 h5 l5 x5 a5
    have a45 := x5.get0 a4
    walk_at "go"
    intro n6 h6 l6 x6 a6
    have a46 := x6.get0 a45
    walk_at "go"
    refine wp_addL (x6.get0 a5) a6 (by simp only [List.length_cons, List.length_nil]; unfold sizeLine; omega) ?_
    intro n7 h7 l7 x7 a7
    have a47 := x7.get0 a46
    walk_at "go"
    intro n8 h8 l8 x8 a8
    refine wp_addL (x8.get0 a7) a8 (by simp only [List.length_append, List.length_cons, List.length_nil]; unfold sizeLine; omega) ?_
    intro n9 h9 l9 x9 a9
    have x49 := (((x5.trans x6).trans x7).trans x8).trans x9
    refine joined a9 ((sh.cut.app (short_one ls)).app sh.cut) (by simp only [List.length_append, List.length_cons, List.length_nil]; omega) ?_
    intro ys ly
    exact q3 _ h9 (by omega) (P4.ext x49 (by simp)) (x4.then0 x49)
  walk_at "go"
  refine br_d (fun z => ?_) (fun z => ?_)
  · walk_at "go"
    refine wp_ix (seq_lst a3) (L2.atI_nat et) ?_
    walk_at "go"
    refine wp_addS (by unfold sizeLine; have e9 : ("0" : Str).length = 1 := (by decide); omega) ?_
    walk_at "go"
    refine wp_ix (seq_lst a3) (L2.atI_nat et) ?_
    walk_at "go"
    refine wp_addS (by unfold sizeLine; have e9 : ("-" : Str).length = 1 := (by decide); omega) ?_
    walk_at "go"
    refine wp_ix (seq_lst a3) (L2.atI_nat et) ?_
    walk_at "go"
    refine wp_addS (by unfold sizeLine; have e9 : ("+" : Str).length = 1 := (by decide); omega) ?_
    walk_at "go"
    refine wp_ix (seq_lst a3) (L2.atI_nat et) ?_
    walk_at "go"
    refine wp_addS (by unfold sizeLine; have e9 : ("_0" : Str).length = 2 := (by decide); omega) ?_
    walk_at "go"
    refine wp_ix (seq_lst a3) (L2.atI_nat et) ?_
    walk_at "go"
    intro n4 h4 l4 x4 a4
    walk_at "go"
    refine pick_w (P3.ext x4 (by simp)) a4 (by omega) (by simp) ?_
    intro d h5 md P5 x5
    obtain ⟨s, rfl, ls⟩ : ∃ s : Str, d = .str s ∧ s.length ≤ 49 := by
      simp only [List.mem_cons, List.not_mem_nil, or_false] at md
      have e1 : ("0" : Str).length = 1 := by decide
      have e2 : ("-" : Str).length = 1 := by decide
      have e3 : ("+" : Str).length = 1 := by decide
      have e4 : ("_0" : Str).length = 2 := by decide
      rcases md with rfl | rfl | rfl | rfl | rfl
      · exact ⟨_, rfl, by rw [Str.length_append]; omega⟩
      · exact ⟨_, rfl, by rw [Str.length_append]; omega⟩
      · exact ⟨_, rfl, by rw [Str.length_append]; omega⟩
      · exact ⟨_, rfl, by rw [Str.length_append]; omega⟩
      · exact ⟨_, rfl, by have := cutS_le wt (some 1) none; omega⟩
    walk_at "run"
    walk_at "run"
    walk_at "run"
    exact last h5 s _ ls P5 (x4.w0.trans x5) rfl
  clear z
  walk_at "go"
  refine br_d (fun z => ?_) (fun z => ?_)
  · walk_at "go"
    intro n4 h4 l4 x4 a4
    walk_at "go"
    refine pick_w (P3.ext x4 (by simp)) a4 (by omega) (by simp) ?_
    intro d h5 md P5 x5
    obtain ⟨s, rfl, ls⟩ : ∃ s : Str, d = .str s ∧ s.length ≤ 49 := by
      simp only [List.mem_cons, List.not_mem_nil, or_false] at md
      rcases md with rfl | rfl | rfl | rfl | rfl | rfl | rfl | rfl | rfl | rfl | rfl | rfl
      all_goals exact ⟨_, rfl, by decide +kernel⟩
    walk_at "run"
    walk_at "run"
    walk_at "run"
    exact last h5 s _ ls P5 (x4.w0.trans x5) rfl
  clear z
  walk_at "go"
  refine lots_w ?_
  intro k4 h4 l4 x4 k4e
  walk_at "go"
  refine wp_listKD k4e ?_
  intro k5 h5 l5 x5 a5
  have P5 := (P3.ext x4 (by simp)).ext x5 (by simp)
  walk_at "go"
  refine pick_w P5 a5 (by have := x4.1; omega) (by simp [lotsK, dws]) ?_
  intro d h6 md P6 x6
  obtain ⟨c', rfl⟩ : ∃ c, d = .str (dw c) := by
    obtain ⟨kv, mk, rfl⟩ := List.mem_map.1 md
    obtain ⟨c, _, rfl⟩ := List.mem_map.1 mk
    exact ⟨c, rfl⟩
  have a6 := x6.get1 (x5.get0 (x4.get0 a3)) sp
  have w00 : ∃ w : Str, ws[0]? = some (.str w) ∧ w.length ≤ 46 := by
    have e := List.getElem?_eq_getElem w0
    obtain ⟨w, ew, lw⟩ := zl _ (List.mem_of_getElem? e)
    exact ⟨w, by rw [e, ew], lw⟩
  obtain ⟨wh, eh, lwh⟩ := w00
  walk_at "go"
  refine wp_ix (i := ((0 : Nat) : Int)) (seq_lst a6) (L2.atI_nat eh) ?_
  walk_at "go"
  refine wp_lenStr (by unfold sizeLine; omega) ?_
  walk_at "go"
  have lc := cutS_le (lineS (dw c) as) (some ((wh.length : Nat) : Int)) none
  have ld := (dw_free c').2
  refine wp_addS (by unfold sizeLine; omega) ?_
  exact q3 _ h6 (by rw [Str.length_append]; omega) P6 ((x4.w0.trans x5.w0).trans x6)
end
end
end Lw

set_option Elab.async false
set_option linter.all false
set_option maxRecDepth 100000
set_option maxHeartbeats 4000000
namespace Lw
open Py Ev PySem
section
local macro_rules | `(tactic| walk_at "rf") => `(tactic| with_unfolding_all exact rfl)
local macro_rules | `(tactic| walk_at "nin") => `(tactic| first | exact List.not_mem_nil | (simp only [List.mem_cons, List.not_mem_nil, or_false, not_or]; omega))
local macro_rules | `(tactic| walk_at "lk") => `(tactic| first | assumption | (refine Ext.get (by assumption) ?_ ?_; (walk_at "lk"); (walk_at "nin")))
local macro_rules | `(tactic| walk_at "sq") => `(tactic| first | exact seq_tup | exact seq_scr | exact SeqOf.seq (by assumption) | exact seq_lst (by walk_at "lk"))
local macro_rules | `(tactic| walk_at "sz") => `(tactic| first | omega | (simp only [List.length_cons, List.length_nil, List.length_append, List.length_map, List.length_replicate, iD_len, sizeLine]; omega))
local macro_rules | `(tactic| walk_at "ls") => `(tactic| (simp only [List.set_cons_succ, List.set_cons_zero, List.map_cons, List.map_nil, List.replicate_succ, List.replicate_zero, List.cons_append, List.nil_append, wipeL]; rfl))
local macro_rules | `(tactic| walk_at "call") => `(tactic| fail)
local macro_rules | `(tactic| walk_at "run") => `(tactic| with_reducible first
  | (apply wp_eV; (· walk_at "rf"))
  | refine wp_eC ?_
  | refine wp_e2 ?_
  | refine wp_e1 ?_
  | refine wp_aCons ?_
  | refine wp_aNil ?_
  | refine wp_eA ?_
  | refine wf_seq ?_
  | refine wf_Asg ?_
  | (apply wf_gN; (· walk_at "ls"))
  | refine wf_E ?_
  | refine wf_Ret ?_
  | refine wf_If ?_
  | refine wf_nil ?_
  | refine wp_eCall ?_
  | (apply wp_opF0; (· with_unfolding_all exact ⟨rfl, rfl⟩))
  | refine wp_eMeth ?_
  | (apply insat; (· walk_at "lk"))
  | refine wp_add ?_
  | refine wp_sub ?_
  | refine wp_lt ?_
  | refine wp_le ?_
  | refine wp_gt ?_
  | refine wp_ge ?_
  | (apply br_kt; (· with_unfolding_all rfl))
  | (apply br_kf; (· with_unfolding_all rfl))
  | refine wp_eqW ?_
  | refine wp_neW ?_
  | refine wp_eqB ?_
  | refine wp_neB ?_
  | (apply wp_lastW; (· assumption))
  | (apply wp_headW; (· assumption))
  | refine wp_inW ?_
  | refine wp_ninW ?_
  | refine wp_eqRow0 ?_
  | refine wp_neRow0 ?_
  | refine wp_eDisp ?_
  | refine pairs_cons ?_
  | refine pairs_nil ?_
  | refine keyat_s ?_
  | refine wf_sDputK ?_
  | (apply dputk_s; (· walk_at "lk"); (· exact lt_line (by omega)))
  | refine wp_eGet1 ?_
  | refine wp_eGet2 ?_
  | refine wp_ePop ?_
  | (apply dctat; (· walk_at "lk"))
  | (apply wp_dg; (· walk_at "lk"); (· assumption))
  | (apply wp_bDict; (· walk_at "lk"))
  | refine wp_eTM ?_
  | refine tupat ?_
  | (apply wp_tupIx; (· assumption))
  | refine wp_eCallV ?_
  | refine fnat ?_
  | refine wp_eqI ?_
  | refine wp_neI ?_
  | refine wp_eqS ?_
  | refine wp_neS ?_
  | (apply wp_mod; (· omega))
  | (apply wp_div; (· omega))
  | (apply wp_mul; (· omega))
  | (apply wp_powN; (· (simp only [Int.reduceToNat]; rfl)); (· omega); (· omega))
  | refine wp_neg ?_
  | refine wp_isN ?_
  | refine wp_isNI ?_
  | refine wp_bMax ?_
  | refine wp_bMin ?_
  | refine wp_bAbs ?_
  | refine wp_bInt ?_
  | (apply wp_bDivmod; (· omega))
  | refine tr_bl ?_
  | refine isb ?_
  | (apply br_t; (· rfl))
  | (apply br_f; (· rfl))
  | refine br_nt ?_
  | (apply br_dt; (· omega))
  | (apply br_df; (· omega))
  | refine wp_eNot ?_
  | refine wp_eB ?_
  | refine wp_eOr ?_
  | refine wp_eAnd ?_
  | refine wp_eAndB ?_
  | refine wp_eOrB ?_
  | refine wp_eNotB ?_
  | refine wp_eIf ?_
  | refine wp_chain ?_
  | refine wp_eFld ?_
  | (apply fdat; (· walk_at "lk"); (· walk_at "rf"))
  | refine wp_eSIx ?_
  | refine wp_eUp ?_
  | refine wp_eTinF ?_
  | refine wp_eTix ?_
  | refine wp_eTup ?_
  | refine wp_eLst ?_
  | refine wp_listR ?_
  | (apply wp_addT; (· walk_at "sz"))
  | (apply need; (· walk_at "sz"))
  | refine intat ?_
  | refine strat ?_
  | refine nonat ?_
  | (apply wp_len; (· walk_at "sq"))
  | (apply wp_ix; (· walk_at "sq"); (· walk_at "rf"))
  | (apply wp_bTuple; (· walk_at "sq"))
  | (apply wp_bList; (· walk_at "sq"))
  | refine wp_eBM ?_
  | (apply lstat; (· walk_at "lk"))
  | (apply wp_append; (· walk_at "lk"); (· walk_at "sz"))
  | (apply wp_clear; (· walk_at "lk"))
  | refine wp_eSl ?_
  | refine wp_pSome ?_
  | refine pis ?_
  | refine wp_pNo ?_
  | refine slat_tup ?_
  | (apply slat_lst; (· walk_at "lk"))
  | (apply wf_gT; (· walk_at "rf"))
  | refine wf_gsCons ?_
  | refine wf_gsNil ?_
  | refine wf_gSub ?_
  | (apply subat; (· walk_at "lk"); (· walk_at "rf"))
  | refine wf_sFld ?_
  | (apply fldat; (· walk_at "lk"); (· walk_at "sz"); (· walk_at "rf"))
  | refine wf_sPar ?_
  | (apply parat; (· walk_at "ls"))
  | refine wf_sPar3 ?_
  | (apply parat3; (· walk_at "ls"))
  | refine wp_eRev ?_
  | (apply rvat; (· walk_at "lk"))
  | refine wp_isBB ?_
  | refine wf_sFor ?_
  | refine wp_iSeq ?_
  | refine wp_iZip ?_
  | refine wp_iStr ?_
  | refine wp_eSlS ?_
  | refine wf_gDput ?_
  | refine wp_eDictItems ?_
  | refine wp_eDictPlus ?_
  | refine wp_strS ?_
  | refine wp_intI ?_
  | refine wp_intB ?_
  | (apply zipat; (· walk_at "lk"); (· walk_at "lk"))
  | refine wp_aStar ?_
  | (apply sqat; (· walk_at "sq"))
  | refine wp_eJoinL ?_
  | refine wp_rB ?_
  | refine wp_iEnum ?_
  | refine wp_iRng1 ?_
  | refine wp_iRng2 ?_
  | refine srcat_tup ?_
  | refine srcat_scr ?_
  | (apply srcat_lst; (· walk_at "lk"))
  | refine wp_eIsi ?_
  | refine kd_int ?_
  | refine kd_bl ?_
  | refine kd_str ?_
  | refine kd_non ?_
  | refine kd_tup ?_
  | (apply kd_lst; (· walk_at "lk"))
  | (apply wp_eComp; (· walk_at "ls"))
  | (apply wp_lenO; (· walk_at "lk"))
  | (apply wp_reprO; (· walk_at "lk"))
  | refine wp_eFmt ?_
  | refine wp_eJoin ?_
  | refine jgo_cons ?_
  | refine jgo_nil ?_
  | walk_at "call")
local macro_rules | `(tactic| walk_at "go") => `(tactic| repeat (with_reducible first
  | (apply wp_eV; (· walk_at "rf"))
  | refine wp_eC ?_
  | refine wp_e2 ?_
  | refine wp_e1 ?_
  | refine wp_aCons ?_
  | refine wp_aNil ?_
  | refine wp_eA ?_
  | refine wf_seq ?_
  | refine wf_Asg ?_
  | (apply wf_gN; (· walk_at "ls"))
  | refine wf_E ?_
  | refine wf_Ret ?_
  | refine wf_If ?_
  | refine wf_nil ?_
  | refine wp_eCall ?_
  | (apply wp_opF0; (· with_unfolding_all exact ⟨rfl, rfl⟩))
  | refine wp_eMeth ?_
  | (apply insat; (· walk_at "lk"))
  | refine wp_add ?_
  | refine wp_sub ?_
  | refine wp_lt ?_
  | refine wp_le ?_
  | refine wp_gt ?_
  | refine wp_ge ?_
  | (apply br_kt; (· with_unfolding_all rfl))
  | (apply br_kf; (· with_unfolding_all rfl))
  | refine wp_eqW ?_
  | refine wp_neW ?_
  | refine wp_eqB ?_
  | refine wp_neB ?_
  | (apply wp_lastW; (· assumption))
  | (apply wp_headW; (· assumption))
  | refine wp_inW ?_
  | refine wp_ninW ?_
  | refine wp_eqRow0 ?_
  | refine wp_neRow0 ?_
  | refine wp_eDisp ?_
  | refine pairs_cons ?_
  | refine pairs_nil ?_
  | refine keyat_s ?_
  | refine wf_sDputK ?_
  | (apply dputk_s; (· walk_at "lk"); (· exact lt_line (by omega)))
  | refine wp_eGet1 ?_
  | refine wp_eGet2 ?_
  | refine wp_ePop ?_
  | (apply dctat; (· walk_at "lk"))
  | (apply wp_dg; (· walk_at "lk"); (· assumption))
  | (apply wp_bDict; (· walk_at "lk"))
  | refine wp_eTM ?_
  | refine tupat ?_
  | (apply wp_tupIx; (· assumption))
  | refine wp_eCallV ?_
  | refine fnat ?_
  | refine wp_eqI ?_
  | refine wp_neI ?_
  | refine wp_eqS ?_
  | refine wp_neS ?_
  | (apply wp_mod; (· omega))
  | (apply wp_div; (· omega))
  | (apply wp_mul; (· omega))
  | (apply wp_powN; (· (simp only [Int.reduceToNat]; rfl)); (· omega); (· omega))
  | refine wp_neg ?_
  | refine wp_isN ?_
  | refine wp_isNI ?_
  | refine wp_bMax ?_
  | refine wp_bMin ?_
  | refine wp_bAbs ?_
  | refine wp_bInt ?_
  | (apply wp_bDivmod; (· omega))
  | refine tr_bl ?_
  | refine isb ?_
  | (apply br_t; (· rfl))
  | (apply br_f; (· rfl))
  | refine br_nt ?_
  | (apply br_dt; (· omega))
  | (apply br_df; (· omega))
  | refine wp_eNot ?_
  | refine wp_eB ?_
  | refine wp_eOr ?_
  | refine wp_eAnd ?_
  | refine wp_eAndB ?_
  | refine wp_eOrB ?_
  | refine wp_eNotB ?_
  | refine wp_eIf ?_
  | refine wp_chain ?_
  | refine wp_eFld ?_
  | (apply fdat; (· walk_at "lk"); (· walk_at "rf"))
  | refine wp_eSIx ?_
  | refine wp_eUp ?_
  | refine wp_eTinF ?_
  | refine wp_eTix ?_
  | refine wp_eTup ?_
  | refine wp_eLst ?_
  | refine wp_listR ?_
  | (apply wp_addT; (· walk_at "sz"))
  | (apply need; (· walk_at "sz"))
  | refine intat ?_
  | refine strat ?_
  | refine nonat ?_
  | (apply wp_len; (· walk_at "sq"))
  | (apply wp_ix; (· walk_at "sq"); (· walk_at "rf"))
  | (apply wp_bTuple; (· walk_at "sq"))
  | (apply wp_bList; (· walk_at "sq"))
  | refine wp_eBM ?_
  | (apply lstat; (· walk_at "lk"))
  | (apply wp_append; (· walk_at "lk"); (· walk_at "sz"))
  | (apply wp_clear; (· walk_at "lk"))
  | refine wp_eSl ?_
  | refine wp_pSome ?_
  | refine pis ?_
  | refine wp_pNo ?_
  | refine slat_tup ?_
  | (apply slat_lst; (· walk_at "lk"))
  | (apply wf_gT; (· walk_at "rf"))
  | refine wf_gsCons ?_
  | refine wf_gsNil ?_
  | refine wf_gSub ?_
  | (apply subat; (· walk_at "lk"); (· walk_at "rf"))
  | refine wf_sFld ?_
  | (apply fldat; (· walk_at "lk"); (· walk_at "sz"); (· walk_at "rf"))
  | refine wf_sPar ?_
  | (apply parat; (· walk_at "ls"))
  | refine wf_sPar3 ?_
  | (apply parat3; (· walk_at "ls"))
  | refine wp_eRev ?_
  | (apply rvat; (· walk_at "lk"))
  | refine wp_isBB ?_
  | refine wf_sFor ?_
  | refine wp_iSeq ?_
  | refine wp_iZip ?_
  | refine wp_iStr ?_
  | refine wp_eSlS ?_
  | refine wf_gDput ?_
  | refine wp_eDictItems ?_
  | refine wp_eDictPlus ?_
  | refine wp_strS ?_
  | refine wp_intI ?_
  | refine wp_intB ?_
  | (apply zipat; (· walk_at "lk"); (· walk_at "lk"))
  | refine wp_aStar ?_
  | (apply sqat; (· walk_at "sq"))
  | refine wp_eJoinL ?_
  | refine wp_rB ?_
  | refine wp_iEnum ?_
  | refine wp_iRng1 ?_
  | refine wp_iRng2 ?_
  | refine srcat_tup ?_
  | refine srcat_scr ?_
  | (apply srcat_lst; (· walk_at "lk"))
  | refine wp_eIsi ?_
  | refine kd_int ?_
  | refine kd_bl ?_
  | refine kd_str ?_
  | refine kd_non ?_
  | refine kd_tup ?_
  | (apply kd_lst; (· walk_at "lk"))
  | (apply wp_eComp; (· walk_at "ls"))
  | (apply wp_lenO; (· walk_at "lk"))
  | (apply wp_reprO; (· walk_at "lk"))
  | refine wp_eFmt ?_
  | refine wp_eJoin ?_
  | refine jgo_cons ?_
  | refine jgo_nil ?_
  | refine wf_Raise1 ?_
  | refine wf_Raise0 ?_
  | refine wf_Try ?_
  | (apply wp_eXf; (· walk_at "rf"))
  | walk_at "call"))
/-- into a def -/
local macro_rules | `(tactic| walk_at "into") => `(tactic| (refine wp_runF (by walk_at "rf") (by walk_at "ls") ?_))
/-- on, through all branches -/
local macro_rules | `(tactic| walk_at "br") => `(tactic| repeat' (first | walk_at "run" | (with_reducible apply br_dt; (· assumption)) | (with_reducible apply br_df; (· assumption)) | (with_reducible apply br_t; (· assumption)) | (with_reducible apply br_f; (· assumption)) | (with_reducible refine br_d (fun _ => ?_) (fun _ => ?_)) | (with_reducible refine br_s (fun _ => ?_) (fun _ => ?_)) | (intro d ed)))
/-! ### things that are no deeds -/
def Leaf (h : LH) (d : D) : Prop := d = .non ∨ (∃ b, d = .bl b) ∨ (∃ i : Int, d = .int i ∧ i.natAbs < 10 ^ 45) ∨ (∃ s : Str, d = .str s ∧ s.length ≤ 250 ∧ Sok s) ∨ d = .tup [.int 0] ∨ ∃ m, d = .ref m ∧ h[m]? = some (.lst [.int 1])
theorem Leaf.via {h h1 : LH} {d : D} (l : Leaf h d) (x : ∀ m : Nat, h[m]? = some (.lst [.int 1]) → h1[m]? = some (.lst [.int 1])) : Leaf h1 d := by
  rcases l with z | z | z | z | z | ⟨m, e, z⟩
  · exact .inl z
  · exact .inr (.inl z)
  · exact .inr (.inr (.inl z))
  · exact .inr (.inr (.inr (.inl z)))
  · exact .inr (.inr (.inr (.inr (.inl z))))
  · exact .inr (.inr (.inr (.inr (.inr ⟨m, e, x m z⟩))))
def Dat (h : LH) (n k m : Nat) (d : D) : Prop := ∃ a, deepK h n d = some a ∧ Fine k m a
theorem fine_int {i : Int} (l : i.natAbs < 10 ^ 45) : Fine 0 700 (.int i) := fine_nm (a := some i) (fit_int l)
theorem fine_one : ∀ a : PyData, (a = .none ∨ a = .bool true ∨ a = .bool false) → Fine 0 700 a := by
  rintro a (rfl | rfl | rfl)
  all_goals exact ⟨⟨by decide +kernel, by decide +kernel, by decide +kernel⟩, sok_dec (by decide +kernel)⟩
theorem dat_all {h : LH} {n k m : Nat} : ∀ {xs : List D}, (∀ x ∈ xs, Dat h n k m x) → ∃ as, mapO (deepK h n) xs = some as ∧ as.length = xs.length ∧ ∀ a ∈ as, Fine k m a
  | [], _ => ⟨[], rfl, rfl, by simp⟩
  | x :: xs, l => by
    obtain ⟨a, e, f⟩ := l x (by simp)
    obtain ⟨as, e2, l2, f2⟩ := dat_all (xs := xs) fun y m => l y (by simp [m])
    refine ⟨a :: as, mapO_cons e e2, by rw [List.length_cons, l2]; rfl, ?_⟩
    intro b mb
    rcases List.mem_cons.1 mb with rfl | mb
    · exact f
    · exact f2 b mb
theorem dat_tup {h : LH} {n k m : Nat} {xs : List D} (l : ∀ x ∈ xs, Dat h n k m x) : Dat h (n + 1) (k + 1) (3 + xs.length * (m + 2)) (.tup xs) := by
  obtain ⟨as, e, l2, f⟩ := dat_all l
  exact ⟨_, deepK_tup e, by rw [← l2]; exact fine_tup f⟩
theorem dat_lst {h : LH} {n k m j : Nat} {xs : List D} (e : h[j]? = some (.lst xs)) (l : ∀ x ∈ xs, Dat h n k m x) : Dat h (n + 1) (k + 1) (2 + xs.length * (m + 2)) (.ref j) := by
  obtain ⟨as, e2, l2, f⟩ := dat_all l
  exact ⟨_, deepK_list e e2, by rw [← l2]; exact fine_list f⟩
theorem Dat.up {h : LH} {n k m k' m' : Nat} {d : D} (z : Dat h n k m d) (hk : k ≤ k') (hm : m ≤ m') : Dat h n k' m' d := by
  obtain ⟨a, e, f⟩ := z
  exact ⟨a, e, f.up hk hm⟩
theorem Leaf.dat {h : LH} {n : Nat} {d : D} (l : Leaf h d) : Dat h (n + 2) 1 3000 d := by
  have i1 : ∀ x ∈ ([.int 0] : List D), Dat h (n + 1) 0 700 x := by
    intro x m
    rw [List.mem_singleton.1 m]; exact ⟨.int 0, rfl, fine_int (by decide)⟩
  have i2 : ∀ x ∈ ([.int 1] : List D), Dat h (n + 1) 0 700 x := by
    intro x m
    rw [List.mem_singleton.1 m]; exact ⟨.int 1, rfl, fine_int (by decide)⟩
  rcases l with rfl | ⟨b, rfl⟩ | ⟨i, rfl, li⟩ | ⟨s, rfl, ls, ss⟩ | rfl | ⟨m, rfl, e⟩
  · exact ⟨.none, rfl, (fine_one _ (.inl rfl)).up (by decide) (by decide)⟩
  · exact ⟨.bool b, rfl, (fine_one _ (by cases b; exact .inr (.inr rfl); exact .inr (.inl rfl))).up (by decide) (by decide)⟩
  · exact ⟨.int i, rfl, (fine_int li).up (by decide) (by decide)⟩
  · exact ⟨.str s, rfl, (fine_str ls ss).up (by decide) (by decide)⟩
  · exact (dat_tup i1).up (by decide) (by decide)
  · exact (dat_lst e i2).up (by decide) (by decide)
theorem Leaf.kind {h : LH} {d : D} (l : Leaf h d) : ∃ k, kindD d h = some k := by
  rcases l with rfl | ⟨b, rfl⟩ | ⟨i, rfl, li⟩ | ⟨s, rfl, ls, ss⟩ | rfl | ⟨m, rfl, e⟩
  · exact ⟨_, rfl⟩
  · exact ⟨_, rfl⟩
  · exact ⟨_, rfl⟩
  · exact ⟨_, rfl⟩
  · exact ⟨_, rfl⟩
  · exact ⟨_, kind_lst e⟩
theorem leaf_num {h : LH} {a : Nm} (l : ∀ i, a = some i → i.natAbs < 10 ^ 45) : Leaf h (numD a) := by
  cases a with
  | none => exact .inl rfl
  | some i => exact .inr (.inr (.inl ⟨i, rfl, l i rfl⟩))
theorem leaf_dw {h : LH} (c : DW) : Leaf h (.str (dw c)) := .inr (.inr (.inr (.inl ⟨_, rfl, by have := (dw_free c).2; omega, sok_dw c⟩)))
theorem Act.leaf {h : LH} {c : DW} {as : List Nm} (A : Act c as) : ∀ x ∈ (.str (dw c) :: as.map numD : List D), Leaf h x := by
  intro x m
  rcases List.mem_cons.1 m with rfl | m
  · exact leaf_dw c
  · obtain ⟨a, ma, rfl⟩ := List.mem_map.1 m
    exact leaf_num (A.sm a ma)
def isS : D → Bool
  | .str _ => true
  | _ => false
def NoDeed (xs : List D) : Prop := xs = [] ∨ (∃ x r, xs = x :: r ∧ isS x = false) ∨ ∃ w r, xs = .str w :: r ∧ deedB w r = false
inductive Odd (h : LH) : D → Prop
  | flat {d : D} : Leaf h d → (∀ xs, d ≠ .tup xs) → Odd h d
  | tup {xs : List D} : xs.length ≤ 6 → (∀ x ∈ xs, Leaf h x) → NoDeed xs → Odd h (.tup xs)
  | tup1 {c : DW} {as : List Nm} : Act c as → Odd h (.tup [actD (dw c) as])
  | lst {m : Nat} {xs : List D} : h[m]? = some (.lst xs) → xs.length ≤ 6 → (∀ x ∈ xs, Leaf h x) → Odd h (.ref m)
  | lst1 {m : Nat} {c : DW} {as : List Nm} : Act c as → h[m]? = some (.lst [actD (dw c) as]) → Odd h (.ref m)
  | dct {m : Nat} : h[m]? = some (.dct []) → Odd h (.ref m)
theorem Odd.via {h h1 : LH} {d : D} (o : Odd h d) (x : ∀ (m : Nat) (xs : List D), h[m]? = some (.lst xs) → xs.length ≤ 6 → h1[m]? = some (.lst xs)) (y : ∀ m : Nat, h[m]? = some (.dct []) → h1[m]? = some (.dct [])) : Odd h1 d := by
  cases o with
  | flat l n => exact .flat (l.via fun m e => x m _ e (by decide)) n
  | tup l a n => exact .tup l (fun z m => (a z m).via fun m e => x m _ e (by decide)) n
  | tup1 A => exact .tup1 A
  | lst e l a => exact .lst (x _ _ e l) l (fun z m => (a z m).via fun m e => x m _ e (by decide))
  | lst1 A e => exact .lst1 A (x _ _ e (by simp))
  | dct e => exact .dct (y _ e)
theorem Odd.ext0 {h h1 : LH} {d : D} (o : Odd h d) (x : Ext [] h h1) : Odd h1 d := o.via (fun m xs e _ => x.get0 e) (fun m e => x.get0 e)
theorem Odd.extN {h h1 : LH} {d : D} {n : Nat} {ys : List D} (o : Odd h d) (e : h[n]? = some (.lst ys)) (l : 7 ≤ ys.length) (x : Ext [n] h h1) : Odd h1 d :=
  o.via (fun m xs em lm => x.get1 em fun z => by
    subst z
    rw [em] at e
    have := O.lst.inj (Option.some.inj e)
    subst this; omega) (fun m em => x.get1 em fun z => by
    subst z
    rw [em] at e; exact nomatch e)
theorem Odd.dat {h : LH} {d : D} (o : Odd h d) : Dat h 60 4 200000 d := by
  cases o with
  | flat l n => exact (l.dat (n := 58)).up (by decide) (by decide)
  | tup l a n =>
    refine (dat_tup (n := 59) fun x m => (a x m).dat (n := 57)).up (by decide) ?_
    have := Nat.mul_le_mul_right (3000 + 2) l
    omega
  | tup1 A =>
    rename_i c as
    refine (dat_tup (n := 59) (k := 1) (m := 70000) fun x m => ?_).up (by decide) (by simp)
    rw [List.mem_singleton.1 m]
    exact ⟨_, deep_act, fine_act (by have := (dw_free c).2; omega) (sok_dw c) (by have := A.few; omega) A.fit⟩
  | lst e l a =>
    refine (dat_lst (n := 59) e fun x m => (a x m).dat (n := 57)).up (by decide) ?_
    have := Nat.mul_le_mul_right (3000 + 2) l
    omega
  | lst1 A e =>
    rename_i j c as
    refine (dat_lst (n := 59) (k := 1) (m := 70000) e fun x m => ?_).up (by decide) (by simp)
    rw [List.mem_singleton.1 m]
    exact ⟨_, deep_act, fine_act (by have := (dw_free c).2; omega) (sok_dw c) (by have := A.few; omega) A.fit⟩
  | dct e => exact ⟨_, deepK_dct e mapO_nil, ⟨⟨by decide +kernel, by decide +kernel, by decide +kernel⟩, sok_dec (by decide +kernel)⟩⟩
theorem deedB_len {c : DW} {ys : List D} (l : ys.length ≠ lots c) : deedB (dw c) ys = false := by
  unfold deedB; rw [kind_dw]; simp only; rw [if_neg l]
theorem deedB_kind {w : Str} {ys : List D} (k : kindOf w = none) : deedB w ys = false := by
  unfold deedB; rw [k]
theorem deedB_bad {c : DW} {ys : List D} {k : Nat} {x : D} (l : ys.length = lots c) (e : ys[k]? = some x) (i : isI x = false) (n : isNo x = true → ¬ (c = 1 ∧ k = 1)) : deedB (dw c) ys = false := by
  unfold deedB
  rw [kind_dw]
  simp only
  rw [if_pos l]
  cases z : decide (c = 1) && isNo (ys.getD 1 (.int 0)) with
  | false =>
    simp only
    rw [List.all_eq_false]
    exact ⟨x, List.mem_of_getElem? e, by rw [i]; simp⟩
  | true =>
    simp only
    rw [Bool.and_eq_true, decide_eq_true_eq] at z
    obtain ⟨rfl, z⟩ := z
    have l2 : ys.length = 2 := l
    match k with
    | 0 => simp [List.getD, e, i]
    | 1 =>
      have : ys.getD 1 (.int 0) = x := by simp [List.getD, e]
      rw [this] at z
      exact absurd ⟨rfl, rfl⟩ (n z)
    | k + 2 =>
      have := (List.getElem?_eq_some_iff.1 e).1
      omega
section
variable {E : EP} {Q : D → LH → Prop} {h : LH}
theorem kind_not {d : D} {k : Kd} (e : kindD d h = some k) (n : k ≠ .tuple) (q : ∀ h1, Ext [] h h1 → Q (.bl false) h1) : WP (f_is_deed [d] h) Q E := by
  unfold f_is_deed b_is_deed
  walk_at "into"
  walk_at "go"
  refine ⟨k, e, ?_⟩
  have z : (([.tuple] : List Kd).any fun t => k.is t) = false := by cases k <;> first | rfl | exact absurd rfl n
  show Ev.IsB _ _
  rw [z]
  walk_at "go"
  exact q h Ext.rfl'
theorem not_deed_w {d : D} (o : Odd h d) (q : ∀ h1, Ext [] h h1 → Q (.bl false) h1) : WP (f_is_deed [d] h) Q E := by
  have first : ∀ x r, isS x = false → (∃ k, kindD x h = some k) → WP (f_is_deed [.tup (x :: r)] h) Q E := by
    rintro x r s ⟨k, e⟩
    unfold f_is_deed b_is_deed
    walk_at "into"
    walk_at "go"
    refine br_df (by rw [List.length_cons]; omega) ?_
    walk_at "go"
    refine wp_ix0 ?_
    refine ⟨k, e, ?_⟩
    have z : (([.str] : List Kd).any fun t => k.is t) = false := by
      cases x with
      | str _ => exact nomatch s
      | non => cases e; rfl
      | bl _ => cases e; rfl
      | int _ => cases e; rfl
      | tup _ => cases e; rfl
      | scr _ => cases e; rfl
      | fn _ => exact nomatch e
      | ref n =>
        simp only [kindD] at e
        split at e
        · cases e; rfl
        · cases e; rfl
        · exact nomatch e
    show Ev.IsB _ _
    rw [z]
    walk_at "go"
    exact q h Ext.rfl'
  cases o with
  | flat l n =>
    rcases l with rfl | ⟨b, rfl⟩ | ⟨i, rfl, li⟩ | ⟨s, rfl, ls, ss⟩ | rfl | ⟨m, rfl, e⟩
    · exact kind_not rfl (fun z => nomatch z) q
    · exact kind_not rfl (fun z => nomatch z) q
    · exact kind_not rfl (fun z => nomatch z) q
    · exact kind_not rfl (fun z => nomatch z) q
    · exact absurd rfl (n _)
    · exact kind_not (kind_lst e) (fun z => nomatch z) q
  | tup l a n =>
    rcases n with rfl | ⟨x, r, rfl, s⟩ | ⟨w, r, rfl, dB⟩
    · unfold f_is_deed b_is_deed
      walk_at "into"
      walk_at "go"
      exact q h Ext.rfl'
    · exact first x r s (a x (by simp)).kind
    · refine deed_w (fun x m => (a x (by simp [m])).kind) (by simp at l; omega) ?_
      intro h1 x1
      rw [dB]; exact q h1 x1
  | tup1 A => exact first _ [] rfl ⟨_, rfl⟩
  | lst e l a => exact kind_not (kind_lst e) (fun z => nomatch z) q
  | lst1 A e => exact kind_not (kind_lst e) (fun z => nomatch z) q
  | dct e => exact kind_not (k := .dict) (by simp only [kindD, e]) (fun z => nomatch z) q
theorem refused_w {d : D} (o : Odd h d) (e : ∀ h1, Ext [] h h1 → E 0 [(0, d)] h1) : WP (f_line_of [d] h) Q E := by
  unfold f_line_of b_line_of
  walk_at "into"
  walk_at "go"
  refine not_deed_w o ?_
  intro h1 x1
  walk_at "go"
  exact e h1 x1
theorem Act.deed {c : DW} {as : List Nm} (A : Act c as) : deedB (dw c) (as.map numD) = true := by
  have := (read_some A.read).1
  rwa [map_QS] at this
/-- act[:-1] -/
theorem cut_but {x : D} {r : List D} (l : 1 ≤ r.length) : cutD (x :: r) none (some (-1)) = x :: r.take (r.length - 1) := by
  unfold cutD
  rw [HT.sIx_none, List.length_cons]
  have e : HT.sIx (r.length + 1) (r.length + 1) (some (-1)) = r.length := by
    show (if (-1 : Int) < 0 then ((-1 : Int) + ((r.length + 1 : Nat) : Int)).toNat else min (-1 : Int).toNat (r.length + 1)) = _
    rw [if_pos (by decide)]; omega
  rw [e, List.drop_zero, Nat.sub_zero]
  obtain ⟨j, ej⟩ : ∃ j, r.length = j + 1 := ⟨r.length - 1, by omega⟩
  rw [ej, List.take_succ_cons, Nat.add_sub_cancel]
theorem cut_at {xs : List D} {k : Nat} : cutD xs none (some (k : Int)) = xs.take k := by
  unfold cutD
  rw [HT.sIx_none, HT.sIx_nat, List.drop_zero, Nat.sub_zero]
  rcases Nat.le_total k xs.length with z | z
  · rw [Nat.min_eq_left z]
  · rw [Nat.min_eq_right z, List.take_length, List.take_of_length_le z]
theorem cut_from {xs : List D} {k : Nat} : cutD xs (some (k : Int)) none = xs.drop k := by
  unfold cutD
  rw [HT.sIx_none, HT.sIx_nat]
  rcases Nat.le_total k xs.length with z | z
  · rw [Nat.min_eq_left z, List.take_of_length_le (by rw [List.length_drop]; omega)]
  · rw [Nat.min_eq_right z, List.drop_length, List.drop_of_length_le z]; simp
/-- an act with another part -/
def swapD (as : List Nm) (k : Nat) (x : D) : List D := (as.map numD).take k ++ [x] ++ (as.map numD).drop (k + 1)
theorem swap_len {as : List Nm} {k : Nat} {x : D} (l : k < as.length) : (swapD as k x).length = as.length := by
  unfold swapD
  simp only [List.length_append, List.length_take, List.length_drop, List.length_map, List.length_cons, List.length_nil]
  omega
theorem swap_at {as : List Nm} {k : Nat} {x : D} (l : k < as.length) : (swapD as k x)[k]? = some x := by
  unfold swapD
  rw [List.append_assoc, List.getElem?_append_right (by simp; omega)]
  have : k - ((as.map numD).take k).length = 0 := by simp; omega
  rw [this]; rfl
theorem swap_mem {as : List Nm} {k : Nat} {x y : D} (m : y ∈ swapD as k x) : y = x ∨ y ∈ as.map numD := by
  unfold swapD at m
  rcases List.mem_append.1 m with m | m
  · rcases List.mem_append.1 m with m | m
    · exact .inr (List.mem_of_mem_take m)
    · exact .inl (List.mem_singleton.1 m)
  · exact .inr (List.mem_of_mem_drop m)
theorem swap_odd {c : DW} {as : List Nm} {k : Nat} {x : D} (A : Act c as) (l : k < as.length) (lx : Leaf h x) (i : isI x = false) (n : isNo x = true → ¬ (c = 1 ∧ k = 1)) : Odd h (.tup (.str (dw c) :: swapD as k x)) := by
  have few := A.few
  refine .tup (by rw [List.length_cons, swap_len l]; omega) ?_ (.inr (.inr ⟨_, _, rfl, deedB_bad (by rw [swap_len l]; exact A.len) (swap_at l) i n⟩))
  intro y m
  rcases List.mem_cons.1 m with rfl | m
  · exact leaf_dw c
  · rcases swap_mem m with rfl | m
    · exact lx
    · exact A.leaf y (by simp only [List.mem_cons]; exact .inr m)
end
end
end Lw

set_option Elab.async false
set_option linter.all false
set_option maxRecDepth 100000
set_option maxHeartbeats 4000000
namespace Lw
open Py Ev PySem
section
local macro_rules | `(tactic| walk_at "rf") => `(tactic| with_unfolding_all exact rfl)
local macro_rules | `(tactic| walk_at "nin") => `(tactic| first | exact List.not_mem_nil | (simp only [List.mem_cons, List.not_mem_nil, or_false, not_or]; omega))
local macro_rules | `(tactic| walk_at "lk") => `(tactic| first | assumption | (refine Ext.get (by assumption) ?_ ?_; (walk_at "lk"); (walk_at "nin")))
local macro_rules | `(tactic| walk_at "sq") => `(tactic| first | exact seq_tup | exact seq_scr | exact SeqOf.seq (by assumption) | exact seq_lst (by walk_at "lk"))
local macro_rules | `(tactic| walk_at "sz") => `(tactic| first | omega | (simp only [List.length_cons, List.length_nil, List.length_append, List.length_map, List.length_replicate, iD_len, sizeLine]; omega))
local macro_rules | `(tactic| walk_at "ls") => `(tactic| (simp only [List.set_cons_succ, List.set_cons_zero, List.map_cons, List.map_nil, List.replicate_succ, List.replicate_zero, List.cons_append, List.nil_append, wipeL]; rfl))
local macro_rules | `(tactic| walk_at "call") => `(tactic| fail)
local macro_rules | `(tactic| walk_at "run") => `(tactic| with_reducible first
  | (apply wp_eV; (· walk_at "rf"))
  | refine wp_eC ?_
  | refine wp_e2 ?_
  | refine wp_e1 ?_
  | refine wp_aCons ?_
  | refine wp_aNil ?_
  | refine wp_eA ?_
  | refine wf_seq ?_
  | refine wf_Asg ?_
  | (apply wf_gN; (· walk_at "ls"))
  | refine wf_E ?_
  | refine wf_Ret ?_
  | refine wf_If ?_
  | refine wf_nil ?_
  | refine wp_eCall ?_
  | (apply wp_opF0; (· with_unfolding_all exact ⟨rfl, rfl⟩))
  | refine wp_eMeth ?_
  | (apply insat; (· walk_at "lk"))
  | refine wp_add ?_
  | refine wp_sub ?_
  | refine wp_lt ?_
  | refine wp_le ?_
  | refine wp_gt ?_
  | refine wp_ge ?_
  | (apply br_kt; (· with_unfolding_all rfl))
  | (apply br_kf; (· with_unfolding_all rfl))
  | refine wp_eqW ?_
  | refine wp_neW ?_
  | refine wp_eqB ?_
  | refine wp_neB ?_
  | (apply wp_lastW; (· assumption))
  | (apply wp_headW; (· assumption))
  | refine wp_inW ?_
  | refine wp_ninW ?_
  | refine wp_eqRow0 ?_
  | refine wp_neRow0 ?_
  | refine wp_eDisp ?_
  | refine pairs_cons ?_
  | refine pairs_nil ?_
  | refine keyat_s ?_
  | refine wf_sDputK ?_
  | (apply dputk_s; (· walk_at "lk"); (· exact lt_line (by omega)))
  | refine wp_eGet1 ?_
  | refine wp_eGet2 ?_
  | refine wp_ePop ?_
  | (apply dctat; (· walk_at "lk"))
  | (apply wp_dg; (· walk_at "lk"); (· assumption))
  | (apply wp_bDict; (· walk_at "lk"))
  | refine wp_eTM ?_
  | refine tupat ?_
  | (apply wp_tupIx; (· assumption))
  | refine wp_eCallV ?_
  | refine fnat ?_
  | refine wp_eqI ?_
  | refine wp_neI ?_
  | refine wp_eqS ?_
  | refine wp_neS ?_
  | (apply wp_mod; (· omega))
  | (apply wp_div; (· omega))
  | (apply wp_mul; (· omega))
  | (apply wp_powN; (· (simp only [Int.reduceToNat]; rfl)); (· omega); (· omega))
  | refine wp_neg ?_
  | refine wp_isN ?_
  | refine wp_isNI ?_
  | refine wp_bMax ?_
  | refine wp_bMin ?_
  | refine wp_bAbs ?_
  | refine wp_bInt ?_
  | (apply wp_bDivmod; (· omega))
  | refine tr_bl ?_
  | refine isb ?_
  | (apply br_t; (· rfl))
  | (apply br_f; (· rfl))
  | refine br_nt ?_
  | (apply br_dt; (· omega))
  | (apply br_df; (· omega))
  | refine wp_eNot ?_
  | refine wp_eB ?_
  | refine wp_eOr ?_
  | refine wp_eAnd ?_
  | refine wp_eAndB ?_
  | refine wp_eOrB ?_
  | refine wp_eNotB ?_
  | refine wp_eIf ?_
  | refine wp_chain ?_
  | refine wp_eFld ?_
  | (apply fdat; (· walk_at "lk"); (· walk_at "rf"))
  | refine wp_eSIx ?_
  | refine wp_eUp ?_
  | refine wp_eTinF ?_
  | refine wp_eTix ?_
  | refine wp_eTup ?_
  | refine wp_eLst ?_
  | refine wp_listR ?_
  | (apply wp_addT; (· walk_at "sz"))
  | (apply need; (· walk_at "sz"))
  | refine intat ?_
  | refine strat ?_
  | refine nonat ?_
  | (apply wp_len; (· walk_at "sq"))
  | (apply wp_ix; (· walk_at "sq"); (· walk_at "rf"))
  | (apply wp_bTuple; (· walk_at "sq"))
  | (apply wp_bList; (· walk_at "sq"))
  | refine wp_eBM ?_
  | (apply lstat; (· walk_at "lk"))
  | (apply wp_append; (· walk_at "lk"); (· walk_at "sz"))
  | (apply wp_clear; (· walk_at "lk"))
  | refine wp_eSl ?_
  | refine wp_pSome ?_
  | refine pis ?_
  | refine wp_pNo ?_
  | refine slat_tup ?_
  | (apply slat_lst; (· walk_at "lk"))
  | (apply wf_gT; (· walk_at "rf"))
  | refine wf_gsCons ?_
  | refine wf_gsNil ?_
  | refine wf_gSub ?_
  | (apply subat; (· walk_at "lk"); (· walk_at "rf"))
  | refine wf_sFld ?_
  | (apply fldat; (· walk_at "lk"); (· walk_at "sz"); (· walk_at "rf"))
  | refine wf_sPar ?_
  | (apply parat; (· walk_at "ls"))
  | refine wf_sPar3 ?_
  | (apply parat3; (· walk_at "ls"))
  | refine wp_eRev ?_
  | (apply rvat; (· walk_at "lk"))
  | refine wp_isBB ?_
  | refine wf_sFor ?_
  | refine wp_iSeq ?_
  | refine wp_iZip ?_
  | refine wp_iStr ?_
  | refine wp_eSlS ?_
  | refine wf_gDput ?_
  | refine wp_eDictItems ?_
  | refine wp_eDictPlus ?_
  | refine wp_strS ?_
  | refine wp_intI ?_
  | refine wp_intB ?_
  | (apply zipat; (· walk_at "lk"); (· walk_at "lk"))
  | refine wp_aStar ?_
  | (apply sqat; (· walk_at "sq"))
  | refine wp_eJoinL ?_
  | refine wp_rB ?_
  | refine wp_iEnum ?_
  | refine wp_iRng1 ?_
  | refine wp_iRng2 ?_
  | refine srcat_tup ?_
  | refine srcat_scr ?_
  | (apply srcat_lst; (· walk_at "lk"))
  | refine wp_eIsi ?_
  | refine kd_int ?_
  | refine kd_bl ?_
  | refine kd_str ?_
  | refine kd_non ?_
  | refine kd_tup ?_
  | (apply kd_lst; (· walk_at "lk"))
  | (apply wp_eComp; (· walk_at "ls"))
  | (apply wp_lenO; (· walk_at "lk"))
  | (apply wp_reprO; (· walk_at "lk"))
  | refine wp_eFmt ?_
  | refine wp_eJoin ?_
  | refine jgo_cons ?_
  | refine jgo_nil ?_
  | walk_at "call")
local macro_rules | `(tactic| walk_at "go") => `(tactic| repeat (with_reducible first
  | (apply wp_eV; (· walk_at "rf"))
  | refine wp_eC ?_
  | refine wp_e2 ?_
  | refine wp_e1 ?_
  | refine wp_aCons ?_
  | refine wp_aNil ?_
  | refine wp_eA ?_
  | refine wf_seq ?_
  | refine wf_Asg ?_
  | (apply wf_gN; (· walk_at "ls"))
  | refine wf_E ?_
  | refine wf_Ret ?_
  | refine wf_If ?_
  | refine wf_nil ?_
  | refine wp_eCall ?_
  | (apply wp_opF0; (· with_unfolding_all exact ⟨rfl, rfl⟩))
  | refine wp_eMeth ?_
  | (apply insat; (· walk_at "lk"))
  | refine wp_add ?_
  | refine wp_sub ?_
  | refine wp_lt ?_
  | refine wp_le ?_
  | refine wp_gt ?_
  | refine wp_ge ?_
  | (apply br_kt; (· with_unfolding_all rfl))
  | (apply br_kf; (· with_unfolding_all rfl))
  | refine wp_eqW ?_
  | refine wp_neW ?_
  | refine wp_eqB ?_
  | refine wp_neB ?_
  | (apply wp_lastW; (· assumption))
  | (apply wp_headW; (· assumption))
  | refine wp_inW ?_
  | refine wp_ninW ?_
  | refine wp_eqRow0 ?_
  | refine wp_neRow0 ?_
  | refine wp_eDisp ?_
  | refine pairs_cons ?_
  | refine pairs_nil ?_
  | refine keyat_s ?_
  | refine wf_sDputK ?_
  | (apply dputk_s; (· walk_at "lk"); (· exact lt_line (by omega)))
  | refine wp_eGet1 ?_
  | refine wp_eGet2 ?_
  | refine wp_ePop ?_
  | (apply dctat; (· walk_at "lk"))
  | (apply wp_dg; (· walk_at "lk"); (· assumption))
  | (apply wp_bDict; (· walk_at "lk"))
  | refine wp_eTM ?_
  | refine tupat ?_
  | (apply wp_tupIx; (· assumption))
  | refine wp_eCallV ?_
  | refine fnat ?_
  | refine wp_eqI ?_
  | refine wp_neI ?_
  | refine wp_eqS ?_
  | refine wp_neS ?_
  | (apply wp_mod; (· omega))
  | (apply wp_div; (· omega))
  | (apply wp_mul; (· omega))
  | (apply wp_powN; (· (simp only [Int.reduceToNat]; rfl)); (· omega); (· omega))
  | refine wp_neg ?_
  | refine wp_isN ?_
  | refine wp_isNI ?_
  | refine wp_bMax ?_
  | refine wp_bMin ?_
  | refine wp_bAbs ?_
  | refine wp_bInt ?_
  | (apply wp_bDivmod; (· omega))
  | refine tr_bl ?_
  | refine isb ?_
  | (apply br_t; (· rfl))
  | (apply br_f; (· rfl))
  | refine br_nt ?_
  | (apply br_dt; (· omega))
  | (apply br_df; (· omega))
  | refine wp_eNot ?_
  | refine wp_eB ?_
  | refine wp_eOr ?_
  | refine wp_eAnd ?_
  | refine wp_eAndB ?_
  | refine wp_eOrB ?_
  | refine wp_eNotB ?_
  | refine wp_eIf ?_
  | refine wp_chain ?_
  | refine wp_eFld ?_
  | (apply fdat; (· walk_at "lk"); (· walk_at "rf"))
  | refine wp_eSIx ?_
  | refine wp_eUp ?_
  | refine wp_eTinF ?_
  | refine wp_eTix ?_
  | refine wp_eTup ?_
  | refine wp_eLst ?_
  | refine wp_listR ?_
  | (apply wp_addT; (· walk_at "sz"))
  | (apply need; (· walk_at "sz"))
  | refine intat ?_
  | refine strat ?_
  | refine nonat ?_
  | (apply wp_len; (· walk_at "sq"))
  | (apply wp_ix; (· walk_at "sq"); (· walk_at "rf"))
  | (apply wp_bTuple; (· walk_at "sq"))
  | (apply wp_bList; (· walk_at "sq"))
  | refine wp_eBM ?_
  | (apply lstat; (· walk_at "lk"))
  | (apply wp_append; (· walk_at "lk"); (· walk_at "sz"))
  | (apply wp_clear; (· walk_at "lk"))
  | refine wp_eSl ?_
  | refine wp_pSome ?_
  | refine pis ?_
  | refine wp_pNo ?_
  | refine slat_tup ?_
  | (apply slat_lst; (· walk_at "lk"))
  | (apply wf_gT; (· walk_at "rf"))
  | refine wf_gsCons ?_
  | refine wf_gsNil ?_
  | refine wf_gSub ?_
  | (apply subat; (· walk_at "lk"); (· walk_at "rf"))
  | refine wf_sFld ?_
  | (apply fldat; (· walk_at "lk"); (· walk_at "sz"); (· walk_at "rf"))
  | refine wf_sPar ?_
  | (apply parat; (· walk_at "ls"))
  | refine wf_sPar3 ?_
  | (apply parat3; (· walk_at "ls"))
  | refine wp_eRev ?_
  | (apply rvat; (· walk_at "lk"))
  | refine wp_isBB ?_
  | refine wf_sFor ?_
  | refine wp_iSeq ?_
  | refine wp_iZip ?_
  | refine wp_iStr ?_
  | refine wp_eSlS ?_
  | refine wf_gDput ?_
  | refine wp_eDictItems ?_
  | refine wp_eDictPlus ?_
  | refine wp_strS ?_
  | refine wp_intI ?_
  | refine wp_intB ?_
  | (apply zipat; (· walk_at "lk"); (· walk_at "lk"))
  | refine wp_aStar ?_
  | (apply sqat; (· walk_at "sq"))
  | refine wp_eJoinL ?_
  | refine wp_rB ?_
  | refine wp_iEnum ?_
  | refine wp_iRng1 ?_
  | refine wp_iRng2 ?_
  | refine srcat_tup ?_
  | refine srcat_scr ?_
  | (apply srcat_lst; (· walk_at "lk"))
  | refine wp_eIsi ?_
  | refine kd_int ?_
  | refine kd_bl ?_
  | refine kd_str ?_
  | refine kd_non ?_
  | refine kd_tup ?_
  | (apply kd_lst; (· walk_at "lk"))
  | (apply wp_eComp; (· walk_at "ls"))
  | (apply wp_lenO; (· walk_at "lk"))
  | (apply wp_reprO; (· walk_at "lk"))
  | refine wp_eFmt ?_
  | refine wp_eJoin ?_
  | refine jgo_cons ?_
  | refine jgo_nil ?_
  | refine wf_Raise1 ?_
  | refine wf_Raise0 ?_
  | refine wf_Try ?_
  | (apply wp_eXf; (· walk_at "rf"))
  | walk_at "call"))
/-- into a def -/
local macro_rules | `(tactic| walk_at "into") => `(tactic| (refine wp_runF (by walk_at "rf") (by walk_at "ls") ?_))
/-- on, through all branches -/
local macro_rules | `(tactic| walk_at "br") => `(tactic| repeat' (first | walk_at "run" | (with_reducible apply br_dt; (· assumption)) | (with_reducible apply br_df; (· assumption)) | (with_reducible apply br_t; (· assumption)) | (with_reducible apply br_f; (· assumption)) | (with_reducible refine br_d (fun _ => ?_) (fun _ => ?_)) | (with_reducible refine br_s (fun _ => ?_) (fun _ => ?_)) | (intro d ed)))
/-! ### the law -/
section
variable {E : EP} {Q : D → LH → Prop} {h : LH}
def Odds (h : LH) (ys : List D) : Prop := ∀ y ∈ ys, Odd h y
theorem Odds.ext0 {h h1 : LH} {ys : List D} (o : Odds h ys) (x : Ext [] h h1) : Odds h1 ys := fun y m => (o y m).ext0 x
theorem Odds.app {h : LH} {ys zs : List D} (o : Odds h ys) (p : Odds h zs) : Odds h (ys ++ zs) := fun y m => by
  rcases List.mem_append.1 m with m | m
  · exact o y m
  · exact p y m
theorem cutw {c : DW} {as : List Nm} {k : Nat} : cutD (.str (dw c) :: as.map numD) none (some ((1 : Int) + (k : Int))) = .str (dw c) :: (as.map numD).take k := by
  rw [show (1 : Int) + (k : Int) = ((k + 1 : Nat) : Int) by omega, cut_at, List.take_succ_cons]
theorem cutv {c : DW} {as : List Nm} {k : Nat} : cutD (.str (dw c) :: as.map numD) (some ((1 : Int) + (k : Int) + 1)) none = (as.map numD).drop (k + 1) := by
  rw [show (1 : Int) + (k : Int) + 1 = ((k + 1 + 1 : Nat) : Int) by omega, cut_from, List.drop_succ_cons]
def fourD (c : DW) (as : List Nm) : List D := [D.tup ([.non] ++ as.map numD), .tup ([.str (Txt.upper (dw c))] ++ as.map numD), .tup ([.str (wd 9)] ++ as.map numD), .tup ([.int 0] ++ as.map numD)]
theorem odd_acts_w {p : Nat} {c : DW} {as : List Nm} (P : Pot h p) (A : Act c as) (q : ∀ n h1 ys, h1[n]? = some (.lst ys) → ys.length ≤ 100 → Odds h1 ys → Pot h1 p → Ext [p] h h1 → Q (.ref n) h1) : WP (f__law_odd_acts [.ref p, actD (dw c) as] h) Q E := by
  have pl := P.lt
  have few := A.few
  obtain ⟨i0, r0, ea⟩ := A.first
  have ll := A.llen
  unfold f__law_odd_acts b__law_odd_acts actD
  walk_at "into"
  walk_at "go"
  refine draw_w P (by simp only [List.length_cons, List.length_map]; omega) ?_
  intro k h1 lk P1 x1
  have kl : k < as.length := by simp only [List.length_cons, List.length_map] at lk; omega
  clear P
  have t1 : ((as.map numD).take k).length ≤ 3 := by rw [List.length_take, List.length_map]; omega
  have t2 : ((as.map numD).drop (k + 1)).length ≤ 3 := by rw [List.length_drop, List.length_map]; omega
  walk_at "go"
  refine wp_ix0 ?_
  walk_at "go"
  refine spelled_w A ?_
  intro h2 x2
  walk_at "go"
  refine wp_listKT ?_
  intro k3 h3 l3 x3 a3
  walk_at "go"
  rw [cut_but (by rw [List.length_map]; omega)]
  walk_at "go"
  intro k4 h4 l4 x4 a4
  walk_at "go"
  refine wp_eDnew ?_
  intro k5 h5 l5 x5 a5
  walk_at "go"
  rw [cut_tail]
  walk_at "go"
  intro n h6 l6 x6 a6
  have P6 := (((((P1.ext x2 (by simp)).ext x3 (by simp)).ext x4 (by simp)).ext x5 (by simp)).ext x6 (by simp))
  have y6 : Ext [p] h h6 := ((((x1.then0 x2).then0 x3).then0 x4).then0 x5).then0 x6
  have e3 := x6.get0 (x5.get0 (x4.get0 a3))
  have e4 := x6.get0 (x5.get0 a4)
  have e5 := x6.get0 a5
  have hn : h.length ≤ n := by
    have := x1.1; have := x2.1; have := x3.1; have := x4.1; have := x5.1
    omega
  have np : n ≠ p := by
    have := x1.1; have := x2.1; have := x3.1; have := x4.1; have := x5.1
    omega
  have O6 : ∃ ys, h6[n]? = some (.lst ys) ∧ ys.length = 13 ∧ Odds h6 ys := by
    refine ⟨_, a6, rfl, ?_⟩
    intro y m
    simp only [List.mem_cons, List.not_mem_nil, or_false] at m
    rcases m with rfl | rfl | rfl | rfl | rfl | rfl | rfl | rfl | rfl | rfl | rfl | rfl | rfl
    · exact .flat (.inl rfl) (fun xs z => nomatch z)
    · exact .flat (.inr (.inr (.inl ⟨0, rfl, by decide⟩))) (fun xs z => nomatch z)
    · exact .flat (.inr (.inr (.inr (.inl ⟨_, rfl, by decide, sok_dec (by decide)⟩)))) (fun xs z => nomatch z)
    · exact .flat (leaf_dw c) (fun xs z => nomatch z)
    · exact .flat (.inr (.inr (.inr (.inl ⟨_, rfl, by omega, sok_line c as⟩)))) (fun xs z => nomatch z)
    · exact .lst e3 (by rw [List.length_cons, List.length_map]; omega) A.leaf
    · refine .tup (by rw [List.length_cons, List.length_take, List.length_map]; omega) (fun x m => ?_) (.inr (.inr ⟨_, _, rfl, deedB_len (by rw [List.length_take, List.length_map, ← A.len]; omega)⟩))
      rcases List.mem_cons.1 m with rfl | m
      · exact leaf_dw c
      · exact A.leaf x (List.mem_cons_of_mem _ (List.mem_of_mem_take m))
    · refine .tup (by simp only [List.length_append, List.length_cons, List.length_map, List.length_nil]; omega) (fun x m => ?_) (.inr (.inr ⟨dw c, as.map numD ++ [.int 0], rfl, deedB_len (by simp only [List.length_append, List.length_map, List.length_cons, List.length_nil]; rw [← A.len]; omega)⟩))
      rcases List.mem_append.1 m with m | m
      · exact A.leaf x m
      · rw [List.mem_singleton.1 m]; exact .inr (.inr (.inl ⟨0, rfl, by decide⟩))
    · exact .tup (by simp) (by simp) (.inl rfl)
    · exact .tup1 A
    · exact .lst1 A e4
    · exact .dct e5
    · refine .tup (by rw [List.length_map]; omega) (fun x m => A.leaf x (List.mem_cons_of_mem _ m)) (.inr (.inl ?_))
      rw [ea]; exact ⟨_, _, rfl, rfl⟩
  obtain ⟨ys, a6', ly, O6⟩ := O6
  clear a3 a4 a5 a6 x2 x3 x4 x5 x6 e3 e4 e5 l3 l4 l5 P1
  have nl6 := lt_of_at a6'
  walk_at "go"
  intro k7 h7 l7 x7 a7
  have O7 : Odds h7 ys := O6.ext0 x7
  have a67 := x7.get0 a6'
  have P7 := P6.ext x7 (by simp)
  walk_at "go"
  intro k8 h8 l8 x8 a8
  have O8 : Odds h8 ys := O7.ext0 x8
  have a68 := x8.get0 a67
  have P8 := P7.ext x8 (by simp)
  have e78 := x8.get0 a7
  have y8 : Ext [p] h h8 := (y6.then0 x7).then0 x8
  have b7 := x7.1
  have b8 := x8.1
  have nk : n ≠ k8 := by have := lt_of_at a67; omega
  have k7n : k7 ≠ n := by omega
  clear O6 O7 a6' a67 P6 P7 a7 y6 x7 x8
  walk_at "go"
  refine wf_forL [.bl true, .str "0", .tup [.int 0], .ref k7, .str "none", .bl false] (by simp) (fun i r h' => ∃ (c4 : Option D) (zs : List D), r = [some (.ref p), some (actD (dw c) as), some (.int (1 + (k : Int))), some (.ref n), c4] ∧ zs.length = 13 + i ∧ h'[n]? = some (.lst zs) ∧ Odds h' zs ∧ h'[k8]? = some (.lst [.bl true, .str "0", .tup [.int 0], .ref k7, .str "none", .bl false]) ∧ h'[k7]? = some (.lst [.int 1]) ∧ Pot h' p ∧ Ext [p] h h' ∧ h8.length ≤ h'.length) ?_ ⟨_, ys, rfl, ly, a68, O8, a8, e78, P8, y8, Nat.le_refl _⟩ ?_ ?_
  · rintro i r h' ⟨c4, zs, _, _, _, _, e8, _⟩
    rw [src_lst e8]
  · clear a8 O8 a68 e78 P8 y8 ly
    rintro r h9 ⟨c4, zs, rfl, lz, a9, O9, _, e79, P9, y9, b9⟩
    have lz : zs.length = 19 := lz
    unfold actD
    walk_at "go"
    rw [cut_tail]
    walk_at "go"
    refine wp_ix0 ?_
    walk_at "go"
    refine need (by have := (dw_up c).2; have := (dw_free c).2; omega) ?_
    walk_at "go"
    rw [cut_tail]
    walk_at "go"
    rw [cut_tail]
    walk_at "go"
    rw [cut_tail]
    walk_at "go"
    intro m10 h10 l10 x10 a10
    have an := x10.get0 a9
    refine wp_extend an a10 (by rw [lz]; simp only [List.length_cons, List.length_nil]; unfold sizeLine; omega) ?_
    intro h11 x11 a11
    have tail_leaf : ∀ {h' : LH} (x : D), Leaf h' x → ∀ y ∈ (x :: as.map numD : List D), Leaf h' y := by
      intro h' x l y m
      rcases List.mem_cons.1 m with rfl | m
      · exact l
      · exact A.leaf y (List.mem_cons_of_mem _ m)
    have t6 : ∀ x : D, (x :: as.map numD).length ≤ 6 := fun x => by rw [List.length_cons, List.length_map]; omega
    have up : Leaf h10 (.str (Txt.upper (dw c))) := by
      refine .inr (.inr (.inr (.inl ⟨_, rfl, by have := (dw_up c).2; omega, ?_⟩)))
      have hd : ∀ c : DW, (Txt.upper (dw c)).cps.toList.all (fun c => decide (c < 1114112)) = true := by decide +kernel
      exact sok_dec (hd c)
    have un : Leaf h10 (.str (wd 9)) := .inr (.inr (.inr (.inl ⟨_, rfl, by decide +kernel, sok_dec (by decide +kernel)⟩)))
    have O10 : Odds h10 (zs ++ fourD c as) := by
      refine (O9.ext0 x10).app ?_
      intro y m
      simp only [fourD, List.mem_cons, List.not_mem_nil, or_false] at m
      rcases m with rfl | rfl | rfl | rfl
      · exact .tup (t6 _) (tail_leaf _ (.inl rfl)) (.inr (.inl ⟨_, _, rfl, rfl⟩))
      · exact .tup (t6 _) (tail_leaf _ up) (.inr (.inr ⟨_, _, rfl, deedB_kind (dw_up c).1⟩))
      · exact .tup (t6 _) (tail_leaf _ un) (.inr (.inr ⟨_, _, rfl, deedB_kind kind_undo⟩))
      · exact .tup (t6 _) (tail_leaf _ (.inr (.inr (.inl ⟨0, rfl, by decide⟩)))) (.inr (.inl ⟨_, _, rfl, rfl⟩))
    have O11 : Odds h11 (zs ++ fourD c as) := fun y m => (O10 y m).extN an (by omega) x11
    have l11 : (zs ++ fourD c as).length = 23 := by rw [List.length_append, lz]; rfl
    have a11' : h11[n]? = some (.lst (zs ++ fourD c as)) := a11
    generalize zs ++ fourD c as = us at O11 l11 a11'
    have P11 := (P9.ext x10 (by simp)).ext x11 (by simpa using fun z => np z.symm)
    have y11 : Ext [p] h h11 := (y9.then0 x10).new x11 hn
    clear O10 O9 a9 a10 a11 x10 x11 an P9 y9
    walk_at "go"
    refine wp_ix0 ?_
    walk_at "go"
    have add : (isNo .non = true → ¬ (c = 1 ∧ k = 1)) → ∀ h12, Ext [n] h11 h12 → h12[n]? = some (.lst (us ++ [.tup (.str (dw c) :: swapD as k .non)])) → Q (.ref n) h12 := by
      intro nn h12 x12 a12
      refine q n h12 _ a12 (by simp [l11]) ?_ (P11.ext x12 (by simpa using fun z => np z.symm)) (y11.new x12 hn)
      refine Odds.app (fun y m => (O11 y m).extN a11' (by omega) x12) ?_
      intro y m
      rw [List.mem_singleton.1 m]
      exact swap_odd A kl (.inl rfl) rfl nn
    have no : ∀ h12, Ext [] h11 h12 → Q (.ref n) h12 := by
      intro h12 x12
      exact q n h12 _ (x12.get0 a11') (by omega) (O11.ext0 x12) (P11.ext x12 (by simp)) (y11.then0 x12)
    have put : (isNo .non = true → ¬ (c = 1 ∧ k = 1)) → ∀ r, r = [some (.ref p), some (actD (dw c) as), some (.int (1 + (k : Int))), some (.ref n), c4] → WF ((sSeq (sE (eBM mAppend (eV 3) (aCons (e2 oAdd (e2 oAdd (eSl (eV 1) pNo (pSome (eV 2))) (eTup (aCons (eC .non) aNil))) (eSl (eV 1) (pSome (e2 oAdd (eV 2) (eC (.int 1)))) pNo)) aNil))) sNil) r h11) (fun r1 h1 => r1 = r ∧ Q (.ref n) h1) Q noN noN E := by
      rintro nn r rfl
      unfold actD
      walk_at "go"
      rw [cutw]
      walk_at "go"
      rw [cutv]
      walk_at "go"
      intro h12 x12 a12
      walk_at "go"
      exact ⟨rfl, add nn h12 x12 a12⟩
    by_cases c1 : c = 1
    · refine br_dt (by rw [c1]; rfl) ?_
      walk_at "go"
      refine br_d (fun z => ?_) (fun z => ?_)
      · refine wf_use (put (fun _ y => by have := y.2; omega) _ rfl) (fun r1 h2 y => ?_) (fun _ _ z => z) (fun _ _ z => z) (fun _ _ z => z) (fun _ _ _ z => z)
        obtain ⟨rfl, y⟩ := y
        walk_at "go"
        exact y
      · walk_at "go"
        exact no h11 Ext.rfl'
    · refine br_df (fun z => c1 (dw_lim.1 z)) ?_
      refine tr_bl (br_nt (br_df (fun z => c1 (dw_lim.1 z)) ?_))
      refine wf_use (put (fun _ y => c1 y.1) _ rfl) (fun r1 h2 y => ?_) (fun _ _ z => z) (fun _ _ z => z) (fun _ _ z => z) (fun _ _ _ z => z)
      obtain ⟨rfl, y⟩ := y
      walk_at "go"
      exact y
  · clear a8 O8 a68 e78 P8 y8 ly
    rintro i d r h9 ed ⟨c4, zs, rfl, lz, a9, O9, e89, e79, P9, y9, b9⟩
    have good : Leaf h9 d ∧ isI d = false ∧ isNo d = false := by
      have m := List.mem_of_getElem? ed
      simp only [List.mem_cons, List.not_mem_nil, or_false] at m
      rcases m with rfl | rfl | rfl | rfl | rfl | rfl
      · exact ⟨.inr (.inl ⟨_, rfl⟩), rfl, rfl⟩
      · exact ⟨.inr (.inr (.inr (.inl ⟨_, rfl, by decide, sok_dec (by decide)⟩))), rfl, rfl⟩
      · exact ⟨.inr (.inr (.inr (.inr (.inl rfl)))), rfl, rfl⟩
      · exact ⟨.inr (.inr (.inr (.inr (.inr ⟨_, rfl, e79⟩)))), rfl, rfl⟩
      · exact ⟨.inr (.inr (.inr (.inl ⟨_, rfl, by decide, sok_dec (by decide)⟩))), rfl, rfl⟩
      · exact ⟨.inr (.inl ⟨_, rfl⟩), rfl, rfl⟩
    have i6 : i < 6 := by have := (List.getElem?_eq_some_iff.1 ed).1; simpa using this
    unfold actD
    walk_at "go"
    rw [cutw]
    walk_at "go"
    rw [cutv]
    walk_at "go"
    intro h10 x10 a10
    walk_at "go"
    have o9 : Odd h9 (.tup (.str (dw c) :: swapD as k d)) := swap_odd A kl good.1 good.2.1 (fun z => by rw [good.2.2] at z; exact nomatch z)
    refine ⟨_, zs ++ [.tup (.str (dw c) :: swapD as k d)], rfl, by simp; omega, a10, ?_, x10.get1 e89 (fun z => nk z.symm), x10.get1 e79 k7n, P9.ext x10 (by simpa using fun z => np z.symm), y9.new x10 hn, by have := x10.1; omega⟩
    exact Odds.app (fun y m => (O9 y m).extN a9 (by omega) x10) (fun y m => by rw [List.mem_singleton.1 m]; exact o9.extN a9 (by omega) x10)
theorem act_right_w {p : Nat} {c : DW} {as : List Nm} (P : Pot h p) (A : Act c as) (q : ∀ h1, Pot h1 p → Ext [p] h h1 → Q (.bl true) h1) : WP (f__law_act_right [.ref p, actD (dw c) as] h) Q E := by
  have pl := P.lt
  have ll := A.llen
  have few := A.few
  have fa : Fine 1 70000 (actP (dw c) as) := fine_act (by have := (dw_free c).2; omega) (sok_dw c) (by omega) A.fit
  have fl : Fine 0 (10 * 200 + 2) (.str (lineS (dw c) as)) := fine_str ll (sok_line c as)
  have rr : ∀ (h1 : LH) (Q : D → LH → Prop) (E : EP), (∀ h2, Ext [] h1 h2 → Q (.str (lineS (dw c) as)) h2) → WP (f_line_of [actD (dw c) as] h1) Q E := by
    intro h1 Q E z
    refine line_w (by have := (dw_free c).2; omega) (by omega) A.fit (fun _ => z) ?_
    intro y
    rw [A.deed] at y; exact nomatch y
  have told : ∀ (h1 : LH) (th : EX) (r : LS) (Q : D → LH → Prop) (E : EP), (∀ (Q : D → LH → Prop) (E : EP), WP (f_line_of [actD (dw c) as] h1) Q E → WP (th r h1) Q E) → (∀ n h2, h1.length ≤ n → Ext [] h1 h2 → h2[n]? = some (.lst [.str "told", .str (PyData.str (lineS (dw c) as)).shown]) → Q (.ref n) h2) → WP (eTold 2 b__law_heard th r h1) Q E := by
    intro h1 th r Q E ht z
    refine heard_w (ht _ _ (rr h1 _ _ ?_))
    intro h2 x2
    refine ⟨.str (lineS (dw c) as), rfl, fl.show (by decide) (by decide), ?_⟩
    intro n h3 l3 x3 a3
    exact z n h3 (by have := x2.1; omega) (x2.trans x3) a3
  have st : ∀ x ∈ ([.str "told", .str (PyData.str (lineS (dw c) as)).shown] : List D), ∀ z, x = .str z → Sok z := by
    intro x m z ez
    subst ez
    simp only [List.mem_cons, List.not_mem_nil, or_false, D.str.injEq] at m
    rcases m with rfl | rfl
    · exact sok_dec (by decide)
    · exact fl.s
  unfold f__law_act_right b__law_act_right
  walk_at "into"
  walk_at "go"
  refine spelled_w A ?_
  intro h1 x1
  walk_at "run"
  walk_at "run"
  walk_at "run"
  walk_at "run"
  refine told h1 _ _ _ _ (fun Q E z => ?_) ?_
  · walk_at "go"; exact z
  intro n2 h2 l2 x2 a2
  walk_at "go"
  refine wp_repKd (a := .str (lineS (dw c) as)) rfl (fl.show (by decide) (by decide)) ?_
  walk_at "go"
  intro n3 h3 l3 x3 a3
  refine wp_eqFl (x3.get0 a2) a3 rfl st ?_
  walk_at "go"
  refine told h3 _ _ _ _ (fun Q E z => ?_) ?_
  · walk_at "go"; exact z
  intro n4 h4 l4 x4 a4
  walk_at "go"
  refine wp_repKd (a := .str (lineS (dw c) as)) rfl (fl.show (by decide) (by decide)) ?_
  walk_at "go"
  intro n5 h5 l5 x5 a5
  refine wp_eqFl (x5.get0 a4) a5 rfl st ?_
  have x05 := (((x1.trans x2).trans x3).trans x4).trans x5
  have P5 := P.ext x05 (by simp)
  clear a2 a3 a4 a5 x1 x2 x3 x4 x5 P
  walk_at "go"
  refine line_right_w (by omega) ?_
  intro h6 x6
  walk_at "go"
  refine law_read_w (L := lineS (dw c) as) (by omega) A.words ?_
  intro h7 x7
  rw [A.read]
  walk_at "go"
  refine wp_repKd (a := actP (dw c) as) deep_act (fa.show (by decide) (by decide)) ?_
  walk_at "go"
  refine wp_repKd (a := actP (dw c) as) deep_act (fa.show (by decide) (by decide)) ?_
  walk_at "go"
  refine br_dt rfl ?_
  have P7 := (P5.ext x6 (by simp)).ext x7 (by simp)
  have x07 := (x05.trans x6).trans x7
  clear x05 x6 x7 P5
  walk_at "go"
  refine odd_acts_w P7 A ?_
  intro n8 h8 ys a8 ly O8 P8 x8
  walk_at "go"
  refine wf_forL ys (by omega) (fun i r h' => ∃ c3 : Option D, r = [some (.ref p), some (actD (dw c) as), some (.str (lineS (dw c) as)), c3] ∧ Ext [] h8 h') ?_ ⟨_, rfl, Ext.rfl'⟩ ?_ ?_
  · rintro i r h' ⟨c3, _, x9⟩
    rw [src_lst (x9.get0 a8)]
  · rintro r h9 ⟨c3, rfl, x9⟩
    walk_at "go"
    exact q h9 (P8.ext x9 (by simp)) ((x07.w0.trans x8).then0 x9)
  · rintro i d r h9 ed ⟨c3, rfl, x9⟩
    have O9 := (O8 d (List.mem_of_getElem? ed)).ext0 x9
    obtain ⟨a, ea, fa2⟩ := O9.dat
    have sa := fa2.show (by decide) (by decide)
    walk_at "run"
    walk_at "run"
    walk_at "run"
    walk_at "run"
    refine wp_use0 (heard_w (E := noE) (Q := fun v h1 => ∃ n, v = .ref n ∧ h1[n]? = some (.lst [.str "deed", .str a.shown, .bl true]) ∧ Ext [] h9 h1) ?_) ?_
    · walk_at "go"
      refine refused_w O9 ?_
      intro h10 x10
      refine .inl ⟨rfl, d, a, rfl, deepK_ext x10 _ _ _ ea, sa, ?_⟩
      intro n h11 l11 x11 a11
      exact ⟨n, rfl, a11, x10.trans x11⟩
    rintro v h10 ⟨n10, rfl, a10, x10⟩
    walk_at "go"
    refine wp_repKd (deepK_ext x10 _ _ _ ea) sa ?_
    walk_at "go"
    intro n11 h11 l11 x11 a11
    refine wp_eqFl (x11.get0 a10) a11 rfl ?_ ?_
    · intro x m z ez
      subst ez
      simp only [List.mem_cons, List.not_mem_nil, or_false, reduceCtorEq, D.str.injEq] at m
      rcases m with rfl | rfl
      · exact sok_dec (by decide)
      · exact fa2.s
    walk_at "go"
    exact ⟨_, rfl, (x9.trans x10).trans x11⟩
theorem text_refused {d : D} {k : Kd} {th : EX} {r : LS} (e : kindD d h = some k) (n : k ≠ .str) (ht : ∀ (Q : D → LH → Prop) (E : EP), WP (f_read_deed [d] h) Q E → WP (th r h) Q E)
    (q : ∀ n h1, h.length ≤ n → Ext [] h h1 → h1[n]? = some (.lst [.str "text", .str "1", .bl true]) → Q (.ref n) h1) : WP (eTold 2 b__law_heard th r h) Q E := by
  refine heard_w (ht _ _ ?_)
  unfold f_read_deed b_read_deed
  walk_at "into"
  walk_at "go"
  refine ⟨k, e, ?_⟩
  have z : (([.str] : List Kd).any fun t => k.is t) = false := by
    cases k with
    | str => exact absurd rfl n
    | _ => rfl
  show Ev.IsB _ _
  rw [z]
  walk_at "go"
  exact .inr ⟨rfl, rfl, q⟩
theorem right_w {p : Nat} (P : Pot h p) (q : ∀ h1, Ext [p] h h1 → Q (.bl true) h1) : WP (f__law_right [.ref p] h) Q E := by
  have pl := P.lt
  unfold f__law_right b__law_right
  walk_at "into"
  walk_at "go"
  refine wp_comp (fun i => .int (0 + (i : Nat))) 8 (fun i acc h' => ∃ ac : List (DW × List Nm), acc = ac.map (fun z => actD (dw z.1) z.2) ∧ ac.length = i ∧ (∀ z ∈ ac, Act z.1 z.2) ∧ Pot h' p ∧ Ext [p] h h') (by omega) ⟨[], rfl, rfl, (fun z m => nomatch m), P, Ext.rfl'⟩ ?main ?item
  case item =>
    rintro i acc h1 li ⟨ac, rfl, la, ga, P1, x1⟩
    refine ⟨?_, _, rfl, ?_⟩
    · show some (rangeL 0 8)[i]? = _
      rw [rangeL_get (by omega)]
    walk_at "go"
    refine act_w P1 ?_
    intro c as h2 A P2 x2
    refine need (by rw [List.length_map]; exact lt_line (by omega)) ⟨ac ++ [(c, as)], by rw [List.map_append]; rfl, by simp; omega, ?_, P2, x1.trans x2⟩
    intro z m
    rcases List.mem_append.1 m with m | m
    · exact ga z m
    · rw [List.mem_singleton.1 m]; exact A
  rintro acc h1 ⟨ac, rfl, la, ga, P1, x1⟩
  refine ⟨rfl, ?_⟩
  intro n h2 l2 x2 a2
  have P2 := P1.ext x2 (by simp)
  have y2 := x1.then0 x2
  have np : n ≠ p := by have := P1.lt; omega
  clear P P1 x1 x2
  have nl2 := lt_of_at a2
  walk_at "go"
  refine wf_forL (ac.map fun z => actD (dw z.1) z.2) (by rw [List.length_map]; omega) (fun i r h' => ∃ c2 c3 c4 : Option D, r = [some (.ref p), some (.ref n), c2, c3, c4] ∧ Pot h' p ∧ Ext [p] h2 h') ?_ ⟨_, _, _, rfl, P2, Ext.rfl'⟩ ?_ ?_
  · rintro i r h' ⟨c2, c3, c4, _, _, x3⟩
    rw [src_lst (x3.get1 a2 np)]
  · rintro r h3 ⟨c2, c3, c4, rfl, P3, x3⟩
    have a3 := x3.get1 a2 np
    have y3 := y2.trans x3
    have nl3 := lt_of_at a3
    clear a2 P2 y2 x3
    walk_at "go"
    intro k4 h4 l4 x4 a4
    walk_at "go"
    intro k5 h5 l5 x5 a5
    walk_at "go"
    refine wp_eDnew ?_
    intro k6 h6 l6 x6 a6
    walk_at "go"
    intro k7 h7 l7 x7 a7
    have e3 := x7.get0 (x6.get0 (x5.get0 (x4.get0 a3)))
    have e4 := x7.get0 (x6.get0 (x5.get0 a4))
    have e5 := x7.get0 (x6.get0 a5)
    have e6 := x7.get0 a6
    have P7 := (((P3.ext x4 (by simp)).ext x5 (by simp)).ext x6 (by simp)).ext x7 (by simp)
    have y7 := (((y3.then0 x4).then0 x5).then0 x6).then0 x7
    clear a3 a4 a5 a6 x4 x5 x6 x7 P3 y3
    walk_at "go"
    refine wf_forL [.non, .int 0, .bl true, .ref k4, .tup [.str "step", .int 0], .ref k5, .ref k6, .ref n] (by simp) (fun i r h' => ∃ c2 c3 c4 : Option D, r = [some (.ref p), some (.ref n), c2, c3, c4] ∧ Ext [] h7 h') ?_ ⟨_, _, _, rfl, Ext.rfl'⟩ ?_ ?_
    · rintro i r h' ⟨c2, c3, c4, _, x8⟩
      rw [src_lst (x8.get0 a7)]
    · rintro r h8 ⟨c2, c3, c4, rfl, x8⟩
      have a8 := x8.get0 e3
      have P8 := P7.ext x8 (by simp)
      have y8 := y7.then0 x8
      walk_at "go"
      refine line_right_w (by decide) ?_
      intro h9 x9
      walk_at "go"
      refine line_right_w (by decide) ?_
      intro h10 x10
      walk_at "go"
      refine line_right_w (by decide +kernel) ?_
      intro h11 x11
      have x811 := (x9.trans x10).trans x11
      have a11 := x811.get0 a8
      walk_at "go"
      obtain ⟨z, rest, ez⟩ : ∃ z rest, ac = z :: rest := by
        cases ac with
        | nil => simp at la
        | cons z rest => exact ⟨z, rest, rfl⟩
      refine wp_ix (i := ((0 : Nat) : Int)) (seq_lst a11) (L2.atI_nat (v := actD (dw z.1) z.2) (by rw [ez]; rfl)) ?_
      walk_at "go"
      refine act_right_w (P8.ext x811 (by simp)) (ga z (by rw [ez]; simp)) ?_
      intro h12 P12 x12
      exact q h12 ((y8.then0 x811).trans x12)
    · rintro i d r h8 ed ⟨c2, c3, c4, rfl, x8⟩
      have kd : ∃ k, kindD d h8 = some k ∧ k ≠ .str := by
        have m := List.mem_of_getElem? ed
        simp only [List.mem_cons, List.not_mem_nil, or_false] at m
        rcases m with rfl | rfl | rfl | rfl | rfl | rfl | rfl | rfl
        · exact ⟨_, rfl, fun z => nomatch z⟩
        · exact ⟨_, rfl, fun z => nomatch z⟩
        · exact ⟨_, rfl, fun z => nomatch z⟩
        · exact ⟨_, kind_lst (x8.get0 e4), fun z => nomatch z⟩
        · exact ⟨_, rfl, fun z => nomatch z⟩
        · exact ⟨_, kind_lst (x8.get0 e5), fun z => nomatch z⟩
        · exact ⟨.dict, by simp only [kindD, x8.get0 e6], fun z => nomatch z⟩
        · exact ⟨_, kind_lst (x8.get0 e3), fun z => nomatch z⟩
      obtain ⟨k, ek, nk⟩ := kd
      walk_at "run"
      walk_at "run"
      walk_at "run"
      walk_at "run"
      refine text_refused ek nk (fun Q E z => ?_) ?_
      · walk_at "go"; exact z
      intro n9 h9 l9 x9 a9
      walk_at "go"
      intro n10 h10 l10 x10 a10
      refine wp_eqFl (x10.get0 a9) a10 rfl ?_ ?_
      · intro x m z ez
        subst ez
        simp only [List.mem_cons, List.not_mem_nil, or_false, reduceCtorEq, D.str.injEq] at m
        rcases m with rfl | rfl
        · exact sok_dec (by decide)
        · exact sok_dec (by decide)
      walk_at "go"
      exact ⟨_, _, _, rfl, (x8.trans x9).trans x10⟩
  · rintro i d r h3 ed ⟨c2, c3, c4, rfl, P3, x3⟩
    rw [List.getElem?_map] at ed
    obtain ⟨z, ez, rfl⟩ := Option.map_eq_some_iff.1 ed
    have A := ga z (List.mem_of_getElem? ez)
    obtain ⟨c, as⟩ := z
    walk_at "go"
    refine act_right_w P3 A ?_
    intro h4 P4 x4
    walk_at "go"
    refine wp_comp (fun i => .int (0 + (i : Nat))) 8 (fun i acc h' => acc = (List.range i).map (fun _ => .bl true) ∧ Pot h' p ∧ Ext [p] h4 h') (by omega) ⟨rfl, P4, Ext.rfl'⟩ ?_ ?_
    · rintro acc h5 ⟨rfl, P5, x5⟩
      refine ⟨rfl, ?_⟩
      intro n6 h6 l6 x6 a6
      walk_at "go"
      refine wp_allT a6 ?_
      walk_at "go"
      exact ⟨_, _, _, rfl, P5.ext x6 (by simp), ((x3.trans x4).trans x5).then0 x6⟩
    · rintro j acc h5 lj ⟨rfl, P5, x5⟩
      refine ⟨?_, _, rfl, ?_⟩
      · show some (rangeL 0 8)[j]? = _
        rw [rangeL_get (by omega)]
      walk_at "go"
      refine spelled_w A ?_
      intro h6 x6
      walk_at "go"
      refine bent_w (P5.ext x6 (by simp)) A ?_
      intro s h7 ls P7 x7
      walk_at "go"
      refine line_right_w ls ?_
      intro h8 x8
      refine need (by rw [List.length_map, List.length_range]; exact lt_line (by omega)) ⟨by rw [List.range_succ, List.map_append]; rfl, P7.ext x8 (by simp), ((x5.then0 x6).trans x7).then0 x8⟩
end
theorem law_true : ∀ ns : List Int, ns.length ≤ 63 → ∃ h', f_law [.scr ns] [] = .ok (.bl true) h' := by
  intro ns hl
  have main : WP (f_law [.scr ns] []) (fun d _ => d = .bl true) noE := by
    unfold f_law b_law
    walk_at "into"
    walk_at "go"
    have ge : ∃ z : Int, (if (if (3 : Int) < ((ns.map D.int).length : Int) then 3 else ((ns.map D.int).length : Int)) > 1 then (if (3 : Int) < ((ns.map D.int).length : Int) then 3 else ((ns.map D.int).length : Int)) else 1) = z ∧ 0 ≤ z ∧ z ≤ 3 := by
      refine ⟨_, rfl, ?_, ?_⟩ <;> split <;> split <;> omega
    obtain ⟨z, ge, z0, z2⟩ := ge
    rw [ge]
    walk_at "go"
    obtain ⟨m, rfl⟩ : ∃ m : Nat, z = m := ⟨z.toNat, by omega⟩
    refine wp_mapN (fun _ => .bl true) gives_range (by simp; omega) ?_ ?_
    · intro c mc h5 x5
      rw [List.mem_range] at mc
      refine ⟨_, rfl, ?_⟩
      walk_at "go"
      refine pot_w (by omega) ?_
      intro p h6 l6 P6 x6
      walk_at "go"
      refine right_w P6 ?_
      intro h7 x7
      exact ⟨rfl, x6.new x7 l6⟩
    intro n' h6 l6 x6 a6
    walk_at "go"
    refine wp_allT a6 ?_
    rfl
  obtain ⟨a, h', e, rfl⟩ := wp_eq main
  exact ⟨h', e⟩
end
end Lw

set_option Elab.async false
set_option linter.all false
set_option maxRecDepth 100000
set_option maxHeartbeats 2000000
namespace Py
open PySem PySem.Spec PyProof.Rows L2
/-- the law's end over facts that the run tells -/
theorem walk_hT {l : PySem.W.OpenLaw} {n k : Nat} {q : Program} {loose : List Str} {XP : (Str → Option Value) → Heap → Prop} {YP : World → Heap → Prop} {d : DefRec} {x : Str}
    (hn : l.most = some n) (hn2 : n ≤ sizeLine) (hdf : d.params.defaults = []) (hr : Room k callerA)
    (F : ∀ (w : World) (mg : Str → Option Value) (fa : Addr) (h : Heap), YP w h → h.Ns mainGlobals mg → mg d.name = some (.ref fa) →
      (∀ K : PySem.W.Frag, K.In h → ∀ (e : DefRec) (y : Str) (c P : Addr), (recsOf q).find? (fun e => e.name == y) = some e → PySem.W.tabIn K y = some (c, P) → PySem.W.CodeHd h c P ∧ h.get? P = some { cls := .none, data := .fields #[] }) →
      ∃ (K : PySem.W.Frag), K.In h ∧ ∃ (fd : FuncData) (cs : List (Addr × Addr)) (tabs : List (Addr × Str)), (∀ (s : Shared) (u : Value), BindsTo s fd ⟨[u], []⟩ [(x, u)]) ∧
        (∀ p ∈ cs, (PySem.W.CodeHd h p.1 p.2 ∧ h.get? p.2 = some { cls := .none, data := .fields #[] }) ∧ K.lookup p.2 = none) ∧ (∀ H : Hp, (∀ p ∈ cs, H p.2 = some (.tbl #[])) → LamX.Tabs tabs H) ∧
        ∀ base : Heap, K.In base → base.Ns mainGlobals mg → (∀ p ∈ cs, LamX.TabB base mg p.1 p.2) → FnG l.prog w K mg base CX0 k fa fd [x] (spLaw n K tabs)) :
    PySem.W.WalkO q loose XP YP l.row.toRowW d [] (fun f vs => PySem.call f vs) := by
  refine Att.attach_call hn hdf ?_
  intro w s0 s1 mg mb fa o pm cd doc a vs ns G Y ho hd hcd hmg hobj hints hlen hg
  obtain ⟨K, kin, fd, cs, tabs, hb, hcs, hT, hF⟩ := F w mg fa _ Y G.T.g hmg fun K kin e y c P h1 h2 => PySem.W.tab_of G.T kin h1 h2
  exact law_endT kin G.T.g G.T.b G.T.builtins G.T.nolimit hg (fun p m => (hcs p m).1.2) (fun p m => (hcs p m).2) (fun p m => (hcs p m).1.1) G.T.bmain hobj hints (Nat.le_trans hlen hn2) hr hF hb
    fun H hH hS => ⟨hT H hH, a, ns, rfl, hS, hlen, fun _ => rfl⟩
end Py

set_option Elab.async false
set_option linter.all false
set_option maxRecDepth 100000
set_option maxHeartbeats 4000000
namespace Lw
open PySem PySem.Spec PyProof.Rows L2 Py
theorem all_h (hT : ∀ ns : List Int, ns.length ≤ 63 → ∃ h', f_law [.scr ns] [] = .ok (.bl true) h') {l : PySem.W.OpenLaw} {w : World} {K : PySem.W.Frag} {h : Heap} {mg : Str → Option Value} {fa : Addr} (qq : Program) {dr__law_act_right : DefRec} {dr__law_line_right : DefRec} {dr__law_right : DefRec} (KX : K.In h) (G : h.Ns mainGlobals mg) (hmg : mg ("law" : Str) = some (.ref fa)) (c : Rn.obF K = Rn.vaF w) (tabOf : ∀ (e : DefRec) (y : Str) (c P : Addr), (recsOf qq).find? (fun e => e.name == y) = some e → PySem.W.tabIn K y = some (c, P) → PySem.W.CodeHd h c P ∧ h.get? P = some { cls := .none, data := .fields #[] }) (rc__law_act_right : (recsOf qq).find? (fun e => e.name == ("_law_act_right" : Str)) = some dr__law_act_right) (rc__law_line_right : (recsOf qq).find? (fun e => e.name == ("_law_line_right" : Str)) = some dr__law_line_right) (rc__law_right : (recsOf qq).find? (fun e => e.name == ("_law_right" : Str)) = some dr__law_right) :
    ∃ (fd : FuncData) (cs : List (Addr × Addr)) (tabs : List (Addr × Str)), (∀ (s : Shared) (u : Value), BindsTo s fd ⟨[u], []⟩ [("_law_script", u)]) ∧
      (∀ p ∈ cs, (PySem.W.CodeHd h p.1 p.2 ∧ h.get? p.2 = some { cls := .none, data := .fields #[] }) ∧ K.lookup p.2 = none) ∧ (∀ H : Hp, (∀ p ∈ cs, H p.2 = some (.tbl #[])) → LamX.Tabs tabs H) ∧
      ∀ base : Heap, K.In base → base.Ns mainGlobals mg → (∀ p ∈ cs, LamX.TabB base mg p.1 p.2) → FnG l.prog w K mg base CX0 10 fa fd ["_law_script"] (spLaw 63 K tabs) := by
  unfold Rn.obF Rn.vaF at c
  have c0 := congrArg Prod.fst c
  replace c := congrArg Prod.snd c
  dsimp only at c0 c
  unfold Rn.lk0 at c0
  obtain ⟨g, c0⟩ := Hk.ba c0
  unfold Rn.bs0 at g
  obtain ⟨e_aC_InvalidDeed, g⟩ := Hk.ba g
  obtain ⟨e_xk_InvalidDeed, g⟩ := Hk.ba g
  obtain ⟨e_xs_InvalidDeed, g⟩ := Hk.ba g
  obtain ⟨e_xt_InvalidDeed, g⟩ := Hk.ba g
  obtain ⟨e_xa_InvalidDeed, g⟩ := Hk.ba g
  obtain ⟨e_xb_InvalidDeed, g⟩ := Hk.ba g
  obtain ⟨e_xc_InvalidDeed, g⟩ := Hk.ba g
  obtain ⟨e_xd_InvalidDeed, g⟩ := Hk.ba g
  obtain ⟨e_xh_InvalidDeed, g⟩ := Hk.ba g
  obtain ⟨e_xe_InvalidDeed, g⟩ := Hk.ba g
  obtain ⟨e_xg_InvalidDeed, g⟩ := Hk.ba g
  obtain ⟨e_xn_InvalidDeed, g⟩ := Hk.ba g
  obtain ⟨e_aC_InvalidText, g⟩ := Hk.ba g
  obtain ⟨e_xk_InvalidText, g⟩ := Hk.ba g
  obtain ⟨e_xs_InvalidText, g⟩ := Hk.ba g
  obtain ⟨e_xt_InvalidText, g⟩ := Hk.ba g
  obtain ⟨e_xa_InvalidText, g⟩ := Hk.ba g
  obtain ⟨e_xb_InvalidText, g⟩ := Hk.ba g
  obtain ⟨e_xc_InvalidText, g⟩ := Hk.ba g
  obtain ⟨e_xd_InvalidText, g⟩ := Hk.ba g
  obtain ⟨e_xh_InvalidText, g⟩ := Hk.ba g
  obtain ⟨e_xe_InvalidText, g⟩ := Hk.ba g
  obtain ⟨e_xg_InvalidText, g⟩ := Hk.ba g
  obtain ⟨e_xn_InvalidText, g⟩ := Hk.ba g
  obtain ⟨e_xm_InvalidDeed_InvalidDeed, g⟩ := Hk.ba g
  obtain ⟨e_xm_InvalidDeed_InvalidText, g⟩ := Hk.ba g
  obtain ⟨e_xm_InvalidText_InvalidDeed, g⟩ := Hk.ba g
  obtain ⟨e_xm_InvalidText_InvalidText, g⟩ := Hk.ba g
  obtain ⟨e_a_InvalidDeed___init__, g⟩ := Hk.ba g
  obtain ⟨e_i_InvalidDeed___init__, g⟩ := Hk.ba g
  clear g
  obtain ⟨g, c0⟩ := Hk.ba c0
  unfold Rn.bs1 at g
  obtain ⟨e_l_InvalidDeed___init__, g⟩ := Hk.ba g
  obtain ⟨e_c_InvalidDeed___init__, g⟩ := Hk.ba g
  obtain ⟨e_k_InvalidDeed___init__, g⟩ := Hk.ba g
  obtain ⟨e_a_InvalidText___init__, g⟩ := Hk.ba g
  obtain ⟨e_i_InvalidText___init__, g⟩ := Hk.ba g
  obtain ⟨e_l_InvalidText___init__, g⟩ := Hk.ba g
  obtain ⟨e_c_InvalidText___init__, g⟩ := Hk.ba g
  obtain ⟨e_k_InvalidText___init__, g⟩ := Hk.ba g
  obtain ⟨e_aC_WayError, g⟩ := Hk.ba g
  obtain ⟨e_ea_InvalidDeed, g⟩ := Hk.ba g
  obtain ⟨e_eb_InvalidDeed, g⟩ := Hk.ba g
  obtain ⟨e_es_InvalidDeed, g⟩ := Hk.ba g
  obtain ⟨e_ed_InvalidDeed, g⟩ := Hk.ba g
  obtain ⟨e_ee_InvalidDeed, g⟩ := Hk.ba g
  obtain ⟨e_ef_InvalidDeed, g⟩ := Hk.ba g
  obtain ⟨e_eg_InvalidDeed, g⟩ := Hk.ba g
  obtain ⟨e_eh_InvalidDeed, g⟩ := Hk.ba g
  obtain ⟨e_ea_InvalidText, g⟩ := Hk.ba g
  obtain ⟨e_eb_InvalidText, g⟩ := Hk.ba g
  obtain ⟨e_es_InvalidText, g⟩ := Hk.ba g
  obtain ⟨e_ed_InvalidText, g⟩ := Hk.ba g
  obtain ⟨e_ee_InvalidText, g⟩ := Hk.ba g
  obtain ⟨e_ef_InvalidText, g⟩ := Hk.ba g
  obtain ⟨e_eg_InvalidText, g⟩ := Hk.ba g
  obtain ⟨e_eh_InvalidText, g⟩ := Hk.ba g
  obtain ⟨e_ki_InvalidDeed_WayError, g⟩ := Hk.ba g
  obtain ⟨e_ki_InvalidText_WayError, g⟩ := Hk.ba g
  obtain ⟨e_dt__law_line_right__law_act_right, g⟩ := Hk.ba g
  obtain ⟨e_dt__law_right__law_act_right, g⟩ := Hk.ba g
  obtain ⟨e_dt__law_right__law_line_right, g⟩ := Hk.ba g
  clear g
  obtain ⟨g, c0⟩ := Hk.ba c0
  unfold Rn.bs2 at g
  obtain ⟨e_a__law_draw, g⟩ := Hk.ba g
  obtain ⟨e_l__law_draw, g⟩ := Hk.ba g
  obtain ⟨e_c__law_draw, g⟩ := Hk.ba g
  obtain ⟨e_k__law_draw, g⟩ := Hk.ba g
  obtain ⟨e_a__law_pick, g⟩ := Hk.ba g
  obtain ⟨e_l__law_pick, g⟩ := Hk.ba g
  obtain ⟨e_c__law_pick, g⟩ := Hk.ba g
  obtain ⟨e_k__law_pick, g⟩ := Hk.ba g
  obtain ⟨e_a__law_lots, g⟩ := Hk.ba g
  obtain ⟨e_l__law_lots, g⟩ := Hk.ba g
  obtain ⟨e_c__law_lots, g⟩ := Hk.ba g
  obtain ⟨e_k__law_lots, g⟩ := Hk.ba g
  obtain ⟨e_a__law_number, g⟩ := Hk.ba g
  obtain ⟨e_l__law_number, g⟩ := Hk.ba g
  obtain ⟨e_c__law_number, g⟩ := Hk.ba g
  obtain ⟨e_k__law_number, g⟩ := Hk.ba g
  obtain ⟨e_a__law_act, g⟩ := Hk.ba g
  obtain ⟨e_l__law_act, g⟩ := Hk.ba g
  obtain ⟨e_c__law_act, g⟩ := Hk.ba g
  obtain ⟨e_k__law_act, g⟩ := Hk.ba g
  obtain ⟨e_a__law_spelled, g⟩ := Hk.ba g
  obtain ⟨e_l__law_spelled, g⟩ := Hk.ba g
  obtain ⟨e_c__law_spelled, g⟩ := Hk.ba g
  obtain ⟨e_k__law_spelled, g⟩ := Hk.ba g
  obtain ⟨e_a__law_heard, g⟩ := Hk.ba g
  obtain ⟨e_l__law_heard, g⟩ := Hk.ba g
  obtain ⟨e_c__law_heard, g⟩ := Hk.ba g
  obtain ⟨e_k__law_heard, g⟩ := Hk.ba g
  obtain ⟨e_a_is_integer, g⟩ := Hk.ba g
  obtain ⟨e_l_is_integer, g⟩ := Hk.ba g
  clear g
  obtain ⟨g, c0⟩ := Hk.ba c0
  unfold Rn.bs3 at g
  obtain ⟨e_c_is_integer, g⟩ := Hk.ba g
  obtain ⟨e_k_is_integer, g⟩ := Hk.ba g
  obtain ⟨e_a_is_deed, g⟩ := Hk.ba g
  obtain ⟨e_l_is_deed, g⟩ := Hk.ba g
  obtain ⟨e_c_is_deed, g⟩ := Hk.ba g
  obtain ⟨e_k_is_deed, g⟩ := Hk.ba g
  obtain ⟨e_a_line_of, g⟩ := Hk.ba g
  obtain ⟨e_l_line_of, g⟩ := Hk.ba g
  obtain ⟨e_c_line_of, g⟩ := Hk.ba g
  obtain ⟨e_k_line_of, g⟩ := Hk.ba g
  obtain ⟨e_a__law_integer, g⟩ := Hk.ba g
  obtain ⟨e_l__law_integer, g⟩ := Hk.ba g
  obtain ⟨e_c__law_integer, g⟩ := Hk.ba g
  obtain ⟨e_k__law_integer, g⟩ := Hk.ba g
  obtain ⟨e_a__law_read, g⟩ := Hk.ba g
  obtain ⟨e_l__law_read, g⟩ := Hk.ba g
  obtain ⟨e_c__law_read, g⟩ := Hk.ba g
  obtain ⟨e_k__law_read, g⟩ := Hk.ba g
  obtain ⟨e_a_number_of, g⟩ := Hk.ba g
  obtain ⟨e_l_number_of, g⟩ := Hk.ba g
  obtain ⟨e_c_number_of, g⟩ := Hk.ba g
  obtain ⟨e_k_number_of, g⟩ := Hk.ba g
  obtain ⟨e_a_read_deed, g⟩ := Hk.ba g
  obtain ⟨e_l_read_deed, g⟩ := Hk.ba g
  obtain ⟨e_c_read_deed, g⟩ := Hk.ba g
  obtain ⟨e_k_read_deed, g⟩ := Hk.ba g
  obtain ⟨e_a__law_line_right, g⟩ := Hk.ba g
  obtain ⟨e_tb__law_line_right, g⟩ := Hk.ba g
  obtain ⟨e_tn__law_line_right, g⟩ := Hk.ba g
  obtain ⟨e_l__law_line_right, g⟩ := Hk.ba g
  clear g
  obtain ⟨g, c0⟩ := Hk.ba c0
  unfold Rn.bs4 at g
  obtain ⟨e_c__law_line_right, g⟩ := Hk.ba g
  obtain ⟨e_k__law_line_right, g⟩ := Hk.ba g
  obtain ⟨e_a__law_odd_acts, g⟩ := Hk.ba g
  obtain ⟨e_l__law_odd_acts, g⟩ := Hk.ba g
  obtain ⟨e_c__law_odd_acts, g⟩ := Hk.ba g
  obtain ⟨e_k__law_odd_acts, g⟩ := Hk.ba g
  obtain ⟨e_a__law_act_right, g⟩ := Hk.ba g
  obtain ⟨e_tb__law_act_right, g⟩ := Hk.ba g
  obtain ⟨e_tn__law_act_right, g⟩ := Hk.ba g
  obtain ⟨e_l__law_act_right, g⟩ := Hk.ba g
  obtain ⟨e_c__law_act_right, g⟩ := Hk.ba g
  obtain ⟨e_k__law_act_right, g⟩ := Hk.ba g
  obtain ⟨e_a__law_bent, g⟩ := Hk.ba g
  obtain ⟨e_l__law_bent, g⟩ := Hk.ba g
  obtain ⟨e_c__law_bent, g⟩ := Hk.ba g
  obtain ⟨e_k__law_bent, g⟩ := Hk.ba g
  obtain ⟨e_a__law_right, g⟩ := Hk.ba g
  obtain ⟨e_tb__law_right, g⟩ := Hk.ba g
  obtain ⟨e_tn__law_right, g⟩ := Hk.ba g
  obtain ⟨e_l__law_right, g⟩ := Hk.ba g
  obtain ⟨e_c__law_right, g⟩ := Hk.ba g
  obtain ⟨e_k__law_right, g⟩ := Hk.ba g
  obtain ⟨e_a__law_pot, g⟩ := Hk.ba g
  obtain ⟨e_l__law_pot, g⟩ := Hk.ba g
  obtain ⟨e_c__law_pot, g⟩ := Hk.ba g
  obtain ⟨e_k__law_pot, g⟩ := Hk.ba g
  obtain ⟨e_a_law, g⟩ := Hk.ba g
  obtain ⟨e_l_law, g⟩ := Hk.ba g
  obtain ⟨e_c_law, g⟩ := Hk.ba g
  obtain ⟨e_k_law, g⟩ := Hk.ba g
  clear g
  have g := c0
  unfold Rn.bs5 at g
  obtain ⟨e_z_abs, g⟩ := Hk.ba g
  obtain ⟨e_z_all, g⟩ := Hk.ba g
  obtain ⟨e_z_bool, g⟩ := Hk.ba g
  obtain ⟨e_z_divmod, g⟩ := Hk.ba g
  obtain ⟨e_z_int, g⟩ := Hk.ba g
  obtain ⟨e_z_isinstance, g⟩ := Hk.ba g
  obtain ⟨e_z_len, g⟩ := Hk.ba g
  obtain ⟨e_z_list, g⟩ := Hk.ba g
  obtain ⟨e_z_max, g⟩ := Hk.ba g
  obtain ⟨e_z_min, g⟩ := Hk.ba g
  obtain ⟨e_z_range, g⟩ := Hk.ba g
  obtain ⟨e_z_repr, g⟩ := Hk.ba g
  obtain ⟨e_z_str, g⟩ := Hk.ba g
  obtain ⟨e_z_tuple, g⟩ := Hk.ba g
  obtain ⟨e_y_DEED_NUMBERS, g⟩ := Hk.ba g
  obtain ⟨e_nk_DEED_NUMBERS_0, g⟩ := Hk.ba g
  obtain ⟨e_nk_DEED_NUMBERS_1, g⟩ := Hk.ba g
  obtain ⟨e_nk_DEED_NUMBERS_2, g⟩ := Hk.ba g
  obtain ⟨e_nk_DEED_NUMBERS_3, g⟩ := Hk.ba g
  obtain ⟨e_nk_DEED_NUMBERS_4, g⟩ := Hk.ba g
  obtain ⟨e_nk_DEED_NUMBERS_5, g⟩ := Hk.ba g
  obtain ⟨e_nk_DEED_NUMBERS_6, g⟩ := Hk.ba g
  obtain ⟨e_nk_DEED_NUMBERS_7, g⟩ := Hk.ba g
  obtain ⟨e_nk_DEED_NUMBERS_8, g⟩ := Hk.ba g
  obtain ⟨e_y_DIGITS, g⟩ := Hk.ba g
  obtain ⟨e_y_NOTHING, g⟩ := Hk.ba g
  clear g
  have c2 := congrArg Prod.fst c
  have c3 := congrArg Prod.snd c
  dsimp only at c2 c3
  unfold Rn.fnL Rn.fnR at c2
  unfold Rn.dwL Rn.dwR at c3
  obtain ⟨y0, c3⟩ := List.cons.inj c3
  obtain ⟨w0, c2⟩ := List.cons.inj c2
  obtain ⟨w1, c2⟩ := List.cons.inj c2
  obtain ⟨w2, c2⟩ := List.cons.inj c2
  obtain ⟨w3, c2⟩ := List.cons.inj c2
  obtain ⟨w4, c2⟩ := List.cons.inj c2
  obtain ⟨w5, c2⟩ := List.cons.inj c2
  obtain ⟨w6, c2⟩ := List.cons.inj c2
  obtain ⟨w7, c2⟩ := List.cons.inj c2
  obtain ⟨w8, c2⟩ := List.cons.inj c2
  obtain ⟨w9, c2⟩ := List.cons.inj c2
  obtain ⟨w10, c2⟩ := List.cons.inj c2
  obtain ⟨w11, c2⟩ := List.cons.inj c2
  obtain ⟨w12, c2⟩ := List.cons.inj c2
  obtain ⟨w13, c2⟩ := List.cons.inj c2
  obtain ⟨w14, c2⟩ := List.cons.inj c2
  obtain ⟨w15, c2⟩ := List.cons.inj c2
  obtain ⟨w16, c2⟩ := List.cons.inj c2
  obtain ⟨w17, c2⟩ := List.cons.inj c2
  obtain ⟨w18, c2⟩ := List.cons.inj c2
  obtain ⟨w19, c2⟩ := List.cons.inj c2
  obtain ⟨w20, c2⟩ := List.cons.inj c2
  obtain ⟨w21, c2⟩ := List.cons.inj c2
  obtain ⟨w22, c2⟩ := List.cons.inj c2
  obtain rfl : fa = Rn.v_fa K := by
    have z := PySem.W.mg_of KX G (Hk.de e_a_law)
    exact Value.ref.inj (Option.some.inj (hmg.symm.trans z))
  exact all_mk hT KX G hmg (Hk.de e_aC_InvalidDeed) (Hk.de e_xk_InvalidDeed) (Hk.de e_xs_InvalidDeed) (Hk.de e_xt_InvalidDeed) (Hk.de e_xa_InvalidDeed) (Hk.de e_xb_InvalidDeed) (Hk.de e_xc_InvalidDeed) (Hk.de e_xd_InvalidDeed) (Hk.de e_xh_InvalidDeed) (Hk.de e_xe_InvalidDeed) (Hk.de e_xg_InvalidDeed) (Hk.de e_xn_InvalidDeed) (Hk.de e_aC_InvalidText) (Hk.de e_xk_InvalidText) (Hk.de e_xs_InvalidText) (Hk.de e_xt_InvalidText) (Hk.de e_xa_InvalidText) (Hk.de e_xb_InvalidText) (Hk.de e_xc_InvalidText) (Hk.de e_xd_InvalidText) (Hk.de e_xh_InvalidText) (Hk.de e_xe_InvalidText) (Hk.de e_xg_InvalidText) (Hk.de e_xn_InvalidText) (Hk.de e_xm_InvalidDeed_InvalidDeed) (Hk.de e_xm_InvalidDeed_InvalidText) (Hk.de e_xm_InvalidText_InvalidDeed) (Hk.de e_xm_InvalidText_InvalidText) (Hk.de e_a_InvalidDeed___init__) (Hk.de e_i_InvalidDeed___init__) (Hk.fn_of w0 (Hk.de e_l_InvalidDeed___init__)) (Hk.de e_c_InvalidDeed___init__) (Hk.de e_k_InvalidDeed___init__) (Hk.de e_a_InvalidText___init__) (Hk.de e_i_InvalidText___init__) (Hk.fn_of w1 (Hk.de e_l_InvalidText___init__)) (Hk.de e_c_InvalidText___init__) (Hk.de e_k_InvalidText___init__) (Hk.de e_aC_WayError) (Hk.de e_ea_InvalidDeed) (Hk.de e_eb_InvalidDeed) (Hk.de e_es_InvalidDeed) (Hk.de e_ed_InvalidDeed) (Hk.de e_ee_InvalidDeed) (Hk.de e_ef_InvalidDeed) (Hk.de e_eg_InvalidDeed) (Hk.de e_eh_InvalidDeed) (Hk.de e_ea_InvalidText) (Hk.de e_eb_InvalidText) (Hk.de e_es_InvalidText) (Hk.de e_ed_InvalidText) (Hk.de e_ee_InvalidText) (Hk.de e_ef_InvalidText) (Hk.de e_eg_InvalidText) (Hk.de e_eh_InvalidText) (Hk.de e_ki_InvalidDeed_WayError) (Hk.de e_ki_InvalidText_WayError) (Hk.de e_dt__law_line_right__law_act_right) (Hk.de e_dt__law_right__law_act_right) (Hk.de e_dt__law_right__law_line_right) (Hk.de e_a__law_draw) (Hk.fn_of w2 (Hk.de e_l__law_draw)) (Hk.de e_c__law_draw) (Hk.de e_k__law_draw) (Hk.de e_a__law_pick) (Hk.fn_of w3 (Hk.de e_l__law_pick)) (Hk.de e_c__law_pick) (Hk.de e_k__law_pick) (Hk.de e_a__law_lots) (Hk.fn_of w4 (Hk.de e_l__law_lots)) (Hk.de e_c__law_lots) (Hk.de e_k__law_lots) (Hk.de e_a__law_number) (Hk.fn_of w5 (Hk.de e_l__law_number)) (Hk.de e_c__law_number) (Hk.de e_k__law_number) (Hk.de e_a__law_act) (Hk.fn_of w6 (Hk.de e_l__law_act)) (Hk.de e_c__law_act) (Hk.de e_k__law_act) (Hk.de e_a__law_spelled) (Hk.fn_of w7 (Hk.de e_l__law_spelled)) (Hk.de e_c__law_spelled) (Hk.de e_k__law_spelled) (Hk.de e_a__law_heard) (Hk.fn_of w8 (Hk.de e_l__law_heard)) (Hk.de e_c__law_heard) (Hk.de e_k__law_heard) (Hk.de e_a_is_integer) (Hk.fn_of w9 (Hk.de e_l_is_integer)) (Hk.de e_c_is_integer) (Hk.de e_k_is_integer) (Hk.de e_a_is_deed) (Hk.fn_of w10 (Hk.de e_l_is_deed)) (Hk.de e_c_is_deed) (Hk.de e_k_is_deed) (Hk.de e_a_line_of) (Hk.fn_of w11 (Hk.de e_l_line_of)) (Hk.de e_c_line_of) (Hk.de e_k_line_of) (Hk.de e_a__law_integer) (Hk.fn_of w12 (Hk.de e_l__law_integer)) (Hk.de e_c__law_integer) (Hk.de e_k__law_integer) (Hk.de e_a__law_read) (Hk.fn_of w13 (Hk.de e_l__law_read)) (Hk.de e_c__law_read) (Hk.de e_k__law_read) (Hk.de e_a_number_of) (Hk.fn_of w14 (Hk.de e_l_number_of)) (Hk.de e_c_number_of) (Hk.de e_k_number_of) (Hk.de e_a_read_deed) (Hk.fn_of w15 (Hk.de e_l_read_deed)) (Hk.de e_c_read_deed) (Hk.de e_k_read_deed) (Hk.de e_a__law_line_right) (Hk.de e_tb__law_line_right) (Option.isNone_iff_eq_none.mp e_tn__law_line_right) (Hk.fn_ofc w16 (Hk.de e_l__law_line_right).1 (Hk.de e_l__law_line_right).2) (Hk.de e_c__law_line_right) (Hk.de e_k__law_line_right) (Hk.de e_a__law_odd_acts) (Hk.fn_of w17 (Hk.de e_l__law_odd_acts)) (Hk.de e_c__law_odd_acts) (Hk.de e_k__law_odd_acts) (Hk.de e_a__law_act_right) (Hk.de e_tb__law_act_right) (Option.isNone_iff_eq_none.mp e_tn__law_act_right) (Hk.fn_ofc w18 (Hk.de e_l__law_act_right).1 (Hk.de e_l__law_act_right).2) (Hk.de e_c__law_act_right) (Hk.de e_k__law_act_right) (Hk.de e_a__law_bent) (Hk.fn_of w19 (Hk.de e_l__law_bent)) (Hk.de e_c__law_bent) (Hk.de e_k__law_bent) (Hk.de e_a__law_right) (Hk.de e_tb__law_right) (Option.isNone_iff_eq_none.mp e_tn__law_right) (Hk.fn_ofc w20 (Hk.de e_l__law_right).1 (Hk.de e_l__law_right).2) (Hk.de e_c__law_right) (Hk.de e_k__law_right) (Hk.de e_a__law_pot) (Hk.fn_of w21 (Hk.de e_l__law_pot)) (Hk.de e_c__law_pot) (Hk.de e_k__law_pot) (Hk.de e_a_law) (Hk.fn_of w22 (Hk.de e_l_law)) (Hk.de e_c_law) (Hk.de e_k_law) (Hk.de e_z_abs) (Hk.de e_z_all) (Hk.de e_z_bool) (Hk.de e_z_divmod) (Hk.de e_z_int) (Hk.de e_z_isinstance) (Hk.de e_z_len) (Hk.de e_z_list) (Hk.de e_z_max) (Hk.de e_z_min) (Hk.de e_z_range) (Hk.de e_z_repr) (Hk.de e_z_str) (Hk.de e_z_tuple) (Hk.de e_y_DEED_NUMBERS) y0 (Hk.de e_nk_DEED_NUMBERS_0) (Hk.de e_nk_DEED_NUMBERS_1) (Hk.de e_nk_DEED_NUMBERS_2) (Hk.de e_nk_DEED_NUMBERS_3) (Hk.de e_nk_DEED_NUMBERS_4) (Hk.de e_nk_DEED_NUMBERS_5) (Hk.de e_nk_DEED_NUMBERS_6) (Hk.de e_nk_DEED_NUMBERS_7) (Hk.de e_nk_DEED_NUMBERS_8) (Hk.de e_y_DIGITS) (Hk.de e_y_NOTHING) tabOf rc__law_act_right rc__law_line_right rc__law_right
end Lw

set_option Elab.async false
set_option linter.all false
set_option maxRecDepth 100000
set_option maxHeartbeats 0
open PySem PySem.W PyProof.Rows in
set_option maxRecDepth 100000 in
set_option maxHeartbeats 0 in
theorem PySem.Challenge.cw_chargeways_k92_lines_of_deeds_holds : PySem.Challenge.rw_chargeways_k92_lines_of_deeds.Holds := by
  refine Rn.fin_pre Rn.run ?_
  refine Py.walk_hT (l := PySem.Challenge.rw_chargeways_k92_lines_of_deeds) (n := 63) (k := 10) (x := "_law_script") rfl (by decide) (by kernel_rfl) ⟨rfl, by decide, by decide⟩ ?F
  intro w mg fa h Y G hmg0 tabOf
  obtain ⟨K, KX, c⟩ := Y
  have hmg : mg ("law" : PySem.Str) = some (.ref fa) := by
    have e : (HandSHeadRun.topDef (OpenLaw.row PySem.Challenge.rw_chargeways_k92_lines_of_deeds).prog 31).name = ("law" : PySem.Str) := by kernel_rfl
    rw [← e]
    exact hmg0
  exact ⟨K, KX, Lw.all_h Lw.law_true Rn.qv KX G hmg c (tabOf K KX) rfl rfl rfl⟩
