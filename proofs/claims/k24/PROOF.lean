import PyProof.Rows.All
import Wide.All
import OpenK.AllK
import Wide.FinOn
import KE.KStateDown
import KE.KNest
import KE.KIsAll
import KE.KTryMore
import KE.KExcLine
import HandS.Head2
import HandS.Ends
import HandS.Words
import HandS.ForMost
import HandS.Defaults
import HandS.Flow
import HandS.Lambda
import HandS.TupAny
import HandS.IsInst
import HandS.Conv
import HandS.Deep
import HandS.FStr
import KE.GoesEnum
import KE.GoesEnumKw
import HandS.Style
import HandS.RaiseMore
import PyProof.InstNe
import HandS.Dict
import HandS.Strs
import HandS.Property
import PyProof.P3In
import HandS.Text
import HandS.ListItems
import HandS.Star
import KE.KDictSum
import HandS.Iter
import KE.KEqDict
import HandS.Zip
import PyProof.EqKinds
import HandS.ExcInit
import HandS.ExcOwn
import HandS.ExcField
import HandS.TryMany
import KE.KExcInit
import HandS.OwnEq
import HandS.EndTab
import PySem.Challenge.RW_chargeways_k24_books_as_strict_and_equal
set_option Elab.async false
set_option linter.all false
set_option maxRecDepth 100000
set_option maxHeartbeats 2000000
/-! the head by one kernel run (HandS.Head2), the objects read off the run: no state is written out -/
namespace Hk
open PySem PySem.Spec PySem.W
/-- an object that stays: one with a class; the statics, the module's names -/
def pickO (a : Addr) (o : Obj) : Bool := match o.cls with
  | .none => Nat.beq a 2 || Nat.beq a 3
  | _ => true
def frK (g : Addr → Option Obj) : List Addr → Frag → Frag
  | [], acc => acc
  | a :: r, acc => match g a with
    | some o => (match pickO a o with
      | true => frK g r ((a, o) :: acc)
      | false => frK g r acc)
    | none => frK g r acc
theorem frK_in {h : Heap} : ∀ (as : List Addr) (acc : Frag), acc.In h → (frK h.get? as acc).In h
  | [], acc, H => H
  | a :: r, acc, H => by
    unfold frK
    cases e : h.get? a with
    | none => exact frK_in r acc H
    | some o =>
      dsimp only
      cases pickO a o with
      | false => exact frK_in r acc H
      | true =>
        refine frK_in r _ fun b u hb => ?_
        rw [List.lookup_cons] at hb
        cases q : (b == a) with
        | true =>
          rw [q] at hb
          cases hb
          rw [beq_iff_eq.mp q]
          exact e
        | false =>
          rw [q] at hb
          exact H b u hb
def upTo : Nat → List Addr → List Addr
  | 0, l => l
  | n + 1, l => upTo n (n :: l)
/-- the same, the list forced ahead of what looks at it -/
def onK {α : Type} (g : Addr → Option Obj) (k : Frag → α) : List Addr → Frag → α
  | [], acc => k acc
  | a :: r, acc => match g a with
    | some o => (match pickO a o with
      | true => onK g k r ((a, o) :: acc)
      | false => onK g k r acc)
    | none => onK g k r acc
theorem onK_eq {α : Type} {g : Addr → Option Obj} {k : Frag → α} : ∀ (as : List Addr) (acc : Frag), onK g k as acc = k (frK g as acc)
  | [], acc => rfl
  | a :: r, acc => by
    unfold onK frK
    cases g a with
    | none => exact onK_eq r acc
    | some o =>
      dsimp only
      cases pickO a o with
      | false => exact onK_eq r acc
      | true => exact onK_eq r _
def hookH {α : Type} (as : List Addr) (ob : Frag → α) (va : α) : Hook where
  α := α
  obs := fun s => onK s.heap.get? ob as []
  val := fun _ => va
  says := fun _ h => ∃ K : Frag, K.In h ∧ ob K = va
  of := fun _ s e => ⟨_, frK_in as [] (fun _ _ z => nomatch z), (onK_eq (g := s.heap.get?) (k := ob) as []).symm.trans e⟩
  keeps := fun _ _ _ ⟨K, hK, c⟩ k => ⟨K, Frag.In.keeps hK k, c⟩
def obT {α : Type} (as : List Addr) (ob : Frag → α) (s : SharedT) : α := onK (HandSHeadRun.getT s) ob as []
theorem obT_eq {α : Type} (as : List Addr) (ob : Frag → α) (va : α) (s : SharedT) : obT as ob s = (hookH as ob va).obs s.abs := by
  unfold obT hookH
  dsimp only
  rw [show HandSHeadRun.getT s = s.abs.heap.get? from funext (HandSHeadRun.getT_eq s)]
theorem obT_K {α : Type} {as : List Addr} {ob : Frag → α} {s : SharedT} : obT as ob s = ob (frK (HandSHeadRun.getT s) as []) := onK_eq as []
/-! ### what the names tell -/
def ga (K : Frag) (x : Str) : Addr := match nsIn K mainGlobals x with
  | some (some (.ref a)) => a
  | _ => 0
def ma (K : Frag) (C : Addr) (m : Str) : Addr := match findIn K (.ref C) m with
  | some (some (.ref a)) => a
  | _ => 0
def addrV : Value → Addr
  | .ref a => a
  | _ => 0
def tokV : Value → Tok
  | .str _ t => t
  | .int _ t => t
  | _ => 0
def nsV (K : Frag) (x : Str) : Value := match nsIn K mainGlobals x with
  | some (some v) => v
  | _ => .none
def recL (K : Frag) (p : Addr) (T : String) : List Value := match recIn K p T with
  | some l => l
  | none => []
def tabP (K : Frag) (x : Str) : Addr × Addr := match tabIn K x with
  | some p => p
  | none => (0, 0)
def obK (K : Frag) (a : Addr) : Obj := match K.lookup a with
  | some o => o
  | none => default
def seqL (K : Frag) (a : Addr) : List Value := match (obK K a).data with
  | .seq vs _ => vs.toList
  | _ => []
def seqN (K : Frag) (a : Addr) : Nat := match (obK K a).data with
  | .seq _ n => n
  | _ => 0
def elV (K : Frag) (a : Addr) (i : Nat) : Value := match (seqL K a)[i]? with
  | some v => v
  | none => .none
/-- a tuple of these -/
def tupIs (K : Frag) (a : Addr) (l : List Value) : Bool := match K.lookup a with
  | some ⟨c, d, .seq vs _, _⟩ => decide (c = .type "tuple") && (d.isNone && decide (vs.toList = l))
  | _ => false
theorem tup_of {K : Frag} {a : Addr} {l : List Value} (h : tupIs K a l = true) : K.lookup a = some ⟨.type "tuple", none, .seq l.toArray (seqN K a), (obK K a).slots⟩ := by
  unfold tupIs at h
  unfold seqN obK
  cases q : K.lookup a with
  | none => rw [q] at h; cases h
  | some o =>
    obtain ⟨c, d, dt, sl⟩ := o
    rw [q] at h
    cases dt with
    | seq vs n =>
      obtain ⟨h1, h2⟩ := Bool.and_eq_true_iff.mp (show (decide (c = .type "tuple") && (d.isNone && decide (vs.toList = l))) = true from h)
      obtain ⟨h3, h4⟩ := Bool.and_eq_true_iff.mp h2
      cases of_decide_eq_true h1
      cases d with
      | some _ => cases h3
      | none =>
        cases of_decide_eq_true h4
        rfl
    | _ => cases h
/-! ### a function's object -/
def fnD (K : Frag) (f : Addr) : FuncData := match (obK K f).data with
  | .func fd => fd
  | _ => default
/-- what the text writes of it -/
def fnW (K : Frag) (f : Addr) : Option FuncData := match K.lookup f with
  | some ⟨_, _, .func fd, _⟩ => some { fd with defaults := .none, kwdefaults := .none, doc := .none, pyModule := .none, annotations := none, code := .none, closureTuple := .none }
  | _ => none
def fnV (name qual : Str) (params : Arguments) (body : List Stmt) (scope : Scope) : FuncData := fnOf name qual params body scope .none .none .none .none none .none .none
theorem fn_of {K : Frag} {f : Addr} {name qual : Str} {params : Arguments} {body : List Stmt} {scope : Scope} {dV : Value} (h : fnW K f = some (fnV name qual params body scope)) (hd : (fnD K f).defaults = dV) :
    K.lookup f = some ⟨(obK K f).cls, (obK K f).dict, .func (fnOf name qual params body scope dV (fnD K f).kwdefaults (fnD K f).doc (fnD K f).pyModule (fnD K f).annotations (fnD K f).code (fnD K f).closureTuple), (obK K f).slots⟩ := by
  subst hd
  unfold fnW at h
  unfold fnD obK
  cases q : K.lookup f with
  | none => rw [q] at h; cases h
  | some o =>
    obtain ⟨c, d, dt, sl⟩ := o
    rw [q] at h
    cases dt with
    | func fd =>
      have e := Option.some.inj h
      obtain ⟨a1, a2, a3, a4, a5, a6, a7, a8, a9, a10, a11, a12, a13, a14, a15⟩ := fd
      unfold fnV fnOf at e
      simp only [FuncData.mk.injEq] at e
      obtain ⟨e1, e2, e3, e4, e5, e6, e7, -, -, -, -, -, -, -, e8⟩ := e
      subst e1 e2 e3 e4 e5 e6 e7 e8
      rfl
    | _ => cases h
theorem ba {a b : Bool} (h : (a && b) = true) : a = true ∧ b = true := Bool.and_eq_true_iff.mp h
theorem de {p : Prop} [Decidable p] (h : decide p = true) : p := of_decide_eq_true h
end Hk

set_option Elab.async false
set_option linter.all false
set_option maxRecDepth 100000
set_option maxHeartbeats 0
namespace Rn
open PySem PySem.Spec PySem.Calls PyProof.Rows L2 HandSHeadRun
def top (i : Nat) : Stmt := PySem.Challenge.pw_chargeways_k24_books_as_strict_and_equal.main.body.getD i (.Pass ⟨0, 0, 0, 0⟩)
abbrev s_are_words : Stmt := top 35
abbrev s_are_tests_ahead : Stmt := top 37
abbrev s_is_take : Stmt := top 38
abbrev s_is_behind : Stmt := top 36
abbrev s_is_give : Stmt := top 39
abbrev s_is_move : Stmt := top 40
abbrev s_is_lift : Stmt := top 41
abbrev s_is_row : Stmt := top 42
abbrev s_want_word : Stmt := top 45
abbrev s_are_holds : Stmt := top 43
abbrev s_holds_in_sequence : Stmt := top 46
abbrev s_is_integer : Stmt := top 2
abbrev s_want_batch : Stmt := top 47
abbrev s_Book___init__ : Stmt := inClass (top 48) 1
abbrev s__law_book : Stmt := top 63
abbrev s_Book_others : Stmt := inClass (top 48) 11
abbrev s_Book_is_as_strict : Stmt := inClass (top 48) 12
abbrev s_Book___eq__ : Stmt := inClass (top 48) 13
abbrev s__law_is_as_strict : Stmt := top 66
abbrev s__law_two_right : Stmt := top 67
abbrev s__law_known_right : Stmt := top 70
abbrev s__law_draw : Stmt := top 51
abbrev s__law_pick : Stmt := top 52
abbrev s__law_sequences : Stmt := top 53
abbrev s__law_is_ahead : Stmt := top 54
abbrev s__law_is_take : Stmt := top 55
abbrev s__law_takes : Stmt := top 58
abbrev s__law_is_give : Stmt := top 56
abbrev s__law_gives : Stmt := top 59
abbrev s__law_is_move : Stmt := top 57
abbrev s__law_moves : Stmt := top 60
abbrev s__law_lifts : Stmt := top 61
abbrev s__law_any : Stmt := top 62
abbrev s__law_exchanged : Stmt := top 64
abbrev s__law_beside : Stmt := top 65
abbrev s_Book_holds : Stmt := inClass (top 48) 4
abbrev s_Book___repr__ : Stmt := inClass (top 48) 14
abbrev s__law_alone_right : Stmt := top 68
abbrev s__law_right : Stmt := top 69
abbrev s__law_pot : Stmt := top 50
abbrev s_law : Stmt := top 71
def v_C_Book (K : PySem.W.Frag) : Addr := Hk.ga K "Book"
def v_f_are_words_ (K : PySem.W.Frag) : Addr := Hk.ga K "are_words"
def v_cd_are_words (K : PySem.W.Frag) : Value := (Hk.fnD K (v_f_are_words_ K)).code
def v_f_are_tests_ahead_ (K : PySem.W.Frag) : Addr := Hk.ga K "are_tests_ahead"
def v_cd_are_tests_ahead (K : PySem.W.Frag) : Value := (Hk.fnD K (v_f_are_tests_ahead_ K)).code
def v_f_is_take_ (K : PySem.W.Frag) : Addr := Hk.ga K "is_take"
def v_cd_is_take (K : PySem.W.Frag) : Value := (Hk.fnD K (v_f_is_take_ K)).code
def v_f_is_behind_ (K : PySem.W.Frag) : Addr := Hk.ga K "is_behind"
def v_cd_is_behind (K : PySem.W.Frag) : Value := (Hk.fnD K (v_f_is_behind_ K)).code
def v_f_is_give_ (K : PySem.W.Frag) : Addr := Hk.ga K "is_give"
def v_cd_is_give (K : PySem.W.Frag) : Value := (Hk.fnD K (v_f_is_give_ K)).code
def v_f_is_move_ (K : PySem.W.Frag) : Addr := Hk.ga K "is_move"
def v_cd_is_move (K : PySem.W.Frag) : Value := (Hk.fnD K (v_f_is_move_ K)).code
def v_f_is_lift_ (K : PySem.W.Frag) : Addr := Hk.ga K "is_lift"
def v_cd_is_lift (K : PySem.W.Frag) : Value := (Hk.fnD K (v_f_is_lift_ K)).code
def v_f_is_row_ (K : PySem.W.Frag) : Addr := Hk.ga K "is_row"
def v_cd_is_row (K : PySem.W.Frag) : Value := (Hk.fnD K (v_f_is_row_ K)).code
def v_f_want_word_ (K : PySem.W.Frag) : Addr := Hk.ga K "want_word"
def v_cd_want_word (K : PySem.W.Frag) : Value := (Hk.fnD K (v_f_want_word_ K)).code
def v_f_are_holds_ (K : PySem.W.Frag) : Addr := Hk.ga K "are_holds"
def v_cd_are_holds (K : PySem.W.Frag) : Value := (Hk.fnD K (v_f_are_holds_ K)).code
def v_f_holds_in_sequence_ (K : PySem.W.Frag) : Addr := Hk.ga K "holds_in_sequence"
def v_cd_holds_in_sequence (K : PySem.W.Frag) : Value := (Hk.fnD K (v_f_holds_in_sequence_ K)).code
def v_f_is_integer_ (K : PySem.W.Frag) : Addr := Hk.ga K "is_integer"
def v_cd_is_integer (K : PySem.W.Frag) : Value := (Hk.fnD K (v_f_is_integer_ K)).code
def v_f_want_batch_ (K : PySem.W.Frag) : Addr := Hk.ga K "want_batch"
def v_cd_want_batch (K : PySem.W.Frag) : Value := (Hk.fnD K (v_f_want_batch_ K)).code
def v_f_Book___init___ (K : PySem.W.Frag) : Addr := Hk.ma K (v_C_Book K) "__init__"
def v_cd_Book___init__ (K : PySem.W.Frag) : Value := (Hk.fnD K (v_f_Book___init___ K)).code
def v_f__law_book_ (K : PySem.W.Frag) : Addr := Hk.ga K "_law_book"
def v_cd__law_book (K : PySem.W.Frag) : Value := (Hk.fnD K (v_f__law_book_ K)).code
def v_f_Book_others_ (K : PySem.W.Frag) : Addr := Hk.ma K (v_C_Book K) "others"
def v_cd_Book_others (K : PySem.W.Frag) : Value := (Hk.fnD K (v_f_Book_others_ K)).code
def v_f_Book_is_as_strict_ (K : PySem.W.Frag) : Addr := Hk.ma K (v_C_Book K) "is_as_strict"
def v_cd_Book_is_as_strict (K : PySem.W.Frag) : Value := (Hk.fnD K (v_f_Book_is_as_strict_ K)).code
def v_f_Book___eq___ (K : PySem.W.Frag) : Addr := Hk.ma K (v_C_Book K) "__eq__"
def v_cd_Book___eq__ (K : PySem.W.Frag) : Value := (Hk.fnD K (v_f_Book___eq___ K)).code
def v_f__law_is_as_strict_ (K : PySem.W.Frag) : Addr := Hk.ga K "_law_is_as_strict"
def v_cd__law_is_as_strict (K : PySem.W.Frag) : Value := (Hk.fnD K (v_f__law_is_as_strict_ K)).code
def v_f__law_two_right_ (K : PySem.W.Frag) : Addr := Hk.ga K "_law_two_right"
def v_cd__law_two_right (K : PySem.W.Frag) : Value := (Hk.fnD K (v_f__law_two_right_ K)).code
def v_f__law_known_right_ (K : PySem.W.Frag) : Addr := Hk.ga K "_law_known_right"
def v_cd__law_known_right (K : PySem.W.Frag) : Value := (Hk.fnD K (v_f__law_known_right_ K)).code
def v_f__law_draw_ (K : PySem.W.Frag) : Addr := Hk.ga K "_law_draw"
def v_cd__law_draw (K : PySem.W.Frag) : Value := (Hk.fnD K (v_f__law_draw_ K)).code
def v_f__law_pick_ (K : PySem.W.Frag) : Addr := Hk.ga K "_law_pick"
def v_cd__law_pick (K : PySem.W.Frag) : Value := (Hk.fnD K (v_f__law_pick_ K)).code
def v_f__law_sequences_ (K : PySem.W.Frag) : Addr := Hk.ga K "_law_sequences"
def v_cd__law_sequences (K : PySem.W.Frag) : Value := (Hk.fnD K (v_f__law_sequences_ K)).code
def v_f__law_is_ahead_ (K : PySem.W.Frag) : Addr := Hk.ga K "_law_is_ahead"
def v_cd__law_is_ahead (K : PySem.W.Frag) : Value := (Hk.fnD K (v_f__law_is_ahead_ K)).code
def v_f__law_is_take_ (K : PySem.W.Frag) : Addr := Hk.ga K "_law_is_take"
def v_cd__law_is_take (K : PySem.W.Frag) : Value := (Hk.fnD K (v_f__law_is_take_ K)).code
def v_f__law_takes_ (K : PySem.W.Frag) : Addr := Hk.ga K "_law_takes"
def v_cd__law_takes (K : PySem.W.Frag) : Value := (Hk.fnD K (v_f__law_takes_ K)).code
def v_f__law_is_give_ (K : PySem.W.Frag) : Addr := Hk.ga K "_law_is_give"
def v_cd__law_is_give (K : PySem.W.Frag) : Value := (Hk.fnD K (v_f__law_is_give_ K)).code
def v_f__law_gives_ (K : PySem.W.Frag) : Addr := Hk.ga K "_law_gives"
def v_cd__law_gives (K : PySem.W.Frag) : Value := (Hk.fnD K (v_f__law_gives_ K)).code
def v_f__law_is_move_ (K : PySem.W.Frag) : Addr := Hk.ga K "_law_is_move"
def v_cd__law_is_move (K : PySem.W.Frag) : Value := (Hk.fnD K (v_f__law_is_move_ K)).code
def v_f__law_moves_ (K : PySem.W.Frag) : Addr := Hk.ga K "_law_moves"
def v_cd__law_moves (K : PySem.W.Frag) : Value := (Hk.fnD K (v_f__law_moves_ K)).code
def v_f__law_lifts_ (K : PySem.W.Frag) : Addr := Hk.ga K "_law_lifts"
def v_cd__law_lifts (K : PySem.W.Frag) : Value := (Hk.fnD K (v_f__law_lifts_ K)).code
def v_f__law_any_ (K : PySem.W.Frag) : Addr := Hk.ga K "_law_any"
def v_cd__law_any (K : PySem.W.Frag) : Value := (Hk.fnD K (v_f__law_any_ K)).code
def v_f__law_exchanged_ (K : PySem.W.Frag) : Addr := Hk.ga K "_law_exchanged"
def v_cd__law_exchanged (K : PySem.W.Frag) : Value := (Hk.fnD K (v_f__law_exchanged_ K)).code
def v_f__law_beside_ (K : PySem.W.Frag) : Addr := Hk.ga K "_law_beside"
def v_cd__law_beside (K : PySem.W.Frag) : Value := (Hk.fnD K (v_f__law_beside_ K)).code
def v_pr_Book_holds (K : PySem.W.Frag) : Addr := Hk.ma K (v_C_Book K) "holds"
def v_f_Book_holds_ (K : PySem.W.Frag) : Addr := Hk.addrV ((Hk.recL K (v_pr_Book_holds K) "property").headD .none)
def v_re_Book_holds (K : PySem.W.Frag) : List Value := (Hk.recL K (v_pr_Book_holds K) "property").tail
def v_cd_Book_holds (K : PySem.W.Frag) : Value := (Hk.fnD K (v_f_Book_holds_ K)).code
def v_f_Book___repr___ (K : PySem.W.Frag) : Addr := Hk.ma K (v_C_Book K) "__repr__"
def v_cd_Book___repr__ (K : PySem.W.Frag) : Value := (Hk.fnD K (v_f_Book___repr___ K)).code
def v_f__law_alone_right_ (K : PySem.W.Frag) : Addr := Hk.ga K "_law_alone_right"
def v_cd__law_alone_right (K : PySem.W.Frag) : Value := (Hk.fnD K (v_f__law_alone_right_ K)).code
def v_f__law_right_ (K : PySem.W.Frag) : Addr := Hk.ga K "_law_right"
def v_cd__law_right (K : PySem.W.Frag) : Value := (Hk.fnD K (v_f__law_right_ K)).code
def v_f__law_pot_ (K : PySem.W.Frag) : Addr := Hk.ga K "_law_pot"
def v_cd__law_pot (K : PySem.W.Frag) : Value := (Hk.fnD K (v_f__law_pot_ K)).code
def v_f_law_ (K : PySem.W.Frag) : Addr := Hk.ga K "law"
def v_cd_law (K : PySem.W.Frag) : Value := (Hk.fnD K (v_f_law_ K)).code
def v_tk_ADD (K : PySem.W.Frag) : Tok := Hk.tokV (Hk.nsV K "ADD")
def v_tk_BOTH (K : PySem.W.Frag) : Tok := Hk.tokV (Hk.nsV K "BOTH")
def v_tk_END (K : PySem.W.Frag) : Tok := Hk.tokV (Hk.nsV K "END")
def v_ad_FAILS (K : PySem.W.Frag) : Addr := Hk.ga K "FAILS"
def v_kk_FAILS_0 (K : PySem.W.Frag) : Tok := Hk.tokV (Hk.elV K (v_ad_FAILS K) 0)
def v_kk_FAILS_1 (K : PySem.W.Frag) : Tok := Hk.tokV (Hk.elV K (v_ad_FAILS K) 1)
def v_kk_FAILS_2 (K : PySem.W.Frag) : Tok := Hk.tokV (Hk.elV K (v_ad_FAILS K) 2)
def v_tk_GIVE (K : PySem.W.Frag) : Tok := Hk.tokV (Hk.nsV K "GIVE")
def v_ad_GIVE_WORDS (K : PySem.W.Frag) : Addr := Hk.ga K "GIVE_WORDS"
def v_kk_GIVE_WORDS_0 (K : PySem.W.Frag) : Tok := Hk.tokV (Hk.elV K (v_ad_GIVE_WORDS K) 0)
def v_kk_GIVE_WORDS_1 (K : PySem.W.Frag) : Tok := Hk.tokV (Hk.elV K (v_ad_GIVE_WORDS K) 1)
def v_kk_GIVE_WORDS_2 (K : PySem.W.Frag) : Tok := Hk.tokV (Hk.elV K (v_ad_GIVE_WORDS K) 2)
def v_tk_GREATEST_BATCH (K : PySem.W.Frag) : Tok := Hk.tokV (Hk.nsV K "GREATEST_BATCH")
def v_ad_HOLDING (K : PySem.W.Frag) : Addr := Hk.ga K "HOLDING"
def v_kk_HOLDING_0 (K : PySem.W.Frag) : Tok := Hk.tokV (Hk.elV K (v_ad_HOLDING K) 0)
def v_kk_HOLDING_1 (K : PySem.W.Frag) : Tok := Hk.tokV (Hk.elV K (v_ad_HOLDING K) 1)
def v_kk_HOLDING_2 (K : PySem.W.Frag) : Tok := Hk.tokV (Hk.elV K (v_ad_HOLDING K) 2)
def v_kk_HOLDING_3 (K : PySem.W.Frag) : Tok := Hk.tokV (Hk.elV K (v_ad_HOLDING K) 3)
def v_tk_HOME (K : PySem.W.Frag) : Tok := Hk.tokV (Hk.nsV K "HOME")
def v_tk_LIFT (K : PySem.W.Frag) : Tok := Hk.tokV (Hk.nsV K "LIFT")
def v_ad_LIFTS (K : PySem.W.Frag) : Addr := Hk.ga K "LIFTS"
def v_ad_LIFTS_0 (K : PySem.W.Frag) : Addr := Hk.addrV (Hk.elV K (v_ad_LIFTS K) 0)
def v_ad_LIFTS_1 (K : PySem.W.Frag) : Addr := Hk.addrV (Hk.elV K (v_ad_LIFTS K) 1)
def v_ad_LIFTS_2 (K : PySem.W.Frag) : Addr := Hk.addrV (Hk.elV K (v_ad_LIFTS K) 2)
def v_ad_LIFTS_3 (K : PySem.W.Frag) : Addr := Hk.addrV (Hk.elV K (v_ad_LIFTS K) 3)
def v_ad_LIFTS_4 (K : PySem.W.Frag) : Addr := Hk.addrV (Hk.elV K (v_ad_LIFTS K) 4)
def v_ad_LIFTS_5 (K : PySem.W.Frag) : Addr := Hk.addrV (Hk.elV K (v_ad_LIFTS K) 5)
def v_kk_LIFTS_1_0 (K : PySem.W.Frag) : Tok := Hk.tokV (Hk.elV K (v_ad_LIFTS_1 K) 0)
def v_kk_LIFTS_2_0 (K : PySem.W.Frag) : Tok := Hk.tokV (Hk.elV K (v_ad_LIFTS_2 K) 0)
def v_kk_LIFTS_3_0 (K : PySem.W.Frag) : Tok := Hk.tokV (Hk.elV K (v_ad_LIFTS_3 K) 0)
def v_kk_LIFTS_3_1 (K : PySem.W.Frag) : Tok := Hk.tokV (Hk.elV K (v_ad_LIFTS_3 K) 1)
def v_kk_LIFTS_4_0 (K : PySem.W.Frag) : Tok := Hk.tokV (Hk.elV K (v_ad_LIFTS_4 K) 0)
def v_kk_LIFTS_4_1 (K : PySem.W.Frag) : Tok := Hk.tokV (Hk.elV K (v_ad_LIFTS_4 K) 1)
def v_kk_LIFTS_5_0 (K : PySem.W.Frag) : Tok := Hk.tokV (Hk.elV K (v_ad_LIFTS_5 K) 0)
def v_tk_LIVE (K : PySem.W.Frag) : Tok := Hk.tokV (Hk.nsV K "LIVE")
def v_tk_LOOK (K : PySem.W.Frag) : Tok := Hk.tokV (Hk.nsV K "LOOK")
def v_tk_MOVE (K : PySem.W.Frag) : Tok := Hk.tokV (Hk.nsV K "MOVE")
def v_ad_MOVE_WORDS (K : PySem.W.Frag) : Addr := Hk.ga K "MOVE_WORDS"
def v_kk_MOVE_WORDS_0 (K : PySem.W.Frag) : Tok := Hk.tokV (Hk.elV K (v_ad_MOVE_WORDS K) 0)
def v_kk_MOVE_WORDS_1 (K : PySem.W.Frag) : Tok := Hk.tokV (Hk.elV K (v_ad_MOVE_WORDS K) 1)
def v_kk_MOVE_WORDS_2 (K : PySem.W.Frag) : Tok := Hk.tokV (Hk.elV K (v_ad_MOVE_WORDS K) 2)
def v_kk_MOVE_WORDS_3 (K : PySem.W.Frag) : Tok := Hk.tokV (Hk.elV K (v_ad_MOVE_WORDS K) 3)
def v_kk_MOVE_WORDS_4 (K : PySem.W.Frag) : Tok := Hk.tokV (Hk.elV K (v_ad_MOVE_WORDS K) 4)
def v_kk_MOVE_WORDS_5 (K : PySem.W.Frag) : Tok := Hk.tokV (Hk.elV K (v_ad_MOVE_WORDS K) 5)
def v_tk_OFF (K : PySem.W.Frag) : Tok := Hk.tokV (Hk.nsV K "OFF")
def v_tk_SET (K : PySem.W.Frag) : Tok := Hk.tokV (Hk.nsV K "SET")
def v_tk_TAKE (K : PySem.W.Frag) : Tok := Hk.tokV (Hk.nsV K "TAKE")
def v_ad_TAKE_WORDS (K : PySem.W.Frag) : Addr := Hk.ga K "TAKE_WORDS"
def v_kk_TAKE_WORDS_0 (K : PySem.W.Frag) : Tok := Hk.tokV (Hk.elV K (v_ad_TAKE_WORDS K) 0)
def v_kk_TAKE_WORDS_1 (K : PySem.W.Frag) : Tok := Hk.tokV (Hk.elV K (v_ad_TAKE_WORDS K) 1)
def v_kk_TAKE_WORDS_2 (K : PySem.W.Frag) : Tok := Hk.tokV (Hk.elV K (v_ad_TAKE_WORDS K) 2)
def v_kk_TAKE_WORDS_3 (K : PySem.W.Frag) : Tok := Hk.tokV (Hk.elV K (v_ad_TAKE_WORDS K) 3)
def v_ad_TESTS (K : PySem.W.Frag) : Addr := Hk.ga K "TESTS"
def v_kk_TESTS_0 (K : PySem.W.Frag) : Tok := Hk.tokV (Hk.elV K (v_ad_TESTS K) 0)
def v_kk_TESTS_1 (K : PySem.W.Frag) : Tok := Hk.tokV (Hk.elV K (v_ad_TESTS K) 1)
def v_tk_TRY (K : PySem.W.Frag) : Tok := Hk.tokV (Hk.nsV K "TRY")
def v_fa (K : PySem.W.Frag) : Addr := Hk.ga K "law"
def bs0 (K : PySem.W.Frag) : Bool :=
  (decide (PySem.W.nsIn K mainGlobals "Book" = some (some (.ref (v_C_Book K))))) && (
  (decide (PySem.W.plainGet K (v_C_Book K) Str.empty = true)) && (
  (decide (PySem.W.hasDictIn K (v_C_Book K) = true)) && (
  (decide (PySem.W.plainOver K (v_C_Book K) = true)) && (
  (decide (PySem.W.findIn K (.ref (v_C_Book K)) "__setattr__" = some (some (.builtin "object.__setattr__")))) && (
  (decide (PySem.W.makesIn K (v_C_Book K) = true)) && (
  (decide (PySem.W.keepIn K (.ref (v_C_Book K)) = true)) && (
  (decide (PySem.W.findIn K (.ref (v_C_Book K)) "__class__" = some (some (.builtin "object.__class__")))) && (
  (decide (PySem.W.specialIn K (.builtin "object.__class__") "__get__" = some (some (.builtin "getset_descriptor.__get__")))) && (
  (decide (PySem.W.takesIn K (.builtin "object.__class__") = some true)) && (
  (decide (PySem.W.mroIn K (v_C_Book K) (.type "object") = some true)) && (
  (decide (PySem.W.isClsIn K (v_C_Book K) = true)) && (
  (decide (PySem.W.typeIn K (.ref (v_C_Book K)) = some (.type "type"))) && (
  (decide (PySem.W.findIn K (.ref (v_C_Book K)) "__ne__" = some (some (.builtin "object.__ne__")))) && (
  (decide (((["NoneType", "bool", "int", "str", "tuple", "list", "dict"] : List String).all fun t => PySem.W.mroIn K (v_C_Book K) (.type t) == some false) = true)) && (
  (decide (PySem.W.findIn K (.ref (v_C_Book K)) "own_rows" = some none)) && (
  (decide (PySem.W.findIn K (.ref (v_C_Book K)) "own_fails" = some none)) && (
  (decide (PySem.W.findIn K (.ref (v_C_Book K)) "own_shared" = some none)) && (
  (decide (PySem.W.findIn K (.ref (v_C_Book K)) "own_holds" = some none)) && (
  (decide (PySem.W.findIn K (.ref (v_C_Book K)) "own_batch" = some none)) && (
  (decide (PySem.W.findIn K (.ref (v_C_Book K)) "own_settles" = some none)) && (
  (decide (PySem.W.nsIn K mainGlobals "are_words" = some (some (.ref (v_f_are_words_ K))))) && (
  (decide ((Hk.fnD K (v_f_are_words_ K)).defaults = .none)) && (
  (decide (PySem.W.codeIn K (v_cd_are_words K) "are_words" = true)) && (
  (decide (PySem.W.keepIn K (.ref (v_f_are_words_ K)) = true)) && (
  (decide (PySem.W.nsIn K mainGlobals "are_tests_ahead" = some (some (.ref (v_f_are_tests_ahead_ K))))) && (
  (decide ((Hk.fnD K (v_f_are_tests_ahead_ K)).defaults = .none)) && (
  (decide (PySem.W.codeIn K (v_cd_are_tests_ahead K) "are_tests_ahead" = true)) && (
  (decide (PySem.W.keepIn K (.ref (v_f_are_tests_ahead_ K)) = true)) && (
  (decide (PySem.W.nsIn K mainGlobals "is_take" = some (some (.ref (v_f_is_take_ K))))) && (true))))))))))))))))))))))))))))))
def bs1 (K : PySem.W.Frag) : Bool :=
  (decide ((Hk.fnD K (v_f_is_take_ K)).defaults = .none)) && (
  (decide (PySem.W.codeIn K (v_cd_is_take K) "is_take" = true)) && (
  (decide (PySem.W.keepIn K (.ref (v_f_is_take_ K)) = true)) && (
  (decide (PySem.W.nsIn K mainGlobals "is_behind" = some (some (.ref (v_f_is_behind_ K))))) && (
  (decide ((Hk.fnD K (v_f_is_behind_ K)).defaults = .none)) && (
  (decide (PySem.W.codeIn K (v_cd_is_behind K) "is_behind" = true)) && (
  (decide (PySem.W.keepIn K (.ref (v_f_is_behind_ K)) = true)) && (
  (decide (PySem.W.nsIn K mainGlobals "is_give" = some (some (.ref (v_f_is_give_ K))))) && (
  (decide ((Hk.fnD K (v_f_is_give_ K)).defaults = .none)) && (
  (decide (PySem.W.codeIn K (v_cd_is_give K) "is_give" = true)) && (
  (decide (PySem.W.keepIn K (.ref (v_f_is_give_ K)) = true)) && (
  (decide (PySem.W.nsIn K mainGlobals "is_move" = some (some (.ref (v_f_is_move_ K))))) && (
  (decide ((Hk.fnD K (v_f_is_move_ K)).defaults = .none)) && (
  (decide (PySem.W.codeIn K (v_cd_is_move K) "is_move" = true)) && (
  (decide (PySem.W.keepIn K (.ref (v_f_is_move_ K)) = true)) && (
  (decide (PySem.W.nsIn K mainGlobals "is_lift" = some (some (.ref (v_f_is_lift_ K))))) && (
  (decide ((Hk.fnD K (v_f_is_lift_ K)).defaults = .none)) && (
  (decide (PySem.W.codeIn K (v_cd_is_lift K) "is_lift" = true)) && (
  (decide (PySem.W.keepIn K (.ref (v_f_is_lift_ K)) = true)) && (
  (decide (PySem.W.nsIn K mainGlobals "is_row" = some (some (.ref (v_f_is_row_ K))))) && (
  (decide ((Hk.fnD K (v_f_is_row_ K)).defaults = .none)) && (
  (decide (PySem.W.codeIn K (v_cd_is_row K) "is_row" = true)) && (
  (decide (PySem.W.keepIn K (.ref (v_f_is_row_ K)) = true)) && (
  (decide (PySem.W.nsIn K mainGlobals "want_word" = some (some (.ref (v_f_want_word_ K))))) && (
  (decide ((Hk.fnD K (v_f_want_word_ K)).defaults = .none)) && (
  (decide (PySem.W.codeIn K (v_cd_want_word K) "want_word" = true)) && (
  (decide (PySem.W.keepIn K (.ref (v_f_want_word_ K)) = true)) && (
  (decide (PySem.W.nsIn K mainGlobals "are_holds" = some (some (.ref (v_f_are_holds_ K))))) && (
  (decide ((Hk.fnD K (v_f_are_holds_ K)).defaults = .none)) && (
  (decide (PySem.W.codeIn K (v_cd_are_holds K) "are_holds" = true)) && (true))))))))))))))))))))))))))))))
def bs2 (K : PySem.W.Frag) : Bool :=
  (decide (PySem.W.keepIn K (.ref (v_f_are_holds_ K)) = true)) && (
  (decide (PySem.W.nsIn K mainGlobals "holds_in_sequence" = some (some (.ref (v_f_holds_in_sequence_ K))))) && (
  (decide ((Hk.fnD K (v_f_holds_in_sequence_ K)).defaults = .none)) && (
  (decide (PySem.W.codeIn K (v_cd_holds_in_sequence K) "holds_in_sequence" = true)) && (
  (decide (PySem.W.keepIn K (.ref (v_f_holds_in_sequence_ K)) = true)) && (
  (decide (PySem.W.nsIn K mainGlobals "is_integer" = some (some (.ref (v_f_is_integer_ K))))) && (
  (decide ((Hk.fnD K (v_f_is_integer_ K)).defaults = .none)) && (
  (decide (PySem.W.codeIn K (v_cd_is_integer K) "is_integer" = true)) && (
  (decide (PySem.W.keepIn K (.ref (v_f_is_integer_ K)) = true)) && (
  (decide (PySem.W.nsIn K mainGlobals "want_batch" = some (some (.ref (v_f_want_batch_ K))))) && (
  (decide ((Hk.fnD K (v_f_want_batch_ K)).defaults = .none)) && (
  (decide (PySem.W.codeIn K (v_cd_want_batch K) "want_batch" = true)) && (
  (decide (PySem.W.keepIn K (.ref (v_f_want_batch_ K)) = true)) && (
  (decide (PySem.W.findIn K (.ref (v_C_Book K)) "__init__" = some (some (.ref (v_f_Book___init___ K))))) && (
  (decide (PySem.W.isFn K (.ref (v_f_Book___init___ K)) = true)) && (
  (decide ((Hk.fnD K (v_f_Book___init___ K)).defaults = .none)) && (
  (decide (PySem.W.codeIn K (v_cd_Book___init__ K) "Book.__init__" = true)) && (
  (decide (PySem.W.keepIn K (.ref (v_f_Book___init___ K)) = true)) && (
  (decide (PySem.W.nsIn K mainGlobals "_law_book" = some (some (.ref (v_f__law_book_ K))))) && (
  (decide ((Hk.fnD K (v_f__law_book_ K)).defaults = .none)) && (
  (decide (PySem.W.codeIn K (v_cd__law_book K) "_law_book" = true)) && (
  (decide (PySem.W.keepIn K (.ref (v_f__law_book_ K)) = true)) && (
  (decide (PySem.W.findIn K (.ref (v_C_Book K)) "others" = some (some (.ref (v_f_Book_others_ K))))) && (
  (decide (PySem.W.isFn K (.ref (v_f_Book_others_ K)) = true)) && (
  (decide ((Hk.fnD K (v_f_Book_others_ K)).defaults = .none)) && (
  (decide (PySem.W.codeIn K (v_cd_Book_others K) "Book.others" = true)) && (
  (decide (PySem.W.keepIn K (.ref (v_f_Book_others_ K)) = true)) && (
  (decide (PySem.W.findIn K (.ref (v_C_Book K)) "is_as_strict" = some (some (.ref (v_f_Book_is_as_strict_ K))))) && (
  (decide (PySem.W.isFn K (.ref (v_f_Book_is_as_strict_ K)) = true)) && (
  (decide ((Hk.fnD K (v_f_Book_is_as_strict_ K)).defaults = .none)) && (true))))))))))))))))))))))))))))))
def bs3 (K : PySem.W.Frag) : Bool :=
  (decide (PySem.W.codeIn K (v_cd_Book_is_as_strict K) "Book.is_as_strict" = true)) && (
  (decide (PySem.W.keepIn K (.ref (v_f_Book_is_as_strict_ K)) = true)) && (
  (decide (PySem.W.findIn K (.ref (v_C_Book K)) "__eq__" = some (some (.ref (v_f_Book___eq___ K))))) && (
  (decide (PySem.W.isFn K (.ref (v_f_Book___eq___ K)) = true)) && (
  (decide ((Hk.fnD K (v_f_Book___eq___ K)).defaults = .none)) && (
  (decide (PySem.W.codeIn K (v_cd_Book___eq__ K) "Book.__eq__" = true)) && (
  (decide (PySem.W.keepIn K (.ref (v_f_Book___eq___ K)) = true)) && (
  (decide (PySem.W.nsIn K mainGlobals "_law_is_as_strict" = some (some (.ref (v_f__law_is_as_strict_ K))))) && (
  (decide ((Hk.fnD K (v_f__law_is_as_strict_ K)).defaults = .none)) && (
  (decide (PySem.W.codeIn K (v_cd__law_is_as_strict K) "_law_is_as_strict" = true)) && (
  (decide (PySem.W.keepIn K (.ref (v_f__law_is_as_strict_ K)) = true)) && (
  (decide (PySem.W.nsIn K mainGlobals "_law_two_right" = some (some (.ref (v_f__law_two_right_ K))))) && (
  (decide ((Hk.fnD K (v_f__law_two_right_ K)).defaults = .none)) && (
  (decide (PySem.W.codeIn K (v_cd__law_two_right K) "_law_two_right" = true)) && (
  (decide (PySem.W.keepIn K (.ref (v_f__law_two_right_ K)) = true)) && (
  (decide (PySem.W.nsIn K mainGlobals "_law_known_right" = some (some (.ref (v_f__law_known_right_ K))))) && (
  (decide ((Hk.fnD K (v_f__law_known_right_ K)).defaults = .none)) && (
  (decide (PySem.W.codeIn K (v_cd__law_known_right K) "_law_known_right" = true)) && (
  (decide (PySem.W.keepIn K (.ref (v_f__law_known_right_ K)) = true)) && (
  (decide (PySem.W.nsIn K mainGlobals "_law_draw" = some (some (.ref (v_f__law_draw_ K))))) && (
  (decide ((Hk.fnD K (v_f__law_draw_ K)).defaults = .none)) && (
  (decide (PySem.W.codeIn K (v_cd__law_draw K) "_law_draw" = true)) && (
  (decide (PySem.W.keepIn K (.ref (v_f__law_draw_ K)) = true)) && (
  (decide (PySem.W.nsIn K mainGlobals "_law_pick" = some (some (.ref (v_f__law_pick_ K))))) && (
  (decide ((Hk.fnD K (v_f__law_pick_ K)).defaults = .none)) && (
  (decide (PySem.W.codeIn K (v_cd__law_pick K) "_law_pick" = true)) && (
  (decide (PySem.W.keepIn K (.ref (v_f__law_pick_ K)) = true)) && (
  (decide (PySem.W.nsIn K mainGlobals "_law_sequences" = some (some (.ref (v_f__law_sequences_ K))))) && (
  (decide ((Hk.fnD K (v_f__law_sequences_ K)).defaults = .none)) && (
  (decide (PySem.W.codeIn K (v_cd__law_sequences K) "_law_sequences" = true)) && (true))))))))))))))))))))))))))))))
def bs4 (K : PySem.W.Frag) : Bool :=
  (decide (PySem.W.keepIn K (.ref (v_f__law_sequences_ K)) = true)) && (
  (decide (PySem.W.nsIn K mainGlobals "_law_is_ahead" = some (some (.ref (v_f__law_is_ahead_ K))))) && (
  (decide ((Hk.fnD K (v_f__law_is_ahead_ K)).defaults = .none)) && (
  (decide (PySem.W.codeIn K (v_cd__law_is_ahead K) "_law_is_ahead" = true)) && (
  (decide (PySem.W.keepIn K (.ref (v_f__law_is_ahead_ K)) = true)) && (
  (decide (PySem.W.nsIn K mainGlobals "_law_is_take" = some (some (.ref (v_f__law_is_take_ K))))) && (
  (decide ((Hk.fnD K (v_f__law_is_take_ K)).defaults = .none)) && (
  (decide (PySem.W.codeIn K (v_cd__law_is_take K) "_law_is_take" = true)) && (
  (decide (PySem.W.keepIn K (.ref (v_f__law_is_take_ K)) = true)) && (
  (decide (PySem.W.nsIn K mainGlobals "_law_takes" = some (some (.ref (v_f__law_takes_ K))))) && (
  (decide ((Hk.fnD K (v_f__law_takes_ K)).defaults = .none)) && (
  (decide (PySem.W.codeIn K (v_cd__law_takes K) "_law_takes" = true)) && (
  (decide (PySem.W.keepIn K (.ref (v_f__law_takes_ K)) = true)) && (
  (decide (PySem.W.nsIn K mainGlobals "_law_is_give" = some (some (.ref (v_f__law_is_give_ K))))) && (
  (decide ((Hk.fnD K (v_f__law_is_give_ K)).defaults = .none)) && (
  (decide (PySem.W.codeIn K (v_cd__law_is_give K) "_law_is_give" = true)) && (
  (decide (PySem.W.keepIn K (.ref (v_f__law_is_give_ K)) = true)) && (
  (decide (PySem.W.nsIn K mainGlobals "_law_gives" = some (some (.ref (v_f__law_gives_ K))))) && (
  (decide ((Hk.fnD K (v_f__law_gives_ K)).defaults = .none)) && (
  (decide (PySem.W.codeIn K (v_cd__law_gives K) "_law_gives" = true)) && (
  (decide (PySem.W.keepIn K (.ref (v_f__law_gives_ K)) = true)) && (
  (decide (PySem.W.nsIn K mainGlobals "_law_is_move" = some (some (.ref (v_f__law_is_move_ K))))) && (
  (decide ((Hk.fnD K (v_f__law_is_move_ K)).defaults = .none)) && (
  (decide (PySem.W.codeIn K (v_cd__law_is_move K) "_law_is_move" = true)) && (
  (decide (PySem.W.keepIn K (.ref (v_f__law_is_move_ K)) = true)) && (
  (decide (PySem.W.nsIn K mainGlobals "_law_moves" = some (some (.ref (v_f__law_moves_ K))))) && (
  (decide ((Hk.fnD K (v_f__law_moves_ K)).defaults = .none)) && (
  (decide (PySem.W.codeIn K (v_cd__law_moves K) "_law_moves" = true)) && (
  (decide (PySem.W.keepIn K (.ref (v_f__law_moves_ K)) = true)) && (
  (decide (PySem.W.nsIn K mainGlobals "_law_lifts" = some (some (.ref (v_f__law_lifts_ K))))) && (true))))))))))))))))))))))))))))))
def bs5 (K : PySem.W.Frag) : Bool :=
  (decide ((Hk.fnD K (v_f__law_lifts_ K)).defaults = .none)) && (
  (decide (PySem.W.codeIn K (v_cd__law_lifts K) "_law_lifts" = true)) && (
  (decide (PySem.W.keepIn K (.ref (v_f__law_lifts_ K)) = true)) && (
  (decide (PySem.W.nsIn K mainGlobals "_law_any" = some (some (.ref (v_f__law_any_ K))))) && (
  (decide ((Hk.fnD K (v_f__law_any_ K)).defaults = .none)) && (
  (decide (PySem.W.codeIn K (v_cd__law_any K) "_law_any" = true)) && (
  (decide (PySem.W.keepIn K (.ref (v_f__law_any_ K)) = true)) && (
  (decide (PySem.W.nsIn K mainGlobals "_law_exchanged" = some (some (.ref (v_f__law_exchanged_ K))))) && (
  (decide ((Hk.fnD K (v_f__law_exchanged_ K)).defaults = .none)) && (
  (decide (PySem.W.codeIn K (v_cd__law_exchanged K) "_law_exchanged" = true)) && (
  (decide (PySem.W.keepIn K (.ref (v_f__law_exchanged_ K)) = true)) && (
  (decide (PySem.W.nsIn K mainGlobals "_law_beside" = some (some (.ref (v_f__law_beside_ K))))) && (
  (decide ((Hk.fnD K (v_f__law_beside_ K)).defaults = .none)) && (
  (decide (PySem.W.codeIn K (v_cd__law_beside K) "_law_beside" = true)) && (
  (decide (PySem.W.keepIn K (.ref (v_f__law_beside_ K)) = true)) && (
  (decide (PySem.W.findIn K (.ref (v_C_Book K)) "holds" = some (some (.ref (v_pr_Book_holds K))))) && (
  (decide (PySem.W.recIn K (v_pr_Book_holds K) "property" = some (.ref (v_f_Book_holds_ K) :: (v_re_Book_holds K)))) && (
  (decide (PySem.W.specialIn K (.ref (v_pr_Book_holds K)) "__get__" = some (some (.builtin "property.__get__")))) && (
  (decide (PySem.W.takesIn K (.ref (v_pr_Book_holds K)) = some true)) && (
  (decide ((Hk.fnD K (v_f_Book_holds_ K)).defaults = .none)) && (
  (decide (PySem.W.codeIn K (v_cd_Book_holds K) "Book.holds" = true)) && (
  (decide (PySem.W.keepIn K (.ref (v_f_Book_holds_ K)) = true)) && (
  (decide (PySem.W.findIn K (.ref (v_C_Book K)) "__repr__" = some (some (.ref (v_f_Book___repr___ K))))) && (
  (decide (PySem.W.isFn K (.ref (v_f_Book___repr___ K)) = true)) && (
  (decide ((Hk.fnD K (v_f_Book___repr___ K)).defaults = .none)) && (
  (decide (PySem.W.codeIn K (v_cd_Book___repr__ K) "Book.__repr__" = true)) && (
  (decide (PySem.W.keepIn K (.ref (v_f_Book___repr___ K)) = true)) && (
  (decide (PySem.W.nsIn K mainGlobals "_law_alone_right" = some (some (.ref (v_f__law_alone_right_ K))))) && (
  (decide ((Hk.fnD K (v_f__law_alone_right_ K)).defaults = .none)) && (
  (decide (PySem.W.codeIn K (v_cd__law_alone_right K) "_law_alone_right" = true)) && (true))))))))))))))))))))))))))))))
def bs6 (K : PySem.W.Frag) : Bool :=
  (decide (PySem.W.keepIn K (.ref (v_f__law_alone_right_ K)) = true)) && (
  (decide (PySem.W.nsIn K mainGlobals "_law_right" = some (some (.ref (v_f__law_right_ K))))) && (
  (decide ((Hk.fnD K (v_f__law_right_ K)).defaults = .none)) && (
  (decide (PySem.W.codeIn K (v_cd__law_right K) "_law_right" = true)) && (
  (decide (PySem.W.keepIn K (.ref (v_f__law_right_ K)) = true)) && (
  (decide (PySem.W.nsIn K mainGlobals "_law_pot" = some (some (.ref (v_f__law_pot_ K))))) && (
  (decide ((Hk.fnD K (v_f__law_pot_ K)).defaults = .none)) && (
  (decide (PySem.W.codeIn K (v_cd__law_pot K) "_law_pot" = true)) && (
  (decide (PySem.W.keepIn K (.ref (v_f__law_pot_ K)) = true)) && (
  (decide (PySem.W.nsIn K mainGlobals "law" = some (some (.ref (v_f_law_ K))))) && (
  (decide ((Hk.fnD K (v_f_law_ K)).defaults = .none)) && (
  (decide (PySem.W.codeIn K (v_cd_law K) "law" = true)) && (
  (decide (PySem.W.keepIn K (.ref (v_f_law_ K)) = true)) && (
  (decide (PySem.W.nsIn K mainGlobals "abs" = some none)) && (
  (decide (PySem.W.nsIn K mainGlobals "all" = some none)) && (
  (decide (PySem.W.nsIn K mainGlobals "any" = some none)) && (
  (decide (PySem.W.nsIn K mainGlobals "bool" = some none)) && (
  (decide (PySem.W.nsIn K mainGlobals "dict" = some none)) && (
  (decide (PySem.W.nsIn K mainGlobals "divmod" = some none)) && (
  (decide (PySem.W.nsIn K mainGlobals "enumerate" = some none)) && (
  (decide (PySem.W.nsIn K mainGlobals "int" = some none)) && (
  (decide (PySem.W.nsIn K mainGlobals "isinstance" = some none)) && (
  (decide (PySem.W.nsIn K mainGlobals "len" = some none)) && (
  (decide (PySem.W.nsIn K mainGlobals "list" = some none)) && (
  (decide (PySem.W.nsIn K mainGlobals "max" = some none)) && (
  (decide (PySem.W.nsIn K mainGlobals "min" = some none)) && (
  (decide (PySem.W.nsIn K mainGlobals "range" = some none)) && (
  (decide (PySem.W.nsIn K mainGlobals "repr" = some none)) && (
  (decide (PySem.W.nsIn K mainGlobals "str" = some none)) && (
  (decide (PySem.W.nsIn K mainGlobals "tuple" = some none)) && (true))))))))))))))))))))))))))))))
def bs7 (K : PySem.W.Frag) : Bool :=
  (decide (PySem.W.nsIn K mainGlobals "zip" = some none)) && (
  (decide (PySem.W.nsIn K mainGlobals "ADD" = some (some (.str "add" (v_tk_ADD K))))) && (
  (decide (PySem.W.nsIn K mainGlobals "BOTH" = some (some (.str "both" (v_tk_BOTH K))))) && (
  (decide (PySem.W.nsIn K mainGlobals "END" = some (some (.str "end" (v_tk_END K))))) && (
  (decide (PySem.W.nsIn K mainGlobals "FAILS" = some (some (.ref (v_ad_FAILS K))))) && (
  (Hk.tupIs K (v_ad_FAILS K) [(.str "undo" (v_kk_FAILS_0 K)), (.str "leave" (v_kk_FAILS_1 K)), (.str "wait" (v_kk_FAILS_2 K))]) && (
  (decide (PySem.W.nsIn K mainGlobals "GIVE" = some (some (.str "give" (v_tk_GIVE K))))) && (
  (decide (PySem.W.nsIn K mainGlobals "GIVE_WORDS" = some (some (.ref (v_ad_GIVE_WORDS K))))) && (
  (Hk.tupIs K (v_ad_GIVE_WORDS K) [(.str "home" (v_kk_GIVE_WORDS_0 K)), (.str "off" (v_kk_GIVE_WORDS_1 K)), (.str "end" (v_kk_GIVE_WORDS_2 K))]) && (
  (decide (PySem.W.nsIn K mainGlobals "GREATEST_BATCH" = some (some (.int 50 (v_tk_GREATEST_BATCH K))))) && (
  (decide (PySem.W.nsIn K mainGlobals "HOLDING" = some (some (.ref (v_ad_HOLDING K))))) && (
  (Hk.tupIs K (v_ad_HOLDING K) [(.str "take" (v_kk_HOLDING_0 K)), (.str "give" (v_kk_HOLDING_1 K)), (.str "move" (v_kk_HOLDING_2 K)), (.str "lift" (v_kk_HOLDING_3 K))]) && (
  (decide (PySem.W.nsIn K mainGlobals "HOME" = some (some (.str "home" (v_tk_HOME K))))) && (
  (decide (PySem.W.nsIn K mainGlobals "LIFT" = some (some (.str "lift" (v_tk_LIFT K))))) && (
  (decide (PySem.W.nsIn K mainGlobals "LIFTS" = some (some (.ref (v_ad_LIFTS K))))) && (
  (Hk.tupIs K (v_ad_LIFTS K) [(Value.ref (v_ad_LIFTS_0 K)), (Value.ref (v_ad_LIFTS_1 K)), (Value.ref (v_ad_LIFTS_2 K)), (Value.ref (v_ad_LIFTS_3 K)), (Value.ref (v_ad_LIFTS_4 K)), (Value.ref (v_ad_LIFTS_5 K))]) && (
  (Hk.tupIs K (v_ad_LIFTS_0 K) []) && (
  (Hk.tupIs K (v_ad_LIFTS_1 K) [(.str "set" (v_kk_LIFTS_1_0 K))]) && (
  (Hk.tupIs K (v_ad_LIFTS_2 K) [(.str "off" (v_kk_LIFTS_2_0 K))]) && (
  (Hk.tupIs K (v_ad_LIFTS_3 K) [(.str "set" (v_kk_LIFTS_3_0 K)), (.str "off" (v_kk_LIFTS_3_1 K))]) && (
  (Hk.tupIs K (v_ad_LIFTS_4 K) [(.str "off" (v_kk_LIFTS_4_0 K)), (.str "set" (v_kk_LIFTS_4_1 K))]) && (
  (Hk.tupIs K (v_ad_LIFTS_5 K) [(.str "both" (v_kk_LIFTS_5_0 K))]) && (
  (decide (PySem.W.nsIn K mainGlobals "LIVE" = some (some (.str "live" (v_tk_LIVE K))))) && (
  (decide (PySem.W.nsIn K mainGlobals "LOOK" = some (some (.str "look" (v_tk_LOOK K))))) && (
  (decide (PySem.W.nsIn K mainGlobals "MOVE" = some (some (.str "move" (v_tk_MOVE K))))) && (
  (decide (PySem.W.nsIn K mainGlobals "MOVE_WORDS" = some (some (.ref (v_ad_MOVE_WORDS K))))) && (
  (Hk.tupIs K (v_ad_MOVE_WORDS K) [(.str "home" (v_kk_MOVE_WORDS_0 K)), (.str "look" (v_kk_MOVE_WORDS_1 K)), (.str "add" (v_kk_MOVE_WORDS_2 K)), (.str "try" (v_kk_MOVE_WORDS_3 K)), (.str "set" (v_kk_MOVE_WORDS_4 K)), (.str "off" (v_kk_MOVE_WORDS_5 K))]) && (
  (decide (PySem.W.nsIn K mainGlobals "OFF" = some (some (.str "off" (v_tk_OFF K))))) && (
  (decide (PySem.W.nsIn K mainGlobals "SET" = some (some (.str "set" (v_tk_SET K))))) && (
  (decide (PySem.W.nsIn K mainGlobals "TAKE" = some (some (.str "take" (v_tk_TAKE K))))) && (true))))))))))))))))))))))))))))))
def bs8 (K : PySem.W.Frag) : Bool :=
  (decide (PySem.W.nsIn K mainGlobals "TAKE_WORDS" = some (some (.ref (v_ad_TAKE_WORDS K))))) && (
  (Hk.tupIs K (v_ad_TAKE_WORDS K) [(.str "look" (v_kk_TAKE_WORDS_0 K)), (.str "add" (v_kk_TAKE_WORDS_1 K)), (.str "try" (v_kk_TAKE_WORDS_2 K)), (.str "live" (v_kk_TAKE_WORDS_3 K))]) && (
  (decide (PySem.W.nsIn K mainGlobals "TESTS" = some (some (.ref (v_ad_TESTS K))))) && (
  (Hk.tupIs K (v_ad_TESTS K) [(.str "look" (v_kk_TESTS_0 K)), (.str "try" (v_kk_TESTS_1 K))]) && (
  (decide (PySem.W.nsIn K mainGlobals "TRY" = some (some (.str "try" (v_tk_TRY K))))) && (true)))))
def fnL (K : PySem.W.Frag) : List (Option FuncData) := [Hk.fnW K (v_f_are_words_ K), Hk.fnW K (v_f_are_tests_ahead_ K), Hk.fnW K (v_f_is_take_ K), Hk.fnW K (v_f_is_behind_ K), Hk.fnW K (v_f_is_give_ K), Hk.fnW K (v_f_is_move_ K), Hk.fnW K (v_f_is_lift_ K), Hk.fnW K (v_f_is_row_ K), Hk.fnW K (v_f_want_word_ K), Hk.fnW K (v_f_are_holds_ K), Hk.fnW K (v_f_holds_in_sequence_ K), Hk.fnW K (v_f_is_integer_ K), Hk.fnW K (v_f_want_batch_ K), Hk.fnW K (v_f_Book___init___ K), Hk.fnW K (v_f__law_book_ K), Hk.fnW K (v_f_Book_others_ K), Hk.fnW K (v_f_Book_is_as_strict_ K), Hk.fnW K (v_f_Book___eq___ K), Hk.fnW K (v_f__law_is_as_strict_ K), Hk.fnW K (v_f__law_two_right_ K), Hk.fnW K (v_f__law_known_right_ K), Hk.fnW K (v_f__law_draw_ K), Hk.fnW K (v_f__law_pick_ K), Hk.fnW K (v_f__law_sequences_ K), Hk.fnW K (v_f__law_is_ahead_ K), Hk.fnW K (v_f__law_is_take_ K), Hk.fnW K (v_f__law_takes_ K), Hk.fnW K (v_f__law_is_give_ K), Hk.fnW K (v_f__law_gives_ K), Hk.fnW K (v_f__law_is_move_ K), Hk.fnW K (v_f__law_moves_ K), Hk.fnW K (v_f__law_lifts_ K), Hk.fnW K (v_f__law_any_ K), Hk.fnW K (v_f__law_exchanged_ K), Hk.fnW K (v_f__law_beside_ K), Hk.fnW K (v_f_Book_holds_ K), Hk.fnW K (v_f_Book___repr___ K), Hk.fnW K (v_f__law_alone_right_ K), Hk.fnW K (v_f__law_right_ K), Hk.fnW K (v_f__law_pot_ K), Hk.fnW K (v_f_law_ K)]
def fnR : List (Option FuncData) := [some (Hk.fnV "are_words" "are_words" (defArgs s_are_words) (defBody s_are_words) (defScope s_are_words)), some (Hk.fnV "are_tests_ahead" "are_tests_ahead" (defArgs s_are_tests_ahead) (defBody s_are_tests_ahead) (defScope s_are_tests_ahead)), some (Hk.fnV "is_take" "is_take" (defArgs s_is_take) (defBody s_is_take) (defScope s_is_take)), some (Hk.fnV "is_behind" "is_behind" (defArgs s_is_behind) (defBody s_is_behind) (defScope s_is_behind)), some (Hk.fnV "is_give" "is_give" (defArgs s_is_give) (defBody s_is_give) (defScope s_is_give)), some (Hk.fnV "is_move" "is_move" (defArgs s_is_move) (defBody s_is_move) (defScope s_is_move)), some (Hk.fnV "is_lift" "is_lift" (defArgs s_is_lift) (defBody s_is_lift) (defScope s_is_lift)), some (Hk.fnV "is_row" "is_row" (defArgs s_is_row) (defBody s_is_row) (defScope s_is_row)), some (Hk.fnV "want_word" "want_word" (defArgs s_want_word) (defBody s_want_word) (defScope s_want_word)), some (Hk.fnV "are_holds" "are_holds" (defArgs s_are_holds) (defBody s_are_holds) (defScope s_are_holds)), some (Hk.fnV "holds_in_sequence" "holds_in_sequence" (defArgs s_holds_in_sequence) (defBody s_holds_in_sequence) (defScope s_holds_in_sequence)), some (Hk.fnV "is_integer" "is_integer" (defArgs s_is_integer) (defBody s_is_integer) (defScope s_is_integer)), some (Hk.fnV "want_batch" "want_batch" (defArgs s_want_batch) (defBody s_want_batch) (defScope s_want_batch)), some (Hk.fnV "__init__" "Book.__init__" (defArgs s_Book___init__) (defBody s_Book___init__) (defScope s_Book___init__)), some (Hk.fnV "_law_book" "_law_book" (defArgs s__law_book) (defBody s__law_book) (defScope s__law_book)), some (Hk.fnV "others" "Book.others" (defArgs s_Book_others) (defBody s_Book_others) (defScope s_Book_others)), some (Hk.fnV "is_as_strict" "Book.is_as_strict" (defArgs s_Book_is_as_strict) (defBody s_Book_is_as_strict) (defScope s_Book_is_as_strict)), some (Hk.fnV "__eq__" "Book.__eq__" (defArgs s_Book___eq__) (defBody s_Book___eq__) (defScope s_Book___eq__)), some (Hk.fnV "_law_is_as_strict" "_law_is_as_strict" (defArgs s__law_is_as_strict) (defBody s__law_is_as_strict) (defScope s__law_is_as_strict)), some (Hk.fnV "_law_two_right" "_law_two_right" (defArgs s__law_two_right) (defBody s__law_two_right) (defScope s__law_two_right)), some (Hk.fnV "_law_known_right" "_law_known_right" (defArgs s__law_known_right) (defBody s__law_known_right) (defScope s__law_known_right)), some (Hk.fnV "_law_draw" "_law_draw" (defArgs s__law_draw) (defBody s__law_draw) (defScope s__law_draw)), some (Hk.fnV "_law_pick" "_law_pick" (defArgs s__law_pick) (defBody s__law_pick) (defScope s__law_pick)), some (Hk.fnV "_law_sequences" "_law_sequences" (defArgs s__law_sequences) (defBody s__law_sequences) (defScope s__law_sequences)), some (Hk.fnV "_law_is_ahead" "_law_is_ahead" (defArgs s__law_is_ahead) (defBody s__law_is_ahead) (defScope s__law_is_ahead)), some (Hk.fnV "_law_is_take" "_law_is_take" (defArgs s__law_is_take) (defBody s__law_is_take) (defScope s__law_is_take)), some (Hk.fnV "_law_takes" "_law_takes" (defArgs s__law_takes) (defBody s__law_takes) (defScope s__law_takes)), some (Hk.fnV "_law_is_give" "_law_is_give" (defArgs s__law_is_give) (defBody s__law_is_give) (defScope s__law_is_give)), some (Hk.fnV "_law_gives" "_law_gives" (defArgs s__law_gives) (defBody s__law_gives) (defScope s__law_gives)), some (Hk.fnV "_law_is_move" "_law_is_move" (defArgs s__law_is_move) (defBody s__law_is_move) (defScope s__law_is_move)), some (Hk.fnV "_law_moves" "_law_moves" (defArgs s__law_moves) (defBody s__law_moves) (defScope s__law_moves)), some (Hk.fnV "_law_lifts" "_law_lifts" (defArgs s__law_lifts) (defBody s__law_lifts) (defScope s__law_lifts)), some (Hk.fnV "_law_any" "_law_any" (defArgs s__law_any) (defBody s__law_any) (defScope s__law_any)), some (Hk.fnV "_law_exchanged" "_law_exchanged" (defArgs s__law_exchanged) (defBody s__law_exchanged) (defScope s__law_exchanged)), some (Hk.fnV "_law_beside" "_law_beside" (defArgs s__law_beside) (defBody s__law_beside) (defScope s__law_beside)), some (Hk.fnV "holds" "Book.holds" (defArgs s_Book_holds) (defBody s_Book_holds) (defScope s_Book_holds)), some (Hk.fnV "__repr__" "Book.__repr__" (defArgs s_Book___repr__) (defBody s_Book___repr__) (defScope s_Book___repr__)), some (Hk.fnV "_law_alone_right" "_law_alone_right" (defArgs s__law_alone_right) (defBody s__law_alone_right) (defScope s__law_alone_right)), some (Hk.fnV "_law_right" "_law_right" (defArgs s__law_right) (defBody s__law_right) (defScope s__law_right)), some (Hk.fnV "_law_pot" "_law_pot" (defArgs s__law_pot) (defBody s__law_pot) (defScope s__law_pot)), some (Hk.fnV "law" "law" (defArgs s_law) (defBody s_law) (defScope s_law))]
def lk0 (K : PySem.W.Frag) : Bool := bs0 K && (bs1 K && (bs2 K && (bs3 K && (bs4 K && (bs5 K && (bs6 K && (bs7 K && (bs8 K))))))))
def obF (K : PySem.W.Frag) : Bool × (List (Option FuncData)) := (lk0 K, fnL K)
def vaF : Bool × (List (Option FuncData)) := (true, fnR)
open PySem.W
abbrev Rw : OpenRow := OpenLaw.row PySem.Challenge.rw_chargeways_k24_books_as_strict_and_equal
abbrev qv : Program := view Rw.prog [71]
def nm0 : List PySem.Str := ["_wall", "__name__", "is_integer", "WayError", "InvalidKind", "InvalidRow", "InvalidWord", "InvalidHolds", "InvalidCount", "TAKE", "GIVE", "MOVE", "LIFT", "LOOK", "ADD", "TRY", "OFF", "LIVE", "HOME", "SET", "END", "BOTH", "UNDO", "LEAVE", "WAIT", "TESTS", "FAILS", "HOLDING", "TAKE_WORDS", "GIVE_WORDS"]
def nm1 : List PySem.Str := ["MOVE_WORDS", "LIFTS", "GREATEST_BATCH", "are_words", "is_behind", "are_tests_ahead", "is_take", "is_give", "is_move", "is_lift", "is_row", "are_holds", "want_kind", "want_word", "holds_in_sequence", "want_batch", "Book", "_law_pot", "_law_draw", "_law_pick", "_law_sequences", "_law_is_ahead", "_law_is_take", "_law_is_give", "_law_is_move", "_law_takes", "_law_gives", "_law_moves", "_law_lifts", "_law_any"]
def nm2 : List PySem.Str := ["_law_book", "_law_exchanged", "_law_beside", "_law_is_as_strict", "_law_two_right", "_law_alone_right", "_law_right", "_law_known_right"]
def nms : List PySem.Str := nm0 ++ nm1 ++ nm2
def adr : List Addr := Hk.upTo 1500 [] ++ ([mainGlobals])
abbrev hk : Hook := Hk.hookH adr obF vaF
theorem fin_pre (run : ∀ w, RunEq Rw qv hk (Hk.obT adr obF) 9000 nms w) (call : WalkO qv nms (XL qv []) hk.says Rw.toRowW (HandSHeadRun.topDef Rw.prog 71) [] fun f vs => PySem.call f vs) : PySem.Challenge.rw_chargeways_k24_books_as_strict_and_equal.Holds := by
  w_on; o_law
  refine HandSHeadRun.head_any (r := OpenLaw.row PySem.Challenge.rw_chargeways_k24_books_as_strict_and_equal) (q := qv) (H := hk) (ob := Hk.obT adr obF) (M := 9000) (loose := nms) (d := HandSHeadRun.topDef (OpenLaw.row PySem.Challenge.rw_chargeways_k24_books_as_strict_and_equal).prog 71) (kwd := []) (fun s => Hk.obT_eq _ _ vaF s)
    (by kernel_rfl) (fun s => by kernel_rfl) run (by kernel_rfl) (by kernel_rfl) (by kernel_rfl) (by rfl) (by first | assumption | decide +kernel) (by decide +kernel) ⟨rfl, rfl, rfl, rfl, rfl, by decide +kernel⟩ ?hw call
  case hw => w_witness2
theorem run1 (w : World) (os : OsState) : (endF (stepQ (denQ tabQ) Rw.prog w) 9000 Rw.prog w os).map (fun s => (looksF Rw.prog (boot_heap w.params) s.abs, seenQ qv nms (importedModules Rw.prog.main.body) (fun s => xlAt qv [] s && recOk Rw.toRowW.records s) s.abs)) = some (true, openGood qv nms) := by kernel_rfl
theorem rb0 (w : World) (os : OsState) : (endF (stepQ (denQ tabQ) Rw.prog w) 9000 Rw.prog w os).map (fun s => Hk.obT adr lk0 s) = some true := by kernel_rfl
theorem rf (w : World) (os : OsState) : (endF (stepQ (denQ tabQ) Rw.prog w) 9000 Rw.prog w os).map (fun s => Hk.obT adr fnL s) = some fnR := by kernel_rfl
theorem run (w : World) : RunEq Rw qv hk (Hk.obT adr obF) 9000 nms w := by
  intro os
  have z := run1 w os
  have zb0 := rb0 w os
  have zf := rf w os
  generalize (endF (stepQ (denQ tabQ) Rw.prog w) 9000 Rw.prog w os) = y at *
  cases y with
  | none => cases z
  | some s =>
    have z5 := congrArg Prod.fst (Option.some.inj z)
    have z6 := congrArg Prod.snd (Option.some.inj z)
    dsimp only at z5 z6
    have xb0 : Hk.obT adr lk0 s = true := Option.some.inj zb0
    have xf : Hk.obT adr fnL s = fnR := Option.some.inj zf
    rw [Hk.obT_K] at xb0 xf
    show some _ = some _
    refine congrArg some (Prod.ext z5 (Prod.ext z6 ?_))
    show Hk.obT adr obF s = vaF
    rw [Hk.obT_K]
    unfold obF vaF
    rw [xb0, xf]
end Rn

set_option Elab.async false
set_option linter.all false
set_option maxRecDepth 100000
/-! Own layer, part 1: plain data, logical heap, combinators. No Python machine here. -/
namespace Py
open PySem

/-- plain values: tuples are values, what can change stands at a place of the logical heap -/
inductive D where
  | non | bl (b : Bool) | int (i : Int) | str (x : Str) | tup (xs : List D) | ref (n : Nat) | scr (ns : List Int) | fn (x : Str)

/-- what stands at a place -/
inductive O where
  | lst (xs : List D)
  | dct (kvs : List (L2.Key × D))
  | ins (c : Nat) (fs : List (Nat × D))
  /-- a dict that is being walked -/
  | hid (kvs : List (L2.Key × D))

abbrev LH := List O
inductive R (α : Type) where
  | ok (a : α) (h : LH)
  | exc (c : Nat) (fs : List (Nat × D)) (h : LH)
  | stuck
def R.bind {α β : Type} (r : R α) (f : α → LH → R β) : R β := match r with
  | .ok a h => f a h
  | .exc c fs h => .exc c fs h
  | .stuck => .stuck
@[simp] theorem R.bind_ok {α β : Type} (a : α) (h : LH) (f : α → LH → R β) : (R.ok a h).bind f = f a h := rfl
@[simp] theorem R.bind_exc {α β : Type} (c : Nat) (fs : List (Nat × D)) (h : LH) (f : α → LH → R β) : (R.exc c fs h : R α).bind f = .exc c fs h := rfl
@[simp] theorem R.bind_stuck {α β : Type} (f : α → LH → R β) : (R.stuck : R α).bind f = .stuck := rfl

abbrev LS := List (Option D)
abbrev EX := LS → LH → R D
abbrev AX := LS → LH → R (List D)
/-- flow behind a statement -/
inductive F where
  | nx (r : LS) (h : LH)
  | rt (d : D) (h : LH)
  | bk (r : LS) (h : LH)
  | ct (r : LS) (h : LH)
  | exc (c : Nat) (fs : List (Nat × D)) (h : LH)
  | stuck
abbrev SX := LS → LH → F
def R.to {α : Type} (r : R α) (f : α → LH → F) : F := match r with
  | .ok a h => f a h
  | .exc c fs h => .exc c fs h
  | .stuck => .stuck
@[simp] theorem R.to_ok {α : Type} (a : α) (h : LH) (f : α → LH → F) : (R.ok a h).to f = f a h := rfl
@[simp] theorem R.to_exc {α : Type} (c : Nat) (fs : List (Nat × D)) (h : LH) (f : α → LH → F) : (R.exc c fs h : R α).to f = .exc c fs h := rfl
@[simp] theorem R.to_stuck {α : Type} (f : α → LH → F) : (R.stuck : R α).to f = .stuck := rfl

/-! ### expressions -/
def eV (i : Nat) : EX := fun r h => match r[i]? with
  | some (some d) => .ok d h
  | _ => .stuck
def eC (d : D) : EX := fun _ h => .ok d h
def e1 (op : D → LH → R D) (a : EX) : EX := fun r h => (a r h).bind op
def e2 (op : D → D → LH → R D) (a b : EX) : EX := fun r h => (a r h).bind fun x h1 => (b r h1).bind fun y h2 => op x y h2
def aNil : AX := fun _ h => .ok [] h
def aCons (a : EX) (b : AX) : AX := fun r h => (a r h).bind fun x h1 => (b r h1).bind fun xs h2 => .ok (x :: xs) h2
def eA (op : List D → LH → R D) (a : AX) : EX := fun r h => (a r h).bind op
/-- truth -/
def truth : D → LH → Option Bool
  | .non, _ => some false
  | .bl b, _ => some b
  | .int i, _ => some (i != 0)
  | .str x, _ => some ((x.length : Int) != 0)
  | .tup xs, _ => some (!xs.isEmpty)
  | .ref n, h => match h[n]? with
    | some (.lst xs) => some (!xs.isEmpty)
    | _ => none
  | .scr ns, _ => some (!ns.isEmpty)
  | .fn _, _ => none
def eAnd (a b : EX) : EX := fun r h => (a r h).bind fun x h1 => match truth x h1 with
  | some true => b r h1
  | some false => .ok x h1
  | none => .stuck
def eOr (a b : EX) : EX := fun r h => (a r h).bind fun x h1 => match truth x h1 with
  | some true => .ok x h1
  | some false => b r h1
  | none => .stuck
def eNot (a : EX) : EX := fun r h => (a r h).bind fun x h1 => match truth x h1 with
  | some k => .ok (.bl (!k)) h1
  | none => .stuck
def eIf (t a b : EX) : EX := fun r h => (t r h).bind fun x h1 => match truth x h1 with
  | some true => a r h1
  | some false => b r h1
  | none => .stuck
def eTup (a : AX) : EX := eA (fun xs h => if xs.length ≤ sizeLine then .ok (.tup xs) h else .stuck) a
def eLst (a : AX) : EX := eA (fun xs h => if xs.length ≤ sizeLine then .ok (.ref h.length) (h ++ [.lst xs]) else .stuck) a

/-! ### operators -/
def opI (f : Int → Int → D) : D → D → LH → R D
  | .int i, .int j, h => .ok (f i j) h
  | _, _, _ => .stuck
def oAdd : D → D → LH → R D
  | .int i, .int j, h => .ok (.int (i + j)) h
  | .str i, .str j, h => if i.length + j.length ≤ sizeLine then .ok (.str (i ++ j)) h else .stuck
  | .tup xs, .tup ys, h => if xs.length + ys.length ≤ sizeLine then .ok (.tup (xs ++ ys)) h else .stuck
  | .ref n, .ref k, h => match h[n]?, h[k]? with
    | some (.lst xs), some (.lst ys) => if xs.length + ys.length ≤ sizeLine then .ok (.ref h.length) (h ++ [.lst (xs ++ ys)]) else .stuck
    | _, _ => .stuck
  | _, _, _ => .stuck
def oSub : D → D → LH → R D := opI fun i j => .int (i - j)
@[irreducible] def small (i : Int) : Bool := decide (-(2 ^ 64) < i) && decide (i < 2 ^ 64)
def oMul : D → D → LH → R D
  | .int i, .int j, h => if small i || small j then .ok (.int (i * j)) h else .stuck
  | .ref n, .int k, h => match h[n]? with
    | some (.lst xs) => if xs.length * k.toNat ≤ sizeLine ∧ -(2 ^ 63) ≤ k ∧ k < 2 ^ 63 then .ok (.ref h.length) (h ++ [.lst (List.replicate k.toNat xs).flatten]) else .stuck
    | _ => .stuck
  | _, _, _ => .stuck
def oMod : D → D → LH → R D
  | .int i, .int j, h => if 0 < j then .ok (.int (i % j)) h else .stuck
  | _, _, _ => .stuck
def oDiv : D → D → LH → R D
  | .int i, .int j, h => if 0 < j ∧ j < 1073741824 then .ok (.int (i / j)) h else .stuck
  | _, _, _ => .stuck
def oPow : D → D → LH → R D
  | .int i, .int j, h => if 0 ≤ j ∧ j ≤ 1000000 ∧ i.natAbs < 2 ^ 64 then .ok (.int (i ^ j.toNat)) h else .stuck
  | _, _, _ => .stuck
def oLt : D → D → LH → R D := opI fun i j => .bl (decide (i < j))
def oLe : D → D → LH → R D := opI fun i j => .bl (decide (i ≤ j))
def oGt : D → D → LH → R D := opI fun i j => .bl (decide (j < i))
def oGe : D → D → LH → R D := opI fun i j => .bl (decide (j ≤ i))
def oIsN (neg : Bool) : D → LH → R D
  | .non, h => .ok (.bl (!neg)) h
  | _, h => .ok (.bl neg) h

/-! ### statements -/
def sNil : SX := fun r h => .nx r h
def sSeq (a b : SX) : SX := fun r h => match a r h with
  | .nx r1 h1 => b r1 h1
  | x => x
def sE (a : EX) : SX := fun r h => (a r h).to fun _ h1 => .nx r h1
def sRet (a : EX) : SX := fun r h => (a r h).to fun d h1 => .rt d h1
def sRetN : SX := fun _ h => .rt .non h
def sIf (t : EX) (a b : SX) : SX := fun r h => (t r h).to fun x h1 => match truth x h1 with
  | some true => a r h1
  | some false => b r h1
  | none => .stuck
/-- a target: what is stored, locals, heap -/
abbrev GX := D → LS → LH → F
def gN (i : Nat) : GX := fun d r h => .nx (r.set i (some d)) h
def sAsg (a : EX) (g : GX) : SX := fun r h => (a r h).to fun d h1 => g d r h1
abbrev GXs := List D → LS → LH → F
def gsNil : GXs := fun ds r h => match ds with
  | [] => .nx r h
  | _ => .stuck
def gsCons (g : GX) (gs : GXs) : GXs := fun ds r h => match ds with
  | d :: ds => (match g d r h with
    | .nx r1 h1 => gs ds r1 h1
    | x => x)
  | [] => .stuck
def gT (n : Nat) (gs : GXs) : GX := fun d r h => match d with
  | .tup xs => if xs.length = n then gs xs r h else .stuck
  | _ => .stuck
end Py

namespace Py
open PySem
/-! ### fields, calls -/
def getA (i : Nat) : List (Nat × D) → Option D
  | [] => none
  | (j, d) :: r => if i = j then some d else getA i r
def putA (i : Nat) (d : D) : List (Nat × D) → List (Nat × D)
  | [] => [(i, d)]
  | (j, e) :: r => if j = i then (j, d) :: r else (j, e) :: putA i d r
/-- o.f of an instance of the class c -/
def eFld (c i : Nat) (o : EX) : EX := e1 (fun x h => match x with
  | .ref n => (match h[n]? with
    | some (.ins c' fs) => if c' = c then (match getA i fs with
      | some d => .ok d h
      | none => .stuck) else .stuck
    | _ => .stuck)
  | _ => .stuck) o
/-- o.f = e -/
def sFld (c i : Nat) (o e : EX) : SX := fun r h => (e r h).to fun d h1 => (o r h1).to fun x h2 => match x with
  | .ref n => (match h2[n]? with
    | some (.ins c' fs) => if c' = c ∧ fs.length < 1000 then .nx r (h2.set n (.ins c (putA i d fs))) else .stuck
    | _ => .stuck)
  | _ => .stuck
abbrev CF := List D → LH → R D
/-- a call with positional and keyword values -/
abbrev KF := List D → List D → LH → R D
def eCall (op : KF) (a k : AX) : EX := fun r h => (a r h).bind fun ds h1 => (k r h1).bind fun es h2 => op ds es h2
def opF (n k : Nat) (bd : List D → List D → List D) (cf : CF) : KF := fun ds es h => if ds.length = n ∧ es.length = k then cf (bd ds es) h else .stuck
/-- a new instance of the class c -/
def opM (c n k : Nat) (bd : List D → List D → List D) (cf : CF) : KF := fun ds es h => if ds.length = n ∧ es.length = k then (cf (bd (.ref h.length :: ds) es) (h ++ [.ins c []])).bind (fun v h2 => match v with
  | .non => .ok (.ref h.length) h2
  | _ => .stuck) else .stuck
/-- o.m(..), the instance of the class c -/
def eMeth (c : Nat) (op : KF) (o : EX) (a k : AX) : EX := fun r h => (o r h).bind fun x h1 => match x with
  | .ref n => (match h1[n]? with
    | some (.ins c' _) => if c' = c then (a r h1).bind fun ds h2 => (k r h2).bind fun es h3 => op (x :: ds) es h3 else .stuck
    | _ => .stuck)
  | _ => .stuck
def bd0 : List D → List D → List D := fun ds _ => ds
/-- a def: n parameters, k further names -/
def runF (n k : Nat) (b : SX) : CF := fun ds h => if ds.length = n then (match b (ds.map some ++ List.replicate k none) h with
  | .nx _ h' => .ok .non h'
  | .rt d h' => .ok d h'
  | .exc c fs h' => .exc c fs h'
  | _ => .stuck) else .stuck
/-- a, b = x, y -/
def sPar (i j : Nat) (a : AX) : SX := fun r h => (a r h).to fun ds h1 => match ds with
  | [x, y] => .nx ((r.set i (some x)).set j (some y)) h1
  | _ => .stuck
/-- a chain a < b <= c, by values -/
def eChain (op op' : D → D → LH → R D) (a b c : EX) : EX := fun r h => (a r h).bind fun x h1 => (b r h1).bind fun y h2 => (op x y h2).bind fun z h3 => match z with
  | .bl true => (c r h3).bind fun w h4 => op' y w h4
  | .bl false => .ok (.bl false) h3
  | _ => .stuck
end Py

namespace Py
open PySem
/-! ### what is walked -/
inductive Src where
  /-- values that cannot change -/
  | its (xs : List D)
  /-- a list, as it stands at each turn -/
  | lst (n : Nat)
  /-- pairs with a number, from k on -/
  | enm (k : Int) (s : Src)
  /-- two walks side by side -/
  | zip (s t : Src)
/-- no text -/
def notS : D → Bool
  | .str _ => false
  | _ => true
def srcAt : Src → LH → Nat → Option (Option D)
  | .its xs, _, i => some xs[i]?
  | .lst n, h, i => match h[n]? with
    | some (.lst xs) => some xs[i]?
    | _ => none
  | .enm k s, h, i => (srcAt s h i).map (·.map fun d => .tup [.int (k + i), d])
  | .zip s t, h, i => match srcAt s h i, srcAt t h i with
    | some (some d), some (some e) => if (notS d || notS e) = true then some (some (.tup [d, e])) else none
    | some _, some _ => some none
    | _, _ => none
abbrev IX := LS → LH → R Src
/-- the values of a list, a tuple, the script -/
def srcOf : D → LH → Option Src
  | .tup xs, _ => some (.its xs)
  | .scr ns, _ => some (.its (ns.map .int))
  | .ref n, h => match h[n]? with
    | some (.lst _) => some (.lst n)
    | _ => none
  | _, _ => none
def iSeq (a : EX) : IX := fun r h => (a r h).bind fun d h1 => match srcOf d h1 with
  | some s => .ok s h1
  | none => .stuck
/-- range(a, b) -/
def rangeL (a b : Int) : List D := (List.range (b - a).toNat).map fun k => .int (a + (k : Nat))
@[irreducible] def small62 (i : Int) : Bool := decide (-(2 ^ 62) ≤ i) && decide (i < 2 ^ 62)
def iRng1 (a : EX) : IX := fun r h => (a r h).bind fun d h1 => match d with
  | .int j => if small62 j = true then .ok (.its (rangeL 0 j)) h1 else .stuck
  | _ => .stuck
def iRng2 (a b : EX) : IX := fun r h => (a r h).bind fun d h1 => (b r h1).bind fun e h2 => match d, e with
  | .int i, .int j => if small62 i = true ∧ small62 j = true then .ok (.its (rangeL i j)) h2 else .stuck
  | _, _ => .stuck
def iEnum (k : Int) (a : EX) : IX := fun r h => (a r h).bind fun d h1 => match srcOf d h1 with
  | some s => .ok (.enm k s) h1
  | none => .stuck
/-- turns at most -/
def fuelN : Nat := 1000000
def forX (s : Src) (g : GX) (b : SX) : Nat → Nat → LS → LH → F
  | 0, _, _, _ => .stuck
  | n + 1, i, r, h => match srcAt s h i with
    | none => .stuck
    | some none => .nx r h
    | some (some d) => (match g d r h with
      | .nx r1 h1 => (match b r1 h1 with
        | .nx r2 h2 => forX s g b n (i + 1) r2 h2
        | .ct r2 h2 => forX s g b n (i + 1) r2 h2
        | .bk r2 h2 => .nx r2 h2
        | x => x)
      | _ => .stuck)
def sFor (it : IX) (g : GX) (b : SX) : SX := fun r h => (it r h).to fun s h1 => forX s g b fuelN 0 r h1
def whileX (t : EX) (b : SX) : Nat → LS → LH → F
  | 0, _, _ => .stuck
  | n + 1, r, h => (t r h).to fun x h1 => match truth x h1 with
    | some true => (match b r h1 with
      | .nx r2 h2 => whileX t b n r2 h2
      | .ct r2 h2 => whileX t b n r2 h2
      | .bk r2 h2 => .nx r2 h2
      | x => x)
    | some false => .nx r h1
    | none => .stuck
def sWhile (t : EX) (b : SX) : SX := fun r h => whileX t b fuelN r h
/-! ### comprehensions: the target's slots are set anew at each turn -/
def wipeL (r : LS) : List Nat → LS
  | [] => r
  | v :: vs => (wipeL r vs).set v none
def tgt (vs : List Nat) (d : D) (r : LS) : Option LS := match vs with
  | [i] => some (r.set i (some d))
  | [i, j] => (match d with
    | .tup [x, y] => some ((r.set i (some x)).set j (some y))
    | _ => none)
  | [i, j, l] => (match d with
    | .tup [x, y, z] => some (((r.set i (some x)).set j (some y)).set l (some z))
    | _ => none)
  | _ => none
def compX (s : Src) (vs : List Nat) (t e : EX) : Nat → Nat → List D → LS → LH → R (List D)
  | 0, _, _, _, _ => .stuck
  | n + 1, i, acc, r, h => match srcAt s h i with
    | none => .stuck
    | some none => .ok acc h
    | some (some d) => (match tgt vs d r with
      | some r1 => (match t r1 h with
        | .ok x h2 => (match truth x h2 with
          | some true => (match e r1 h2 with
            | .ok y h3 => if acc.length < sizeLine then compX s vs t e n (i + 1) (acc ++ [y]) r h3 else .stuck
            | _ => .stuck)
          | some false => compX s vs t e n (i + 1) acc r h2
          | none => .stuck)
        | _ => .stuck)
      | none => .stuck)
def eComp (vs : List Nat) (it : IX) (t e : EX) : EX := fun r h => (it r h).bind fun s h1 => (compX s vs t e fuelN 0 [] (wipeL r vs) h1).bind fun acc h2 => .ok (.ref h2.length) (h2 ++ [.lst acc])
end Py

namespace Py
open PySem
/-! ### built-ins -/
/-- the items of a list or a tuple -/
def seqD : D → LH → Option (List D)
  | .tup xs, _ => some xs
  | .scr ns, _ => some (ns.map .int)
  | .ref n, h => match h[n]? with
    | some (.lst xs) => some xs
    | _ => none
  | _, _ => none
def flatD : D → Bool
  | .non => true
  | .bl _ => true
  | .int _ => true
  | .str _ => true
  | _ => false
def eqF : D → D → Bool
  | .non, .non => true
  | .bl a, .bl b => a == b
  | .bl a, .int b => (if a then 1 else 0) == b
  | .int a, .bl b => a == (if b then 1 else 0)
  | .int a, .int b => a == b
  | .str a, .str b => a == b
  | _, _ => false
def oIn (neg : Bool) : D → D → LH → R D := fun x y h => match seqD y h with
  | some xs => if (flatD x && xs.all flatD) = true then .ok (.bl (if neg then !(xs.any fun z => eqF z x) else xs.any fun z => eqF z x)) h else .stuck
  | none => .stuck
def oIx : D → D → LH → R D := fun x y h => match y with
  | .int i => (match seqD x h with
    | some xs => (match L2.atI xs i with
      | some d => .ok d h
      | none => .stuck)
    | none => .stuck)
  | _ => .stuck
def cutD (xs : List D) (lo hi : Option Int) : List D := (xs.drop (HT.sIx xs.length 0 lo)).take (HT.sIx xs.length xs.length hi - HT.sIx xs.length 0 lo)
/-- a part of a slice -/
abbrev PX := LS → LH → R (Option Int)
def pNo : PX := fun _ h => .ok none h
def pSome (a : EX) : PX := fun r h => (a r h).bind fun d h1 => match d with
  | .int i => .ok (some i) h1
  | _ => .stuck
def eSl (a : EX) (lo hi : PX) : EX := fun r h => (a r h).bind fun x h1 => (lo r h1).bind fun l h2 => (hi r h2).bind fun u h3 => match x with
  | .tup xs => .ok (.tup (cutD xs l u)) h3
  | .ref n => (match h3[n]? with
    | some (.lst xs) => .ok (.ref h3.length) (h3 ++ [.lst (cutD xs l u)])
    | _ => .stuck)
  | _ => .stuck
def bLen : List D → LH → R D
  | [.str x], h => if x.length ≤ sizeLine then .ok (.int (x.length : Nat)) h else .stuck
  | [x], h => (match seqD x h with
    | some xs => .ok (.int (xs.length : Nat)) h
    | none => .stuck)
  | _, _ => .stuck
def bAbs : List D → LH → R D
  | [.int i], h => .ok (.int (if i < 0 then -i else i)) h
  | _, _ => .stuck
def bMax : List D → LH → R D
  | [.int i, .int j], h => .ok (.int (if j > i then j else i)) h
  | _, _ => .stuck
def bMin : List D → LH → R D
  | [.int i, .int j], h => .ok (.int (if j < i then j else i)) h
  | _, _ => .stuck
def bInt : List D → LH → R D
  | [.int i], h => .ok (.int i) h
  | [.bl k], h => .ok (.int (if k then 1 else 0)) h
  | _, _ => .stuck
def bDivmod : List D → LH → R D
  | [.int i, .int j], h => if 0 < j ∧ j < 1073741824 then .ok (.tup [.int (i / j), .int (i % j)]) h else .stuck
  | _, _ => .stuck
def bList : List D → LH → R D
  | [x], h => (match seqD x h with
    | some xs => .ok (.ref h.length) (h ++ [.lst xs])
    | none => .stuck)
  | _, _ => .stuck
def bTuple : List D → LH → R D
  | [x], h => (match seqD x h with
    | some xs => .ok (.tup xs) h
    | none => .stuck)
  | _, _ => .stuck
/-- bools alone -/
def boolsD : List D → Option (List Bool)
  | [] => some []
  | .bl b :: r => (boolsD r).map (b :: ·)
  | _ :: _ => none
def lstD : D → LH → Option (List D)
  | .ref n, h => match h[n]? with
    | some (.lst xs) => some xs
    | _ => none
  | _, _ => none
def bAll : List D → LH → R D
  | [x], h => (match (lstD x h).bind boolsD with
    | some bs => .ok (.bl (bs.all id)) h
    | none => .stuck)
  | _, _ => .stuck
def bAny : List D → LH → R D
  | [x], h => (match (lstD x h).bind boolsD with
    | some bs => .ok (.bl (bs.any id)) h
    | none => .stuck)
  | _, _ => .stuck
def intsD : List D → Option (List Int)
  | [] => some []
  | .int b :: r => (intsD r).map (b :: ·)
  | _ :: _ => none
def insI (a : Int) : List Int → List Int
  | [] => [a]
  | b :: r => if a ≤ b then a :: b :: r else b :: insI a r
def sortI : List Int → List Int
  | [] => []
  | a :: r => insI a (sortI r)
/-- sorted of ints (a list or a tuple) -/
def bSorted : List D → LH → R D
  | [x], h => (match (seqD x h).bind intsD with
    | some ns => if ns.length < 64 then .ok (.ref h.length) (h ++ [.lst ((sortI ns).map .int)]) else .stuck
    | none => .stuck)
  | _, _ => .stuck
/-- list(range(a, b)) -/
def eListR (a b : EX) : EX := fun r h => (a r h).bind fun d h1 => (b r h1).bind fun e h2 => match d, e with
  | .int i, .int j => if small62 i = true ∧ small62 j = true ∧ j - i ≤ 1000000 then .ok (.ref h2.length) (h2 ++ [.lst (rangeL i j)]) else .stuck
  | _, _ => .stuck
/-! methods of lists -/
def eBM (op : D → List D → LH → R D) (o : EX) (a : AX) : EX := fun r h => (o r h).bind fun x h1 => match lstD x h1 with
  | some _ => (a r h1).bind fun ds h2 => op x ds h2
  | none => .stuck
def onL (f : List D → Option (D × List D)) : D → LH → R D := fun x h => match x with
  | .ref n => (match h[n]? with
    | some (.lst xs) => (match f xs with
      | some (d, ys) => .ok d (h.set n (.lst ys))
      | none => .stuck)
    | _ => .stuck)
  | _ => .stuck
def mAppend : D → List D → LH → R D := fun x ds h => match ds with
  | [y] => onL (fun xs => if xs.length < sizeLine then some (.non, xs ++ [y]) else none) x h
  | _ => .stuck
def mClear : D → List D → LH → R D := fun x ds h => match ds with
  | [] => onL (fun _ => some (.non, [])) x h
  | _ => .stuck
def mReverse : D → List D → LH → R D := fun x ds h => match ds with
  | [] => onL (fun xs => some (.non, xs.reverse)) x h
  | _ => .stuck
def mPopAt : D → List D → LH → R D := fun x ds h => match ds with
  | [.int i] => if small62 i = true then onL (fun xs => match L2.ixN xs.length i with
    | some k => (xs[k]?).map fun d => (d, xs.eraseIdx k)
    | none => none) x h else .stuck
  | _ => .stuck
def mExtend : D → List D → LH → R D := fun x ds h => match ds with
  | [y] => (match lstD y h with
    | some zs => onL (fun xs => if xs.length + zs.length ≤ sizeLine then some (.non, xs ++ zs) else none) x h
    | none => .stuck)
  | _ => .stuck
/-- o[i] = v of a list -/
def gSub (o i : EX) : GX := fun d r h => (o r h).to fun x h1 => (i r h1).to fun y h2 => match x, y with
  | .ref n, .int k => (match h2[n]? with
    | some (.lst xs) => (match L2.ixN xs.length k with
      | some j => .nx r (h2.set n (.lst (xs.set j d)))
      | none => .stuck)
    | _ => .stuck)
  | _, _ => .stuck
/-! ### kinds -/
inductive Kd where
  | non | bool | int | str | tuple | list | dict
def Kd.is : Kd → Kd → Bool
  | .non, .non => true
  | .bool, .bool => true
  | .bool, .int => true
  | .int, .int => true
  | .str, .str => true
  | .tuple, .tuple => true
  | .list, .list => true
  | .dict, .dict => true
  | _, _ => false
def kindD : D → LH → Option Kd
  | .non, _ => some .non
  | .bl _, _ => some .bool
  | .int _, _ => some .int
  | .str _, _ => some .str
  | .tup _, _ => some .tuple
  | .scr _, _ => some .list
  | .fn _, _ => none
  | .ref n, h => match h[n]? with
    | some (.lst _) => some .list
    | some (.dct _) => some .dict
    | _ => none
def eIsi (ks : List Kd) (a : EX) : EX := e1 (fun d h => match kindD d h with
  | some k => .ok (.bl (ks.any fun t => k.is t)) h
  | none => .stuck) a
/-! ### data as a whole -/
def mapO {α β : Type} (f : α → Option β) : List α → Option (List β)
  | [] => some []
  | a :: r => match f a, mapO f r with
    | some b, some bs => some (b :: bs)
    | _, _ => none
def deep (h : LH) : Nat → D → Option PyData
  | _, .non => some .none
  | _, .bl b => some (.bool b)
  | _, .int i => some (.int i)
  | _, .str x => some (.str x)
  | _, .scr ns => some (.list (ns.map .int))
  | _, .fn _ => none
  | 0, _ => none
  | n + 1, .tup xs => (mapO (deep h n) xs).map .tuple
  | n + 1, .ref k => match h[k]? with
    | some (.lst xs) => (mapO (deep h n) xs).map .list
    | _ => none
def oEqD (neg : Bool) : D → D → LH → R D := fun x y h => match deep h 60 x, deep h 60 y with
  | some a, some b => if (SeqAt.shaped a && SeqAt.shaped b) = true then .ok (.bl (if neg then !PyData.eqv a b else PyData.eqv a b)) h else .stuck
  | _, _ => .stuck
def oEq (neg : Bool) : D → D → LH → R D
  | .int i, .int j, h => .ok (.bl (if neg then !decide (i = j) else decide (i = j))) h
  | .str i, .str j, h => .ok (.bl (if neg then !decide (i = j) else decide (i = j))) h
  | x, y, h => oEqD neg x y h
def showOk (a : PyData) : Bool := a.showable && !a.hasDict && decide (a.depth ≤ 64) && decide (a.shown.length ≤ sizeLine)
def bRepr : List D → LH → R D
  | [x], h => (match x with
    | .ref _ | .tup _ => (match deep h 60 x with
      | some a => if showOk a = true then .ok (.str a.shown) h else .stuck
      | none => .stuck)
    | _ => .stuck)
  | _, _ => .stuck
end Py

namespace Py
open PySem
/-- len(o), o of the class c with its own __len__ -/
def bLenO (c : Nat) (cf : CF) : List D → LH → R D
  | [.ref n], h => (match h[n]? with
    | some (.ins c' _) => if c' = c then (cf [.ref n] h).bind fun v h1 => (match v with
      | .int k => if 0 ≤ k ∧ k < 2 ^ 63 then .ok (.int k) h1 else .stuck
      | _ => .stuck) else .stuck
    | _ => .stuck)
  | _, _ => .stuck
/-- repr(o), o of the class c with its own __repr__ -/
def bReprO (c : Nat) (cf : CF) : List D → LH → R D
  | [.ref n], h => (match h[n]? with
    | some (.ins c' _) => if c' = c then (cf [.ref n] h).bind fun v h1 => (match v with
      | .str x => .ok (.str x) h1
      | _ => .stuck) else .stuck
    | _ => .stuck)
  | _, _ => .stuck
/-- parts of an f-string: texts -/
abbrev JX := LS → LH → R Str
def jNil : JX := fun _ h => .ok Str.empty h
/-- {e} of an f-string -/
def fmtD : D → LH → Option Str
  | .str x, _ => if x.length ≤ sizeLine then some x else none
  | .int i, _ => if i.natAbs.log2 < 1920 then some (toString i) else none
  | .ref n, h => (match deep h 60 (.ref n) with
    | some a => if showOk a = true then some a.shown else none
    | none => none)
  | .tup xs, h => (match deep h 60 (.tup xs) with
    | some a => if showOk a = true then some a.shown else none
    | none => none)
  | _, _ => none
def eFmt (a : EX) : EX := e1 (fun d h => match fmtD d h with
  | some x => .ok (.str x) h
  | none => .stuck) a
/-- texts one behind another -/
def jGo : List EX → Str → LS → LH → R D
  | [], acc, _, h => .ok (.str acc) h
  | a :: r, acc, l, h => (a l h).bind fun d h1 => match d with
    | .str x => if (acc ++ x).length ≤ sizeLine then jGo r (acc ++ x) l h1 else .stuck
    | _ => .stuck
def eJoin (as : List EX) : EX := fun l h => jGo as Str.empty l h
end Py

namespace Py
/-! ### bools alone -/
def eB (a : EX) : EX := fun r h => (a r h).bind fun x h1 => match x with
  | .bl b => .ok (.bl b) h1
  | _ => .stuck
def eAndB (a b : EX) : EX := fun r h => (a r h).bind fun x h1 => match x with
  | .bl true => b r h1
  | .bl false => .ok (.bl false) h1
  | _ => .stuck
def eOrB (a b : EX) : EX := fun r h => (a r h).bind fun x h1 => match x with
  | .bl true => .ok (.bl true) h1
  | .bl false => b r h1
  | _ => .stuck
def eNotB (a : EX) : EX := fun r h => (a r h).bind fun x h1 => match x with
  | .bl b => .ok (.bl (!b)) h1
  | _ => .stuck
end Py

namespace Py
def oNeg : D → LH → R D
  | .int i, h => .ok (.int (-i)) h
  | _, _ => .stuck
end Py

namespace Py
open PySem
/-- repr, of whole numbers too -/
def bRep : List D → LH → R D
  | [.int i], h => if i.natAbs.log2 < 1920 then .ok (.str (toString i)) h else .stuck
  | xs, h => bRepr xs h
/-- x is True, x is False -/
def oIsB (b : Bool) : D → LH → R D
  | .bl c, h => .ok (.bl (c == b)) h
  | _, h => .ok (.bl false) h
/-- xs[::-1] of a list -/
def eRev (a : EX) : EX := e1 (fun x h => match lstD x h with
  | some xs => .ok (.ref h.length) (h ++ [.lst xs.reverse])
  | none => .stuck) a
/-- a, b, c = x, y, z -/
def sPar3 (i j l : Nat) (a : AX) : SX := fun r h => (a r h).to fun ds h1 => match ds with
  | [x, y, z] => .nx (((r.set i (some x)).set j (some y)).set l (some z)) h1
  | _ => .stuck
/-- isinstance(a, C), C an own class: f tells of the class of an instance -/
def oIsO (f : Nat → Option Bool) : D → LH → R D := fun d h => match d with
  | .ref n => (match h[n]? with
    | some (.ins c _) => (match f c with
      | some b => .ok (.bl b) h
      | none => .stuck)
    | some (.lst _) => .ok (.bl false) h
    | some (.dct _) => .ok (.bl false) h
    | _ => .stuck)
  | .fn _ => .stuck
  | _ => .ok (.bl false) h
/-- what stands at the right of an own == -/
def rightOk (c : Nat) : D → LH → Bool := fun d h => match d with
  | .ref n => (match h[n]? with
    | some (.ins c' _) => c' == c
    | some (.lst _) => true
    | some (.dct _) => true
    | _ => false)
  | .fn _ => false
  | _ => true
/-- == and != by an own __eq__ of the class c; of other values as ever -/
def oEqO (c : Nat) (cf : CF) (neg : Bool) : D → D → LH → R D := fun x y h => match x with
  | .ref n => (match h[n]? with
    | some (.ins c' _) => if c' = c ∧ rightOk c y h = true then (cf [x, y] h).bind fun v h1 => (match v with
      | .bl b => .ok (.bl (if neg then !b else b)) h1
      | _ => .stuck) else .stuck
    | _ => oEq neg x y h)
  | _ => oEq neg x y h
end Py

namespace Py
open PySem
/-! ### dicts with texts and whole numbers as keys -/
abbrev Ky := L2.Key
def keyD : D → Option Ky
  | .int i => some (.inl i)
  | .str x => some (.inr x)
  | _ => none
def dctD : D → LH → Option (List (Ky × D))
  | .ref n, h => match h[n]? with
    | some (.dct kvs) => some kvs
    | _ => none
  | _, _ => none
/-- a dict that is read, walked or not -/
def dctR : D → LH → Option (List (Ky × D))
  | .ref n, h => match h[n]? with
    | some (.dct kvs) => some kvs
    | some (.hid kvs) => some kvs
    | _ => none
  | _, _ => none
def valD (kvs : List (Ky × D)) (k : Ky) : Option D := (kvs.find? fun kv => decide (kv.1 = k)).map (·.2)
def putD (kvs : List (Ky × D)) (k : Ky) (v : D) : List (Ky × D) :=
  if (kvs.any fun kv => decide (kv.1 = k)) = true then kvs.map (fun kv => if kv.1 = k then (kv.1, v) else kv) else kvs ++ [(k, v)]
def mergeD (kvs more : List (Ky × D)) : List (Ky × D) := more.foldl (fun acc kv => putD acc kv.1 kv.2) kvs
/-- d[y] -/
def oDg : D → D → LH → R D := fun x y h => match dctR x h, keyD y with
  | some kvs, some k => (match valD kvs k with
    | some d => .ok d h
    | none => .stuck)
  | _, _ => .stuck
/-- y in d -/
def oDin (neg : Bool) : D → D → LH → R D := fun y x h => match dctR x h, keyD y with
  | some kvs, some k => .ok (.bl (if neg then !(valD kvs k).isSome else (valD kvs k).isSome)) h
  | _, _ => .stuck
/-- d[y] = v: the value first -/
def sDput (o i e : EX) : SX := fun r h => (e r h).to fun d h1 => (o r h1).to fun x h2 => (i r h2).to fun y h3 => match x, keyD y with
  | .ref n, some k => (match h3[n]? with
    | some (.dct kvs) => if kvs.length < sizeLine then .nx r (h3.set n (.dct (putD kvs k d))) else .stuck
    | _ => .stuck)
  | _, _ => .stuck
/-- {k: v, ..}: the pairs, from the left -/
def pairsX : List (EX × EX) → LS → LH → R (List (Ky × D))
  | [], _, h => .ok [] h
  | (a, b) :: ps, r, h => (a r h).bind fun x h1 => (b r h1).bind fun y h2 => match keyD x with
    | some k => (pairsX ps r h2).bind fun kvs h3 => .ok ((k, y) :: kvs) h3
    | none => .stuck
def eDisp (ps : List (EX × EX)) : EX := fun r h => (pairsX ps r (h ++ [.dct []])).bind fun kvs h1 => match h1[h.length]? with
  | some (.dct []) => if kvs.length ≤ 15 then .ok (.ref h.length) (h1.set h.length (.dct (mergeD [] kvs))) else .stuck
  | _ => .stuck
def eDnew : EX := fun _ h => .ok (.ref h.length) (h ++ [.dct []])
/-- dict(d) -/
def bDict : List D → LH → R D
  | [x], h => (match dctR x h with
    | some kvs => .ok (.ref h.length) (h ++ [.dct kvs])
    | none => .stuck)
  | _, _ => .stuck
/-! ### methods of tuples -/
def strsD : List D → Option (List Str)
  | [] => some []
  | .str x :: r => (strsD r).map (x :: ·)
  | _ :: _ => none
def eTM (op : D → List D → LH → R D) (o : EX) (a : AX) : EX := fun r h => (o r h).bind fun x h1 => match x with
  | .tup xs => if (strsD xs).isSome = true then (a r h1).bind fun ds h2 => op x ds h2 else .stuck
  | _ => .stuck
/-- t.index(x), texts alone -/
def mTupIx : D → List D → LH → R D := fun x ds h => match x, ds with
  | .tup xs, [.str z] => (match strsD xs with
    | some ys => (match ys.findIdx? (fun y => decide (y = z)) with
      | some j => .ok (.int (j : Nat)) h
      | none => .stuck)
    | none => .stuck)
  | _, _ => .stuck
/-- a table of defs -/
def tabOf (l : List (Str × KF)) : Str → Option KF := fun n => (l.find? fun p => decide (p.1 = n)).map (·.2)
/-- f(..), f a local that holds a def -/
def eCallV (tab : Str → Option KF) (o : EX) (a : AX) : EX := fun r h => (o r h).bind fun x h1 => match x with
  | .fn n => (match tab n with
    | some op => (a r h1).bind fun ds h2 => op ds [] h2
    | none => .stuck)
  | _ => .stuck
/-- x in y, data of any depth -/
def itemsP : PyData → Option (List PyData)
  | .list bs => some bs
  | .tuple bs => some bs
  | _ => none
def oInDp (neg : Bool) : D → D → LH → R D := fun x y h => match deep h 60 x, deep h 60 y with
  | some a, some b => (match itemsP b with
    | some bs => if (SeqAt.shaped a && SeqAt.shaped b) = true then .ok (.bl (if neg then !(bs.any fun z => PyData.eqv z a) else bs.any fun z => PyData.eqv z a)) h else .stuck
    | none => .stuck)
  | _, _ => .stuck
end Py

set_option Elab.async false
set_option linter.all false
set_option maxRecDepth 100000
/-! Own layer, part 2: the relation between the logical heap and the layer's heap; expressions. -/
namespace Py
open PySem PySem.Spec L2

/-- classes by number, attribute names by number -/
structure Gam where
  cl : Nat → Addr
  nm : Nat → Str
  top : Nat
  inj : ∀ i j, i < top → j < top → nm i = nm j → i = j
  tabs : List (Addr × Str)

/-- a list that is read alone: locked, or of the written part -/
def SqF (K : PySem.W.Frag) (H : Hp) (a : Addr) (xs : List V) : Prop := (∃ o, H a = some (.frz o (.lst xs))) ∨
  ∃ (o : Obj) (its : Array Value) (n : Nat), K.lookup a = some o ∧ o.cls = .type "list" ∧ o.dict = none ∧ o.data = .seq its n ∧ its.size ≤ sizeLine ∧ Vals xs its.toList
theorem SqF.sq {K : PySem.W.Frag} {H : Hp} {a : Addr} {xs : List V} (h : SqF K H a xs) : SqL K H a xs := by
  rcases h with h | h
  · exact .inl (.inr h)
  · exact .inr h
/-- an object that has no dict of its own -/
def Xc (K : PySem.W.Frag) (H : Hp) (a : Addr) : Prop := (∃ (o : Obj) (u : HO), H a = some (.frz o u) ∧ o.dict = none) ∨ ∃ o : Obj, K.lookup a = some o ∧ o.dict = none
/-- a tuple, known not to have a dict (but where its first item is a whole number) -/
structure SqX (K : PySem.W.Frag) (H : Hp) (a : Addr) (vs : List V) : Prop where
  sq : SqT K H a vs
  x : Xc K H a ∨ ∃ v ∈ vs, ∀ t, v ≠ V.str t
mutual
inductive RelD (K : PySem.W.Frag) (m : Nat → Addr) (N : Nat) (H : Hp) : D → V → Prop
  | non : RelD K m N H .non .non
  | bl (b : Bool) : RelD K m N H (.bl b) (.bl b)
  | int (i : Int) : RelD K m N H (.int i) (.int i)
  | str (x : Str) : RelD K m N H (.str x) (.str x)
  | tup {a : Addr} {xs : List D} {vs : List V} : SqX K H a vs → RelDs K m N H xs vs → RelD K m N H (.tup xs) (.ref a)
  | ref {n : Nat} : n < N → RelD K m N H (.ref n) (.ref (m n))
  | scr {a : Addr} {ns : List Int} : SqF K H a (ns.map V.int) → RelD K m N H (.scr ns) (.ref a)
  | fn {x : Str} {a : Addr} : PySem.W.nsIn K mainGlobals x = some (some (.ref a)) → RelD K m N H (.fn x) (.ref a)
inductive RelDs (K : PySem.W.Frag) (m : Nat → Addr) (N : Nat) (H : Hp) : List D → List V → Prop
  | nil : RelDs K m N H [] []
  | cons {d : D} {v : V} {ds : List D} {vs : List V} : RelD K m N H d v → RelDs K m N H ds vs → RelDs K m N H (d :: ds) (v :: vs)
end

theorem xn_int {i : Int} {us : List V} : ∃ v ∈ V.int i :: us, ∀ t, v ≠ V.str t := ⟨_, List.mem_cons_self .., fun _ z => nomatch z⟩
theorem notS_ok {K : PySem.W.Frag} {m : Nat → Addr} {N : Nat} {H : Hp} {d : D} {v : V} (r : RelD K m N H d v) (n : notS d = true) : ∀ t, v ≠ V.str t := by
  intro t z
  subst z
  cases r
  exact Bool.noConfusion n
theorem xn_two {K : PySem.W.Frag} {m : Nat → Addr} {N : Nat} {H : Hp} {d e : D} {v u : V} (r : RelD K m N H d v) (q : RelD K m N H e u) (n : (notS d || notS e) = true) : ∃ w ∈ [v, u], ∀ t, w ≠ V.str t := by
  rcases Bool.or_eq_true_iff.mp n with n | n
  · exact ⟨v, by simp, notS_ok r n⟩
  · exact ⟨u, by simp, notS_ok q n⟩
/-- tuples and locked lists stay -/
structure TK (K : PySem.W.Frag) (H H' : Hp) : Prop where
  t : ∀ a vs, SqT K H a vs → SqT K H' a vs
  f : ∀ a vs, SqF K H a vs → SqF K H' a vs
  x : ∀ a, Xc K H a → Xc K H' a
  z : ∀ a o kvs, H a = some (.frz o (.dK kvs)) → H' a = some (.frz o (.dK kvs))
theorem TK.refl {K : PySem.W.Frag} (H : Hp) : TK K H H := ⟨fun _ _ h => h, fun _ _ h => h, fun _ h => h, fun _ _ _ h => h⟩
theorem TK.trans {K : PySem.W.Frag} {H H1 H2 : Hp} (a : TK K H H1) (b : TK K H1 H2) : TK K H H2 := ⟨fun x vs h => b.t x vs (a.t x vs h), fun x vs h => b.f x vs (a.f x vs h), fun x h => b.x x (a.x x h), fun x o k h => b.z x o k (a.z x o k h)⟩
theorem TK.sx {K : PySem.W.Frag} {H H1 : Hp} (t : TK K H H1) {a : Addr} {vs : List V} (h : SqX K H a vs) : SqX K H1 a vs := ⟨t.t _ _ h.sq, h.x.imp (t.x _) id⟩
theorem TK.upd_new {K : PySem.W.Frag} {H : Hp} {p : Addr} {o : HO} (hp : H p = none) : TK K H (upd H p o) := by
  refine ⟨fun a vs h => ?_, fun a vs h => ?_, fun a h => ?_, fun a o' kvs h => by rw [upd_ne (ne_of_none h hp)]; exact h⟩
  · rcases h with (h | ⟨u, h⟩) | h
    · exact .inl (.inl (by rw [upd_ne (ne_of_none h hp)]; exact h))
    · exact .inl (.inr ⟨u, by rw [upd_ne (ne_of_none h hp)]; exact h⟩)
    · exact .inr h
  · rcases h with ⟨u, h⟩ | h
    · exact .inl ⟨u, by rw [upd_ne (ne_of_none h hp)]; exact h⟩
    · exact .inr h
  · rcases h with ⟨u, w, h, e⟩ | h
    · exact .inl ⟨u, w, by rw [upd_ne (ne_of_none h hp)]; exact h, e⟩
    · exact .inr h
theorem TK.upd_mut {K : PySem.W.Frag} {H : Hp} {p : Addr} {o u : HO} (hp : H p = some u) (nt : ∀ vs, u ≠ .tup vs) (nf : ∀ ob w, u ≠ .frz ob w) : TK K H (upd H p o) := by
  refine ⟨fun a vs h => ?_, fun a vs h => ?_, fun a h => ?_, fun a o' kvs h => by rw [upd_ne (ne_of h hp fun e => nf _ _ e.symm)]; exact h⟩
  · rcases h with (h | ⟨z, h⟩) | h
    · exact .inl (.inl (by rw [upd_ne (ne_of h hp fun e => nt vs e.symm)]; exact h))
    · exact .inl (.inr ⟨z, by rw [upd_ne (ne_of h hp fun e => nf _ _ e.symm)]; exact h⟩)
    · exact .inr h
  · rcases h with ⟨z, h⟩ | h
    · exact .inl ⟨z, by rw [upd_ne (ne_of h hp fun e => nf _ _ e.symm)]; exact h⟩
    · exact .inr h
  · rcases h with ⟨z, w, h, e⟩ | h
    · exact .inl ⟨z, w, by rw [upd_ne (ne_of h hp fun e => nf _ _ e.symm)]; exact h, e⟩
    · exact .inr h

mutual
theorem RelD.mono {K : PySem.W.Frag} {m m' : Nat → Addr} {N N' : Nat} {H H' : Hp} (ag : ∀ i, i < N → m' i = m i) (hN : N ≤ N') (t : TK K H H') : ∀ {d : D} {v : V}, RelD K m N H d v → RelD K m' N' H' d v
  | _, _, .non => .non
  | _, _, .bl b => .bl b
  | _, _, .int i => .int i
  | _, _, .str x => .str x
  | _, _, .tup h r => .tup (t.sx h) (RelDs.mono ag hN t r)
  | _, _, .scr h => .scr (t.f _ _ h)
  | _, _, .fn h => .fn h
  | _, _, .ref (n := n) h => by rw [← ag n h]; exact .ref (Nat.lt_of_lt_of_le h hN)
theorem RelDs.mono {K : PySem.W.Frag} {m m' : Nat → Addr} {N N' : Nat} {H H' : Hp} (ag : ∀ i, i < N → m' i = m i) (hN : N ≤ N') (t : TK K H H') : ∀ {d : List D} {v : List V}, RelDs K m N H d v → RelDs K m' N' H' d v
  | _, _, .nil => .nil
  | _, _, .cons h r => .cons (RelD.mono ag hN t h) (RelDs.mono ag hN t r)
end
section
variable {K : PySem.W.Frag} {m : Nat → Addr} {N : Nat} {H : Hp}
theorem RelDs.length : ∀ {ds : List D} {vs : List V}, RelDs K m N H ds vs → ds.length = vs.length
  | _, _, .nil => rfl
  | _, _, .cons _ r => by simp [RelDs.length r]
theorem RelDs.append : ∀ {ds es : List D} {vs ws : List V}, RelDs K m N H ds vs → RelDs K m N H es ws → RelDs K m N H (ds ++ es) (vs ++ ws)
  | _, _, _, _, .nil, s => s
  | _, _, _, _, .cons h r, s => .cons h (RelDs.append r s)
theorem RelDs.get : ∀ {ds : List D} {vs : List V} {i : Nat} {d : D}, RelDs K m N H ds vs → ds[i]? = some d → ∃ v, vs[i]? = some v ∧ RelD K m N H d v
  | _, _, _, _, .nil, e => by simp at e
  | _, _, 0, _, .cons h _, e => by simp at e; subst e; exact ⟨_, rfl, h⟩
  | _, _, i + 1, d, .cons _ r, e => by
    obtain ⟨v, h1, h2⟩ := RelDs.get (i := i) (d := d) r (by simpa using e)
    exact ⟨v, by simpa using h1, h2⟩
theorem RelDs.set {d : D} {v : V} (h : RelD K m N H d v) : ∀ {ds : List D} {vs : List V} (i : Nat), RelDs K m N H ds vs → RelDs K m N H (ds.set i d) (vs.set i v)
  | _, _, _, .nil => .nil
  | _, _, 0, .cons _ r => .cons h r
  | _, _, i + 1, .cons h' r => .cons h' (RelDs.set h i r)
theorem RelDs.take : ∀ {ds : List D} {vs : List V} (n : Nat), RelDs K m N H ds vs → RelDs K m N H (ds.take n) (vs.take n)
  | _, _, 0, _ => .nil
  | _, _, _ + 1, .nil => .nil
  | _, _, n + 1, .cons h r => .cons h (RelDs.take n r)
theorem RelDs.drop : ∀ {ds : List D} {vs : List V} (n : Nat), RelDs K m N H ds vs → RelDs K m N H (ds.drop n) (vs.drop n)
  | _, _, 0, r => r
  | _, _, _ + 1, .nil => .nil
  | _, _, n + 1, .cons h r => RelDs.drop n r
theorem RelDs.replicate {d : D} {v : V} (h : RelD K m N H d v) : ∀ (n : Nat), RelDs K m N H (List.replicate n d) (List.replicate n v)
  | 0 => .nil
  | n + 1 => .cons h (RelDs.replicate h n)
theorem RelDs.ints : ∀ (ns : List Int), RelDs K m N H (ns.map .int) (ns.map V.int)
  | [] => .nil
  | _ :: r => .cons (.int _) (RelDs.ints r)
end

/-- attributes -/
inductive RelFs (G : Gam) (K : PySem.W.Frag) (m : Nat → Addr) (N : Nat) (H : Hp) : List (Nat × D) → List (Str × V) → Prop
  | nil : RelFs G K m N H [] []
  | cons {i : Nat} {d : D} {v : V} {fs : List (Nat × D)} {vs : List (Str × V)} : i < G.top → RelD K m N H d v → RelFs G K m N H fs vs → RelFs G K m N H ((i, d) :: fs) ((G.nm i, v) :: vs)
theorem RelFs.mono {G : Gam} {K : PySem.W.Frag} {m m' : Nat → Addr} {N N' : Nat} {H H' : Hp} (ag : ∀ i, i < N → m' i = m i) (hN : N ≤ N') (t : TK K H H') : ∀ {fs : List (Nat × D)} {vs : List (Str × V)}, RelFs G K m N H fs vs → RelFs G K m' N' H' fs vs
  | _, _, .nil => .nil
  | _, _, .cons a h r => .cons a (h.mono ag hN t) (RelFs.mono ag hN t r)
theorem RelFs.length {G : Gam} {K : PySem.W.Frag} {m : Nat → Addr} {N : Nat} {H : Hp} : ∀ {fs : List (Nat × D)} {vs : List (Str × V)}, RelFs G K m N H fs vs → fs.length = vs.length
  | _, _, .nil => rfl
  | _, _, .cons _ _ r => by simp [RelFs.length r]
theorem RelFs.get {G : Gam} {K : PySem.W.Frag} {m : Nat → Addr} {N : Nat} {H : Hp} {i : Nat} (hi : i < G.top) : ∀ {fs : List (Nat × D)} {vs : List (Str × V)} {d : D}, RelFs G K m N H fs vs → getA i fs = some d → ∃ v, vs.lookup (G.nm i) = some v ∧ RelD K m N H d v
  | _, _, _, .nil, e => by simp [getA] at e
  | _, _, d, .cons (i := j) a h r, e => by
    simp only [getA] at e
    by_cases q : i = j
    · subst q
      simp at e
      subst e
      exact ⟨_, by simp [List.lookup], h⟩
    · rw [if_neg q] at e
      obtain ⟨v, e1, h1⟩ := RelFs.get hi r e
      refine ⟨v, ?_, h1⟩
      have : (G.nm i == G.nm j) = false := beq_eq_false_iff_ne.mpr fun z => q (G.inj i j hi a z)
      simp only [List.lookup, this]
      exact e1
theorem RelFs.put {G : Gam} {K : PySem.W.Frag} {m : Nat → Addr} {N : Nat} {H : Hp} {i : Nat} {d : D} {v : V} (hi : i < G.top) (hd : RelD K m N H d v) : ∀ {fs : List (Nat × D)} {vs : List (Str × V)}, RelFs G K m N H fs vs → RelFs G K m N H (putA i d fs) (putF (G.nm i) v vs)
  | _, _, .nil => .cons hi hd .nil
  | _, _, .cons (i := j) a h r => by
    simp only [putA, putF]
    by_cases q : j = i
    · subst q
      simp only [if_pos]
      exact .cons a hd r
    · rw [if_neg q, if_neg fun z => q (G.inj j i a hi z)]
      exact .cons a h (RelFs.put hi hd r)

/-- entries of a dict -/
inductive RelKs (K : PySem.W.Frag) (m : Nat → Addr) (N : Nat) (H : Hp) : List (Ky × D) → List (L2.Key × V) → Prop
  | nil : RelKs K m N H [] []
  | cons {k : Ky} {d : D} {v : V} {ds : List (Ky × D)} {vs : List (L2.Key × V)} : RelD K m N H d v → RelKs K m N H ds vs → RelKs K m N H ((k, d) :: ds) ((k, v) :: vs)
theorem RelKs.mono {K : PySem.W.Frag} {m m' : Nat → Addr} {N N' : Nat} {H H' : Hp} (ag : ∀ i, i < N → m' i = m i) (hN : N ≤ N') (t : TK K H H') : ∀ {fs : List (Ky × D)} {vs : List (L2.Key × V)}, RelKs K m N H fs vs → RelKs K m' N' H' fs vs
  | _, _, .nil => .nil
  | _, _, .cons h r => .cons (h.mono ag hN t) (RelKs.mono ag hN t r)
/-- what stands at a place, in both heaps -/
def RelO (G : Gam) (K : PySem.W.Frag) (m : Nat → Addr) (N : Nat) (H : Hp) (a : Addr) : O → Prop
  | .lst xs => ∃ vs, H a = some (.lst vs) ∧ RelDs K m N H xs vs
  | .dct kvs => ∃ vs, H a = some (.dK vs) ∧ RelKs K m N H kvs vs
  | .hid kvs => ∃ od vs, H a = some (.frz od (.dK vs)) ∧ RelKs K m N H kvs vs
  | .ins c fs => ∃ dx vs, H a = some (.ins (G.cl c) dx vs) ∧ RelFs G K m N H fs vs
theorem RelO.mono {G : Gam} {K : PySem.W.Frag} {m m' : Nat → Addr} {N N' : Nat} {H H' : Hp} {a : Addr} {o : O} (ag : ∀ i, i < N → m' i = m i) (hN : N ≤ N') (t : TK K H H') (e : H' a = H a) (h : RelO G K m N H a o) : RelO G K m' N' H' a o := by
  cases o with
  | lst xs => obtain ⟨vs, h1, h2⟩ := h; exact ⟨vs, e.trans h1, h2.mono ag hN t⟩
  | ins c fs => obtain ⟨dx, vs, h1, h2⟩ := h; exact ⟨dx, vs, e.trans h1, h2.mono ag hN t⟩
  | dct kv => obtain ⟨vs, h1, h2⟩ := h; exact ⟨vs, e.trans h1, h2.mono ag hN t⟩
  | hid _ => obtain ⟨od, vs, h1, h2⟩ := h; exact ⟨od, vs, e.trans h1, h2.mono ag hN t⟩

structure RelH (G : Gam) (K : PySem.W.Frag) (m : Nat → Addr) (h : LH) (H : Hp) : Prop where
  obj : ∀ n o, h[n]? = some o → RelO G K m h.length H (m n) o
  inj : ∀ i j, i < h.length → j < h.length → m i = m j → i = j
  tab : LamX.Tabs G.tabs H

/-- locals -/
inductive RelS (K : PySem.W.Frag) (m : Nat → Addr) (N : Nat) (H : Hp) : LS → St → Prop
  | nil : RelS K m N H [] []
  | no {v : Option V} {r : LS} {s : St} : RelS K m N H r s → RelS K m N H (none :: r) (v :: s)
  | yes {d : D} {v : V} {r : LS} {s : St} : RelD K m N H d v → RelS K m N H r s → RelS K m N H (some d :: r) (some v :: s)
theorem RelS.mono {K : PySem.W.Frag} {m m' : Nat → Addr} {N N' : Nat} {H H' : Hp} (ag : ∀ i, i < N → m' i = m i) (hN : N ≤ N') (t : TK K H H') : ∀ {r : LS} {s : St}, RelS K m N H r s → RelS K m' N' H' r s
  | _, _, .nil => .nil
  | _, _, .no r => .no (RelS.mono ag hN t r)
  | _, _, .yes h r => .yes (h.mono ag hN t) (RelS.mono ag hN t r)
theorem RelS.get {K : PySem.W.Frag} {m : Nat → Addr} {N : Nat} {H : Hp} : ∀ {r : LS} {s : St} {i : Nat} {d : D}, RelS K m N H r s → r[i]? = some (some d) → ∃ v, s[i]? = some (some v) ∧ RelD K m N H d v
  | _, _, _, _, .nil, e => by simp at e
  | _, _, 0, _, .no _, e => by simp at e
  | _, _, 0, _, .yes h _, e => by simp at e; subst e; exact ⟨_, rfl, h⟩
  | _, _, i + 1, d, .no r, e => by
    obtain ⟨v, h1, h2⟩ := RelS.get (i := i) (d := d) r (by simpa using e)
    exact ⟨v, by simpa using h1, h2⟩
  | _, _, i + 1, d, .yes _ r, e => by
    obtain ⟨v, h1, h2⟩ := RelS.get (i := i) (d := d) r (by simpa using e)
    exact ⟨v, by simpa using h1, h2⟩
theorem RelS.set {K : PySem.W.Frag} {m : Nat → Addr} {N : Nat} {H : Hp} {d : D} {v : V} (h : RelD K m N H d v) : ∀ {r : LS} {s : St} (i : Nat), RelS K m N H r s → RelS K m N H (r.set i (some d)) (s.set i (some v))
  | _, _, _, .nil => .nil
  | _, _, 0, .no r => .yes h r
  | _, _, 0, .yes _ r => .yes h r
  | _, _, i + 1, .no r => .no (RelS.set h i r)
  | _, _, i + 1, .yes q r => .yes q (RelS.set h i r)
theorem RelS.set0 {K : PySem.W.Frag} {m : Nat → Addr} {N : Nat} {H : Hp} {v : Option V} : ∀ {r : LS} {s : St} (i : Nat), RelS K m N H r s → RelS K m N H (r.set i none) (s.set i v)
  | _, _, _, .nil => .nil
  | _, _, 0, .no r => .no r
  | _, _, 0, .yes _ r => .no r
  | _, _, i + 1, .no r => .no (RelS.set0 i r)
  | _, _, i + 1, .yes q r => .yes q (RelS.set0 i r)
theorem RelS.of {K : PySem.W.Frag} {m : Nat → Addr} {N : Nat} {H : Hp} : ∀ {ds : List D} {vs : List V} (k : Nat), RelDs K m N H ds vs → RelS K m N H (ds.map some ++ List.replicate k none) (vs.map some ++ List.replicate k none)
  | _, _, 0, .nil => .nil
  | _, _, k + 1, .nil => .no (RelS.of k .nil)
  | _, _, k, .cons h r => .yes h (RelS.of k r)

/-- from one pair of heaps to a later one -/
structure Post (G : Gam) (K : PySem.W.Frag) (m : Nat → Addr) (N : Nat) (H : Hp) (m' : Nat → Addr) (h' : LH) (H' : Hp) : Prop where
  agr : ∀ i, i < N → m' i = m i
  len : N ≤ h'.length
  tk : TK K H H'
  rel : RelH G K m' h' H'
  new : ∀ i, N ≤ i → i < h'.length → ∀ o, H (m' i) = some o → ∃ ps, o = .tbl ps
  fr : ∀ a o, H a = some o → (∀ ps, o ≠ .tbl ps) → (∀ i, i < N → m i ≠ a) → H' a = some o
section
variable {G : Gam} {K : PySem.W.Frag} {m m1 m2 : Nat → Addr} {N : Nat} {h h1 h2 : LH} {H H1 H2 : Hp}
theorem Post.refl (r : RelH G K m h H) : Post G K m h.length H m h H := ⟨fun _ _ => rfl, Nat.le_refl _, TK.refl _, r, fun i h1 h2 => absurd h2 (Nat.not_lt.mpr h1), fun _ _ e _ _ => e⟩
theorem RelO.isThere {a : Addr} {o : O} (r : RelO G K m N H a o) : ∃ u, H a = some u := by
  cases o with
  | lst xs => obtain ⟨vs, h1, _⟩ := r; exact ⟨_, h1⟩
  | ins c fs => obtain ⟨dx, vs, h1, _⟩ := r; exact ⟨_, h1⟩
  | dct kv => obtain ⟨vs, h1, _⟩ := r; exact ⟨_, h1⟩
  | hid _ => obtain ⟨od, vs, h1, _⟩ := r; exact ⟨_, h1⟩
theorem RelH.isThere (r : RelH G K m h H) {n : Nat} (hn : n < h.length) : ∃ u, H (m n) = some u := (r.obj n _ (List.getElem?_eq_getElem hn)).isThere
theorem RelO.noTbl {a : Addr} {o : O} (r : RelO G K m N H a o) (ps : Array Value) : H a ≠ some (.tbl ps) := by
  cases o with
  | lst xs => obtain ⟨vs, h1, _⟩ := r; rw [h1]; exact fun z => nomatch z
  | ins c fs => obtain ⟨dx, vs, h1, _⟩ := r; rw [h1]; exact fun z => nomatch z
  | dct kv => obtain ⟨vs, h1, _⟩ := r; rw [h1]; exact fun z => nomatch z
  | hid _ => obtain ⟨od, vs, h1, _⟩ := r; rw [h1]; exact fun z => nomatch z
theorem Post.trans (a : Post G K m N H m1 h1 H1) (b : Post G K m1 h1.length H1 m2 h2 H2) : Post G K m N H m2 h2 H2 := by
  have ag : ∀ i, i < N → m2 i = m i := fun i hi => (b.agr i (Nat.lt_of_lt_of_le hi a.len)).trans (a.agr i hi)
  have out : ∀ x o, H x = some o → (∀ ps, o ≠ .tbl ps) → (∀ i, i < N → m i ≠ x) → ∀ i, i < h1.length → m1 i ≠ x := fun x o e nt hx i hi z => by
    by_cases hn : i < N
    · exact hx i hn ((a.agr i hn).symm.trans z)
    · obtain ⟨ps, q⟩ := a.new i (Nat.not_lt.mp hn) hi o (by rw [z]; exact e)
      exact nt ps q
  refine ⟨ag, Nat.le_trans a.len b.len, a.tk.trans b.tk, b.rel, fun i h1' h2' => ?_, fun x o e nt hx => b.fr x o (a.fr x o e nt hx) nt (out x o e nt hx)⟩
  by_cases hi : i < h1.length
  · rw [b.agr i hi]; exact a.new i h1' hi
  · intro o z
    by_cases nt : ∀ ps, o ≠ .tbl ps
    · exfalso
      by_cases hx : ∀ j, j < N → m j ≠ m2 i
      · obtain ⟨ps, q⟩ := b.new i (Nat.not_lt.mp hi) h2' o (a.fr _ _ z nt hx)
        exact nt ps q
      · have hx' : ∃ j, j < N ∧ m j = m2 i := by
          apply Classical.byContradiction
          intro hc
          exact hx fun j hj e => hc ⟨j, hj, e⟩
        obtain ⟨j, hj, e⟩ := hx'
        have hl := Nat.lt_of_lt_of_le hj a.len
        obtain ⟨u, hu⟩ := a.rel.isThere hl
        have e2 := (a.agr j hj).trans e
        obtain ⟨ps, q⟩ := b.new i (Nat.not_lt.mp hi) h2' u (by rw [← e2]; exact hu)
        exact (a.rel.obj j _ (List.getElem?_eq_getElem hl)).noTbl ps (by rw [hu, q])
    · apply Classical.byContradiction
      intro hc
      exact nt fun ps e => hc ⟨ps, e⟩
theorem Post.d {d : D} {v : V} (a : Post G K m N H m1 h1 H1) (r : RelD K m N H d v) : RelD K m1 h1.length H1 d v := r.mono a.agr a.len a.tk
theorem Post.ds (a : Post G K m N H m1 h1 H1) {ds : List D} {vs : List V} (r : RelDs K m N H ds vs) : RelDs K m1 h1.length H1 ds vs := r.mono a.agr a.len a.tk
theorem Post.s (a : Post G K m N H m1 h1 H1) {r : LS} {s : St} (q : RelS K m N H r s) : RelS K m1 h1.length H1 r s := q.mono a.agr a.len a.tk

def ext (m : Nat → Addr) (n : Nat) (p : Addr) : Nat → Addr := fun i => if i = n then p else m i
theorem ext_self (m : Nat → Addr) (n : Nat) (p : Addr) : ext m n p n = p := if_pos rfl
theorem ext_ne {m : Nat → Addr} {n i : Nat} {p : Addr} (h : i ≠ n) : ext m n p i = m i := if_neg h
theorem RelO.ne {a p : Addr} {o : O} (r : RelO G K m N H a o) (hp : H p = none) : a ≠ p := by
  cases o with
  | lst xs => obtain ⟨vs, h1, _⟩ := r; exact ne_of_none h1 hp
  | ins c fs => obtain ⟨dx, vs, h1, _⟩ := r; exact ne_of_none h1 hp
  | dct kv => obtain ⟨vs, h1, _⟩ := r; exact ne_of_none h1 hp
  | hid _ => obtain ⟨od, vs, h1, _⟩ := r; exact ne_of_none h1 hp
theorem RelH.ne (r : RelH G K m h H) {n : Nat} {p : Addr} (hn : n < h.length) (hp : H p = none) : m n ≠ p :=
  (r.obj n _ (List.getElem?_eq_getElem hn)).ne hp
/-- tables stay where something is put -/
theorem tabs_new {T : List (Addr × Str)} {H : Hp} {p : Addr} {u : HO} (t : LamX.Tabs T H) (hp : H p = none) : LamX.Tabs T (upd H p u) := t.ext fun b o e => by rw [upd_ne (ne_of_none e hp)]; exact e
theorem tabs_upd {T : List (Addr × Str)} {H : Hp} {p : Addr} {u u0 : HO} (t : LamX.Tabs T H) (hp : H p = some u0) (n1 : ∀ ps, u0 ≠ .tbl ps) (n2 : ∀ φ, u0 ≠ .ext φ) : LamX.Tabs T (upd H p u) := fun q m => by
  obtain ⟨ps, e1, e2, e3⟩ := t q m
  have k1 : q.1 ≠ p := fun z => by rw [z, hp] at e1; exact n1 _ (Option.some.inj e1)
  refine ⟨ps, by rw [upd_ne k1]; exact e1, e2, fun pos cv hc => ?_⟩
  obtain ⟨c, e4, e5⟩ := e3 pos cv hc
  have k2 : c ≠ p := fun z => by rw [z, hp] at e5; exact n2 _ (Option.some.inj e5)
  exact ⟨c, e4, by rw [upd_ne k2]; exact e5⟩
/-- a new object -/
theorem RelH.new (r : RelH G K m h H) {p : Addr} {o : O} {u : HO} (hp : H p = none) (ho : ∀ m', (∀ i, i < h.length → m' i = m i) → m' h.length = p → RelO G K m' (h.length + 1) (upd H p u) p o) :
    Post G K m h.length H (ext m h.length p) (h ++ [o]) (upd H p u) := by
  have ag : ∀ i, i < h.length → ext m h.length p i = m i := fun i hi => ext_ne (Nat.ne_of_lt hi)
  have tk : TK K H (upd H p u) := TK.upd_new hp
  refine ⟨ag, by simp, tk, ⟨?_, ?_, tabs_new r.tab hp⟩, ?_, fun a o e _ _ => by rw [upd_ne (ne_of_none e hp)]; exact e⟩
  · intro n o' e
    by_cases hn : n < h.length
    · rw [List.getElem?_append_left hn] at e
      rw [ag n hn]
      refine (r.obj n o' e).mono ag (by simp) tk ?_
      rw [upd_ne (r.ne hn hp)]
    · have : n = h.length := by
        have := (List.getElem?_eq_some_iff.mp e).1
        simp at this
        omega
      subst this
      simp at e
      subst e
      rw [ext_self]
      simpa using ho _ ag (ext_self _ _ _)
  · intro i j hi hj e
    simp at hi hj
    by_cases h1 : i < h.length
    · by_cases h2 : j < h.length
      · rw [ag i h1, ag j h2] at e
        exact r.inj i j h1 h2 e
      · have : j = h.length := by omega
        subst this
        rw [ag i h1, ext_self] at e
        exact absurd e (r.ne h1 hp)
    · have h1' : i = h.length := by omega
      subst h1'
      by_cases h2 : j < h.length
      · rw [ag j h2, ext_self] at e
        exact absurd e.symm (r.ne h2 hp)
      · omega
  · intro i h1 h2
    simp at h2
    have : i = h.length := by omega
    subst this
    rw [ext_self]; exact fun o e => by rw [hp] at e; cases e
/-- only a tuple more -/
theorem RelH.newT (r : RelH G K m h H) {p : Addr} {u : HO} (hp : H p = none) : Post G K m h.length H m h (upd H p u) := by
  have tk : TK K H (upd H p u) := TK.upd_new hp
  refine ⟨fun _ _ => rfl, Nat.le_refl _, tk, ⟨fun n o e => ?_, r.inj, tabs_new r.tab hp⟩, fun i h1 h2 => absurd h2 (Nat.not_lt.mpr h1), fun a o e _ _ => by rw [upd_ne (ne_of_none e hp)]; exact e⟩
  exact (r.obj n o e).mono (fun _ _ => rfl) (Nat.le_refl _) tk (by rw [upd_ne (r.ne (List.getElem?_eq_some_iff.mp e).1 hp)])
/-- an object turns -/
theorem RelH.upd (r : RelH G K m h H) {n : Nat} {o0 o : O} {u0 u : HO} (hn : h[n]? = some o0) (h0 : H (m n) = some u0) (nt : ∀ vs, u0 ≠ .tup vs) (nf : ∀ ob w, u0 ≠ .frz ob w)
    (ho : RelO G K m h.length (upd H (m n) u) (m n) o) : Post G K m h.length H m (h.set n o) (L2.upd H (m n) u) := by
  have hl := (List.getElem?_eq_some_iff.mp hn).1
  have tk : TK K H (L2.upd H (m n) u) := TK.upd_mut h0 nt nf
  have ob := r.obj n o0 hn
  have n1 : ∀ ps, u0 ≠ .tbl ps := fun ps z => by
    subst z
    cases o0 with
    | lst xs => obtain ⟨_, e, _⟩ := ob; rw [h0] at e; cases e
    | ins c fs => obtain ⟨_, _, e, _⟩ := ob; rw [h0] at e; cases e
    | dct kv => obtain ⟨_, e, _⟩ := ob; rw [h0] at e; cases e
    | hid _ => obtain ⟨_, _, e, _⟩ := ob; rw [h0] at e; cases e
  have n2 : ∀ φ, u0 ≠ .ext φ := fun ps z => by
    subst z
    cases o0 with
    | lst xs => obtain ⟨_, e, _⟩ := ob; rw [h0] at e; cases e
    | ins c fs => obtain ⟨_, _, e, _⟩ := ob; rw [h0] at e; cases e
    | dct kv => obtain ⟨_, e, _⟩ := ob; rw [h0] at e; cases e
    | hid _ => obtain ⟨_, _, e, _⟩ := ob; rw [h0] at e; cases e
  refine ⟨fun _ _ => rfl, by simp, tk, ⟨?_, ?_, tabs_upd r.tab h0 n1 n2⟩, fun i h1 h2 => ?_, fun a o e _ hx => by rw [upd_ne (Ne.symm (hx n hl))]; exact e⟩
  · intro k o' e
    rw [List.length_set]
    by_cases z : n = k
    · subst z
      rw [List.getElem?_set_self hl] at e
      cases e
      exact ho
    · rw [List.getElem?_set_ne z] at e
      refine (r.obj k o' e).mono (fun _ _ => rfl) (Nat.le_refl _) tk ?_
      rw [upd_ne fun q => z (r.inj n k hl (List.getElem?_eq_some_iff.mp e).1 q.symm)]
  · intro i j hi hj e
    rw [List.length_set] at hi hj
    exact r.inj i j hi hj e
  · rw [List.length_set] at h2
    exact absurd h2 (Nat.not_lt.mpr h1)
end

/-- an exception's own dict -/
def ExcAt (G : Gam) (K : PySem.W.Frag) (m : Nat → Addr) (N : Nat) (H : Hp) (fs : List (Nat × D)) (od : Option Addr) : Prop :=
  (fs = [] ∧ od = none) ∨ ∃ a vs, od = some a ∧ H a = some (.xd vs) ∧ RelFs G K m N H fs vs
/-- what an exception promises -/
def OutX (G : Gam) (K : PySem.W.Frag) (E : XK) (m : Nat → Addr) (N : Nat) (H : Hp) (c : Nat) (fs : List (Nat × D)) (h' : LH) : Prop :=
  ∀ m' H' od, Post G K m N H m' h' H' → ExcAt G K m' h'.length H' fs od → E (.ref (G.cl c)) od H'
/-- what an outcome promises -/
def Out (G : Gam) (K : PySem.W.Frag) (E : XK) (m : Nat → Addr) (N : Nat) (H : Hp) (Q : VK) : R D → Prop
  | .ok d h' => ∀ m' H' v, Post G K m N H m' h' H' → RelD K m' h'.length H' d v → Q v H'
  | .exc c fs h' => OutX G K E m N H c fs h'
  | .stuck => False
def OutA (G : Gam) (K : PySem.W.Frag) (E : XK) (m : Nat → Addr) (N : Nat) (H : Hp) (Q : List V → Hp → Prop) : R (List D) → Prop
  | .ok d h' => ∀ m' H' v, Post G K m N H m' h' H' → RelDs K m' h'.length H' d v → Q v H'
  | .exc c fs h' => OutX G K E m N H c fs h'
  | .stuck => False
def OutT (G : Gam) (K : PySem.W.Frag) (E : XK) (m : Nat → Addr) (N : Nat) (H : Hp) (Q : Bool → Hp → Prop) : R D → Prop
  | .ok d h' => ∃ b, truth d h' = some b ∧ ∀ m' H', Post G K m N H m' h' H' → Q b H'
  | .exc c fs h' => OutX G K E m N H c fs h'
  | .stuck => False
def OutS (G : Gam) (K : PySem.W.Frag) (E : XK) (m : Nat → Addr) (N : Nat) (H : Hp) (Z : Ends) : F → Prop
  | .nx r h' => ∀ m' H' s, Post G K m N H m' h' H' → RelS K m' h'.length H' r s → Z.nx s H'
  | .rt d h' => ∀ m' H' v, Post G K m N H m' h' H' → RelD K m' h'.length H' d v → Z.rt v H'
  | .bk r h' => ∀ m' H' s, Post G K m N H m' h' H' → RelS K m' h'.length H' r s → Z.bk s H'
  | .ct r h' => ∀ m' H' s, Post G K m N H m' h' H' → RelS K m' h'.length H' r s → Z.ct s H'
  | .exc c fs h' => OutX G K E m N H c fs h'
  | .stuck => False
section
variable {G : Gam} {K : PySem.W.Frag} {E : XK} {m m1 : Nat → Addr} {N : Nat} {H H1 : Hp} {h1 : LH}
theorem OutX.later {c : Nat} {fs : List (Nat × D)} {h' : LH} (a : Post G K m N H m1 h1 H1) (o : OutX G K E m N H c fs h') : OutX G K E m1 h1.length H1 c fs h' := fun m' H' od p e => o m' H' od (a.trans p) e
theorem Out.later {Q : VK} {r : R D} (a : Post G K m N H m1 h1 H1) (o : Out G K E m N H Q r) : Out G K E m1 h1.length H1 Q r := by
  cases r with
  | ok d h' => exact fun m' H' v p e => o m' H' v (a.trans p) e
  | exc c fs h' => exact OutX.later a o
  | stuck => exact o
theorem OutA.later {Q : List V → Hp → Prop} {r : R (List D)} (a : Post G K m N H m1 h1 H1) (o : OutA G K E m N H Q r) : OutA G K E m1 h1.length H1 Q r := by
  cases r with
  | ok d h' => exact fun m' H' v p e => o m' H' v (a.trans p) e
  | exc c fs h' => exact OutX.later a o
  | stuck => exact o
theorem OutT.later {Q : Bool → Hp → Prop} {r : R D} (a : Post G K m N H m1 h1 H1) (o : OutT G K E m N H Q r) : OutT G K E m1 h1.length H1 Q r := by
  cases r with
  | ok d h' =>
    obtain ⟨b, e, q⟩ := o
    exact ⟨b, e, fun m' H' p => q m' H' (a.trans p)⟩
  | exc c fs h' => exact OutX.later a o
  | stuck => exact o
theorem OutS.later {Z : Ends} {r : F} (a : Post G K m N H m1 h1 H1) (o : OutS G K E m N H Z r) : OutS G K E m1 h1.length H1 Z r := by
  cases r with
  | nx r h' => exact fun m' H' v p e => o m' H' v (a.trans p) e
  | rt r h' => exact fun m' H' v p e => o m' H' v (a.trans p) e
  | bk r h' => exact fun m' H' v p e => o m' H' v (a.trans p) e
  | ct r h' => exact fun m' H' v p e => o m' H' v (a.trans p) e
  | exc c fs h' => exact OutX.later a o
  | stuck => exact o
/-- the outcome of a bind -/
theorem Out.bindR {α : Type} {r : R α} {f : α → LH → R D} {Q : VK} (o : Out G K E m N H Q (r.bind f)) :
    (∃ a h1, r = .ok a h1 ∧ Out G K E m N H Q (f a h1)) ∨ ∃ c fs h1, r = .exc c fs h1 ∧ OutX G K E m N H c fs h1 := by
  cases r with
  | ok a h1 => exact .inl ⟨a, h1, rfl, o⟩
  | exc c fs h1 => exact .inr ⟨c, fs, h1, rfl, o⟩
  | stuck => exact False.elim o
theorem OutA.bindR {α : Type} {r : R α} {f : α → LH → R (List D)} {Q : List V → Hp → Prop} (o : OutA G K E m N H Q (r.bind f)) :
    (∃ a h1, r = .ok a h1 ∧ OutA G K E m N H Q (f a h1)) ∨ ∃ c fs h1, r = .exc c fs h1 ∧ OutX G K E m N H c fs h1 := by
  cases r with
  | ok a h1 => exact .inl ⟨a, h1, rfl, o⟩
  | exc c fs h1 => exact .inr ⟨c, fs, h1, rfl, o⟩
  | stuck => exact False.elim o
theorem OutT.bindR {α : Type} {r : R α} {f : α → LH → R D} {Q : Bool → Hp → Prop} (o : OutT G K E m N H Q (r.bind f)) :
    (∃ a h1, r = .ok a h1 ∧ OutT G K E m N H Q (f a h1)) ∨ ∃ c fs h1, r = .exc c fs h1 ∧ OutX G K E m N H c fs h1 := by
  cases r with
  | ok a h1 => exact .inl ⟨a, h1, rfl, o⟩
  | exc c fs h1 => exact .inr ⟨c, fs, h1, rfl, o⟩
  | stuck => exact False.elim o
theorem OutS.toR {α : Type} {r : R α} {f : α → LH → F} {Z : Ends} (o : OutS G K E m N H Z (r.to f)) :
    (∃ a h1, r = .ok a h1 ∧ OutS G K E m N H Z (f a h1)) ∨ ∃ c fs h1, r = .exc c fs h1 ∧ OutX G K E m N H c fs h1 := by
  cases r with
  | ok a h1 => exact .inl ⟨a, h1, rfl, o⟩
  | exc c fs h1 => exact .inr ⟨c, fs, h1, rfl, o⟩
  | stuck => exact False.elim o
end
section
variable (G : Gam) (K : PySem.W.Frag) (E : XK)
def tE (f : EX) : TE := fun σ H Q => ∃ m r h, RelH G K m h H ∧ RelS K m h.length H r σ ∧ Out G K E m h.length H Q (f r h)
def tA (f : AX) : TA := fun σ H Q => ∃ m r h, RelH G K m h H ∧ RelS K m h.length H r σ ∧ OutA G K E m h.length H Q (f r h)
def tT (f : EX) : TT := fun σ H Q => ∃ m r h, RelH G K m h H ∧ RelS K m h.length H r σ ∧ OutT G K E m h.length H Q (f r h)
def tS (f : SX) : TS := fun Z σ H => ∃ m r h, RelH G K m h H ∧ RelS K m h.length H r σ ∧ OutS G K E m h.length H Z (f r h)
def tG (g : GX) : TG := fun v σ H Q => ∃ m r h d, RelH G K m h H ∧ RelS K m h.length H r σ ∧ RelD K m h.length H d v ∧ OutS G K E m h.length H { nx := Q, rt := fun _ _ => False } (g d r h)
def tGs (g : GXs) : TGs := fun vs σ H Q => ∃ m r h ds, RelH G K m h H ∧ RelS K m h.length H r σ ∧ RelDs K m h.length H ds vs ∧ OutS G K E m h.length H { nx := Q, rt := fun _ _ => False } (g ds r h)
/-- an operator by values -/
def r2 (op : D → D → LH → R D) : R2 := fun x y H Q => ∃ m h dx dy, RelH G K m h H ∧ RelD K m h.length H dx x ∧ RelD K m h.length H dy y ∧ Out G K E m h.length H Q (op dx dy h)
def r1 (op : D → LH → R D) : V → Hp → VK → Prop := fun x H Q => ∃ m h dx, RelH G K m h H ∧ RelD K m h.length H dx x ∧ Out G K E m h.length H Q (op dx h)
def rA (op : List D → LH → R D) : List V → Hp → VK → Prop := fun xs H Q => ∃ m h ds, RelH G K m h H ∧ RelDs K m h.length H ds xs ∧ Out G K E m h.length H Q (op ds h)
end
/-! ### consequence -/
theorem PE_mono {X : Cx} {e : Expr} {t t' : TE} (a : PE X e t) (h : ∀ σ H Q, t' σ H Q → t σ H Q) : PE X e t' := ⟨fun pins s σ H Q I q => a.run pins s σ H Q I (h _ _ _ q)⟩
theorem PT_mono {X : Cx} {e : Expr} {t t' : TT} (a : PT X e t) (h : ∀ σ H Q, t' σ H Q → t σ H Q) : PT X e t' := ⟨fun pins s σ H Q I q => a.run pins s σ H Q I (h _ _ _ q)⟩
theorem PW_mono {X : Cx} {e : Expr} {t t' : TT} (a : PW X e t) (h : ∀ σ H Q, t' σ H Q → t σ H Q) : PW X e t' := ⟨fun w pins s σ H Q I q => a.run w pins s σ H Q I (h _ _ _ q)⟩
theorem PA_mono {X : Cx} {e : List Expr} {t t' : TA} (a : PA X e t) (h : ∀ σ H Q, t' σ H Q → t σ H Q) : PA X e t' := ⟨fun w pins s σ H Q I q => a.run w pins s σ H Q I (h _ _ _ q)⟩
theorem PS_mono {X : Cx} {e : Stmt} {t t' : TS} (a : PS X e t) (h : ∀ E σ H, t' E σ H → t E σ H) : PS X e t' := ⟨fun pins s σ H E I q => a.run pins s σ H E I (h _ _ _ q)⟩
theorem PSs_mono {X : Cx} {e : List Stmt} {t t' : TS} (a : PSs X e t) (h : ∀ E σ H, t' E σ H → t E σ H) : PSs X e t' := ⟨fun pins s σ H E I q => a.run pins s σ H E I (h _ _ _ q)⟩
theorem PG_mono {X : Cx} {e : Expr} {t t' : TG} (a : PG X e t) (h : ∀ v σ H Q, t' v σ H Q → t v σ H Q) : PG X e t' := ⟨fun pins s σ H v u Q I r q => a.run pins s σ H v u Q I r (h _ _ _ _ q)⟩
theorem PGs_mono {X : Cx} {e : List Expr} {t t' : TGs} (a : PGs X e t) (h : ∀ v σ H Q, t' v σ H Q → t v σ H Q) : PGs X e t' := ⟨fun pins s σ H v u Q I r q => a.run pins s σ H v u Q I r (h _ _ _ _ q)⟩
end Py

namespace Py
open PySem PySem.Spec PyProof.Rows L2
/-! ### new tuples, kept as objects -/
section
variable {X : Cx} {es : List Expr} {pos : Pos} {t : TA}
def tupO (us : List Value) : Obj := { cls := .type "tuple", data := .seq us.toArray }
theorem tup_laid {pins : List (Addr × Obj)} {σ : L2.St} {H : Hp} {s : Shared} {xs : List V} {us : List Value} (I : Inv X pins σ H s) (r : Vals xs us) (z : xs.length ≤ sizeLine) :
    Inv X pins σ (upd H s.heap.objs.size (.frz (tupO us) (.tup xs))) { s with heap := s.heap.push (tupO us) } :=
  I.laid (t' := s.toks) (o := .frz (tupO us) (.tup xs)) (fun b u e => Heap.get?_push_of_some _ e) (Nat.le_refl _) ⟨Heap.get?_push_size _ rfl, z, us, r, ⟨_, Heap.get?_push_size _ rfl, rfl, _, rfl⟩⟩
theorem sx_new {K : PySem.W.Frag} {H : Hp} {p : Addr} {o : Obj} {xs : List V} (ho : o.dict = none) : SqX K (upd H p (.frz o (.tup xs))) p xs := ⟨.inl (.inr ⟨o, upd_same⟩), .inl (.inl ⟨o, _, upd_same, ho⟩)⟩
def tTupF (t : TA) : TE := fun σ H Q => t σ H fun xs H1 => xs.length ≤ sizeLine ∧ ∀ (p : Addr) (o : Obj), H1 p = none → o.dict = none → Q (.ref p) (upd H1 p (.frz o (.tup xs)))
theorem pe_tupF {x1} (h : PA X es t) : PE X (.Tuple es x1 pos) (tTupF t) := by
  refine ⟨fun pins s σ H Q I hq => ?_⟩
  refine wpAny_Tuple_spliced (thn (h.run pos pins s σ H _ I hq) fun us s1 ⟨xs, H1, I1, r, z, q⟩ => ⟨by rw [← r.length]; exact z, ?_⟩)
  exact ⟨.ref s1.heap.objs.size, _, tup_laid I1 r z, rfl, q _ _ (I1.hok.fresh (Nat.le_refl _)) rfl⟩
def rCatF (K : PySem.W.Frag) : R2 := fun x y H Q => ∃ a b xs ys, x = .ref a ∧ y = .ref b ∧ SqT K H a xs ∧ SqT K H b ys ∧ xs.length + ys.length ≤ sizeLine ∧
  (xs = [] → Q (.ref b) H) ∧ (xs ≠ [] → ys = [] → Q (.ref a) H) ∧ (∀ (p : Addr) (o : Obj), H p = none → o.dict = none → Q (.ref p) (upd H p (.frz o (.tup (xs ++ ys)))))
theorem op_catF : OpR X (binaryOp .Add) (rCatF X.K) := by
  intro pins s σ H x y v u Q I rx ry h
  obtain ⟨a, b, xs, ys, rfl, rfl, ha, hb, hz, q0, q1, q2⟩ := h
  cases rx
  cases ry
  obtain ⟨its, r1, p1, _⟩ := I.tuple ha
  obtain ⟨its2, r2, p2, _⟩ := I.tuple hb
  by_cases hx : xs = []
  · subst hx
    cases r1
    exact cat_tup0 p1 p2 ⟨.ref b, H, I, rfl, q0 rfl⟩
  · refine HT.cat_tup p1 p2 (fun z => hx (r1.nil_iff.mp z)) (fun z => ⟨.ref a, H, I, rfl, q1 hx (r2.nil_iff.mp z)⟩) (fun z => ?_) (by rw [← r1.length, ← r2.length]; exact hz)
    exact ⟨.ref s.heap.objs.size, _, tup_laid I (r1.append r2) (by rw [List.length_append]; exact hz), rfl, q2 _ _ (I.hok.fresh (Nat.le_refl _)) rfl⟩
def rSlF (K : PySem.W.Frag) : V → Option Int → Option Int → Hp → VK → Prop := fun x lo hi H Q => ∃ a xs, x = .ref a ∧ SqT K H a xs ∧
  (HT.sIx xs.length 0 lo = 0 ∧ HT.sIx xs.length xs.length hi = xs.length → Q (.ref a) H) ∧ (∀ (p : Addr) (o : Obj), H p = none → o.dict = none → Q (.ref p) (upd H p (.frz o (.tup (cutV xs lo hi)))))
theorem sl_tupF : SlR X (rSlF X.K) := by
  intro pins s σ H x v vl vu lo hi sl Q I rx hs pl pu h
  obtain ⟨a, xs, rfl, hx, q1, q2⟩ := h
  cases rx
  obtain ⟨its, r, ht, hz⟩ := I.tuple hx
  have hlen : its.toArray.size = xs.length := by rw [List.size_toArray]; exact r.length.symm
  refine ⟨"tuple", _, PyProof.Rows.slot_tuple_getitem.lookup, ht.typeIs, ?_⟩
  by_cases hw : HT.sIx xs.length 0 lo = 0 ∧ HT.sIx xs.length xs.length hi = xs.length
  · exact getItem_tuple_whole ht hs pl pu (by rw [hlen]; exact hw) ⟨.ref a, H, I, rfl, q1 hw⟩
  · refine HT.getItem_tuple_cut ht hs pl pu (by rw [hlen]; exact hw) ?_ (by rw [hlen]; exact hz)
    rw [hlen]
    exact ⟨.ref s.heap.objs.size, _, tup_laid I ((r.drop (HT.sIx xs.length 0 lo)).take (HT.sIx xs.length xs.length hi - HT.sIx xs.length 0 lo)) (Nat.le_trans (cutV_length xs lo hi) hz), rfl, q2 _ _ (I.hok.fresh (Nat.le_refl _)) rfl⟩
theorem call_tupleF : CallR X (.type "tuple") (fun xs H Q => ∃ p ys, xs = [.ref p] ∧ ((SqL X.K H p ys ∧ ∀ (l : Addr) (o : Obj), H l = none → o.dict = none → Q (.ref l) (upd H l (.frz o (.tup ys)))) ∨ (SqT X.K H p ys ∧ Q (.ref p) H))) := by
  intro pins s σ H xs us Q I r h
  obtain ⟨p, ys, rfl, h⟩ := h
  obtain ⟨u, rfl, rx⟩ := vals1 r
  cases rx
  rcases h with ⟨hq, q⟩ | ⟨hq, q⟩
  · obtain ⟨its, r', pl, hz⟩ := I.list hq
    have hlen := r'.length
    refine call_tuple_list pl.isList (fun h' kp => ?_) (by simp only [List.size_toArray] <;> omega)
    have I1 : Inv X pins σ H { s with heap := h' } := I.kept (t' := s.toks) kp
    exact ⟨.ref h'.objs.size, _, tup_laid I1 r' hz, rfl, q _ _ (I1.hok.fresh (Nat.le_refl _)) rfl⟩
  · obtain ⟨its, r', pl, hz⟩ := I.tuple hq
    exact call_tuple_same pl ⟨.ref p, H, I, rfl, q⟩
end
end Py

set_option Elab.async false
set_option linter.all false
set_option maxRecDepth 100000
namespace Py
open PySem PySem.Spec L2
section
variable {X : Cx} {G : Gam} {E : XK}
/-! ### names, constants -/
theorem xV (i : Nat) {x : Str} {pos : Pos} (hN : X.N[i]? = some x := by rfl) (hv : Vis X.env.scope x := by first | exact Or.inl rfl | exact Or.inr (Or.inl rfl) | exact Or.inr (Or.inr rfl)) (hd : (x == ("__debug__" : Str)) = false := by decide)
    (hcd : (x == ("__classdict__" : Str)) = false := by decide) : PE X (.Name x pos) (tE G X.K E (eV i)) := by
  refine PE_mono (pe_var hN hv hd hcd) fun σ H Q ⟨m, r, h, rh, rs, o⟩ => ?_
  unfold eV at o
  cases q : r[i]? with
  | none => rw [q] at o; exact False.elim o
  | some w =>
    cases w with
    | none => rw [q] at o; exact False.elim o
    | some d =>
      rw [q] at o
      obtain ⟨v, e, rd⟩ := rs.get q
      exact ⟨v, e, o m H v (Post.refl rh) rd⟩
theorem xK {d : D} {v : V} {e : Expr} (he : PE X e (tC v)) (hd : ∀ m N H, RelD X.K m N H d v) : PE X e (tE G X.K E (eC d)) :=
  PE_mono he fun σ H Q ⟨m, r, h, rh, rs, o⟩ => o m H v (Post.refl rh) (hd _ _ _)
theorem xInt {i j pos} : PE X (.Constant (.int i) j pos) (tE G X.K E (eC (.int i))) := xK pe_int fun _ _ _ => .int i
theorem xBl {b j pos} : PE X (.Constant (.bool b) j pos) (tE G X.K E (eC (.bl b))) := xK pe_bl fun _ _ _ => .bl b
theorem xNon {j pos} : PE X (.Constant .none j pos) (tE G X.K E (eC .non)) := xK pe_non fun _ _ _ => .non
theorem xStr {x j pos} : PE X (.Constant (.str x) j pos) (tE G X.K E (eC (.str x))) := xK pe_str fun _ _ _ => .str x
theorem xGlob {x : Str} {d : D} {v : V} {u : Value} {pos : Pos} (hg : Gl X x) (hm : X.mg x = some u) (r : RelV v u) (hd : ∀ m N H, RelD X.K m N H d v) (hb : (x == ("__debug__" : Str)) = false := by decide) : PE X (.Name x pos) (tE G X.K E (eC d)) :=
  xK (pe_glob hg hm r hb) hd
/-! ### operators -/
theorem toOp {f : D → D → LH → R D} {fa fb : EX} {σ : St} {H : Hp} {Q : VK} (t : tE G X.K E (e2 f fa fb) σ H Q) : tOp (r2 G X.K E f) (tE G X.K E fa) (tE G X.K E fb) σ H Q := by
  obtain ⟨m, r, h, rh, rs, o⟩ := t
  refine ⟨m, r, h, rh, rs, ?_⟩
  rcases Out.bindR o with ⟨x, h1, e, o⟩ | ⟨c, fs, h1, e, o⟩
  · rw [e]
    intro m1 H1 v p1 d1
    refine ⟨m1, r, h1, p1.rel, p1.s rs, ?_⟩
    rcases Out.bindR o with ⟨y, h2, e, o⟩ | ⟨c, fs, h2, e, o⟩
    · rw [e]
      intro m2 H2 w p2 d2
      exact ⟨m2, h2, x, y, p2.rel, p2.d d1, d2, Out.later (p1.trans p2) o⟩
    · rw [e]; exact OutX.later p1 o
  · rw [e]; exact o
theorem x2 {op : Operator} {f : D → D → LH → R D} {a b : Expr} {fa fb : EX} {pos : Pos} (ho : OpR X (binaryOp op) (r2 G X.K E f)) (ha : PE X a (tE G X.K E fa)) (hb : PE X b (tE G X.K E fb)) : PE X (.BinOp a op b pos) (tE G X.K E (e2 f fa fb)) :=
  PE_mono (pe_op ho ha hb) fun σ H Q t => toOp t
theorem xCmp {op : CmpOp} {f : D → D → LH → R D} {a b : Expr} {fa fb : EX} {pos : Pos} (ho : OpR X (compareOp op) (r2 G X.K E f)) (ha : PE X a (tE G X.K E fa)) (hb : PE X b (tE G X.K E fb)) (hm : behindInMarks op b = false) : PE X (.Compare a [op] [b] pos) (tE G X.K E (e2 f fa fb)) :=
  PE_mono (pe_cmpR ho ha hb hm) fun σ H Q t => toOp t
/-- yields bools alone -/
def IsB (f : EX) : Prop := ∀ r h d h', f r h = .ok d h' → ∃ k, d = .bl k
theorem toTest {f : EX} (hb : IsB f) {σ : St} {H : Hp} {Q : Bool → Hp → Prop} (t : tT G X.K E f σ H Q) : tTest (tE G X.K E f) σ H Q := by
  obtain ⟨m, r, h, rh, rs, o⟩ := t
  refine ⟨m, r, h, rh, rs, ?_⟩
  cases q : f r h with
  | ok d h' =>
    rw [q] at o
    obtain ⟨k, rfl⟩ := hb _ _ _ _ q
    obtain ⟨b', e, o⟩ := o
    cases e
    intro m' H' v p d
    cases d
    exact ⟨_, rfl, o m' H' p⟩
  | exc c fs h' => rw [q] at o; exact o
  | stuck => rw [q] at o; exact o
def IsB2 (f : D → D → LH → R D) : Prop := ∀ x y h d h', f x y h = .ok d h' → ∃ k, d = .bl k
theorem IsB2.ex {f : D → D → LH → R D} {fa fb : EX} (b : IsB2 f) : IsB (e2 f fa fb) := fun r h d h' e => by
  unfold e2 at e
  cases q : fa r h with
  | ok x h1 =>
    rw [q] at e
    cases q2 : fb r h1 with
    | ok y h2 => rw [R.bind_ok, q2] at e; exact b _ _ _ _ _ e
    | exc c fs h2 => rw [R.bind_ok, q2] at e; cases e
    | stuck => rw [R.bind_ok, q2] at e; cases e
  | exc c fs h1 => rw [q] at e; cases e
  | stuck => rw [q] at e; cases e
theorem yCmp {op : CmpOp} {f : D → D → LH → R D} {a b : Expr} {fa fb : EX} {pos : Pos} (ho : OpR X (compareOp op) (r2 G X.K E f)) (hf : IsB2 f) (ha : PE X a (tE G X.K E fa)) (hb : PE X b (tE G X.K E fb)) (hm : behindInMarks op b = false) : PT X (.Compare a [op] [b] pos) (tT G X.K E (e2 f fa fb)) :=
  PT_mono (pt_cmpR ho ha hb hm) fun σ H Q t => by
    obtain ⟨m, r, h, rh, rs, o⟩ := toTest hf.ex t
    exact toOp ⟨m, r, h, rh, rs, o⟩
/-! ### truth -/
/-- a value as a test -/
def NoS (f : EX) : Prop := ∀ r h x h', f r h = .ok (.str x) h' → x.length ≤ sizeLine
/-! ### and, or, not -/
variable {a b : Expr} {fa fb : EX} {pos : Pos} {rest : List Expr}
theorem yNot (ha : PT X a (tT G X.K E fa)) : PT X (.UnaryOp .Not a pos) (tT G X.K E (eNot fa)) :=
  PT_mono (pt_not ha) fun σ H Q ⟨m, r, h, rh, rs, o⟩ => by
    refine ⟨m, r, h, rh, rs, ?_⟩
    rcases OutT.bindR o with ⟨x, h1, e, o⟩ | ⟨c, fs, h1, e, o⟩
    · rw [e]
      cases q : truth x h1 with
      | none => simp only [q] at o; exact False.elim o
      | some k =>
        simp only [q] at o
        obtain ⟨b, e, o⟩ := o
        cases e
        exact ⟨k, q, o⟩
    · rw [e]; exact o
theorem toAnd {σ : St} {H : Hp} {Q : Bool → Hp → Prop} (t : tT G X.K E (eAnd fa fb) σ H Q) : tAnd (tT G X.K E fa) (tT G X.K E fb) σ H Q := by
  obtain ⟨m, r, h, rh, rs, o⟩ := t
  refine ⟨m, r, h, rh, rs, ?_⟩
  rcases OutT.bindR o with ⟨x, h1, e, o⟩ | ⟨c, fs, h1, e, o⟩
  · rw [e]
    cases q : truth x h1 with
    | none => simp only [q] at o; exact False.elim o
    | some k =>
      simp only [q] at o
      refine ⟨k, q, fun m1 H1 p => ?_⟩
      cases k with
      | true => exact iteT ⟨m1, r, h1, p.rel, p.s rs, OutT.later p o⟩
      | false =>
        obtain ⟨b, e, o⟩ := o
        rw [q] at e
        cases e
        exact iteF (o m1 H1 p)
  · rw [e]; exact o
theorem toOr {σ : St} {H : Hp} {Q : Bool → Hp → Prop} (t : tT G X.K E (eOr fa fb) σ H Q) : tOr (tT G X.K E fa) (tT G X.K E fb) σ H Q := by
  obtain ⟨m, r, h, rh, rs, o⟩ := t
  refine ⟨m, r, h, rh, rs, ?_⟩
  rcases OutT.bindR o with ⟨x, h1, e, o⟩ | ⟨c, fs, h1, e, o⟩
  · rw [e]
    cases q : truth x h1 with
    | none => simp only [q] at o; exact False.elim o
    | some k =>
      simp only [q] at o
      refine ⟨k, q, fun m1 H1 p => ?_⟩
      cases k with
      | false => exact iteF ⟨m1, r, h1, p.rel, p.s rs, OutT.later p o⟩
      | true =>
        obtain ⟨b, e, o⟩ := o
        rw [q] at e
        cases e
        exact iteT (o m1 H1 p)
  · rw [e]; exact o
theorem wOne (ha : PT X a (tT G X.K E fa)) : PW X (.BoolOp .And [a] pos) (tT G X.K E fa) := pw_and1 ha
theorem wOneO (ha : PT X a (tT G X.K E fa)) : PW X (.BoolOp .Or [a] pos) (tT G X.K E fa) := pw_or1 ha
theorem wAnd (ha : PT X a (tT G X.K E fa)) (hb : PW X (.BoolOp .And (b :: rest) pos) (tT G X.K E fb)) : PW X (.BoolOp .And (a :: b :: rest) pos) (tT G X.K E (eAnd fa fb)) := PW_mono (pw_and ha hb) fun _ _ _ t => toAnd t
theorem wOr (ha : PT X a (tT G X.K E fa)) (hb : PW X (.BoolOp .Or (b :: rest) pos) (tT G X.K E fb)) : PW X (.BoolOp .Or (a :: b :: rest) pos) (tT G X.K E (eOr fa fb)) := PW_mono (pw_or ha hb) fun _ _ _ t => toOr t
/-! as values -/
theorem xOne {op : BoolOp} (ha : PE X a (tE G X.K E fa)) : PE X (.BoolOp op [a] pos) (tE G X.K E fa) := pe_one ha
theorem xIf {c : Expr} {fc : EX} (hc : PT X c (tT G X.K E fc)) (ha : PE X a (tE G X.K E fa)) (hb : PE X b (tE G X.K E fb)) : PE X (.IfExp c a b pos) (tE G X.K E (eIf fc fa fb)) :=
  PE_mono (pe_ifExp hc ha hb) fun σ H Q ⟨m, r, h, rh, rs, o⟩ => by
    refine ⟨m, r, h, rh, rs, ?_⟩
    rcases Out.bindR o with ⟨x, h1, e, o⟩ | ⟨c, fs, h1, e, o⟩
    · rw [e]
      cases q : truth x h1 with
      | none => simp only [q] at o; exact False.elim o
      | some k =>
        simp only [q] at o
        refine ⟨k, q, fun m1 H1 p => ?_⟩
        cases k with
        | true => exact iteT ⟨m1, r, h1, p.rel, p.s rs, Out.later p o⟩
        | false => exact iteF ⟨m1, r, h1, p.rel, p.s rs, Out.later p o⟩
    · rw [e]; exact o
/-! ### arguments, displays -/
theorem xaNil : PA X [] (tA G X.K E aNil) := PA_mono pa_nil fun σ H Q ⟨m, r, h, rh, rs, o⟩ => o m H [] (Post.refl rh) .nil
theorem xaCons {es : List Expr} {fs : AX} (ha : PE X a (tE G X.K E fa)) (hr : PA X es (tA G X.K E fs)) (hs : starEach (a :: es) X.env = (false, eval a X.env) :: starEach es X.env := by rfl) : PA X (a :: es) (tA G X.K E (aCons fa fs)) :=
  PA_mono (pa_cons ha hr hs) fun σ H Q ⟨m, r, h, rh, rs, o⟩ => by
    refine ⟨m, r, h, rh, rs, ?_⟩
    rcases OutA.bindR o with ⟨x, h1, e, o⟩ | ⟨c, fs, h1, e, o⟩
    · rw [e]
      intro m1 H1 v p1 d1
      refine ⟨m1, r, h1, p1.rel, p1.s rs, ?_⟩
      rcases OutA.bindR o with ⟨y, h2, e, o⟩ | ⟨c, fs, h2, e, o⟩
      · rw [e]
        intro m2 H2 w p2 d2
        exact o m2 H2 _ (p1.trans p2) (.cons (p2.d d1) d2)
      · rw [e]; exact OutX.later p1 o
    · rw [e]; exact o
/-- an operation on all arguments -/
theorem toA {op : List D → LH → R D} {fs : AX} {rd : List V → Hp → VK → Prop} (hr : ∀ xs H Q, rA G X.K E op xs H Q → rd xs H Q) {σ : St} {H : Hp} {Q : VK} (t : tE G X.K E (eA op fs) σ H Q) : tA G X.K E fs σ H (fun vs H1 => rd vs H1 Q) := by
  obtain ⟨m, r, h, rh, rs, o⟩ := t
  refine ⟨m, r, h, rh, rs, ?_⟩
  rcases Out.bindR o with ⟨x, h1, e, o⟩ | ⟨c, fs, h1, e, o⟩
  · rw [e]
    intro m1 H1 v p1 d1
    exact hr _ _ _ ⟨m1, h1, x, p1.rel, d1, Out.later p1 o⟩
  · rw [e]; exact o
theorem xTup {es : List Expr} {fs : AX} {x1 : Nat} (h : PA X es (tA G X.K E fs)) : PE X (.Tuple es x1 pos) (tE G X.K E (eTup fs)) :=
  PE_mono (pe_tupF h) fun σ H Q t => toA (rd := fun xs H1 Q => xs.length ≤ sizeLine ∧ ∀ (p : Addr) (o : Obj), H1 p = none → o.dict = none → Q (.ref p) (upd H1 p (.frz o (.tup xs)))) (fun xs H Q ⟨m, h, ds, rh, rd, o⟩ => by
    by_cases hz : ds.length ≤ sizeLine
    · simp only [if_pos hz] at o
      refine ⟨by rw [← rd.length]; exact hz, fun p ob hp hd => ?_⟩
      have q := rh.newT (u := .frz ob (.tup xs)) hp
      exact o m _ _ q (.tup (sx_new hd) (q.ds rd))
    · simp only [if_neg hz] at o; exact False.elim o) t
theorem xLst {es : List Expr} {fs : AX} (h : PA X es (tA G X.K E fs)) : PE X (.List es pos) (tE G X.K E (eLst fs)) :=
  PE_mono (pe_lst h) fun σ H Q t => toA (rd := fun xs H1 Q => xs.length ≤ sizeLine ∧ ∀ p, H1 p = none → Q (.ref p) (upd H1 p (.lst xs))) (fun xs H Q ⟨m, h, ds, rh, rd, o⟩ => by
    by_cases hz : ds.length ≤ sizeLine
    · simp only [if_pos hz] at o
      refine ⟨by rw [← rd.length]; exact hz, fun p hp => ?_⟩
      have q := rh.new (o := .lst ds) (u := .lst xs) hp (fun m' ag e => ⟨xs, upd_same, rd.mono ag (Nat.le_succ _) (TK.upd_new hp)⟩)
      have z : RelD X.K (ext m h.length p) (h ++ [O.lst ds]).length (upd H p (.lst xs)) (.ref h.length) (.ref (ext m h.length p h.length)) := .ref (by simp)
      rw [ext_self] at z
      exact o _ _ _ q z
    · simp only [if_neg hz] at o; exact False.elim o) t
/-! ### statements -/
theorem zNil : PSs X [] (tS G X.K E sNil) := PSs_mono pss_nil fun Z σ H ⟨m, r, h, rh, rs, o⟩ => o m H σ (Post.refl rh) rs
theorem zCons {st : Stmt} {sts : List Stmt} {f g : SX} (h1 : PS X st (tS G X.K E f)) (h2 : PSs X sts (tS G X.K E g)) : PSs X (st :: sts) (tS G X.K E (sSeq f g)) :=
  PSs_mono (pss_cons h1 h2) fun Z σ H ⟨m, r, h, rh, rs, o⟩ => by
    refine ⟨m, r, h, rh, rs, ?_⟩
    unfold sSeq at o
    cases q : f r h with
    | nx r1 h1 =>
      rw [q] at o
      intro m1 H1 s1 p1 q1
      exact ⟨m1, r1, h1, p1.rel, q1, OutS.later p1 o⟩
    | rt d h1 => rw [q] at o; exact o
    | bk r1 h1 => rw [q] at o; exact o
    | ct r1 h1 => rw [q] at o; exact o
    | exc c fs h1 => rw [q] at o; exact o
    | stuck => rw [q] at o; exact o
theorem zE (ha : PE X a (tE G X.K E fa)) (hs : swapsWith a none pos.line X.env = pure false := by rfl) : PS X (.Expr a pos) (tS G X.K E (sE fa)) :=
  PS_mono (ps_expr ha hs) fun Z σ H ⟨m, r, h, rh, rs, o⟩ => by
    refine ⟨m, r, h, rh, rs, ?_⟩
    rcases OutS.toR o with ⟨x, h1, e, o⟩ | ⟨c, fs, h1, e, o⟩
    · rw [e]
      intro m1 H1 v p d
      exact o m1 H1 σ p (p.s rs)
    · rw [e]; exact o
theorem zRet (ha : PE X a (tE G X.K E fa)) : PS X (.Return (some a) pos) (tS G X.K E (sRet fa)) :=
  PS_mono (ps_ret ha) fun Z σ H ⟨m, r, h, rh, rs, o⟩ => by
    refine ⟨m, r, h, rh, rs, ?_⟩
    rcases OutS.toR o with ⟨x, h1, e, o⟩ | ⟨c, fs, h1, e, o⟩
    · rw [e]; exact o
    · rw [e]; exact o
theorem zIf {c : Expr} {fc : EX} {x y : List Stmt} {f g : SX} (hc : PT X c (tT G X.K E fc)) (hx : PSs X x (tS G X.K E f)) (hy : PSs X y (tS G X.K E g)) : PS X (.If c x y pos) (tS G X.K E (sIf fc f g)) :=
  PS_mono (ps_if hc hx hy) fun Z σ H ⟨m, r, h, rh, rs, o⟩ => by
    refine ⟨m, r, h, rh, rs, ?_⟩
    rcases OutS.toR o with ⟨x, h1, e, o⟩ | ⟨c, fs, h1, e, o⟩
    · rw [e]
      cases q : truth x h1 with
      | none => simp only [q] at o; exact False.elim o
      | some k =>
        simp only [q] at o
        refine ⟨k, q, fun m1 H1 p => ?_⟩
        cases k with
        | true => exact iteT ⟨m1, r, h1, p.rel, p.s rs, OutS.later p o⟩
        | false => exact iteF ⟨m1, r, h1, p.rel, p.s rs, OutS.later p o⟩
    · rw [e]; exact o
/-- code that is never reached -/
theorem zNever {st : Stmt} : PS X st (tS G X.K E (fun _ _ => .stuck)) := PS_mono ps_never fun Z σ H ⟨m, r, h, rh, rs, o⟩ => o
/-! ### targets -/
theorem gName_ok {i : Nat} {x : Str} (hN : X.N.Nodup) (hi : X.N[i]? = some x) (hx : Loc X.env.scope x) (hf : X.fn x = true ∨ X.env.scope.names.lookup x = some .local := by first | exact .inl rfl | exact .inr rfl | assumption) : PG X (.Name x pos) (tG G X.K E (gN i)) :=
  PG_mono (pg_name hN hi hx hf) fun v σ H Q ⟨m, r, h, d, rh, rs, rd, o⟩ => o m H _ (Post.refl rh) (RelS.set rd i rs)
theorem gsNil_ok : PGs X [] (tGs G X.K E gsNil) := PGs_mono pgs_nil fun v σ H Q ⟨m, r, h, ds, rh, rs, rd, o⟩ => by
  cases rd with
  | nil => exact ⟨rfl, o m H σ (Post.refl rh) rs⟩
  | cons a b => exact False.elim o
theorem gsCons_ok {es : List Expr} {g : GX} {gs : GXs} (h1 : PG X a (tG G X.K E g)) (h2 : PGs X es (tGs G X.K E gs)) (hs : (assignEach (a :: es) X.env).map (·.2) = assign a X.env :: (assignEach es X.env).map (·.2) := by rfl) : PGs X (a :: es) (tGs G X.K E (gsCons g gs)) :=
  PGs_mono (pgs_cons h1 h2 hs) fun vs σ H Q ⟨m, r, h, ds, rh, rs, rd, o⟩ => by
    cases rd with
    | nil => exact False.elim o
    | @cons d v ds vs rd rds =>
      refine ⟨v, vs, rfl, m, r, h, d, rh, rs, rd, ?_⟩
      simp only [gsCons] at o
      cases q : g d r h with
      | nx r1 h1 =>
        rw [q] at o
        intro m1 H1 s1 p1 q1
        exact ⟨m1, r1, h1, ds, p1.rel, q1, p1.ds rds, OutS.later p1 o⟩
      | rt d h1 => rw [q] at o; exact o
      | bk r1 h1 => rw [q] at o; exact o
      | ct r1 h1 => rw [q] at o; exact o
      | exc c fs h1 => rw [q] at o; exact o
      | stuck => rw [q] at o; exact o
theorem gT_ok {es : List Expr} {k n : Nat} {gs : GXs} (hc : X.calm = true) (h : PGs X es (tGs G X.K E gs)) (hn : (assignEach es X.env).length = n := by rfl) (hst : (assignEach es X.env).findIdx? (·.1) = none := by rfl) : PG X (.Tuple es k pos) (tG G X.K E (gT n gs)) :=
  PG_mono (pg_tup hc h hn hst) fun v σ H Q ⟨m, r, h, d, rh, rs, rd, o⟩ => by
    cases rd with
    | non => exact False.elim o
    | bl _ => exact False.elim o
    | int _ => exact False.elim o
    | str _ => exact False.elim o
    | ref _ => exact False.elim o
    | scr _ => exact False.elim o
    | fn _ => exact False.elim o
    | @tup a xs vs ht rds =>
      simp only [gT] at o
      by_cases hl : xs.length = n
      · rw [if_pos hl] at o
        exact ⟨a, vs, rfl, ht.sq, by rw [← rds.length]; exact hl, m, r, h, xs, rh, rs, rds, o⟩
      · rw [if_neg hl] at o; exact False.elim o
theorem toAsg {g : GX} {Z : Ends} {σ : St} {H : Hp} (t : tS G X.K E (sAsg fa g) Z σ H) (hg : ∀ d r h, match g d r h with | .rt _ _ => False | .bk _ _ => False | .ct _ _ => False | _ => True) : tAsg (tE G X.K E fa) (tG G X.K E g) Z σ H := by
  obtain ⟨m, r, h, rh, rs, o⟩ := t
  refine ⟨m, r, h, rh, rs, ?_⟩
  rcases OutS.toR o with ⟨x, h1, e, o⟩ | ⟨c, fs, h1, e, o⟩
  · rw [e]
    intro m1 H1 v p d
    refine ⟨m1, r, h1, x, p.rel, p.s rs, d, ?_⟩
    have q := hg x r h1
    have o := OutS.later p o
    cases z : g x r h1 with
    | nx r1 h1 => rw [z] at o; exact o
    | rt d h1 => rw [z] at q; exact False.elim q
    | bk r1 h1 => rw [z] at q; exact False.elim q
    | ct r1 h1 => rw [z] at q; exact False.elim q
    | exc c fs h1 => rw [z] at o; exact o
    | stuck => rw [z] at o; exact o
  · rw [e]; exact o
end
end Py

set_option Elab.async false
set_option linter.all false
set_option maxRecDepth 100000
namespace Py
open PySem PySem.Spec PyProof.Rows L2
/-- the promise of a def of the combinator program -/
def spF (G : Gam) (K : PySem.W.Frag) (cf : CF) : Sp := fun vs H Q E => ∃ m h ds, RelH G K m h H ∧ RelDs K m h.length H ds vs ∧ Out G K E m h.length H Q (cf ds h)
/-- a def keeps its promise wherever no guard stands -/
structure FnG (P : Program) (w : World) (K : PySem.W.Frag) (mg : Str → Option Value) (base : Heap) (CX : CXT) (k : Nat) (f : Addr) (fd : FuncData) (ps : List Str) (sp : Sp) : Prop where
  len : ∀ vs H Q E, sp vs H Q E → vs.length = ps.length
  run : ∀ (A : Around) (outer : List Env) (s : Shared) (H : Hp) (args : Args) (us : List Value) (vs : List V) (Q : VK) (E : XK), A.guards = some [] → Room k A →
    Env0 P w K mg base A outer s H → BindsTo s fd args (ps.zip us) → Vals vs us → sp vs H Q E → codeAny (model P w) A (.call (.ref f) args) (CR CX outer P w H s Q E) s
theorem FnG.up {P : Program} {w : World} {K : PySem.W.Frag} {mg : Str → Option Value} {base : Heap} {CX : CXT} {j k : Nat} {f : Addr} {fd : FuncData} {ps : List Str} {sp : Sp} (F : FnG P w K mg base CX j f fd ps sp) (h : j ≤ k) : FnG P w K mg base CX k f fd ps sp :=
  ⟨F.len, fun A outer s H args us vs Q E g r => F.run A outer s H args us vs Q E g (r.mono h)⟩
/-- a def by its body -/
theorem fnG_of {G : Gam} {CX : CXT} {P : Program} {w : World} {K : PySem.W.Frag} {mg : Str → Option Value} {base : Heap} {k : Nat} {f : Addr} {name qual : Str} {params : Arguments} {body : List Stmt} {scope : Scope} {dV kV doc pm cdv ct oc : Value} {an od : Option Addr}
    {osl : Array (Option Value)} {N ps : List Str} {b : SX} {n kk : Nat}
    (lk : K.lookup f = some ⟨oc, od, .func (PySem.W.fnOf name qual params body scope dV kV doc pm an cdv ct), osl⟩) (hcd : PySem.W.codeIn K cdv qual = true) (S : FnScope N ps scope) (hn : ps.length = n) (hk : N.length - ps.length = kk)
    (hbody : ∀ (A : Around) (outer : List Env) (s : Shared) (H : Hp) (E : XK), A.guards = some [] → Room k (A.deeper (envOfC qual scope s.heap.objs.size f cdv)) →
      PSs (cxOf CX P w K mg base N qual scope f cdv A outer s H E) body (tS G K E b)) :
    FnG P w K mg base CX (k + 1) f (PySem.W.fnOf name qual params body scope dV kV doc pm an cdv ct) ps (spF G K (runF n kk b)) := by
  have len : ∀ vs H Q E, spF G K (runF n kk b) vs H Q E → vs.length = ps.length := by
    rintro vs H Q E ⟨m, h, ds, rh, rd, o⟩
    unfold runF at o
    by_cases hl : ds.length = n
    · rw [← rd.length, hl, hn]
    · rw [if_neg hl] at o; exact False.elim o
  refine ⟨len, ?_⟩
  intro A outer s H args us vs Q E hg hr e0 hb r hsp
  have hl := len _ _ _ _ hsp
  have kin : K.In s.heap := e0.mod.kin.keeps (fun b o e => (e0.bs b o e).1)
  have hkind : ∀ y ∈ ps.zip us, scope.names.lookup y.1 = some .local ∨ (scope.names.lookup y.1 = some .cell ∧ ((cellsFrom (s.heap.objs.size + 1) scope.names []).lookup y.1).isSome = true) := by
    rintro ⟨nm, v⟩ hy
    cases S.par nm (List.of_mem_zip hy).1 with
    | inl q => exact Or.inl q
    | inr q => exact Or.inr ⟨q, PySem.W.cellsFrom_some _ _ _ (Or.inl q)⟩
  refine codeAny_call_function hr.depth (kin _ _ lk) rfl S.co S.gen rfl (PySem.W.codeRec_of kin hcd) (hb _ _ _ _ ?_)
  refine wpAny_newFunctionEnv_cells S.kind hkind ?_
  intro env he s1 x
  subst he
  refine ⟨(e0.mod.nolimit.keeps fun b o e => (e0.bs b o e).1).keeps x.toInCall.keep, codeAny_func ?_⟩
  have ht := hbody A outer s H E hg (hr.deeper _)
  have I := inv_start (CX := CX) (E := E) S hr.hd e0 hl r x
  obtain ⟨m, h, ds, rh, rd, o⟩ := hsp
  have hdn : ds.length = n := by rw [rd.length, hl, hn]
  have hq : tS G K E b { nx := fun _ H' => Q .non H', rt := Q } (L2.start N vs) H := by
    refine ⟨m, ds.map some ++ List.replicate kk none, h, rh, ?_, ?_⟩
    · unfold L2.start
      rw [hl, hk]
      exact RelS.of kk rd
    · unfold runF at o
      rw [if_pos hdn] at o
      cases q : b (ds.map some ++ List.replicate kk none) h with
      | nx r1 h1 => rw [q] at o; exact fun m' H' s p _ => o m' H' _ p .non
      | rt d h1 => rw [q] at o; exact o
      | bk r1 h1 => rw [q] at o; exact False.elim o
      | ct r1 h1 => rw [q] at o; exact False.elim o
      | exc c fs h1 => rw [q] at o; exact o
      | stuck => rw [q] at o; exact False.elim o
  refine wpAny_mono (ht.run [] s1 (L2.start N vs) H _ I hq) ?_ (fun e s' z => z)
  intro fl s' hs
  have fin : ∀ {σ' : L2.St} {H' : Hp} {v : V} {u : Value}, Inv (cxOf CX P w K mg base N qual scope f cdv A outer s H E) [] σ' H' s' → RelV v u → Q v H' → CE outer P w H s Q u s' := by
    intro σ' H' v u J rv q
    exact ⟨v, H', J.os, J.bare, J.base, J.hok, rv, q⟩
  cases fl with
  | ret u => obtain ⟨v, σ', H', J, rv, q⟩ := hs; exact fin J rv q
  | next => obtain ⟨σ', H', J, q⟩ := hs; exact fin (v := V.non) (u := Value.none) J rfl q
  | brk => obtain ⟨_, _, _, q⟩ := hs; exact q.elim
  | cont => obtain ⟨_, _, _, q⟩ := hs; exact q.elim

section
variable {X : Cx} {G : Gam} {E : XK} {CX : CXT}
/-- what a call of the value fv is worth -/
def CallG (X : Cx) (G : Gam) (E : XK) (fv : Value) (ks : List Str) (op : KF) : Prop :=
  ∀ (pins : List (Addr × Obj)) (s : Shared) (σ : L2.St) (H : Hp) (us ws : List Value) (vs zs : List V) (Q : VK), Inv X pins σ H s → Vals vs us → Vals zs ws →
    (∃ m h ds es, RelH G X.K m h H ∧ RelDs X.K m h.length H ds vs ∧ RelDs X.K m h.length H es zs ∧ Out G X.K E m h.length H Q (op ds es h)) → wpAny (model X.prog X.w) X.A (call fv us (ks.zip ws)) (EP X pins σ Q) X.xe s
/-- how arguments bind -/
def Bnd (K : PySem.W.Frag) (fd : FuncData) (ps : List Str) (n : Nat) (ks : List Str) (bd : List D → List D → List D) : Prop :=
  ∀ (s : Shared) (us ws : List Value) (vs zs : List V), K.In s.heap → Vals vs us → Vals zs ws → us.length = n → ws.length = ks.length → ∃ us2 vs2, Vals vs2 us2 ∧ BindsTo s fd ⟨us, ks.zip ws⟩ (ps.zip us2) ∧
    ∀ m N H ds es, RelDs K m N H ds vs → RelDs K m N H es zs → RelDs K m N H (bd ds es) vs2
theorem runG {k : Nat} {f : Addr} {fd : FuncData} {ps : List Str} {sp : Sp} {pins : List (Addr × Obj)} {σ : L2.St} {H : Hp} {s : Shared} {Q : VK} {us ws : List Value} {vs : List V} {kw : List (Str × Value)} (F : FnG X.prog X.w X.K X.mg X.base CX k f fd ps sp) (hg : X.A.guards = some []) (hr : Room k X.A)
    (hx : Passes CX X E) (I : Inv X pins σ H s) (hb : BindsTo s fd ⟨us, kw⟩ (ps.zip ws)) (r : Vals vs ws) (h : sp vs H Q E) : wpAny (model X.prog X.w) X.A (call (.ref f) us kw) (EP X pins σ Q) X.xe s := by
  refine wpAny_call (codeAny_mono (F.run X.A X.stack s H ⟨us, kw⟩ ws vs Q E hg hr I.env0 hb r h) ?_)
  intro r s' hq
  cases r with
  | error e => exact hx pins σ H s e s' I hq
  | ok fl =>
    cases fl with
    | ret u => exact I.after hq
    | next => exact hq.elim
    | brk => exact hq.elim
    | cont => exact hq.elim
theorem cg_fn {k : Nat} {f : Addr} {fd : FuncData} {ps ks : List Str} {cf : CF} {n : Nat} {bd : List D → List D → List D} (F : FnG X.prog X.w X.K X.mg X.base CX k f fd ps (spF G X.K cf)) (hg : X.A.guards = some []) (hr : Room k X.A) (hx : Passes CX X E) (hb : Bnd X.K fd ps n ks bd) : CallG X G E (.ref f) ks (opF n ks.length bd cf) := by
  intro pins s σ H us ws vs zs Q I r1 r2 ⟨m, h, ds, es, rh, d1, d2, o⟩
  unfold opF at o
  by_cases hl : ds.length = n ∧ es.length = ks.length
  · rw [if_pos hl] at o
    obtain ⟨us2, vs2, q1, q2, q3⟩ := hb s us ws vs zs I.kIn r1 r2 (by rw [← r1.length, ← d1.length]; exact hl.1) (by rw [← r2.length, ← d2.length]; exact hl.2)
    exact runG F hg hr hx I q2 q1 ⟨m, h, _, rh, q3 _ _ _ _ _ d1 d2, o⟩
  · rw [if_neg hl] at o; exact o.elim
theorem guards_make {A : Around} {C : Addr} {us : List Value} {kw : List (Str × Value)} (h : A.guards = some []) : (A.under (.builtin "type.__call__" ⟨.ref C :: us, kw⟩)).guards = some [] := by
  have e : (Code.builtin "type.__call__" ⟨.ref C :: us, kw⟩).guards = [] := by
    unfold Code.guards
    rw [if_neg]
    show ¬ (guardIds.contains "type.__call__" = true)
    decide
  unfold Around.under
  show pushGuards (Code.builtin "type.__call__" ⟨.ref C :: us, kw⟩).guards A.guards = some []
  rw [e, h]
  rfl
theorem cg_make {k : Nat} {c : Nat} {f : Addr} {fd : FuncData} {ps ks : List Str} {cf : CF} {n : Nat} {bd : List D → List D → List D} (M : Mk X.K (G.cl c) f) (F : FnG X.prog X.w X.K X.mg X.base CX k f fd ps (spF G X.K cf)) (hg : X.A.guards = some []) (hr : Room (k + 1) X.A) (hx : Passes CX X E) (hb : Bnd X.K fd ps (n + 1) ks bd) :
    CallG X G E (.ref (G.cl c)) ks (opM c n ks.length bd cf) := by
  intro pins s σ H us ws vs zs Q I r1 r2 ⟨m, h, ds, es, rh, d1, d2, o⟩
  unfold opM at o
  by_cases hl : ds.length = n ∧ es.length = ks.length
  · rw [if_pos hl] at o
    have I2 := Inv.made (C := G.cl c) I
    have hx0 : H (s.heap.objs.size + 1) = none := I.hok.fresh (Nat.le_succ _)
    have hd0 : H s.heap.objs.size = none := I.hok.fresh (Nat.le_refl _)
    have p1 := rh.newT (u := HO.own (s.heap.objs.size + 1)) hd0
    have hx1 : upd H s.heap.objs.size (HO.own (s.heap.objs.size + 1)) (s.heap.objs.size + 1) = none := by rw [upd_ne (Nat.succ_ne_self _)]; exact hx0
    have p2 := p1.trans (p1.rel.new (o := .ins c []) (u := .ins (G.cl c) s.heap.objs.size []) hx1 (fun m' ag e => ⟨_, _, upd_same, .nil⟩))
    have z : RelD X.K (ext m h.length (s.heap.objs.size + 1)) (h ++ [O.ins c []]).length (upd (upd H s.heap.objs.size (HO.own (s.heap.objs.size + 1))) (s.heap.objs.size + 1) (.ins (G.cl c) s.heap.objs.size [])) (.ref h.length) (.ref (s.heap.objs.size + 1)) := by
      have z := RelD.ref (K := X.K) (m := ext m h.length (s.heap.objs.size + 1)) (H := upd (upd H s.heap.objs.size (HO.own (s.heap.objs.size + 1))) (s.heap.objs.size + 1) (.ins (G.cl c) s.heap.objs.size [])) (n := h.length) (N := (h ++ [O.ins c []]).length) (by simp)
      rw [ext_self] at z
      exact z
    obtain ⟨us2, vs2, q1, q2, q3⟩ := hb _ (.ref (s.heap.objs.size + 1) :: us) ws (.ref (s.heap.objs.size + 1) :: vs) zs I2.kIn (.cons rfl r1) r2 (by rw [List.length_cons, ← r1.length, ← d1.length, hl.1]) (by rw [← r2.length, ← d2.length]; exact hl.2)
    have rd := q3 _ _ _ _ _ (.cons z (p2.ds d1)) (p2.ds d2)
    refine wpAny_call (make_map (f := f) I.kIn M.makes M.init (beq_iff_eq.mp M.fn) (codeAny_mono (F.run _ X.stack _ _ ⟨Value.ref (s.heap.objs.size + 1) :: us, ks.zip ws⟩ us2 vs2 (fun v H2 => v = .non ∧ Q (.ref (s.heap.objs.size + 1)) H2) E (guards_make hg) (hr.make (G.cl c) us (ks.zip ws))
      (I2.env0.make (G.cl c) us (ks.zip ws)) q2 q1 ?_) ?_))
    · refine ⟨_, _, _, p2.rel, rd, ?_⟩
      rcases Out.bindR o with ⟨v, h2, e, o⟩ | ⟨cc, fs, h2, e, o⟩
      · rw [e]
        intro m2 H2 v2 p3 d3
        cases v with
        | non => cases d3; exact ⟨rfl, o m2 H2 _ (p2.trans p3) (p3.d z)⟩
        | bl _ => exact o.elim
        | int _ => exact o.elim
        | str _ => exact o.elim
        | tup _ => exact o.elim
        | ref _ => exact o.elim
        | scr _ => exact o.elim
        | fn _ => exact o.elim
      · rw [e]; exact OutX.later p2 o
    · intro r s' hq'
      cases r with
      | error e => exact hx pins σ _ _ e s' I2 hq'
      | ok fl =>
        cases fl with
        | ret u =>
          obtain ⟨v, H', I3, rv, ev, q3⟩ := I2.after hq'
          subst ev
          exact ⟨rv, ⟨V.ref (s.heap.objs.size + 1), H', I3, rfl, q3⟩⟩
        | next => exact hq'.elim
        | brk => exact hq'.elim
        | cont => exact hq'.elim
  · rw [if_neg hl] at o; exact o.elim

/-! ### forms of calls -/
variable {x : Str} {p pos apos : Pos} {e o : Expr} {es : List Expr} {kws : List Keyword} {fa fk : AX} {fo : EX} {op : KF} {fv : Value} {ks : List Str}
theorem PK_mono {t t' : TA} (a : PK X kws t) (h : ∀ σ H Q, t' σ H Q → t σ H Q) : PK X kws t' := ⟨fun w pins s σ H Q I q => a.run w pins s σ H Q I (h _ _ _ q)⟩
theorem kNil : PK X [] (tA G X.K E aNil) := PK_mono pk_nil fun σ H Q ⟨m, r, h, rh, rs, o⟩ => o m H [] (Post.refl rh) .nil
theorem toCons {f : EX} {g : AX} {σ : L2.St} {H : Hp} {Q : List V → Hp → Prop} (t : tA G X.K E (aCons f g) σ H Q) : tCons (tE G X.K E f) (tA G X.K E g) σ H Q := by
  obtain ⟨m, r, h, rh, rs, o⟩ := t
  refine ⟨m, r, h, rh, rs, ?_⟩
  rcases OutA.bindR o with ⟨x, h1, e, o⟩ | ⟨c, fs, h1, e, o⟩
  · rw [e]
    intro m1 H1 v p1 d1
    refine ⟨m1, r, h1, p1.rel, p1.s rs, ?_⟩
    rcases OutA.bindR o with ⟨y, h2, e, o⟩ | ⟨c, fs, h2, e, o⟩
    · rw [e]
      intro m2 H2 w p2 d2
      exact o m2 H2 _ (p1.trans p2) (.cons (p2.d d1) d2)
    · rw [e]; exact OutX.later p1 o
  · rw [e]; exact o
theorem kCons {nm : Option Str} {kpos : Pos} {f : EX} {g : AX} (ha : PE X e (tE G X.K E f)) (hr : PK X kws (tA G X.K E g)) : PK X (⟨nm, e, kpos⟩ :: kws) (tA G X.K E (aCons f g)) := PK_mono (pk_cons ha hr) fun _ _ _ t => toCons t
/-- the two lists of a call, one behind the other -/
theorem toCall {σ : L2.St} {H : Hp} {Q : VK} (t : tE G X.K E (eCall op fa fk) σ H Q) :
    tA G X.K E fa σ H (fun vs H1 => tA G X.K E fk σ H1 fun zs H2 => ∃ m h ds es, RelH G X.K m h H2 ∧ RelDs X.K m h.length H2 ds vs ∧ RelDs X.K m h.length H2 es zs ∧ Out G X.K E m h.length H2 Q (op ds es h)) := by
  obtain ⟨m, r, h, rh, rs, o⟩ := t
  refine ⟨m, r, h, rh, rs, ?_⟩
  rcases Out.bindR o with ⟨x, h1, e, o⟩ | ⟨c, fs, h1, e, o⟩
  · rw [e]
    intro m1 H1 v p1 d1
    refine ⟨m1, r, h1, p1.rel, p1.s rs, ?_⟩
    rcases Out.bindR o with ⟨y, h2, e, o⟩ | ⟨c, fs, h2, e, o⟩
    · rw [e]
      intro m2 H2 w p2 d2
      exact ⟨m2, h2, x, y, p2.rel, p2.ds d1, d2, Out.later (p1.trans p2) o⟩
    · rw [e]; exact OutX.later p1 o
  · rw [e]; exact o
theorem noK {σ : L2.St} {H : Hp} {R : List V → Hp → Prop} (t : tA G X.K E aNil σ H R) : R [] H := by
  obtain ⟨m, r, h, rh, rs, o⟩ := t
  exact o m H [] (Post.refl rh) .nil
theorem xCall (cg : CallG X G E fv [] op) (hg : Gl X x) (hm : X.mg x = some fv) (hk : PySem.W.keepIn X.K fv = true) (ha : PA X (e :: es) (tA G X.K E fa)) (hdb : (x == ("__debug__" : Str)) = false := by decide)
    (he : starEach (e :: es) X.env = (false, eval e X.env) :: starEach es X.env := by rfl) (hpl : (backTo pos (starEach es X.env)).any (·.1) = false := by rfl) : PE X (.Call (.Name x p) (e :: es) [] pos) (tE G X.K E (eCall op fa aNil)) := by
  refine ⟨fun pins s σ H Q I h => ?_⟩
  refine wpAny_Call_Name_kw (ld_glob I hg hm ?_ hdb)
  refine PySem.W.callWith_K (h₀ := X.base) I.ok.mod.kin hk (thn (ha.run pos pins s σ H _ I (toCall h)) ?_) he hpl
  rintro us s1 ⟨vs, H1, I1, r, q⟩
  exact ⟨I1.kIn, cg pins s1 σ H1 us [] vs [] Q I1 r .nil (noK q)⟩
theorem xCall0 (cg : CallG X G E fv [] op) (hg : Gl X x) (hm : X.mg x = some fv) (hk : PySem.W.keepIn X.K fv = true) (hdb : (x == ("__debug__" : Str)) = false := by decide) : PE X (.Call (.Name x p) [] [] pos) (tE G X.K E (eCall op aNil aNil)) := by
  refine ⟨fun pins s σ H Q I h => ?_⟩
  refine wpAny_Call_Name_kw (ld_glob I hg hm ?_ hdb)
  exact PySem.W.callWith_K0 I.kIn hk (cg pins s σ H [] [] [] [] Q I .nil .nil (noK (noK (toCall h))))
theorem xCall0K (cg : CallG X G E fv ks op) (hg : Gl X x) (hm : X.mg x = some fv) (hk : PySem.W.keepIn X.K fv = true) (hkw : PK X kws (tA G X.K E fk))
    (hall : (backToKw pos (keywordEach kws X.env)).all (·.1.isSome) = true := by rfl) (hks : (backToKw pos (keywordEach kws X.env)).filterMap (·.1) = ks := by rfl) (hdb : (x == ("__debug__" : Str)) = false := by decide)
    (hpl : ((backTo pos (starEach [] X.env)).any (·.1) || (backToKw pos (keywordEach kws X.env)).any (·.1.isNone)) = false := by rfl) : PE X (.Call (.Name x p) [] kws pos) (tE G X.K E (eCall op aNil fk)) := by
  refine ⟨fun pins s σ H Q I h => ?_⟩
  refine wpAny_Call_Name_kw (ld_glob I hg hm ?_ hdb)
  refine PySem.W.callWith_KW0 (h₀ := X.base) I.ok.mod.kin hk hall ?_ hpl
  refine thn (hkw.run pos pins s σ H _ I (noK (toCall h))) ?_
  rintro ws s2 ⟨zs, H2, I2, rz, q2⟩
  refine ⟨I2.kIn, ?_⟩
  rw [hks]
  exact cg pins s2 σ H2 [] ws [] zs Q I2 .nil rz q2
/-! methods -/
variable {c : Nat} {mn : Str} {f : Addr}
def NotF (G : Gam) (mn : Str) : Prop := ∀ i, i < G.top → G.nm i ≠ mn
theorem RelFs.no {K : PySem.W.Frag} {m : Nat → Addr} {N : Nat} {H : Hp} (hn : NotF G mn) : ∀ {fs : List (Nat × D)} {vs : List (Str × V)}, RelFs G K m N H fs vs → vs.lookup mn = none
  | _, _, .nil => rfl
  | _, _, .cons (i := j) a h r => by
    have : (mn == G.nm j) = false := beq_eq_false_iff_ne.mpr fun z => hn j a z.symm
    simp only [List.lookup, this]
    exact RelFs.no hn r
theorem toMeth (hn : NotF G mn) {σ : L2.St} {H : Hp} {Q : VK} (t : tE G X.K E (eMeth c op fo fa fk) σ H Q) :
    tE G X.K E fo σ H (fun x H1 => ∃ a dx fs, x = .ref a ∧ H1 a = some (.ins (G.cl c) dx fs) ∧ fs.lookup mn = none ∧ tA G X.K E fa σ H1 (fun vs H2 => tA G X.K E fk σ H2 fun zs H3 =>
      ∃ m h ds es, RelH G X.K m h H3 ∧ RelDs X.K m h.length H3 ds (x :: vs) ∧ RelDs X.K m h.length H3 es zs ∧ Out G X.K E m h.length H3 Q (op ds es h))) := by
  obtain ⟨m, r, h, rh, rs, o⟩ := t
  refine ⟨m, r, h, rh, rs, ?_⟩
  rcases Out.bindR o with ⟨x, h1, e, o⟩ | ⟨c, fs, h1, e, o⟩
  · rw [e]
    intro m1 H1 v p1 d1
    cases d1 with
    | non => exact o.elim
    | bl _ => exact o.elim
    | int _ => exact o.elim
    | str _ => exact o.elim
    | scr _ => exact o.elim
    | fn _ => exact o.elim
    | tup _ _ => exact o.elim
    | @ref n hn1 =>
      cases q : h1[n]? with
      | none => simp only [q] at o; exact o.elim
      | some ob =>
        simp only [q] at o
        cases ob with
        | lst _ => exact o.elim
        | dct kv => exact o.elim
        | hid _ => exact o.elim
        | ins c' fs =>
          simp only at o
          by_cases hc : c' = c
          · subst hc
            rw [if_pos rfl] at o
            obtain ⟨dx, vs, e1, rf⟩ := p1.rel.obj n _ q
            refine ⟨m1 n, dx, vs, rfl, e1, rf.no hn, m1, r, h1, p1.rel, p1.s rs, ?_⟩
            rcases Out.bindR o with ⟨ds, h2, e, o⟩ | ⟨c, fs, h2, e, o⟩
            · rw [e]
              intro m2 H2 v2 p2 d2
              refine ⟨m2, r, h2, p2.rel, p2.s (p1.s rs), ?_⟩
              rcases Out.bindR o with ⟨es, h3, e, o⟩ | ⟨c, fs, h3, e, o⟩
              · rw [e]
                intro m3 H3 v3 p3 d3
                exact ⟨m3, h3, _, es, p3.rel, .cons ((p2.trans p3).d (.ref hn1)) (p3.ds d2), d3, Out.later (p1.trans (p2.trans p3)) o⟩
              · rw [e]; exact OutX.later (p1.trans p2) o
            · rw [e]; exact OutX.later p1 o
          · rw [if_neg hc] at o; exact o.elim
  · rw [e]; exact o
theorem xMeth {pl : Sem Bool} (hn : NotF G mn) (he : PE X o (tE G X.K E fo)) (cc : Cls X.K (G.cl c)) (hm : Meth X.K (G.cl c) mn f) (cg : CallG X G E (.ref f) [] op) (ha : PA X (e :: es) (tA G X.K E fa))
    (hst : starEach (e :: es) X.env = (false, eval e X.env) :: starEach es X.env := by rfl) (hpl : (backTo pos (starEach es X.env)).any (·.1) = false := by rfl)
    (ht : eval (.Call (.Attribute o mn apos) (e :: es) [] pos) X.env = (do
      let ov ← eval o X.env
      standAt apos.atName
      let (f, first) ← holding [ov] (getMethod ov mn pl)
      callWith pos f first (backTo pos (starEach (e :: es) X.env)) (backToKw pos (keywordEach [] X.env))) := by rfl) : PE X (.Call (.Attribute o mn apos) (e :: es) [] pos) (tE G X.K E (eMeth c op fo fa aNil)) := by
  refine ⟨fun pins s σ H Q I h => ?_⟩
  refine PySem.W.methodCall_KW (pl := pl) (thn (he.run pins s σ H _ I (toMeth hn h)) ?_) ht
  rintro u s1 ⟨x, H1, I1, rx, a, dx, fs, ex, ea, l, q⟩
  subst ex
  obtain rfl : u = Value.ref a := rx
  refine getmeth_ok I1 ea cc hm l ?_
  refine PySem.W.callWith_K (first := [.ref a]) (h₀ := X.base) I.ok.mod.kin hm.kp (thn (ha.run pos pins s1 σ H1 _ I1 q) ?_) hst hpl
  rintro us s2 ⟨vs, H2, I2, r, q2⟩
  exact ⟨I2.kIn, cg pins s2 σ H2 (.ref a :: us) [] (.ref a :: vs) [] Q I2 (.cons rfl r) .nil (noK q2)⟩
theorem xMeth0 {pl : Sem Bool} (hn : NotF G mn) (he : PE X o (tE G X.K E fo)) (cc : Cls X.K (G.cl c)) (hm : Meth X.K (G.cl c) mn f) (cg : CallG X G E (.ref f) [] op)
    (ht : eval (.Call (.Attribute o mn apos) [] [] pos) X.env = (do
      let ov ← eval o X.env
      standAt apos.atName
      let (f, first) ← holding [ov] (getMethod ov mn pl)
      callWith pos f first (backTo pos (starEach [] X.env)) (backToKw pos (keywordEach [] X.env))) := by rfl) : PE X (.Call (.Attribute o mn apos) [] [] pos) (tE G X.K E (eMeth c op fo aNil aNil)) := by
  refine ⟨fun pins s σ H Q I h => ?_⟩
  refine PySem.W.methodCall_KW (pl := pl) (thn (he.run pins s σ H _ I (toMeth hn h)) ?_) ht
  rintro u s1 ⟨x, H1, I1, rx, a, dx, fs, ex, ea, l, q⟩
  subst ex
  obtain rfl : u = Value.ref a := rx
  refine getmeth_ok I1 ea cc hm l ?_
  exact PySem.W.callWith_K0 (first := [.ref a]) I1.kIn hm.kp (cg pins s1 σ H1 [.ref a] [] [.ref a] [] Q I1 (.cons rfl .nil) .nil (noK (noK q)))
theorem xMeth0K {pl : Sem Bool} (hn : NotF G mn) (he : PE X o (tE G X.K E fo)) (cc : Cls X.K (G.cl c)) (hm : Meth X.K (G.cl c) mn f) (cg : CallG X G E (.ref f) ks op) (hkw : PK X kws (tA G X.K E fk))
    (hall : (backToKw pos (keywordEach kws X.env)).all (·.1.isSome) = true := by rfl) (hks : (backToKw pos (keywordEach kws X.env)).filterMap (·.1) = ks := by rfl)
    (hpl : ((backTo pos (starEach [] X.env)).any (·.1) || (backToKw pos (keywordEach kws X.env)).any (·.1.isNone)) = false := by rfl)
    (ht : eval (.Call (.Attribute o mn apos) [] kws pos) X.env = (do
      let ov ← eval o X.env
      standAt apos.atName
      let (f, first) ← holding [ov] (getMethod ov mn pl)
      callWith pos f first (backTo pos (starEach [] X.env)) (backToKw pos (keywordEach kws X.env))) := by rfl) : PE X (.Call (.Attribute o mn apos) [] kws pos) (tE G X.K E (eMeth c op fo aNil fk)) := by
  refine ⟨fun pins s σ H Q I h => ?_⟩
  refine PySem.W.methodCall_KW (pl := pl) (thn (he.run pins s σ H _ I (toMeth hn h)) ?_) ht
  rintro u s1 ⟨x, H1, I1, rx, a, dx, fs, ex, ea, l, q⟩
  subst ex
  obtain rfl : u = Value.ref a := rx
  refine getmeth_ok I1 ea cc hm l ?_
  refine PySem.W.callWith_KW0 (first := [.ref a]) (h₀ := X.base) I.ok.mod.kin hm.kp hall ?_ hpl
  refine thn (hkw.run pos pins s1 σ H1 _ I1 (noK q)) ?_
  rintro ws s2 ⟨zs, H2, I2, rz, q2⟩
  refine ⟨I2.kIn, ?_⟩
  rw [hks]
  exact cg pins s2 σ H2 [.ref a] ws [.ref a] zs Q I2 (.cons rfl .nil) rz q2
/-! ### fields -/
variable {i : Nat} {fe : EX} {value : Expr} {pos' : Pos}
theorem xFld (hi : i < G.top) (cc : Cls X.K (G.cl c)) (na : NoAttr X.K (G.cl c) (G.nm i)) (he : PE X o (tE G X.K E fo)) (hf : mn = G.nm i := by rfl) (hb : attributeBase o mn X.env (eval o X.env) = eval o X.env := by rfl) : PE X (.Attribute o mn pos) (tE G X.K E (eFld c i fo)) := by
  subst hf
  refine PE_mono (pe_fld he hb) ?_
  rintro σ H Q ⟨m, r, h, rh, rs, o⟩
  refine ⟨m, r, h, rh, rs, ?_⟩
  rcases Out.bindR o with ⟨x, h1, e, o⟩ | ⟨c, fs, h1, e, o⟩
  · rw [e]
    intro m1 H1 v p1 d1
    cases d1 with
    | non => exact o.elim
    | bl _ => exact o.elim
    | int _ => exact o.elim
    | str _ => exact o.elim
    | scr _ => exact o.elim
    | fn _ => exact o.elim
    | tup _ _ => exact o.elim
    | @ref n hn1 =>
      cases q : h1[n]? with
      | none => simp only [q] at o; exact o.elim
      | some ob =>
        simp only [q] at o
        cases ob with
        | lst _ => exact o.elim
        | dct kv => exact o.elim
        | hid _ => exact o.elim
        | ins c' fs =>
          simp only at o
          by_cases hc : c' = c
          · subst hc
            rw [if_pos rfl] at o
            obtain ⟨dx, vs, e1, rf⟩ := p1.rel.obj n _ q
            cases z : getA i fs with
            | none => simp only [z] at o; exact o.elim
            | some d =>
              simp only [z] at o
              obtain ⟨v, lv, rv⟩ := rf.get hi z
              exact ⟨m1 n, _, dx, vs, v, rfl, e1, cc, na, lv, o m1 H1 v p1 rv⟩
          · rw [if_neg hc] at o; exact o.elim
  · rw [e]; exact o
theorem zFld (hi : i < G.top) (cc : Cls X.K (G.cl c)) (na : NoAttr X.K (G.cl c) (G.nm i)) (ho : PE X o (tE G X.K E fo)) (he : PE X value (tE G X.K E fe)) (hf : mn = G.nm i := by rfl) (hs : swapsWith value (some (.Attribute o mn pos')) pos.line X.env = pure false := by rfl) : PS X (.Assign [.Attribute o mn pos'] value pos) (tS G X.K E (Py.sFld c i fo fe)) := by
  subst hf
  refine PS_mono (ps_fld ho he hs) ?_
  rintro Z σ H ⟨m, r, h, rh, rs, o⟩
  refine ⟨m, r, h, rh, rs, ?_⟩
  rcases OutS.toR o with ⟨d, h1, e, o⟩ | ⟨c, fs, h1, e, o⟩
  · rw [e]
    intro m1 H1 y p1 d1
    refine ⟨m1, r, h1, p1.rel, p1.s rs, ?_⟩
    rcases OutS.toR o with ⟨x, h2, e, o⟩ | ⟨c, fs, h2, e, o⟩
    · rw [e]
      intro m2 H2 xv p2 d2
      cases d2 with
      | non => exact o.elim
      | bl _ => exact o.elim
      | int _ => exact o.elim
      | str _ => exact o.elim
      | scr _ => exact o.elim
      | fn _ => exact o.elim
      | tup _ _ => exact o.elim
      | @ref n hn1 =>
        cases q : h2[n]? with
        | none => simp only [q] at o; exact o.elim
        | some ob =>
          simp only [q] at o
          cases ob with
          | lst _ => exact o.elim
          | dct kv => exact o.elim
          | hid _ => exact o.elim
          | ins c' fs =>
            simp only at o
            by_cases hc : c' = c ∧ fs.length < 1000
            · rw [if_pos hc] at o
              obtain ⟨hc, hl⟩ := hc
              subst hc
              obtain ⟨dx, vs, e1, rf⟩ := p2.rel.obj n _ q
              refine ⟨m2 n, _, dx, vs, rfl, e1, cc, na, by rw [← rf.length]; exact hl, ?_⟩
              have tk : TK X.K H2 (upd H2 (m2 n) (.ins (G.cl c') dx (putF (G.nm i) y vs))) := TK.upd_mut e1 (fun _ z => nomatch z) (fun _ _ z => nomatch z)
              have p3 := p2.rel.upd (u := .ins (G.cl c') dx (putF (G.nm i) y vs)) (o := .ins c' (putA i d fs)) q e1 (fun _ z => nomatch z) (fun _ _ z => nomatch z)
                ⟨dx, _, upd_same, (rf.put hi (p2.d d1)).mono (fun _ _ => rfl) (Nat.le_refl _) tk⟩
              have p := p1.trans (p2.trans p3)
              exact o m2 _ σ p (p.s rs)
            · rw [if_neg hc] at o; exact o.elim
    · rw [e]; exact OutX.later p1 o
  · rw [e]; exact o
/-! ### assignments -/
variable {fa1 : EX} {a : Expr}
theorem zSet {x : Str} (hN : X.N.Nodup) (hi : X.N[i]? = some x) (hx : Loc X.env.scope x) (he : PE X a (tE G X.K E fa1)) (hs : swapsWith a (some (.Name x pos')) pos.line X.env = pure false := by rfl)
    (hf : X.fn x = true ∨ X.env.scope.names.lookup x = some .local := by first | exact .inl rfl | exact .inr rfl | assumption) : PS X (.Assign [.Name x pos'] a pos) (tS G X.K E (sAsg fa1 (gN i))) := by
  refine PS_mono (ps_set hN hi hx he hs hf) ?_
  rintro Z σ H ⟨m, r, h, rh, rs, o⟩
  refine ⟨m, r, h, rh, rs, ?_⟩
  rcases OutS.toR o with ⟨d, h1, e, o⟩ | ⟨c, fs, h1, e, o⟩
  · rw [e]
    intro m1 H1 y p1 d1
    exact o m1 H1 _ p1 (RelS.set d1 i (p1.s rs))
  · rw [e]; exact o
/-- a target that goes on -/
def NG (g : GX) : Prop := ∀ d r h, match g d r h with | .rt _ _ => False | .bk _ _ => False | .ct _ _ => False | _ => True
theorem zAsg {tg : Expr} {g : GX} (hgg : NG g) (he : PE X a (tE G X.K E fa1)) (hg : PG X tg (tG G X.K E g)) (hs : swapsWithSole [tg] a pos.line X.env = pure false := by rfl) (hw : swappedStores [tg] a X.env = pure none := by rfl)
    (h1 : (assignEach [tg] X.env).map (·.2) = [assign tg X.env] := by rfl) : PS X (.Assign [tg] a pos) (tS G X.K E (sAsg fa1 g)) :=
  PS_mono (ps_asg he hg hs hw h1) fun _ _ _ t => toAsg t hgg
theorem zPar {i j : Nat} {x y : Str} {a b : Expr} {fa : AX} {px py pt : Pos} {kt k2 pt2} (hc : X.calm = true) (hN : X.N.Nodup) (hi : X.N[i]? = some x) (hj : X.N[j]? = some y) (hij : i ≠ j)
    (hx : X.env.scope.names.lookup x = some .local) (hy : X.env.scope.names.lookup y = some .local) (ha : PA X [a, b] (tA G X.K E fa))
    (hw : swappedStores [.Tuple [.Name x px, .Name y py] kt pt] (.Tuple [a, b] k2 pt2) X.env = pure (some [x, y])) (hs : swapsWithSole [.Tuple [.Name x px, .Name y py] kt pt] (.Tuple [a, b] k2 pt2) pos.line X.env = pure false := by rfl) :
    PS X (.Assign [.Tuple [.Name x px, .Name y py] kt pt] (.Tuple [a, b] k2 pt2) pos) (tS G X.K E (sPar i j fa)) := by
  refine PS_mono (ps_par hc hN hi hj hij hx hy ha hw hs) ?_
  rintro Z σ H ⟨m, r, h, rh, rs, o⟩
  refine ⟨m, r, h, rh, rs, ?_⟩
  rcases OutS.toR o with ⟨ds, h1, e, o⟩ | ⟨c, fs, h1, e, o⟩
  · rw [e]
    intro m1 H1 vs p1 d1
    cases d1 with
    | nil => exact o.elim
    | cons a1 b1 =>
      cases b1 with
      | nil => exact o.elim
      | cons a2 b2 =>
        cases b2 with
        | nil => exact ⟨_, _, rfl, o m1 H1 _ p1 (RelS.set a2 _ (RelS.set a1 _ (p1.s rs)))⟩
        | cons a3 b3 => exact o.elim
  · rw [e]; exact o
end
end Py

set_option Elab.async false
set_option linter.all false
set_option maxRecDepth 100000
namespace Py
open PySem PySem.Spec PyProof.Rows L2
section
variable {X : Cx} {G : Gam} {E : XK}
/-- an iterator of the layer stands for a source -/
def ItRel (G : Gam) (K : PySem.W.Frag) (m0 : Nat → Addr) (h0 : LH) (H0 : Hp) (J : It) (s : Src) : Prop :=
  ∀ m h H i, Post G K m0 h0.length H0 m h H → match srcAt s h i with
    | none => True
    | some none => J.stop i H
    | some (some d) => J.go i H ∧ ∀ x H', J.yld i H x H' → Post G K m h.length H m h H' ∧ RelD K m h.length H' d x
theorem ItRel.later {K : PySem.W.Frag} {m0 m1 : Nat → Addr} {h0 h1 : LH} {H0 H1 : Hp} {J : It} {s : Src} (a : ItRel G K m0 h0 H0 J s) (p : Post G K m0 h0.length H0 m1 h1 H1) : ItRel G K m1 h1 H1 J s :=
  fun m h H i q => a m h H i (p.trans q)
def OutI (G : Gam) (K : PySem.W.Frag) (E : XK) (m : Nat → Addr) (N : Nat) (H : Hp) (Q : It → Hp → Prop) : R Src → Prop
  | .ok s h' => ∀ m' H' J, Post G K m N H m' h' H' → ItRel G K m' h' H' J s → Q J H'
  | .exc c fs h' => OutX G K E m N H c fs h'
  | .stuck => False
def tI (G : Gam) (K : PySem.W.Frag) (E : XK) (f : IX) : TI := fun σ H Q => ∃ m r h, RelH G K m h H ∧ RelS K m h.length H r σ ∧ OutI G K E m h.length H Q (f r h)
theorem OutI.bindR {α : Type} {K : PySem.W.Frag} {m : Nat → Addr} {N : Nat} {H : Hp} {r : R α} {f : α → LH → R Src} {Q : It → Hp → Prop} (o : OutI G K E m N H Q (r.bind f)) :
    (∃ a h1, r = .ok a h1 ∧ OutI G K E m N H Q (f a h1)) ∨ ∃ c fs h1, r = .exc c fs h1 ∧ OutX G K E m N H c fs h1 := by
  cases r with
  | ok a h1 => exact .inl ⟨a, h1, rfl, o⟩
  | exc c fs h1 => exact .inr ⟨c, fs, h1, rfl, o⟩
  | stuck => exact False.elim o
theorem PI_mono {tg iter : Expr} {t t' : TI} (a : PI X tg iter t) (h : ∀ σ H Q, t' σ H Q → t σ H Q) : PI X tg iter t' := ⟨fun pins s σ H Q I q => a.run pins s σ H Q I (h _ _ _ q)⟩
/-! ### sources -/
theorem it_list {K : PySem.W.Frag} {m0 : Nat → Addr} {h0 : LH} {H0 : Hp} {n : Nat} (hn : n < h0.length) : ItRel G K m0 h0 H0 (Itl K (m0 n)) (.lst n) := by
  intro m h H i p
  have e : m n = m0 n := p.agr n hn
  simp only [srcAt]
  cases q : h[n]? with
  | none => trivial
  | some o =>
    cases o with
    | ins c fs => trivial
    | dct kv => trivial
    | hid _ => trivial
    | lst xs =>
      obtain ⟨vs, e1, r⟩ := p.rel.obj n _ q
      rw [e] at e1
      simp only
      cases z : xs[i]? with
      | none =>
        refine ⟨vs, SqL.of e1, ?_⟩
        rw [← r.length]
        exact List.getElem?_eq_none_iff.mp z
      | some d =>
        obtain ⟨v, ev, rv⟩ := r.get z
        refine ⟨⟨vs, v, SqL.of e1, ev⟩, ?_⟩
        rintro x H' ⟨eH, hx⟩
        subst eH
        have := hx vs (SqL.of e1)
        rw [ev] at this
        cases this
        exact ⟨Post.refl p.rel, rv⟩
theorem it_tup {K : PySem.W.Frag} {m0 : Nat → Addr} {h0 : LH} {H0 : Hp} {a : Addr} {xs : List D} {vs : List V} (ht : SqT K H0 a vs) (rd : RelDs K m0 h0.length H0 xs vs) : ItRel G K m0 h0 H0 (Itt K a) (.its xs) := by
  intro m h H i p
  simp only [srcAt]
  cases z : xs[i]? with
  | none =>
    refine ⟨vs, p.tk.t _ _ ht, ?_⟩
    rw [← rd.length]
    exact List.getElem?_eq_none_iff.mp z
  | some d =>
    obtain ⟨v, ev, rv⟩ := rd.get z
    refine ⟨⟨vs, v, p.tk.t _ _ ht, ev⟩, ?_⟩
    rintro x H' ⟨eH, hx⟩
    subst eH
    have := hx vs (p.tk.t _ _ ht)
    rw [ev] at this
    cases this
    exact ⟨Post.refl p.rel, p.d rv⟩
theorem it_scr {K : PySem.W.Frag} {m0 : Nat → Addr} {h0 : LH} {H0 : Hp} {a : Addr} {ns : List Int} (ht : SqF K H0 a (ns.map V.int)) : ItRel G K m0 h0 H0 (Itl K a) (.its (ns.map .int)) := by
  intro m h H i p
  have hs := (p.tk.f _ _ ht).sq
  simp only [srcAt]
  cases z : (ns.map D.int)[i]? with
  | none =>
    refine ⟨_, hs, ?_⟩
    have := List.getElem?_eq_none_iff.mp z
    simpa using this
  | some d =>
    obtain ⟨v, ev, rv⟩ := (RelDs.ints (K := K) (m := m) (N := h.length) (H := H) ns).get z
    refine ⟨⟨_, v, hs, ev⟩, ?_⟩
    rintro x H' ⟨eH, hx⟩
    subst eH
    have := hx _ hs
    rw [ev] at this
    cases this
    exact ⟨Post.refl p.rel, rv⟩
theorem it_rng {K : PySem.W.Frag} {m0 : Nat → Addr} {h0 : LH} {H0 : Hp} (a b : Int) : ItRel G K m0 h0 H0 (Itr a (b - a).toNat) (.its (rangeL a b)) := by
  intro m h H i p
  simp only [srcAt, rangeL]
  cases z : ((List.range (b - a).toNat).map fun k => D.int (a + (k : Nat)))[i]? with
  | none =>
    have := List.getElem?_eq_none_iff.mp z
    rw [List.length_map, List.length_range] at this
    exact this
  | some d =>
    have hi := (List.getElem?_eq_some_iff.mp z).1
    rw [List.length_map, List.length_range] at hi
    rw [List.getElem?_map, List.getElem?_range hi] at z
    cases z
    refine ⟨hi, ?_⟩
    rintro x H' ⟨eH, ex⟩
    subst eH
    subst ex
    exact ⟨Post.refl p.rel, .int _⟩
variable {tg iter l : Expr} {fa : EX} {fi : IX}
theorem iRng1_ok {a : Expr} {p pos : Pos} (hg : Gl X "range") (hm : X.mg "range" = none) (ha : PE X a (tE G X.K E fa)) (hs : starEach [a] X.env = [(false, eval a X.env)] := by rfl) : PI X tg (.Call (.Name "range" p) [a] [] pos) (tI G X.K E (Py.iRng1 fa)) := by
  refine PI_mono (pi_range1 hg hm (xaCons ha xaNil hs) hs) ?_
  rintro σ H Q ⟨m, r, h, rh, rs, o⟩
  refine ⟨m, r, h, rh, rs, ?_⟩
  unfold aCons aNil
  rcases OutI.bindR o with ⟨d, h1, e, o⟩ | ⟨c, fs, h1, e, o⟩
  · rw [e]
    intro m1 H1 v p1 d1
    cases d1 with
    | cons a b =>
      cases b
      cases a with
      | int j =>
        simp only at o
        by_cases hj : small62 j = true
        · rw [if_pos hj] at o
          have hj' : -(2 ^ 62) ≤ j ∧ j < 2 ^ 62 := by simpa [small62] using hj
          have q := it_rng (G := G) (K := X.K) (m0 := m1) (h0 := h1) (H0 := H1) 0 j
          rw [Int.sub_zero] at q
          exact ⟨j, rfl, hj'.1, hj'.2, o m1 H1 _ p1 q⟩
        · rw [if_neg hj] at o; exact o.elim
      | non => exact o.elim
      | bl _ => exact o.elim
      | str _ => exact o.elim
      | tup _ _ => exact o.elim
      | ref _ => exact o.elim
      | scr _ => exact o.elim
      | fn _ => exact o.elim
  · rw [e]; exact o
/-- a list or a tuple, walked -/
theorem pi_seq (hl : PE X l (tE G X.K E fa)) : PI X tg l (fun σ H R => tE G X.K E fa σ H fun x H1 => ∃ a, x = .ref a ∧ ((∃ xs, SqL X.K H1 a xs) ∧ R (Itl X.K a) H1 ∨ (∃ xs, SqT X.K H1 a xs) ∧ R (Itt X.K a) H1)) := by
  refine ⟨fun pins s σ H R I h => ?_⟩
  refine thn (hl.run pins s σ H _ I h) ?_
  rintro v s1 ⟨x, H1, I1, r1, a, e, q⟩
  subst e
  cases r1
  have fp : ∀ b ∈ [s1.heap.objs.size], FpOk X pins H1 b := by
    intro b hb
    have e : b = s1.heap.objs.size := by simpa using hb
    subst e
    exact I1.fpOk (Nat.le_refl _) (I1.hok.fresh (Nat.le_refl _))
  rcases q with ⟨⟨xs, hq⟩, q⟩ | ⟨⟨xs, hq⟩, q⟩
  · obtain ⟨its, rv, p, hz⟩ := I1.list hq
    refine wpAny_pyIter_list p.isList ?_
    exact ⟨s1.heap.objs.size, [s1.heap.objs.size], _, _, H1, rfl, I1.kept (t' := s1.toks) (fun b o e => Heap.get?_push_of_some _ e), turn_list a _, ⟨_, Heap.get?_push_size _ rfl, rfl, rfl⟩, fp, q⟩
  · obtain ⟨its, rv, p, hz⟩ := I1.tuple hq
    refine wpAny_pyIter_tuple (show s1.heap.IsTuple a its.toArray from p) ?_
    exact ⟨s1.heap.objs.size, [s1.heap.objs.size], _, _, H1, rfl, I1.kept (t' := s1.toks) (fun b o e => Heap.get?_push_of_some _ e), turn_tuple a _, ⟨_, Heap.get?_push_size _ rfl, rfl, rfl⟩, fp, q⟩
/-- what a source is in the layer -/
theorem src_ok {m : Nat → Addr} {h : LH} {H : Hp} {d : D} {v : V} {s : Src} (rh : RelH G X.K m h H) (rd : RelD X.K m h.length H d v) (e : srcOf d h = some s) :
    ∃ a, v = .ref a ∧ ((∃ xs, SqL X.K H a xs) ∧ ItRel G X.K m h H (Itl X.K a) s ∨ (∃ xs, SqT X.K H a xs) ∧ ItRel G X.K m h H (Itt X.K a) s) := by
  cases rd with
  | non => cases e
  | bl _ => cases e
  | int _ => cases e
  | str _ => cases e
  | @tup a xs vs ht rs => cases e; exact ⟨a, rfl, .inr ⟨⟨vs, ht.sq⟩, it_tup ht.sq rs⟩⟩
  | @scr a ns hs => cases e; exact ⟨a, rfl, .inl ⟨⟨_, hs.sq⟩, it_scr hs⟩⟩
  | fn _ => cases e
  | @ref n hn =>
    cases q : h[n]? with
    | none => simp only [srcOf, q] at e; cases e
    | some o =>
      cases o with
      | ins c fs => simp only [srcOf, q] at e; cases e
      | dct kv => simp only [srcOf, q] at e; cases e
      | hid _ => simp only [srcOf, q] at e; cases e
      | lst xs =>
        simp only [srcOf, q] at e
        cases e
        obtain ⟨vs, e1, r⟩ := rh.obj n _ q
        exact ⟨m n, rfl, .inl ⟨⟨vs, SqL.of e1⟩, it_list hn⟩⟩
theorem iSeq_ok (hl : PE X l (tE G X.K E fa)) : PI X tg l (tI G X.K E (iSeq fa)) := by
  refine PI_mono (pi_seq hl) ?_
  rintro σ H Q ⟨m, r, h, rh, rs, o⟩
  refine ⟨m, r, h, rh, rs, ?_⟩
  rcases OutI.bindR o with ⟨d, h1, e, o⟩ | ⟨c, fs, h1, e, o⟩
  · rw [e]
    intro m1 H1 v p1 d1
    cases q : srcOf d h1 with
    | none => simp only [q] at o; exact o.elim
    | some s =>
      simp only [q] at o
      obtain ⟨a, ev, z⟩ := src_ok p1.rel d1 q
      refine ⟨a, ev, ?_⟩
      rcases z with ⟨z1, z2⟩ | ⟨z1, z2⟩
      · exact .inl ⟨z1, o m1 H1 _ p1 z2⟩
      · exact .inr ⟨z1, o m1 H1 _ p1 z2⟩
  · rw [e]; exact o
/-! ### while -/
variable {body : List Stmt} {tc : EX} {tb : SX} {g : GX} {pos : Pos} {c : Expr}
/-! ### for -/
theorem zFor (hp : PassesOwn (model X.prog X.w) X.A X.env X.xe) (hc : X.calm = true) (hi : PI X tg iter (tI G X.K E fi)) (hg : PG X tg (tG G X.K E g)) (hb : PSs X body (tS G X.K E tb))
    (hs : ∀ x, foldedSetIterable iter X.env x = pure x := by intro _; rfl) : PS X (.For tg iter body [] pos) (tS G X.K E (sFor fi g tb)) := by
  refine PS_mono (ps_for hp hc hi hg hb hs) ?_
  rintro Z σ H ⟨m, r, h, rh, rs, o⟩
  refine ⟨m, r, h, rh, rs, ?_⟩
  rcases OutS.toR o with ⟨src, h1, e, o⟩ | ⟨c, fs, h1, e, o⟩
  · rw [e]
    intro m1 H1 J p1 ir
    refine ⟨fun i n σ H => ∃ m r h, Post G X.K m1 h1.length H1 m h H ∧ RelS X.K m h.length H r σ ∧ OutS G X.K E m h.length H Z (forX src g tb n i r h), ⟨fuelN, m1, r, h1, Post.refl p1.rel, p1.s rs, OutS.later p1 o⟩, ?_⟩
    rintro i n σ H ⟨m, r, h, p, rs, o⟩
    cases n with
    | zero => exact o.elim
    | succ n =>
      have it := ir m h H i p
      unfold forX at o
      cases q : srcAt src h i with
      | none => simp only [q] at o; exact o.elim
      | some w =>
        cases w with
        | none =>
          simp only [q] at o it
          exact .inl ⟨it, o m H σ (Post.refl p.rel) rs⟩
        | some d =>
          simp only [q] at o it
          refine .inr ⟨it.1, fun σ' H' => ∃ m r h, Post G X.K m1 h1.length H1 m h H' ∧ RelS X.K m h.length H' r σ' ∧ OutS G X.K E m h.length H' Z (forX src g tb n (i + 1) r h), fun σ' H' q => ⟨n, Nat.lt_succ_self n, q⟩, fun x H' y => ?_⟩
          obtain ⟨p2, rd⟩ := it.2 x H' y
          refine ⟨m, r, h, d, p2.rel, p2.s rs, rd, ?_⟩
          have o := OutS.later p2 o
          cases z : g d r h with
          | nx r1 h2 =>
            rw [z] at o
            intro m3 H3 s3 p3 rs3
            refine ⟨m3, r1, h2, p3.rel, rs3, ?_⟩
            have o := OutS.later p3 o
            simp only at o
            have pp := p.trans (p2.trans p3)
            cases w : tb r1 h2 with
            | nx r2 h4 => simp only [w] at o; exact fun m4 H4 s4 p4 rs4 => ⟨m4, r2, h4, pp.trans p4, rs4, OutS.later p4 o⟩
            | ct r2 h4 => simp only [w] at o; exact fun m4 H4 s4 p4 rs4 => ⟨m4, r2, h4, pp.trans p4, rs4, OutS.later p4 o⟩
            | bk r2 h4 => simp only [w] at o; exact o
            | rt d h4 => simp only [w] at o; exact o
            | exc c fs h4 => simp only [w] at o; exact o
            | stuck => simp only [w] at o; exact o.elim
          | ct r2 h4 => simp only [z] at o; exact o.elim
          | bk r2 h4 => simp only [z] at o; exact o.elim
          | rt d h4 => simp only [z] at o; exact o.elim
          | exc c fs h4 => simp only [z] at o; exact o.elim
          | stuck => simp only [z] at o; exact o.elim
  · rw [e]; exact o
/-! ### comprehensions -/
theorem wipe_rel {K : PySem.W.Frag} {m : Nat → Addr} {N : Nat} {H : Hp} {r : LS} {σ : L2.St} (rs : RelS K m N H r σ) : ∀ vs : List Nat, RelS K m N H (wipeL r vs) (wipe σ vs)
  | [] => rs
  | v :: vs => RelS.set0 v (wipe_rel rs vs)
theorem wipe_comm (σ : L2.St) (v : Nat) : ∀ vs : List Nat, wipe (σ.set v none) vs = (wipe σ vs).set v none
  | [] => rfl
  | u :: us => by
    unfold wipe
    rw [wipe_comm σ v us]
    by_cases h : u = v
    · subst h; rfl
    · exact List.set_comm _ _ (Ne.symm h)
theorem wipe_wipe (σ : L2.St) : ∀ vs : List Nat, wipe (wipe σ vs) vs = wipe σ vs
  | [] => rfl
  | v :: vs => by
    show (wipe ((wipe σ vs).set v none) vs).set v none = (wipe σ vs).set v none
    rw [wipe_comm, List.set_set, wipe_wipe σ vs]
/-- the targets of a comprehension -/
def TgOk (X : Cx) (vs : List Nat) (gg : TG) : Prop :=
  ∀ (m : Nat → Addr) (h : LH) (H : Hp) (r r1 : LS) (σ : L2.St) (d : D) (x : V) (Q : L2.St → Hp → Prop), RelS X.K m h.length H r σ → RelD X.K m h.length H d x → tgt vs d r = some r1 → (∀ σ1, RelS X.K m h.length H r1 σ1 → wipe σ1 vs = wipe σ vs → Q σ1 H) → gg x σ H Q
theorem tg1 (i : Nat) : TgOk X [i] (gName i) := by
  intro m h H r r1 σ d x Q rs rd e q
  cases e
  exact q _ (RelS.set rd i rs) (by show ((σ.set i (some x)).set i none) = σ.set i none; rw [List.set_set])
theorem tg2 (i j : Nat) (hij : i ≠ j) : TgOk X [i, j] (gTup X.K 2 (gCons (gName i) (gCons (gName j) gNil))) := by
  intro m h H r r1 σ d x Q rs rd e q
  cases rd with
  | non => cases e
  | bl _ => cases e
  | int _ => cases e
  | str _ => cases e
  | ref _ => cases e
  | scr _ => cases e
  | fn _ => cases e
  | @tup a xs vs ht rds =>
    cases rds with
    | nil => cases e
    | @cons d1 v1 ds1 vs1 a1 b1 =>
      cases b1 with
      | nil => cases e
      | @cons d2 v2 ds2 vs2 a2 b2 =>
        cases b2 with
        | cons _ _ => cases e
        | nil =>
          cases e
          refine ⟨a, _, rfl, ht.sq, rfl, v1, [v2], rfl, v2, [], rfl, rfl, ?_⟩
          refine q _ (RelS.set a2 j (RelS.set a1 i rs)) ?_
          show ((((σ.set i (some v1)).set j (some v2)).set j none).set i none) = (σ.set j none).set i none
          rw [List.set_set, List.set_comm _ _ hij, List.set_set]
/-- the turns of a comprehension, behind the source -/
theorem comp_body {gg : TG} {ft fe : EX} {vs : List Nat} (hgg : TgOk X vs gg) {σ : L2.St} {Q : VK} {m1 : Nat → Addr} {h1 : LH} {H1 : Hp} {r : LS} {J : It} {src : Src} (rel1 : RelH G X.K m1 h1 H1) (rs1 : RelS X.K m1 h1.length H1 r σ) (ir : ItRel G X.K m1 h1 H1 J src)
    (o : Out G X.K E m1 h1.length H1 Q ((compX src vs ft fe fuelN 0 [] (wipeL r vs) h1).bind fun acc h3 => .ok (.ref h3.length) (h3 ++ [.lst acc]))) : ∀ D, H1 D = none → ∃ W : Nat → Nat → Hp → Prop, (∃ m, W 0 m (upd H1 D (.lst []))) ∧ ∀ i m H, W i m H →
    (J.stop i H ∧ Q (.ref D) H) ∨ (J.go i H ∧ ∃ Nx : Hp → Prop, (∀ H', Nx H' → ∃ m', m' < m ∧ W (i + 1) m' H') ∧ ∀ x H', J.yld i H x H' → gg x (L2.wipe σ vs) H' fun σ2 H2 => L2.wipe σ2 vs = L2.wipe σ vs ∧ tT G X.K E0 ft σ2 H2 fun b H3 =>
      if b = true then tE G X.K E0 fe σ2 H3 fun y H4 => ∃ acc, H4 D = some (.lst acc) ∧ acc.length < sizeLine ∧ Nx (upd H4 D (.lst (acc ++ [y]))) else Nx H3) := by
  intro D hD
  have rw1 : RelS X.K m1 h1.length H1 (wipeL r vs) (wipe σ vs) := wipe_rel rs1 vs
  -- the state within the loop: the new list at D is no object of the logical heap
  have pD := rel1.newT (u := HO.lst []) hD
  have outD : ∀ i, i < h1.length → m1 i ≠ D := fun i hi => rel1.ne hi hD
  refine ⟨fun i n H' => ∃ m2 h2 acc vs2, Post G X.K m1 h1.length H1 m2 h2 H' ∧ (∀ i, i < h2.length → m2 i ≠ D) ∧ H' D = some (.lst vs2) ∧ RelDs X.K m2 h2.length H' acc vs2 ∧
    Out G X.K E m1 h1.length H1 Q ((compX src vs ft fe n i acc (wipeL r vs) h2).bind fun acc h3 => .ok (.ref h3.length) (h3 ++ [.lst acc])), ⟨fuelN, m1, h1, [], [], pD, outD, upd_same, .nil, o⟩, ?_⟩
  rintro i n H' ⟨m2, h2, acc, vs2, p2, out, hD2, racc, o⟩
  have ir2 := ir m2 h2 H' i p2
  cases n with
  | zero => exact o.elim
  | succ n =>
    unfold compX at o
    cases q : srcAt src h2 i with
    | none => simp only [q] at o; exact o.elim
    | some w =>
      cases w with
      | none =>
        simp only [q] at o ir2
        refine .inl ⟨ir2, ?_⟩
        -- the end: the list becomes a logical object
        have rel3 : RelH G X.K (ext m2 h2.length D) (h2 ++ [O.lst acc]) H' := by
          have ag : ∀ i, i < h2.length → ext m2 h2.length D i = m2 i := fun i hi => ext_ne (Nat.ne_of_lt hi)
          refine ⟨fun k ob ek => ?_, fun a b ha hb eab => ?_, p2.rel.tab⟩
          · by_cases hk : k < h2.length
            · rw [List.getElem?_append_left hk] at ek
              rw [ag k hk]
              exact (p2.rel.obj k ob ek).mono ag (by simp) (TK.refl _) rfl
            · have : k = h2.length := by
                have := (List.getElem?_eq_some_iff.mp ek).1
                simp at this
                omega
              subst this
              simp at ek
              subst ek
              rw [ext_self]
              exact ⟨vs2, hD2, racc.mono ag (by simp) (TK.refl _)⟩
          · simp at ha hb
            by_cases h1' : a < h2.length
            · by_cases h2' : b < h2.length
              · rw [ag a h1', ag b h2'] at eab
                exact p2.rel.inj a b h1' h2' eab
              · have : b = h2.length := by omega
                subst this
                rw [ag a h1', ext_self] at eab
                exact absurd eab (out a h1')
            · have h1'' : a = h2.length := by omega
              subst h1''
              by_cases h2' : b < h2.length
              · rw [ag b h2', ext_self] at eab
                exact absurd eab.symm (out b h2')
              · omega
        have pp := p2
        have fin : Post G X.K m1 h1.length H1 (ext m2 h2.length D) (h2 ++ [O.lst acc]) H' := by
          refine ⟨fun i hi => ?_, by have := p2.len; simp; omega, pp.tk, rel3, fun i h1' h2' => ?_, pp.fr⟩
          · have := p2.len
            rw [ext_ne (by omega)]
            exact p2.agr i hi
          · by_cases hk : i < h2.length
            · rw [ext_ne (Nat.ne_of_lt hk)]
              exact pp.new i h1' hk
            · have : i = h2.length := by simp at h2'; omega
              subst this
              rw [ext_self]; exact fun o e => by rw [hD] at e; cases e
        have z : RelD X.K (ext m2 h2.length D) (h2 ++ [O.lst acc]).length H' (.ref h2.length) (.ref (ext m2 h2.length D h2.length)) := .ref (by simp)
        rw [ext_self] at z
        exact o _ H' _ fin z
      | some d =>
        simp only [q] at o ir2
        refine .inr ⟨ir2.1, fun H3 => ∃ m2 h2 acc vs2, Post G X.K m1 h1.length H1 m2 h2 H3 ∧ (∀ i, i < h2.length → m2 i ≠ D) ∧ H3 D = some (.lst vs2) ∧ RelDs X.K m2 h2.length H3 acc vs2 ∧
          Out G X.K E m1 h1.length H1 Q ((compX src vs ft fe n (i + 1) acc (wipeL r vs) h2).bind fun acc h3 => .ok (.ref h3.length) (h3 ++ [.lst acc])), fun H3 z => ⟨n, Nat.lt_succ_self n, z⟩, fun x H3 y => ?_⟩
        obtain ⟨p3, rd⟩ := ir2.2 x H3 y
        have hD3 : H3 D = some (.lst vs2) := p3.fr D _ hD2 (fun _ z => nomatch z) out
        have p23 := p2.trans p3
        cases zt : tgt vs d (wipeL r vs) with
        | none => simp only [zt] at o; exact o.elim
        | some r1 =>
          simp only [zt] at o
          refine hgg m2 h2 H3 (wipeL r vs) r1 (wipe σ vs) d x _ (p23.s rw1) rd zt ?_
          intro σ1 rs1 hw
          refine ⟨?_, m2, r1, h2, p3.rel, rs1, ?_⟩
          · rw [hw]
            exact wipe_wipe σ vs
          · cases z1 : ft r1 h2 with
            | stuck => simp only [z1] at o; exact o.elim
            | exc c fs h4 => simp only [z1] at o; exact o.elim
            | ok y1 h4 =>
              simp only [z1] at o
              cases z2 : truth y1 h4 with
              | none => simp only [z2] at o; exact o.elim
              | some b =>
                refine ⟨b, z2, fun m4 H4 p4 => ?_⟩
                have out4 : ∀ k, k < h4.length → m4 k ≠ D := fun k hk => by
                  by_cases hk2 : k < h2.length
                  · rw [p4.agr k hk2]; exact out k hk2
                  · intro e
                    obtain ⟨ps, z⟩ := p4.new k (Nat.not_lt.mp hk2) hk _ (by rw [e]; exact hD3)
                    cases z
                have hD4 : H4 D = some (.lst vs2) := p4.fr D _ hD3 (fun _ z => nomatch z) out
                have racc4 := p4.ds (p3.ds racc)
                cases b with
                | false =>
                  simp only [z2] at o
                  exact iteF ⟨m4, h4, acc, vs2, p23.trans p4, out4, hD4, racc4, o⟩
                | true =>
                  simp only [z2] at o
                  refine iteT ⟨m4, r1, h4, p4.rel, p4.s rs1, ?_⟩
                  cases z3 : fe r1 h4 with
                  | stuck => simp only [z3] at o; exact o.elim
                  | exc c fs h5 => simp only [z3] at o; exact o.elim
                  | ok y h5 =>
                    simp only [z3] at o
                    by_cases hl : acc.length < sizeLine
                    · rw [if_pos hl] at o
                      intro m5 H5 yv p5 ry
                      have hD5 : H5 D = some (.lst vs2) := p5.fr D _ hD4 (fun _ z => nomatch z) out4
                      have out5 : ∀ k, k < h5.length → m5 k ≠ D := fun k hk => by
                        by_cases hk2 : k < h4.length
                        · rw [p5.agr k hk2]; exact out4 k hk2
                        · intro e
                          obtain ⟨ps, z⟩ := p5.new k (Nat.not_lt.mp hk2) hk _ (by rw [e]; exact hD4)
                          cases z
                      refine ⟨vs2, hD5, by rw [← racc.length]; exact hl, ?_⟩
                      have tk : TK X.K H5 (upd H5 D (.lst (vs2 ++ [yv]))) := TK.upd_mut hD5 (fun _ z => nomatch z) (fun _ _ z => nomatch z)
                      have rel6 : RelH G X.K m5 h5 (upd H5 D (.lst (vs2 ++ [yv]))) := ⟨fun k ob ek => (p5.rel.obj k ob ek).mono (fun _ _ => rfl) (Nat.le_refl _) tk (by rw [upd_ne (out5 k (List.getElem?_eq_some_iff.mp ek).1)]), p5.rel.inj, tabs_upd p5.rel.tab hD5 (fun _ z => nomatch z) (fun _ z => nomatch z)⟩
                      have p25 := p23.trans (p4.trans p5)
                      refine ⟨m5, h5, acc ++ [y], vs2 ++ [yv], ⟨p25.agr, p25.len, p25.tk.trans tk, rel6, p25.new, fun a u ea nt hx => by rw [upd_ne (ne_of_none ea hD)]; exact p25.fr a u ea nt hx⟩, out5, upd_same, ((p5.ds racc4).append (.cons ry .nil)).mono (fun _ _ => rfl) (Nat.le_refl _) tk, o⟩
                    · rw [if_neg hl] at o; exact o.elim
theorem toComp {gg : TG} {ft fe : EX} {vs : List Nat} (hgg : TgOk X vs gg) {σ : L2.St} {H : Hp} {Q : VK} (t : tE G X.K E (eComp vs fi ft fe) σ H Q) : tLc (tI G X.K E fi) gg (tT G X.K E0 ft) (tE G X.K E0 fe) vs σ H Q := by
  obtain ⟨m, r, h, rh, rs, o⟩ := t
  refine ⟨m, r, h, rh, rs, ?_⟩
  rcases Out.bindR o with ⟨src, h1, e, o⟩ | ⟨c, fs, h1, e, o⟩
  · rw [e]
    intro m1 H1 J p1 ir
    exact comp_body hgg p1.rel (p1.s rs) ir (Out.later p1 o)
  · rw [e]; exact o
theorem xComp {elt : Expr} {ifs : List Expr} {scope : Scope} {own : List (Str × Nat)} {gg : TG} {ft fe : EX} {vs : List Nat} (hc : X.calm = true) (hN : X.N.Nodup) (hi : PI X tg iter (tI G X.K E fi)) (ok : BlkOk X.N X.env.scope scope own) (hv : own.map (·.2) = vs)
    (hgg : TgOk X vs gg)
    (hg : ∀ (s : Shared) (H : Hp) (C : Addr) (cl : List (Str × Addr)) (fp : List Addr), PG (X.blk s H scope (compEnvC scope cl C X.env) fp) tg gg)
    (ht : ∀ (s : Shared) (H : Hp) (C : Addr) (cl : List (Str × Addr)) (fp : List Addr), PTs (X.blk s H scope (compEnvC scope cl C X.env) fp) ifs (tT G X.K E0 ft))
    (he : ∀ (s : Shared) (H : Hp) (C : Addr) (cl : List (Str × Addr)) (fp : List Addr), PE (X.blk s H scope (compEnvC scope cl C X.env) fp) elt (tE G X.K E0 fe))
    (hs : ∀ x, foldedSetIterable iter X.env x = pure x := by intro _; rfl) : PE X (.ListComp elt [⟨tg, iter, ifs, 0⟩] scope pos) (tE G X.K E (eComp vs fi ft fe)) := by
  subst hv
  refine PE_mono (pe_lc hc hN hi ok hg ht he hs) ?_
  intro σ H Q t
  exact toComp hgg t
end
end Py

set_option Elab.async false
set_option linter.all false
set_option maxRecDepth 100000
namespace Py
open PySem PySem.Spec PyProof.Rows L2
section
variable {X : Cx} {G : Gam} {E : XK}
/-! ### operators of ints -/
theorem opI_ok {f : Value → Value → Sem Value} {g : Int → Int → D} {gv : Int → Int → V} (ho : OpR X f (rI0 gv)) (hg : ∀ m N H i j, RelD X.K m N H (g i j) (gv i j)) : OpR X f (r2 G X.K E (opI g)) := by
  intro pins s σ H x y v u Q I rx ry ⟨m, h, dx, dy, rh, d1, d2, o⟩
  cases d1 <;> try exact o.elim
  cases d2 <;> try exact o.elim
  exact ho pins s σ H _ _ v u Q I rx ry ⟨_, _, rfl, rfl, o m H _ (Post.refl rh) (hg _ _ _ _ _)⟩
theorem sub_ok : OpR X (binaryOp .Sub) (r2 G X.K E oSub) := opI_ok op_sub fun _ _ _ _ _ => .int _
theorem lt_ok : OpR X (compareOp .Lt) (r2 G X.K E oLt) := opI_ok op_lt fun _ _ _ _ _ => .bl _
theorem le_ok : OpR X (compareOp .LtE) (r2 G X.K E oLe) := opI_ok op_le fun _ _ _ _ _ => .bl _
theorem gt_ok : OpR X (compareOp .Gt) (r2 G X.K E oGt) := opI_ok op_gt fun _ _ _ _ _ => .bl _
theorem isB_opI {p : Int → Int → Bool} : IsB2 (opI fun i j => .bl (p i j)) := by
  intro x y h d h' e
  cases x <;> cases y <;> simp only [opI] at e <;> cases e
  exact ⟨_, rfl⟩
theorem isB_lt : IsB2 oLt := isB_opI
theorem isB_le : IsB2 oLe := isB_opI
theorem isB_gt : IsB2 oGt := isB_opI
theorem mod_ok : OpR X (binaryOp .Mod) (r2 G X.K E oMod) := by
  intro pins s σ H x y v u Q I rx ry ⟨m, h, dx, dy, rh, d1, d2, o⟩
  cases d1 <;> try exact o.elim
  cases d2 <;> try exact o.elim
  rename_i i j
  simp only [oMod] at o
  by_cases hj : 0 < j
  · rw [if_pos hj] at o
    exact op_mod pins s σ H _ _ v u Q I rx ry ⟨_, _, rfl, rfl, hj, o m H _ (Post.refl rh) (.int _)⟩
  · rw [if_neg hj] at o; exact o.elim
theorem div_ok : OpR X (binaryOp .FloorDiv) (r2 G X.K E oDiv) := by
  intro pins s σ H x y v u Q I rx ry ⟨m, h, dx, dy, rh, d1, d2, o⟩
  cases d1 <;> try exact o.elim
  cases d2 <;> try exact o.elim
  rename_i i j
  simp only [oDiv] at o
  by_cases hj : 0 < j ∧ j < 1073741824
  · rw [if_pos hj] at o
    exact op_fdiv pins s σ H _ _ v u Q I rx ry ⟨_, _, rfl, rfl, hj, o m H _ (Post.refl rh) (.int _)⟩
  · rw [if_neg hj] at o; exact o.elim
theorem pow_ok : OpR X (binaryOp .Pow) (r2 G X.K E oPow) := by
  intro pins s σ H x y v u Q I rx ry ⟨m, h, dx, dy, rh, d1, d2, o⟩
  cases d1 <;> try exact o.elim
  cases d2 <;> try exact o.elim
  rename_i i j
  simp only [oPow] at o
  by_cases hj : 0 ≤ j ∧ j ≤ 1000000 ∧ i.natAbs < 2 ^ 64
  · rw [if_pos hj] at o
    exact op_pow pins s σ H _ _ v u Q I rx ry ⟨_, _, rfl, rfl, hj, o m H _ (Post.refl rh) (.int _)⟩
  · rw [if_neg hj] at o; exact o.elim
/-- a new list -/
theorem out_lst {m : Nat → Addr} {h : LH} {H : Hp} {Q : VK} {xs : List D} {vs : List V} (rh : RelH G X.K m h H) (rd : RelDs X.K m h.length H xs vs) (o : Out G X.K E m h.length H Q (.ok (.ref h.length) (h ++ [.lst xs]))) (p : Addr) (hp : H p = none) : Q (.ref p) (upd H p (.lst vs)) := by
  have q := rh.new (o := .lst xs) (u := .lst vs) hp (fun m' ag e => ⟨vs, upd_same, rd.mono ag (Nat.le_succ _) (TK.upd_new hp)⟩)
  have z : RelD X.K (ext m h.length p) (h ++ [O.lst xs]).length (upd H p (.lst vs)) (.ref h.length) (.ref (ext m h.length p h.length)) := .ref (by simp)
  rw [ext_self] at z
  exact o _ _ _ q z
/-- a new tuple -/
theorem out_tup {m : Nat → Addr} {h : LH} {H : Hp} {Q : VK} {xs : List D} {vs : List V} (rh : RelH G X.K m h H) (rd : RelDs X.K m h.length H xs vs) (o : Out G X.K E m h.length H Q (.ok (.tup xs) h)) (p : Addr) (ob : Obj) (hp : H p = none) (hd : ob.dict = none) : Q (.ref p) (upd H p (.frz ob (.tup vs))) := by
  have q := rh.newT (u := .frz ob (.tup vs)) hp
  exact o m _ _ q (.tup (sx_new hd) (q.ds rd))
/-- .. that begins with a whole number -/
theorem out_tupI {m : Nat → Addr} {h : LH} {H : Hp} {Q : VK} {i : Int} {xs : List D} {vs : List V} (rh : RelH G X.K m h H) (rd : RelDs X.K m h.length H xs (.int i :: vs)) (o : Out G X.K E m h.length H Q (.ok (.tup xs) h)) (p : Addr) (hp : H p = none) : Q (.ref p) (upd H p (.tup (.int i :: vs))) := by
  have q := rh.newT (u := .tup (.int i :: vs)) hp
  exact o m _ _ q (.tup ⟨SqT.of upd_same, .inr xn_int⟩ (q.ds rd))
theorem lst_at {m : Nat → Addr} {h : LH} {H : Hp} {n : Nat} {xs : List D} (rh : RelH G X.K m h H) (e : h[n]? = some (.lst xs)) : ∃ vs, H (m n) = some (.lst vs) ∧ RelDs X.K m h.length H xs vs := rh.obj n _ e
theorem RelDs.rep {K : PySem.W.Frag} {m : Nat → Addr} {N : Nat} {H : Hp} {xs : List D} {vs : List V} (r : RelDs K m N H xs vs) : ∀ k : Nat, RelDs K m N H (List.replicate k xs).flatten (List.replicate k vs).flatten
  | 0 => .nil
  | k + 1 => by
    rw [List.replicate_succ, List.replicate_succ, List.flatten_cons, List.flatten_cons]
    exact r.append (RelDs.rep r k)
theorem mul_ok : OpR X (binaryOp .Mult) (r2 G X.K E oMul) := by
  intro pins s σ H x y v u Q I rx ry ⟨m, h, dx, dy, rh, d1, d2, o⟩
  cases d1 with
  | int i =>
    cases d2 <;> try exact o.elim
    rename_i j
    simp only [oMul] at o
    by_cases hj : (small i || small j) = true
    · rw [if_pos hj] at o
      have hc : CMul i j := by
        simp only [small, Bool.or_eq_true, Bool.and_eq_true, decide_eq_true_eq] at hj
        exact hj
      exact op_mul pins s σ H _ _ v u Q I rx ry ⟨_, _, rfl, rfl, hc, o m H _ (Post.refl rh) (.int _)⟩
    · rw [if_neg hj] at o; exact o.elim
  | @ref n hn =>
    cases d2 <;> try exact o.elim
    rename_i k
    simp only [oMul] at o
    cases q : h[n]? with
    | none => simp only [q] at o; exact o.elim
    | some ob =>
      cases ob with
      | ins c fs => simp only [q] at o; exact o.elim
      | dct kv => simp only [q] at o; exact o.elim
      | hid _ => simp only [q] at o; exact o.elim
      | lst xs =>
        simp only [q] at o
        by_cases hk : xs.length * k.toNat ≤ sizeLine ∧ -(2 ^ 63) ≤ k ∧ k < 2 ^ 63
        · rw [if_pos hk] at o
          obtain ⟨vs, e1, rv⟩ := lst_at rh q
          refine op_rep pins s σ H _ _ v u Q I rx ry ⟨m n, k, vs, rfl, rfl, e1, hk.2.1, hk.2.2, by rw [← rv.length]; exact hk.1, ?_⟩
          exact out_lst rh (rv.rep k.toNat) o
        · rw [if_neg hk] at o; exact o.elim
  | non => exact o.elim
  | bl _ => exact o.elim
  | str _ => exact o.elim
  | tup _ _ => exact o.elim
  | scr _ => exact o.elim
  | fn _ => exact o.elim
theorem add_ok : OpR X (binaryOp .Add) (r2 G X.K E oAdd) := by
  intro pins s σ H x y v u Q I rx ry ⟨m, h, dx, dy, rh, d1, d2, o⟩
  cases d1 with
  | int i =>
    cases d2 <;> try exact o.elim
    exact op_add pins s σ H _ _ v u Q I rx ry ⟨_, _, rfl, rfl, o m H _ (Post.refl rh) (.int _)⟩
  | str i =>
    cases d2 <;> try exact o.elim
    rename_i j
    simp only [oAdd] at o
    by_cases hl : i.length + j.length ≤ sizeLine
    · rw [if_pos hl] at o
      exact op_add_str pins s σ H _ _ v u Q I rx ry ⟨_, _, rfl, rfl, hl, o m H _ (Post.refl rh) (.str _)⟩
    · rw [if_neg hl] at o; exact o.elim
  | @tup a xs vs ht rs =>
    cases d2 <;> try exact o.elim
    rename_i b ys ws hb rt
    simp only [oAdd] at o
    by_cases hl : xs.length + ys.length ≤ sizeLine
    · rw [if_pos hl] at o
      refine op_catF pins s σ H _ _ v u Q I rx ry ⟨a, b, vs, ws, rfl, rfl, ht.sq, hb.sq, by rw [← rs.length, ← rt.length]; exact hl, fun e => ?_, fun _ e => ?_, fun p ob hp hd => out_tup rh (rs.append rt) o p ob hp hd⟩
      · subst e
        cases rs
        exact o m H _ (Post.refl rh) (.tup hb rt)
      · subst e
        cases rt
        rw [List.append_nil] at o
        exact o m H _ (Post.refl rh) (.tup ht rs)
    · rw [if_neg hl] at o; exact o.elim
  | @ref n hn =>
    cases d2 <;> try exact o.elim
    rename_i k hk
    simp only [oAdd] at o
    cases q : h[n]? with
    | none => simp only [q] at o; exact o.elim
    | some ob =>
      cases ob with
      | ins c fs => simp only [q] at o; exact o.elim
      | dct kv => simp only [q] at o; exact o.elim
      | hid _ => simp only [q] at o; exact o.elim
      | lst xs =>
        cases q2 : h[k]? with
        | none => simp only [q, q2] at o; exact o.elim
        | some ob2 =>
          cases ob2 with
          | ins c fs => simp only [q, q2] at o; exact o.elim
          | dct kv => simp only [q, q2] at o; exact o.elim
          | hid _ => simp only [q, q2] at o; exact o.elim
          | lst ys =>
            simp only [q, q2] at o
            by_cases hl : xs.length + ys.length ≤ sizeLine
            · rw [if_pos hl] at o
              obtain ⟨vs, e1, rv⟩ := lst_at rh q
              obtain ⟨ws, e2, rw'⟩ := lst_at rh q2
              exact op_cat pins s σ H _ _ v u Q I rx ry ⟨m n, m k, vs, ws, rfl, rfl, e1, e2, by rw [← rv.length, ← rw'.length]; exact hl, out_lst rh (rv.append rw') o⟩
            · rw [if_neg hl] at o; exact o.elim
  | non => exact o.elim
  | bl _ => exact o.elim
  | scr _ => exact o.elim
  | fn _ => exact o.elim
/-! ### sequences -/
theorem seq_okX {m : Nat → Addr} {h : LH} {H : Hp} {d : D} {v : V} {xs : List D} (rh : RelH G X.K m h H) (rd : RelD X.K m h.length H d v) (e : seqD d h = some xs) :
    ∃ a vs, v = .ref a ∧ (SqL X.K H a vs ∨ SqX X.K H a vs) ∧ RelDs X.K m h.length H xs vs := by
  cases rd with
  | non => cases e
  | bl _ => cases e
  | int _ => cases e
  | str _ => cases e
  | @tup a ys vs ht rs => cases e; exact ⟨a, vs, rfl, .inr ht, rs⟩
  | @scr a ns hs => cases e; exact ⟨a, _, rfl, .inl hs.sq, RelDs.ints ns⟩
  | fn _ => cases e
  | @ref n hn =>
    cases q : h[n]? with
    | none => simp only [seqD, q] at e; cases e
    | some ob =>
      cases ob with
      | ins c fs => simp only [seqD, q] at e; cases e
      | dct kv => simp only [seqD, q] at e; cases e
      | hid _ => simp only [seqD, q] at e; cases e
      | lst ys =>
        simp only [seqD, q] at e
        cases e
        obtain ⟨vs, e1, rv⟩ := lst_at rh q
        exact ⟨m n, vs, rfl, .inl (SqL.of e1), rv⟩
theorem seq_ok {m : Nat → Addr} {h : LH} {H : Hp} {d : D} {v : V} {xs : List D} (rh : RelH G X.K m h H) (rd : RelD X.K m h.length H d v) (e : seqD d h = some xs) :
    ∃ a vs, v = .ref a ∧ (SqL X.K H a vs ∨ SqT X.K H a vs) ∧ RelDs X.K m h.length H xs vs := by
  obtain ⟨a, vs, q1, q2, q3⟩ := seq_okX rh rd e
  exact ⟨a, vs, q1, q2.imp id SqX.sq, q3⟩
theorem flat_ok {m : Nat → Addr} {N : Nat} {H : Hp} {d : D} {v : V} (rd : RelD X.K m N H d v) (f : flatD d = true) : flatV v = true := by
  cases rd <;> first | rfl | cases f
theorem eqF_ok {m : Nat → Addr} {N : Nat} {H : Hp} {d d' : D} {v v' : V} (rd : RelD X.K m N H d v) (rd' : RelD X.K m N H d' v') (f : flatD d = true) (f' : flatD d' = true) : eqV v v' = eqF d d' := by
  cases rd <;> cases rd' <;> first | rfl | exact absurd f Bool.false_ne_true | exact absurd f' Bool.false_ne_true
theorem flats_ok {m : Nat → Addr} {N : Nat} {H : Hp} : ∀ {xs : List D} {vs : List V}, RelDs X.K m N H xs vs → xs.all flatD = true → vs.all flatV = true
  | _, _, .nil, _ => rfl
  | _, _, .cons a r, f => by
    simp only [List.all_cons, Bool.and_eq_true] at f ⊢
    exact ⟨flat_ok a f.1, flats_ok r f.2⟩
theorem inV_ok {m : Nat → Addr} {N : Nat} {H : Hp} {x : D} {v : V} (rx : RelD X.K m N H x v) (fx : flatD x = true) : ∀ {xs : List D} {vs : List V}, RelDs X.K m N H xs vs → xs.all flatD = true → inV v vs = xs.any fun z => eqF z x
  | _, _, .nil, _ => rfl
  | _, _, .cons a r, f => by
    simp only [List.all_cons, Bool.and_eq_true] at f
    have ih := inV_ok rx fx r f.2
    unfold inV at ih ⊢
    rw [List.any_cons, List.any_cons, ih, eqF_ok a rx f.1 fx]
theorem in_ok : OpR X (compareOp .In) (r2 G X.K E (oIn false)) := by
  intro pins s σ H x y v u Q I rx ry ⟨m, h, dx, dy, rh, d1, d2, o⟩
  simp only [oIn] at o
  cases q : seqD dy h with
  | none => simp only [q] at o; exact o.elim
  | some xs =>
    simp only [q] at o
    by_cases f : (flatD dx && xs.all flatD) = true
    · rw [if_pos f] at o
      rw [Bool.and_eq_true] at f
      obtain ⟨a, vs, rfl, hs, rs⟩ := seq_ok rh d2 q
      refine op_in_seq pins s σ H _ _ v u Q I rx ry ⟨a, vs, rfl, hs, flat_ok d1 f.1, flats_ok rs f.2, ?_⟩
      rw [inV_ok d1 f.1 rs f.2]
      exact o m H _ (Post.refl rh) (.bl _)
    · rw [if_neg f] at o; exact o.elim
theorem notin_ok : OpR X (compareOp .NotIn) (r2 G X.K E (oIn true)) := by
  intro pins s σ H x y v u Q I rx ry ⟨m, h, dx, dy, rh, d1, d2, o⟩
  simp only [oIn] at o
  cases q : seqD dy h with
  | none => simp only [q] at o; exact o.elim
  | some xs =>
    simp only [q] at o
    by_cases f : (flatD dx && xs.all flatD) = true
    · rw [if_pos f] at o
      rw [Bool.and_eq_true] at f
      obtain ⟨a, vs, rfl, hs, rs⟩ := seq_ok rh d2 q
      refine op_notIn_seq pins s σ H _ _ v u Q I rx ry ⟨a, vs, rfl, hs, flat_ok d1 f.1, flats_ok rs f.2, ?_⟩
      rw [inV_ok d1 f.1 rs f.2]
      exact o m H _ (Post.refl rh) (.bl _)
    · rw [if_neg f] at o; exact o.elim
theorem isB_in (neg : Bool) : IsB2 (oIn neg) := by
  intro x y h d h' e
  simp only [oIn] at e
  split at e
  · split at e
    · cases e; exact ⟨_, rfl⟩
    · cases e
  · cases e
/-! subscripts -/
theorem atI_rel {m : Nat → Addr} {N : Nat} {H : Hp} {xs : List D} {vs : List V} {i : Int} {d : D} (r : RelDs X.K m N H xs vs) (e : atI xs i = some d) : ∃ v, atI vs i = some v ∧ RelD X.K m N H d v := by
  unfold atI at e ⊢
  rw [← r.length]
  cases q : ixN xs.length i with
  | none => rw [q] at e; cases e
  | some j =>
    rw [q] at e
    exact r.get e
theorem ix_ok : IxR X (r2 G X.K E oIx) := by
  intro va sli pins s σ H x y v u Q I rx ry ⟨m, h, dx, dy, rh, d1, d2, o⟩ hpl
  cases d2 <;> try exact o.elim
  rename_i i
  simp only [oIx] at o
  cases q : seqD dx h with
  | none => simp only [q] at o; exact o.elim
  | some xs =>
    simp only [q] at o
    cases z : atI xs i with
    | none => simp only [z] at o; exact o.elim
    | some d =>
      simp only [z] at o
      obtain ⟨a, vs, rfl, hs, rs⟩ := seq_ok rh d1 q
      obtain ⟨w, e1, rw'⟩ := atI_rel rs z
      have fin := o m H _ (Post.refl rh) rw'
      rcases hs with hs | hs
      · exact ix_list va sli pins s σ H _ _ v u Q I rx ry ⟨a, vs, i, w, rfl, rfl, hs, e1, fin⟩ hpl
      · exact ix_tup va sli pins s σ H _ _ v u Q I rx ry ⟨a, vs, i, w, rfl, rfl, hs, e1, fin⟩ hpl
theorem xIx {a b : Expr} {fa fb : EX} {pos : Pos} (ha : PE X a (tE G X.K E fa)) (hb : PE X b (tE G X.K E fb)) (hs : PlainIx b := by exact fun _ _ => rfl) : PE X (.Subscript a b pos) (tE G X.K E (e2 oIx fa fb)) :=
  PE_mono (pe_ix ix_ok ha hb hs) fun σ H Q t => toOp t
/-! ### calls of built-ins -/
theorem bltn {e : Expr} {es : List Expr} {fa : AX} {op : List D → LH → R D} {id : String} {x : Str} {p pos : Pos} (hc : CallR X (.builtin id) (rA G X.K E op)) (hg : Gl X x) (hm : X.mg x = none) (hv : bootBuiltins x = some (.builtin id)) (ha : PA X (e :: es) (tA G X.K E fa))
    (hn : x ≠ "__name__" := by decide) (hdb : (x == ("__debug__" : Str)) = false := by decide) (hs : starEach (e :: es) X.env = (false, eval e X.env) :: starEach es X.env := by rfl) (hpl : (backTo pos (starEach es X.env)).any (·.1) = false := by rfl) : PE X (.Call (.Name x p) (e :: es) [] pos) (tE G X.K E (eA op fa)) :=
  PE_mono (pe_callB hc hg hm hv ha hn hdb hs hpl) fun σ H Q t => toA (fun _ _ _ z => z) t
theorem bltnT {e : Expr} {es : List Expr} {fa : AX} {op : List D → LH → R D} {T : String} {x : Str} {p pos : Pos} (hc : CallR X (.type T) (rA G X.K E op)) (hg : Gl X x) (hm : X.mg x = none) (hv : bootBuiltins x = some (.type T)) (ha : PA X (e :: es) (tA G X.K E fa))
    (hn : x ≠ "__name__" := by decide) (hdb : (x == ("__debug__" : Str)) = false := by decide) (hs : starEach (e :: es) X.env = (false, eval e X.env) :: starEach es X.env := by rfl) (hpl : (backTo pos (starEach es X.env)).any (·.1) = false := by rfl) : PE X (.Call (.Name x p) (e :: es) [] pos) (tE G X.K E (eA op fa)) :=
  PE_mono (pe_callTy hc hg hm hv ha hn hdb hs hpl) fun σ H Q t => toA (fun _ _ _ z => z) t
theorem len_okB : CallR X (.builtin "len") (rA G X.K E bLen) := by
  intro pins s σ H xs us Q I r ⟨m, h, ds, rh, rd, o⟩
  cases rd with
  | nil => exact o.elim
  | @cons d v ds vs a b =>
    cases b with
    | cons _ _ => simp only [bLen] at o; exact o.elim
    | nil =>
      cases q : seqD d h with
      | some ys =>
        obtain ⟨p, ws, rfl, hs, rs⟩ := seq_ok rh a q
        have e : bLen [d] h = .ok (.int (ys.length : Nat)) h := by
          cases d <;> simp only [bLen, q]
          cases q
        rw [e] at o
        refine call_len_seq pins s σ H _ us Q I r ⟨p, ws, rfl, hs, ?_⟩
        rw [← rs.length]
        exact o m H _ (Post.refl rh) (.int _)
      | none =>
        cases a with
        | str x =>
          simp only [bLen] at o
          by_cases hl : x.length ≤ sizeLine
          · rw [if_pos hl] at o
            exact call_len_str pins s σ H _ us Q I r ⟨x, rfl, hl, o m H _ (Post.refl rh) (.int _)⟩
          · rw [if_neg hl] at o; exact o.elim
        | _ => simp only [bLen, q] at o; exact o.elim
theorem abs_okB : CallR X (.builtin "abs") (rA G X.K E bAbs) := by
  intro pins s σ H xs us Q I r ⟨m, h, ds, rh, rd, o⟩
  cases rd with
  | nil => exact o.elim
  | cons a b =>
    cases b with
    | cons _ _ => simp only [bAbs] at o; exact o.elim
    | nil =>
      cases a <;> try exact o.elim
      exact call_abs pins s σ H _ us Q I r ⟨_, rfl, o m H _ (Post.refl rh) (.int _)⟩
theorem int_okB : CallR X (.type "int") (rA G X.K E bInt) := by
  intro pins s σ H xs us Q I r ⟨m, h, ds, rh, rd, o⟩
  cases rd with
  | nil => exact o.elim
  | cons a b =>
    cases b with
    | cons _ _ => simp only [bInt] at o; exact o.elim
    | nil =>
      cases a with
      | int i => exact call_int1 pins s σ H _ us Q I r (.inl ⟨_, rfl, o m H _ (Post.refl rh) (.int _)⟩)
      | bl i => exact call_int1 pins s σ H _ us Q I r (.inr ⟨_, rfl, o m H _ (Post.refl rh) (.int _)⟩)
      | _ => exact o.elim
/-- two ints -/
theorem two_ok {f : Value} {op : List D → LH → R D} {g : Int → Int → D} {gv : Int → Int → V} (ho : CallR X f (fun xs H Q => ∃ i j, xs = [.int i, .int j] ∧ Q (gv i j) H)) (hg : ∀ m N H i j, RelD X.K m N H (g i j) (gv i j))
    (hop : ∀ ds h, (∃ i j, ds = [.int i, .int j] ∧ op ds h = .ok (g i j) h) ∨ op ds h = .stuck) : CallR X f (rA G X.K E op) := by
  intro pins s σ H xs us Q I r ⟨m, h, ds, rh, rd, o⟩
  rcases hop ds h with ⟨i, j, rfl, e⟩ | e
  · rw [e] at o
    cases rd with
    | cons a b =>
      cases b with
      | cons b c =>
        cases c
        cases a
        cases b
        exact ho pins s σ H _ us Q I r ⟨i, j, rfl, o m H _ (Post.refl rh) (hg _ _ _ _ _)⟩
  · rw [e] at o; exact o.elim
theorem two_cases (g : Int → Int → LH → R D) (op : List D → LH → R D) (h1 : ∀ i j h, op [.int i, .int j] h = g i j h) (h2 : ∀ ds h, (∃ i j, ds = [D.int i, .int j]) ∨ op ds h = .stuck) : ∀ ds h, (∃ i j, ds = [D.int i, .int j] ∧ op ds h = g i j h) ∨ op ds h = .stuck := by
  intro ds h
  rcases h2 ds h with ⟨i, j, rfl⟩ | e
  · exact .inl ⟨i, j, rfl, h1 i j h⟩
  · exact .inr e
theorem max_okB (hc : X.calm = true) : CallR X (.builtin "max") (rA G X.K E bMax) := by
  refine two_ok (g := fun i j => .int (if j > i then j else i)) (call_max2 hc) (fun _ _ _ _ _ => .int _) (two_cases (fun i j h => .ok (.int (if j > i then j else i)) h) _ (fun _ _ _ => rfl) ?_)
  intro ds h
  unfold bMax
  split
  · exact .inl ⟨_, _, rfl⟩
  · exact .inr rfl
theorem min_okB (hc : X.calm = true) : CallR X (.builtin "min") (rA G X.K E bMin) := by
  refine two_ok (g := fun i j => .int (if j < i then j else i)) (call_min2 hc) (fun _ _ _ _ _ => .int _) (two_cases (fun i j h => .ok (.int (if j < i then j else i)) h) _ (fun _ _ _ => rfl) ?_)
  intro ds h
  unfold bMin
  split
  · exact .inl ⟨_, _, rfl⟩
  · exact .inr rfl
theorem divmod_okB : CallR X (.builtin "divmod") (rA G X.K E bDivmod) := by
  intro pins s σ H xs us Q I r ⟨m, h, ds, rh, rd, o⟩
  have hd : (∃ i j, ds = [D.int i, .int j]) ∨ bDivmod ds h = .stuck := by
    unfold bDivmod
    split
    · exact .inl ⟨_, _, rfl⟩
    · exact .inr rfl
  rcases hd with ⟨i, j, rfl⟩ | e
  · simp only [bDivmod] at o
    by_cases hj : 0 < j ∧ j < 1073741824
    · rw [if_pos hj] at o
      cases rd with
      | cons a b =>
        cases b with
        | cons b c =>
          cases c
          cases a
          cases b
          exact call_divmod pins s σ H _ us Q I r ⟨i, j, rfl, hj, out_tupI rh (.cons (.int _) (.cons (.int _) .nil)) o⟩
    · rw [if_neg hj] at o; exact o.elim
  · rw [e] at o; exact o.elim
/-- one argument, a list or a tuple -/
theorem one_seq {f : Value} {op : List D → LH → R D} (hop : ∀ ds h, (∃ x xs, ds = [x] ∧ seqD x h = some xs) ∨ op ds h = .stuck)
    (ho : ∀ pins s σ H us Q m h x xs a vs, Inv X pins σ H s → Vals [.ref a] us → RelH G X.K m h H → RelD X.K m h.length H x (.ref a) → seqD x h = some xs → (SqL X.K H a vs ∨ SqX X.K H a vs) → RelDs X.K m h.length H xs vs → Out G X.K E m h.length H Q (op [x] h) →
      wpAny (model X.prog X.w) X.A (call f us) (EP X pins σ Q) X.xe s) : CallR X f (rA G X.K E op) := by
  intro pins s σ H xs us Q I r ⟨m, h, ds, rh, rd, o⟩
  rcases hop ds h with ⟨x, ys, rfl, e⟩ | e
  · cases rd with
    | cons a b =>
      cases b
      obtain ⟨p, ws, rfl, hs, rs⟩ := seq_okX rh a e
      exact ho pins s σ H us Q m h x ys p ws I r rh a e hs rs o
  · rw [e] at o; exact o.elim
theorem tuple_okB : CallR X (.type "tuple") (rA G X.K E bTuple) := by
  refine one_seq (fun ds h => ?_) ?_
  · unfold bTuple
    split
    · split
      · exact .inl ⟨_, _, rfl, by assumption⟩
      · exact .inr rfl
    · exact .inr rfl
  · intro pins s σ H us Q m h x xs a vs I r rh rd e hs rs o
    simp only [bTuple, e] at o
    refine call_tupleF pins s σ H _ us Q I r ⟨a, vs, rfl, ?_⟩
    rcases hs with hs | hs
    · exact .inl ⟨hs, out_tup rh rs o⟩
    · exact .inr ⟨hs.sq, o m H _ (Post.refl rh) (.tup hs rs)⟩
theorem lstD_ok {m : Nat → Addr} {h : LH} {H : Hp} {d : D} {v : V} {xs : List D} (rh : RelH G X.K m h H) (rd : RelD X.K m h.length H d v) (e : lstD d h = some xs) :
    ∃ n vs, d = .ref n ∧ n < h.length ∧ v = .ref (m n) ∧ h[n]? = some (.lst xs) ∧ H (m n) = some (.lst vs) ∧ RelDs X.K m h.length H xs vs := by
  cases rd with
  | non => cases e
  | bl _ => cases e
  | int _ => cases e
  | str _ => cases e
  | tup _ _ => cases e
  | scr _ => cases e
  | fn _ => cases e
  | @ref n hn =>
    cases q : h[n]? with
    | none => simp only [lstD, q] at e; cases e
    | some ob =>
      cases ob with
      | ins c fs => simp only [lstD, q] at e; cases e
      | dct kv => simp only [lstD, q] at e; cases e
      | hid _ => simp only [lstD, q] at e; cases e
      | lst ys =>
        simp only [lstD, q] at e
        cases e
        obtain ⟨vs, e1, rv⟩ := lst_at rh q
        exact ⟨n, vs, rfl, hn, rfl, q, e1, rv⟩
theorem bools_ok {m : Nat → Addr} {N : Nat} {H : Hp} : ∀ {xs : List D} {vs : List V} {bs : List Bool}, RelDs X.K m N H xs vs → boolsD xs = some bs → vs = bs.map V.bl
  | _, _, _, .nil, e => by cases e; rfl
  | _, _, bs, .cons (d := d) (ds := ds) a r, e => by
    cases a <;> try (cases e; done)
    cases q : boolsD ds with
    | none => simp only [boolsD, q] at e; cases e
    | some cs =>
      simp only [boolsD, q] at e
      cases e
      rw [bools_ok r q]
      rfl
theorem all_okB (hc : X.calm = true) : CallR X (.builtin "all") (rA G X.K E bAll) := by
  intro pins s σ H xs us Q I r ⟨m, h, ds, rh, rd, o⟩
  cases rd with
  | nil => exact o.elim
  | @cons d v ds vs a b =>
    cases b with
    | cons _ _ => simp only [bAll] at o; exact o.elim
    | nil =>
      simp only [bAll] at o
      cases q : lstD d h with
      | none => simp only [q, Option.bind_none] at o; exact o.elim
      | some ys =>
        simp only [q, Option.bind_some] at o
        cases z : boolsD ys with
        | none => simp only [z] at o; exact o.elim
        | some bs =>
          simp only [z] at o
          obtain ⟨n, ws, rfl, hn, rfl, e1, e2, rs⟩ := lstD_ok rh a q
          rw [bools_ok rs z] at e2
          exact cr_all hc pins s σ H _ us Q I r ⟨m n, bs, rfl, SqL.of e2, o m H _ (Post.refl rh) (.bl _)⟩
theorem any_okB (hc : X.calm = true) : CallR X (.builtin "any") (rA G X.K E bAny) := by
  intro pins s σ H xs us Q I r ⟨m, h, ds, rh, rd, o⟩
  cases rd with
  | nil => exact o.elim
  | @cons d v ds vs a b =>
    cases b with
    | cons _ _ => simp only [bAny] at o; exact o.elim
    | nil =>
      simp only [bAny] at o
      cases q : lstD d h with
      | none => simp only [q, Option.bind_none] at o; exact o.elim
      | some ys =>
        simp only [q, Option.bind_some] at o
        cases z : boolsD ys with
        | none => simp only [z] at o; exact o.elim
        | some bs =>
          simp only [z] at o
          obtain ⟨n, ws, rfl, hn, rfl, e1, e2, rs⟩ := lstD_ok rh a q
          rw [bools_ok rs z] at e2
          exact cr_any hc pins s σ H _ us Q I r ⟨m n, bs, rfl, SqL.of e2, o m H _ (Post.refl rh) (.bl _)⟩
end
end Py

set_option Elab.async false
set_option linter.all false
set_option maxRecDepth 100000
namespace Py
open PySem PySem.Spec PyProof.Rows L2
section
variable {X : Cx} {G : Gam} {E : XK} {a b e o : Expr} {es : List Expr} {fa fb fo : EX} {fas : AX} {pos p2 apos cpos : Pos} {lo hi : Option Expr}
/-! ### slices -/
def OutP (G : Gam) (K : PySem.W.Frag) (E : XK) (m : Nat → Addr) (N : Nat) (H : Hp) (Q : Option Int → Hp → Prop) : R (Option Int) → Prop
  | .ok d h' => ∀ m' H', Post G K m N H m' h' H' → Q d H'
  | .exc c fs h' => OutX G K E m N H c fs h'
  | .stuck => False
def tP (G : Gam) (K : PySem.W.Frag) (E : XK) (f : PX) : TO := fun σ H Q => ∃ m r h, RelH G K m h H ∧ RelS K m h.length H r σ ∧ OutP G K E m h.length H Q (f r h)
theorem PO_mono {e : Option Expr} {t t' : TO} (a : PO X e t) (h : ∀ σ H Q, t' σ H Q → t σ H Q) : PO X e t' := ⟨fun pins s σ H Q I q => a.run pins s σ H Q I (h _ _ _ q)⟩
theorem pNo_ok : PO X none (tP G X.K E pNo) := PO_mono po_none fun σ H Q ⟨m, r, h, rh, rs, o⟩ => o m H (Post.refl rh)
theorem pSome_ok (ha : PE X e (tE G X.K E fa)) : PO X (some e) (tP G X.K E (pSome fa)) := by
  refine PO_mono (po_some ha) ?_
  rintro σ H Q ⟨m, r, h, rh, rs, o⟩
  refine ⟨m, r, h, rh, rs, ?_⟩
  unfold pSome at o
  cases q : fa r h with
  | stuck => rw [q] at o; exact o
  | exc c fs h1 => rw [q] at o; exact o
  | ok d h1 =>
    rw [q, R.bind_ok] at o
    intro m1 H1 v p1 d1
    cases d1 with
    | int i => exact ⟨i, rfl, o m1 H1 p1⟩
    | _ => exact o.elim
theorem cut_rel {m : Nat → Addr} {N : Nat} {H : Hp} {xs : List D} {vs : List V} (r : RelDs X.K m N H xs vs) (l u : Option Int) : RelDs X.K m N H (cutD xs l u) (cutV vs l u) := by
  unfold cutD cutV
  rw [← r.length]
  exact (r.drop _).take _
theorem xSl {pl pu : PX} (ha : PE X a (tE G X.K E fa)) (hl : PO X lo (tP G X.K E pl)) (hu : PO X hi (tP G X.K E pu)) : PE X (.Subscript a (.Slice lo hi none p2) pos) (tE G X.K E (eSl fa pl pu)) := by
  refine PE_mono (pe_slice (sl_list.or sl_tupF) ha hl hu) ?_
  rintro σ H Q ⟨m, r, h, rh, rs, o⟩
  refine ⟨m, r, h, rh, rs, ?_⟩
  unfold eSl at o
  cases q : fa r h with
  | stuck => rw [q] at o; exact o
  | exc c fs h1 => rw [q] at o; exact o
  | ok x h1 =>
    rw [q, R.bind_ok] at o
    intro m1 H1 v p1 d1
    refine ⟨m1, r, h1, p1.rel, p1.s rs, ?_⟩
    cases q1 : pl r h1 with
    | stuck => rw [q1] at o; exact o.elim
    | exc c fs h2 => rw [q1] at o; exact OutX.later p1 o
    | ok l h2 =>
      rw [q1, R.bind_ok] at o
      intro m2 H2 p2
      refine ⟨m2, r, h2, p2.rel, p2.s (p1.s rs), ?_⟩
      cases q2 : pu r h2 with
      | stuck => rw [q2] at o; exact o.elim
      | exc c fs h3 => rw [q2] at o; exact OutX.later (p1.trans p2) o
      | ok u h3 =>
        rw [q2, R.bind_ok] at o
        intro m3 H3 p3
        have pp := p1.trans (p2.trans p3)
        have d3 := (p2.trans p3).d d1
        have o := Out.later pp o
        cases d3 with
        | @tup ad xs vs ht rds =>
          refine .inr ⟨ad, vs, rfl, ht.sq, fun z => ?_, out_tup p3.rel (cut_rel rds l u) o⟩
          have e : cutD xs l u = xs := by
            unfold cutD
            rw [rds.length, z.1, z.2, List.drop_zero, Nat.sub_zero, ← rds.length, List.take_length]
          simp only [e] at o
          exact o m3 H3 _ (Post.refl p3.rel) (.tup ht rds)
        | @ref n hn =>
          cases z : h3[n]? with
          | none => simp only [z] at o; exact o.elim
          | some ob =>
            cases ob with
            | ins c fs => simp only [z] at o; exact o.elim
            | dct kv => simp only [z] at o; exact o.elim
            | hid _ => simp only [z] at o; exact o.elim
            | lst xs =>
              simp only [z] at o
              obtain ⟨vs, e1, rv⟩ := lst_at p3.rel z
              exact .inl ⟨m3 n, vs, rfl, SqL.of e1, out_lst p3.rel (cut_rel rv l u) o⟩
        | non => exact o.elim
        | bl _ => exact o.elim
        | int _ => exact o.elim
        | str _ => exact o.elim
        | scr _ => exact o.elim
        | fn _ => exact o.elim
/-! ### methods of lists -/
theorem toBM {op : D → List D → LH → R D} {rd : V → List V → Hp → VK → Prop} (hr : ∀ m h H x v ds vs Q, RelH G X.K m h H → RelD X.K m h.length H x v → RelDs X.K m h.length H ds vs → Out G X.K E m h.length H Q (op x ds h) → rd v vs H Q)
    {σ : L2.St} {H : Hp} {Q : VK} (t : tE G X.K E (eBM op fo fas) σ H Q) : tE G X.K E fo σ H (fun x H1 => tyV X.K "list" x H1 ∧ tA G X.K E fas σ H1 fun xs H2 => rd x xs H2 Q) := by
  obtain ⟨m, r, h, rh, rs, o⟩ := t
  refine ⟨m, r, h, rh, rs, ?_⟩
  rcases Out.bindR o with ⟨x, h1, e, o⟩ | ⟨c, fs, h1, e, o⟩
  · rw [e]
    intro m1 H1 v p1 d1
    cases q : lstD x h1 with
    | none => simp only [q] at o; exact o.elim
    | some xs =>
      simp only [q] at o
      obtain ⟨n, vs, rfl, hn, rfl, e1, e2, rv⟩ := lstD_ok p1.rel d1 q
      refine ⟨.inl ⟨rfl, vs, SqL.of e2⟩, m1, r, h1, p1.rel, p1.s rs, ?_⟩
      rcases Out.bindR o with ⟨ds, h2, e, o⟩ | ⟨c, fs, h2, e, o⟩
      · rw [e]
        intro m2 H2 vs p2 d2
        exact hr m2 h2 H2 _ _ ds vs Q p2.rel (p2.d d1) d2 (Out.later (p1.trans p2) o)
      · rw [e]; exact OutX.later p1 o
  · rw [e]; exact o
/-- a list turns -/
theorem onL_ok {f : List D → Option (D × List D)} {m : Nat → Addr} {h : LH} {H : Hp} {x : D} {v : V} {Q : VK} (rh : RelH G X.K m h H) (rd : RelD X.K m h.length H x v) (o : Out G X.K E m h.length H Q (onL f x h)) :
    ∃ n xs vs d ys, v = .ref (m n) ∧ H (m n) = some (.lst vs) ∧ RelDs X.K m h.length H xs vs ∧ f xs = some (d, ys) ∧ ∀ w ws, RelD X.K m h.length H d w → RelDs X.K m h.length H ys ws → Q w (upd H (m n) (.lst ws)) := by
  cases rd with
  | non => exact o.elim
  | bl _ => exact o.elim
  | int _ => exact o.elim
  | str _ => exact o.elim
  | scr _ => exact o.elim
  | fn _ => exact o.elim
  | tup _ _ => exact o.elim
  | @ref n hn =>
    simp only [onL] at o
    cases z : h[n]? with
    | none => simp only [z] at o; exact o.elim
    | some ob =>
      cases ob with
      | ins c fs => simp only [z] at o; exact o.elim
      | dct kv => simp only [z] at o; exact o.elim
      | hid _ => simp only [z] at o; exact o.elim
      | lst xs =>
        simp only [z] at o
        cases y : f xs with
        | none => simp only [y] at o; exact o.elim
        | some q =>
          obtain ⟨d, ys⟩ := q
          simp only [y] at o
          obtain ⟨vs, e1, rv⟩ := lst_at rh z
          refine ⟨n, xs, vs, d, ys, rfl, e1, rv, y, fun w ws rw' rws => ?_⟩
          have tk : TK X.K H (upd H (m n) (.lst ws)) := TK.upd_mut e1 (fun _ z => nomatch z) (fun _ _ z => nomatch z)
          have p := rh.upd (u := .lst ws) (o := .lst ys) z e1 (fun _ z => nomatch z) (fun _ _ z => nomatch z) ⟨ws, upd_same, rws.mono (fun _ _ => rfl) (Nat.le_refl _) tk⟩
          exact o m _ _ p (p.d rw')
theorem xAppend (ho : PE X o (tE G X.K E fo)) (ha : PA X [a] (tA G X.K E fas))
    (hbase : attributeBase o "append" X.env (eval o X.env) = eval o X.env := by rfl)
    (hfew : ((backTo cpos (starEach [a] X.env)).all (fun x => !x.1) && (backToKw cpos (keywordEach [] X.env)).all (fun x => x.1.isSome)
      && decide ([a].length + ([] : List Keyword).length + (if ([] : List Keyword).isEmpty then 0 else 1) < 30)) = true := by rfl)
    (hline : (apos.endLine == cpos.line) = true := by rfl) (hs : starEach [a] X.env = (false, eval a X.env) :: starEach [] X.env := by rfl) (hplain : (backTo cpos (starEach [] X.env)).any (·.1) = false := by rfl) :
    PE X (.Call (.Attribute o "append" apos) [a] [] cpos) (tE G X.K E (eBM mAppend fo fas)) := by
  refine PE_mono (pe_bm PySem.F.plainAttrs_list PySem.F.slot_list_append PySem.F.type_list_append mt_append ho ha hbase hfew hline hs hplain) ?_
  intro σ H Q t
  refine toBM (fun m h H x v ds vs Q rh rd rds o => ?_) t
  cases rds with
  | nil => exact o.elim
  | @cons d w ds ws a1 b1 =>
    cases b1 with
    | cons _ _ => exact o.elim
    | nil =>
      obtain ⟨n, xs, us, d', ys, rfl, e1, rv, ef, q⟩ := onL_ok rh rd o
      by_cases hl : xs.length < sizeLine
      · rw [if_pos hl] at ef
        cases ef
        exact ⟨m n, us, w, rfl, rfl, e1, by rw [← rv.length]; exact hl, q _ _ .non (rv.append (.cons a1 .nil))⟩
      · rw [if_neg hl] at ef; cases ef
/-! ### o[i] = v -/
theorem ixN_len {xs : List D} {vs : List V} {m : Nat → Addr} {N : Nat} {H : Hp} (r : RelDs X.K m N H xs vs) (k : Int) : ixN vs.length k = ixN xs.length k := by rw [r.length]
theorem gSub_ok {o i : Expr} {fo fi : EX} (ho : PE X o (tE G X.K E fo)) (hi : PE X i (tE G X.K E fi))
    (ha : ∀ v, assign (.Subscript o i pos) X.env v = (do
      let ov ← holding [v] (eval o X.env)
      let iv ← holding [v, ov] (eval i X.env)
      standAt pos
      holding [v, ov, iv] (setItem ov iv v)
      release [v, ov, iv] []) := by intro _; rfl) : PG X (.Subscript o i pos) (tG G X.K E (Py.gSub fo fi)) := by
  refine PG_mono (pg_sub ho hi set_list ha) ?_
  rintro v σ H Q ⟨m, r, h, d, rh, rs, rd, o⟩
  refine ⟨m, r, h, rh, rs, ?_⟩
  rcases OutS.toR o with ⟨x, h1, e, o⟩ | ⟨c, fs, h1, e, o⟩
  · rw [e]
    intro m1 H1 xv p1 d1
    refine ⟨m1, r, h1, p1.rel, p1.s rs, ?_⟩
    rcases OutS.toR o with ⟨y, h2, e, o⟩ | ⟨c, fs, h2, e, o⟩
    · rw [e]
      intro m2 H2 yv p2 d2
      have pp := p1.trans p2
      have o := OutS.later pp o
      have d1 := p2.d d1
      cases d1 with
      | @ref n hn =>
        cases d2 with
        | int k =>
          cases z : h2[n]? with
          | none => simp only [z] at o; exact o.elim
          | some ob =>
            cases ob with
            | ins c fs => simp only [z] at o; exact o.elim
            | dct kv => simp only [z] at o; exact o.elim
            | hid _ => simp only [z] at o; exact o.elim
            | lst xs =>
              simp only [z] at o
              cases w : ixN xs.length k with
              | none => simp only [w] at o; exact o.elim
              | some j =>
                simp only [w] at o
                obtain ⟨vs, e1, rv⟩ := lst_at p2.rel z
                refine ⟨m2 n, vs, k, j, rfl, rfl, e1, by rw [ixN_len rv]; exact w, ?_⟩
                have tk : TK X.K H2 (upd H2 (m2 n) (.lst (vs.set j v))) := TK.upd_mut e1 (fun _ z => nomatch z) (fun _ _ z => nomatch z)
                have p := p2.rel.upd (u := .lst (vs.set j v)) (o := .lst (xs.set j d)) z e1 (fun _ z => nomatch z) (fun _ _ z => nomatch z) ⟨_, upd_same, (RelDs.set (pp.d rd) j rv).mono (fun _ _ => rfl) (Nat.le_refl _) tk⟩
                exact o m2 _ σ p (p.s (pp.s rs))
        | _ => exact o.elim
      | _ => exact o.elim
    · rw [e]; exact OutX.later p1 o
  · rw [e]; exact o
theorem ng_name {i : Nat} : NG (gN i) := fun _ _ _ => trivial
theorem ng_to {α : Type} {r : R α} {f : α → LH → F} (hf : ∀ a h, match f a h with | .rt _ _ => False | .bk _ _ => False | .ct _ _ => False | _ => True) : match r.to f with | .rt _ _ => False | .bk _ _ => False | .ct _ _ => False | _ => True := by
  cases r with
  | ok a h => exact hf a h
  | exc c fs h => trivial
  | stuck => trivial
theorem ng_sub {fo fi : EX} : NG (Py.gSub fo fi) := by
  intro d r h
  unfold Py.gSub
  refine ng_to fun x h1 => ng_to fun y h2 => ?_
  cases x <;> try trivial
  cases y <;> try trivial
  rename_i n k
  cases z : h2[n]? with
  | none => simp only [z]
  | some ob =>
    cases ob with
    | ins c fs => simp only [z]
    | dct kv => simp only [z]
    | hid _ => simp only [z]
    | lst xs =>
      cases w : ixN xs.length k with
      | none => simp only [z, w]
      | some j => simp only [z, w]
def NGs (g : GXs) : Prop := ∀ d r h, match g d r h with | .rt _ _ => False | .bk _ _ => False | .ct _ _ => False | _ => True
theorem ngs_nil : NGs gsNil := by
  intro d r h
  cases d <;> trivial
theorem ngs_cons {g : GX} {gs : GXs} (a : NG g) (b : NGs gs) : NGs (gsCons g gs) := by
  intro d r h
  cases d with
  | nil => trivial
  | cons x xs =>
    have q := a x r h
    simp only [gsCons]
    cases z : g x r h with
    | nx r1 h1 => exact b xs r1 h1
    | rt d h1 => rw [z] at q; exact q
    | bk r1 h1 => rw [z] at q; exact q
    | ct r1 h1 => rw [z] at q; exact q
    | exc c fs h1 => trivial
    | stuck => trivial
theorem ng_tup {n : Nat} {gs : GXs} (b : NGs gs) : NG (gT n gs) := by
  intro d r h
  cases d <;> try trivial
  rename_i xs
  simp only [gT]
  by_cases hl : xs.length = n
  · rw [if_pos hl]; exact b xs r h
  · rw [if_neg hl]; trivial
end
end Py

set_option Elab.async false
set_option linter.all false
set_option maxRecDepth 100000
namespace Py
open PySem PySem.Spec PyProof.Rows L2
section
variable {X : Cx} {G : Gam} {E : XK} {a b c e o : Expr} {es : List Expr} {fa fb fc fo : EX} {fas : AX} {pos p2 apos cpos : Pos}
/-! ### data as a whole -/
theorem mapO_all {n : Nat} {m : Nat → Addr} {h : LH} {H : Hp} (ih : ∀ (d : D) (v : V) (x : PyData), RelD X.K m h.length H d v → deep h n d = some x → Dp X.K H v x) : ∀ {xs : List D} {vs : List V} {ys : List PyData}, RelDs X.K m h.length H xs vs → mapO (deep h n) xs = some ys → DpAll X.K H vs ys
  | _, _, _, .nil, e => by cases e; exact .nil
  | _, _, ys, .cons (d := d) (ds := ds) a r, e => by
    simp only [mapO] at e
    cases q1 : deep h n d with
    | none => simp only [q1] at e; cases e
    | some x =>
      cases q2 : mapO (deep h n) ds with
      | none => simp only [q1, q2] at e; cases e
      | some zs =>
        simp only [q1, q2] at e
        cases e
        exact .cons (ih _ _ _ a q1) (mapO_all ih r q2)
theorem dp_ints {H : Hp} : ∀ ns : List Int, DpAll X.K H (ns.map V.int) (ns.map .int)
  | [] => .nil
  | _ :: r => .cons (.int _) (dp_ints r)
theorem deep_ok {m : Nat → Addr} {h : LH} {H : Hp} (rh : RelH G X.K m h H) : ∀ (n : Nat) (d : D) (v : V) (x : PyData), RelD X.K m h.length H d v → deep h n d = some x → Dp X.K H v x
  | n, _, _, x, .non, e => by cases n <;> (cases e; exact .non)
  | n, _, _, x, .bl b, e => by cases n <;> (cases e; exact .bl b)
  | n, _, _, x, .int i, e => by cases n <;> (cases e; exact .int i)
  | n, _, _, x, .str y, e => by cases n <;> (cases e; exact .str y)
  | n, _, _, x, .scr hs, e => by cases n <;> (cases e; exact .lst hs.sq (dp_ints _))
  | n, _, _, x, .fn _, e => by cases n <;> cases e
  | 0, _, _, x, .tup _ _, e => by cases e
  | 0, _, _, x, .ref _, e => by cases e
  | n + 1, .tup xs, _, x, .tup ht rs, e => by
    simp only [deep] at e
    cases q : mapO (deep h n) xs with
    | none => simp only [q] at e; cases e
    | some ys =>
      simp only [q] at e
      cases e
      exact .tup ht.sq (mapO_all (deep_ok rh n) rs q)
  | n + 1, .ref k, _, x, .ref hk, e => by
    simp only [deep] at e
    cases z : h[k]? with
    | none => simp only [z] at e; cases e
    | some ob =>
      cases ob with
      | ins c fs => simp only [z] at e; cases e
      | dct kv => simp only [z] at e; cases e
      | hid _ => simp only [z] at e; cases e
      | lst xs =>
        simp only [z] at e
        cases q : mapO (deep h n) xs with
        | none => simp only [q] at e; cases e
        | some ys =>
          simp only [q] at e
          cases e
          obtain ⟨vs, e1, rv⟩ := lst_at rh z
          exact .lst (SqL.of e1) (mapO_all (deep_ok rh n) rv q)
theorem eq_okD (hu : X.A.units + 64 < cLine) : OpR X (compareOp .Eq) (r2 G X.K E (oEqD false)) := by
  intro pins s σ H x y v u Q I rx ry ⟨m, h, dx, dy, rh, d1, d2, o⟩
  simp only [oEqD] at o
  cases q1 : deep h 60 dx with
  | none => simp only [q1] at o; exact o.elim
  | some p =>
    cases q2 : deep h 60 dy with
    | none => simp only [q1, q2] at o; exact o.elim
    | some q =>
      simp only [q1, q2] at o
      by_cases hs : (SeqAt.shaped p && SeqAt.shaped q) = true
      · rw [if_pos hs] at o
        rw [Bool.and_eq_true] at hs
        exact op_eqD hu pins s σ H x y v u Q I rx ry ⟨p, q, deep_ok rh _ _ _ _ d1 q1, deep_ok rh _ _ _ _ d2 q2, hs.1, hs.2, o m H _ (Post.refl rh) (.bl _)⟩
      · rw [if_neg hs] at o; exact o.elim
theorem ne_okD (hu : X.A.units + 64 < cLine) : OpR X (compareOp .NotEq) (r2 G X.K E (oEqD true)) := by
  intro pins s σ H x y v u Q I rx ry ⟨m, h, dx, dy, rh, d1, d2, o⟩
  simp only [oEqD] at o
  cases q1 : deep h 60 dx with
  | none => simp only [q1] at o; exact o.elim
  | some p =>
    cases q2 : deep h 60 dy with
    | none => simp only [q1, q2] at o; exact o.elim
    | some q =>
      simp only [q1, q2] at o
      by_cases hs : (SeqAt.shaped p && SeqAt.shaped q) = true
      · rw [if_pos hs] at o
        rw [Bool.and_eq_true] at hs
        exact op_neD hu pins s σ H x y v u Q I rx ry ⟨p, q, deep_ok rh _ _ _ _ d1 q1, deep_ok rh _ _ _ _ d2 q2, hs.1, hs.2, o m H _ (Post.refl rh) (.bl _)⟩
      · rw [if_neg hs] at o; exact o.elim
theorem eq_ok (hu : X.A.units + 64 < cLine) : OpR X (compareOp .Eq) (r2 G X.K E (oEq false)) := by
  intro pins s σ H x y v u Q I rx ry ⟨m, h, dx, dy, rh, d1, d2, o⟩
  have gen : oEq false dx dy h = oEqD false dx dy h → wpAny (model X.prog X.w) X.A (compareOp .Eq v u) (EP X pins σ Q) X.xe s := fun e => eq_okD hu pins s σ H x y v u Q I rx ry ⟨m, h, dx, dy, rh, d1, d2, e ▸ o⟩
  cases d1 with
  | int i =>
    cases d2 with
    | int j =>
      refine op_eq pins s σ H _ _ v u Q I rx ry ⟨rfl, ?_⟩
      have e : decide (V.int i = V.int j) = decide (i = j) := decide_eq_decide.mpr ⟨fun q => V.int.inj q, fun q => by rw [q]⟩
      rw [e]
      exact o m H _ (Post.refl rh) (.bl _)
    | _ => exact gen rfl
  | str i =>
    cases d2 with
    | str j =>
      refine op_eq pins s σ H _ _ v u Q I rx ry ⟨rfl, ?_⟩
      have e : decide (V.str i = V.str j) = decide (i = j) := decide_eq_decide.mpr ⟨fun q => V.str.inj q, fun q => by rw [q]⟩
      rw [e]
      exact o m H _ (Post.refl rh) (.bl _)
    | _ => exact gen rfl
  | _ => exact gen rfl
theorem ne_ok (hu : X.A.units + 64 < cLine) : OpR X (compareOp .NotEq) (r2 G X.K E (oEq true)) := by
  intro pins s σ H x y v u Q I rx ry ⟨m, h, dx, dy, rh, d1, d2, o⟩
  have gen : oEq true dx dy h = oEqD true dx dy h → wpAny (model X.prog X.w) X.A (compareOp .NotEq v u) (EP X pins σ Q) X.xe s := fun e => ne_okD hu pins s σ H x y v u Q I rx ry ⟨m, h, dx, dy, rh, d1, d2, e ▸ o⟩
  cases d1 with
  | int i =>
    cases d2 with
    | int j =>
      refine op_ne pins s σ H _ _ v u Q I rx ry ⟨rfl, ?_⟩
      have e : decide (V.int i = V.int j) = decide (i = j) := decide_eq_decide.mpr ⟨fun q => V.int.inj q, fun q => by rw [q]⟩
      rw [e]
      exact o m H _ (Post.refl rh) (.bl _)
    | _ => exact gen rfl
  | str i =>
    cases d2 with
    | str j =>
      refine op_ne pins s σ H _ _ v u Q I rx ry ⟨rfl, ?_⟩
      have e : decide (V.str i = V.str j) = decide (i = j) := decide_eq_decide.mpr ⟨fun q => V.str.inj q, fun q => by rw [q]⟩
      rw [e]
      exact o m H _ (Post.refl rh) (.bl _)
    | _ => exact gen rfl
  | _ => exact gen rfl
theorem isB_eqD (neg : Bool) : IsB2 (oEqD neg) := by
  intro x y h d h' e
  simp only [oEqD] at e
  split at e
  · split at e
    · cases e; exact ⟨_, rfl⟩
    · cases e
  · cases e
theorem isB_eq (neg : Bool) : IsB2 (oEq neg) := by
  intro x y h d h' e
  unfold oEq at e
  split at e
  · cases e; exact ⟨_, rfl⟩
  · cases e; exact ⟨_, rfl⟩
  · exact isB_eqD neg _ _ _ _ _ e
/-! ### repr -/
theorem repr_run {pins : List (Addr × Obj)} {s : Shared} {σ : L2.St} {H : Hp} {v : V} {u : Value} {x : PyData} {Q : VK} (hg : X.A.guards = some []) (hu : X.A.units + 70 < cLine) (I : L2.Inv X pins σ H s) (r : RelV v u) (hd : Dp X.K H v x) (hx : isDisplay x = true) (hs : showOk x = true) (q : Q (.str x.shown) H) :
    wpAny (model X.prog X.w) X.A (call (.builtin "repr") [u]) (EP X pins σ Q) X.xe s := by
  obtain ⟨as, rd⟩ := Dp.reads I x v u hd r
  obtain ⟨p, rfl⟩ := isRef_of_reads rd hx
  simp only [showOk, Bool.and_eq_true, decide_eq_true_eq] at hs
  obtain ⟨⟨⟨h1, h2⟩, h3⟩, h4⟩ := hs
  have h2 : x.hasDict = false := by simpa using h2
  refine repr_of_reads' rd h1 (PyData.noDict_hsm h2) hg (by omega) (fun _ _ e => e) (fun h' t tk hk => ?_) h4
  exact ⟨.str x.shown, H, I.kept (t' := tk) hk, ⟨t, rfl⟩, q⟩
theorem disp_of {m : Nat → Addr} {h : LH} {n : Nat} {d : D} {x : PyData} (hd : (∃ k, d = .ref k) ∨ ∃ xs, d = .tup xs) (e : deep h n d = some x) : isDisplay x = true := by
  rcases hd with ⟨k, rfl⟩ | ⟨xs, rfl⟩
  · cases n with
    | zero => cases e
    | succ n =>
      simp only [deep] at e
      cases z : h[k]? with
      | none => simp only [z] at e; cases e
      | some ob =>
        cases ob with
        | ins c fs => simp only [z] at e; cases e
        | dct kv => simp only [z] at e; cases e
        | hid _ => simp only [z] at e; cases e
        | lst xs =>
          simp only [z] at e
          cases q : mapO (deep h n) xs with
          | none => simp only [q] at e; cases e
          | some ys => simp only [q] at e; cases e; rfl
  · cases n with
    | zero => cases e
    | succ n =>
      simp only [deep] at e
      cases q : mapO (deep h n) xs with
      | none => simp only [q] at e; cases e
      | some ys => simp only [q] at e; cases e; rfl
theorem repr_okB (hg : X.A.guards = some []) (hu : X.A.units + 70 < cLine) : CallR X (.builtin "repr") (rA G X.K E bRepr) := by
  intro pins s σ H xs us Q I r ⟨m, h, ds, rh, rd, o⟩
  cases rd with
  | nil => exact o.elim
  | @cons d v ds vs a b =>
    cases b with
    | cons _ _ => simp only [bRepr] at o; exact o.elim
    | nil =>
      have key : (∃ k, d = .ref k) ∨ (∃ xs, d = .tup xs) → wpAny (model X.prog X.w) X.A (call (.builtin "repr") us) (EP X pins σ Q) X.xe s := by
        intro hd
        have e : bRepr [d] h = (match deep h 60 d with
          | some a => if showOk a = true then .ok (.str a.shown) h else .stuck
          | none => .stuck) := by
          rcases hd with ⟨k, rfl⟩ | ⟨xs, rfl⟩ <;> rfl
        rw [e] at o
        cases q : deep h 60 d with
        | none => simp only [q] at o; exact o.elim
        | some x =>
          simp only [q] at o
          by_cases hs : showOk x = true
          · rw [if_pos hs] at o
            obtain ⟨u, rfl, ru⟩ := Vals.one r
            exact repr_run hg hu I ru (deep_ok rh _ _ _ _ a q) (disp_of (m := m) hd q) hs (o m H _ (Post.refl rh) (.str _))
          · rw [if_neg hs] at o; exact o.elim
      cases a with
      | non => exact o.elim
      | bl _ => exact o.elim
      | int _ => exact o.elim
      | str _ => exact o.elim
      | scr _ => exact o.elim
      | fn _ => exact o.elim
      | @ref n hn => exact key (.inl ⟨n, rfl⟩)
      | @tup p xs vs _ _ => exact key (.inr ⟨xs, rfl⟩)
/-! ### is None, chains -/
theorem toChain {f f' : D → D → LH → R D} {σ : L2.St} {H : Hp} {Q : VK} (t : tE G X.K E (eChain f f' fa fb fc) σ H Q) : tChain (r2 G X.K E f) (r2 G X.K E f') (tE G X.K E fa) (tE G X.K E fb) (tE G X.K E fc) σ H Q := by
  obtain ⟨m, r, h, rh, rs, o⟩ := t
  refine ⟨m, r, h, rh, rs, ?_⟩
  rcases Out.bindR o with ⟨x, h1, e, o⟩ | ⟨c, fs, h1, e, o⟩
  · rw [e]
    intro m1 H1 v p1 d1
    refine ⟨m1, r, h1, p1.rel, p1.s rs, ?_⟩
    rcases Out.bindR o with ⟨y, h2, e, o⟩ | ⟨c, fs, h2, e, o⟩
    · rw [e]
      intro m2 H2 w p2 d2
      refine ⟨m2, h2, x, y, p2.rel, p2.d d1, d2, ?_⟩
      rcases Out.bindR o with ⟨z, h3, e, o⟩ | ⟨c, fs, h3, e, o⟩
      · rw [e]
        intro m3 H3 z3 p3 d3
        have pp := p1.trans (p2.trans p3)
        cases d3 with
        | bl k =>
          refine ⟨k, rfl, ?_⟩
          cases k with
          | false => exact iteF (o m3 H3 _ pp (.bl false))
          | true =>
            refine iteT ⟨m3, r, h3, p3.rel, (pp.s rs), ?_⟩
            simp only at o
            rcases Out.bindR o with ⟨q, h4, e, o⟩ | ⟨c, fs, h4, e, o⟩
            · rw [e]
              intro m4 H4 w4 p4 d4
              exact ⟨m4, h4, y, q, p4.rel, (p3.trans p4).d d2, d4, Out.later (pp.trans p4) o⟩
            · rw [e]; exact OutX.later pp o
        | _ => exact o.elim
      · rw [e]; exact OutX.later (p1.trans p2) o
    · rw [e]; exact OutX.later p1 o
  · rw [e]; exact o
theorem isB_chain {f f' : D → D → LH → R D} (h' : IsB2 f') : IsB (eChain f f' fa fb fc) := by
  intro r h d hh e
  unfold eChain at e
  cases q1 : fa r h with
  | stuck => rw [q1] at e; cases e
  | exc c fs h1 => rw [q1] at e; cases e
  | ok x h1 =>
    rw [q1, R.bind_ok] at e
    cases q2 : fb r h1 with
    | stuck => rw [q2] at e; cases e
    | exc c fs h1 => rw [q2] at e; cases e
    | ok y h2 =>
      rw [q2, R.bind_ok] at e
      cases q3 : f x y h2 with
      | stuck => rw [q3] at e; cases e
      | exc c fs h1 => rw [q3] at e; cases e
      | ok z h3 =>
        rw [q3, R.bind_ok] at e
        cases z with
        | bl k =>
          cases k with
          | false => cases e; exact ⟨_, rfl⟩
          | true =>
            simp only at e
            cases q4 : fc r h3 with
            | stuck => rw [q4] at e; cases e
            | exc c fs h1 => rw [q4] at e; cases e
            | ok w h4 => rw [q4, R.bind_ok] at e; exact h' _ _ _ _ _ e
        | _ => cases e
theorem yChain {op op' : CmpOp} {f f' : D → D → LH → R D} (ho : OpR X (compareOp op) (r2 G X.K E f)) (ho' : OpR X (compareOp op') (r2 G X.K E f')) (hf' : IsB2 f') (ha : PE X a (tE G X.K E fa)) (hb : PE X b (tE G X.K E fb)) (hc : PE X c (tE G X.K E fc))
    (hm : lastMarks [op, op'] [b, c] = false := by with_unfolding_all rfl) : PT X (.Compare a [op, op'] [b, c] pos) (tT G X.K E (eChain f f' fa fb fc)) :=
  PT_mono (pt_chain ho ho' ha hb hc hm) fun _ _ _ t => by
    obtain ⟨m, r, h, rh, rs, o⟩ := toTest (isB_chain hf') t
    exact toChain ⟨m, r, h, rh, rs, o⟩
end
end Py

set_option Elab.async false
set_option linter.all false
set_option maxRecDepth 100000
namespace Py
open PySem PySem.Spec PyProof.Rows L2
section
variable {X : Cx} {G : Gam} {E : XK} {CX : CXT} {a b c e o : Expr} {es : List Expr} {fa fb fc fo : EX} {fas : AX} {pos p2 apos cpos : Pos}
theorem runG1 {k : Nat} {f : Addr} {fd : FuncData} {ps : List Str} {sp : Sp} {pins : List (Addr × Obj)} {σ : L2.St} {H : Hp} {s : Shared} {Q : VK} {us ws : List Value} {vs : List V} {kw : List (Str × Value)} (F : FnG X.prog X.w X.K X.mg X.base CX k f fd ps sp) (hg : X.A.guards = some []) (hr : Room (k + 1) X.A)
    (hx : Passes CX X E) (I : L2.Inv X pins σ H s) (hb : BindsTo s fd ⟨us, kw⟩ (ps.zip ws)) (r : Vals vs ws) (h : sp vs H Q E) : wpAny (model X.prog X.w) X.A.in1 (call (.ref f) us kw) (EP X pins σ Q) X.xe s := by
  refine wpAny_call (codeAny_mono (F.run X.A.in1 X.stack s H ⟨us, kw⟩ ws vs Q E hg hr.in1 I.env0.in1 hb r h) ?_)
  intro r s' hq
  cases r with
  | error e => exact hx pins σ H s e s' I hq
  | ok fl =>
    cases fl with
    | ret u => exact I.after hq
    | next => exact hq.elim
    | brk => exact hq.elim
    | cont => exact hq.elim
theorem one_bind {fd : FuncData} {ps : List Str} {s : Shared} {u : Value} {v : V} {m : Nat → Addr} {N : Nat} {H : Hp} {d : D} (hb : Bnd X.K fd ps 1 [] bd0) (hk : X.K.In s.heap) (r : RelV v u) (rd : RelD X.K m N H d v) :
    ∃ us2 vs2, Vals vs2 us2 ∧ BindsTo s fd ⟨[u], []⟩ (ps.zip us2) ∧ RelDs X.K m N H [d] vs2 := by
  obtain ⟨us2, vs2, q1, q2, q3⟩ := hb s [u] [] [v] [] hk (.cons r .nil) .nil rfl rfl
  exact ⟨us2, vs2, q1, q2, q3 m N H [d] [] (.cons rd .nil) .nil⟩
theorem reprO_ok {k c : Nat} {f : Addr} {fd : FuncData} {ps : List Str} {cf : CF} (F : FnG X.prog X.w X.K X.mg X.base CX k f fd ps (spF G X.K cf)) (hg : X.A.guards = some []) (hr : Room (k + 1) X.A) (hx : Passes CX X E) (hb : Bnd X.K fd ps 1 [] bd0)
    (hs : PySem.W.findIn X.K (.ref (G.cl c)) "__repr__" = some (some (.ref f))) (hf : PySem.W.isFn X.K (.ref f) = true) : CallR X (.builtin "repr") (rA G X.K E (bReprO c cf)) := by
  intro pins s σ H xs us Q I r ⟨m, h, ds, rh, rd, o⟩
  cases rd with
  | nil => exact o.elim
  | @cons d v ds vs a1 b1 =>
    cases b1 with
    | cons _ _ => simp only [bReprO] at o; exact o.elim
    | nil =>
      cases a1 with
      | @ref n hn =>
        simp only [bReprO] at o
        cases z : h[n]? with
        | none => simp only [z] at o; exact o.elim
        | some ob =>
          cases ob with
          | lst xs => simp only [z] at o; exact o.elim
          | dct kv => simp only [z] at o; exact o.elim
          | hid _ => simp only [z] at o; exact o.elim
          | ins c' fs =>
            simp only [z] at o
            by_cases hc : c' = c
            · subst hc
              rw [if_pos rfl] at o
              obtain ⟨dx, vs, e1, rf⟩ := rh.obj n _ z
              obtain ⟨u, rfl, ru⟩ := Vals.one r
              obtain rfl : u = Value.ref (m n) := ru
              obtain ⟨mA, O1, _⟩ := ins_get I.hok e1
              obtain ⟨od, J, _⟩ := O1.look
              obtain ⟨mm, Fr1⟩ := I.fr
              have hu := hr.units
              refine PySem.W.repr_K (by show X.A.units + 1 < cLine; omega) Fr1 I.mod.kin J hs hf ?_
              obtain ⟨us2, vs2, q1, q2, q3⟩ := one_bind (u := Value.ref (m n)) (v := V.ref (m n)) hb I.kIn rfl (RelD.ref (K := X.K) (m := m) (H := H) hn)
              refine thn (runG1 F hg hr hx I q2 q1 (Q := fun w H2 => ∃ y, w = .str y ∧ Q (.str y) H2) ⟨m, h, _, rh, q3, ?_⟩) ?_
              · rcases Out.bindR o with ⟨w, h2, e, o⟩ | ⟨cc, fs2, h2, e, o⟩
                · rw [e]
                  intro m2 H2 w2 p2 d2
                  cases d2 with
                  | str y => exact ⟨y, rfl, o m2 H2 _ p2 (.str y)⟩
                  | _ => exact o.elim
                · rw [e]; exact o
              · rintro w s2 ⟨w2, H2, I2, rw2, y, rfl, q⟩
                obtain ⟨t, rfl⟩ := rw2
                exact ⟨.str y, H2, I2, ⟨_, rfl⟩, q⟩
            · rw [if_neg hc] at o; exact o.elim
      | _ => exact o.elim
/-! ### f-strings -/
theorem fmt_ok (hg : X.A.guards = some []) (hu : X.A.units + 70 < cLine) (ha : PE X a (tE G X.K E fa)) : PE X (.FormattedValue a (-1) none pos) (tE G X.K E (eFmt fa)) := by
  refine ⟨fun pins s σ H Q I t => ?_⟩
  have t' : tE G X.K E fa σ H (fun v H1 => (∃ y : Str, v = .str y ∧ y.length ≤ sizeLine ∧ Q (.str y) H1) ∨ (∃ i : Int, v = .int i ∧ i.natAbs.log2 < 1920 ∧ Q (.str (toString i)) H1) ∨ ∃ x, Dp X.K H1 v x ∧ isDisplay x = true ∧ showOk x = true ∧ Q (.str x.shown) H1) := by
    obtain ⟨m, r, h, rh, rs, o⟩ := t
    refine ⟨m, r, h, rh, rs, ?_⟩
    rcases Out.bindR o with ⟨d, h1, e, o⟩ | ⟨c, fs, h1, e, o⟩
    · rw [e]
      intro m1 H1 v p1 d1
      cases d1 with
      | str y =>
        simp only [fmtD] at o
        by_cases hy : y.length ≤ sizeLine
        · simp only [if_pos hy] at o
          exact .inl ⟨y, rfl, hy, o m1 H1 _ p1 (.str y)⟩
        · simp only [if_neg hy] at o; exact o.elim
      | int i =>
        simp only [fmtD] at o
        by_cases hy : i.natAbs.log2 < 1920
        · simp only [if_pos hy] at o
          exact .inr (.inl ⟨i, rfl, hy, o m1 H1 _ p1 (.str _)⟩)
        · simp only [if_neg hy] at o; exact o.elim
      | @ref n hn =>
        simp only [fmtD] at o
        cases q : deep h1 60 (.ref n) with
        | none => simp only [q] at o; exact o.elim
        | some x =>
          simp only [q] at o
          by_cases hs : showOk x = true
          · simp only [if_pos hs] at o
            exact .inr (.inr ⟨x, deep_ok p1.rel _ _ _ _ (.ref hn) q, disp_of (m := m) (.inl ⟨n, rfl⟩) q, hs, o m1 H1 _ p1 (.str _)⟩)
          · simp only [if_neg hs] at o; exact o.elim
      | @tup p xs vs h2 h3 =>
        simp only [fmtD] at o
        cases q : deep h1 60 (.tup xs) with
        | none => simp only [q] at o; exact o.elim
        | some x =>
          simp only [q] at o
          by_cases hs : showOk x = true
          · simp only [if_pos hs] at o
            exact .inr (.inr ⟨x, deep_ok p1.rel _ _ _ _ (.tup h2 h3) q, disp_of (m := m) (.inr ⟨xs, rfl⟩) q, hs, o m1 H1 _ p1 (.str _)⟩)
          · simp only [if_neg hs] at o; exact o.elim
      | non => exact o.elim
      | bl _ => exact o.elim
      | scr _ => exact o.elim
      | fn _ => exact o.elim
    · rw [e]; exact o
  refine wpAny_FormattedValue_plain (thn (ha.run pins s σ H _ I t') ?_)
  rintro v s1 ⟨x, H1, I1, r1, q⟩
  rcases q with ⟨y, rfl, hz, q⟩ | ⟨i, rfl, hz, q⟩ | ⟨y, hd, hx, hs, q⟩
  · obtain ⟨t, rfl⟩ := r1
    exact wpAny_formatField_str ⟨.str y, H1, I1, ⟨t, rfl⟩, q⟩ ⟨.str y, H1, I1.tok _, ⟨_, rfl⟩, q⟩ hz
  · obtain ⟨t, rfl⟩ := r1
    exact wpAny_formatField_int hz ⟨.str (toString i), H1, I1.tok _, ⟨_, rfl⟩, q⟩
  · obtain ⟨as, rd⟩ := Dp.reads I1 y x v hd r1
    obtain ⟨p, rfl⟩ := isRef_of_reads rd hx
    simp only [showOk, Bool.and_eq_true, decide_eq_true_eq] at hs
    obtain ⟨⟨⟨h1, h2⟩, h3⟩, h4⟩ := hs
    have h2 : y.hasDict = false := by simpa using h2
    refine formatField_of_reads rd h1 (PyData.noDict_hsm h2) hg (by omega) (fun _ _ e => e) (fun h' t tk hk => ?_) h4
    exact ⟨.str y.shown, H1, I1.kept (t' := tk) hk, ⟨t, rfl⟩, q⟩
end
end Py

set_option Elab.async false
set_option linter.all false
set_option maxRecDepth 100000
namespace Py
open PySem PySem.Spec PyProof.Rows L2
section
variable {X : Cx} {G : Gam} {E : XK} {CX : CXT} {a b c e o : Expr} {es : List Expr} {fa fb fc fo : EX} {fas : AX} {pos p2 apos cpos : Pos}
/-! ### f-strings -/
inductive PJE (X : Cx) (G : Gam) (E : XK) : List Expr → List EX → Prop where
  | nil : PJE X G E [] []
  | cons {e : Expr} {f : EX} {es : List Expr} {fs : List EX} (h : PE X e (tE G X.K E f)) (r : PJE X G E es fs) : PJE X G E (e :: es) (f :: fs)
theorem PJE.pj : ∀ {es : List Expr} {fs : List EX}, PJE X G E es fs → PJ X es (fs.map fun f => tE G X.K E f)
  | _, _, .nil => .nil
  | _, _, .cons h r => .cons h (PJE.pj r)
theorem toJoin : ∀ (fs : List EX) (acc : Str) (σ : L2.St) (H : Hp) (Q : VK) (m : Nat → Addr) (r : LS) (h : LH), RelH G X.K m h H → RelS X.K m h.length H r σ → Out G X.K E m h.length H Q (jGo fs acc r h) → tJs (fs.map fun f => tE G X.K E f) acc σ H (fun out H1 => Q (.str out) H1)
  | [], acc, σ, H, Q, m, r, h, rh, rs, o => o m H _ (Post.refl rh) (.str acc)
  | f :: fs, acc, σ, H, Q, m, r, h, rh, rs, o => by
    refine ⟨m, r, h, rh, rs, ?_⟩
    rcases Out.bindR o with ⟨d, h1, e, o⟩ | ⟨c, fs, h1, e, o⟩
    · rw [e]
      intro m1 H1 v p1 d1
      cases d1 with
      | str y =>
        simp only at o
        by_cases hl : (acc ++ y).length ≤ sizeLine
        · rw [if_pos hl] at o
          exact ⟨y, rfl, hl, toJoin fs (acc ++ y) σ H1 Q m1 r h1 p1.rel (p1.s rs) (Out.later p1 o)⟩
        · rw [if_neg hl] at o; exact o.elim
      | _ => exact o.elim
    · rw [e]; exact o
theorem xJoin {v1 v2 : Expr} {rest : List Expr} {fs : List EX} (h : PJE X G E (v1 :: v2 :: rest) fs) : PE X (.JoinedStr (v1 :: v2 :: rest) pos) (tE G X.K E (eJoin fs)) :=
  PE_mono (pe_joined h.pj) fun σ H Q ⟨m, r, h, rh, rs, o⟩ => toJoin fs Str.empty σ H Q m r h rh rs o
/-! ### isinstance -/
def Kd.nm : Kd → String
  | .non => "NoneType"
  | .bool => "bool"
  | .int => "int"
  | .str => "str"
  | .tuple => "tuple"
  | .list => "list"
  | .dict => "dict"
theorem ty_ok {m : Nat → Addr} {h : LH} {H : Hp} {d : D} {v : V} {k : Kd} (rh : RelH G X.K m h H) (rd : RelD X.K m h.length H d v) (e : kindD d h = some k) : TyX X.K H v (.type k.nm) := by
  cases rd with
  | non => cases e; exact .base .non
  | bl b => cases e; exact .base (.bl b)
  | int i => cases e; exact .base (.int i)
  | str x => cases e; exact .base (.str x)
  | tup ht _ =>
    cases e
    rcases ht.sq with (h | ⟨u, h⟩) | ⟨o, its, n, h1, h2, _⟩
    · exact .base (.tup h)
    · exact .fTuple h
    · exact .kTuple h1 h2
  | fn _ => cases e
  | scr hs =>
    cases e
    rcases hs with ⟨u, h⟩ | ⟨o, its, n, h1, h2, _⟩
    · exact .base (.frz h)
    · exact .kList h1 h2
  | @ref n hn =>
    cases z : h[n]? with
    | none => simp only [kindD, z] at e; cases e
    | some ob =>
      cases ob with
      | ins c fs => simp only [kindD, z] at e; cases e
      | hid _ => simp only [kindD, z] at e; cases e
      | dct kv =>
        simp only [kindD, z] at e
        cases e
        obtain ⟨vs, e1, _⟩ := rh.obj n _ z
        exact .base (.dK e1)
      | lst xs =>
        simp only [kindD, z] at e
        cases e
        obtain ⟨vs, e1, rv⟩ := lst_at rh z
        exact .base (.lst e1)
theorem kit_ok (K : PySem.W.Frag) (k t : Kd) (ht : t ≠ .non) : PySem.W.kitOne K (.type k.nm) (.type t.nm) = some (k.is t) := by
  cases t <;> first | exact absurd rfl ht | skip
  all_goals (cases k <;> exact kit_ty (by decide +kernel))
theorem kits_ok (K : PySem.W.Frag) (k : Kd) : ∀ ts : List Kd, (∀ t ∈ ts, t ≠ .non) → PySem.W.kitAny K (.type k.nm) (ts.map fun t => .type t.nm) = some (ts.any fun t => k.is t)
  | [], _ => rfl
  | t :: ts, h => by
    have e := kit_ok K k t (h t (List.mem_cons_self ..))
    have ih := kits_ok K k ts fun u hu => h u (List.mem_cons_of_mem _ hu)
    rw [List.map_cons]
    unfold PySem.W.kitAny
    rw [e, List.any_cons]
    cases k.is t with
    | true => rfl
    | false => rw [ih]; rfl
theorem xIsi1 {p p' : Pos} {tn : Str} (k : Kd) (hk : k ≠ .non) (hg : Gl X "isinstance") (hm : X.mg "isinstance" = none) (hgt : Gl X tn) (hmt : X.mg tn = none) (hvt : bootBuiltins tn = some (.type k.nm)) (ha : PE X a (tE G X.K E fa)) (hn : tn ≠ "__name__" := by decide) (hdb : (tn == ("__debug__" : Str)) = false := by decide)
    (s1 : starEach [a, .Name tn p'] X.env = (false, eval a X.env) :: starEach [.Name tn p'] X.env := by rfl) (s2 : starEach [.Name tn p'] X.env = (false, eval (.Name tn p') X.env) :: starEach [] X.env := by rfl) (hpl : (backTo pos (starEach [.Name tn p'] X.env)).any (·.1) = false := by rfl) :
    PE X (.Call (.Name "isinstance" p) [a, .Name tn p'] [] pos) (tE G X.K E (eIsi [k] fa)) := by
  refine PE_mono (pe_callB call_isi hg hm (by decide +kernel) (pa_cons ha (pa_cons (pe_bltn (v := .ty k.nm) hgt hmt hvt rfl hn hdb) pa_nil s2) s1) (by decide) (by decide) s1 hpl) ?_
  rintro σ H Q ⟨m, r, h, rh, rs, o⟩
  refine ⟨m, r, h, rh, rs, ?_⟩
  rcases Out.bindR o with ⟨d, h1, e, o⟩ | ⟨c, fs, h1, e, o⟩
  · rw [e]
    intro m1 H1 v p1 d1
    cases z : kindD d h1 with
    | none => simp only [z] at o; exact o.elim
    | some kd =>
      simp only [z] at o
      have e1 := kit_ok X.K kd k hk
      refine ⟨v, .ty k.nm, _, _, _, rfl, .ty _, ty_ok p1.rel d1 z, e1, ?_⟩
      have q := o m1 H1 _ p1 (.bl _)
      simpa using q
  · rw [e]; exact o
theorem xIsi2 {p p1 p2 p3 : Pos} {t1 t2 : Str} {kt : Nat} (k1 k2 : Kd) (hk1 : k1 ≠ .non) (hk2 : k2 ≠ .non) (hg : Gl X "isinstance") (hm : X.mg "isinstance" = none) (hg1 : Gl X t1) (hm1 : X.mg t1 = none) (hv1 : bootBuiltins t1 = some (.type k1.nm)) (hg2 : Gl X t2) (hm2 : X.mg t2 = none) (hv2 : bootBuiltins t2 = some (.type k2.nm))
    (ha : PE X a (tE G X.K E fa)) (hn1 : t1 ≠ "__name__" := by decide) (hd1 : (t1 == ("__debug__" : Str)) = false := by decide) (hn2 : t2 ≠ "__name__" := by decide) (hd2 : (t2 == ("__debug__" : Str)) = false := by decide)
    (s1 : starEach [a, .Tuple [.Name t1 p1, .Name t2 p2] kt p3] X.env = (false, eval a X.env) :: starEach [.Tuple [.Name t1 p1, .Name t2 p2] kt p3] X.env := by rfl)
    (s2 : starEach [.Tuple [.Name t1 p1, .Name t2 p2] kt p3] X.env = (false, eval (.Tuple [.Name t1 p1, .Name t2 p2] kt p3) X.env) :: starEach [] X.env := by rfl)
    (s3 : starEach [.Name t1 p1, .Name t2 p2] X.env = (false, eval (.Name t1 p1) X.env) :: starEach [.Name t2 p2] X.env := by rfl) (s4 : starEach [.Name t2 p2] X.env = (false, eval (.Name t2 p2) X.env) :: starEach [] X.env := by rfl)
    (hpl : (backTo pos (starEach [.Tuple [.Name t1 p1, .Name t2 p2] kt p3] X.env)).any (·.1) = false := by rfl) :
    PE X (.Call (.Name "isinstance" p) [a, .Tuple [.Name t1 p1, .Name t2 p2] kt p3] [] pos) (tE G X.K E (eIsi [k1, k2] fa)) := by
  refine PE_mono (pe_callB call_isiT hg hm (by decide +kernel) (pa_cons ha (pa_cons (pe_tup (pa_cons (pe_bltn (v := .ty k1.nm) hg1 hm1 hv1 rfl hn1 hd1) (pa_cons (pe_bltn (v := .ty k2.nm) hg2 hm2 hv2 rfl hn2 hd2) pa_nil s4) s3)) pa_nil s2) s1) (by decide) (by decide) s1 hpl) ?_
  rintro σ H Q ⟨m, r, h, rh, rs, o⟩
  refine ⟨m, r, h, rh, rs, ?_⟩
  rcases Out.bindR o with ⟨d, h1, e, o⟩ | ⟨c, fs, h1, e, o⟩
  · rw [e]
    intro m1 H1 v p1 d1
    cases z : kindD d h1 with
    | none => simp only [z] at o; exact o.elim
    | some kd =>
      simp only [z] at o
      refine ⟨by show 2 ≤ sizeLine; decide, fun q hq => ?_⟩
      have p4 := p1.rel.newT (u := .tup [.ty k1.nm, .ty k2.nm]) hq
      have e1 := kits_ok X.K kd [k1, k2] (fun t ht => by
        rcases List.mem_cons.mp ht with rfl | ht
        · exact hk1
        · rw [List.mem_singleton.mp ht]; exact hk2)
      exact ⟨v, q, _, _, _, _, rfl, upd_same, .cons (.ty _) (.cons (.ty _) .nil), ty_ok p4.rel (p4.d d1) z, e1, o m1 _ _ (p1.trans p4) (.bl _)⟩
  · rw [e]; exact o
/-! ### list(range(n)) -/
end
end Py

set_option Elab.async false
set_option linter.all false
set_option maxRecDepth 100000
namespace Py
open PySem PySem.Spec PyProof.Rows L2
/-! ### sorted of a tuple of ints -/
section
variable {prog : Program} {w : World} {A : Around} {E : Value → Shared → Prop} {s : Shared}
end
/-! sorting, as a function -/
section
variable {X : Cx} {G : Gam} {E : XK}
end
end Py

set_option Elab.async false
set_option linter.all false
set_option maxRecDepth 100000
namespace Py
open PySem PySem.Spec PyProof.Rows L2
/-! ### enumerate over a list or a tuple, from k on -/
set_option maxHeartbeats 1000000 in
theorem meets_enum1 {v : Value} {o : Obj} {H : Heap → Prop} (B : Begins v o H) :
    Meets (Builtin.«enumerate.__new__» ⟨[.type "enumerate", v], []⟩) (fun _ R s => H s.heap ∧
      R (.ok (.ret (.ref (s.heap.push o).objs.size))) { s with heap := (s.heap.push o).push { cls := .type "enumerate", data := .fields #[.none, .bool false, .ref s.heap.objs.size, rawInt 0, .none, .none] } }) :=
  .of_wp fun prog w A R s h => by
    obtain ⟨hp, g, d, tk, os⟩ := s
    obtain ⟨h1, h⟩ := h
    have sub1 := sub_enumerate
    have q1 : ∀ {A' : Around} {E : Value → Shared → Prop} {Q : Value → Shared → Prop}, Q (.ref hp.objs.size) ⟨hp.push o, g, d, tk, os⟩ → wpAny (model prog w) A' (pyIter v) Q E ⟨hp, g, d, tk, os⟩ := by
      intro A' E Q q
      exact B.iter prog w _ _ ⟨hp, g, d, tk, os⟩ _ h1 q
    wp_walk using q1
    refine wpAny_stack_any ?_
    intro st
    refine wpAny_pure ?_
    split
    · rename_i c _ _ _ _ _
      cases (c == Value.type "enumerate")
      · wp_walk using q1
        exact ⟨_, rfl, h⟩
      · wp_walk using q1
        exact ⟨_, rfl, h⟩
    · wp_walk using q1
      exact ⟨_, rfl, h⟩
section
variable {prog : Program} {w : World} {A : Around} {E : Value → Shared → Prop} {s : Shared}
theorem enum1 {v : Value} {o : Obj} {H : Heap → Prop} {Q : Value → Shared → Prop} (B : Begins v o H) (h1 : H s.heap)
    (h : ∀ h', IsEnum h' (s.heap.objs.size + 1) s.heap.objs.size 0 .none → h'.get? s.heap.objs.size = some o → (∀ b o, s.heap.get? b = some o → h'.get? b = some o) → Q (.ref (s.heap.objs.size + 1)) { s with heap := h' }) :
    wpAny (model prog w) A (call (.type "enumerate") [v]) Q E s := by
  have hz : (s.heap.push o).objs.size = s.heap.objs.size + 1 := Heap.size_push ..
  have he : IsEnum ((s.heap.push o).push { cls := .type "enumerate", data := .fields #[.none, .bool false, .ref s.heap.objs.size, rawInt 0, .none, .none] }) (s.heap.objs.size + 1) s.heap.objs.size 0 .none := by
    have q := Heap.get?_push_size (s.heap.push o) (o := { cls := .type "enumerate", data := .fields #[.none, .bool false, .ref s.heap.objs.size, rawInt 0, .none, .none] }) rfl
    rw [hz] at q
    exact q
  refine callType_new F.called_enumerate (by decide) (F.typeCall_enumerate_1 _) (F.newCall_enumerate_1 _) (fun obj => F.args_object_init_2 obj _) F.entry_enumerate_new (meets_enum1 B) ⟨h1, ?_⟩
  change _ ∧ _
  rw [hz]
  exact ⟨⟨_, he, rfl⟩, h _ he (Heap.get?_push_of_some _ (Heap.get?_push_size _ B.free)) fun b o x => Heap.get?_push_of_some _ (Heap.get?_push_of_some _ x)⟩
/-- the end, whatever the count -/
theorem enum_stop {e it : Addr} {c : Int} {old : Value} {Q : Option Value → Shared → Prop} (he : IsEnum s.heap e it c old)
    (nx : ∀ (E' : Value → Shared → Prop) (Q' : Value → Shared → Prop), (∀ h' x, Heap.ExtBut it s.heap h' → (∃ o, h'.get? x = some o ∧ o.cls = .type "StopIteration") → E' (.ref x) { s with heap := h' }) → wpAny (model prog w) A.in1 (Builtin.SmallTypes.nextOf (.ref it)) Q' E' s)
    (hQ : ∀ h', Heap.ExtBut it s.heap h' → Q none { s with heap := h' }) : wpAny (model prog w) A (pyNext (.ref e)) Q E s := by
  have ty : s.TypeIs (.ref e) "enumerate" := ⟨_, he, rfl⟩
  unfold pyNext
  refine wpAny_bind (wpAny_attempt (wpAny_callSpecial?_slot (name := Str.ofString "__next__") ty F.slot_enumerate_next (wpAny_call_entry F.slot_enumerate_next ty F.entry_enumerate_next ?_ (F.args_enumerate_next_1 _))))
  change wpAny _ _ (field (.ref e) 2 >>= _) _ _ _
  refine wpAny_bind (wpAny_field he rfl (x := .ref it) rfl ?_)
  refine wpAny_bind (nx _ _ ?_)
  rintro h' x he' ⟨o, ho, hc⟩
  refine wpAny_bind (wpAny_isInstance (T := "StopIteration") (b := true) ⟨o, ho, hc⟩ isSubtype_stop ?_)
  exact wpAny_pure (hQ _ he')
end
/-- what S tells as it stands at each turn, each item in a new pair -/
def IteS (S : Hp → List V → Prop) (k0 : Int) : It :=
  ⟨fun i H => ∃ xs x, S H xs ∧ xs[i]? = some x, fun i H v H' => ∃ T x, v = .ref T ∧ H T = none ∧ H' = upd H T (.tup [.int (k0 + (i : Nat)), x]) ∧ ∀ xs, S H xs → xs[i]? = some x, fun i H => ∃ xs, S H xs ∧ xs.length ≤ i⟩
/-- a turn of it, by what its inner iterator does -/
theorem turn_en {P : Program} {w : World} {K : PySem.W.Frag} {elts : List Expr} {kk : Nat} {tpos : Pos} (S : Hp → List V → Prop) (k0 : Int) (a e it : Addr) (st : Nat → Heap → Prop)
    (inj : ∀ (X : Cx) pins σ H s xs ys, X.K = K → L2.Inv X pins σ H s → S H xs → S H ys → xs = ys)
    (get : ∀ (X : Cx) pins σ H s xs, X.K = K → L2.Inv X pins σ H s → S H xs → ∃ its : List Value, Vals xs its ∧ (∀ i, st i s.heap → ∀ A : Around, A.handled = none → i < its.length → ∃ (P1 : Nat → Value → Prop) (St : Nat → Heap → Prop), Draws P w A it [it, a] its.length P1 St ∧ St i s.heap ∧ (∀ h, St (i + 1) h → st (i + 1) h) ∧ ∀ x, P1 i x → its[i]? = some x) ∧
      (∀ i, st i s.heap → ∀ A : Around, A.handled = none → its.length ≤ i → ∀ (E' : Value → Shared → Prop) (Q' : Value → Shared → Prop), (∀ h' x, Heap.ExtBut it s.heap h' → (∃ o, h'.get? x = some o ∧ o.cls = .type "StopIteration") → E' (.ref x) { s with heap := h' }) → wpAny (model P w) A (Builtin.SmallTypes.nextOf (.ref it)) Q' E' s))
    (obj : ∀ i h, st i h → ∃ o, h.get? it = some o ∧ ∀ v, o.data ≠ .cell v) (keep : ∀ i h h', st i h → (∀ o, h.get? it = some o → h'.get? it = some o) → st i h') :
    Turn P w K (.Tuple elts kk tpos) (IteS S k0) [e, it] e (fun i h => (∃ old, IsEnum h e it (k0 + ((i : Nat) : Int)) old) ∧ st i h ∧ e ≠ it ∧ a ≠ e) where
  mem := by simp
  obj := fun i h q b hb => by
    obtain ⟨⟨old, he⟩, hs, _⟩ := q
    rcases List.mem_cons.mp hb with z | z
    · rw [z]; exact ⟨_, he, fun v y => nomatch y⟩
    · rw [List.mem_singleton.mp z]; exact obj i h hs
  keep := fun i h h' q k => by
    obtain ⟨⟨old, he⟩, hs, h1, h2⟩ := q
    exact ⟨⟨old, k e (by simp) _ he⟩, keep i h h' hs (k it (by simp)), h1, h2⟩
  item := by
    intro X hP hw hK hc i pins s σ H E I hf q hg
    subst hP hw
    obtain ⟨⟨old, he⟩, hs, hne, hae⟩ := q
    obtain ⟨xs, x, hq, hx⟩ := hg
    obtain ⟨its, rv, g1, g2⟩ := get X pins σ H s xs hK I hq
    obtain ⟨u, hu, ru⟩ := rv.get hx
    have hil := (List.getElem?_eq_some_iff.mp hu).1
    obtain ⟨P1, St, Dr, st1, st2, hP1⟩ := g1 i hs X.A.in1 (I.ok.hd hc) hil
    have hel : e < s.heap.objs.size := Heap.lt_size he
    have hitl : it < s.heap.objs.size := by obtain ⟨_, y, _⟩ := obj i _ hs; exact Heap.lt_size y
    refine wpAny_pyNext_enum_itemC Dr he st1 hil hne ?_ ?_
    · intro hm
      rcases List.mem_cons.mp hm with z | z
      · exact hne z
      · exact hae (List.mem_singleton.mp z).symm
    · intro y h' tk hy ho st' hT hsz hk
      obtain rfl : y = u := by
        have z := hP1 y hy
        rw [hu] at z
        exact (Option.some.inj z).symm
      refine ⟨_, rfl, wpAny_letOwnedTupleGo_enum (s := { s with heap := h', toks := tk + 1 }) ho fun h'' he' sb => ?_⟩
      have hT2 : h''.get? s.heap.objs.size = some { cls := .type "tuple", data := .seq #[.int (k0 + ((i : Nat) : Int)) tk, y] } := (sb.2 _ (Nat.ne_of_gt hel)).trans hT
      have new : ObjOk X.prog X.w (upd H s.heap.objs.size (.tup [.int (k0 + (i : Nat)), x])) h'' s.heap.objs.size (.tup [.int (k0 + (i : Nat)), x]) :=
        ⟨by show 2 ≤ sizeLine; decide, [.int (k0 + ((i : Nat) : Int)) tk, y], .cons ⟨_, rfl⟩ (.cons ru .nil), ⟨_, hT2, rfl, _, rfl⟩⟩
      have I1 : L2.Inv X pins σ (upd H s.heap.objs.size (.tup [.int (k0 + (i : Nat)), x])) { s with heap := h'', toks := tk + 1 } :=
        I.turnedNew (ch := [e, it]) (fun b ob hb q => (sb.2 b (fun z => hb (by simp [z]))).trans (hk b ob (fun z => hb (by simp [z])) (fun z => hb (by simp [z])) q)) hf (Nat.le_refl _) new
      refine ⟨.ref s.heap.objs.size, _, I1, rfl, ⟨_, x, rfl, I.hok.fresh (Nat.le_refl _), rfl, fun ys hy => by rw [inj X pins σ H s ys xs hK I hy hq]; exact hx⟩, ⟨⟨y, ?_⟩, keep _ _ _ (st2 _ st') (fun o q => (sb.2 it (Ne.symm hne)).trans q), hne, hae⟩, fun b hb => ?_⟩
      · have e1 : k0 + ((i + 1 : Nat) : Int) = k0 + (i : Int) + 1 := by omega
        rw [e1]; exact he'
      · have hb' : b < s.heap.objs.size := by
          rcases List.mem_cons.mp hb with z | z
          · rw [z]; exact hel
          · rw [List.mem_singleton.mp z]; exact hitl
        rw [upd_ne (Nat.ne_of_lt hb')]
        exact (hf b hb).1
  done := by
    intro X hP hw hK hc i pins s σ H E I hf q hg
    subst hP hw
    obtain ⟨⟨old, he⟩, hs, hne, hae⟩ := q
    obtain ⟨xs, hq, hx⟩ := hg
    obtain ⟨its, rv, g1, g2⟩ := get X pins σ H s xs hK I hq
    obtain ⟨f0, f1, f2, f3, f4, f5⟩ := hf it (by simp)
    refine enum_stop he (g2 i hs X.A.in1 (I.ok.hd hc) (by rw [← rv.length]; exact hx)) ?_
    intro h' eb
    exact ⟨rfl, I.turned (t' := s.toks) (fun b o hb q => eb b o hb q) f0 f1 f3 f4 f5⟩
  self := fun A i s Q E q h => by
    obtain ⟨⟨_, he⟩, _⟩ := q
    exact wpAny_pyIter_enum he h
theorem turn_enL {P : Program} {w : World} {K : PySem.W.Frag} {elts : List Expr} {kk : Nat} {tpos : Pos} (k0 : Int) (a e it : Addr) (hai : a ≠ it) :
    Turn P w K (.Tuple elts kk tpos) (IteS (fun H xs => SqL K H a xs) k0) [e, it] e (fun i h => (∃ old, IsEnum h e it (k0 + ((i : Nat) : Int)) old) ∧ h.IsListIter it a i ∧ e ≠ it ∧ a ≠ e) := by
  refine turn_en (fun H xs => SqL K H a xs) k0 a e it (fun i h => h.IsListIter it a i) ?_ ?_ ?_ ?_
  · intro X pins σ H s xs ys hK I h1 h2
    subst hK
    exact I.list_inj h1 h2
  · intro X pins σ H s xs hK I h1
    subst hK
    obtain ⟨its, rv, p, hz⟩ := I.list h1
    refine ⟨its, rv, fun i hs A hh hi => ?_, fun i hs A hh hi E' Q' k => ?_⟩
    · have D := Draws.list (prog := P) (w := w) hh it a hai its.toArray
      rw [List.size_toArray] at D
      exact ⟨_, _, D, ⟨hs, p.isList⟩, fun h q => q.1, fun x hx => by simpa using hx⟩
    · exact wpAny_nextOf_list_end hh hs p.isList (by simp; omega) k
  · intro i h hs
    obtain ⟨o, e, c, d⟩ := hs
    exact ⟨o, e, fun v z => by rw [d] at z; cases z⟩
  · intro i h h' hs k
    exact hs.at k
theorem turn_enT {P : Program} {w : World} {K : PySem.W.Frag} {elts : List Expr} {kk : Nat} {tpos : Pos} (k0 : Int) (a e it : Addr) (hai : a ≠ it) :
    Turn P w K (.Tuple elts kk tpos) (IteS (fun H xs => SqT K H a xs) k0) [e, it] e (fun i h => (∃ old, IsEnum h e it (k0 + ((i : Nat) : Int)) old) ∧ h.IsTupleIter it a i ∧ e ≠ it ∧ a ≠ e) := by
  refine turn_en (fun H xs => SqT K H a xs) k0 a e it (fun i h => h.IsTupleIter it a i) ?_ ?_ ?_ ?_
  · intro X pins σ H s xs ys hK I h1 h2
    subst hK
    exact I.tuple_inj h1 h2
  · intro X pins σ H s xs hK I h1
    subst hK
    obtain ⟨its, rv, p, hz⟩ := I.tuple h1
    have p' : s.heap.IsTuple a its.toArray := p
    refine ⟨its, rv, fun i hs A hh hi => ?_, fun i hs A hh hi E' Q' k => ?_⟩
    · have D := Draws.tuple (prog := P) (w := w) hh it a hai its.toArray
      rw [List.size_toArray] at D
      exact ⟨_, _, D, ⟨hs, p'⟩, fun h q => q.1, fun x hx => by simpa using hx⟩
    · exact wpAny_nextOf_tuple_end hh hs p' (by simp; omega) k
  · intro i h hs
    obtain ⟨o, e, c, d⟩ := hs
    exact ⟨o, e, fun v z => by rw [d] at z; cases z⟩
  · intro i h h' hs k
    exact hs.at k
end Py

set_option Elab.async false
set_option linter.all false
set_option maxRecDepth 100000
namespace Py
open PySem PySem.Spec PyProof.Rows L2
section
variable {X : Cx} {G : Gam} {E : XK} {a : Expr} {fa : EX} {pos p : Pos} {elts : List Expr} {kk : Nat} {tpos : Pos}
/-- the source of an enumerate -/
theorem it_enL {K : PySem.W.Frag} {m0 : Nat → Addr} {h0 : LH} {H0 : Hp} {b : Addr} {s : Src} {k0 : Int} (it : ItRel G K m0 h0 H0 (Itl K b) s) : ItRel G K m0 h0 H0 (IteS (fun H xs => SqL K H b xs) k0) (.enm k0 s) := by
  intro m h H i p
  have q := it m h H i p
  simp only [srcAt]
  cases z : srcAt s h i with
  | none => trivial
  | some w =>
    cases w with
    | none =>
      simp only [z] at q
      exact q
    | some d =>
      simp only [z] at q
      obtain ⟨⟨xs, x, hs, hx⟩, y⟩ := q
      refine ⟨⟨xs, x, hs, hx⟩, ?_⟩
      rintro v H' ⟨T, x', rfl, hT, rfl, hall⟩
      have e : x' = x := by
        have := hall xs hs
        rw [hx] at this
        exact (Option.some.inj this).symm
      subst e
      obtain ⟨_, rd⟩ := y x' H ⟨rfl, fun ys hy => hall ys hy⟩
      have pp := p.rel.newT (u := .tup [.int (k0 + (i : Nat)), x']) hT
      exact ⟨pp, .tup ⟨SqT.of upd_same, .inr xn_int⟩ (.cons (.int _) (.cons (pp.d rd) .nil))⟩
theorem it_enT {K : PySem.W.Frag} {m0 : Nat → Addr} {h0 : LH} {H0 : Hp} {b : Addr} {s : Src} {k0 : Int} (it : ItRel G K m0 h0 H0 (Itt K b) s) : ItRel G K m0 h0 H0 (IteS (fun H xs => SqT K H b xs) k0) (.enm k0 s) := by
  intro m h H i p
  have q := it m h H i p
  simp only [srcAt]
  cases z : srcAt s h i with
  | none => trivial
  | some w =>
    cases w with
    | none =>
      simp only [z] at q
      exact q
    | some d =>
      simp only [z] at q
      obtain ⟨⟨xs, x, hs, hx⟩, y⟩ := q
      refine ⟨⟨xs, x, hs, hx⟩, ?_⟩
      rintro v H' ⟨T, x', rfl, hT, rfl, hall⟩
      have e : x' = x := by
        have := hall xs hs
        rw [hx] at this
        exact (Option.some.inj this).symm
      subst e
      obtain ⟨_, rd⟩ := y x' H ⟨rfl, fun ys hy => hall ys hy⟩
      have pp := p.rel.newT (u := .tup [.int (k0 + (i : Nat)), x']) hT
      exact ⟨pp, .tup ⟨SqT.of upd_same, .inr xn_int⟩ (.cons (.int _) (.cons (pp.d rd) .nil))⟩
/-- what enumerate makes of a list or a tuple -/
theorem en_pie {pins : List (Addr × Obj)} {σ : L2.St} {H1 : Hp} {s1 : Shared} {R : It → Hp → Prop} {b : Addr} {k0 : Int} {h' : Heap} {E' : Value → Shared → Prop} (I1 : L2.Inv X pins σ H1 s1) (hb : b < s1.heap.objs.size) (he : IsEnum h' (s1.heap.objs.size + 1) s1.heap.objs.size k0 .none) (hk : ∀ b o, s1.heap.get? b = some o → h'.get? b = some o) (J : It) (st : Nat → Heap → Prop)
    (T : Turn X.prog X.w X.K (.Tuple elts kk tpos) J [s1.heap.objs.size + 1, s1.heap.objs.size] (s1.heap.objs.size + 1) (fun i h => (∃ old, IsEnum h (s1.heap.objs.size + 1) s1.heap.objs.size (k0 + ((i : Nat) : Int)) old) ∧ st i h ∧ s1.heap.objs.size + 1 ≠ s1.heap.objs.size ∧ b ≠ s1.heap.objs.size + 1))
    (hs : st 0 h') (q : R J H1) : wpAny (model X.prog X.w) X.A (pyIter (.ref (s1.heap.objs.size + 1))) (PIE X pins σ (.Tuple elts kk tpos) R) E' { s1 with heap := h' } := by
  refine wpAny_pyIter_enum he ?_
  refine ⟨s1.heap.objs.size + 1, [s1.heap.objs.size + 1, s1.heap.objs.size], _, J, H1, rfl, I1.kept (t' := s1.toks) hk, T, ⟨⟨.none, ?_⟩, hs, Nat.succ_ne_self _, Nat.ne_of_lt (Nat.lt_succ_of_lt hb)⟩, ?_, q⟩
  · have e1 : k0 + ((0 : Nat) : Int) = k0 := by omega
    rw [e1]; exact he
  · intro c hc
    have hle : s1.heap.objs.size ≤ c := by
      rcases List.mem_cons.mp hc with z | z
      · rw [z]; exact Nat.le_succ _
      · rw [List.mem_singleton.mp z]; exact Nat.le_refl _
    exact I1.fpOk hle (I1.hok.fresh hle)
theorem en_run {pins : List (Addr × Obj)} {σ : L2.St} {H1 : Hp} {s1 : Shared} {R : It → Hp → Prop} {m1 : Nat → Addr} {h1 : LH} {d : D} {v : V} {u : Value} {src : Src} {k0 : Int} (I1 : L2.Inv X pins σ H1 s1) (rh : RelH G X.K m1 h1 H1) (rd : RelD X.K m1 h1.length H1 d v) (ru : RelV v u) (e : srcOf d h1 = some src)
    (q : ∀ J, ItRel G X.K m1 h1 H1 J (.enm k0 src) → R J H1) (cl : Sem Value)
    (mk : ∀ (o : Obj) (Hh : Heap → Prop) (Q : Value → Shared → Prop), Begins u o Hh → Hh s1.heap → (∀ h', IsEnum h' (s1.heap.objs.size + 1) s1.heap.objs.size k0 .none → h'.get? s1.heap.objs.size = some o → (∀ b o, s1.heap.get? b = some o → h'.get? b = some o) → Q (.ref (s1.heap.objs.size + 1)) { s1 with heap := h' }) → wpAny (model X.prog X.w) X.A cl Q X.xe s1) :
    wpAny (model X.prog X.w) X.A cl (fun v s2 => wpAny (model X.prog X.w) X.A (pyIter v) (PIE X pins σ (.Tuple elts kk tpos) R) X.xe s2) X.xe s1 := by
  obtain ⟨b, rfl, z⟩ := src_ok rh rd e
  obtain rfl : u = Value.ref b := ru
  rcases z with ⟨⟨xs, hs⟩, it⟩ | ⟨⟨xs, hs⟩, it⟩
  · obtain ⟨its, rv, p, hz⟩ := I1.list hs
    have hb : b < s1.heap.objs.size := by obtain ⟨o, n, ho, _⟩ := p; exact Heap.lt_size ho
    refine mk _ _ _ (begins_list b its.toArray) p.isList ?_
    intro h' he hi hk
    exact en_pie I1 hb he hk _ (fun i h => h.IsListIter s1.heap.objs.size b i) (turn_enL k0 b _ _ (Nat.ne_of_lt hb)) ⟨_, hi, rfl, rfl⟩ (q _ (it_enL it))
  · obtain ⟨its, rv, p, hz⟩ := I1.tuple hs
    have hb : b < s1.heap.objs.size := p.lt
    refine mk _ _ _ (begins_tuple b its.toArray) p ?_
    intro h' he hi hk
    exact en_pie I1 hb he hk _ (fun i h => h.IsTupleIter s1.heap.objs.size b i) (turn_enT k0 b _ _ (Nat.ne_of_lt hb)) ⟨_, hi, rfl, rfl⟩ (q _ (it_enT it))
theorem toEnum {k0 : Int} {σ : L2.St} {H : Hp} {R : It → Hp → Prop} (t : tI G X.K E (iEnum k0 fa) σ H R) : tE G X.K E fa σ H (fun v H1 => ∃ m1 h1 d src, RelH G X.K m1 h1 H1 ∧ RelD X.K m1 h1.length H1 d v ∧ srcOf d h1 = some src ∧ ∀ J, ItRel G X.K m1 h1 H1 J (.enm k0 src) → R J H1) := by
  obtain ⟨m, r, h, rh, rs, o⟩ := t
  refine ⟨m, r, h, rh, rs, ?_⟩
  rcases OutI.bindR o with ⟨d, h1, e, o⟩ | ⟨c, fs, h1, e, o⟩
  · rw [e]
    intro m1 H1 v p1 d1
    cases q : srcOf d h1 with
    | none => simp only [q] at o; exact o.elim
    | some src =>
      simp only [q] at o
      exact ⟨m1, h1, d, src, p1.rel, d1, q, fun J hJ => o m1 H1 J p1 hJ⟩
  · rw [e]; exact o
theorem iEnum_ok (hg : Gl X "enumerate") (hm : X.mg "enumerate" = none) (ha : PE X a (tE G X.K E fa)) (hs : starEach [a] X.env = [(false, eval a X.env)] := by rfl) : PI X (.Tuple elts kk tpos) (.Call (.Name "enumerate" p) [a] [] pos) (tI G X.K E (iEnum 0 fa)) := by
  refine ⟨fun pins s σ H R I t => ?_⟩
  have ha1 : PA X [a] (tCons (tE G X.K E fa) tNil) := pa_cons ha pa_nil (by rw [hs]; rfl)
  refine Call_ (ld_blt I hg hm boot_enumerate (PyProof.Rows.callWith_type1 (thn (ha1.run pos pins s σ H (fun vs H1 => ∃ v, vs = [v] ∧ ∃ m1 h1 d src, RelH G X.K m1 h1 H1 ∧ RelD X.K m1 h1.length H1 d v ∧ srcOf d h1 = some src ∧ ∀ J, ItRel G X.K m1 h1 H1 J (.enm 0 src) → R J H1) I ?_) ?_) hs rfl))
  · obtain ⟨m, r, h, rh, rs, o⟩ := toEnum t
    refine ⟨m, r, h, rh, rs, ?_⟩
    cases z : fa r h with
    | stuck => rw [z] at o; exact o
    | exc c fs h1 => rw [z] at o; exact o
    | ok d h1 => rw [z] at o; exact fun m1 H1 v p1 d1 => ⟨v, rfl, o m1 H1 v p1 d1⟩
  · rintro us s1 ⟨vs, H1, I1, r1, v, rfl, m1, h1, d, src, rh, rd, e, q⟩
    obtain ⟨u, rfl, ru⟩ := Vals.one r1
    exact en_run I1 rh rd ru e q _ fun o Hh Q B hH k => enum1 B hH k
end
end Py

set_option Elab.async false
set_option linter.all false
set_option maxRecDepth 100000
namespace Py
open PySem PySem.Spec PyProof.Rows L2
/-- the law's call: from the promise of its def to the walk's end -/
theorem law_end {P : Program} {w : World} {K : PySem.W.Frag} {mg mb : Str → Option Value} {k : Nat} {fa a : Addr} {fd : FuncData} {x : Str} {sp : Sp} {s1 : Shared} {vs : List Value} {ns : List Int}
    (kin : K.In s1.heap) (gl : s1.heap.Ns mainGlobals mg) (bl : s1.heap.Ns builtinsNs mb) (bb : ∀ x : Str, x ≠ "__name__" → mb x = bootBuiltins x) (lim : s1.heap.NoLimit) (hg : s1.gens = #[])
    (ha : s1.heap.get? a = some { cls := .type "list", data := .seq vs.toArray }) (hi : IntsAre vs ns) (hl : ns.length ≤ sizeLine) (hr : Room k callerA)
    (F : ∀ base : Heap, K.In base → base.Ns mainGlobals mg → FnG P w K mg base CX0 k fa fd [x] sp) (hb : ∀ (s : Shared) (u : Value), BindsTo s fd ⟨[u], []⟩ [(x, u)])
    (hsp : ∀ H : Hp, SqF K H a (ns.map V.int) → sp [.ref a] H (fun v _ => v = .bl true) fun _ _ _ => False) :
    codeAny (model P w) callerA (.call (.ref fa) ⟨[.ref a], []⟩) (fun r s' => r = .ok (.ret (.bool true)) ∧ OldK s1.heap s'.heap ∧ s'.os = s1.os ∧ AllBare s'.gens) s1 := by
  have rv : Vals (ns.map V.int) vs := vals_of_ints hi
  have lenV := hi.length
  have core : ∀ H : Hp, (∀ b, H b = none ∨ ∃ o xs, H b = some (.frz o (.lst xs))) → SqF K H a (ns.map V.int) → HOk P w H s1.heap → (∀ b, H b ≠ none → b = a) → (H a ≠ none → K.lookup a = none) →
      codeAny (model P w) callerA (.call (.ref fa) ⟨[.ref a], []⟩) (fun r s' => r = .ok (.ret (.bool true)) ∧ OldK s1.heap s'.heap ∧ s'.os = s1.os ∧ AllBare s'.gens) s1 := by
    intro H only sq hok alone noK'
    have at0 : ∀ {b : Addr} {u : HO}, H b = some u → b = a := fun {b u} e => alone b (by rw [e]; simp)
    have noD : ∀ {b : Addr} {o : Obj} {es : Array DictEntry} {ep : Nat}, s1.heap.get? b = some o → o.data = .dict es ep → H b = none := by
      intro b o es ep e d
      cases q : H b with
      | none => rfl
      | some u =>
        exfalso
        rw [at0 q, ha] at e
        cases e
        have d' : Data.seq vs.toArray _ = Data.dict es ep := d
        cases d'
    have nsK : ∀ {b : Addr} {m : Str → Option Value}, s1.heap.Ns b m → (hidT s1.heap H).Ns b m := by
      rintro b m ⟨o, es, ep, e, d, r⟩
      exact ⟨o, es, ep, hidT_get e (noD e d), d, r⟩
    have kb : K.In (hidT s1.heap H) := by
      intro b o e
      refine hidT_get (kin b o e) ?_
      cases q : H b with
      | none => rfl
      | some u =>
        exfalso
        have z := at0 q
        subst z
        rw [noK' (by rw [q]; simp)] at e
        cases e
    have mod : Mod K mg (hidT s1.heap H) := by
      obtain ⟨mc, l1, l2⟩ := lim
      exact ⟨kb, nsK gl, ⟨mb, nsK bl, bb⟩, ⟨mc, nsK l1, l2⟩⟩
    have e0 : Env0 P w K mg (hidT s1.heap H) callerA [] s1 H := by
      refine ⟨rfl, mod, fun b o e => of_hidT e, Nat.le_of_eq (hidT_size _ _), trivial, fun b hb => ?_, hok, .of_eq hg⟩
      exact absurd (show b ∈ ([] : List Addr) from hb) (by simp)
    refine codeAny_mono ((F _ kb (nsK gl)).run callerA [] s1 H ⟨[.ref a], []⟩ [.ref a] [.ref a] _ _ rfl hr e0 (hb s1 (.ref a)) (.cons rfl .nil) (hsp H sq)) ?_
    intro r s' h
    cases r with
    | error e => exact False.elim h
    | ok fl =>
      cases fl with
      | next => exact h.elim
      | brk => exact h.elim
      | cont => exact h.elim
      | ret u =>
        obtain ⟨v, H', os, bare, un, hok', r', q⟩ := h
        have q' : v = .bl true := q
        subst q'
        obtain rfl : u = Value.bool true := r'
        refine ⟨rfl, OldK.of_keep ?_, os, bare⟩
        intro b o e
        rcases only b with z | ⟨ob, xs, z⟩
        · exact un.keep b o e z (fun y => absurd (show b ∈ ([] : List Addr) from y) (by simp)) (by simp)
        · obtain ⟨e1, _⟩ := hok b _ z
          obtain ⟨e2, _⟩ := hok' b _ (un.frzs b ob _ z)
          rw [e] at e1
          cases e1
          exact e2
  cases hk : K.lookup a with
  | some o =>
    have e := kin a o hk
    rw [ha] at e
    cases e
    refine core (fun _ => none) (fun _ => .inl rfl) (.inr ⟨_, vs.toArray, _, hk, rfl, rfl, rfl, ?_, ?_⟩) (fun b u z => ?_) (fun b z => absurd rfl z) (fun z => absurd rfl z)
    · rw [List.size_toArray, lenV]; exact hl
    · simpa using rv
    · have z' : (none : Option HO) = some u := z
      cases z'
  | none =>
    refine core (upd (fun _ => none) a (.frz { cls := .type "list", data := .seq vs.toArray } (.lst (ns.map V.int)))) (fun b => ?_) (.inl ⟨_, upd_same⟩) (fun b u z => ?_) (fun b z => ?_) (fun _ => hk)
    · by_cases hb : b = a
      · subst hb; exact .inr ⟨_, _, upd_same⟩
      · exact .inl (upd_ne hb)
    · by_cases hb : b = a
      · subst hb
        rw [upd_same] at z
        cases z
        exact ⟨ha, by rw [List.length_map]; exact hl, vs, _, rv, ha⟩
      · rw [upd_ne hb] at z
        cases z
    · by_cases hb : b = a
      · exact hb
      · exact absurd (upd_ne hb) z
/-- the law's promise: True at every script of at most n ints -/
def spLaw (n : Nat) (K : PySem.W.Frag) (T : List (Addr × Str)) : Sp := fun vs H Q _ => LamX.Tabs T H ∧ ∃ (a : Addr) (ns : List Int), vs = [.ref a] ∧ SqF K H a (ns.map V.int) ∧ ns.length ≤ n ∧ ∀ H', Q (.bl true) H'
theorem law_of {n : Nat} {P : Program} {w : World} {K : PySem.W.Frag} {mg : Str → Option Value} {base : Heap} {k : Nat} {f : Addr} {fd : FuncData} {ps : List Str} {G : Gam} {cf : CF} (F : FnG P w K mg base CX0 k f fd ps (spF G K cf)) (hT : ∀ ns : List Int, ns.length ≤ n → ∃ h', cf [.scr ns] [] = .ok (.bl true) h') :
    FnG P w K mg base CX0 k f fd ps (spLaw n K G.tabs) := by
  have imp : ∀ vs H Q E, spLaw n K G.tabs vs H Q E → spF G K cf vs H Q E := by
    rintro vs H Q E ⟨tab, a, ns, rfl, hs, hl, q⟩
    obtain ⟨h', e⟩ := hT ns hl
    refine ⟨fun _ => 0, [], [.scr ns], ⟨fun k o z => by simp at z, fun i j hi => absurd hi (by simp), tab⟩, .cons (.scr hs) .nil, ?_⟩
    rw [e]
    intro m' H' v p d
    cases d
    exact q H'
  exact ⟨fun vs H Q E h => F.len vs H Q E (imp _ _ _ _ h), fun A outer s H args us vs Q E g r e b v h => F.run A outer s H args us vs Q E g r e b v (imp _ _ _ _ h)⟩
end Py

set_option Elab.async false
set_option linter.all false
set_option maxRecDepth 100000
namespace Py
open PySem PySem.Spec PyProof.Rows L2
section
variable {X : Cx} {G : Gam} {E : XK} {a b : Expr} {fa fb : EX} {pos : Pos} {rest : List Expr}
/-! ### bools alone -/
theorem yB (ha : PE X a (tE G X.K E fa)) (hs : ∀ whole, isTrue a X.env whole = (do let v ← whole; standAt a.pos; holding [v] (truthy v)) := by intro _; rfl) : PT X a (tT G X.K E (eB fa)) := by
  refine PT_mono (pt_val ha hs) ?_
  rintro σ H Q ⟨m, r, h, rh, rs, o⟩
  refine ⟨m, r, h, rh, rs, ?_⟩
  rcases OutT.bindR o with ⟨x, h1, e, o⟩ | ⟨c, fs, h1, e, o⟩
  · rw [e]
    intro m1 H1 v p d
    cases d with
    | bl k =>
      obtain ⟨b, e, o⟩ := o
      cases e
      exact ⟨_, rfl, o m1 H1 p⟩
    | _ => exact o.elim
  · rw [e]; exact o
theorem xAndB (ha : PE X a (tE G X.K E fa)) (hb : PE X (.BoolOp .And (b :: rest) pos) (tE G X.K E fb)) : PE X (.BoolOp .And (a :: b :: rest) pos) (tE G X.K E (eAndB fa fb)) := by
  refine PE_mono (pe_and ha hb) ?_
  rintro σ H Q ⟨m, r, h, rh, rs, o⟩
  refine ⟨m, r, h, rh, rs, ?_⟩
  rcases Out.bindR o with ⟨x, h1, e, o⟩ | ⟨c, fs, h1, e, o⟩
  · rw [e]
    intro m1 H1 v p d
    cases d with
    | bl k =>
      refine ⟨k, rfl, ?_⟩
      cases k with
      | true => exact iteT ⟨m1, r, h1, p.rel, p.s rs, Out.later p o⟩
      | false => exact iteF (o m1 H1 _ p (.bl false))
    | _ => exact o.elim
  · rw [e]; exact o
theorem xOrB (ha : PE X a (tE G X.K E fa)) (hb : PE X (.BoolOp .Or (b :: rest) pos) (tE G X.K E fb)) : PE X (.BoolOp .Or (a :: b :: rest) pos) (tE G X.K E (eOrB fa fb)) := by
  refine PE_mono (pe_or ha hb) ?_
  rintro σ H Q ⟨m, r, h, rh, rs, o⟩
  refine ⟨m, r, h, rh, rs, ?_⟩
  rcases Out.bindR o with ⟨x, h1, e, o⟩ | ⟨c, fs, h1, e, o⟩
  · rw [e]
    intro m1 H1 v p d
    cases d with
    | bl k =>
      refine ⟨k, rfl, ?_⟩
      cases k with
      | false => exact iteF ⟨m1, r, h1, p.rel, p.s rs, Out.later p o⟩
      | true => exact iteT (o m1 H1 _ p (.bl true))
    | _ => exact o.elim
  · rw [e]; exact o
theorem xNotB (ha : PE X a (tE G X.K E fa)) : PE X (.UnaryOp .Not a pos) (tE G X.K E (eNotB fa)) := by
  refine PE_mono (pe_not ha) ?_
  rintro σ H Q ⟨m, r, h, rh, rs, o⟩
  refine ⟨m, r, h, rh, rs, ?_⟩
  rcases Out.bindR o with ⟨x, h1, e, o⟩ | ⟨c, fs, h1, e, o⟩
  · rw [e]
    intro m1 H1 v p d
    cases d with
    | bl k => exact ⟨k, rfl, o m1 H1 _ p (.bl _)⟩
    | _ => exact o.elim
  · rw [e]; exact o
theorem xNeg (ha : PE X a (tE G X.K E fa)) : PE X (.UnaryOp .USub a pos) (tE G X.K E (e1 oNeg fa)) := by
  refine PE_mono (pe_un un_neg ha) ?_
  rintro σ H Q ⟨m, r, h, rh, rs, o⟩
  refine ⟨m, r, h, rh, rs, ?_⟩
  rcases Out.bindR o with ⟨x, h1, e, o⟩ | ⟨c, fs, h1, e, o⟩
  · rw [e]
    intro m1 H1 v p d
    cases d with
    | int i => exact ⟨i, rfl, o m1 H1 _ p (.int _)⟩
    | _ => exact o.elim
  · rw [e]; exact o
/-! ### tests of a comprehension -/
theorem ptsNil : PTs X [] (tT G X.K E (eC (.bl true))) := by
  refine ⟨fun pins s σ H Q I t => ?_⟩
  obtain ⟨m, r, h, rh, rs, b, e, o⟩ := t
  cases e
  exact pts_nil.run pins s σ H Q I (o m H (Post.refl rh))
/-- name = [..] on one line -/
theorem zSetLc {i : Nat} {y : Str} {py spos : Pos} {elt tg iter : Expr} {ifs : List Expr} {scope : Scope} {own : List (Str × Nat)} {gg : TG} {ft fe : EX} {fi : IX} {vs : List Nat} (hc : X.calm = true) (hN : X.N.Nodup) (hy : X.N[i]? = some y) (hyl : X.env.scope.names.lookup y = some .local)
    (hsw : swapsWith (.ListComp elt [⟨tg, iter, ifs, 0⟩] scope pos) (some (.Name y py)) spos.line X.env = pure true) (hi : PI X tg iter (tI G X.K E fi)) (ok : BlkOk X.N X.env.scope scope own) (hv : own.map (·.2) = vs) (hgg : TgOk X vs gg)
    (hg : ∀ (s : Shared) (H : Hp) (C : Addr) (cl : List (Str × Addr)) (fp : List Addr), PG (X.blk s H scope (compEnvC scope cl C X.env) fp) tg gg)
    (ht : ∀ (s : Shared) (H : Hp) (C : Addr) (cl : List (Str × Addr)) (fp : List Addr), PTs (X.blk s H scope (compEnvC scope cl C X.env) fp) ifs (tT G X.K E0 ft))
    (he : ∀ (s : Shared) (H : Hp) (C : Addr) (cl : List (Str × Addr)) (fp : List Addr), PE (X.blk s H scope (compEnvC scope cl C X.env) fp) elt (tE G X.K E0 fe))
    (hs : ∀ x, foldedSetIterable iter X.env x = pure x := by intro _; rfl) : PS X (.Assign [.Name y py] (.ListComp elt [⟨tg, iter, ifs, 0⟩] scope pos) spos) (tS G X.K E (sAsg (eComp vs fi ft fe) (gN i))) := by
  subst hv
  refine PS_mono (ps_setLc hc hN hy hyl hsw hi ok hg ht he hs) ?_
  rintro Z σ H ⟨m, r, h, rh, rs, o⟩
  refine toComp hgg ⟨m, r, h, rh, rs, ?_⟩
  rcases OutS.toR o with ⟨d, h1, e, o⟩ | ⟨c, fs, h1, e, o⟩
  · rw [e]
    intro m1 H1 v p1 d1
    exact o m1 H1 _ p1 (RelS.set d1 i (p1.s rs))
  · rw [e]; exact o
end
/-! ### binding -/
section
variable {K : PySem.W.Frag} {x qual : Str} {params : Arguments} {body : List Stmt} {scope : Scope} {dvs : List V} {kws : List (Str × V)} {f : Addr} {fd : FuncData} {ps : List Str}
/-- every parameter is written, none by name -/
theorem bnd_plain {n : Nat} (F : FunD K x qual params body scope [] kws f fd) (hn : ps.length = n)
    (h : ∀ (kV doc pm : Value) (an : Option Addr) (cdv ct : Value) (us : List Value), us.length = ps.length → bindArgs (PySem.W.fnOf x qual params body scope .none kV doc pm an cdv ct) ⟨us, []⟩ = pure (ps.zip us)) : Bnd K fd ps n [] bd0 := by
  intro s us ws vs zs kin r1 r2 h1 h2
  have hw : ws = [] := List.eq_nil_of_length_eq_zero h2
  subst hw
  exact ⟨us, vs, r1, F.bindsA h s us (h1.trans hn.symm), fun m N H xs es q1 q2 => q1⟩
/-- by name, no defaults: g arranges them -/
theorem bnd_kw {n : Nat} {ks : List Str} (g : {α : Type} → List α → List α → List α) (F : FunD K x qual params body scope [] kws f fd)
    (hV : ∀ {vs zs : List V} {us ws : List Value}, Vals vs us → Vals zs ws → us.length = n → ws.length = ks.length → Vals (g vs zs) (g us ws))
    (hD : ∀ {m : Nat → Addr} {N : Nat} {H : Hp} {vs zs : List V} {us ws : List D}, RelDs K m N H us vs → RelDs K m N H ws zs → us.length = n → ws.length = ks.length → RelDs K m N H (g us ws) (g vs zs))
    (h : ∀ (kV doc pm : Value) (an : Option Addr) (cdv ct : Value) (us ws : List Value), us.length = n → ws.length = ks.length → bindArgs (PySem.W.fnOf x qual params body scope .none kV doc pm an cdv ct) ⟨us, ks.zip ws⟩ = pure (ps.zip (g us ws))) : Bnd K fd ps n ks (fun a b => g a b) := by
  obtain ⟨oc, od, dV, kV, doc, pm, an, cdv, ct, osl, rfl, lk, hcd, hD0, hK⟩ := F.ex
  rcases hD0 with ⟨_, rfl⟩ | ⟨e, _⟩
  · intro s us ws vs zs kin r1 r2 h1 h2
    refine ⟨g us ws, g vs zs, hV r1 r2 h1 h2, .of_eq (h kV doc pm an cdv ct us ws h1 h2), ?_⟩
    intro m N H xs es q1 q2
    exact hD q1 q2 (by rw [q1.length, r1.length, h1]) (by rw [q2.length, r2.length, h2])
  · exact absurd rfl e
/-- a def by its body, from its facts -/
theorem fnG_D {G : Gam} {CX : CXT} {P : Program} {w : World} {mg : Str → Option Value} {base : Heap} {k : Nat} {N : List Str} {b : SX} {n kk : Nat} (F : FunD K x qual params body scope dvs kws f fd) (S : FnScope N ps scope) (hn : ps.length = n) (hk : N.length - ps.length = kk)
    (hbody : ∀ (cdv : Value) (A : Around) (outer : List Env) (s : Shared) (H : Hp) (E : XK), A.guards = some [] → Room k (A.deeper (envOfC qual scope s.heap.objs.size f cdv)) →
      PSs (cxOf CX P w K mg base N qual scope f cdv A outer s H E) body (tS G K E b)) : FnG P w K mg base CX (k + 1) f fd ps (spF G K (runF n kk b)) := by
  obtain ⟨oc, od, dV, kV, doc, pm, an, cdv, ct, osl, rfl, lk, hcd, _, _⟩ := F.ex
  exact fnG_of lk hcd S hn hk fun A outer s H E hg hr => hbody cdv A outer s H E hg hr
theorem hu64 {k : Nat} {A : Around} (r : Room k A) : A.units + 64 < cLine := r.units
theorem hu70 {k : Nat} {A : Around} (r : Room k A) : A.units + 70 < cLine := by have := r.un; omega
theorem passes0 {X : Cx} {E : XK} : Passes CX0 X E := fun _ _ _ _ _ _ _ h => h.elim
end
end Py

set_option Elab.async false
set_option linter.all false
set_option maxRecDepth 100000
/-! Own layer: repr of whole numbers. -/
namespace Py
open PySem PySem.Spec PyProof.Rows L2
section
variable {X : Cx} {G : Gam} {E : XK}
theorem rep_okB (hg : X.A.guards = some []) (hu : X.A.units + 70 < cLine) : CallR X (.builtin "repr") (rA G X.K E bRep) := by
  intro pins s σ H xs us Q I r ⟨m, h, ds, rh, rd, o⟩
  have gen : bRep ds h = bRepr ds h → wpAny (model X.prog X.w) X.A (call (.builtin "repr") us) (EP X pins σ Q) X.xe s := fun e => repr_okB hg hu pins s σ H xs us Q I r ⟨m, h, ds, rh, rd, e ▸ o⟩
  cases rd with
  | nil => exact gen rfl
  | @cons d v ds vs a b =>
    cases b with
    | cons _ _ => exact gen (by cases d <;> rfl)
    | nil =>
      cases a with
      | int i =>
        by_cases c : i.natAbs.log2 < 1920
        · refine SkE.call_repr_int pins s σ H _ us Q I r ⟨i, rfl, c, ?_⟩
          have e : bRep [.int i] h = .ok (.str (toString i)) h := if_pos c
          rw [e] at o
          exact o m H _ (Post.refl rh) (.str _)
        · have e : bRep [.int i] h = .stuck := if_neg c
          rw [e] at o; exact o.elim
      | _ => exact gen rfl
def isBv (b : Bool) : V → Bool
  | .bl c => c == b
  | _ => false
theorem is_bool_gen {M : Model} {A : Around} {E : Value → Shared → Prop} {s : Shared} {Q : Value → Shared → Prop} {x : V} {v : Value} {b : Bool} (r : RelV x v) (d : (∃ c, x = .bl c) ∨ x = .non ∨ (∃ i, x = .int i) ∨ (∃ i, x = .str i) ∨ ∃ i, x = .ref i) (h : Q (.bool (isBv b x)) s) : wpAny M A (compareOp .Is v (.bool b)) Q E s := by
  rcases d with ⟨c, rfl⟩ | rfl | ⟨c, rfl⟩ | ⟨c, rfl⟩ | ⟨c, rfl⟩
  · cases r; cases c <;> cases b <;> exact wpAny_pure h
  · cases r; exact wpAny_pure h
  · obtain ⟨t, rfl⟩ := r; exact wpAny_pure h
  · obtain ⟨t, rfl⟩ := r; exact wpAny_pure h
  · cases r; exact wpAny_pure h
def tIsB (b : Bool) (ta : TE) : TE := fun σ H Q => ta σ H fun x H1 => ((∃ c, x = .bl c) ∨ x = .non ∨ (∃ i, x = .int i) ∨ (∃ i, x = .str i) ∨ ∃ i, x = .ref i) ∧ Q (.bl (isBv b x)) H1
variable {a : Expr} {fa : EX} {pos : Pos}
theorem pc_isB {ta : TE} {b : Bool} {j pos'} (ha : PE X a ta) : PC X .Is a (.Constant (.bool b) j pos') (tIsB b ta) := by
  refine ⟨fun pins s σ H Q I h => ?_⟩
  refine thn (ha.run pins s σ H _ I h) fun v s1 ⟨x, H1, I1, r1, q1⟩ => ?_
  exact Constant_bool (is_bool_gen r1 q1.1 ⟨.bl _, H1, I1, rfl, q1.2⟩)
theorem xIsB {b : Bool} {j pos'} (ha : PE X a (tE G X.K E fa)) : PE X (.Compare a [.Is] [.Constant (.bool b) j pos'] pos) (tE G X.K E (e1 (oIsB b) fa)) := by
  refine PE_mono (pe_cmp (pc_isB ha)) ?_
  rintro σ H Q ⟨m, r, h, rh, rs, o⟩
  refine ⟨m, r, h, rh, rs, ?_⟩
  rcases Out.bindR o with ⟨x, h1, e, o⟩ | ⟨c, fs, h1, e, o⟩
  · rw [e]
    intro m1 H1 v p1 d1
    cases d1 with
    | bl c => exact ⟨.inl ⟨_, rfl⟩, o m1 H1 _ p1 (.bl _)⟩
    | non => exact ⟨.inr (.inl rfl), o m1 H1 _ p1 (.bl _)⟩
    | int i => exact ⟨.inr (.inr (.inl ⟨_, rfl⟩)), o m1 H1 _ p1 (.bl _)⟩
    | str i => exact ⟨.inr (.inr (.inr (.inl ⟨_, rfl⟩))), o m1 H1 _ p1 (.bl _)⟩
    | tup _ _ => exact ⟨.inr (.inr (.inr (.inr ⟨_, rfl⟩))), o m1 H1 _ p1 (.bl _)⟩
    | ref _ => exact ⟨.inr (.inr (.inr (.inr ⟨_, rfl⟩))), o m1 H1 _ p1 (.bl _)⟩
    | scr _ => exact ⟨.inr (.inr (.inr (.inr ⟨_, rfl⟩))), o m1 H1 _ p1 (.bl _)⟩
    | fn _ => exact ⟨.inr (.inr (.inr (.inr ⟨_, rfl⟩))), o m1 H1 _ p1 (.bl _)⟩
  · rw [e]; exact o
theorem zPar3 {i j l : Nat} {x y z : Str} {a b c : Expr} {fa : AX} {px py pz pt : Pos} {kt k2 pt2} (hc : X.calm = true) (hN : X.N.Nodup) (hi : X.N[i]? = some x) (hj : X.N[j]? = some y) (hl : X.N[l]? = some z) (hij : i ≠ j) (hil : i ≠ l) (hjl : j ≠ l)
    (hx : X.env.scope.names.lookup x = some .local) (hy : X.env.scope.names.lookup y = some .local) (hz : X.env.scope.names.lookup z = some .local) (ha : PA X [a, b, c] (tA G X.K E fa))
    (hw : swappedStores [.Tuple [.Name x px, .Name y py, .Name z pz] kt pt] (.Tuple [a, b, c] k2 pt2) X.env = pure (some [x, y, z])) (hs : swapsWithSole [.Tuple [.Name x px, .Name y py, .Name z pz] kt pt] (.Tuple [a, b, c] k2 pt2) pos.line X.env = pure false := by rfl) :
    PS X (.Assign [.Tuple [.Name x px, .Name y py, .Name z pz] kt pt] (.Tuple [a, b, c] k2 pt2) pos) (tS G X.K E (sPar3 i j l fa)) := by
  refine PS_mono (ps_par3 hc hN hi hj hl hij hil hjl hx hy hz ha hw hs) ?_
  rintro Z σ H ⟨m, r, h, rh, rs, o⟩
  refine ⟨m, r, h, rh, rs, ?_⟩
  rcases OutS.toR o with ⟨ds, h1, e, o⟩ | ⟨c, fs, h1, e, o⟩
  · rw [e]
    intro m1 H1 vs p1 d1
    cases d1 with
    | nil => exact o.elim
    | cons a1 b1 =>
      cases b1 with
      | nil => exact o.elim
      | cons a2 b2 =>
        cases b2 with
        | nil => exact o.elim
        | cons a3 b3 =>
          cases b3 with
          | nil => exact ⟨_, _, _, rfl, o m1 H1 _ p1 (RelS.set a3 _ (RelS.set a2 _ (RelS.set a1 _ (p1.s rs))))⟩
          | cons a4 b4 => exact o.elim
  · rw [e]; exact o
/-! ### list(range(a, b)) -/
end
section
variable {K : PySem.W.Frag} {x qual : Str} {params : Arguments} {body : List Stmt} {scope : Scope} {dvs : List V} {kws : List (Str × V)} {f : Addr} {fd : FuncData} {ps : List Str}
end
end Py

set_option Elab.async false
set_option linter.all false
set_option maxRecDepth 100000
/-! Own layer: isinstance of own classes, == by an own __eq__. -/
namespace Py
open PySem PySem.Spec PyProof.Rows L2
/-- what isinstance asks of an own class -/
structure ClsI (K : PySem.W.Frag) (C : Addr) : Prop where
  cl : Cls K C
  ha : PySem.W.findIn K (.ref C) "__class__" = some (some (.builtin "object.__class__"))
  hn : PySem.W.specialIn K (.builtin "object.__class__") "__get__" = some (some (.builtin "getset_descriptor.__get__"))
  htk : PySem.W.takesIn K (.builtin "object.__class__") = some true
  hm : PySem.W.mroIn K C (.type "object") = some true
section
variable {X : Cx} {G : Gam} {E : XK} {CX : CXT}
theorem tyX_ins {m : Nat → Addr} {h : LH} {H : Hp} {n c : Nat} {fs : List (Nat × D)} (rh : RelH G X.K m h H) (z : h[n]? = some (.ins c fs)) (ci : ClsI X.K (G.cl c)) : TyX X.K H (.ref (m n)) (.ref (G.cl c)) := by
  obtain ⟨dx, vs, e1, _⟩ := rh.obj n _ z
  exact .base (.ins e1 ci.cl ci.ha ci.hn ci.htk ci.hm)
variable {a : Expr} {fa : EX} {pos : Pos}
theorem xIsO {p p' : Pos} {tn : Str} {C : Addr} {f : Nat → Option Bool} (hg : Gl X "isinstance") (hm : X.mg "isinstance" = none) (hgt : Gl X tn) (hmt : X.mg tn = some (.ref C)) (hf : ∀ c b, f c = some b → ClsI X.K (G.cl c) ∧ PySem.W.kitOne X.K (.ref (G.cl c)) (.ref C) = some b)
    (hk : ∀ k : Kd, PySem.W.kitOne X.K (.type k.nm) (.ref C) = some false) (ha : PE X a (tE G X.K E fa)) (hdb : (tn == ("__debug__" : Str)) = false := by decide)
    (s1 : starEach [a, .Name tn p'] X.env = (false, eval a X.env) :: starEach [.Name tn p'] X.env := by rfl) (s2 : starEach [.Name tn p'] X.env = (false, eval (.Name tn p') X.env) :: starEach [] X.env := by rfl) (hpl : (backTo pos (starEach [.Name tn p'] X.env)).any (·.1) = false := by rfl) :
    PE X (.Call (.Name "isinstance" p) [a, .Name tn p'] [] pos) (tE G X.K E (e1 (oIsO f) fa)) := by
  refine PE_mono (pe_callB call_isi hg hm (by decide +kernel) (pa_cons ha (pa_cons (pe_glob (v := .ref C) hgt hmt rfl hdb) pa_nil s2) s1) (by decide) (by decide) s1 hpl) ?_
  rintro σ H Q ⟨m, r, h, rh, rs, o⟩
  refine ⟨m, r, h, rh, rs, ?_⟩
  rcases Out.bindR o with ⟨d, h1, e, o⟩ | ⟨c, fs, h1, e, o⟩
  · rw [e]
    intro m1 H1 v p1 d1
    have kd : ∀ k, kindD d h1 = some k → oIsO f d h1 = .ok (.bl false) h1 → rIsi X.K [v, V.ref C] H1 Q := by
      intro k z e2
      rw [e2] at o
      exact ⟨v, .ref C, _, _, _, rfl, .own _, ty_ok p1.rel d1 z, hk k, o m1 H1 _ p1 (.bl _)⟩
    cases d1 with
    | non => exact kd _ rfl rfl
    | bl _ => exact kd _ rfl rfl
    | int _ => exact kd _ rfl rfl
    | str _ => exact kd _ rfl rfl
    | tup _ _ => exact kd _ rfl rfl
    | scr _ => exact kd _ rfl rfl
    | fn _ => exact o.elim
    | @ref n hn =>
      cases z : h1[n]? with
      | none => simp only [oIsO, z] at o; exact o.elim
      | some ob =>
        cases ob with
        | lst xs => exact kd .list (by simp only [kindD, z]) (by simp only [oIsO, z])
        | dct kv => exact kd .dict (by simp only [kindD, z]) (by simp only [oIsO, z])
        | hid _ => simp only [oIsO, z] at o; exact o.elim
        | ins c fs =>
          simp only [oIsO, z] at o
          cases q : f c with
          | none => simp only [q] at o; exact o.elim
          | some b =>
            simp only [q] at o
            obtain ⟨ci, ck⟩ := hf c b q
            exact ⟨_, .ref C, _, _, _, rfl, .own _, tyX_ins p1.rel z ci, ck, o m1 H1 _ p1 (.bl _)⟩
  · rw [e]; exact o
def isTyV : Value → Bool
  | .type _ => true
  | _ => false
theorem noref {C : Addr} : ∀ {l : List Value}, l.all isTyV = true → l.contains (.ref C) = false
  | [], _ => rfl
  | v :: l, h => by
    rw [List.all_cons, Bool.and_eq_true] at h
    rw [List.contains_cons, noref h.2, Bool.or_false]
    cases v with
    | type T => rfl
    | _ => exact Bool.noConfusion h.1
theorem nf_ty {K : PySem.W.Frag} {C : Addr} (k : Kd) : PySem.W.notFirst K C (.type k.nm) = true := by
  have e : (fastBuiltinMro k.nm).map (·.all isTyV) = some true := by cases k <;> decide +kernel
  obtain ⟨l, e1, e2⟩ := Option.map_eq_some_iff.mp e
  unfold PySem.W.notFirst PySem.W.subIn
  simp only [e1, Option.map_some, noref e2]
  simp
theorem kit_own {K : PySem.W.Frag} {C : Addr} (h : ((PySem.W.clsIn K C).isSome && PySem.W.typeIn K (.ref C) == some (.type "type")) = true) (k : Kd) : PySem.W.kitOne K (.type k.nm) (.ref C) = some false := by
  have e : (fastBuiltinMro k.nm).map (·.all isTyV) = some true := by cases k <;> decide +kernel
  obtain ⟨l, e1, e2⟩ := Option.map_eq_some_iff.mp e
  have ne : (Value.type k.nm == Value.ref C) = false := rfl
  unfold PySem.W.kitOne PySem.W.kitCls PySem.W.subIn
  simp only [ne, Bool.false_eq_true, if_false, h, if_true, e1, Option.map_some, noref e2]
theorem kit_same {K : PySem.W.Frag} {C : Addr} : PySem.W.kitOne K (.ref C) (.ref C) = some true := by
  unfold PySem.W.kitOne
  simp
theorem eqO_ok {k c : Nat} {f : Addr} {fd : FuncData} {ps : List Str} {cf : CF} (F : FnG X.prog X.w X.K X.mg X.base CX k f fd ps (spF G X.K cf)) (hg : X.A.guards = some []) (hr : Room k X.A) (hx : Passes CX X E) (hb : Bnd X.K fd ps 2 [] bd0)
    (hs : PySem.W.findIn X.K (.ref (G.cl c)) "__eq__" = some (some (.ref f))) (hf : PySem.W.isFn X.K (.ref f) = true) (ci : ClsI X.K (G.cl c)) (hu : X.A.units + 64 < cLine) : OpR X (compareOp .Eq) (r2 G X.K E (oEqO c cf false)) := by
  intro pins s σ H x y v u Q I rx ry ⟨m, h, dx, dy, rh, d1, d2, o⟩
  have gen : oEqO c cf false dx dy h = oEq false dx dy h → wpAny (model X.prog X.w) X.A (compareOp .Eq v u) (EP X pins σ Q) X.xe s := fun e => eq_ok hu pins s σ H x y v u Q I rx ry ⟨m, h, dx, dy, rh, d1, d2, e ▸ o⟩
  cases d1 with
  | @ref n hn =>
    cases z : h[n]? with
    | none => exact gen (by simp only [oEqO, z])
    | some ob =>
      cases ob with
      | lst xs => exact gen (by simp only [oEqO, z])
      | dct kv => exact gen (by simp only [oEqO, z])
      | hid _ => exact gen (by simp only [oEqO, z])
      | ins c' fs =>
        simp only [oEqO, z] at o
        by_cases hc : c' = c ∧ rightOk c dy h = true
        · rw [if_pos hc] at o
          obtain ⟨rfl, hro⟩ := hc
          obtain ⟨dx', vs, e1, rf⟩ := rh.obj n _ z
          obtain rfl : v = Value.ref (m n) := rx
          obtain ⟨mA, O1, _⟩ := ins_get I.hok e1
          obtain ⟨od, J, _⟩ := O1.look
          obtain ⟨mm, Fr1⟩ := I.fr
          have hty : ∃ t, TyX X.K H y t ∧ PySem.W.notFirst X.K (G.cl c') t = true := by
            have kd : ∀ kk, kindD dy h = some kk → ∃ t, TyX X.K H y t ∧ PySem.W.notFirst X.K (G.cl c') t = true := fun kk zz => ⟨_, ty_ok rh d2 zz, nf_ty kk⟩
            cases d2 with
            | non => exact kd _ rfl
            | bl _ => exact kd _ rfl
            | int _ => exact kd _ rfl
            | str _ => exact kd _ rfl
            | tup _ _ => exact kd _ rfl
            | scr _ => exact kd _ rfl
            | fn _ => exact absurd hro (by simp [rightOk])
            | @ref n2 hn2 =>
              cases z2 : h[n2]? with
              | none => simp only [rightOk, z2] at hro; cases hro
              | some ob2 =>
                cases ob2 with
                | lst xs => exact kd .list (by simp only [kindD, z2])
                | dct kv => exact kd .dict (by simp only [kindD, z2])
                | hid _ => simp only [rightOk, z2] at hro; cases hro
                | ins c2 fs2 =>
                  simp only [rightOk, z2] at hro
                  have : c2 = c' := by simpa using hro
                  subst this
                  exact ⟨_, tyX_ins rh z2 ci, by simp [PySem.W.notFirst]⟩
          obtain ⟨t, ty, hnf⟩ := hty
          obtain ⟨Pk, kx, pk, _⟩ := kit_of I ry ty
          refine PySem.W.cmp_K (op := .Eq) (by omega) Fr1 I.ok.mod.kin J (kx.ty _ _ I.kIn pk) hnf hs hf ?_
          obtain ⟨us2, vs2, q1, q2, q3⟩ := hb s [.ref (m n), u] [] [.ref (m n), y] [] I.kIn (.cons rfl (.cons ry .nil)) .nil rfl rfl
          refine thn (runG F hg hr hx I q2 q1 (Q := fun w H2 => ∃ b, w = .bl b ∧ Q (.bl b) H2) ⟨m, h, _, rh, q3 _ _ _ _ _ (.cons (.ref hn) (.cons d2 .nil)) .nil, ?_⟩) ?_
          · rcases Out.bindR o with ⟨w, h2, e, o⟩ | ⟨cc, fs2, h2, e, o⟩
            · show Out _ _ _ _ _ _ _ (cf [.ref n, dy] h)
              rw [e]
              intro m2 H2 w2 p2 d2
              cases d2 with
              | bl b => exact ⟨b, rfl, o m2 H2 _ p2 (.bl _)⟩
              | _ => exact o.elim
            · show Out _ _ _ _ _ _ _ (cf [.ref n, dy] h)
              rw [e]; exact o
          · rintro w s2 ⟨w2, H2, I2, rw2, b, rfl, q⟩
            obtain rfl : w = Value.bool b := rw2
            exact ⟨.bl b, H2, I2, rfl, q⟩
        · rw [if_neg hc] at o; exact o.elim
  | _ => exact gen rfl
end
end Py

set_option Elab.async false
set_option linter.all false
set_option maxRecDepth 100000
/-! Own layer: != where __eq__ is own and __ne__ is object's. -/
namespace Py
open PySem PySem.Spec PyProof.Rows L2 PySem.W
open Builtin
section
variable {prog : Program} {w : World} {A : Around} {E : Value → Shared → Prop} {s : Shared} {K : Frag} {x C L f : Addr} {h₀ : Heap} {m : Str → Option Value} {ox : Obj} {od : Option Obj} {b tb : Value}
theorem ne_entry {Q : Fin → Shared → Prop} (X : K.In s.heap) (I : InstAt s.heap x ox C od) (hu : A.units < cLine) (hs : findIn K (.ref C) "__eq__" = some (some (.ref f))) (hf : isFn K (.ref f) = true)
    (hcall : wpAny (model prog w) A (call (.ref f) [.ref x, b]) (fun v s' => ∃ r, v = .bool r ∧ Q (.done (.ret (.bool (!r)))) s') E s) :
    wpAny (model prog w) A (Builtin.«object.__ne__» ⟨[.ref x, b], []⟩) Q E s := by
  unfold Builtin.«object.__ne__»
  have key : wpAny (model prog w) A (callSpecialIfBound? (.ref x) (Str.ofString "__eq__") [b]) (fun r s' => ∃ k, r = some (.bool k) ∧ Q (.done (.ret (.bool (!k)))) s') E s :=
    ifBound_K X I hs hf (wpAny_mono hcall (fun v s' hv => by obtain ⟨k, rfl, hq⟩ := hv; exact ⟨k, rfl, hq⟩) fun _ _ e => e)
  obtain ⟨hp, g, d, t, os⟩ := s
  repeat (first
    | with_reducible refine wpAny_cRoomFor hu ?_
    | (refine wpAny_bind (m := callSpecialIfBound? (.ref x) (Str.ofString "__eq__") [b]) (wpAny_mono key (fun r s' hr => by
        obtain ⟨k, rfl, hq⟩ := hr
        repeat (first | exact hq | exact wpAny_pure hq | exact wpAny_truthy_bool hq | (refine wpAny_bind (m := truthy (.bool _)) (wpAny_truthy_bool ?_)) | wp_step)) fun _ _ e => e))
    | wp_step)
theorem ne_K {Q : Value → Shared → Prop} (hu : A.units + 1 < cLine) (F : Fr h₀ L s.heap m) (X₀ : K.In h₀) (I : InstAt s.heap x ox C od) (hb : Looks (model prog w) s.heap (typeOf b) tb) (hn : notFirst K C tb = true)
    (hne : findIn K (.ref C) "__ne__" = some (some (.builtin "object.__ne__"))) (hm : mroIn K C (.type "object") = some true) (hs : findIn K (.ref C) "__eq__" = some (some (.ref f))) (hf : isFn K (.ref f) = true)
    (h : wpAny (model prog w) A.in1 (call (.ref f) [.ref x, b]) (fun v s' => ∃ r, v = .bool r ∧ Q (.bool (!r)) s') E s) : wpAny (model prog w) A (richCompare .NotEq (.ref x) b) Q E s := by
  have X := X₀.keeps F.keep
  have bnd : ∀ self : Value, bindSpecial (.builtin "object.__ne__") self = pure (.builtin "object.__ne__", [self]) := fun self => PySem.F.cmp_object.ne.bind self
  have cl : wpAny (model prog w) A (call (.builtin "object.__ne__") ([.ref x] ++ [b])) (fun v s' => ∃ r, v = .bool r ∧ Q (.bool r) s') E s := by
    refine wpAny_call (codeAny_call_builtin PySem.F.cmp_object.ne.plain PySem.F.cmpEntry_ne (check_slot PySem.F.cmpKind_ne PySem.F.cmpSplit_ne (I.type.andThen (looks_mroIn X hm)) (PySem.F.cmpArgs_ne _ _) ?_))
    refine ne_entry (A := A.in1) X I (by exact hu) hs hf (wpAny_mono h (fun v s' hv => ?_) fun _ _ e => e)
    obtain ⟨r, rfl, hq⟩ := hv
    exact ⟨r, rfl, _, rfl, hq⟩
  have ifb : ∀ {R : Option Value → Shared → Prop}, wpAny (model prog w) A (call (.builtin "object.__ne__") ([.ref x] ++ [b])) (fun v => R (some v)) E s → wpAny (model prog w) A (callSpecialIfBound? (.ref x) (cmpInfo .NotEq).2.1 [b]) R E s := by
    intro R hR
    simp only [callSpecialIfBound?, bindSpecialIfBound?]
    refine wpAny_holding (wpAny_bind (wpAny_bind (wpAny_bind (I.type.here ((looks_findIn X hne).here ?_)))))
    refine wpAny_bind (wpAny_askSetting (wpAny_ite ?_))
    have fin : wpAny (model prog w) A (call (.builtin "object.__ne__") ([.ref x] ++ [b]) >>= fun v => pure (some v)) R E s := wpAny_bind (wpAny_mono hR (fun v s' h' => wpAny_pure h') fun _ _ h' => h')
    split
    · exact wpAny_bind ((Looks.of_pure (bnd _)).here (wpAny_pure (by exact fin)))
    · exact wpAny_tryCatch (wpAny_bind ((Looks.of_pure (bnd _)).here (wpAny_pure (by exact fin))))
  have one : wpAny (model prog w) A (tryCompare (.ref x) (cmpInfo .NotEq).2.1 b) (fun r s' => ∃ v, r = some v ∧ Q v s') E s := by
    unfold tryCompare
    refine wpAny_bind (ifb (wpAny_mono cl (fun v s' hv => ?_) fun _ _ e => e))
    obtain ⟨r, rfl, hq⟩ := hv
    exact wpAny_pure ⟨_, rfl, hq⟩
  unfold richCompare
  simp only [oneThing_ref]
  refine wpAny_holding (wpAny_bind (wpAny_cRoomFor (Nat.lt_of_succ_lt hu) ?_))
  refine wpAny_bind (I.type.here (wpAny_bind (hb.here ?_)))
  split
  · rename_i q
    have e : subIn K tb (.ref C) = some false := by
      rcases Bool.or_eq_true_iff.mp hn with e | e
      · rw [beq_iff_eq.mp e] at q; simp at q
      · exact beq_iff_eq.mp e
    refine wpAny_bind ((looks_subIn X e).here ?_)
    simp only [Bool.false_eq_true, if_false]
    refine wpAny_bind (wpAny_mono one (fun r s' z => ?_) fun _ _ e => e)
    obtain ⟨v, rfl, hq⟩ := z
    exact wpAny_pure hq
  · refine wpAny_bind (wpAny_pure ?_)
    simp only [Bool.false_eq_true, if_false]
    refine wpAny_bind (wpAny_mono one (fun r s' z => ?_) fun _ _ e => e)
    obtain ⟨v, rfl, hq⟩ := z
    exact wpAny_pure hq
end
section
variable {X : Cx} {G : Gam} {E : XK} {CX : CXT}
theorem neO_ok {k c : Nat} {f : Addr} {fd : FuncData} {ps : List Str} {cf : CF} (F : FnG X.prog X.w X.K X.mg X.base CX k f fd ps (spF G X.K cf)) (hg : X.A.guards = some []) (hr : Room (k + 1) X.A) (hx : Passes CX X E) (hb : Bnd X.K fd ps 2 [] bd0)
    (hs : PySem.W.findIn X.K (.ref (G.cl c)) "__eq__" = some (some (.ref f))) (hf : PySem.W.isFn X.K (.ref f) = true) (hne : PySem.W.findIn X.K (.ref (G.cl c)) "__ne__" = some (some (.builtin "object.__ne__"))) (ci : ClsI X.K (G.cl c)) (hu : X.A.units + 64 < cLine) : OpR X (compareOp .NotEq) (r2 G X.K E (oEqO c cf true)) := by
  intro pins s σ H x y v u Q I rx ry ⟨m, h, dx, dy, rh, d1, d2, o⟩
  have gen : oEqO c cf true dx dy h = oEq true dx dy h → wpAny (model X.prog X.w) X.A (compareOp .NotEq v u) (EP X pins σ Q) X.xe s := fun e => ne_ok hu pins s σ H x y v u Q I rx ry ⟨m, h, dx, dy, rh, d1, d2, e ▸ o⟩
  cases d1 with
  | @ref n hn =>
    cases z : h[n]? with
    | none => exact gen (by simp only [oEqO, z])
    | some ob =>
      cases ob with
      | lst xs => exact gen (by simp only [oEqO, z])
      | dct kv => exact gen (by simp only [oEqO, z])
      | hid _ => exact gen (by simp only [oEqO, z])
      | ins c' fs =>
        simp only [oEqO, z] at o
        by_cases hc : c' = c ∧ rightOk c dy h = true
        · rw [if_pos hc] at o
          obtain ⟨rfl, hro⟩ := hc
          obtain ⟨dx', vs, e1, rf⟩ := rh.obj n _ z
          obtain rfl : v = Value.ref (m n) := rx
          obtain ⟨mA, O1, _⟩ := ins_get I.hok e1
          obtain ⟨od, J, _⟩ := O1.look
          obtain ⟨mm, Fr1⟩ := I.fr
          have hty : ∃ t, TyX X.K H y t ∧ PySem.W.notFirst X.K (G.cl c') t = true := by
            have kd : ∀ kk, kindD dy h = some kk → ∃ t, TyX X.K H y t ∧ PySem.W.notFirst X.K (G.cl c') t = true := fun kk zz => ⟨_, ty_ok rh d2 zz, nf_ty kk⟩
            cases d2 with
            | non => exact kd _ rfl
            | bl _ => exact kd _ rfl
            | int _ => exact kd _ rfl
            | str _ => exact kd _ rfl
            | tup _ _ => exact kd _ rfl
            | scr _ => exact kd _ rfl
            | fn _ => exact absurd hro (by simp [rightOk])
            | @ref n2 hn2 =>
              cases z2 : h[n2]? with
              | none => simp only [rightOk, z2] at hro; cases hro
              | some ob2 =>
                cases ob2 with
                | lst xs => exact kd .list (by simp only [kindD, z2])
                | dct kv => exact kd .dict (by simp only [kindD, z2])
                | hid _ => simp only [rightOk, z2] at hro; cases hro
                | ins c2 fs2 =>
                  simp only [rightOk, z2] at hro
                  have : c2 = c' := by simpa using hro
                  subst this
                  exact ⟨_, tyX_ins rh z2 ci, by simp [PySem.W.notFirst]⟩
          obtain ⟨t, ty, hnf⟩ := hty
          obtain ⟨Pk, kx, pk, _⟩ := kit_of I ry ty
          refine Py.ne_K (by omega) Fr1 I.ok.mod.kin J (kx.ty _ _ I.kIn pk) hnf hne ci.hm hs hf ?_
          obtain ⟨us2, vs2, q1, q2, q3⟩ := hb s [.ref (m n), u] [] [.ref (m n), y] [] I.kIn (.cons rfl (.cons ry .nil)) .nil rfl rfl
          refine thn (runG1 F hg hr hx I q2 q1 (Q := fun w H2 => ∃ b, w = .bl b ∧ Q (.bl (!b)) H2) ⟨m, h, _, rh, q3 _ _ _ _ _ (.cons (.ref hn) (.cons d2 .nil)) .nil, ?_⟩) ?_
          · rcases Out.bindR o with ⟨w, h2, e, o⟩ | ⟨cc, fs2, h2, e, o⟩
            · show Out _ _ _ _ _ _ _ (cf [.ref n, dy] h)
              rw [e]
              intro m2 H2 w2 p2 d2
              cases d2 with
              | bl b => exact ⟨b, rfl, o m2 H2 _ p2 (.bl _)⟩
              | _ => exact o.elim
            · show Out _ _ _ _ _ _ _ (cf [.ref n, dy] h)
              rw [e]; exact o
          · rintro w s2 ⟨w2, H2, I2, rw2, b, rfl, q⟩
            obtain rfl : w = Value.bool b := rw2
            exact ⟨b, rfl, .bl _, H2, I2, rfl, q⟩
        · rw [if_neg hc] at o; exact o.elim
  | _ => exact gen rfl
end
end Py

set_option Elab.async false
set_option linter.all false
set_option maxRecDepth 100000
/-! Own layer: pop(i), extend, reverse of lists. -/
namespace Py
open PySem PySem.Spec PyProof.Rows L2
section
variable {X : Cx} {G : Gam} {E : XK} {o a : Expr} {fo : EX} {fas : AX} {apos cpos : Pos}
theorem RelDs.erase {K : PySem.W.Frag} {m : Nat → Addr} {N : Nat} {H : Hp} : ∀ {xs : List D} {vs : List V} (k : Nat), RelDs K m N H xs vs → RelDs K m N H (xs.eraseIdx k) (vs.eraseIdx k)
  | _, _, _, .nil => .nil
  | _, _, 0, .cons _ r => r
  | _, _, k + 1, .cons h r => .cons h (RelDs.erase k r)
theorem xExtend (ho : PE X o (tE G X.K E fo)) (ha : PA X [a] (tA G X.K E fas))
    (hbase : attributeBase o "extend" X.env (eval o X.env) = eval o X.env := by rfl)
    (hfew : ((backTo cpos (starEach [a] X.env)).all (fun x => !x.1) && (backToKw cpos (keywordEach [] X.env)).all (fun x => x.1.isSome)
      && decide ([a].length + ([] : List Keyword).length + (if ([] : List Keyword).isEmpty then 0 else 1) < 30)) = true := by rfl)
    (hline : (apos.endLine == cpos.line) = true := by rfl) (hs : starEach [a] X.env = (false, eval a X.env) :: starEach [] X.env := by rfl) (hplain : (backTo cpos (starEach [] X.env)).any (·.1) = false := by rfl) :
    PE X (.Call (.Attribute o "extend" apos) [a] [] cpos) (tE G X.K E (eBM mExtend fo fas)) := by
  refine PE_mono (pe_bm PySem.F.plainAttrs_list PySem.F.slot_list_extend PySem.F.type_list_extend mt_extend ho ha hbase hfew hline hs hplain) ?_
  intro σ H Q t
  refine toBM (fun m h H x v ds vs Q rh rd rds o => ?_) t
  cases rds with
  | nil => exact o.elim
  | @cons d w ds ws a1 b1 =>
    cases b1 with
    | cons _ _ => exact o.elim
    | nil =>
      simp only [mExtend] at o
      cases zl : lstD d h with
      | none => simp only [zl] at o; exact o.elim
      | some zs =>
        simp only [zl] at o
        obtain ⟨nb, vb, rfl, hnb, rfl, eb1, eb2, rvb⟩ := lstD_ok rh a1 zl
        obtain ⟨n, xs, us, d', ys, rfl, e1, rv, ef, q⟩ := onL_ok rh rd o
        by_cases hl : xs.length + zs.length ≤ sizeLine
        · rw [if_pos hl] at ef
          cases ef
          exact ⟨m n, _, us, vb, rfl, rfl, e1, eb2, by rw [← rv.length, ← rvb.length]; exact hl, q _ _ .non (rv.append rvb)⟩
        · rw [if_neg hl] at ef; cases ef
theorem isB_eqO (c : Nat) (cf : CF) (neg : Bool) : IsB2 (oEqO c cf neg) := by
  intro x y h d h' e
  unfold oEqO at e
  split at e
  · split at e
    · split at e
      · rename_i n _ _ _ _ _
        cases q : cf [.ref n, y] h with
        | ok v h1 =>
          rw [q, R.bind_ok] at e
          cases v with
          | bl b => cases e; exact ⟨_, rfl⟩
          | _ => cases e
        | exc c fs h1 => rw [q] at e; cases e
        | stuck => rw [q] at e; cases e
      · cases e
    · exact isB_eq neg _ _ _ _ _ e
  · exact isB_eq neg _ _ _ _ _ e
end
end Py

set_option Elab.async false
set_option linter.all false
set_option maxRecDepth 100000
/-! Own layer: dicts with texts and whole numbers as keys. -/
namespace Py
open PySem PySem.Spec PyProof.Rows L2
section
variable {K : PySem.W.Frag} {m : Nat → Addr} {N : Nat} {H : Hp}
theorem RelKs.length : ∀ {ks : List (Ky × D)} {vs : List (L2.Key × V)}, RelKs K m N H ks vs → ks.length = vs.length
  | _, _, .nil => rfl
  | _, _, .cons _ r => by simp [RelKs.length r]
theorem valD_pos {p : Ky × D} {r : List (Ky × D)} {k : Ky} (e : p.1 = k) : valD (p :: r) k = some p.2 := by simp [valD, List.find?_cons, e]
theorem valD_neg {p : Ky × D} {r : List (Ky × D)} {k : Ky} (e : ¬ p.1 = k) : valD (p :: r) k = valD r k := by simp [valD, List.find?_cons, e]
theorem RelKs.val (k : Ky) : ∀ {ks : List (Ky × D)} {vs : List (L2.Key × V)}, RelKs K m N H ks vs → (valD ks k = none ∧ valV vs k = none) ∨ ∃ d v, valD ks k = some d ∧ valV vs k = some v ∧ RelD K m N H d v
  | _, _, .nil => .inl ⟨rfl, rfl⟩
  | _, _, .cons (k := j) (d := d) (v := v) h r => by
    by_cases e : j = k
    · exact .inr ⟨d, v, valD_pos e, valV_pos e, h⟩
    · rw [valD_neg (p := (j, d)) e, valV_neg (p := (j, v)) e]
      exact RelKs.val k r
theorem RelKs.any (k : Ky) : ∀ {ks : List (Ky × D)} {vs : List (L2.Key × V)}, RelKs K m N H ks vs → (ks.any fun kv => decide (kv.1 = k)) = vs.any fun kv => decide (kv.1 = k)
  | _, _, .nil => rfl
  | _, _, .cons _ r => by rw [List.any_cons, List.any_cons, RelKs.any k r]
theorem RelKs.snoc {k : Ky} {d : D} {v : V} (h : RelD K m N H d v) : ∀ {ks : List (Ky × D)} {vs : List (L2.Key × V)}, RelKs K m N H ks vs → RelKs K m N H (ks ++ [(k, d)]) (vs ++ [(k, v)])
  | _, _, .nil => .cons h .nil
  | _, _, .cons a r => .cons a (RelKs.snoc h r)
theorem RelKs.repl {k : Ky} {d : D} {v : V} (h : RelD K m N H d v) : ∀ {ks : List (Ky × D)} {vs : List (L2.Key × V)}, RelKs K m N H ks vs → RelKs K m N H (ks.map fun kv => if kv.1 = k then (kv.1, d) else kv) (vs.map fun kv => if kv.1 = k then (kv.1, v) else kv)
  | _, _, .nil => .nil
  | _, _, .cons (k := j) a r => by
    rw [List.map_cons, List.map_cons]
    by_cases e : j = k
    · simp only [if_pos e]; exact .cons h (RelKs.repl h r)
    · simp only [if_neg e]; exact .cons a (RelKs.repl h r)
theorem RelKs.put {ks : List (Ky × D)} {vs : List (L2.Key × V)} {k : Ky} {d : D} {v : V} (r : RelKs K m N H ks vs) (h : RelD K m N H d v) : RelKs K m N H (putD ks k d) (putK vs k v) := by
  unfold putD putK
  rw [r.any k]
  split
  · exact r.repl h
  · exact r.snoc h
theorem RelKs.merge : ∀ {more : List (Ky × D)} {ms : List (L2.Key × V)} {ks : List (Ky × D)} {vs : List (L2.Key × V)}, RelKs K m N H more ms → RelKs K m N H ks vs → RelKs K m N H (mergeD ks more) (mergeK vs ms)
  | _, _, _, _, .nil, r => r
  | (k, d) :: more, (_, v) :: ms, ks, vs, .cons h q, r => RelKs.merge (more := more) (ms := ms) (ks := putD ks k d) (vs := putK vs k v) q (r.put h)
theorem keyD_ok {d : D} {v : V} {k : Ky} (r : RelD K m N H d v) (e : keyD d = some k) : v = kV k := by
  cases r with
  | int i => cases e; rfl
  | str x => cases e; rfl
  | _ => cases e
end
section
variable {X : Cx} {G : Gam} {E : XK}
theorem dctD_ok {m : Nat → Addr} {h : LH} {H : Hp} {d : D} {v : V} {ks : List (Ky × D)} (rh : RelH G X.K m h H) (rd : RelD X.K m h.length H d v) (e : dctD d h = some ks) :
    ∃ n vs, d = .ref n ∧ n < h.length ∧ v = .ref (m n) ∧ h[n]? = some (.dct ks) ∧ H (m n) = some (.dK vs) ∧ RelKs X.K m h.length H ks vs := by
  cases rd with
  | @ref n hn =>
    cases q : h[n]? with
    | none => simp only [dctD, q] at e; cases e
    | some ob =>
      cases ob with
      | ins c fs => simp only [dctD, q] at e; cases e
      | hid _ => simp only [dctD, q] at e; cases e
      | lst xs => simp only [dctD, q] at e; cases e
      | dct kv =>
        simp only [dctD, q] at e
        cases e
        obtain ⟨vs, e1, rv⟩ := rh.obj n _ q
        exact ⟨n, vs, rfl, hn, rfl, q, e1, rv⟩
  | _ => cases e
theorem dctR_ok {m : Nat → Addr} {h : LH} {H : Hp} {d : D} {v : V} {ks : List (Ky × D)} (rh : RelH G X.K m h H) (rd : RelD X.K m h.length H d v) (e : dctR d h = some ks) :
    ∃ n vs, d = .ref n ∧ n < h.length ∧ v = .ref (m n) ∧ L2.Rd H (m n) (.dK vs) ∧ RelKs X.K m h.length H ks vs := by
  cases rd with
  | @ref n hn =>
    cases q : h[n]? with
    | none => simp only [dctR, q] at e; cases e
    | some ob =>
      cases ob with
      | ins c fs => simp only [dctR, q] at e; cases e
      | lst xs => simp only [dctR, q] at e; cases e
      | hid kv =>
        simp only [dctR, q] at e
        cases e
        obtain ⟨od, vs, e1, rv⟩ := rh.obj n _ q
        exact ⟨n, vs, rfl, hn, rfl, .inr ⟨od, e1⟩, rv⟩
      | dct kv =>
        simp only [dctR, q] at e
        cases e
        obtain ⟨vs, e1, rv⟩ := rh.obj n _ q
        exact ⟨n, vs, rfl, hn, rfl, .inl e1, rv⟩
  | _ => cases e
theorem toOpW {f : D → D → LH → R D} {fa fb : EX} {W : V → V → Hp → VK → Prop} (hw : ∀ x y H Q, r2 G X.K E f x y H Q → W x y H Q) {σ : L2.St} {H : Hp} {Q : VK} (t : tE G X.K E (e2 f fa fb) σ H Q) : tE G X.K E fa σ H (fun x H1 => tE G X.K E fb σ H1 fun y H2 => W x y H2 Q) := by
  obtain ⟨m, r, h, rh, rs, o⟩ := t
  refine ⟨m, r, h, rh, rs, ?_⟩
  rcases Out.bindR o with ⟨x, h1, e, o⟩ | ⟨c, fs, h1, e, o⟩
  · rw [e]
    intro m1 H1 v p1 d1
    refine ⟨m1, r, h1, p1.rel, p1.s rs, ?_⟩
    rcases Out.bindR o with ⟨y, h2, e, o⟩ | ⟨c, fs, h2, e, o⟩
    · rw [e]
      intro m2 H2 w p2 d2
      exact hw _ _ _ _ ⟨m2, h2, x, y, p2.rel, p2.d d1, d2, Out.later (p1.trans p2) o⟩
    · rw [e]; exact OutX.later p1 o
  · rw [e]; exact o
variable {o i e value : Expr} {fo fi fe : EX} {pos pos' tpos : Pos}
/-- d[y] -/
theorem xDg (hu : X.A.units + 1 < cLine) (ho : PE X o (tE G X.K E fo)) (hi : PE X i (tE G X.K E fi)) (hs : NoSl i := by exact fun _ _ => rfl) : PE X (.Subscript o i pos) (tE G X.K E (e2 oDg fo fi)) := by
  refine PE_mono (pe_dget hu ho hi hs) fun σ H Q t => toOpW (W := fun x y H2 Q => ∃ a v, x = .ref a ∧ DGet H2 a y (some v) ∧ Q v H2) ?_ t
  rintro x y H Q ⟨m, h, dx, dy, rh, d1, d2, o⟩
  unfold oDg at o
  cases q : dctR dx h with
  | none => simp only [q] at o; exact o.elim
  | some ks =>
    cases q2 : keyD dy with
    | none => simp only [q, q2] at o; exact o.elim
    | some k =>
      simp only [q, q2] at o
      obtain ⟨n, vs, rfl, hn, rfl, e2, rk⟩ := dctR_ok rh d1 q
      have ey := keyD_ok d2 q2
      subst ey
      rcases rk.val k with ⟨z, _⟩ | ⟨d, v, z, zv, rd⟩
      · rw [z] at o; exact o.elim
      · rw [z] at o
        exact ⟨_, v, rfl, .inl ⟨vs, k, e2, rfl, zv.symm⟩, o m H _ (Post.refl rh) rd⟩
/-- d[y] = v -/
theorem zDput (hu : X.A.units + 1 < cLine) (ho : PE X o (tE G X.K E fo)) (hi : PE X i (tE G X.K E fi)) (hv : PE X value (tE G X.K E fe)) (hs : swapsWith value (some (.Subscript o i pos')) pos.line X.env = pure false := by rfl) :
    PS X (.Assign [.Subscript o i pos'] value pos) (tS G X.K E (sDput fo fi fe)) := by
  refine PS_mono (ps_dput hu ho hi hv hs) ?_
  rintro Z σ H ⟨m, r, h, rh, rs, o⟩
  refine ⟨m, r, h, rh, rs, ?_⟩
  rcases OutS.toR o with ⟨d, h1, e, o⟩ | ⟨c, fs, h1, e, o⟩
  · rw [e]
    intro m1 H1 v p1 d1
    refine ⟨m1, r, h1, p1.rel, p1.s rs, ?_⟩
    rcases OutS.toR o with ⟨x, h2, e, o⟩ | ⟨c, fs, h2, e, o⟩
    · rw [e]
      intro m2 H2 xv p2 d2
      refine ⟨m2, r, h2, p2.rel, p2.s (p1.s rs), ?_⟩
      rcases OutS.toR o with ⟨y, h3, e, o⟩ | ⟨c, fs, h3, e, o⟩
      · rw [e]
        intro m3 H3 yv p3 d3
        have pp := p1.trans (p2.trans p3)
        have o := OutS.later pp o
        have d1 := (p2.trans p3).d d1
        have d2 := p3.d d2
        cases d2 with
        | @ref n hn =>
          cases q2 : keyD y with
          | none => simp only [q2] at o; exact o.elim
          | some k =>
            cases q : h3[n]? with
            | none => simp only [q2, q] at o; exact o.elim
            | some ob =>
              cases ob with
              | ins c fs => simp only [q2, q] at o; exact o.elim
              | hid _ => simp only [q2, q] at o; exact o.elim
              | lst xs => simp only [q2, q] at o; exact o.elim
              | dct ks =>
                simp only [q2, q] at o
                by_cases hl : ks.length < sizeLine
                · rw [if_pos hl] at o
                  obtain ⟨vs, e1, rk⟩ := p3.rel.obj n _ q
                  have ey := keyD_ok d3 q2
                  subst ey
                  have tk : TK X.K H3 (upd H3 (m3 n) (.dK (putK vs k v))) := TK.upd_mut e1 (fun _ z => nomatch z) (fun _ _ z => nomatch z)
                  have p := p3.rel.upd (u := .dK (putK vs k v)) (o := .dct (putD ks k d)) q e1 (fun _ z => nomatch z) (fun _ _ z => nomatch z) ⟨_, upd_same, (rk.put d1).mono (fun _ _ => rfl) (Nat.le_refl _) tk⟩
                  exact ⟨m3 n, _, rfl, .inl ⟨vs, k, e1, rfl, by rw [← rk.length]; exact hl, rfl⟩, o m3 _ σ p (p.s (pp.s rs))⟩
                · rw [if_neg hl] at o; exact o.elim
        | _ => exact o.elim
      · rw [e]; exact OutX.later (p1.trans p2) o
    · rw [e]; exact OutX.later p1 o
  · rw [e]; exact o
/-! ### displays -/
theorem out_dct {m : Nat → Addr} {h : LH} {H : Hp} {Q : VK} {ks : List (Ky × D)} {vs : List (L2.Key × V)} (rh : RelH G X.K m h H) (rd : RelKs X.K m h.length H ks vs) (o : Out G X.K E m h.length H Q (.ok (.ref h.length) (h ++ [.dct ks]))) (p : Addr) (hp : H p = none) : Q (.ref p) (upd H p (.dK vs)) := by
  have q := rh.new (o := .dct ks) (u := .dK vs) hp (fun m' ag e => ⟨vs, upd_same, rd.mono ag (Nat.le_succ _) (TK.upd_new hp)⟩)
  have z : RelD X.K (ext m h.length p) (h ++ [O.dct ks]).length (upd H p (.dK vs)) (.ref h.length) (.ref (ext m h.length p h.length)) := .ref (by simp)
  rw [ext_self] at z
  exact o _ _ _ q z
theorem xDnew : PE X (.Dict [] [] pos) (tE G X.K E eDnew) := PE_mono pe_dnewK fun σ H Q ⟨m, r, h, rh, rs, o⟩ p hp => out_dct rh .nil o p hp
def OutD (G : Gam) (K : PySem.W.Frag) (E : XK) (m : Nat → Addr) (N : Nat) (H : Hp) (Q : List (L2.Key × V) → Hp → Prop) : R (List (Ky × D)) → Prop
  | .ok d h' => ∀ m' H' v, Post G K m N H m' h' H' → RelKs K m' h'.length H' d v → Q v H'
  | .exc c fs h' => OutX G K E m N H c fs h'
  | .stuck => False
theorem OutD.bindR {α : Type} {K : PySem.W.Frag} {m : Nat → Addr} {N : Nat} {H : Hp} {r : R α} {f : α → LH → R (List (Ky × D))} {Q : List (L2.Key × V) → Hp → Prop} (o : OutD G K E m N H Q (r.bind f)) :
    (∃ a h1, r = .ok a h1 ∧ OutD G K E m N H Q (f a h1)) ∨ ∃ c fs h1, r = .exc c fs h1 ∧ OutX G K E m N H c fs h1 := by
  cases r with
  | ok a h1 => exact .inl ⟨a, h1, rfl, o⟩
  | exc c fs h1 => exact .inr ⟨c, fs, h1, rfl, o⟩
  | stuck => exact False.elim o
theorem OutD.later {K : PySem.W.Frag} {m m1 : Nat → Addr} {N : Nat} {H H1 : Hp} {h1 : LH} {Q : List (L2.Key × V) → Hp → Prop} {r : R (List (Ky × D))} (a : Post G K m N H m1 h1 H1) (o : OutD G K E m N H Q r) : OutD G K E m1 h1.length H1 Q r := by
  cases r with
  | ok d h' => exact fun m' H' v p e => o m' H' v (a.trans p) e
  | exc c fs h' => exact OutX.later a o
  | stuck => exact o
theorem pairs_ok : ∀ (ps : List (EX × EX)) (m : Nat → Addr) (r : LS) (h : LH) (σ : L2.St) (H : Hp) (Q : List (L2.Key × V) → Hp → Prop) (Q' : List (V × V) → Hp → Prop), RelH G X.K m h H → RelS X.K m h.length H r σ → OutD G X.K E m h.length H Q (pairsX ps r h) →
    (∀ kvs H1, Q kvs H1 → Q' (kvs.map fun kv => (kV kv.1, kv.2)) H1) → tPairs (ps.map fun p => (tE G X.K E p.1, tE G X.K E p.2)) σ H Q'
  | [], m, r, h, σ, H, Q, Q', rh, rs, o, hq => hq [] H (o m H [] (Post.refl rh) .nil)
  | (fa, fb) :: ps, m, r, h, σ, H, Q, Q', rh, rs, o, hq => by
    refine ⟨m, r, h, rh, rs, ?_⟩
    rcases OutD.bindR o with ⟨x, h1, e, o⟩ | ⟨c, fs, h1, e, o⟩
    · simp only [e]
      intro m1 H1 v p1 d1
      refine ⟨m1, r, h1, p1.rel, p1.s rs, ?_⟩
      rcases OutD.bindR o with ⟨y, h2, e, o⟩ | ⟨c, fs, h2, e, o⟩
      · simp only [e]
        intro m2 H2 w p2 d2
        cases q : keyD x with
        | none => simp only [q] at o; exact o.elim
        | some k =>
          simp only [q] at o
          have pp := p1.trans p2
          have o := OutD.later pp o
          have ek := keyD_ok (p2.d d1) q
          subst ek
          refine pairs_ok ps m2 r h2 σ H2 (fun kvs H3 => Q ((k, w) :: kvs) H3) _ p2.rel (p2.s (p1.s rs)) ?_ (fun kvs H3 z => hq _ _ z)
          rcases OutD.bindR o with ⟨kvs, h3, e, o⟩ | ⟨c, fs, h3, e, o⟩
          · rw [e]
            intro m3 H3 vs p3 rk
            exact o m3 H3 _ p3 (.cons (p3.d d2) rk)
          · rw [e]; exact o
      · simp only [e]; exact OutX.later p1 o
    · simp only [e]; exact o
theorem ppNil : PPs X pos [] [] (([] : List (EX × EX)).map fun p => (tE G X.K E p.1, tE G X.K E p.2)) := pps_nil
theorem ppCons {k v : Expr} {ks : List (Option Expr)} {vs : List Expr} {fa fb : EX} {ps : List (EX × EX)} (hk : PE X k (tE G X.K E fa)) (hv : PE X v (tE G X.K E fb)) (hr : PPs X pos ks vs (ps.map fun p => (tE G X.K E p.1, tE G X.K E p.2))) :
    PPs X pos (some k :: ks) (v :: vs) (((fa, fb) :: ps).map fun p => (tE G X.K E p.1, tE G X.K E p.2)) := pps_cons hk hv hr
theorem xDisp {keys : List (Option Expr)} {values : List Expr} {ps : List (EX × EX)} (hp : PPs X pos keys values (ps.map fun p => (tE G X.K E p.1, tE G X.K E p.2))) (hall : keys.all (·.isSome) = true := by rfl) (hl : keys.length = values.length := by rfl) (h0 : keys ≠ [] := by exact fun z => nomatch z)
    (h15 : keys.length ≤ 15 := by decide) : PE X (.Dict keys values pos) (tE G X.K E (eDisp ps)) := by
  refine PE_mono (pe_disp hp hall hl h0 h15) ?_
  rintro σ H Q ⟨m, r, h, rh, rs, o⟩ p hp0
  have q0 := rh.new (o := .dct []) (u := .dK []) hp0 (fun m' ag e => ⟨[], upd_same, .nil⟩)
  have o := Out.later q0 o
  have hm : ext m h.length p h.length = p := ext_self _ _ _
  refine pairs_ok ps _ r (h ++ [.dct []]) σ _ (fun kvs H2 => H2 p = some (.dK []) ∧ kvs.length ≤ 15 ∧ Q (.ref p) (upd H2 p (.dK (mergeK [] kvs)))) _ q0.rel (q0.s rs) ?_ (fun kvs H1 z => ⟨z.1, kvs, rfl, z.2.1, z.2.2⟩)
  unfold eDisp at o
  rcases Out.bindR o with ⟨kvs, h1, e, o⟩ | ⟨c, fs, h1, e, o⟩
  · rw [e]
    intro m1 H1 vs p1 rk
    have o := Out.later p1 o
    have el : m1 h.length = p := by rw [p1.agr h.length (by simp), hm]
    split at o
    · rename_i z
      split at o
      · rename_i hl15
        obtain ⟨ws, e1, rw0⟩ := p1.rel.obj _ _ z
        rw [el] at e1
        cases rw0
        refine ⟨e1, by rw [← rk.length]; exact hl15, ?_⟩
        have e1' : H1 (m1 h.length) = some (.dK []) := by rw [el]; exact e1
        have tk : TK X.K H1 (upd H1 (m1 h.length) (.dK (mergeK [] vs))) := TK.upd_mut e1' (fun _ z => nomatch z) (fun _ _ z => nomatch z)
        have pq := p1.rel.upd (u := .dK (mergeK [] vs)) (o := .dct (mergeD [] kvs)) z e1' (fun _ z => nomatch z) (fun _ _ z => nomatch z) ⟨_, upd_same, (RelKs.merge rk .nil).mono (fun _ _ => rfl) (Nat.le_refl _) tk⟩
        rw [el] at pq
        have zr : RelD X.K m1 (h1.set h.length (.dct (mergeD [] kvs))).length (upd H1 p (.dK (mergeK [] vs))) (.ref h.length) (.ref (m1 h.length)) := .ref (by rw [List.length_set]; exact (List.getElem?_eq_some_iff.mp z).1)
        rw [el] at zr
        exact o _ _ _ pq zr
      · exact o.elim
    · exact o.elim
  · rw [e]; exact o
/-- dict(d) -/
theorem dict_okB : CallR X (.type "dict") (rA G X.K E bDict) := by
  intro pins s σ H xs us Q I r ⟨m, h, ds, rh, rd, o⟩
  cases rd with
  | nil => exact o.elim
  | @cons d v ds vs a b =>
    cases b with
    | cons _ _ => exact o.elim
    | nil =>
      simp only [bDict] at o
      cases q : dctR d h with
      | none => simp only [q] at o; exact o.elim
      | some ks =>
        simp only [q] at o
        obtain ⟨n, vs, rfl, hn, rfl, e2, rk⟩ := dctR_ok rh a q
        obtain ⟨u, rfl, ru⟩ := Vals.one r
        obtain rfl : u = Value.ref (m n) := ru
        refine d_copyOf I e2 fun p s' hp I' => ⟨.ref p, _, I', rfl, out_dct rh rk o p hp⟩
end
end Py

set_option Elab.async false
set_option linter.all false
set_option maxRecDepth 100000
/-! Own layer: properties, t.index(x), defs as values, x in a tuple of data. -/
namespace Py
open PySem PySem.Spec PyProof.Rows L2
section
variable {X : Cx} {G : Gam} {E : XK} {CX : CXT}
/-- o.p, a property: its getter's call -/
theorem xProp {k c : Nat} {p f : Addr} {fd : FuncData} {ps : List Str} {cf : CF} {mn : Str} {o : Expr} {fo : EX} {pos : Pos} (hn : NotF G mn) (he : PE X o (tE G X.K E fo)) (cc : Cls X.K (G.cl c)) (hp : PropOf X.K (G.cl c) mn p f)
    (F : FnG X.prog X.w X.K X.mg X.base CX k f fd ps (spF G X.K cf)) (hg : X.A.guards = some []) (hr : Room (k + 1) X.A) (hx : Passes CX X.nox E) (hb : Bnd X.K fd ps 1 [] bd0)
    (hab : attributeBase o mn X.env (eval o X.env) = eval o X.env := by rfl) : PE X (.Attribute o mn pos) (tE G X.K E (eMeth c (opF 1 0 bd0 cf) fo aNil aNil)) := by
  refine ⟨fun pins s σ H Q I h => ?_⟩
  refine attr_of hab (thn (he.run pins s σ H _ I (toMeth hn h)) ?_)
  rintro u s1 ⟨x, H1, I1, rx, a, dx, fs, ex, ea, l, q⟩
  subst ex
  obtain rfl : u = Value.ref a := rx
  obtain ⟨m, h0, ds, es, rh, d1, d2, o1⟩ := noK (noK q)
  obtain ⟨mA, O, _, _, _, _⟩ := ins_get I1.hok ea
  obtain ⟨od, J, _⟩ := O.look
  obtain ⟨rest, hrec⟩ := hp.rec_
  have I2 := I1.tok (s1.toks + 1)
  have hc : (PySem.W.clsIn X.K (G.cl c)).isSome = true := by
    obtain ⟨cd, hc, _⟩ := PySem.W.any_some cc.hd
    rw [hc]; rfl
  unfold opF at o1
  by_cases hl : ds.length = 1 ∧ es.length = 0
  · rw [if_pos hl] at o1
    obtain ⟨us2, vs2, q1, q2, q3⟩ := hb { s1 with toks := s1.toks + 1 } [.ref a] [] [.ref a] [] I2.kIn (.cons rfl .nil) .nil rfl rfl
    have d3 := q3 _ _ _ _ _ d1 (show RelDs X.K m h0.length H1 [] [] from .nil)
    have e0 : bd0 ds es = ds := rfl
    rw [e0] at o1
    have e1 : bd0 ds ([] : List D) = ds := rfl
    rw [e1] at d3
    refine PySem.W.get_bind I1.kIn J (PySem.W.plainGet_of (cc.get mn)).1 (PySem.W.findObj_data hc hp.at_ hp.get hp.tak) (PySem.W.plainGet_of (cc.get mn)).2 (wpAny_call (PySem.W.prop_get (s := { s1 with toks := s1.toks + 1 }) I1.kIn hrec ?_))
    refine codeAny_mono (F.run X.A.in1 X.stack { s1 with toks := s1.toks + 1 } H1 ⟨[.ref a], []⟩ us2 vs2 Q E hg hr.in1 I2.env0.in1 q2 q1 ⟨m, h0, ds, rh, d3, o1⟩) ?_
    intro r s' hq
    cases r with
    | error er => exact False.elim (hx pins σ H1 _ er s' (I2.wish _) hq)
    | ok fl =>
      cases fl with
      | ret u =>
        obtain ⟨v, H', I3, rv, q3⟩ := I2.after hq
        show wpAny _ _ (handedOut u) _ _ _
        rw [PySem.W.handedOut_of (handed_of rv)]
        exact wpAny_pure ⟨v, H', I3, rv, q3⟩
      | next => exact False.elim hq
      | brk => exact False.elim hq
      | cont => exact False.elim hq
  · rw [if_neg hl] at o1; exact o1.elim
/-! ### t.index(x) -/
theorem tup_is {pins : List (Addr × Obj)} {σ : L2.St} {H : Hp} {s : Shared} {a : Addr} {vs : List V} (I : L2.Inv X pins σ H s) (h : SqT X.K H a vs) (x : Xc X.K H a) : s.TypeIs (.ref a) "tuple" ∧ ∀ b, Value.ref a = .ref b → ∃ ob, s.heap.get? b = some ob ∧ ob.dict = none := by
  obtain ⟨its, _, pl, _⟩ := I.tuple h
  refine ⟨pl.typeIs, fun b e => ?_⟩
  cases e
  rcases x with ⟨o, u, e, hd⟩ | ⟨o, e, hd⟩
  · obtain ⟨e1, _⟩ := I.hok a _ e
    exact ⟨o, e1, hd⟩
  · exact ⟨o, I.kIn a o e, hd⟩
def tTM (K : PySem.W.Frag) (r : V → List V → Hp → VK → Prop) (to : TE) (t : TA) : TE := fun σ H Q => to σ H fun x H1 => (∃ a vs, x = .ref a ∧ SqT K H1 a vs ∧ Xc K H1 a) ∧ t σ H1 fun xs H2 => r x xs H2 Q
theorem pe_tm {o e : Expr} {es : List Expr} {to : TE} {t : TA} {name : Str} {apos cpos : Pos} {id : String} {r : V → List V → Hp → VK → Prop} (pa : PlainAttrs "tuple") (slot : Slot "tuple" name id) (hty : typeOf (.builtin id) = pure (.type "method_descriptor")) (hm : MtR X id r) (ho : PE X o to) (ha : PA X (e :: es) t)
    (hbase : attributeBase o name X.env (eval o X.env) = eval o X.env := by rfl)
    (hfew : ((backTo cpos (starEach (e :: es) X.env)).all (fun x => !x.1) && (backToKw cpos (keywordEach [] X.env)).all (fun x => x.1.isSome)
      && decide ((e :: es).length + ([] : List Keyword).length + (if ([] : List Keyword).isEmpty then 0 else 1) < 30)) = true := by rfl)
    (hline : (apos.endLine == cpos.line) = true := by rfl) (hs : starEach (e :: es) X.env = (false, eval e X.env) :: starEach es X.env := by rfl) (hplain : (backTo cpos (starEach es X.env)).any (·.1) = false := by rfl) :
    PE X (.Call (.Attribute o name apos) (e :: es) [] cpos) (tTM X.K r to t) := by
  refine ⟨fun pins s σ H Q I h => ?_⟩
  refine wpAny_Call_method_late hbase hfew hline rfl (thn (ho.run pins s σ H _ I h) ?_)
  rintro v s1 ⟨x, H1, I1, r1, ⟨a, vs, ex, hq, hx⟩, q1⟩
  subst ex
  obtain rfl : v = Value.ref a := r1
  obtain ⟨h1, h2⟩ := tup_is I1 hq hx
  refine ⟨"tuple", id, pa, slot, hty, h1, h2, ?_⟩
  have hA := ha.run cpos pins s1 σ H1 _ I1 q1
  rw [hs] at hA ⊢
  refine Calls.callWith_builtin (by show (false || (backTo cpos (starEach es X.env)).any (·.1)) = false; rw [hplain] <;> rfl) (Calls.evalArgs_plain ?_)
  refine thn hA ?_
  rintro us s2 ⟨vs2, H2, I2, r2, q2⟩
  exact hm pins s2 σ H2 (.ref a) vs2 _ us Q I2 rfl r2 q2
theorem strs_ok {m : Nat → Addr} {N : Nat} {H : Hp} : ∀ {xs : List D} {vs : List V} {ys : List Str}, RelDs X.K m N H xs vs → strsD xs = some ys → vs = ys.map V.str
  | _, _, _, .nil, e => by cases e; rfl
  | _, _, ys, .cons (d := d) (ds := ds) a r, e => by
    cases a <;> try (cases e; done)
    rename_i x
    simp only [strsD] at e
    cases q : strsD ds with
    | none => rw [q] at e; cases e
    | some zs =>
      rw [q] at e
      cases e
      rw [List.map_cons, strs_ok r q]
theorem findIdx_spec {z : Str} : ∀ {ys : List Str} {j : Nat}, ys.findIdx? (fun y => decide (y = z)) = some j → ys[j]? = some z ∧ ∀ m, m < j → ys[m]? ≠ some z := by
  intro ys j e
  rw [List.findIdx?_eq_some_iff_getElem] at e
  obtain ⟨h, h1, h2⟩ := e
  refine ⟨by rw [List.getElem?_eq_getElem h]; simpa using h1, fun m hm w => ?_⟩
  have := h2 m hm
  rw [List.getElem?_eq_getElem (by omega)] at w
  simp at this w
  exact this w
theorem xTupIx {o a : Expr} {fo : EX} {fas : AX} {apos cpos : Pos} (ho : PE X o (tE G X.K E fo)) (ha : PA X [a] (tA G X.K E fas))
    (hbase : attributeBase o "index" X.env (eval o X.env) = eval o X.env := by rfl)
    (hfew : ((backTo cpos (starEach [a] X.env)).all (fun x => !x.1) && (backToKw cpos (keywordEach [] X.env)).all (fun x => x.1.isSome)
      && decide ([a].length + ([] : List Keyword).length + (if ([] : List Keyword).isEmpty then 0 else 1) < 30)) = true := by rfl)
    (hline : (apos.endLine == cpos.line) = true := by rfl) (hs : starEach [a] X.env = (false, eval a X.env) :: starEach [] X.env := by rfl) (hplain : (backTo cpos (starEach [] X.env)).any (·.1) = false := by rfl) :
    PE X (.Call (.Attribute o "index" apos) [a] [] cpos) (tE G X.K E (eTM mTupIx fo fas)) := by
  refine PE_mono (pe_tm PySem.F.plainAttrs_tuple PySem.F.slot_tuple_index PySem.F.type_tuple_index mt_tup_index ho ha hbase hfew hline hs hplain) ?_
  rintro σ H Q ⟨m, r, h, rh, rs, o⟩
  refine ⟨m, r, h, rh, rs, ?_⟩
  rcases Out.bindR o with ⟨x, h1, e, o⟩ | ⟨c, fs, h1, e, o⟩
  · rw [e]
    intro m1 H1 v p1 d1
    cases d1 with
    | @tup a xs vs ht rds =>
      simp only at o
      cases q : strsD xs with
      | none => simp only [q] at o; exact o.elim
      | some ys =>
        simp only [q, Option.isSome_some, if_true] at o
        have ev := strs_ok rds q
        have hx : Xc X.K H1 a := by
          rcases ht.x with hx | ⟨w, hw, nt⟩
          · exact hx
          · subst ev
            obtain ⟨y, _, rfl⟩ := List.mem_map.mp hw
            exact absurd rfl (nt y)
        subst ev
        refine ⟨⟨a, _, rfl, ht.sq, hx⟩, m1, r, h1, p1.rel, p1.s rs, ?_⟩
        rcases Out.bindR o with ⟨ds, h2, e, o⟩ | ⟨c, fs, h2, e, o⟩
        · rw [e]
          intro m2 H2 zs p2 d2
          have o := Out.later (p1.trans p2) o
          cases d2 with
          | nil => exact o.elim
          | cons d3 d4 =>
            cases d4 with
            | cons _ _ => cases d3 <;> exact o.elim
            | nil =>
              cases d3 with
              | str z =>
                simp only [mTupIx, q] at o
                cases q2 : ys.findIdx? (fun y => decide (y = z)) with
                | none => simp only [q2] at o; exact o.elim
                | some j =>
                  simp only [q2] at o
                  obtain ⟨e5, e6⟩ := findIdx_spec q2
                  exact ⟨a, ys, z, j, rfl, rfl, p2.tk.t _ _ ht.sq, e5, e6, o m2 H2 _ (Post.refl p2.rel) (.int _)⟩
              | _ => exact o.elim
        · rw [e]; exact OutX.later p1 o
    | _ => exact o.elim
  · rw [e]; exact o
/-! ### defs as values -/
/-- what a table of defs is worth -/
def TabG (X : Cx) (G : Gam) (E : XK) (tab : Str → Option KF) : Prop := ∀ n op, tab n = some op → ∃ f : Addr, X.mg n = some (.ref f) ∧ PySem.W.keepIn X.K (.ref f) = true ∧ CallG X G E (.ref f) [] op
/-! ### x in a list or a tuple of data -/
theorem inDp_ok (hu : X.A.units + 70 < cLine) : OpR X (compareOp .In) (r2 G X.K E (oInDp false)) := by
  intro pins s σ H x y v u Q I rx ry ⟨m, h, dx, dy, rh, d1, d2, o⟩
  unfold oInDp at o
  cases q1 : deep h 60 dx with
  | none => simp only [q1] at o; exact o.elim
  | some a =>
    cases q2 : deep h 60 dy with
    | none => simp only [q1, q2] at o; exact o.elim
    | some b =>
      cases q3 : itemsP b with
      | none => simp only [q1, q2, q3] at o; exact o.elim
      | some bs =>
        simp only [q1, q2, q3] at o
        by_cases hs : (SeqAt.shaped a && SeqAt.shaped b) = true
        · rw [if_pos hs] at o
          rw [Bool.and_eq_true] at hs
          obtain ⟨as, r1⟩ := Dp.reads I a x v (deep_ok rh _ _ _ _ d1 q1) rx
          obtain ⟨cs, r2⟩ := Dp.reads I b y u (deep_ok rh _ _ _ _ d2 q2) ry
          have fin : EP X pins σ Q (.bool (bs.any fun z => PyData.eqv z a)) s := ⟨.bl _, H, I, rfl, o m H _ (Post.refl rh) (.bl _)⟩
          cases b with
          | list xs => cases q3; exact SeqAt.in_list_reads r2 r1 (by have := SeqAt.canLay_of_shaped hs.2; simpa only [PyData.canLay0] using this) (SeqAt.canLay_of_shaped hs.1) (room_in_shaped hs.1 (by omega)) fin
          | tuple xs => cases q3; exact SeqAt.in_tuple_reads r2 r1 (by have := SeqAt.canLay_of_shaped hs.2; simpa only [PyData.canLay0] using this) (SeqAt.canLay_of_shaped hs.1) (room_in_shaped hs.1 (by omega)) fin
          | _ => cases q3
        · rw [if_neg hs] at o; exact o.elim
theorem isB_inDp (neg : Bool) : IsB2 (oInDp neg) := by
  intro x y h d h' e
  unfold oInDp at e
  split at e
  · split at e
    · split at e
      · cases e; exact ⟨_, rfl⟩
      · cases e
    · cases e
  · cases e
theorem hu1_of {n : Nat} (h : n + 70 < cLine) : n + 1 < cLine := by omega
end
end Py

set_option Elab.async false
set_option linter.all false
set_option maxRecDepth 100000
/-! Own layer: x.split(sep). -/
namespace Py
open PySem PySem.Spec PyProof.Rows L2
/-- what x.split(sep) gives -/
def splL (a b : Str) (h : LH) : R D := if (b.length == 0) = false ∧ a.length + 2 ≤ sizeLine then .ok (.ref h.length) (h ++ [.lst ((Txt.split a b).map D.str)]) else .stuck
def oSpl : D → D → LH → R D
  | .str a, .str b, h => splL a b h
  | _, _, _ => .stuck
def eSpl (o i : EX) : EX := fun r h => (o r h).bind fun x h1 => match x with
  | .str a => (i r h1).bind fun y h2 => oSpl (.str a) y h2
  | _ => .stuck
/-- repr(x), of None too -/
def bRepN : List D → LH → R D
  | [.non], h => .ok (.str "None") h
  | xs, h => bRep xs h
section
variable {X : Cx} {G : Gam} {E : XK} {CX : CXT}
end
end Py

set_option Elab.async false
set_option linter.all false
set_option maxRecDepth 100000
/-! Own layer: dict(list(d.items()) + [(k, v), ..]). -/
namespace Py
open PySem PySem.Spec PyProof.Rows L2
def pairD : D → Option (Ky × D)
  | .tup [a, b] => (keyD a).map fun k => (k, b)
  | _ => none
def pairsL : List D → Option (List (Ky × D))
  | [] => some []
  | x :: xs => match pairD x, pairsL xs with
    | some p, some ps => some (p :: ps)
    | _, _ => none
def plusD (ks : List (Ky × D)) : D → LH → R D
  | .ref n, h => (match h[n]? with
    | some (.lst xs) => (match pairsL xs with
      | some ps => if ks.length + xs.length ≤ sizeLine then .ok (.ref h.length) (h ++ [.dct (mergeD [] (ks ++ ps))]) else .stuck
      | none => .stuck)
    | _ => .stuck)
  | _, _ => .stuck
/-- dict(list(o.items()) + l) -/
def eDictPlus (fo fl : EX) : EX := fun r h => (fo r h).bind fun x h1 => match dctD x h1 with
  | some ks => (fl r h1).bind fun y h2 => plusD ks y h2
  | none => .stuck
section
variable {G : Gam} {K : PySem.W.Frag} {m : Nat → Addr} {N : Nat} {h : LH} {H H' : Hp}
theorem TK.grow (k : ∀ b o, H b = some o → H' b = some o) : TK K H H' := by
  refine ⟨fun a vs h => ?_, fun a vs h => ?_, fun a h => ?_, fun a o kvs h => k _ _ h⟩
  · rcases h with (h | ⟨u, h⟩) | h
    · exact .inl (.inl (k _ _ h))
    · exact .inl (.inr ⟨u, k _ _ h⟩)
    · exact .inr h
  · rcases h with ⟨u, h⟩ | h
    · exact .inl ⟨u, k _ _ h⟩
    · exact .inr h
  · rcases h with ⟨u, w, h, e⟩ | h
    · exact .inl ⟨u, w, k _ _ h, e⟩
    · exact .inr h
theorem RelH.grow (r : RelH G K m h H) (k : ∀ b o, H b = some o → H' b = some o) : Post G K m h.length H m h H' := by
  have tk : TK K H H' := TK.grow k
  refine ⟨fun _ _ => rfl, Nat.le_refl _, tk, ⟨fun n o e => ?_, r.inj, r.tab.ext k⟩, fun i h1 h2 => absurd h2 (Nat.not_lt.mpr h1), fun a o e _ _ => k a o e⟩
  obtain ⟨u, hu⟩ := (r.obj n o e).isThere
  exact (r.obj n o e).mono (fun _ _ => rfl) (Nat.le_refl _) tk (by rw [hu, k _ _ hu])
end
section
variable {X : Cx} {G : Gam} {E : XK} {CX : CXT}
end
end Py
namespace Py
open PySem PySem.Spec PyProof.Rows L2
/-! ### d.update(e) -/
def oUpd : D → D → LH → R D
  | .ref n, .ref k, h => (match h[n]?, h[k]? with
    | some (.dct ks), some (.dct ms) => if n ≠ k ∧ ks.length + ms.length ≤ sizeLine then .ok .non (h.set n (.dct (mergeD ks ms))) else .stuck
    | _, _ => .stuck)
  | _, _, _ => .stuck
def eUpd (o i : EX) : EX := fun r h => (o r h).bind fun x h1 => match dctD x h1 with
  | some _ => (i r h1).bind fun y h2 => oUpd x y h2
  | none => .stuck
theorem length_mergeK : ∀ (more kvs : List (L2.Key × V)), (mergeK kvs more).length ≤ kvs.length + more.length
  | [], _ => Nat.le_refl _
  | p :: more, kvs => by
    have h1 := length_mergeK more (putK kvs p.1 p.2)
    have h2 := length_putK kvs p.1 p.2
    have e : mergeK kvs (p :: more) = mergeK (putK kvs p.1 p.2) more := rfl
    rw [e, List.length_cons]; omega
def rUpd : V → List V → Hp → VK → Prop := fun x xs H Q => ∃ (a b : Addr) (kvs more : List (L2.Key × V)), x = .ref a ∧ xs = [.ref b] ∧ a ≠ b ∧ H a = some (.dK kvs) ∧ H b = some (.dK more) ∧ kvs.length + more.length ≤ sizeLine ∧ Q .non (upd H a (.dK (mergeK kvs more)))
section
variable {X : Cx} {G : Gam} {E : XK} {CX : CXT}
theorem mt_update : MtR X "dict.update" rUpd := by
  intro pins s σ H x xs v us Q I rx rv h
  obtain ⟨a, b, kvs, more, rfl, rfl, hab, ea, eb, hz, q⟩ := h
  obtain rfl : v = Value.ref a := rx
  obtain ⟨u, rfl, ru⟩ := Vals.one rv
  obtain rfl : u = Value.ref b := ru
  obtain ⟨z1, hd1, vs1, rel1, dd1⟩ := dk_of I.hok ea
  obtain ⟨z2, hd2, vs2, rel2, dd2⟩ := dk_of I.hok eb
  refine call_meetsIn PySem.F.slot_dict_update dd1.typeIs PySem.F.entry_dict_update (PySem.F.args_dict_update_2 _ _) (meets_dict_update (mixKind X.prog X.w) a b hab hd2) ⟨vs1, vs2, dd1, dd2, by rw [← rel1.length, ← rel2.length]; exact hz, fun h' d1 d2 hs => ?_⟩
  have he : ∃ q, h'.get? a = some q := let ⟨q, _, _, hq, _⟩ := d1; ⟨q, hq⟩
  exact ⟨.non, _, d_write (t' := s.toks) I (by rw [ea]; exact True.intro) hs he (dk_new (Nat.le_trans (length_mergeK more kvs) hz) hd1 (KV.merge rel2 rel1) d1), rfl, q⟩
theorem xUpd {o a : Expr} {fo fi : EX} {apos cpos : Pos} (ho : PE X o (tE G X.K E fo)) (ha : PE X a (tE G X.K E fi))
    (hbase : attributeBase o "update" X.env (eval o X.env) = eval o X.env := by rfl)
    (hfew : ((backTo cpos (starEach [a] X.env)).all (fun x => !x.1) && (backToKw cpos (keywordEach [] X.env)).all (fun x => x.1.isSome)
      && decide ([a].length + ([] : List Keyword).length + (if ([] : List Keyword).isEmpty then 0 else 1) < 30)) = true := by rfl)
    (hline : (apos.endLine == cpos.line) = true := by rfl) (hs : starEach [a] X.env = (false, eval a X.env) :: starEach [] X.env := by rfl) (hplain : (backTo cpos (starEach [] X.env)).any (·.1) = false := by rfl) :
    PE X (.Call (.Attribute o "update" apos) [a] [] cpos) (tE G X.K E (eUpd fo fi)) := by
  refine PE_mono (pe_bm PySem.F.plainAttrs_dict PySem.F.slot_dict_update PySem.F.type_dict_update mt_update ho (pa_cons ha pa_nil hs) hbase hfew hline hs hplain) ?_
  rintro σ H Q ⟨m, r, h, rh, rs, o⟩
  refine ⟨m, r, h, rh, rs, ?_⟩
  rcases Out.bindR o with ⟨x, h1, e, o⟩ | ⟨c, fs, h1, e, o⟩
  · rw [e]
    intro m1 H1 v p1 d1
    cases q : dctD x h1 with
    | none => simp only [q] at o; exact o.elim
    | some ks0 =>
      simp only [q] at o
      obtain ⟨n, vs0, rfl, hn, rfl, e1, e2, rk0⟩ := dctD_ok p1.rel d1 q
      refine ⟨.inr (.inr (.inl ⟨rfl, .inl ⟨vs0, e2⟩⟩)), m1, r, h1, p1.rel, p1.s rs, ?_⟩
      rcases Out.bindR o with ⟨y, h2, e, o⟩ | ⟨c, fs, h2, e, o⟩
      · rw [e]
        intro m2 H2 w p2 d2
        have o := Out.later (p1.trans p2) o
        have ag : m2 n = m1 n := p2.agr n hn
        cases d2 with
        | @ref k hk =>
          simp only [oUpd] at o
          cases q1 : h2[n]? with
          | none => simp only [q1] at o; exact o.elim
          | some ob1 =>
            cases q2 : h2[k]? with
            | none => simp only [q1, q2] at o; cases ob1 <;> exact o.elim
            | some ob2 =>
              cases ob1 with
              | dct ks =>
                cases ob2 with
                | dct ms =>
                  simp only [q1, q2] at o
                  by_cases c : n ≠ k ∧ ks.length + ms.length ≤ sizeLine
                  · rw [if_pos c] at o
                    obtain ⟨vs, f1, rk⟩ := p2.rel.obj n _ q1
                    obtain ⟨ws, f2, rw2⟩ := p2.rel.obj k _ q2
                    have hn2 := (List.getElem?_eq_some_iff.mp q1).1
                    refine ⟨m1 n, m2 k, vs, ws, rfl, rfl, ?_, ag ▸ f1, f2, by rw [← rk.length, ← rw2.length]; exact c.2, ?_⟩
                    · rw [← ag]; exact fun z => c.1 (p2.rel.inj n k hn2 hk z)
                    · rw [← ag]
                      have tk : TK X.K H2 (upd H2 (m2 n) (.dK (mergeK vs ws))) := TK.upd_mut f1 (fun _ z => nomatch z) (fun _ _ z => nomatch z)
                      have g := p2.rel.upd (o := .dct (mergeD ks ms)) (u := .dK (mergeK vs ws)) q1 f1 (fun _ z => nomatch z) (fun _ _ z => nomatch z) ⟨_, upd_same, (RelKs.merge rw2 rk).mono (fun _ _ => rfl) (Nat.le_refl _) tk⟩
                      exact o _ _ _ g .non
                  · rw [if_neg c] at o; exact o.elim
                | _ => simp only [q1, q2] at o; exact o.elim
              | _ => simp only [q1, q2] at o; exact o.elim
        | _ => exact o.elim
      · rw [e]; exact OutX.later p1 o
  · rw [e]; exact o
end
end Py

set_option Elab.async false
set_option linter.all false
set_option maxRecDepth 100000
/-! Own layer: [*d.values(), ..]. -/
namespace Py
open PySem PySem.Spec PyProof.Rows L2
def aStarV (fo : EX) (fa : AX) : AX := fun r h => (fo r h).bind fun x h1 => match dctD x h1 with
  | some ks => (fa r h1).bind fun ds h2 => .ok (ks.map (·.2) ++ ds) h2
  | none => .stuck
def tStarV (to : TE) (t : TA) : TA := fun σ H Q => to σ H fun x H1 => ∃ (d : Addr) (kvs : List (L2.Key × V)), x = .ref d ∧ H1 d = some (.dK kvs) ∧ t σ H1 fun ys H2 => Q (kvs.map (·.2) ++ ys) H2
section
variable {X : Cx} {G : Gam} {E : XK} {CX : CXT}
theorem vals_kv : ∀ {kvs : List (L2.Key × V)} {vs : List (L2.Key × Value)}, KV kvs vs → Vals (kvs.map (·.2)) (vs.map (·.2)) := by
  intro kvs vs r
  unfold KV at r
  induction r with
  | nil => exact .nil
  | cons h t ih => exact .cons h.2 ih
theorem items_kv {vs : List (L2.Key × Value)} {acc : Array Value} (h : ItemsOf (fun i v => ∃ k, vs[i]? = some (k, v)) acc vs.length) : acc.toList = vs.map (·.2) := by
  obtain ⟨h1, h2⟩ := h
  apply List.ext_getElem?
  intro i
  rw [List.getElem?_map]
  by_cases c : i < acc.size
  · have e : acc[i]? = some acc[i] := Array.getElem?_eq_getElem c
    obtain ⟨k, hk⟩ := h2 i _ e
    rw [hk, Array.getElem?_toList, e]; rfl
  · rw [List.getElem?_eq_none (by simpa using c), List.getElem?_eq_none (by omega)]; rfl
theorem pa_starVals {o : Expr} {es : List Expr} {to : TE} {t : TA} {apos cpos p : Pos} (hc : X.calm = true) (ho : PE X o to) (hr : PA X es t)
    (hbase : attributeBase o "values" X.env (eval o X.env) = eval o X.env := by rfl) (hline : (apos.endLine == cpos.line) = true := by rfl)
    (hs : starEach (.Starred (.Call (.Attribute o "values" apos) [] [] cpos) p :: es) X.env = (true, eval (.Call (.Attribute o "values" apos) [] [] cpos) X.env) :: starEach es X.env := by rfl) :
    PA X (.Starred (.Call (.Attribute o "values" apos) [] [] cpos) p :: es) (tStarV to t) := by
  refine ⟨fun pos pins s σ H Q I h => ?_⟩
  refine PySem.W.items_star (wpAny_Call_method (T := "dict") (id := "dict.values") hbase rfl hline F.plainAttrs_dict F.slot_dict_values F.type_dict_values (thn (ho.run pins s σ H _ I h) fun u s1 ⟨x, H1, I1, rx, d, kvs, ex, hd, q⟩ => ?_)) hs
  subst ex
  obtain rfl : u = Value.ref d := rx
  obtain ⟨hz, hs0, vs, kv, hdo⟩ := I1.hok d _ hd
  obtain ⟨ep, hat⟩ := hdo.dictAt
  have lk : kvs.length = vs.length := kv.length
  have I2 : Inv X pins σ H1 { s1 with heap := s1.heap.push { cls := .type "dict_values", data := .fields #[.ref d] } } := I1.kept (t' := s1.toks) fun b ob q => Heap.get?_push_of_some _ q
  refine ⟨hdo.typeIs, hdo.mapOf.noDict, ?_⟩
  show wpAny _ _ (callWith cpos (.builtin "dict.values") [.ref d] [] []) _ X.xe s1
  refine method_meetsIn F.slot_dict_values F.entry_dict_values rfl (PySem.evalArgs_none ⟨rfl, hdo.typeIs, F.args_dict_values_1 _, _, meets_dict_values (mixKind X.prog X.w) d hs0, ⟨vs, hdo⟩, ?_⟩)
  have hv : (s1.heap.push { cls := .type "dict_values", data := .fields #[.ref d] }).IsValuesView s1.heap.objs.size d := ⟨_, Heap.get?_push_size _ rfl, rfl, rfl⟩
  have hT : Shared.TypeIs { s1 with heap := s1.heap.push { cls := .type "dict_values", data := .fields #[.ref d] } } (.ref s1.heap.objs.size) "dict_values" := ⟨_, Heap.get?_push_size _ rfl, rfl⟩
  unfold PySem.W.StarOf notIterableAtAll
  refine wpAny_bind (wpAny_specialOf hT PySem.F.slot_dict_values_iter.lookup (wpAny_pure ⟨rfl, ?_⟩))
  refine PySem.W.kdu_collect (PySem.W.kdl_values (knd := mixKind X.prog X.w) (kvs := vs) (r := s1.heap.objs.size) (d := d) (ep := ep)) (I1.ok.hd hc) ⟨hv, hat.push _⟩ (by omega) fun h' tk acc hk hacc => ?_
  exact thn (hr.run pos pins _ σ H1 _ (I2.kept (t' := tk) hk) q) fun ws s3 ⟨ys, H3, I3, r3, q3⟩ => ⟨kvs.map (·.2) ++ ys, H3, I3, by rw [items_kv hacc]; exact (vals_kv kv).append r3, q3⟩
theorem RelKs.vals {K : PySem.W.Frag} {m : Nat → Addr} {N : Nat} {H : Hp} : ∀ {ks : List (Ky × D)} {vs : List (L2.Key × V)}, RelKs K m N H ks vs → RelDs K m N H (ks.map (·.2)) (vs.map (·.2))
  | _, _, .nil => .nil
  | _, _, .cons a r => .cons a (RelKs.vals r)
theorem relds_app {K : PySem.W.Frag} {m : Nat → Addr} {N : Nat} {H : Hp} : ∀ {as bs : List D} {vs ws : List V}, RelDs K m N H as vs → RelDs K m N H bs ws → RelDs K m N H (as ++ bs) (vs ++ ws)
  | _, _, _, _, .nil, r => r
  | _, _, _, _, .cons a r, q => .cons a (relds_app r q)
theorem xaStarV {o : Expr} {es : List Expr} {fo : EX} {fs : AX} {apos cpos p : Pos} (hc : X.calm = true) (ho : PE X o (tE G X.K E fo)) (hr : PA X es (tA G X.K E fs))
    (hbase : attributeBase o "values" X.env (eval o X.env) = eval o X.env := by rfl) (hline : (apos.endLine == cpos.line) = true := by rfl)
    (hs : starEach (.Starred (.Call (.Attribute o "values" apos) [] [] cpos) p :: es) X.env = (true, eval (.Call (.Attribute o "values" apos) [] [] cpos) X.env) :: starEach es X.env := by rfl) :
    PA X (.Starred (.Call (.Attribute o "values" apos) [] [] cpos) p :: es) (tA G X.K E (aStarV fo fs)) :=
  PA_mono (pa_starVals hc ho hr hbase hline hs) fun σ H Q ⟨m, r, h, rh, rs, o⟩ => by
    refine ⟨m, r, h, rh, rs, ?_⟩
    rcases OutA.bindR o with ⟨x, h1, e, o⟩ | ⟨c, fs, h1, e, o⟩
    · rw [e]
      intro m1 H1 v p1 d1
      cases q : dctD x h1 with
      | none => simp only [q] at o; exact o.elim
      | some ks =>
        simp only [q] at o
        obtain ⟨n, vs, rfl, hn, rfl, e1, e2, rk⟩ := dctD_ok p1.rel d1 q
        refine ⟨m1 n, vs, rfl, e2, m1, r, h1, p1.rel, p1.s rs, ?_⟩
        rcases OutA.bindR o with ⟨ds, h2, e, o⟩ | ⟨c, fs, h2, e, o⟩
        · rw [e]
          intro m2 H2 ws p2 d2
          exact o m2 H2 _ (p1.trans p2) (relds_app (p2.ds (RelKs.vals rk)) d2)
        · rw [e]; exact OutX.later p1 o
    · rw [e]; exact o
end
end Py

set_option Elab.async false
set_option linter.all false
set_option maxRecDepth 100000
/-! Own layer: range(a, b, -1). -/
namespace Py
open PySem PySem.Spec PyProof.Rows L2
def rangeDn (a b : Int) : List D := (List.range (a - b).toNat).map fun k => .int (a + (k : Nat) * (-1))
def iRngD (a b c : EX) : IX := fun r h => (a r h).bind fun d h1 => (b r h1).bind fun e h2 => (c r h2).bind fun f h3 => match d, e, f with
  | .int i, .int j, .int k => if small62 i = true ∧ small62 j = true ∧ k = -1 then .ok (.its (rangeDn i j)) h3 else .stuck
  | _, _, _ => .stuck
section
variable {X : Cx} {G : Gam} {E : XK} {tg : Expr}
end
end Py

set_option Elab.async false
set_option linter.all false
set_option maxRecDepth 100000
set_option maxHeartbeats 2000000
/-! Own layer: d.get, d.pop, [.. for x in d.values() ..], sum, dict of a list of pairs, a dict of the module. -/
namespace Py
open PySem PySem.Spec PyProof.Rows L2
def dropD (kvs : List (Ky × D)) (k : Ky) : List (Ky × D) := kvs.filter fun kv => decide (kv.1 ≠ k)
def get1D (x y : D) (h : LH) : R D := match dctD x h, keyD y with
  | some kvs, some k => .ok ((valD kvs k).getD .non) h
  | _, _ => .stuck
/-- d.get(y) -/
def eGet1 (fo fi : EX) : EX := fun r h => (fo r h).bind fun x h1 => match dctD x h1 with
  | some _ => (fi r h1).bind fun y h2 => get1D x y h2
  | none => .stuck
def get2D (x y z : D) (h : LH) : R D := match dctD x h, keyD y with
  | some kvs, some k => .ok ((valD kvs k).getD z) h
  | _, _ => .stuck
/-- d.get(y, z) -/
def eGet2 (fo fi fz : EX) : EX := fun r h => (fo r h).bind fun x h1 => match dctD x h1 with
  | some _ => (fi r h1).bind fun y h2 => (fz r h2).bind fun z h3 => get2D x y z h3
  | none => .stuck
def popD (x y : D) (h : LH) : R D := match x, keyD y with
  | .ref n, some k => (match h[n]? with
    | some (.dct kvs) => (match valD kvs k with
      | some v => .ok v (h.set n (.dct (dropD kvs k)))
      | none => .stuck)
    | _ => .stuck)
  | _, _ => .stuck
/-- d.pop(y) -/
def ePop (fo fi : EX) : EX := fun r h => (fo r h).bind fun x h1 => match dctD x h1 with
  | some _ => (fi r h1).bind fun y h2 => popD x y h2
  | none => .stuck
/-- dict(l), l a list of pairs; dict(d) -/
def bDictP : List D → LH → R D
  | [.ref n], h => (match h[n]? with
    | some (.lst xs) => (match pairsL xs with
      | some ps => .ok (.ref h.length) (h ++ [.dct (mergeD [] ps)])
      | none => .stuck)
    | _ => .stuck)
  | _, _ => .stuck
/-- sum of whole numbers -/
def bSum : List D → LH → R D
  | [x], h => (match (lstD x h).bind intsD with
    | some ns => .ok (.int ns.sum) h
    | none => .stuck)
  | _, _ => .stuck
/-- a dict of the module: texts to whole numbers -/
abbrev Tb := List (Str × Int)
def tbAt : Tb → Str → Option Int
  | [], _ => none
  | (a, i) :: r, z => if a = z then some i else tbAt r z
def eTin (neg : Bool) (t : Tb) (a : EX) : EX := e1 (fun x h => match x with
  | .str z => (match tbAt t z with
    | some _ => .ok (.bl (!neg)) h
    | none => .stuck)
  | _ => .stuck) a
def eTix (t : Tb) (a : EX) : EX := e1 (fun x h => match x with
  | .str z => (match tbAt t z with
    | some i => .ok (.int i) h
    | none => .stuck)
  | _ => .stuck) a
section
variable {K : PySem.W.Frag} {m : Nat → Addr} {N : Nat} {H : Hp}
theorem RelKs.drop (k : Ky) : ∀ {ks : List (Ky × D)} {vs : List (L2.Key × V)}, RelKs K m N H ks vs → RelKs K m N H (dropD ks k) (dropK vs k)
  | _, _, .nil => .nil
  | _, _, .cons (k := j) a r => by
    have ih := RelKs.drop k r
    unfold dropD dropK at ih ⊢
    rw [List.filter_cons, List.filter_cons]
    by_cases e : j = k
    · simp only [ne_eq, e, not_true_eq_false, decide_false, Bool.false_eq_true, if_false]; exact ih
    · simp only [ne_eq, e, not_false_eq_true, decide_true, if_true]; exact .cons a ih
end
section
variable {X : Cx} {G : Gam} {E : XK} {CX : CXT}
variable {o i z : Expr} {fo fi fz : EX} {apos cpos pos : Pos}
end
end Py

set_option Elab.async false
set_option linter.all false
set_option maxRecDepth 100000
set_option maxHeartbeats 2000000
/-! Own layer: [.. for x in d.values() ..], dict of a list of pairs, a dict of the module. -/
namespace Py
open PySem PySem.Spec PyProof.Rows L2
/-- weaker than TK -/
structure TK0 (K : PySem.W.Frag) (H H' : Hp) : Prop where
  f : ∀ a vs, SqF K H a vs → SqF K H' a vs
  s : ∀ a vs, SqX K H a vs → SqX K H' a vs
mutual
theorem RelD.to0 {K : PySem.W.Frag} {m : Nat → Addr} {N : Nat} {H H' : Hp} (t : TK0 K H H') : ∀ {d : D} {v : V}, RelD K m N H d v → RelD K m N H' d v
  | _, _, .non => .non
  | _, _, .bl b => .bl b
  | _, _, .int i => .int i
  | _, _, .str x => .str x
  | _, _, .tup h r => .tup (t.s _ _ h) (RelDs.to0 t r)
  | _, _, .scr h => .scr (t.f _ _ h)
  | _, _, .fn h => .fn h
  | _, _, .ref h => .ref h
theorem RelDs.to0 {K : PySem.W.Frag} {m : Nat → Addr} {N : Nat} {H H' : Hp} (t : TK0 K H H') : ∀ {d : List D} {v : List V}, RelDs K m N H d v → RelDs K m N H' d v
  | _, _, .nil => .nil
  | _, _, .cons h r => .cons (RelD.to0 t h) (RelDs.to0 t r)
end
section
variable {G : Gam} {K : PySem.W.Frag} {m : Nat → Addr} {N : Nat} {H H' : Hp}
theorem RelFs.to0 (t : TK0 K H H') : ∀ {fs : List (Nat × D)} {vs : List (Str × V)}, RelFs G K m N H fs vs → RelFs G K m N H' fs vs
  | _, _, .nil => .nil
  | _, _, .cons a h r => .cons a (h.to0 t) (RelFs.to0 t r)
theorem RelKs.to0 (t : TK0 K H H') : ∀ {fs : List (Ky × D)} {vs : List (L2.Key × V)}, RelKs K m N H fs vs → RelKs K m N H' fs vs
  | _, _, .nil => .nil
  | _, _, .cons h r => .cons (h.to0 t) (RelKs.to0 t r)
theorem RelO.to0 {a : Addr} {o : O} (t : TK0 K H H') (e : H' a = H a) (h : RelO G K m N H a o) : RelO G K m N H' a o := by
  cases o with
  | lst xs => obtain ⟨vs, h1, h2⟩ := h; exact ⟨vs, e.trans h1, h2.to0 t⟩
  | ins c fs => obtain ⟨dx, vs, h1, h2⟩ := h; exact ⟨dx, vs, e.trans h1, h2.to0 t⟩
  | dct kv => obtain ⟨vs, h1, h2⟩ := h; exact ⟨vs, e.trans h1, h2.to0 t⟩
  | hid _ => obtain ⟨od, vs, h1, h2⟩ := h; exact ⟨od, vs, e.trans h1, h2.to0 t⟩
variable {d : Addr} {od : Obj} {vs0 : List (L2.Key × V)} {u : HO}
theorem sqT_at (h : H d = some (.frz od (.dK vs0))) (nk : K.lookup d = none) {vs : List V} : ¬ SqT K H d vs := by
  rintro ((e | ⟨w, e⟩) | ⟨o, its, n, e, _⟩)
  · rw [h] at e; cases e
  · rw [h] at e; cases e
  · rw [nk] at e; cases e
theorem tk_unlock (h : H d = some (.frz od (.dK vs0))) (nk : K.lookup d = none) : TK0 K H (upd H d u) := by
  refine ⟨fun a vs q => ?_, fun a vs q => ?_⟩
  · rcases q with ⟨w, q⟩ | q
    · have : a ≠ d := fun z => by subst z; rw [h] at q; cases q
      exact .inl ⟨w, by rw [upd_ne this]; exact q⟩
    · exact .inr q
  · by_cases ad : a = d
    · subst ad; exact absurd q.sq (sqT_at h nk)
    · refine ⟨?_, q.x.imp (fun x => ?_) id⟩
      · rcases q.sq with (e | ⟨w, e⟩) | e
        · exact .inl (.inl (by rw [upd_ne ad]; exact e))
        · exact .inl (.inr ⟨w, by rw [upd_ne ad]; exact e⟩)
        · exact .inr e
      · rcases x with ⟨w, u2, e, z⟩ | e
        · exact .inl ⟨w, u2, by rw [upd_ne ad]; exact e, z⟩
        · exact .inr e
theorem tk_round (h0 : H d = some (.dK vs0)) (nk : K.lookup d = none) (t : TK K (upd H d (.frz od (.dK vs0))) H') (h1 : H' d = some (.frz od (.dK vs0))) : TK K H (upd H' d (.dK vs0)) := by
  have back : ∀ a vs, SqT K H' a vs → a ≠ d → SqT K (upd H' d (.dK vs0)) a vs := fun a vs q ad => by
    rcases q with (e | ⟨w, e⟩) | e
    · exact .inl (.inl (by rw [upd_ne ad]; exact e))
    · exact .inl (.inr ⟨w, by rw [upd_ne ad]; exact e⟩)
    · exact .inr e
  refine ⟨fun a vs q => ?_, fun a vs q => ?_, fun a q => ?_, fun a o kvs q => ?_⟩
  · have ad : a ≠ d := fun z => by
      subst z
      rcases q with (e | ⟨w, e⟩) | ⟨o, its, n, e, _⟩
      · rw [h0] at e; cases e
      · rw [h0] at e; cases e
      · rw [nk] at e; cases e
    refine back a vs (t.t a vs ?_) ad
    rcases q with (e | ⟨w, e⟩) | e
    · exact .inl (.inl (by rw [upd_ne ad]; exact e))
    · exact .inl (.inr ⟨w, by rw [upd_ne ad]; exact e⟩)
    · exact .inr e
  · rcases q with ⟨w, e⟩ | e
    · have ad : a ≠ d := fun z => by subst z; rw [h0] at e; cases e
      rcases t.f a vs (.inl ⟨w, by rw [upd_ne ad]; exact e⟩) with ⟨w2, e2⟩ | e2
      · exact .inl ⟨w2, by rw [upd_ne ad]; exact e2⟩
      · exact .inr e2
    · exact .inr e
  · rcases q with ⟨w, u2, e, z⟩ | e
    · have ad : a ≠ d := fun z => by subst z; rw [h0] at e; cases e
      rcases t.x a (.inl ⟨w, u2, by rw [upd_ne ad]; exact e, z⟩) with ⟨w2, u3, e2, z2⟩ | e2
      · exact .inl ⟨w2, u3, by rw [upd_ne ad]; exact e2, z2⟩
      · exact .inr e2
    · exact .inr e
  · have ad : a ≠ d := fun z => by subst z; rw [h0] at q; cases q
    rw [upd_ne ad]
    exact t.z a o kvs (by rw [upd_ne ad]; exact q)
end
/-- [e for x in o.values() if t]; the dict is walked, nothing writes it meanwhile -/
def eCompV (vs : List Nat) (fo ft fe : EX) : EX := fun r h => match fo r h with
  | .ok (.ref n) _ => (match h[n]? with
    | some (.dct kvs) => (match fo r (h.set n (.hid kvs)) with
      | .ok (.ref n2) h1 => if n2 = n then (match h1[n]? with
        | some (.hid _) => (match compX (.its (kvs.map (·.2))) vs ft fe fuelN 0 [] (wipeL r vs) h1 with
          | .ok acc h2 => (match h2[n]? with
            | some (.hid _) => .ok (.ref h2.length) ((h2 ++ [O.lst acc]).set n (.dct kvs))
            | _ => .stuck)
          | _ => .stuck)
        | _ => .stuck) else .stuck
      | _ => .stuck)
    | _ => .stuck)
  | _ => .stuck
section
variable {X : Cx} {G : Gam} {E : XK} {CX : CXT}
theorem noKd {pins : List (Addr × Obj)} {σ : L2.St} {H : Hp} {s : Shared} (I : Inv X pins σ H s) : ∀ a u, H a = some u → X.K.lookup a = none := fun a u e => by
  cases q : X.K.lookup a with
  | none => rfl
  | some ob =>
    have := (I.bs a ob (I.mod.kin a ob q)).2
    rw [e] at this; cases this
/-! ### a dict of the module -/
def TbK (K : PySem.W.Frag) (w : World) (a : Addr) (t : Tb) : Prop := (a == sysModules) = false ∧ ∃ es n, K.lookup a = some ⟨.type "dict", none, .dict es n, #[]⟩ ∧ PySem.W.KeysLit w.params es.toList ∧ ∀ z i, tbAt t z = some i → ∃ tk, PySem.W.nsIn K a z = some (some (.int i tk))
variable {x : Expr} {fx : EX} {y : Str} {a : Addr} {t : Tb} {p pos : Pos}
end
end Py

set_option Elab.async false
set_option linter.all false
set_option maxRecDepth 100000
set_option maxHeartbeats 2000000
/-! Own layer: o.f as a target; o.f += e, o[i] += e and -=. -/
namespace Py
open PySem PySem.Spec PyProof.Rows L2
/-- target o.f -/
def gFld (c i : Nat) (o : EX) : GX := fun d r h => (o r h).to fun x h1 => match x with
  | .ref n => (match h1[n]? with
    | some (.ins c' fs) => if c' = c ∧ fs.length < 1000 then .nx r (h1.set n (.ins c (putA i d fs))) else .stuck
    | _ => .stuck)
  | _ => .stuck
/-- o.f op= e, whole numbers -/
def sFldAug (c i : Nat) (op : Int → Int → Int) (fo fe : EX) : SX := fun r h => (fo r h).to fun x h1 => match x with
  | .ref n => (match h1[n]? with
    | some (.ins c1 fs) => if c1 = c then (match getA i fs with
      | some (.int a) => (fe r h1).to fun y h2 => (match y with
        | .int b => (match h2[n]? with
          | some (.ins c2 fs2) => if c2 = c ∧ fs2.length < 1000 then .nx r (h2.set n (.ins c (putA i (.int (op a b)) fs2))) else .stuck
          | _ => .stuck)
        | _ => .stuck)
      | _ => .stuck) else .stuck
    | _ => .stuck)
  | _ => .stuck
/-- o[i] op= e, whole numbers in a list -/
def sSubAug (op : Int → Int → Int) (fo fi fe : EX) : SX := fun r h => (fo r h).to fun x h1 => (fi r h1).to fun y h2 => match x, y with
  | .ref n, .int k => (match h2[n]? with
    | some (.lst xs) => if 0 ≤ k then (match xs[k.toNat]? with
      | some (.int a) => (fe r h2).to fun z h3 => (match z with
        | .int b => (match h3[n]? with
          | some (.lst ys) => (match L2.ixN ys.length k with
            | some j => .nx r (h3.set n (.lst (ys.set j (.int (op a b)))))
            | none => .stuck)
          | _ => .stuck)
        | _ => .stuck)
      | _ => .stuck) else .stuck
    | _ => .stuck)
  | _, _ => .stuck
section
variable {X : Cx} {G : Gam} {E : XK} {CX : CXT}
variable {o value i : Expr} {fo fi fe : EX} {c n : Nat} {mn : Str} {pos pos' tpos : Pos}
/-- l[k], by values -/
def getL (K : PySem.W.Frag) : V → V → Hp → VK → Prop := fun o i H Q => ∃ p xs k v, o = .ref p ∧ i = .int k ∧ 0 ≤ k ∧ SqL K H p xs ∧ xs[k.toNat]? = some v ∧ Q v H
/-! ### the truth of what is no text -/
def eTr (a : EX) : EX := fun r h => (a r h).bind fun x h1 => match x with
  | .str _ => .stuck
  | _ => .ok x h1
variable {a : Expr} {fa : EX}
/-! ### repr of what is flat -/
def bRepA : List D → LH → R D
  | [.str x], h => if (reprText x).length ≤ sizeLine then .ok (.str (reprText x)) h else .stuck
  | [.bl b], h => .ok (.str (if b then "True" else "False")) h
  | xs, h => bRepN xs h
end
end Py

set_option Elab.async false
set_option linter.all false
set_option maxRecDepth 100000
set_option maxHeartbeats 2000000
/-! Own layer: sorted(d), d == {}. -/
namespace Py
open PySem PySem.Spec PyProof.Rows L2
/-- whole keys -/
def keysI : List (Ky × D) → Option (List Int)
  | [] => some []
  | (.inl i, _) :: r => (keysI r).map (i :: ·)
  | (.inr _, _) :: _ => none
/-- sorted(x), x a dict of whole keys too -/
def bSortedD : List D → LH → R D
  | [.ref n], h => (match dctD (.ref n) h with
    | some kvs => (match keysI kvs with
      | some ns => if ns.length < 64 then .ok (.ref h.length) (h ++ [.lst ((sortI ns).map .int)]) else .stuck
      | none => .stuck)
    | none => bSorted [.ref n] h)
  | xs, h => bSorted xs h
/-- x == y, y an empty dict -/
def oEqE : D → D → LH → R D := fun x y h => match dctD x h, dctD y h with
  | some a, some b => if b.isEmpty = true then .ok (.bl a.isEmpty) h else .stuck
  | _, _ => .stuck
theorem relks_len {K : PySem.W.Frag} {m : Nat → Addr} {N : Nat} {H : Hp} : ∀ {kvs : List (Ky × D)} {vs : List (L2.Key × V)}, RelKs K m N H kvs vs → kvs.length = vs.length
  | _, _, .nil => rfl
  | _, _, .cons _ r => by rw [List.length_cons, List.length_cons, relks_len r]
section
variable {X : Cx} {G : Gam} {E : XK}
end
end Py

set_option Elab.async false
set_option linter.all false
set_option maxRecDepth 100000
set_option maxHeartbeats 2000000
/-! Own layer: zip of two lists, == and != of two dicts. -/
namespace Py
open PySem PySem.Spec PyProof.Rows L2
/-- zip(a, b), two lists -/
def iZip (a b : EX) : IX := fun r h => (a r h).bind fun d h1 => (b r h1).bind fun e h2 => match d, e with
  | .ref n, .ref k => (match h2[n]?, h2[k]? with
    | some (.lst _), some (.lst _) => .ok (.zip (.lst n) (.lst k)) h2
    | _, _ => .stuck)
  | _, _ => .stuck
/-- the pairs of a dict, sought in b -/
def eqKs (h : LH) (b : List (Ky × D)) : List (Ky × D) → Option Bool
  | [] => some true
  | (k, d) :: r => match valD b k with
    | none => some false
    | some e => match deep h 60 d, deep h 60 e with
      | some x, some y => if (SeqAt.shaped x && SeqAt.shaped y) = true then (eqKs h b r).map (PyData.eqv x y && ·) else none
      | _, _ => none
/-- == and != of two dicts of plain values -/
def oEqK (neg : Bool) : D → D → LH → R D := fun x y h => match dctR x h, dctR y h with
  | some a, some b => (match eqKs h b a with
    | some r => .ok (.bl (if neg then !(a.length == b.length && r) else (a.length == b.length && r))) h
    | none => .stuck)
  | _, _ => .stuck
theorem hu66_of {n : Nat} (h : n + 70 < cLine) : n + 66 < cLine := by omega
theorem src_lst_inv {h : LH} {n i : Nat} {w : Option D} (e : srcAt (.lst n) h i = some w) : ∃ xs, h[n]? = some (.lst xs) ∧ w = xs[i]? := by
  simp only [srcAt] at e
  split at e
  · rename_i xs q; cases e; exact ⟨xs, q, rfl⟩
  · cases e
section
variable {X : Cx} {G : Gam} {E : XK}
theorem it_zip {K : PySem.W.Frag} {m0 : Nat → Addr} {h0 : LH} {H0 : Hp} {n k : Nat} (hn : n < h0.length) (hk : k < h0.length) : ItRel G K m0 h0 H0 (Itz K (m0 n) (m0 k)) (.zip (.lst n) (.lst k)) := by
  intro m h H i p
  have e1 : m n = m0 n := p.agr n hn
  have e2 : m k = m0 k := p.agr k hk
  have us : srcAt (.zip (.lst n) (.lst k)) h i = (match srcAt (.lst n) h i, srcAt (.lst k) h i with
    | some (some d), some (some e) => if (notS d || notS e) = true then some (some (.tup [d, e])) else none
    | some _, some _ => some none
    | _, _ => none) := rfl
  rw [us]
  cases z1 : srcAt (.lst n) h i with
  | none => trivial
  | some w1 =>
    cases z2 : srcAt (.lst k) h i with
    | none => cases w1 <;> trivial
    | some w2 =>
      obtain ⟨xs, q1, rfl⟩ := src_lst_inv z1
      obtain ⟨ys, q2, rfl⟩ := src_lst_inv z2
      obtain ⟨vs, f1, r1⟩ := p.rel.obj n _ q1
      obtain ⟨ws, f2, r2⟩ := p.rel.obj k _ q2
      rw [e1] at f1
      rw [e2] at f2
      cases t1 : xs[i]? with
      | none =>
        have hl := List.getElem?_eq_none_iff.mp t1
        have st : (Itz K (m0 n) (m0 k)).stop i H := ⟨vs, ws, SqL.of f1, SqL.of f2, .inl (by rw [← r1.length]; exact hl)⟩
        cases t2 : ys[i]? <;> exact st
      | some d =>
        cases t2 : ys[i]? with
        | none =>
          have hl := List.getElem?_eq_none_iff.mp t2
          exact ⟨vs, ws, SqL.of f1, SqL.of f2, .inr (by rw [← r2.length]; exact hl)⟩
        | some e =>
          obtain ⟨v, ev, rv⟩ := r1.get t1
          obtain ⟨u, eu, ru⟩ := r2.get t2
          by_cases nn : (notS d || notS e) = true
          case neg => simp only [if_neg nn]
          simp only [if_pos nn]
          refine ⟨⟨vs, ws, v, u, SqL.of f1, SqL.of f2, ev, eu⟩, ?_⟩
          rintro x H' ⟨T, x', y', rfl, hT, rfl, ha, hb⟩
          have g1 := ha vs (SqL.of f1)
          rw [ev] at g1
          cases g1
          have g2 := hb ws (SqL.of f2)
          rw [eu] at g2
          cases g2
          have pp := p.rel.newT (u := .tup [v, u]) hT
          exact ⟨pp, .tup ⟨SqT.of upd_same, .inr (xn_two rv ru nn)⟩ (.cons (pp.d rv) (.cons (pp.d ru) .nil))⟩
variable {a b : Expr} {fa fb : EX} {p pos tpos : Pos} {elts : List Expr} {kk : Nat}
theorem iZip_ok (hg : Gl X "zip") (hm : X.mg "zip" = none) (ha : PE X a (tE G X.K E fa)) (hb : PE X b (tE G X.K E fb))
    (hs : starEach [a, b] X.env = (false, eval a X.env) :: starEach [b] X.env := by rfl) (hs2 : starEach [b] X.env = (false, eval b X.env) :: starEach [] X.env := by rfl) (hpl : (backTo pos (starEach [b] X.env)).any (·.1) = false := by rfl) :
    PI X (.Tuple elts kk tpos) (.Call (.Name "zip" p) [a, b] [] pos) (tI G X.K E (iZip fa fb)) := by
  refine PI_mono (pi_zip hg hm (pa_cons ha (pa_cons hb pa_nil hs2) hs) hs hpl) ?_
  rintro σ H Q ⟨m, r, h, rh, rs, o⟩
  refine ⟨m, r, h, rh, rs, ?_⟩
  rcases OutI.bindR o with ⟨d, h1, e, o⟩ | ⟨c, fs, h1, e, o⟩
  · rw [e]
    intro m1 H1 v p1 d1
    refine ⟨m1, r, h1, p1.rel, p1.s rs, ?_⟩
    rcases OutI.bindR o with ⟨d2, h2, e2, o⟩ | ⟨c, fs, h2, e2, o⟩
    · rw [e2]
      intro m2 H2 u p2 d2
      have d1' := p2.d d1
      have p12 := p1.trans p2
      cases d1' with
      | @ref n hn =>
        cases d2 with
        | @ref k hk =>
          simp only at o
          cases q1 : h2[n]? with
          | none => simp only [q1] at o; exact o.elim
          | some o1 =>
            cases o1 with
            | lst xs =>
              cases q2 : h2[k]? with
              | none => simp only [q1, q2] at o; exact o.elim
              | some o2 =>
                cases o2 with
                | lst ys =>
                  simp only [q1, q2] at o
                  obtain ⟨vs, f1, _⟩ := p2.rel.obj n _ q1
                  obtain ⟨ws, f2, _⟩ := p2.rel.obj k _ q2
                  exact ⟨_, _, vs, ws, rfl, SqL.of f1, SqL.of f2, o m2 H2 _ p12 (it_zip hn hk)⟩
                | _ => simp only [q1, q2] at o; exact o.elim
            | _ => simp only [q1] at o; exact o.elim
        | _ => exact o.elim
      | _ => exact o.elim
    · rw [e2]; exact OutX.later p1 o
  · rw [e]; exact o
/-! ### == of dicts -/
theorem hits_ok {pins : List (Addr × Obj)} {σ : L2.St} {H : Hp} {s : Shared} {m : Nat → Addr} {h : LH} {b : List (Ky × D)} {ws : List (L2.Key × V)} {ys : List (L2.Key × Value)} (hu : X.A.units + 66 < cLine) (I : L2.Inv X pins σ H s) (rh : RelH G X.K m h H) (rj : RelKs X.K m h.length H b ws) (kw : KV ws ys) :
    ∀ {a : List (Ky × D)} {vs : List (L2.Key × V)} {xs : List (L2.Key × Value)} {r : Bool}, RelKs X.K m h.length H a vs → KV vs xs → eqKs h b a = some r → PySem.W.KeqHits X.A.in1 s ys xs r
  | _, _, _, _, .nil, .nil, e => by cases e; exact .nil
  | _, _, _, r, .cons (k := k) (d := d) (v := v) (ds := ds) rd rr, .cons (b := (k2, u)) (l₂ := xs) hp kr, e => by
    obtain ⟨hk, hv⟩ := hp
    simp only at hk hv
    subst hk
    have kk := KV.val kw k
    rcases rj.val k with ⟨z, zv⟩ | ⟨e2, v2, z, zv, rd2⟩
    · simp only [eqKs, z] at e
      cases e
      exact .miss (L2.RelO.none_of (by rw [zv] at kk; exact kk))
    · simp only [eqKs, z] at e
      obtain ⟨u2, hu2, ru2⟩ := L2.RelO.some_of (v := v2) (by rw [zv] at kk; exact kk)
      cases q1 : deep h 60 d with
      | none => simp only [q1] at e; cases e
      | some x =>
        cases q2 : deep h 60 e2 with
        | none => simp only [q1, q2] at e; cases e
        | some y =>
          simp only [q1, q2] at e
          by_cases hs : (SeqAt.shaped x && SeqAt.shaped y) = true
          · rw [if_pos hs] at e
            rw [Bool.and_eq_true] at hs
            cases q3 : eqKs h b ds with
            | none => rw [q3] at e; cases e
            | some t =>
              rw [q3] at e
              cases e
              obtain ⟨as, r1⟩ := Dp.reads I x v u (deep_ok rh _ _ _ _ rd q1) hv
              obtain ⟨bs, r2⟩ := Dp.reads I y v2 u2 (deep_ok rh _ _ _ _ rd2 q2) ru2
              exact .hit hu2 (PySem.W.keq_at r1 r2 hs.1 hs.2 (by show X.A.units + 1 + 64 < cLine; omega)) (hits_ok hu I rh rj kw rr kr q3)
          · rw [if_neg hs] at e; cases e
theorem eqK_ok (hu : X.A.units + 66 < cLine) : OpR X (compareOp .Eq) (r2 G X.K E (oEqK false)) := by
  intro pins s σ H x y v u Q I rx ry ⟨m, h, dx, dy, rh, d1, d2, o⟩
  unfold oEqK at o
  cases q1 : dctR dx h with
  | none => simp only [q1] at o; exact o.elim
  | some a =>
    cases q2 : dctR dy h with
    | none => simp only [q1, q2] at o; exact o.elim
    | some b =>
      simp only [q1, q2] at o
      cases q3 : eqKs h b a with
      | none => simp only [q3] at o; exact o.elim
      | some r =>
        simp only [q3] at o
        obtain ⟨n, vs, rfl, hn, rfl, e2, rk⟩ := dctR_ok rh d1 q1
        obtain ⟨k, ws, rfl, hk, rfl, f2, rj⟩ := dctR_ok rh d2 q2
        cases (show v = Value.ref (m n) from rx)
        cases (show u = Value.ref (m k) from ry)
        obtain ⟨_, sm1, xs, kv1, D1⟩ := dk_rd I.hok e2
        obtain ⟨_, sm2, ys, kv2, D2⟩ := dk_rd I.hok f2
        have l1 : a.length = xs.length := (relks_len rk).trans (Paired.length kv1)
        have l2 : b.length = ys.length := (relks_len rj).trans (Paired.length kv2)
        refine PySem.W.keq_eq (r := r) sm1 sm2 D1 D2 (by omega) (fun _ => hits_ok hu I rh rj kv2 rk kv1 q3) ?_
        rw [← l1, ← l2]
        exact ⟨.bl _, H, I, rfl, o m H _ (Post.refl rh) (.bl _)⟩
theorem neK_ok (hu : X.A.units + 66 < cLine) : OpR X (compareOp .NotEq) (r2 G X.K E (oEqK true)) := by
  intro pins s σ H x y v u Q I rx ry ⟨m, h, dx, dy, rh, d1, d2, o⟩
  unfold oEqK at o
  cases q1 : dctR dx h with
  | none => simp only [q1] at o; exact o.elim
  | some a =>
    cases q2 : dctR dy h with
    | none => simp only [q1, q2] at o; exact o.elim
    | some b =>
      simp only [q1, q2] at o
      cases q3 : eqKs h b a with
      | none => simp only [q3] at o; exact o.elim
      | some r =>
        simp only [q3] at o
        obtain ⟨n, vs, rfl, hn, rfl, e2, rk⟩ := dctR_ok rh d1 q1
        obtain ⟨k, ws, rfl, hk, rfl, f2, rj⟩ := dctR_ok rh d2 q2
        cases (show v = Value.ref (m n) from rx)
        cases (show u = Value.ref (m k) from ry)
        obtain ⟨_, sm1, xs, kv1, D1⟩ := dk_rd I.hok e2
        obtain ⟨_, sm2, ys, kv2, D2⟩ := dk_rd I.hok f2
        have l1 : a.length = xs.length := (relks_len rk).trans (Paired.length kv1)
        have l2 : b.length = ys.length := (relks_len rj).trans (Paired.length kv2)
        refine PySem.W.keq_ne (r := r) sm1 sm2 D1 D2 (by omega) (fun _ => hits_ok hu I rh rj kv2 rk kv1 q3) ?_
        rw [← l1, ← l2]
        exact ⟨.bl _, H, I, rfl, o m H _ (Post.refl rh) (.bl _)⟩
end
end Py

set_option Elab.async false
set_option linter.all false
set_option maxRecDepth 100000
set_option maxHeartbeats 2000000
/-! Own layer: == where a built-in declines and the own __eq__ of the right thing is asked. -/
namespace Py
open PySem PySem.Spec PyProof.Rows L2 PySem.W
open Builtin
section
variable {prog : Program} {w : World} {A : Around} {E : Value → Shared → Prop} {s : Shared} {K : Frag} {x C L f l : Addr} {h₀ : Heap} {m : Str → Option Value} {ox : Obj} {od : Option Obj} {v : Value} {dx : Addr}
theorem isNo {T : String} {M : Model} {Q : Bool → Shared → Prop} (X : K.In s.heap) (I : InstAt s.heap x ox C od) (hm : mroIn K C (.type T) = some false) (q : Q false s) : wpAny M A (isInstance (.ref x) (.type T)) Q E s :=
  wpAny_bind (I.type.here ((looks_mroIn X hm).here q))
theorem list_dec {Q : Value → Shared → Prop} (X : K.In s.heap) (I : InstAt s.heap x ox C od) (hm : mroIn K C (.type "list") = some false) (hT : s.TypeIs (.ref l) "list") (q : Q .notImplemented s) : wpAny (model prog w) A (call (.builtin "list.__eq__") [.ref l, .ref x]) Q E s := by
  refine wpAny_call_entry PySem.F.slot_list_eq hT PySem.F.entry_list_eq ?_ (PySem.F.args_list_eq_2 _ _)
  show wpAny _ _ (slotArgs "__eq__" 1 ⟨[.ref l, .ref x], []⟩ >>= _) _ _ s
  refine wpAny_bind ?_
  show wpAny _ _ (pure (Value.ref l, [Value.ref x])) _ _ s
  refine wpAny_pure ?_
  refine wpAny_bind (isNo X I hm ?_)
  exact wpAny_bind (wpAny_pure (wpAny_pure ⟨_, rfl, q⟩))
theorem tuple_dec {Q : Value → Shared → Prop} (X : K.In s.heap) (I : InstAt s.heap x ox C od) (hm : mroIn K C (.type "tuple") = some false) (hT : s.TypeIs (.ref l) "tuple") (q : Q .notImplemented s) : wpAny (model prog w) A (call (.builtin "tuple.__eq__") [.ref l, .ref x]) Q E s := by
  refine wpAny_call_entry PySem.F.slot_tuple_eq hT PySem.F.entry_tuple_eq ?_ (PySem.F.args_tuple_eq_2 _ _)
  show wpAny _ _ (slotArgs "__eq__" 1 ⟨[.ref l, .ref x], []⟩ >>= _) _ _ s
  refine wpAny_bind ?_
  show wpAny _ _ (pure (Value.ref l, [Value.ref x])) _ _ s
  refine wpAny_pure ?_
  refine wpAny_bind (isNo X I hm ?_)
  exact wpAny_bind (wpAny_pure (wpAny_pure ⟨_, rfl, q⟩))
theorem dict_dec {Q : Value → Shared → Prop} (X : K.In s.heap) (I : InstAt s.heap x ox C od) (hm : mroIn K C (.type "dict") = some false) (hT : s.TypeIs (.ref l) "dict") (q : Q .notImplemented s) : wpAny (model prog w) A (call (.builtin "dict.__eq__") [.ref l, .ref x]) Q E s := by
  refine wpAny_call_entry PySem.F.slot_dict_eq hT PySem.F.entry_dict_eq ?_ (PySem.F.args_dict_eq_2 _ _)
  show wpAny _ _ (Builtin.Dict.dictSlotArgs "__eq__" ⟨[.ref l, .ref x], []⟩ >>= _) _ _ s
  refine wpAny_bind ?_
  unfold Builtin.Dict.dictSlotArgs
  refine wpAny_bind (wpAny_notOrdered_dict hT ?_)
  show wpAny _ _ (pure (Value.ref l, Value.ref x)) _ _ s
  refine wpAny_pure ?_
  refine wpAny_bind (isNo X I hm ?_)
  exact wpAny_bind (wpAny_rule (wpAny_bind (wpAny_pure (wpAny_pure ⟨_, rfl, q⟩))))
theorem str_dec {Q : Value → Shared → Prop} (b : Str) (u : Tok) (hx : s.heap.get? x = some (instObj C dx)) (q : Q .notImplemented s) : wpAny (model prog w) A (call (.builtin "str.__eq__") [.str b u, .ref x]) Q E s := by
  refine wpAny_call_entry PySem.F.slot_str_eq (typeIs_str s b u) PySem.F.entry_str_eq ?_ (PySem.F.args_str_eq_2 _ _)
  obtain ⟨hp, g, d, tk, os⟩ := s
  unfold instObj at hx
  wp_walk using wpAny_load hx
  exact ⟨_, rfl, q⟩
theorem int_dec {Q : Value → Shared → Prop} (b : Int) (u : Tok) (hx : s.heap.get? x = some (instObj C dx)) (q : Q .notImplemented s) : wpAny (model prog w) A (call (.builtin "int.__eq__") [.int b u, .ref x]) Q E s := by
  refine wpAny_call_entry PySem.F.slot_int_eq (typeIs_int s b u) PySem.F.entry_int_eq ?_ (PySem.F.args_int_eq_2 _ _)
  obtain ⟨hp, g, d, tk, os⟩ := s
  unfold instObj at hx
  wp_walk using wpAny_load hx
  exact ⟨_, rfl, q⟩
theorem bool_dec {Q : Value → Shared → Prop} (b : Bool) (hx : s.heap.get? x = some (instObj C dx)) (q : Q .notImplemented s) : wpAny (model prog w) A (call (.builtin "int.__eq__") [.bool b, .ref x]) Q E s := by
  refine wpAny_call_entry PySem.F.slot_bool_eq rfl PySem.F.entry_int_eq ?_ (PySem.F.args_int_eq_2 _ _)
  obtain ⟨hp, g, d, tk, os⟩ := s
  unfold instObj at hx
  wp_walk using wpAny_load hx
  exact ⟨_, rfl, q⟩
theorem none_dec {Q : Value → Shared → Prop} (q : Q .notImplemented s) : wpAny (model prog w) A (call (.builtin "NoneType.__eq__") [.none, .ref x]) Q E s :=
  PySem.call_gives PySem.F.slot_NoneType_eq rfl PySem.F.entry_NoneType_eq (PySem.F.args_NoneType_eq_2 _ _) (PySem.SeqAt.NoneType___eq___none_ref_0 x) q
theorem eqR_K {T ida : String} {Q : Value → Shared → Prop} (hu : A.units < cLine) (F : Fr h₀ L s.heap m) (X₀ : K.In h₀) (I : InstAt s.heap x ox C od) (hT : s.TypeIs v T) (hsub : mroIn K C (.type T) = some false)
    (h1 : Slot T "__eq__" ida) (hdec : ∀ Q' : Value → Shared → Prop, Q' .notImplemented s → wpAny (model prog w) A (call (.builtin ida) [v, .ref x]) Q' E s)
    (hs : findIn K (.ref C) "__eq__" = some (some (.ref f))) (hf : isFn K (.ref f) = true)
    (h : wpAny (model prog w) A (call (.ref f) [.ref x, v]) (PySem.W.CmpBack Q) E s) : wpAny (model prog w) A (richCompare .Eq v (.ref x)) Q E s := by
  have X := X₀.keeps F.keep
  have one : wpAny (model prog w) A (tryCompare (.ref x) "__eq__" v) (fun r s' => ∃ v', r = some v' ∧ Q v' s') E s := by
    unfold tryCompare
    refine wpAny_bind (ifBound_K X I hs hf (wpAny_mono h (fun v s' hv => ?_) fun _ _ e => e))
    cases v <;> first | exact hv.elim | exact wpAny_pure ⟨_, rfl, hv⟩
  have hi : cmpInfo .Eq = ("==", ("__eq__" : Str), ("__eq__" : Str)) := rfl
  have hne : (Value.type T != Value.ref C) = true := rfl
  simp only [richCompare, hi, hT.oneThing_none]
  refine wpAny_holding (wpAny_bind (wpAny_cRoomFor hu ?_))
  refine wpAny_bind (wpAny_typeOf hT (wpAny_bind (I.type.here ?_)))
  simp only [hne, if_true]
  refine wpAny_bind ((looks_mroIn X hsub).here ?_)
  simp only [Bool.false_eq_true, if_false, Bool.not_false, if_true]
  refine wpAny_bind (m := tryCompare v _ _) (wpAny_tryCompare_declines hT h1 (hdec _ ⟨rfl, ?_⟩))
  refine wpAny_bind (wpAny_mono one (fun r s' z => ?_) fun _ _ e => e)
  obtain ⟨v, rfl, hq⟩ := z
  exact wpAny_pure hq
end
def kindNames : List String := ["NoneType", "bool", "int", "str", "tuple", "list", "dict"]
theorem kind_mem (k : Kd) : k.nm ∈ kindNames := by cases k <;> decide
/-- x == y, y of the class c with its own __eq__, x of a built-in kind -/
def oEqR (c : Nat) (cf : CF) : D → D → LH → R D := fun x y h => match kindD x h, y with
  | some _, .ref n => (match h[n]? with
    | some (.ins c' _) => if c' = c then (cf [y, x] h).bind fun v h1 => (match v with
      | .bl b => .ok (.bl b) h1
      | _ => .stuck) else .stuck
    | _ => .stuck)
  | _, _ => .stuck
section
variable {X : Cx} {G : Gam} {E : XK} {CX : CXT}
theorem eqR_ok {k c : Nat} {f : Addr} {fd : FuncData} {ps : List Str} {cf : CF} (F : FnG X.prog X.w X.K X.mg X.base CX k f fd ps (spF G X.K cf)) (hg : X.A.guards = some []) (hr : Room k X.A) (hx : Passes CX X E) (hb : Bnd X.K fd ps 2 [] bd0)
    (hs : PySem.W.findIn X.K (.ref (G.cl c)) "__eq__" = some (some (.ref f))) (hf : PySem.W.isFn X.K (.ref f) = true) (sb : (kindNames.all fun t => PySem.W.mroIn X.K (G.cl c) (.type t) == some false) = true) (hu : X.A.units + 64 < cLine) : OpR X (compareOp .Eq) (r2 G X.K E (oEqR c cf)) := by
  intro pins s σ H x y v u Q I rx ry ⟨m, h, dx, dy, rh, d1, d2, o⟩
  unfold oEqR at o
  cases q1 : kindD dx h with
  | none => simp only [q1] at o; exact o.elim
  | some kd =>
    cases d2 with
    | @ref n hn =>
      simp only [q1] at o
      cases z : h[n]? with
      | none => simp only [z] at o; exact o.elim
      | some ob =>
        cases ob with
        | ins c' fs =>
          simp only [z] at o
          by_cases hc : c' = c
          · rw [if_pos hc] at o
            subst hc
            obtain ⟨dx', vs, e1, rf⟩ := rh.obj n _ z
            obtain rfl : u = Value.ref (m n) := ry
            obtain ⟨mA, O1, _⟩ := ins_get I.hok e1
            obtain ⟨od, J, _⟩ := O1.look
            obtain ⟨mm, Fr1⟩ := I.fr
            have Kin := I.ok.mod.kin.keeps Fr1.keep
            have sb' : ∀ k : Kd, PySem.W.mroIn X.K (G.cl c') (.type k.nm) = some false := fun k => beq_iff_eq.mp (List.all_eq_true.mp sb _ (kind_mem k))
            have call : wpAny (model X.prog X.w) X.A (call (.ref f) [.ref (m n), v]) (PySem.W.CmpBack (EP X pins σ Q)) X.xe s := by
              obtain ⟨us2, vs2, q1, q2, q3⟩ := hb s [.ref (m n), v] [] [.ref (m n), x] [] I.kIn (.cons rfl (.cons rx .nil)) .nil rfl rfl
              refine thn (runG F hg hr hx I q2 q1 (Q := fun w H2 => ∃ b, w = .bl b ∧ Q (.bl b) H2) ⟨m, h, _, rh, q3 _ _ _ _ _ (.cons (.ref hn) (.cons d1 .nil)) .nil, ?_⟩) ?_
              · rcases Out.bindR o with ⟨w, h2, e, o⟩ | ⟨cc, fs2, h2, e, o⟩
                · show Out _ _ _ _ _ _ _ (cf [.ref n, dx] h)
                  rw [e]
                  intro m2 H2 w2 p2 d2
                  cases d2 with
                  | bl b => exact ⟨b, rfl, o m2 H2 _ p2 (.bl _)⟩
                  | _ => exact o.elim
                · show Out _ _ _ _ _ _ _ (cf [.ref n, dx] h)
                  rw [e]; exact o
              · rintro w s2 ⟨w2, H2, I2, rw2, b, rfl, q⟩
                obtain rfl : w = Value.bool b := rw2
                exact ⟨.bl b, H2, I2, rfl, q⟩
            have hat : s.heap.get? (m n) = some (PySem.W.instObj (G.cl c') dx') := J.at_
            have go : ∀ (kk : Kd) (ida : String), s.TypeIs v kk.nm → Slot kk.nm "__eq__" ida → (∀ Q' : Value → Shared → Prop, Q' .notImplemented s → wpAny (model X.prog X.w) X.A (PySem.call (.builtin ida) [v, .ref (m n)]) Q' X.xe s) → wpAny (model X.prog X.w) X.A (compareOp .Eq v (.ref (m n))) (EP X pins σ Q) X.xe s :=
              fun kk ida hT sl dc => eqR_K (by omega) Fr1 I.ok.mod.kin J hT (sb' kk) sl dc hs hf call
            cases d1 with
            | non =>
              obtain rfl : v = Value.none := rx
              exact go .non _ rfl PySem.F.slot_NoneType_eq fun Q' q => none_dec q
            | bl b =>
              obtain rfl : v = Value.bool b := rx
              exact go .bool _ rfl PySem.F.slot_bool_eq fun Q' q => bool_dec b hat q
            | int i =>
              obtain ⟨t, rfl⟩ : ∃ t, v = Value.int i t := rx
              exact go .int _ (typeIs_int s i t) PySem.F.slot_int_eq fun Q' q => int_dec i t hat q
            | str y =>
              obtain ⟨t, rfl⟩ : ∃ t, v = Value.str y t := rx
              exact go .str _ (typeIs_str s y t) PySem.F.slot_str_eq fun Q' q => str_dec y t hat q
            | @tup a xs ws ht rs =>
              obtain rfl : v = Value.ref a := rx
              obtain ⟨its, rv, p, _⟩ := I.tuple ht.sq
              obtain ⟨o1, ho1, hc1, _⟩ := id p
              exact go .tuple _ ⟨o1, ho1, hc1⟩ PySem.F.slot_tuple_eq fun Q' q => tuple_dec Kin J (sb' .tuple) ⟨o1, ho1, hc1⟩ q
            | @scr a ns hs' =>
              obtain rfl : v = Value.ref a := rx
              obtain ⟨its, rv, p, _⟩ := I.list hs'.sq
              obtain ⟨o1, ho1, hc1, _⟩ := id p.isList
              exact go .list _ ⟨o1, ho1, hc1⟩ PySem.F.slot_list_eq fun Q' q => list_dec Kin J (sb' .list) ⟨o1, ho1, hc1⟩ q
            | fn _ => cases q1
            | @ref k hk =>
              obtain rfl : v = Value.ref (m k) := rx
              cases z2 : h[k]? with
              | none => simp only [kindD, z2] at q1; cases q1
              | some ob2 =>
                cases ob2 with
                | lst xs =>
                  obtain ⟨ws, f1, _⟩ := rh.obj k _ z2
                  obtain ⟨its, rv, p, _⟩ := I.list (SqL.of f1)
                  obtain ⟨o1, ho1, hc1, _⟩ := id p.isList
                  exact go .list _ ⟨o1, ho1, hc1⟩ PySem.F.slot_list_eq fun Q' q => list_dec Kin J (sb' .list) ⟨o1, ho1, hc1⟩ q
                | dct kv =>
                  obtain ⟨ws, f1, _⟩ := rh.obj k _ z2
                  obtain ⟨_, _, _, _, D⟩ := dk_of I.hok f1
                  exact go .dict _ D.typeIs PySem.F.slot_dict_eq fun Q' q => dict_dec Kin J (sb' .dict) D.typeIs q
                | _ => simp only [kindD, z2] at q1; cases q1
          · rw [if_neg hc] at o; exact o.elim
        | _ => simp only [z] at o; exact o.elim
    | _ => simp only [q1] at o; exact o.elim
end
end Py

set_option Elab.async false
set_option linter.all false
set_option maxRecDepth 100000
set_option maxHeartbeats 2000000
/-! Own layer: a loop over the keys of a dict that is read meanwhile, not written. -/
namespace Py
open PySem PySem.Spec PyProof.Rows L2
def kyD : Ky → D
  | .inl i => .int i
  | .inr x => .str x
/-- the dict at n set free behind the loop -/
def unF (n : Nat) (kvs : List (Ky × D)) : F → F
  | .nx r h => (match h[n]? with
    | some (.hid _) => .nx r (h.set n (.dct kvs))
    | _ => .stuck)
  | .rt d h => (match h[n]? with
    | some (.hid _) => .rt d (h.set n (.dct kvs))
    | _ => .stuck)
  | _ => .stuck
/-- for k in o: .. -/
def sForK (fo : EX) (g : GX) (b : SX) : SX := fun r h => match fo r h with
  | .ok (.ref n) _ => (match h[n]? with
    | some (.dct kvs) => (match fo r (h.set n (.hid kvs)) with
      | .ok (.ref n2) h1 => if n2 = n then (match h1[n]? with
        | some (.hid _) => unF n kvs (forX (.its (kvs.map fun p => kyD p.1)) g b fuelN 0 r h1)
        | _ => .stuck) else .stuck
      | _ => .stuck)
    | _ => .stuck)
  | _ => .stuck
section
variable {G : Gam} {K : PySem.W.Frag} {d : Addr} {od : Obj} {vs0 : List (L2.Key × V)}
theorem RelKs.keys {m : Nat → Addr} {N : Nat} {H : Hp} : ∀ {ks : List (Ky × D)} {vs : List (L2.Key × V)}, RelKs K m N H ks vs → RelDs K m N H (ks.map fun p => kyD p.1) (vs.map fun p => kV p.1)
  | _, _, .nil => .nil
  | _, _, .cons (k := k) _ r => .cons (by cases k with | inl i => exact .int i | inr x => exact .str x) (RelKs.keys r)
theorem it_keys {m0 : Nat → Addr} {h0 : LH} {H0 : Hp} {ks : List (Ky × D)} (hd : H0 d = some (.frz od (.dK vs0))) (rk : RelKs K m0 h0.length H0 ks vs0) : ItRel G K m0 h0 H0 (Itk d od vs0) (.its (ks.map fun p => kyD p.1)) := by
  intro m h H i p
  have hz := p.tk.z _ _ _ hd
  have rv := RelKs.keys rk
  simp only [srcAt]
  cases z : (ks.map fun p => kyD p.1)[i]? with
  | none =>
    refine ⟨hz, ?_⟩
    have e := List.getElem?_eq_none_iff.mp z
    rw [List.length_map] at e
    rw [← relks_len rk]; exact e
  | some x =>
    obtain ⟨v, ev, rx⟩ := rv.get z
    rw [List.getElem?_map] at ev
    have li : i < vs0.length := by
      rcases Nat.lt_or_ge i vs0.length with c | c
      · exact c
      · rw [List.getElem?_eq_none c] at ev; cases ev
    refine ⟨⟨hz, li⟩, ?_⟩
    rintro x' H' ⟨eH, k, w, hk, rfl⟩
    subst eH
    rw [hk] at ev
    cases ev
    exact ⟨Post.refl p.rel, p.d rx⟩
end
section
variable {X : Cx} {G : Gam} {E : XK} {tg o : Expr} {body : List Stmt} {pos : Pos} {fo : EX} {g : GX} {tb : SX}
/-- the loop itself -/
theorem for_body {J : It} {src : Src} {Z : Ends} {m1 : Nat → Addr} {h1 : LH} {H1 : Hp} {r : LS} {σ : L2.St} (rel1 : RelH G X.K m1 h1 H1) (rs1 : RelS X.K m1 h1.length H1 r σ) (ir : ItRel G X.K m1 h1 H1 J src) (o : OutS G X.K E m1 h1.length H1 Z (forX src g tb fuelN 0 r h1)) :
    ∃ W : Nat → Nat → L2.St → Hp → Prop, (∃ m, W 0 m σ H1) ∧ ∀ i m σ H, W i m σ H →
      (J.stop i H ∧ Z.nx σ H) ∨ (J.go i H ∧ ∃ N : L2.St → Hp → Prop, (∀ σ' H', N σ' H' → ∃ m', m' < m ∧ W (i + 1) m' σ' H') ∧ ∀ x H', J.yld i H x H' → tG G X.K E g x σ H' fun σ2 H2 => tS G X.K E tb { Z with nx := N, ct := N, bk := Z.nx } σ2 H2) := by
  refine ⟨fun i n σ H => ∃ m r h, Post G X.K m1 h1.length H1 m h H ∧ RelS X.K m h.length H r σ ∧ OutS G X.K E m h.length H Z (forX src g tb n i r h), ⟨fuelN, m1, r, h1, Post.refl rel1, rs1, o⟩, ?_⟩
  rintro i n σ H ⟨m, r, h, p, rs, o⟩
  cases n with
  | zero => exact o.elim
  | succ n =>
    have it := ir m h H i p
    unfold forX at o
    cases q : srcAt src h i with
    | none => simp only [q] at o; exact o.elim
    | some w =>
      cases w with
      | none =>
        simp only [q] at o it
        exact .inl ⟨it, o m H σ (Post.refl p.rel) rs⟩
      | some d =>
        simp only [q] at o it
        refine .inr ⟨it.1, fun σ' H' => ∃ m r h, Post G X.K m1 h1.length H1 m h H' ∧ RelS X.K m h.length H' r σ' ∧ OutS G X.K E m h.length H' Z (forX src g tb n (i + 1) r h), fun σ' H' q => ⟨n, Nat.lt_succ_self n, q⟩, fun x H' y => ?_⟩
        obtain ⟨p2, rd⟩ := it.2 x H' y
        refine ⟨m, r, h, d, p2.rel, p2.s rs, rd, ?_⟩
        have o := OutS.later p2 o
        cases z : g d r h with
        | nx r1 h2 =>
          rw [z] at o
          intro m3 H3 s3 p3 rs3
          refine ⟨m3, r1, h2, p3.rel, rs3, ?_⟩
          have o := OutS.later p3 o
          simp only at o
          have pp := p.trans (p2.trans p3)
          cases w : tb r1 h2 with
          | nx r2 h4 => simp only [w] at o; exact fun m4 H4 s4 p4 rs4 => ⟨m4, r2, h4, pp.trans p4, rs4, OutS.later p4 o⟩
          | ct r2 h4 => simp only [w] at o; exact fun m4 H4 s4 p4 rs4 => ⟨m4, r2, h4, pp.trans p4, rs4, OutS.later p4 o⟩
          | bk r2 h4 => simp only [w] at o; exact o
          | rt d h4 => simp only [w] at o; exact o
          | exc c fs h4 => simp only [w] at o; exact o
          | stuck => simp only [w] at o; exact o.elim
        | ct r2 h4 => simp only [z] at o; exact o.elim
        | bk r2 h4 => simp only [z] at o; exact o.elim
        | rt d h4 => simp only [z] at o; exact o.elim
        | exc c fs h4 => simp only [z] at o; exact o.elim
        | stuck => simp only [z] at o; exact o.elim
theorem RelS.to0 {K : PySem.W.Frag} {m : Nat → Addr} {N : Nat} {H H' : Hp} (t : TK0 K H H') : ∀ {r : LS} {s : L2.St}, RelS K m N H r s → RelS K m N H' r s
  | _, _, .nil => .nil
  | _, _, .no r => .no (RelS.to0 t r)
  | _, _, .yes h r => .yes (h.to0 t) (RelS.to0 t r)
/-- back to the free dict -/
theorem unlock_post {m m2 : Nat → Addr} {n : Nat} {h h2 : LH} {H H2 : Hp} {ks kz : List (Ky × D)} {od : Obj} {vs0 : List (L2.Key × V)} (q2 : h[n]? = some (.dct ks)) (e1 : H (m n) = some (.dK vs0)) (nkd : X.K.lookup (m n) = none) (rk : RelKs X.K m h.length H ks vs0)
    (pl : Post G X.K m h.length H m (h.set n (.hid ks)) (upd H (m n) (.frz od (.dK vs0)))) (p12 : Post G X.K m (h.set n (.hid ks)).length (upd H (m n) (.frz od (.dK vs0))) m2 h2 H2) (q6 : h2[n]? = some (.hid kz)) :
    H2 (m n) = some (.frz od (.dK vs0)) ∧ Post G X.K m h.length H m2 (h2.set n (.dct ks)) (upd H2 (m n) (.dK vs0)) := by
  have hn := (List.getElem?_eq_some_iff.mp q2).1
  have ez2 : H2 (m n) = some (.frz od (.dK vs0)) := p12.tk.z _ _ _ upd_same
  have l2 : n < h2.length := (List.getElem?_eq_some_iff.mp q6).1
  have em2 : m2 n = m n := p12.agr n (by rw [List.length_set]; exact hn)
  have t0 : TK0 X.K H2 (upd H2 (m n) (.dK vs0)) := tk_unlock ez2 nkd
  have rk2 : RelKs X.K m2 h2.length H2 ks vs0 := rk.mono (pl.trans p12).agr (pl.trans p12).len (pl.trans p12).tk
  have rel2 : RelH G X.K m2 (h2.set n (.dct ks)) (upd H2 (m n) (.dK vs0)) := by
    refine ⟨fun k ob ek => ?_, fun a b ha hb eab => ?_, tabs_upd p12.rel.tab ez2 (fun _ z => nomatch z) (fun _ z => nomatch z)⟩
    · rw [List.length_set]
      by_cases z : n = k
      · subst z
        rw [List.getElem?_set_self l2] at ek
        cases ek
        rw [em2]
        exact ⟨vs0, upd_same, rk2.to0 t0⟩
      · rw [List.getElem?_set_ne z] at ek
        have lk := (List.getElem?_eq_some_iff.mp ek).1
        refine (p12.rel.obj k ob ek).to0 t0 ?_
        rw [upd_ne fun e => z (p12.rel.inj n k l2 lk (by rw [em2]; exact e.symm))]
    · rw [List.length_set] at ha hb
      exact p12.rel.inj a b ha hb eab
  refine ⟨ez2, fun i hi => ?_, ?_, ?_, rel2, fun i h1' h2' ob' eo => ?_, fun a ob' ea nt hx => ?_⟩
  · exact p12.agr i (by rw [List.length_set]; exact hi)
  · have := p12.len
    rw [List.length_set] at this ⊢
    exact this
  · exact tk_round e1 nkd p12.tk ez2
  · rw [List.length_set] at h2'
    have ne : m2 i ≠ m n := fun z => by
      have := p12.rel.inj i n h2' l2 (by rw [em2]; exact z)
      omega
    exact p12.new i (by rw [List.length_set]; exact h1') h2' ob' (by rw [upd_ne ne]; exact eo)
  · have ne : a ≠ m n := Ne.symm (hx n hn)
    rw [upd_ne ne]
    exact p12.fr a ob' (by rw [upd_ne ne]; exact ea) nt (fun i hi => hx i (by rw [List.length_set] at hi; exact hi))
theorem zForK (hp : PassesOwn (model X.prog X.w) X.A X.env X.xe) (hc : X.calm = true) (ho : PE X o (tE G X.K E fo)) (hg : PG X tg (tG G X.K E g)) (hb : PSs X body (tS G X.K E tb))
    (hs : ∀ x, foldedSetIterable o X.env x = pure x := by intro _; rfl) : PS X (.For tg o body [] pos) (tS G X.K E (sForK fo g tb)) := by
  refine ⟨fun pins s σ H D I t => (ps_lock (ps_for hp hc (pi_keys ho) hg hb hs)).run pins s σ H D I ?_⟩
  have nk := noKd I
  obtain ⟨m, r, h, rh, rs, o⟩ := t
  unfold sForK at o
  cases q1 : fo r h with
  | exc c fs h1 => simp only [q1] at o; exact o.elim
  | stuck => simp only [q1] at o; exact o.elim
  | ok x h9 =>
    cases x with
    | ref n =>
      simp only [q1] at o
      cases q2 : h[n]? with
      | none => simp only [q2] at o; exact o.elim
      | some ob =>
        cases ob with
        | dct ks =>
          simp only [q2] at o
          obtain ⟨vs0, e1, rk⟩ := rh.obj n _ q2
          have hn := (List.getElem?_eq_some_iff.mp q2).1
          have nkd := nk _ _ e1
          refine ⟨m n, .dK vs0, e1, trivial, fun od => ?_⟩
          have pl := rh.upd (u := .frz od (.dK vs0)) (o := .hid ks) q2 e1 (fun _ z => nomatch z) (fun _ _ z => nomatch z) ⟨od, vs0, upd_same, rk.mono (fun _ _ => rfl) (Nat.le_refl _) (TK.upd_mut e1 (fun _ z => nomatch z) (fun _ _ z => nomatch z))⟩
          refine ⟨m, r, h.set n (.hid ks), pl.rel, pl.s rs, ?_⟩
          cases q3 : fo r (h.set n (.hid ks)) with
          | exc c fs h1 => simp only [q3] at o; exact o.elim
          | stuck => simp only [q3] at o; exact o.elim
          | ok x2 h1 =>
            simp only [q3] at o
            cases x2 with
            | ref n2 =>
              simp only at o
              by_cases en : n2 = n
              · rw [if_pos en] at o
                cases q4 : h1[n]? with
                | none => simp only [q4] at o; exact o.elim
                | some ob4 =>
                  cases ob4 with
                  | hid kz =>
                    simp only [q4] at o
                    subst en
                    intro m1 H1 v p1 d1
                    cases d1
                    have em : m1 n2 = m n2 := p1.agr n2 (by rw [List.length_set]; exact hn)
                    have ez : H1 (m n2) = some (.frz od (.dK vs0)) := p1.tk.z _ _ _ upd_same
                    rw [em]
                    refine ⟨m n2, od, rfl, .inl ⟨vs0, ez, ?_⟩⟩
                    have rk1 : RelKs X.K m1 h1.length H1 ks vs0 := rk.mono (pl.trans p1).agr (pl.trans p1).len (pl.trans p1).tk
                    refine for_body (E := E) p1.rel (p1.s (pl.s rs)) (it_keys ez rk1) ?_
                    cases q5 : forX (.its (ks.map fun p => kyD p.1)) g tb fuelN 0 r h1 with
                    | nx r2 h2 =>
                      simp only [q5, unF] at o
                      cases q6 : h2[n2]? with
                      | none => simp only [q6] at o; exact o.elim
                      | some ob6 =>
                        cases ob6 with
                        | hid ky =>
                          simp only [q6] at o
                          intro m2 H2 s2 p2 rs2
                          obtain ⟨ez2, pp⟩ := unlock_post q2 e1 nkd rk pl (p1.trans p2) q6
                          have t0 : TK0 X.K H2 (upd H2 (m n2) (.dK vs0)) := tk_unlock ez2 nkd
                          exact ⟨ez2, o m2 _ s2 pp (by rw [List.length_set]; exact rs2.to0 t0)⟩
                        | _ => simp only [q6] at o; exact o.elim
                    | rt d2 h2 =>
                      simp only [q5, unF] at o
                      cases q6 : h2[n2]? with
                      | none => simp only [q6] at o; exact o.elim
                      | some ob6 =>
                        cases ob6 with
                        | hid ky =>
                          simp only [q6] at o
                          intro m2 H2 s2 p2 rs2
                          obtain ⟨ez2, pp⟩ := unlock_post q2 e1 nkd rk pl (p1.trans p2) q6
                          have t0 : TK0 X.K H2 (upd H2 (m n2) (.dK vs0)) := tk_unlock ez2 nkd
                          exact ⟨ez2, o m2 _ s2 pp (by rw [List.length_set]; exact rs2.to0 t0)⟩
                        | _ => simp only [q6] at o; exact o.elim
                    | _ => simp only [q5, unF] at o; exact o.elim
                  | _ => simp only [q4] at o; exact o.elim
              · rw [if_neg en] at o; exact o.elim
            | _ => simp only at o; exact o.elim
        | _ => simp only [q2] at o; exact o.elim
    | _ => simp only [q1] at o; exact o.elim
end
end Py

set_option Elab.async false
set_option linter.all false
set_option maxRecDepth 100000
set_option maxHeartbeats 2000000
/-! Own layer: [.. for k, v in d.items() ..], [*l, ..], sep.join(l), {x!r}. -/
namespace Py
open PySem PySem.Spec PyProof.Rows L2
/-- [*l, ..] -/
def aStar (fo : EX) (fa : AX) : AX := fun r h => (fo r h).bind fun x h1 => match seqD x h1 with
  | some xs => (fa r h1).bind fun ds h2 => .ok (xs ++ ds) h2
  | none => .stuck
/-- sep.join(l), a list or a tuple of texts -/
def eJoinL (fo fe : EX) : EX := fun r h => (fo r h).bind fun x h1 => match x with
  | .str a => (fe r h1).bind fun y h2 => (match (seqD y h2).bind strsD with
    | some ys => if (ys.map (·.length)).sum + ys.length * a.length ≤ 16777216 then .ok (.str (Txt.join a ys)) h2 else .stuck
    | none => .stuck)
  | _ => .stuck
/-- {x!r} -/
def oFmtR : D → LH → R D := fun d h => match d with
  | .str x => if (reprText x).length ≤ sizeLine then .ok (.str (reprText x)) h else .stuck
  | .bl b => .ok (.str (if b then "True" else "False")) h
  | .int i => if i.natAbs.log2 < 1920 then .ok (.str (toString i)) h else .stuck
  | .tup xs => (match deep h 60 (.tup xs) with
    | some a => if showOk a = true then .ok (.str a.shown) h else .stuck
    | none => .stuck)
  | .ref n => (match deep h 60 (.ref n) with
    | some a => if showOk a = true then .ok (.str a.shown) h else .stuck
    | none => .stuck)
  | _ => .stuck
/-- [e for k, v in o.items() if t]; the dict is walked, nothing writes it meanwhile -/
def eCompI (vs : List Nat) (fo ft fe : EX) : EX := fun r h => match fo r h with
  | .ok (.ref n) _ => (match h[n]? with
    | some (.dct kvs) => (match fo r (h.set n (.hid kvs)) with
      | .ok (.ref n2) h1 => if n2 = n ∧ (kvs.all fun p => notS p.2) = true then (match h1[n]? with
        | some (.hid _) => (match compX (.its (kvs.map fun p => .tup [kyD p.1, p.2])) vs ft fe fuelN 0 [] (wipeL r vs) h1 with
          | .ok acc h2 => (match h2[n]? with
            | some (.hid _) => .ok (.ref h2.length) ((h2 ++ [O.lst acc]).set n (.dct kvs))
            | _ => .stuck)
          | _ => .stuck)
        | _ => .stuck) else .stuck
      | _ => .stuck)
    | _ => .stuck)
  | _ => .stuck
theorem RelKs.get {K : PySem.W.Frag} {m : Nat → Addr} {N : Nat} {H : Hp} : ∀ {ks : List (Ky × D)} {vs : List (L2.Key × V)} {i : Nat} {p : Ky × D}, RelKs K m N H ks vs → ks[i]? = some p → ∃ v, vs[i]? = some (p.1, v) ∧ RelD K m N H p.2 v
  | _, _, _, _, .nil, e => by cases e
  | _, _, 0, p, .cons (v := v) h _, e => by cases e; exact ⟨v, rfl, h⟩
  | _, _, i + 1, _, .cons _ r, e => RelKs.get (i := i) r e
theorem ky_rel {K : PySem.W.Frag} {m : Nat → Addr} {N : Nat} {H : Hp} (k : Ky) : RelD K m N H (kyD k) (kV k) := by cases k with
  | inl i => exact .int i
  | inr x => exact .str x
section
variable {G : Gam} {K : PySem.W.Frag} {d : Addr} {od : Obj} {vs0 : List (L2.Key × V)}
theorem it_items {m0 : Nat → Addr} {h0 : LH} {H0 : Hp} {ks : List (Ky × D)} (hd : H0 d = some (.frz od (.dK vs0))) (rk : RelKs K m0 h0.length H0 ks vs0) (ns : (ks.all fun p => notS p.2) = true) : ItRel G K m0 h0 H0 (Iti d od vs0) (.its (ks.map fun p => .tup [kyD p.1, p.2])) := by
  intro m h H i p
  have hz := p.tk.z _ _ _ hd
  simp only [srcAt]
  rw [List.getElem?_map]
  cases z : ks[i]? with
  | none =>
    refine ⟨hz, ?_⟩
    have e := List.getElem?_eq_none_iff.mp z
    rw [← relks_len rk]; exact e
  | some x =>
    obtain ⟨v, ev, rx⟩ := RelKs.get rk z
    have li : i < vs0.length := (List.getElem?_eq_some_iff.mp ev).1
    refine ⟨⟨hz, li⟩, ?_⟩
    rintro x' H' ⟨T, k, w, hk, rfl, hT, rfl⟩
    rw [ev] at hk
    cases hk
    have pp := p.rel.newT (u := .tup [kV x.1, v]) hT
    have hn := List.all_eq_true.mp ns x (List.mem_of_getElem? z)
    exact ⟨pp, .tup ⟨SqT.of upd_same, .inr ⟨v, by simp, notS_ok rx hn⟩⟩ (.cons (ky_rel _) (.cons (pp.d (p.d rx)) .nil))⟩
end
section
variable {X : Cx} {G : Gam} {E : XK} {CX : CXT}
theorem toCompI {gg : TG} {fo ft fe : EX} {vs : List Nat} (hgg : TgOk X vs gg) {σ : L2.St} {H : Hp} {Q : VK} (nk : ∀ a u, H a = some u → X.K.lookup a = none) (t : tE G X.K E (eCompI vs fo ft fe) σ H Q) :
    tLockE (tLc (iItems (tE G X.K E fo)) gg (tT G X.K E0 ft) (tE G X.K E0 fe) vs) σ H Q := by
  obtain ⟨m, r, h, rh, rs, o⟩ := t
  unfold eCompI at o
  cases q1 : fo r h with
  | exc c fs h1 => simp only [q1] at o; exact o.elim
  | stuck => simp only [q1] at o; exact o.elim
  | ok x h9 =>
    cases x with
    | ref n =>
      simp only [q1] at o
      cases q2 : h[n]? with
      | none => simp only [q2] at o; exact o.elim
      | some ob =>
        cases ob with
        | dct ks =>
          simp only [q2] at o
          obtain ⟨vs0, e1, rk⟩ := rh.obj n _ q2
          have hn := (List.getElem?_eq_some_iff.mp q2).1
          have nkd := nk _ _ e1
          refine ⟨m n, .dK vs0, e1, trivial, fun od => ?_⟩
          have pl := rh.upd (u := .frz od (.dK vs0)) (o := .hid ks) q2 e1 (fun _ z => nomatch z) (fun _ _ z => nomatch z) ⟨od, vs0, upd_same, rk.mono (fun _ _ => rfl) (Nat.le_refl _) (TK.upd_mut e1 (fun _ z => nomatch z) (fun _ _ z => nomatch z))⟩
          refine ⟨m, r, h.set n (.hid ks), pl.rel, pl.s rs, ?_⟩
          cases q3 : fo r (h.set n (.hid ks)) with
          | exc c fs h1 => simp only [q3] at o; exact o.elim
          | stuck => simp only [q3] at o; exact o.elim
          | ok x2 h1 =>
            simp only [q3] at o
            cases x2 with
            | ref n2 =>
              simp only at o
              by_cases en : n2 = n ∧ (ks.all fun p => notS p.2) = true
              · rw [if_pos en] at o
                obtain ⟨en, ns⟩ := en
                cases q4 : h1[n]? with
                | none => simp only [q4] at o; exact o.elim
                | some ob4 =>
                  cases ob4 with
                  | hid _ =>
                    simp only [q4] at o
                    subst en
                    intro m1 H1 v p1 d1
                    cases d1
                    have em : m1 n2 = m n2 := p1.agr n2 (by rw [List.length_set]; exact hn)
                    have ez : H1 (m n2) = some (.frz od (.dK vs0)) := p1.tk.z _ _ _ upd_same
                    rw [em]
                    refine ⟨m n2, od, vs0, rfl, ez, ?_⟩
                    have rk1 : RelKs X.K m1 h1.length H1 ks vs0 := rk.mono (pl.trans p1).agr (pl.trans p1).len (pl.trans p1).tk
                    refine comp_body (E := E) (Q := fun v H' => H' (m n2) = some (.frz od (.dK vs0)) ∧ Q v (upd H' (m n2) (.dK vs0))) hgg p1.rel (p1.s (pl.s rs)) (it_items ez rk1 ns) ?_
                    cases q5 : compX (.its (ks.map fun p => .tup [kyD p.1, p.2])) vs ft fe fuelN 0 [] (wipeL r vs) h1 with
                    | exc c fs h2 => simp only [q5] at o; exact o.elim
                    | stuck => simp only [q5] at o; exact o.elim
                    | ok acc h2 =>
                      simp only [q5] at o
                      cases q6 : h2[n2]? with
                      | none => simp only [q6] at o; exact o.elim
                      | some ob6 =>
                        cases ob6 with
                        | hid kz =>
                          simp only [q6] at o
                          rw [R.bind_ok]
                          intro m2 H2 w p2 d2
                          have l6 := (List.getElem?_eq_some_iff.mp q6).1
                          obtain ⟨ez2, pp⟩ := unlock_post q2 e1 nkd rk pl (p1.trans p2) (show (h2 ++ [O.lst acc])[n2]? = some (.hid kz) by rw [List.getElem?_append_left l6]; exact q6)
                          refine ⟨ez2, o m2 _ w pp ?_⟩
                          cases d2
                          exact .ref (by simp)
                        | _ => simp only [q6] at o; exact o.elim
                  | _ => simp only [q4] at o; exact o.elim
              · rw [if_neg en] at o; exact o.elim
            | _ => simp only at o; exact o.elim
        | _ => simp only [q2] at o; exact o.elim
    | _ => simp only [q1] at o; exact o.elim
variable {elts : List Expr} {kk : Nat} {tpos : Pos}
theorem zSetLcI {i : Nat} {y : Str} {py spos : Pos} {o elt : Expr} {ifs : List Expr} {scope : Scope} {own : List (Str × Nat)} {gg : TG} {fo ft fe : EX} {vs : List Nat} {apos cpos pos : Pos} (hc : X.calm = true) (hN : X.N.Nodup) (hy : X.N[i]? = some y) (hyl : X.env.scope.names.lookup y = some .local)
    (hsw : swapsWith (.ListComp elt [⟨.Tuple elts kk tpos, .Call (.Attribute o "items" apos) [] [] cpos, ifs, 0⟩] scope pos) (some (.Name y py)) spos.line X.env = pure true) (ho : PE X o (tE G X.K E fo)) (ok : BlkOk X.N X.env.scope scope own) (hv : own.map (·.2) = vs) (hgg : TgOk X vs gg)
    (hg : ∀ (s : Shared) (H : Hp) (C : Addr) (cl : List (Str × Addr)) (fp : List Addr), PG (X.blk s H scope (compEnvC scope cl C X.env) fp) (.Tuple elts kk tpos) gg)
    (ht : ∀ (s : Shared) (H : Hp) (C : Addr) (cl : List (Str × Addr)) (fp : List Addr), PTs (X.blk s H scope (compEnvC scope cl C X.env) fp) ifs (tT G X.K E0 ft))
    (he : ∀ (s : Shared) (H : Hp) (C : Addr) (cl : List (Str × Addr)) (fp : List Addr), PE (X.blk s H scope (compEnvC scope cl C X.env) fp) elt (tE G X.K E0 fe))
    (hbase : attributeBase o "items" X.env (eval o X.env) = eval o X.env := by rfl) (hline : (apos.endLine == cpos.line) = true := by rfl)
    (hs : ∀ x, foldedSetIterable (.Call (.Attribute o "items" apos) [] [] cpos) X.env x = pure x := by intro _; rfl) : PS X (.Assign [.Name y py] (.ListComp elt [⟨.Tuple elts kk tpos, .Call (.Attribute o "items" apos) [] [] cpos, ifs, 0⟩] scope pos) spos) (tS G X.K E (sAsg (eCompI vs fo ft fe) (gN i))) := by
  subst hv
  refine ⟨fun pins s σ H Z I t => (ps_lock (ps_setLc hc hN hy hyl hsw (pi_items ho hbase hline) ok hg ht he hs)).run pins s σ H Z I ?_⟩
  obtain ⟨m, r, h, rh, rs, o⟩ := t
  have t2 : tE G X.K E (eCompI (own.map (·.2)) fo ft fe) σ H (fun x H1 => Z.nx (σ.set i (some x)) H1) := by
    refine ⟨m, r, h, rh, rs, ?_⟩
    rcases OutS.toR o with ⟨d, h1, e, o⟩ | ⟨c, fs, h1, e, o⟩
    · rw [e]
      intro m1 H1 v p1 d1
      exact o m1 H1 _ p1 (RelS.set d1 i (p1.s rs))
    · rw [e]; exact o
  exact toCompI hgg (noKd I) t2
variable {a e : Expr} {es : List Expr} {fa fe fo : EX} {fs : AX} {p pos apos : Pos}
theorem xaStar (ho : PE X e (tE G X.K E fo)) (hr : PA X es (tA G X.K E fs)) (hs : starEach (.Starred e p :: es) X.env = (true, eval e X.env) :: starEach es X.env := by rfl) :
    PA X (.Starred e p :: es) (tA G X.K E (aStar fo fs)) :=
  PA_mono (StX.pa_star ho hr hs) fun σ H Q ⟨m, r, h, rh, rs, o⟩ => by
    refine ⟨m, r, h, rh, rs, ?_⟩
    rcases OutA.bindR o with ⟨x, h1, e, o⟩ | ⟨c, fs, h1, e, o⟩
    · rw [e]
      intro m1 H1 v p1 d1
      cases q : seqD x h1 with
      | none => simp only [q] at o; exact o.elim
      | some xs =>
        simp only [q] at o
        obtain ⟨b, vs, rfl, sq, rd⟩ := seq_ok p1.rel d1 q
        refine ⟨b, vs, rfl, sq.symm, m1, r, h1, p1.rel, p1.s rs, ?_⟩
        rcases OutA.bindR o with ⟨ds, h2, e, o⟩ | ⟨c, fs, h2, e, o⟩
        · rw [e]
          intro m2 H2 ws p2 d2
          exact o m2 H2 _ (p1.trans p2) (relds_app (p2.ds rd) d2)
        · rw [e]; exact OutX.later p1 o
    · rw [e]; exact o
theorem xJoinL (ho : PE X a (tE G X.K E fo)) (he : PE X e (tE G X.K E fe)) (hs : starEach [e] X.env = [(false, eval e X.env)] := by rfl) (hbase : attributeBase a "join" X.env (eval a X.env) = eval a X.env := by rfl) (hline : (apos.endLine == pos.line) = true := by rfl) :
    PE X (.Call (.Attribute a "join" apos) [e] [] pos) (tE G X.K E (eJoinL fo fe)) := by
  refine PE_mono (pe_join ho he hs hbase hline) ?_
  rintro σ H Q ⟨m, r, h, rh, rs, o⟩
  refine ⟨m, r, h, rh, rs, ?_⟩
  rcases Out.bindR o with ⟨x, h1, e, o⟩ | ⟨c, fs, h1, e, o⟩
  · rw [e]
    intro m1 H1 v p1 d1
    cases d1 with
    | str y =>
      simp only at o
      refine ⟨⟨y, rfl⟩, m1, r, h1, p1.rel, p1.s rs, ?_⟩
      rcases Out.bindR o with ⟨z, h2, e, o⟩ | ⟨c, fs, h2, e, o⟩
      · rw [e]
        intro m2 H2 w p2 d2
        cases q : seqD z h2 with
        | none => simp only [q, Option.bind_none] at o; exact o.elim
        | some xs =>
          simp only [q, Option.bind_some] at o
          cases q2 : strsD xs with
          | none => simp only [q2] at o; exact o.elim
          | some ys =>
            simp only [q2] at o
            by_cases hl : (ys.map (·.length)).sum + ys.length * y.length ≤ 16777216
            · rw [if_pos hl] at o
              obtain ⟨b, vs, rfl, sq, rd⟩ := seq_ok p2.rel d2 q
              obtain rfl := strs_ok rd q2
              exact ⟨y, b, ys, rfl, rfl, sq, hl, o m2 H2 _ (p1.trans p2) (.str _)⟩
            · rw [if_neg hl] at o; exact o.elim
      · rw [e]; exact OutX.later p1 o
    | _ => exact o.elim
  · rw [e]; exact o
theorem fmtR_ok (hg : X.A.guards = some []) (hu : X.A.units + 70 < cLine) (ha : PE X a (tE G X.K E fa)) : PE X (.FormattedValue a 114 none pos) (tE G X.K E (e1 oFmtR fa)) := by
  refine ⟨fun pins s σ H Q I t => ?_⟩
  have t' : tE G X.K E fa σ H (fun v H1 => (∃ y : Str, v = .str y ∧ (reprText y).length ≤ sizeLine ∧ Q (.str (reprText y)) H1) ∨ (∃ i : Int, v = .int i ∧ i.natAbs.log2 < 1920 ∧ Q (.str (toString i)) H1) ∨ (∃ b : Bool, v = .bl b ∧ Q (.str (if b then "True" else "False")) H1) ∨ ∃ x, Dp X.K H1 v x ∧ isDisplay x = true ∧ showOk x = true ∧ Q (.str x.shown) H1) := by
    obtain ⟨m, r, h, rh, rs, o⟩ := t
    refine ⟨m, r, h, rh, rs, ?_⟩
    rcases Out.bindR o with ⟨d, h1, e, o⟩ | ⟨c, fs, h1, e, o⟩
    · rw [e]
      intro m1 H1 v p1 d1
      have disp : ∀ d, RelD X.K m1 h1.length H1 d v → ((∃ k, d = .ref k) ∨ ∃ xs, d = .tup xs) → Out G X.K E m h.length H Q (match deep h1 60 d with | some a => if showOk a = true then .ok (.str a.shown) h1 else .stuck | none => .stuck) → ∃ x, Dp X.K H1 v x ∧ isDisplay x = true ∧ showOk x = true ∧ Q (.str x.shown) H1 := by
        intro d rd hd o
        cases q : deep h1 60 d with
        | none => simp only [q] at o; exact o.elim
        | some x =>
          simp only [q] at o
          by_cases hs : showOk x = true
          · rw [if_pos hs] at o
            exact ⟨x, deep_ok p1.rel _ _ _ _ rd q, disp_of (m := m1) hd q, hs, o m1 H1 _ p1 (.str _)⟩
          · rw [if_neg hs] at o; exact o.elim
      cases d1 with
      | str y =>
        simp only [oFmtR] at o
        by_cases hy : (reprText y).length ≤ sizeLine
        · simp only [if_pos hy] at o
          exact .inl ⟨y, rfl, hy, o m1 H1 _ p1 (.str _)⟩
        · simp only [if_neg hy] at o; exact o.elim
      | int i =>
        simp only [oFmtR] at o
        by_cases hy : i.natAbs.log2 < 1920
        · simp only [if_pos hy] at o
          exact .inr (.inl ⟨i, rfl, hy, o m1 H1 _ p1 (.str _)⟩)
        · simp only [if_neg hy] at o; exact o.elim
      | bl b => exact .inr (.inr (.inl ⟨b, rfl, o m1 H1 _ p1 (.str _)⟩))
      | @tup a xs vs ht rs => exact .inr (.inr (.inr (disp _ (.tup ht rs) (.inr ⟨_, rfl⟩) o)))
      | @ref n hn => exact .inr (.inr (.inr (disp _ (.ref hn) (.inl ⟨_, rfl⟩) o)))
      | _ => exact o.elim
    · rw [e]; exact o
  refine wpAny_FormattedValue_repr (thn (ha.run pins s σ H _ I t') fun v s1 hv => ?_)
  obtain ⟨x, H1, I1, r1, q⟩ := hv
  rcases q with ⟨y, rfl, hz, q⟩ | ⟨i, rfl, hz, q⟩ | ⟨b, rfl, q⟩ | ⟨x, hd, hx, hs, q⟩
  · obtain ⟨t, rfl⟩ := r1
    exact PySem.pyReprObj_str (wpAny_formatField_str ⟨.str (reprText y), H1, I1.tok _, ⟨_, rfl⟩, q⟩ ⟨.str (reprText y), H1, I1.tok _, ⟨_, rfl⟩, q⟩ hz) hz
  · obtain ⟨t, rfl⟩ := r1
    exact PySem.pyReprObj_int hz (wpAny_formatField_str ⟨.str (toString i), H1, I1.tok _, ⟨_, rfl⟩, q⟩ ⟨.str (toString i), H1, I1.tok _, ⟨_, rfl⟩, q⟩ (int_text_fits hz))
  · obtain rfl : v = Value.bool b := r1
    exact PySem.pyReprObj_bool (wpAny_formatField_str ⟨.str _, H1, I1.tok _, ⟨_, rfl⟩, q⟩ ⟨.str _, H1, I1.tok _, ⟨_, rfl⟩, q⟩ (by cases b <;> decide +kernel))
  · obtain ⟨as, rd⟩ := Dp.reads I1 x _ v hd r1
    obtain ⟨p, rfl⟩ := isRef_of_reads rd hx
    simp only [showOk, Bool.and_eq_true, decide_eq_true_eq] at hs
    obtain ⟨⟨⟨h1, h2⟩, h3⟩, h4⟩ := hs
    have h2 : x.hasDict = false := by simpa using h2
    exact pyReprObj_of_reads rd h1 (PyData.noDict_hsm h2) hg (by omega) (fun _ _ e => e) (fun h' t tk hk => wpAny_formatField_str ⟨.str x.shown, H1, I1.kept (t' := tk) hk, ⟨t, rfl⟩, q⟩ ⟨.str x.shown, H1, (I1.kept (t' := tk) hk).tok _, ⟨_, rfl⟩, q⟩ h4) h4
end
end Py

set_option Elab.async false
set_option linter.all false
set_option maxRecDepth 100000
/-! Own layer: weakest preconditions of the combinators. -/
namespace Ev
open Py PySem
abbrev EP := Nat → List (Nat × D) → LH → Prop
def noE : EP := fun _ _ _ => False
def WP {α : Type} (r : R α) (Q : α → LH → Prop) (E : EP) : Prop := match r with
  | .ok a h => Q a h
  | .exc c fs h => E c fs h
  | .stuck => False
abbrev NP := LS → LH → Prop
def WF (f : F) (N : NP) (T : D → LH → Prop) (B C : NP) (E : EP) : Prop := match f with
  | .nx r h => N r h
  | .rt d h => T d h
  | .bk r h => B r h
  | .ct r h => C r h
  | .exc c fs h => E c fs h
  | .stuck => False
def noN : NP := fun _ _ => False

section base
variable {α β : Type} {E E' : EP} {Q Q' : α → LH → Prop}
theorem wp_bind {r : R α} {f : α → LH → R β} {Q : β → LH → Prop} (q : WP r (fun a h => WP (f a h) Q E) E) : WP (r.bind f) Q E := by
  cases r <;> exact q
theorem wf_to {r : R α} {f : α → LH → F} {N : NP} {T : D → LH → Prop} {B C : NP} (q : WP r (fun a h => WF (f a h) N T B C E) E) : WF (r.to f) N T B C E := by
  cases r <;> exact q
theorem wp_use {r : R α} (p : WP r Q' E') (q : ∀ a h, Q' a h → Q a h) (e : ∀ c fs h, E' c fs h → E c fs h) : WP r Q E := by
  cases r with
  | ok a h => exact q _ _ p
  | exc c fs h => exact e _ _ _ p
  | stuck => exact p
theorem wp_use0 {r : R α} (p : WP r Q' noE) (q : ∀ a h, Q' a h → Q a h) : WP r Q E := wp_use p q (fun _ _ _ z => z.elim)
theorem wp_eq {r : R α} {Q : α → LH → Prop} (p : WP r Q noE) : ∃ a h, r = .ok a h ∧ Q a h := by
  cases r with
  | ok a h => exact ⟨a, h, rfl, p⟩
  | exc c fs h => exact p.elim
  | stuck => exact p.elim
end base

/-! truth -/
def Tr (x : D) (h : LH) (P : Bool → Prop) : Prop := match truth x h with
  | some k => P k
  | none => False
def Br (b : Bool) (P P' : Prop) : Prop := match b with
  | true => P
  | false => P'
theorem br_t {b : Bool} {P P' : Prop} (e : b = true) (p : P) : Br b P P' := by subst e; exact p
theorem br_f {b : Bool} {P P' : Prop} (e : b = false) (p : P') : Br b P P' := by subst e; exact p
theorem br_s {b : Bool} {P P' : Prop} (p : b = true → P) (p' : b = false → P') : Br b P P' := by
  cases b
  · exact p' rfl
  · exact p rfl
theorem br_d {c : Prop} [Decidable c] {P P' : Prop} (p : c → P) (p' : ¬ c → P') : Br (decide c) P P' := br_s (fun e => p (of_decide_eq_true e)) (fun e => p' (of_decide_eq_false e))
theorem br_dt {c : Prop} [Decidable c] {P P' : Prop} (e : c) (p : P) : Br (decide c) P P' := br_t (decide_eq_true e) p
theorem br_df {c : Prop} [Decidable c] {P P' : Prop} (e : ¬ c) (p : P') : Br (decide c) P P' := br_f (decide_eq_false e) p
theorem br_nt {b : Bool} {P P' : Prop} (p : Br b P' P) : Br (!b) P P' := by cases b <;> exact p
theorem tr_bl {b : Bool} {h : LH} {P : Bool → Prop} (p : P b) : Tr (.bl b) h P := p
/-- what is wanted by the way -/
def Need (c P : Prop) : Prop := c ∧ P
theorem need {c P : Prop} (e : c) (p : P) : Need c P := ⟨e, p⟩
def IntAt (x : D) (P : Int → Prop) : Prop := ∃ i, x = .int i ∧ P i
theorem intat {i : Int} {P : Int → Prop} (p : P i) : IntAt (.int i) P := ⟨i, rfl, p⟩
def StrAt (x : D) (P : Str → Prop) : Prop := ∃ i, x = .str i ∧ P i
theorem strat {i : Str} {P : Str → Prop} (p : P i) : StrAt (.str i) P := ⟨i, rfl, p⟩
def NonAt (x : D) (P : Prop) : Prop := x = .non ∧ P
theorem nonat {P : Prop} (p : P) : NonAt .non P := ⟨rfl, p⟩

section ex
variable {E : EP} {Q : D → LH → Prop} {r : LS} {h : LH}
theorem wp_eV {i : Nat} {d : D} (e : r[i]? = some (some d)) (q : Q d h) : WP (eV i r h) Q E := by
  unfold eV; rw [e]; exact q
theorem wp_eC {d : D} (q : Q d h) : WP (eC d r h) Q E := q
theorem wp_e1 {op : D → LH → R D} {a : EX} (q : WP (a r h) (fun x h1 => WP (op x h1) Q E) E) : WP (e1 op a r h) Q E := wp_bind q
theorem wp_e2 {op : D → D → LH → R D} {a b : EX} (q : WP (a r h) (fun x h1 => WP (b r h1) (fun y h2 => WP (op x y h2) Q E) E) E) : WP (e2 op a b r h) Q E :=
  wp_bind (wp_use q (fun _ _ z => wp_bind z) (fun _ _ _ z => z))
theorem wp_aNil {Q : List D → LH → Prop} (q : Q [] h) : WP (aNil r h) Q E := q
theorem wp_aCons {a : EX} {b : AX} {Q : List D → LH → Prop} (q : WP (a r h) (fun x h1 => WP (b r h1) (fun xs h2 => Q (x :: xs) h2) E) E) : WP (aCons a b r h) Q E :=
  wp_bind (wp_use q (fun _ _ z => wp_bind z) (fun _ _ _ z => z))
theorem wp_eA {op : List D → LH → R D} {a : AX} (q : WP (a r h) (fun x h1 => WP (op x h1) Q E) E) : WP (eA op a r h) Q E := wp_bind q
theorem wp_truth {x : D} {h1 : LH} {R1 R2 : R D} (q : Tr x h1 fun k => Br k (WP R1 Q E) (WP R2 Q E)) : WP (match truth x h1 with | some true => R1 | some false => R2 | none => .stuck) Q E := by
  unfold Tr at q
  match e : truth x h1 with
  | some true => rw [e] at q; exact q
  | some false => rw [e] at q; exact q
  | none => rw [e] at q; exact q
theorem wp_eAnd {a b : EX} (q : WP (a r h) (fun x h1 => Tr x h1 fun k => Br k (WP (b r h1) Q E) (Q x h1)) E) : WP (eAnd a b r h) Q E :=
  wp_bind (wp_use q (fun x h1 z => wp_truth (R1 := b r h1) (R2 := .ok x h1) z) (fun _ _ _ z => z))
theorem wp_eOr {a b : EX} (q : WP (a r h) (fun x h1 => Tr x h1 fun k => Br k (Q x h1) (WP (b r h1) Q E)) E) : WP (eOr a b r h) Q E :=
  wp_bind (wp_use q (fun x h1 z => wp_truth (R2 := b r h1) (R1 := .ok x h1) z) (fun _ _ _ z => z))
theorem wp_eIf {t a b : EX} (q : WP (t r h) (fun x h1 => Tr x h1 fun k => Br k (WP (a r h1) Q E) (WP (b r h1) Q E)) E) : WP (eIf t a b r h) Q E :=
  wp_bind (wp_use q (fun x h1 z => wp_truth (R2 := b r h1) (R1 := a r h1) z) (fun _ _ _ z => z))
theorem wp_eNot {a : EX} (q : WP (a r h) (fun x h1 => Tr x h1 fun k => Q (.bl (!k)) h1) E) : WP (eNot a r h) Q E := by
  refine wp_bind (wp_use q (fun x h1 z => ?_) (fun _ _ _ z => z))
  unfold Tr at z
  match e : truth x h1 with
  | some k => rw [e] at z; exact z
  | none => rw [e] at z; exact z.elim
/-- what is a bool -/
def IsB (x : D) (P : Bool → Prop) : Prop := match x with
  | .bl b => P b
  | _ => False
theorem isb {b : Bool} {P : Bool → Prop} (p : P b) : IsB (.bl b) P := p
theorem wp_eB {a : EX} (q : WP (a r h) (fun x h1 => IsB x fun b => Q (.bl b) h1) E) : WP (eB a r h) Q E :=
  wp_bind (wp_use q (fun x h1 z => by cases x <;> exact z) (fun _ _ _ z => z))
theorem wp_eNotB {a : EX} (q : WP (a r h) (fun x h1 => IsB x fun b => Q (.bl (!b)) h1) E) : WP (eNotB a r h) Q E :=
  wp_bind (wp_use q (fun x h1 z => by cases x <;> exact z) (fun _ _ _ z => z))
theorem wp_eAndB {a b : EX} (q : WP (a r h) (fun x h1 => IsB x fun k => Br k (WP (b r h1) Q E) (Q (.bl false) h1)) E) : WP (eAndB a b r h) Q E :=
  wp_bind (wp_use q (fun x h1 z => by
    cases x with
    | bl k => cases k <;> exact z
    | _ => exact z) (fun _ _ _ z => z))
theorem wp_eOrB {a b : EX} (q : WP (a r h) (fun x h1 => IsB x fun k => Br k (Q (.bl true) h1) (WP (b r h1) Q E)) E) : WP (eOrB a b r h) Q E :=
  wp_bind (wp_use q (fun x h1 z => by
    cases x with
    | bl k => cases k <;> exact z
    | _ => exact z) (fun _ _ _ z => z))
/-! ints -/
theorem wp_ite {α : Type} {Q : α → LH → Prop} {a : α} {c : Prop} [Decidable c] (e : c) (q : Q a h) : WP (if c then .ok a h else .stuck) Q E := by
  rw [if_pos e]; exact q
variable {i j : Int}
theorem wp_add (q : Q (.int (i + j)) h) : WP (oAdd (.int i) (.int j) h) Q E := q
theorem wp_addT {xs ys : List D} (e : xs.length + ys.length ≤ sizeLine) (q : Q (.tup (xs ++ ys)) h) : WP (oAdd (.tup xs) (.tup ys) h) Q E := by
  exact wp_ite e q
theorem wp_sub (q : Q (.int (i - j)) h) : WP (oSub (.int i) (.int j) h) Q E := q
theorem wp_mul (e : (-(2 ^ 64) < i ∧ i < 2 ^ 64) ∨ (-(2 ^ 64) < j ∧ j < 2 ^ 64)) (q : Q (.int (i * j)) h) : WP (oMul (.int i) (.int j) h) Q E := by
  have : (small i || small j) = true := by
    unfold small
    simpa only [Bool.or_eq_true, Bool.and_eq_true, decide_eq_true_eq] using e
  show WP (if (small i || small j) = true then R.ok (D.int (i * j)) h else R.stuck) Q E
  rw [if_pos this]; exact q
theorem wp_mod (e : 0 < j) (q : Q (.int (i % j)) h) : WP (oMod (.int i) (.int j) h) Q E := by
  exact wp_ite e q
theorem wp_div (e : 0 < j ∧ j < 1073741824) (q : Q (.int (i / j)) h) : WP (oDiv (.int i) (.int j) h) Q E := by
  exact wp_ite e q
theorem wp_pow (e : 0 ≤ j ∧ j ≤ 1000000 ∧ i.natAbs < 2 ^ 64) (q : Q (.int (i ^ j.toNat)) h) : WP (oPow (.int i) (.int j) h) Q E := by
  exact wp_ite e q
theorem wp_lt (q : Q (.bl (decide (i < j))) h) : WP (oLt (.int i) (.int j) h) Q E := q
theorem wp_le (q : Q (.bl (decide (i ≤ j))) h) : WP (oLe (.int i) (.int j) h) Q E := q
theorem wp_gt (q : Q (.bl (decide (j < i))) h) : WP (oGt (.int i) (.int j) h) Q E := q
theorem wp_ge (q : Q (.bl (decide (j ≤ i))) h) : WP (oGe (.int i) (.int j) h) Q E := q
theorem wp_eqI (q : Q (.bl (decide (i = j))) h) : WP (oEq false (.int i) (.int j) h) Q E := q
theorem wp_neI (q : Q (.bl (!decide (i = j))) h) : WP (oEq true (.int i) (.int j) h) Q E := q
theorem wp_eqS {x y : Str} (q : Q (.bl (decide (x = y))) h) : WP (oEq false (.str x) (.str y) h) Q E := q
theorem wp_neS {x y : Str} (q : Q (.bl (!decide (x = y))) h) : WP (oEq true (.str x) (.str y) h) Q E := q
theorem wp_neg (q : Q (.int (-i)) h) : WP (oNeg (.int i) h) Q E := q
theorem wp_isN {neg : Bool} (q : Q (.bl (!neg)) h) : WP (oIsN neg .non h) Q E := q
theorem wp_isNI {neg : Bool} (q : Q (.bl neg) h) : WP (oIsN neg (.int i) h) Q E := q
theorem wp_bMax (q : Q (.int (if j > i then j else i)) h) : WP (bMax [.int i, .int j] h) Q E := q
theorem wp_bMin (q : Q (.int (if j < i then j else i)) h) : WP (bMin [.int i, .int j] h) Q E := q
theorem wp_bAbs (q : Q (.int (if i < 0 then -i else i)) h) : WP (bAbs [.int i] h) Q E := q
theorem wp_bInt (q : Q (.int i) h) : WP (bInt [.int i] h) Q E := q
theorem wp_bDivmod (e : 0 < j ∧ j < 1073741824) (q : Q (.tup [.int (i / j), .int (i % j)]) h) : WP (bDivmod [.int i, .int j] h) Q E := by
  exact wp_ite e q
/-! lists -/
/-- the heap h1 behind the heap h: what stood there stands, but at the places of W -/
def Ext (W : List Nat) (h h1 : LH) : Prop := h.length ≤ h1.length ∧ ∀ n, n < h.length → n ∉ W → h1[n]? = h[n]?
theorem Ext.rfl' {W : List Nat} {h : LH} : Ext W h h := ⟨Nat.le_refl _, fun _ _ _ => rfl⟩
theorem lt_of_at {n : Nat} {o : O} {h : LH} (e : h[n]? = some o) : n < h.length := by
  rcases Nat.lt_or_ge n h.length with z | z
  · exact z
  · rw [List.getElem?_eq_none z] at e; exact nomatch e
theorem Ext.get {W : List Nat} {h h1 : LH} (x : Ext W h h1) {n : Nat} {o : O} (e : h[n]? = some o) (k : n ∉ W) : h1[n]? = some o := by
  rw [x.2 n (lt_of_at e) k]; exact e
theorem Ext.get0 {h h1 : LH} (x : Ext [] h h1) {n : Nat} {o : O} (e : h[n]? = some o) : h1[n]? = some o := x.get e (fun z => nomatch z)
theorem Ext.get1 {p : Nat} {h h1 : LH} (x : Ext [p] h h1) {n : Nat} {o : O} (e : h[n]? = some o) (k : n ≠ p) : h1[n]? = some o := x.get e (fun z => by simp at z; exact k z)
theorem Ext.trans {W : List Nat} {h h1 h2 : LH} (x : Ext W h h1) (y : Ext W h1 h2) : Ext W h h2 :=
  ⟨Nat.le_trans x.1 y.1, fun n a b => by rw [y.2 n (Nat.lt_of_lt_of_le a x.1) b, x.2 n a b]⟩
theorem Ext.wide {W W' : List Nat} {h h1 : LH} (x : Ext W h h1) (w : ∀ n, n < h.length → n ∈ W → n ∈ W') : Ext W' h h1 := ⟨x.1, fun n a b => x.2 n a (fun z => b (w n a z))⟩
theorem Ext.w0 {W : List Nat} {h h1 : LH} (x : Ext [] h h1) : Ext W h h1 := x.wide (fun _ _ z => nomatch z)
theorem ext_push {h : LH} {o : O} {W : List Nat} : Ext W h (h ++ [o]) := ⟨by simp, fun n a _ => by rw [List.getElem?_append_left a]⟩
theorem ext_set {h : LH} {n : Nat} {o : O} : Ext [n] h (h.set n o) := ⟨by simp, fun k a b => by
  rw [List.getElem?_set_ne (fun z => b (by simp [z]))]⟩
theorem at_push {h : LH} {o : O} : (h ++ [o])[h.length]? = some o := by simp
theorem at_set {h : LH} {n : Nat} {o o' : O} (e : h[n]? = some o') : (h.set n o)[n]? = some o := by
  rw [List.getElem?_set_self (lt_of_at e)]
/-- a new thing, in a heap of its own name -/
theorem wp_new {o : O} (q : ∀ n h1, h.length ≤ n → Ext [] h h1 → h1[n]? = some o → Q (.ref n) h1) : Q (.ref h.length) (h ++ [o]) := q _ _ (Nat.le_refl _) ext_push at_push
theorem wp_eTup {a : AX} (q : WP (a r h) (fun xs h1 => Need (xs.length ≤ sizeLine) (Q (.tup xs) h1)) E) : WP (eTup a r h) Q E :=
  wp_eA (wp_use q (fun xs h1 z => by simp only [if_pos z.1]; exact z.2) (fun _ _ _ z => z))
theorem wp_eLst {a : AX} (q : WP (a r h) (fun xs h1 => Need (xs.length ≤ sizeLine) (∀ n h2, h1.length ≤ n → Ext [] h1 h2 → h2[n]? = some (.lst xs) → Q (.ref n) h2)) E) : WP (eLst a r h) Q E :=
  wp_eA (wp_use q (fun xs h1 z => by simp only [if_pos z.1]; exact wp_new z.2) (fun _ _ _ z => z))
theorem seq_lst {n : Nat} {xs : List D} (e : h[n]? = some (.lst xs)) : seqD (.ref n) h = some xs := by simp only [seqD, e]
theorem seq_tup {xs : List D} : seqD (.tup xs) h = some xs := rfl
theorem seq_scr {ns : List Int} : seqD (.scr ns) h = some (ns.map .int) := rfl
theorem wp_ix {x : D} {xs : List D} {d : D} (e : seqD x h = some xs) (k : L2.atI xs i = some d) (q : Q d h) : WP (oIx x (.int i) h) Q E := by
  unfold oIx; simp only [e, k]; exact q
theorem wp_in {x y : D} {xs : List D} {neg : Bool} (e : seqD y h = some xs) (k : (flatD x && xs.all flatD) = true) (q : Q (.bl (if neg then !(xs.any fun z => eqF z x) else xs.any fun z => eqF z x)) h) : WP (oIn neg x y h) Q E := by
  unfold oIn; simp only [e, if_pos k]; exact q
theorem wp_len {x : D} {xs : List D} (e : seqD x h = some xs) (q : Q (.int (xs.length : Nat)) h) : WP (bLen [x] h) Q E := by
  cases x with
  | str s => exact nomatch e
  | _ => unfold bLen; simp only [e]; exact q
theorem wp_bList {x : D} {xs : List D} (e : seqD x h = some xs) (q : ∀ n h1, h.length ≤ n → Ext [] h h1 → h1[n]? = some (.lst xs) → Q (.ref n) h1) : WP (bList [x] h) Q E := by
  unfold bList; simp only [e]; exact wp_new q
theorem wp_bTuple {x : D} {xs : List D} (e : seqD x h = some xs) (q : Q (.tup xs) h) : WP (bTuple [x] h) Q E := by
  unfold bTuple; simp only [e]; exact q
theorem boolsD_map (ns : List Bool) : boolsD (ns.map .bl) = some ns := by
  induction ns with
  | nil => rfl
  | cons a r ih => simp [boolsD, ih]
theorem wp_bAll {n : Nat} {bs : List Bool} (e : h[n]? = some (.lst (bs.map .bl))) (q : Q (.bl (bs.all id)) h) : WP (bAll [.ref n] h) Q E := by
  unfold bAll lstD; simp only [e, Option.bind_some, boolsD_map]; exact q
theorem wp_bAny {n : Nat} {bs : List Bool} (e : h[n]? = some (.lst (bs.map .bl))) (q : Q (.bl (bs.any id)) h) : WP (bAny [.ref n] h) Q E := by
  unfold bAny lstD; simp only [e, Option.bind_some, boolsD_map]; exact q
theorem wp_listR {a b : EX} (q : WP (a r h) (fun x h1 => WP (b r h1) (fun y h2 => IntAt x fun i => IntAt y fun j => Need ((-(2 ^ 62) ≤ i ∧ i < 2 ^ 62) ∧ (-(2 ^ 62) ≤ j ∧ j < 2 ^ 62) ∧ j - i ≤ 1000000) (∀ n h3, h2.length ≤ n → Ext [] h2 h3 → h3[n]? = some (.lst (rangeL i j)) → Q (.ref n) h3)) E) E) : WP (eListR a b r h) Q E :=
  wp_bind (wp_use q (fun x h1 z => wp_bind (wp_use z (fun y h2 w => by
    obtain ⟨i, rfl, j, rfl, ⟨k1, k2, k3⟩, q⟩ := w
    have : small62 i = true ∧ small62 j = true ∧ j - i ≤ 1000000 := by
      unfold small62; simp only [Bool.and_eq_true, decide_eq_true_eq]; exact ⟨k1, k2, k3⟩
    simp only [if_pos this]; exact wp_new q) (fun _ _ _ z => z))) (fun _ _ _ z => z))
/-! fields -/
theorem wp_fld {c i n : Nat} {o : EX} {d : D} {fs : List (Nat × D)} (q : WP (o r h) (fun x h1 => ∃ n fs d, x = .ref n ∧ h1[n]? = some (.ins c fs) ∧ getA i fs = some d ∧ Q d h1) E) : WP (eFld c i o r h) Q E :=
  wp_e1 (wp_use q (fun x h1 z => by
    obtain ⟨n, fs, d, rfl, e, g, q⟩ := z
    simp only [e, if_pos, g]; exact q) (fun _ _ _ z => z))
end ex
end Ev

set_option Elab.async false
set_option linter.all false
set_option maxRecDepth 100000
namespace Ev
open Py PySem
section ex
variable {E : EP} {Q : D → LH → Prop} {r : LS} {h : LH}
def FdAt (c i : Nat) (x : D) (h : LH) (P : D → Prop) : Prop := ∃ n fs d, x = .ref n ∧ h[n]? = some (.ins c fs) ∧ getA i fs = some d ∧ P d
theorem fdat {c i n : Nat} {fs : List (Nat × D)} {d : D} {P : D → Prop} (e : h[n]? = some (.ins c fs)) (g : getA i fs = some d) (p : P d) : FdAt c i (.ref n) h P := ⟨n, fs, d, rfl, e, g, p⟩
theorem wp_eFld {c i : Nat} {o : EX} (q : WP (o r h) (fun x h1 => FdAt c i x h1 fun d => Q d h1) E) : WP (eFld c i o r h) Q E := wp_fld (n := 0) (d := .non) (fs := []) q
theorem wp_eCall {op : KF} {a k : AX} (q : WP (a r h) (fun ds h1 => WP (k r h1) (fun es h2 => WP (op ds es h2) Q E) E) E) : WP (eCall op a k r h) Q E :=
  wp_bind (wp_use q (fun _ _ z => wp_bind z) (fun _ _ _ z => z))
theorem wp_opF {n k : Nat} {bd : List D → List D → List D} {cf : CF} {ds es xs : List D} (l : ds.length = n ∧ es.length = k) (e : bd ds es = xs) (q : WP (cf xs h) Q E) : WP (opF n k bd cf ds es h) Q E := by
  subst e; unfold opF; rw [if_pos l]; exact q
theorem wp_opF0 {n k : Nat} {cf : CF} {ds es : List D} (l : ds.length = n ∧ es.length = k) (q : WP (cf ds h) Q E) : WP (opF n k bd0 cf ds es h) Q E := wp_opF l rfl q
/-- a new instance -/
theorem wp_opM {c n k : Nat} {bd : List D → List D → List D} {cf : CF} {ds es : List D} (l : ds.length = n ∧ es.length = k) (q : ∀ p h1, h.length ≤ p → Ext [] h h1 → h1[p]? = some (.ins c []) → WP (cf (bd (.ref p :: ds) es) h1) (fun v h2 => NonAt v (Q (.ref p) h2)) E) : WP (opM c n k bd cf ds es h) Q E := by
  unfold opM; rw [if_pos l]
  exact wp_bind (wp_use (q _ _ (Nat.le_refl _) ext_push at_push) (fun v h2 z => by obtain ⟨rfl, z⟩ := z; exact z) (fun _ _ _ z => z))
def InsAt (c : Nat) (x : D) (h : LH) (P : Nat → Prop) : Prop := ∃ n fs, x = .ref n ∧ h[n]? = some (.ins c fs) ∧ P n
theorem insat {c n : Nat} {fs : List (Nat × D)} {P : Nat → Prop} (e : h[n]? = some (.ins c fs)) (p : P n) : InsAt c (.ref n) h P := ⟨n, fs, rfl, e, p⟩
theorem wp_eMeth {c : Nat} {op : KF} {o : EX} {a k : AX} (q : WP (o r h) (fun x h1 => InsAt c x h1 fun n => WP (a r h1) (fun ds h2 => WP (k r h2) (fun es h3 => WP (op (.ref n :: ds) es h3) Q E) E) E) E) : WP (eMeth c op o a k r h) Q E :=
  wp_bind (wp_use q (fun x h1 z => by
    obtain ⟨n, fs, rfl, e, z⟩ := z
    simp only [e, if_pos]
    exact wp_bind (wp_use z (fun _ _ z => wp_bind z) (fun _ _ _ z => z))) (fun _ _ _ z => z))
theorem wp_runF {n k : Nat} {b : SX} {ds : List D} {r0 : LS} (l : ds.length = n) (e : ds.map some ++ List.replicate k none = r0) (q : WF (b r0 h) (fun _ h' => Q .non h') Q noN noN E) : WP (runF n k b ds h) Q E := by
  subst e
  unfold runF; rw [if_pos l]
  revert q
  cases b (ds.map some ++ List.replicate k none) h with
  | nx r h => exact fun z => z
  | rt r h => exact fun z => z
  | bk r h => exact fun z => z.elim
  | ct r h => exact fun z => z.elim
  | exc k fs h => exact fun z => z
  | stuck => exact fun z => z
theorem wp_chain {op op' : D → D → LH → R D} {a b c : EX} (q : WP (a r h) (fun x h1 => WP (b r h1) (fun y h2 => WP (op x y h2) (fun z h3 => IsB z fun k => Br k (WP (c r h3) (fun w h4 => WP (op' y w h4) Q E) E) (Q (.bl false) h3)) E) E) E) : WP (eChain op op' a b c r h) Q E :=
  wp_bind (wp_use q (fun x h1 z => wp_bind (wp_use z (fun y h2 z => wp_bind (wp_use z (fun v h3 z => by
    cases v with
    | bl k => cases k with
      | true => exact wp_bind z
      | false => exact z
    | _ => exact z.elim) (fun _ _ _ z => z))) (fun _ _ _ z => z))) (fun _ _ _ z => z))
/-! slices -/
def PIs (P : Option Int → LH → Prop) (d : D) (h : LH) : Prop := ∃ i, d = .int i ∧ P (some i) h
theorem pis {P : Option Int → LH → Prop} {i : Int} (p : P (some i) h) : PIs P (.int i) h := ⟨i, rfl, p⟩
theorem wp_pNo {P : Option Int → LH → Prop} (p : P none h) : WP (pNo r h) P E := p
theorem wp_pSome {P : Option Int → LH → Prop} {a : EX} (p : WP (a r h) (PIs P) E) : WP (pSome a r h) P E :=
  wp_bind (wp_use p (fun x h1 z => by obtain ⟨i, rfl, z⟩ := z; exact z) (fun _ _ _ z => z))
def SlAt (x : D) (l u : Option Int) (h : LH) (Q : D → LH → Prop) : Prop := WP (match x with
  | .tup xs => .ok (.tup (cutD xs l u)) h
  | .ref n => (match h[n]? with
    | some (.lst xs) => .ok (.ref h.length) (h ++ [.lst (cutD xs l u)])
    | _ => .stuck)
  | _ => .stuck) Q noE
theorem slat_tup {xs : List D} {l u : Option Int} (q : Q (.tup (cutD xs l u)) h) : SlAt (.tup xs) l u h Q := q
theorem slat_lst {n : Nat} {xs : List D} {l u : Option Int} (e : h[n]? = some (.lst xs)) (q : ∀ n h1, h.length ≤ n → Ext [] h h1 → h1[n]? = some (.lst (cutD xs l u)) → Q (.ref n) h1) : SlAt (.ref n) l u h Q := by
  unfold SlAt; simp only [e]; exact wp_new q
theorem wp_eSl {a : EX} {lo hi : PX} (q : WP (a r h) (fun x h1 => WP (lo r h1) (fun l h2 => WP (hi r h2) (fun u h3 => SlAt x l u h3 Q) E) E) E) : WP (eSl a lo hi r h) Q E :=
  wp_bind (wp_use q (fun _ _ z => wp_bind (wp_use z (fun _ _ z => wp_bind (wp_use z (fun _ _ z => wp_use z (fun _ _ z => z) (fun _ _ _ z => z.elim)) (fun _ _ _ z => z))) (fun _ _ _ z => z))) (fun _ _ _ z => z))
/-! methods of lists -/
def LstAt (x : D) (h : LH) (P : Nat → Prop) : Prop := ∃ n xs, x = .ref n ∧ h[n]? = some (.lst xs) ∧ P n
theorem lstat {n : Nat} {xs : List D} {P : Nat → Prop} (e : h[n]? = some (.lst xs)) (p : P n) : LstAt (.ref n) h P := ⟨n, xs, rfl, e, p⟩
theorem wp_eBM {op : D → List D → LH → R D} {o : EX} {a : AX} (q : WP (o r h) (fun x h1 => LstAt x h1 fun n => WP (a r h1) (fun ds h2 => WP (op (.ref n) ds h2) Q E) E) E) : WP (eBM op o a r h) Q E :=
  wp_bind (wp_use q (fun x h1 z => by
    obtain ⟨n, xs, rfl, e, z⟩ := z
    simp only [lstD, e]
    exact wp_bind z) (fun _ _ _ z => z))
theorem wp_append {n : Nat} {xs : List D} {y : D} (e : h[n]? = some (.lst xs)) (l : xs.length < sizeLine) (q : ∀ h1, Ext [n] h h1 → h1[n]? = some (.lst (xs ++ [y])) → Q .non h1) : WP (mAppend (.ref n) [y] h) Q E := by
  simp only [mAppend, onL, e, if_pos l]; exact q _ ext_set (at_set e)
theorem wp_clear {n : Nat} {xs : List D} (e : h[n]? = some (.lst xs)) (q : ∀ h1, Ext [n] h h1 → h1[n]? = some (.lst []) → Q .non h1) : WP (mClear (.ref n) [] h) Q E := by
  simp only [mClear, onL, e]; exact q _ ext_set (at_set e)
/-! kinds -/
def KdAt (d : D) (h : LH) (P : Kd → Prop) : Prop := ∃ k, kindD d h = some k ∧ P k
theorem kd_int {i : Int} {P : Kd → Prop} (p : P .int) : KdAt (.int i) h P := ⟨_, rfl, p⟩
theorem kd_bl {i : Bool} {P : Kd → Prop} (p : P .bool) : KdAt (.bl i) h P := ⟨_, rfl, p⟩
theorem kd_str {i : Str} {P : Kd → Prop} (p : P .str) : KdAt (.str i) h P := ⟨_, rfl, p⟩
theorem kd_non {P : Kd → Prop} (p : P .non) : KdAt .non h P := ⟨_, rfl, p⟩
theorem kd_tup {xs : List D} {P : Kd → Prop} (p : P .tuple) : KdAt (.tup xs) h P := ⟨_, rfl, p⟩
theorem kd_lst {n : Nat} {xs : List D} {P : Kd → Prop} (e : h[n]? = some (.lst xs)) (p : P .list) : KdAt (.ref n) h P := ⟨_, by simp only [kindD, e], p⟩
theorem wp_eIsi {ks : List Kd} {a : EX} (q : WP (a r h) (fun d h1 => KdAt d h1 fun k => Q (.bl (ks.any fun t => k.is t)) h1) E) : WP (eIsi ks a r h) Q E :=
  wp_e1 (wp_use q (fun x h1 z => by obtain ⟨k, e, z⟩ := z; simp only [e]; exact z) (fun _ _ _ z => z))
/-! own len and repr -/
theorem wp_lenO {c n : Nat} {cf : CF} {fs : List (Nat × D)} (e : h[n]? = some (.ins c fs)) (q : WP (cf [.ref n] h) (fun v h1 => IntAt v fun k => Need (0 ≤ k ∧ k < 2 ^ 63) (Q (.int k) h1)) E) : WP (bLenO c cf [.ref n] h) Q E := by
  simp only [bLenO, e, if_pos]
  exact wp_bind (wp_use q (fun v h1 z => by obtain ⟨k, rfl, l, z⟩ := z; simp only [if_pos l]; exact z) (fun _ _ _ z => z))
theorem wp_reprO {c n : Nat} {cf : CF} {fs : List (Nat × D)} (e : h[n]? = some (.ins c fs)) (q : WP (cf [.ref n] h) (fun v h1 => StrAt v fun x => Q (.str x) h1) E) : WP (bReprO c cf [.ref n] h) Q E := by
  simp only [bReprO, e, if_pos]
  exact wp_bind (wp_use q (fun v h1 z => by obtain ⟨k, rfl, z⟩ := z; exact z) (fun _ _ _ z => z))
theorem wp_eFmt {a : EX} (q : WP (a r h) (fun d h1 => ∃ x, fmtD d h1 = some x ∧ Q (.str x) h1) E) : WP (eFmt a r h) Q E :=
  wp_e1 (wp_use q (fun x h1 z => by obtain ⟨k, e, z⟩ := z; simp only [e]; exact z) (fun _ _ _ z => z))
def JGo (as : List EX) (acc : Str) (r : LS) (h : LH) (Q : D → LH → Prop) (E : EP) : Prop := WP (jGo as acc r h) Q E
theorem wp_eJoin {as : List EX} (q : JGo as Str.empty r h Q E) : WP (eJoin as r h) Q E := q
theorem jgo_nil {acc : Str} (q : Q (.str acc) h) : JGo [] acc r h Q E := q
theorem jgo_cons {a : EX} {as : List EX} {acc : Str} (q : WP (a r h) (fun d h1 => StrAt d fun x => Need ((acc ++ x).length ≤ sizeLine) (JGo as (acc ++ x) r h1 Q E)) E) : JGo (a :: as) acc r h Q E :=
  wp_bind (wp_use q (fun d h1 z => by obtain ⟨x, rfl, l, z⟩ := z; simp only [if_pos l]; exact z) (fun _ _ _ z => z))
theorem wp_reprL {n : Nat} {a : PyData} (e : deep h 60 (.ref n) = some a) (s : showOk a = true) (q : Q (.str a.shown) h) : WP (bRepr [.ref n] h) Q E := by
  simp only [bRepr, e, if_pos s]; exact q
theorem wp_eqD {x y : D} {a b : PyData} {neg : Bool} (e : deep h 60 x = some a) (e' : deep h 60 y = some b) (s : (SeqAt.shaped a && SeqAt.shaped b) = true) (q : Q (.bl (if neg then !PyData.eqv a b else PyData.eqv a b)) h) : WP (oEqD neg x y h) Q E := by
  simp only [oEqD, e, e', if_pos s]; exact q
theorem wp_eqR {n k : Nat} {a b : PyData} {neg : Bool} (e : deep h 60 (.ref n) = some a) (e' : deep h 60 (.ref k) = some b) (s : (SeqAt.shaped a && SeqAt.shaped b) = true) (q : Q (.bl (if neg then !PyData.eqv a b else PyData.eqv a b)) h) : WP (oEq neg (.ref n) (.ref k) h) Q E := wp_eqD e e' s q
theorem wp_eqT {n k : List D} {a b : PyData} {neg : Bool} (e : deep h 60 (.tup n) = some a) (e' : deep h 60 (.tup k) = some b) (s : (SeqAt.shaped a && SeqAt.shaped b) = true) (q : Q (.bl (if neg then !PyData.eqv a b else PyData.eqv a b)) h) : WP (oEq neg (.tup n) (.tup k) h) Q E := wp_eqD e e' s q
end ex
/-! statements -/
section st
variable {E : EP} {N B C : NP} {T : D → LH → Prop} {r : LS} {h : LH}
theorem wf_nil (q : N r h) : WF (sNil r h) N T B C E := q
theorem wf_seq {a b : SX} (q : WF (a r h) (fun r1 h1 => WF (b r1 h1) N T B C E) T B C E) : WF (sSeq a b r h) N T B C E := by
  unfold sSeq
  revert q
  cases a r h <;> exact fun z => z
theorem wf_E {a : EX} (q : WP (a r h) (fun _ h1 => N r h1) E) : WF (sE a r h) N T B C E := wf_to q
theorem wf_Ret {a : EX} (q : WP (a r h) T E) : WF (sRet a r h) N T B C E := wf_to q
theorem wf_If {t : EX} {a b : SX} (q : WP (t r h) (fun x h1 => Tr x h1 fun k => Br k (WF (a r h1) N T B C E) (WF (b r h1) N T B C E)) E) : WF (sIf t a b r h) N T B C E :=
  wf_to (wp_use q (fun x h1 z => by
    unfold Tr at z
    match e : truth x h1 with
    | some true => rw [e] at z; exact z
    | some false => rw [e] at z; exact z
    | none => rw [e] at z; exact z) (fun _ _ _ z => z))
theorem wf_Asg {a : EX} {g : GX} (q : WP (a r h) (fun d h1 => WF (g d r h1) N T B C E) E) : WF (sAsg a g r h) N T B C E := wf_to q
theorem wf_gN {i : Nat} {d : D} {r' : LS} (e : r.set i (some d) = r') (q : N r' h) : WF (gN i d r h) N T B C E := by subst e; exact q
theorem wf_gT {n : Nat} {gs : GXs} {xs : List D} (l : xs.length = n) (q : WF (gs xs r h) N T B C E) : WF (gT n gs (.tup xs) r h) N T B C E := by
  simp only [gT, if_pos l]; exact q
theorem wf_gsNil (q : N r h) : WF (gsNil [] r h) N T B C E := q
theorem wf_gsCons {g : GX} {gs : GXs} {d : D} {ds : List D} (q : WF (g d r h) (fun r1 h1 => WF (gs ds r1 h1) N T B C E) T B C E) : WF (gsCons g gs (d :: ds) r h) N T B C E := by
  unfold gsCons
  revert q
  cases e : g d r h <;> simp only [e] <;> exact fun z => z
def SubAt (d x y : D) (r : LS) (h : LH) (N : NP) : Prop := ∃ n k xs j, x = .ref n ∧ y = .int k ∧ h[n]? = some (.lst xs) ∧ L2.ixN xs.length k = some j ∧ ∀ h1, Ext [n] h h1 → h1[n]? = some (.lst (xs.set j d)) → N r h1
theorem subat {n j : Nat} {k : Int} {xs : List D} {d : D} (e : h[n]? = some (.lst xs)) (l : L2.ixN xs.length k = some j) (q : ∀ h1, Ext [n] h h1 → h1[n]? = some (.lst (xs.set j d)) → N r h1) : SubAt d (.ref n) (.int k) r h N := ⟨n, k, xs, j, rfl, rfl, e, l, q⟩
theorem wf_gSub {o i : EX} {d : D} (q : WP (o r h) (fun x h1 => WP (i r h1) (fun y h2 => SubAt d x y r h2 N) E) E) : WF (gSub o i d r h) N T B C E :=
  wf_to (wp_use q (fun x h1 z => wf_to (wp_use z (fun y h2 z => by
    obtain ⟨n, k, xs, j, rfl, rfl, e, l, q⟩ := z
    simp only [e, l]; exact q _ ext_set (at_set e)) (fun _ _ _ z => z))) (fun _ _ _ z => z))
def FldAt (c i : Nat) (d x : D) (r : LS) (h : LH) (N : NP) : Prop := ∃ n fs, x = .ref n ∧ h[n]? = some (.ins c fs) ∧ fs.length < 1000 ∧ ∀ h1, Ext [n] h h1 → h1[n]? = some (.ins c (putA i d fs)) → N r h1
theorem fldat {c i n : Nat} {d : D} {fs fs' : List (Nat × D)} (e : h[n]? = some (.ins c fs)) (l : fs.length < 1000) (p : putA i d fs = fs') (q : ∀ h1, Ext [n] h h1 → h1[n]? = some (.ins c fs') → N r h1) : FldAt c i d (.ref n) r h N := by subst p; exact ⟨n, fs, rfl, e, l, q⟩
theorem wf_sFld {c i : Nat} {o e : EX} (q : WP (e r h) (fun d h1 => WP (o r h1) (fun x h2 => FldAt c i d x r h2 N) E) E) : WF (sFld c i o e r h) N T B C E :=
  wf_to (wp_use q (fun x h1 z => wf_to (wp_use z (fun y h2 z => by
    obtain ⟨n, fs, rfl, e, l, q⟩ := z
    simp only [e, if_pos (And.intro rfl l)]
    rw [if_pos ⟨trivial, l⟩]
    exact q _ ext_set (at_set e)) (fun _ _ _ z => z))) (fun _ _ _ z => z))
def ParAt (i j : Nat) (ds : List D) (r : LS) (h : LH) (N : NP) : Prop := ∃ x y, ds = [x, y] ∧ N ((r.set i (some x)).set j (some y)) h
theorem parat {i j : Nat} {x y : D} {r' : LS} (e : (r.set i (some x)).set j (some y) = r') (q : N r' h) : ParAt i j [x, y] r h N := by subst e; exact ⟨x, y, rfl, q⟩
theorem wf_sPar {i j : Nat} {a : AX} (q : WP (a r h) (fun ds h1 => ParAt i j ds r h1 N) E) : WF (sPar i j a r h) N T B C E :=
  wf_to (wp_use q (fun x h1 z => by obtain ⟨x, y, rfl, z⟩ := z; exact z) (fun _ _ _ z => z))
/-! loops -/
def SrcAt (x : D) (h : LH) (P : Src → Prop) : Prop := ∃ s, srcOf x h = some s ∧ P s
theorem srcat_tup {xs : List D} {P : Src → Prop} (p : P (.its xs)) : SrcAt (.tup xs) h P := ⟨_, rfl, p⟩
theorem srcat_scr {ns : List Int} {P : Src → Prop} (p : P (.its (ns.map .int))) : SrcAt (.scr ns) h P := ⟨_, rfl, p⟩
theorem srcat_lst {n : Nat} {xs : List D} {P : Src → Prop} (e : h[n]? = some (.lst xs)) (p : P (.lst n)) : SrcAt (.ref n) h P := ⟨.lst n, by simp only [srcOf, e], p⟩
theorem wp_iSeq {a : EX} {P : Src → LH → Prop} (q : WP (a r h) (fun x h1 => SrcAt x h1 fun s => P s h1) E) : WP (iSeq a r h) P E :=
  wp_bind (wp_use q (fun x h1 z => by obtain ⟨s, e, z⟩ := z; simp only [e]; exact z) (fun _ _ _ z => z))
theorem wp_iEnum {a : EX} {k : Int} {P : Src → LH → Prop} (q : WP (a r h) (fun x h1 => SrcAt x h1 fun s => P (.enm k s) h1) E) : WP (iEnum k a r h) P E :=
  wp_bind (wp_use q (fun x h1 z => by obtain ⟨s, e, z⟩ := z; simp only [e]; exact z) (fun _ _ _ z => z))
theorem wp_iRng1 {a : EX} {P : Src → LH → Prop} (q : WP (a r h) (fun x h1 => IntAt x fun j => Need (-(2 ^ 62) ≤ j ∧ j < 2 ^ 62) (P (.its (rangeL 0 j)) h1)) E) : WP (iRng1 a r h) P E :=
  wp_bind (wp_use q (fun x h1 z => by
    obtain ⟨j, rfl, l, z⟩ := z
    have : small62 j = true := by unfold small62; simpa only [Bool.and_eq_true, decide_eq_true_eq] using l
    simp only [if_pos this]; exact z) (fun _ _ _ z => z))
theorem wp_iRng2 {a b : EX} {P : Src → LH → Prop} (q : WP (a r h) (fun x h1 => WP (b r h1) (fun y h2 => IntAt x fun i => IntAt y fun j => Need ((-(2 ^ 62) ≤ i ∧ i < 2 ^ 62) ∧ (-(2 ^ 62) ≤ j ∧ j < 2 ^ 62)) (P (.its (rangeL i j)) h2)) E) E) : WP (iRng2 a b r h) P E :=
  wp_bind (wp_use q (fun x h1 z => wp_bind (wp_use z (fun y h2 z => by
    obtain ⟨i, rfl, j, rfl, ⟨l1, l2⟩, z⟩ := z
    have : small62 i = true ∧ small62 j = true := by
      unfold small62; simp only [Bool.and_eq_true, decide_eq_true_eq]; exact ⟨l1, l2⟩
    simp only [if_pos this]; exact z) (fun _ _ _ z => z))) (fun _ _ _ z => z))
theorem wf_sFor {it : IX} {g : GX} {b : SX} (q : WP (it r h) (fun s h1 => WF (forX s g b fuelN 0 r h1) N T B C E) E) : WF (sFor it g b r h) N T B C E := wf_to q
/-- a loop by an invariant of the turns done -/
theorem wf_loop {s : Src} {g : GX} {b : SX} (item : Nat → D) (len : Nat) (Inv : Nat → LS → LH → Prop) (hl : len < 1000000) (i0 : Inv 0 r h)
    (ie : ∀ r h, Inv len r h → srcAt s h len = some none ∧ N r h)
    (is : ∀ i r h, i < len → Inv i r h → srcAt s h i = some (some (item i)) ∧ WF (g (item i) r h) (fun r1 h1 => WF (b r1 h1) (Inv (i + 1)) T N (Inv (i + 1)) E) (fun _ _ => False) noN noN noE) :
    WF (forX s g b fuelN 0 r h) N T B C E := by
  have main : ∀ k i r h, i + k = len → Inv i r h → ∀ f, k < f → WF (forX s g b f i r h) N T B C E := by
    intro k
    induction k with
    | zero =>
      intro i r h e hi f hf
      obtain ⟨f, rfl⟩ : ∃ f', f = f' + 1 := ⟨f - 1, by omega⟩
      have : i = len := by omega
      subst this
      obtain ⟨e1, e2⟩ := ie _ _ hi
      unfold forX; rw [e1]; exact e2
    | succ k ih =>
      intro i r h e hi f hf
      obtain ⟨f, rfl⟩ : ∃ f', f = f' + 1 := ⟨f - 1, by omega⟩
      obtain ⟨e1, e2⟩ := is i r h (by omega) hi
      unfold forX; rw [e1]
      revert e2
      simp only
      cases g (item i) r h with
      | nx r1 h1 =>
        simp only
        intro e2
        have e2 : WF (b r1 h1) (Inv (i + 1)) T N (Inv (i + 1)) E := e2
        revert e2
        cases b r1 h1 with
        | nx r2 h2 => exact fun z => ih (i + 1) _ _ (by omega) z f (by omega)
        | ct r2 h2 => exact fun z => ih (i + 1) _ _ (by omega) z f (by omega)
        | bk r2 h2 => exact fun z => z
        | rt d h2 => exact fun z => z
        | exc c fs h2 => exact fun z => z
        | stuck => exact fun z => z
      | rt d h1 => exact fun z => z.elim
      | bk d h1 => exact fun z => z.elim
      | ct d h1 => exact fun z => z.elim
      | exc c fs h1 => exact fun z => z.elim
      | stuck => exact fun z => z.elim
  exact main len 0 r h (by omega) i0 _ (by unfold fuelN; omega)
/-- a new list, then Q -/
def NewL (Q : D → LH → Prop) : List D → LH → Prop := fun acc h2 => ∀ n h3, h2.length ≤ n → Ext [] h2 h3 → h3[n]? = some (.lst acc) → Q (.ref n) h3
/-- a comprehension by an invariant -/
theorem wp_eComp {Q : D → LH → Prop} {vs : List Nat} {it : IX} {t e : EX} {r' : LS} (ew : wipeL r vs = r') (q : WP (it r h) (fun s h1 => WP (compX s vs t e fuelN 0 [] r' h1) (NewL Q) E) E) : WP (eComp vs it t e r h) Q E := by
  subst ew
  exact wp_bind (wp_use q (fun s h1 z => wp_bind (wp_use z (fun acc h2 z => wp_new z) (fun _ _ _ z => z))) (fun _ _ _ z => z))
theorem wp_comp {Q : List D → LH → Prop} {s : Src} {vs : List Nat} {t e : EX} (item : Nat → D) (len : Nat) (Inv : Nat → List D → LH → Prop) (hl : len < 1000000) (i0 : Inv 0 [] h)
    (ie : ∀ acc h, Inv len acc h → srcAt s h len = some none ∧ Q acc h)
    (is : ∀ i acc h, i < len → Inv i acc h → srcAt s h i = some (some (item i)) ∧ ∃ r1, tgt vs (item i) r = some r1 ∧ WP (t r1 h) (fun x h2 => Tr x h2 fun k => Br k (WP (e r1 h2) (fun y h3 => Need (acc.length < sizeLine) (Inv (i + 1) (acc ++ [y]) h3)) noE) (Inv (i + 1) acc h2)) noE) :
    WP (compX s vs t e fuelN 0 [] r h) Q E := by
  have main : ∀ k i acc h, i + k = len → Inv i acc h → ∀ f, k < f → WP (compX s vs t e f i acc r h) Q E := by
    intro k
    induction k with
    | zero =>
      intro i acc h e0 hi f hf
      obtain ⟨f, rfl⟩ : ∃ f', f = f' + 1 := ⟨f - 1, by omega⟩
      have : i = len := by omega
      subst this
      obtain ⟨e1, e2⟩ := ie _ _ hi
      unfold compX; rw [e1]; exact e2
    | succ k ih =>
      intro i acc h e0 hi f hf
      obtain ⟨f, rfl⟩ : ∃ f', f = f' + 1 := ⟨f - 1, by omega⟩
      obtain ⟨e1, r1, e2, q⟩ := is i acc h (by omega) hi
      unfold compX; rw [e1]; simp only [e2]
      obtain ⟨x, h2, et, q⟩ := wp_eq q
      simp only [et]
      unfold Tr at q
      match e3 : truth x h2 with
      | none => rw [e3] at q; exact q.elim
      | some false => rw [e3] at q; exact ih (i + 1) _ _ (by omega) q f (by omega)
      | some true =>
        rw [e3] at q
        obtain ⟨y, h3, ee, l, q⟩ := wp_eq q
        simp only [ee, if_pos l]
        exact ih (i + 1) _ _ (by omega) q f (by omega)
  exact main len 0 [] h (by omega) i0 _ (by unfold fuelN; omega)
theorem src_lst {n i : Nat} {xs : List D} (e : h[n]? = some (.lst xs)) : srcAt (.lst n) h i = some xs[i]? := by simp only [srcAt, e]
end st
end Ev

set_option Elab.async false
set_option linter.all false
set_option maxRecDepth 100000
namespace Ev
open Py PySem
/-! sequences: a tuple or a list -/
def SeqOf (x : D) (h : LH) (xs : List D) : Prop := x = .tup xs ∨ ∃ n, x = .ref n ∧ h[n]? = some (.lst xs)
theorem SeqOf.ext {x : D} {h h1 : LH} {xs : List D} (s : SeqOf x h xs) (e : Ext [] h h1) : SeqOf x h1 xs := by
  rcases s with rfl | ⟨n, rfl, a⟩
  · exact .inl rfl
  · exact .inr ⟨n, rfl, e.get0 a⟩
theorem SeqOf.seq {x : D} {h : LH} {xs : List D} (s : SeqOf x h xs) : seqD x h = some xs := by
  rcases s with rfl | ⟨n, rfl, a⟩
  · rfl
  · exact seq_lst a
theorem SeqOf.kd {x : D} {h : LH} {xs : List D} (s : SeqOf x h xs) : kindD x h = some .tuple ∨ kindD x h = some .list := by
  rcases s with rfl | ⟨n, rfl, a⟩
  · exact .inl rfl
  · exact .inr (by simp only [kindD, a])
/-- a source that stays, with the items xs -/
def Gives (s : Src) (h : LH) (xs : List D) : Prop := ∀ h1, Ext [] h h1 → ∀ i, srcAt s h1 i = some xs[i]?
theorem SeqOf.src {x : D} {h : LH} {xs : List D} (s : SeqOf x h xs) {P : Src → Prop} (p : ∀ s, Gives s h xs → P s) : SrcAt x h P := by
  rcases s with rfl | ⟨n, rfl, a⟩
  · exact srcat_tup (p _ fun _ _ _ => rfl)
  · exact srcat_lst a (p _ fun h1 e i => src_lst (e.get0 a))
theorem gives_its {h : LH} {xs : List D} : Gives (.its xs) h xs := fun _ _ _ => rfl
theorem gives_lst {h : LH} {n : Nat} {xs : List D} (a : h[n]? = some (.lst xs)) : Gives (.lst n) h xs := fun h1 e i => src_lst (e.get0 a)
def enumD (k : Int) (xs : List D) : List D := (xs.zipIdx).map fun p => .tup [.int (k + (p.2 : Nat)), p.1]
theorem enumD_at {k : Int} {xs : List D} {i : Nat} : (enumD k xs)[i]? = xs[i]?.map fun d => .tup [.int (k + (i : Nat)), d] := by
  unfold enumD
  rw [List.getElem?_map, List.getElem?_zipIdx]
  cases xs[i]? <;> simp
theorem gives_enm {s : Src} {h : LH} {k : Int} {xs : List D} (g : Gives s h xs) : Gives (.enm k s) h (enumD k xs) := fun h1 e i => by
  show (srcAt s h1 i).map _ = _
  rw [g h1 e i, enumD_at]; rfl
theorem Gives.ext {s : Src} {h h1 : LH} {xs : List D} (g : Gives s h xs) (e : Ext [] h h1) : Gives s h1 xs := fun h2 e2 i => g h2 (e.trans e2) i
/-- a loop over the items xs -/
theorem wf_forL {E : EP} {N B C : NP} {T : D → LH → Prop} {r : LS} {h : LH} {s : Src} {g : GX} {b : SX} (xs : List D) (hl : xs.length < 1000000) (Inv : Nat → LS → LH → Prop) (gv : ∀ i r h, Inv i r h → srcAt s h i = some xs[i]?) (i0 : Inv 0 r h)
    (ie : ∀ r h, Inv xs.length r h → N r h)
    (is : ∀ i d r h, xs[i]? = some d → Inv i r h → WF (g d r h) (fun r1 h1 => WF (b r1 h1) (Inv (i + 1)) T N (Inv (i + 1)) E) (fun _ _ => False) noN noN noE) :
    WF (forX s g b fuelN 0 r h) N T B C E := by
  refine wf_loop (fun i => xs.getD i .non) xs.length Inv hl i0 (fun r h z => ⟨?_, ie r h z⟩) (fun i r h l z => ?_)
  · rw [gv _ _ h z]; simp
  · have e : xs[i]? = some xs[i] := List.getElem?_eq_getElem l
    have e' : xs.getD i .non = xs[i] := by simp [List.getD, e]
    rw [e']
    exact ⟨by rw [gv _ _ h z, e], is i _ r h e z⟩
theorem rangeL_len {a b : Int} : (rangeL a b).length = (b - a).toNat := by simp [rangeL]
theorem rangeL_at {a b : Int} {i : Nat} {d : D} (e : (rangeL a b)[i]? = some d) : i < (b - a).toNat ∧ d = .int (a + (i : Nat)) := by
  unfold rangeL at e
  rw [List.getElem?_map] at e
  rcases Nat.lt_or_ge i (b - a).toNat with l | l
  · rw [List.getElem?_range l] at e
    exact ⟨l, by simpa using e.symm⟩
  · rw [List.getElem?_eq_none (by simpa using l)] at e; exact nomatch e
/-- for _ in range(a, a + n) -/
theorem wf_forR {E : EP} {N B C : NP} {T : D → LH → Prop} {r : LS} {h : LH} {g : GX} {b : SX} {a z : Int} (n : Nat) (hl : n < 1000000) (hn : (z - a).toNat = n) (Inv : Nat → LS → LH → Prop) (i0 : Inv 0 r h)
    (ie : ∀ r h, Inv n r h → N r h)
    (is : ∀ i r h, i < n → Inv i r h → WF (g (.int (a + (i : Nat))) r h) (fun r1 h1 => WF (b r1 h1) (Inv (i + 1)) T N (Inv (i + 1)) E) (fun _ _ => False) noN noN noE) :
    WF (forX (.its (rangeL a z)) g b fuelN 0 r h) N T B C E := by
  refine wf_forL (rangeL a z) (by rw [rangeL_len]; omega) Inv (fun _ _ _ _ => rfl) i0 (fun r h q => ?_) (fun i d r h e q => ?_)
  · rw [rangeL_len, hn] at q; exact ie r h q
  · obtain ⟨l, rfl⟩ := rangeL_at e
    exact is i r h (by omega) q
/-- a comprehension over a source that stays; test and item are told by functions of the item -/
theorem wp_compL {E : EP} {r : LS} {h : LH} {s : Src} {vs : List Nat} {t e : EX} (xs : List D) (p : D → Bool) (v : D → D) (gv : Gives s h xs) (hl : xs.length < 1000000)
    (is : ∀ d h1, d ∈ xs → Ext [] h h1 → ∃ r1, tgt vs d r = some r1 ∧ WP (t r1 h1) (fun x h2 => Tr x h2 fun k => k = p d ∧ Ext [] h1 h2 ∧ (p d = true → WP (e r1 h2) (fun y h3 => y = v d ∧ Ext [] h2 h3) noE)) noE) :
    WP (compX s vs t e fuelN 0 [] r h) (fun acc h1 => acc = (xs.filter p).map v ∧ Ext [] h h1) E := by
  refine wp_comp (fun i => xs.getD i .non) xs.length (fun i acc h1 => acc = ((xs.take i).filter p).map v ∧ Ext [] h h1) hl ⟨by simp, Ext.rfl'⟩ (fun acc h1 z => ⟨?_, ?_⟩) (fun i acc h1 l z => ?_)
  · rw [gv h1 z.2]; simp
  · refine ⟨?_, z.2⟩
    rw [z.1, List.take_of_length_le (Nat.le_refl _)]
  · have e1 : xs[i]? = some xs[i] := List.getElem?_eq_getElem l
    have e' : xs.getD i .non = xs[i] := by simp [List.getD, e1]
    rw [e']
    refine ⟨by rw [gv h1 z.2, e1], ?_⟩
    obtain ⟨r1, et, q⟩ := is xs[i] h1 (List.getElem_mem l) z.2
    refine ⟨r1, et, wp_use q (fun x h2 q => ?_) (fun _ _ _ z => z)⟩
    have tk : xs.take (i + 1) = xs.take i ++ [xs[i]] := by rw [List.take_succ, e1]; rfl
    unfold Tr at q ⊢
    match e3 : truth x h2 with
    | none => rw [e3] at q; exact q
    | some k =>
      rw [e3] at q
      obtain ⟨rfl, x2, q⟩ := q
      show Br (p xs[i]) _ _
      refine br_s (fun c => ?_) (fun c => ?_)
      · refine wp_use (q c) (fun y h3 q => ?_) (fun _ _ _ z => z)
        obtain ⟨rfl, x3⟩ := q
        refine ⟨?_, ?_, (z.2.trans x2).trans x3⟩
        · rw [z.1, List.length_map]
          refine Nat.lt_of_le_of_lt (List.length_filter_le _ _) ?_
          rw [List.length_take]; unfold sizeLine; omega
        · rw [z.1, tk, List.filter_append, List.map_append]; simp [c]
      · refine ⟨?_, z.2.trans x2⟩
        rw [z.1, tk, List.filter_append, List.map_append]; simp [c]
theorem Ext.via {W W' : List Nat} {h h1 h2 : LH} (x : Ext W h h1) (y : Ext W' h1 h2) (w : ∀ n, n < h.length → n ∈ W' → n ∈ W) : Ext W h h2 :=
  ⟨Nat.le_trans x.1 y.1, fun n a b => by rw [y.2 n (Nat.lt_of_lt_of_le a x.1) (fun z => b (w n a z)), x.2 n a b]⟩
theorem Ext.new {W : List Nat} {h h1 h2 : LH} {n : Nat} (x : Ext W h h1) (y : Ext [n] h1 h2) (w : h.length ≤ n) : Ext W h h2 :=
  x.via y (fun k a b => by simp at b; omega)
theorem Ext.then0 {W : List Nat} {h h1 h2 : LH} (x : Ext W h h1) (y : Ext [] h1 h2) : Ext W h h2 := x.via y (fun _ _ z => nomatch z)
theorem wp_powN {i j : Int} {m : Nat} {h : LH} {Q : D → LH → Prop} {E : EP} (em : j.toNat = m) (e : 0 ≤ j ∧ j ≤ 1000000) (e' : i.natAbs < 2 ^ 64) (q : Q (.int (i ^ m)) h) : WP (oPow (.int i) (.int j) h) Q E := by
  subst em; exact wp_pow ⟨e.1, e.2, e'⟩ q
/-! lists of numbers -/
def iD (ks : List Nat) : List D := ks.map fun (k : Nat) => .int (k : Int)
theorem iD_len {ks : List Nat} : (iD ks).length = ks.length := by simp [iD]
theorem iD_mem {ks : List Nat} {d : D} (m : d ∈ iD ks) : ∃ k ∈ ks, d = .int (k : Int) := by
  obtain ⟨k, a, b⟩ := List.mem_map.1 m; exact ⟨k, a, b.symm⟩
theorem iD_filter {ks : List Nat} {p : D → Bool} : (iD ks).filter p = iD (ks.filter fun k => p (.int (k : Int))) := by
  simp [iD, List.filter_map]; rfl
theorem wp_ixN {x : D} {h : LH} {xs : List D} {k : Nat} {d : D} {Q : D → LH → Prop} {E : EP} (e : seqD x h = some xs) (a : xs[k]? = some d) (q : Q d h) : WP (oIx x (.int (k : Int)) h) Q E :=
  wp_ix e (L2.atI_nat a) q
theorem wp_ixS {x : D} {h : LH} {ns : List Int} {k : Nat} {i : Int} {Q : D → LH → Prop} {E : EP} (e : seqD x h = some (ns.map .int)) (a : ns[k]? = some i) (q : Q (.int i) h) : WP (oIx x (.int (k : Int)) h) Q E :=
  wp_ix e (L2.atI_nat (by rw [List.getElem?_map, a]; rfl)) q
end Ev

set_option Elab.async false
set_option linter.all false
set_option maxRecDepth 100000
/-! Own layer: texts of data, lengths; equality of data. -/
namespace Ev
open Py PySem
mutual
/-- at most so long a text -/
def room : PyData → Nat
  | .none => 4
  | .bool _ => 5
  | .int _ => 20
  | .str x => (reprText x).length
  | .list xs => 2 + roomAll xs
  | .tuple xs => 3 + roomAll xs
  | .dict _ => 0
def roomAll : List PyData → Nat
  | [] => 0
  | x :: xs => room x + 2 + roomAll xs
end
mutual
/-- whole numbers below 10 ** 18, no dicts -/
def tame : PyData → Bool
  | .int i => decide (i.natAbs < 10 ^ 18)
  | .none | .bool _ | .str _ => true
  | .list xs => tameAll xs
  | .tuple xs => tameAll xs
  | .dict _ => false
def tameAll : List PyData → Bool
  | [] => true
  | x :: xs => tame x && tameAll xs
end
theorem tf_len : ∀ (ts : List Str) (k : Nat) (acc : Str), (textFrom k acc ts).length ≤ acc.length + (ts.map fun t => t.length + 2).sum
  | [], k, acc => by simp [textFrom]
  | t :: ts, k, acc => by
    have := tf_len ts (k + 1) (acc ++ (if k > 0 then ", " else "" : String) ++ t)
    have e : (acc ++ (if k > 0 then ", " else "" : String) ++ t).length = acc.length + (if k > 0 then 2 else 0) + t.length := by
      rw [Str.length_append, Str.length_append]
      split <;> rfl
    rw [e] at this
    simp only [textFrom, List.map_cons, List.sum_cons]
    have : (if k > 0 then 2 else 0 : Nat) ≤ 2 := by split <;> omega
    omega
theorem join_len : ∀ (ts : List Str), (Str.join ", " ts).length ≤ (ts.map fun t => t.length + 2).sum
  | [] => by simp [Str.join, Str.empty, Str.length]
  | [x] => by simp [Str.join]
  | x :: y :: r => by
    have := join_len (y :: r)
    have e : (Str.join ", " (x :: y :: r)).length = x.length + 2 + (Str.join ", " (y :: r)).length := by
      rw [Str.join, Str.length_append, Str.length_append]; rfl
      intro z; exact nomatch z
    rw [e]
    simp only [List.map_cons, List.sum_cons] at this ⊢
    omega
mutual
theorem shown_len : ∀ d : PyData, tame d = true → d.shown.length ≤ room d
  | .none, _ => by rw [PyData.shown]; decide
  | .bool true, _ => by rw [PyData.shown]; decide
  | .bool false, _ => by rw [PyData.shown]; decide
  | .int i, t => by
    rw [PyData.shown, room]
    have t : i.natAbs < 10 ^ 18 := by simpa [tame] using t
    have e := int_text_length_le10 (k := 18) (by decide) t
    have : (Str.ofString (toString i)).length = (toString i).length := by rw [ofString_length]
    show (Str.ofString (toString i)).length ≤ 20
    omega
  | .str x, _ => by rw [PyData.shown, room]; exact Nat.le_refl _
  | .list xs, t => by
    rw [PyData.shown, room]
    have t : tameAll xs = true := by simpa [tame] using t
    have := shownAll_len xs t
    have h1 := tf_len (PyData.shownAll xs) 0 "["
    unfold listText
    rw [Str.length_append]
    have e1 : ("[" : Str).length = 1 := by decide
    have e2 : ("]" : Str).length = 1 := by decide
    omega
  | .tuple xs, t => by
    rw [PyData.shown, room]
    have t : tameAll xs = true := by simpa [tame] using t
    have := shownAll_len xs t
    have h1 := join_len (PyData.shownAll xs)
    unfold tupleText
    rw [Str.length_append, Str.length_append]
    have e1 : ("(" : Str).length = 1 := by decide
    have e2 : ((if (PyData.shownAll xs).length == 1 then ",)" else ")" : String) : Str).length ≤ 2 := by split <;> decide
    omega
  | .dict kvs, t => by simp [tame] at t
theorem shownAll_len : ∀ xs : List PyData, tameAll xs = true → ((PyData.shownAll xs).map fun t => t.length + 2).sum ≤ roomAll xs
  | [], _ => by rw [PyData.shownAll]; simp
  | x :: xs, t => by
    have t : tame x = true ∧ tameAll xs = true := by simpa [tameAll] using t
    have h1 := shown_len x t.1
    have h2 := shownAll_len xs t.2
    rw [PyData.shownAll, roomAll]
    simp only [List.map_cons, List.sum_cons]
    omega
end
mutual
theorem tame_show : ∀ d : PyData, tame d = true → d.showable = true ∧ d.hasDict = false
  | .none, _ => ⟨by simp [PyData.showable], by simp [PyData.hasDict]⟩
  | .bool _, _ => ⟨by simp [PyData.showable], by simp [PyData.hasDict]⟩
  | .str _, _ => ⟨by simp [PyData.showable], by simp [PyData.hasDict]⟩
  | .int i, t => by
    have t : i.natAbs < 10 ^ 18 := by simpa [tame] using t
    refine ⟨?_, by simp [PyData.hasDict]⟩
    rw [PyData.showable, decide_eq_true_eq]
    rcases Nat.eq_zero_or_pos i.natAbs with z | z
    · rw [z]; decide
    · have : i.natAbs.log2 < 60 := (Nat.log2_lt (by omega)).2 (Nat.lt_trans t (by decide))
      omega
  | .list xs, t => by
    have := tameAll_show xs (by simpa [tame] using t)
    exact ⟨by rw [PyData.showable]; exact this.1, by rw [PyData.hasDict]; exact this.2⟩
  | .tuple xs, t => by
    have := tameAll_show xs (by simpa [tame] using t)
    exact ⟨by rw [PyData.showable]; exact this.1, by rw [PyData.hasDict]; exact this.2⟩
  | .dict kvs, t => by simp [tame] at t
theorem tameAll_show : ∀ xs : List PyData, tameAll xs = true → PyData.showableAll xs = true ∧ PyData.hasDictAll xs = false
  | [], _ => ⟨by simp [PyData.showableAll], by simp [PyData.hasDictAll]⟩
  | x :: xs, t => by
    have t : tame x = true ∧ tameAll xs = true := by simpa [tameAll] using t
    have h1 := tame_show x t.1
    have h2 := tameAll_show xs t.2
    exact ⟨by rw [PyData.showableAll, h1.1, h2.1]; rfl, by rw [PyData.hasDictAll, h1.2, h2.2]; rfl⟩
end
theorem showOk_of {d : PyData} (t : tame d = true) (l : d.depth ≤ 64) (r : room d ≤ sizeLine) : showOk d = true := by
  have := tame_show d t
  unfold showOk
  rw [this.1, this.2, decide_eq_true l, decide_eq_true (Nat.le_trans (shown_len d t) r)]; rfl
/-! lists of numbers -/
def pN (ks : List Nat) : List PyData := ks.map fun (k : Nat) => .int (k : Int)
theorem deep_list {h : LH} {m n : Nat} {xs : List D} {ds : List PyData} (e : h[n]? = some (.lst xs)) (q : mapO (deep h m) xs = some ds) : deep h (m + 1) (.ref n) = some (.list ds) := by
  rw [deep, e]; simp only [q]; rfl
theorem deep_tup {h : LH} {m : Nat} {xs : List D} {ds : List PyData} (q : mapO (deep h m) xs = some ds) : deep h (m + 1) (.tup xs) = some (.tuple ds) := by
  rw [deep, q]; rfl
theorem mapO_nil {α β : Type} {f : α → Option β} : mapO f [] = some [] := rfl
theorem mapO_cons {α β : Type} {f : α → Option β} {a : α} {r : List α} {b : β} {bs : List β} (e : f a = some b) (q : mapO f r = some bs) : mapO f (a :: r) = some (b :: bs) := by
  rw [mapO, e, q]
/-- small numbers -/
def Small (m : Nat) (ks : List Nat) : Prop := ks.length ≤ m ∧ ∀ k ∈ ks, k < 10 ^ 18
theorem Small.up {m m' : Nat} {ks : List Nat} (s : Small m ks) (l : m ≤ m') : Small m' ks := ⟨Nat.le_trans s.1 l, s.2⟩
section
variable {E : EP} {Q : D → LH → Prop} {h : LH}
theorem wp_repL {n : Nat} {a : PyData} (e : deep h 60 (.ref n) = some a) (s : showOk a = true) (q : Q (.str a.shown) h) : WP (bRep [.ref n] h) Q E := wp_reprL e s q
/-- flat data -/
def datF : D → PyData
  | .non => .none
  | .bl b => .bool b
  | .int i => .int i
  | .str x => .str x
  | _ => .none
/-- flat data with a short text -/
def Mild (x : D) : Prop := flatD x = true ∧ tame (datF x) = true ∧ room (datF x) ≤ 50
end
end Ev

set_option Elab.async false
set_option linter.all false
set_option maxRecDepth 100000
/-! Plain trees: parents, ways, children. No program here. -/
namespace Ev
structure Ups (ks : List Nat) (m : Nat) : Prop where
  len : ks.length ≤ m
  up : ∀ j k : Nat, ks[j]? = some k → k ≤ j
theorem Ups.push {ks : List Nat} {m k : Nat} (U : Ups ks m) (l : ks.length < m) (e : k ≤ ks.length) : Ups (ks ++ [k]) m := by
  refine ⟨by simp; omega, fun j k' z => ?_⟩
  rw [List.getElem?_append] at z
  split at z
  · exact U.up _ _ z
  · rename_i c
    have : j = ks.length := by
      rcases Nat.lt_or_ge j (ks.length + 1) with y | y
      · omega
      · rw [List.getElem?_eq_none (by simp; omega)] at z; exact nomatch z
    subst this
    simp at z; omega
theorem Ups.mono {ks : List Nat} {m m' : Nat} (U : Ups ks m) (l : m ≤ m') : Ups ks m' := ⟨Nat.le_trans U.len l, U.up⟩
theorem Ups.nil {m : Nat} : Ups [] m := ⟨by simp, fun j k e => by simp at e⟩
theorem Ups.mem {ks : List Nat} {m k : Nat} (U : Ups ks m) (e : k ∈ ks) : k < ks.length := by
  obtain ⟨j, l, rfl⟩ := List.mem_iff_getElem.1 e
  have := U.up j _ (List.getElem?_eq_getElem l)
  omega
theorem Ups.take {ks : List Nat} {m i : Nat} (U : Ups ks m) : Ups (ks.take i) m := by
  refine ⟨by rw [List.length_take]; have := U.len; omega, fun j k e => ?_⟩
  rw [List.getElem?_take] at e
  split at e
  · exact U.up _ _ e
  · exact nomatch e
/-! children -/
def kidsN (ks : List Nat) (g : Nat) : List Nat := ((ks.zipIdx).filter fun p => p.1 == g).map fun p => p.2 + 1
theorem kids_mem {ks : List Nat} {g c : Nat} : c ∈ kidsN ks g ↔ ∃ j, c = j + 1 ∧ ks[j]? = some g := by
  unfold kidsN
  rw [List.mem_map]
  constructor
  · rintro ⟨⟨a, j⟩, m, rfl⟩
    rw [List.mem_filter, List.mem_zipIdx_iff_getElem?] at m
    refine ⟨j, rfl, ?_⟩
    rw [m.1]
    have : a = g := by simpa using m.2
    rw [this]
  · rintro ⟨j, rfl, e⟩
    refine ⟨(g, j), ?_, rfl⟩
    rw [List.mem_filter, List.mem_zipIdx_iff_getElem?]
    exact ⟨e, by simp⟩
/-! struck groups -/
structure SOk (ks ss : List Nat) : Prop where
  rng : ∀ s ∈ ss, 0 < s ∧ s ≤ ks.length
  nd : ss.Nodup
  cl : ∀ s ∈ ss, ∀ c ∈ kidsN ks s, c ∈ ss
theorem SOk.nil {ks : List Nat} : SOk ks [] := ⟨(fun _ z => nomatch z), List.nodup_nil, (fun _ z => nomatch z)⟩
theorem SOk.push {ks ss : List Nat} {g : Nat} (S : SOk ks ss) (l : 0 < g ∧ g ≤ ks.length) (n : g ∉ ss) (c : ∀ c ∈ kidsN ks g, c ∈ ss) : SOk ks (ss ++ [g]) := by
  refine ⟨fun s m => ?_, ?_, fun s m z y => ?_⟩
  · rcases List.mem_append.1 m with m | m
    · exact S.rng s m
    · simp at m; subst m; exact l
  · rw [List.nodup_append]; exact ⟨S.nd, by simp, fun a b c d e => by simp at d; subst d; subst e; exact n b⟩
  · rcases List.mem_append.1 m with m | m
    · exact List.mem_append_left _ (S.cl s m z y)
    · simp at m; subst m; exact List.mem_append_left _ (c z y)
theorem nodup_len : ∀ {n : Nat} {ss : List Nat}, ss.Nodup → (∀ s ∈ ss, s < n) → ss.length ≤ n
  | 0, [], _, _ => Nat.le_refl _
  | 0, s :: ss, _, l => absurd (l s (by simp)) (by omega)
  | n + 1, ss, d, l => by
    have := nodup_len (n := n) (d.erase n) (fun s m => by
      have h1 := l s (List.mem_of_mem_erase m)
      have h2 : s ≠ n := fun e => by subst e; exact (List.Nodup.mem_erase_iff d).1 m |>.1 rfl
      omega)
    rw [List.length_erase] at this
    split at this <;> omega
theorem SOk.len {ks ss : List Nat} (S : SOk ks ss) : ss.length ≤ ks.length := by
  have d : (ss.map fun s => s - 1).Nodup := by
    rw [List.nodup_iff_pairwise_ne, List.pairwise_map]
    refine List.Pairwise.imp_of_mem ?_ (List.nodup_iff_pairwise_ne.1 S.nd)
    intro a b ma mb ne
    have := S.rng a ma; have := S.rng b mb; omega
  have := nodup_len (n := ks.length) d (fun s m => by
    obtain ⟨a, ma, rfl⟩ := List.mem_map.1 m
    have := S.rng a ma; omega)
  simpa using this
theorem SOk.grow {ks ss : List Nat} {k : Nat} (S : SOk ks ss) (n : k ∉ ss) : SOk (ks ++ [k]) ss := by
  refine ⟨fun s m => by have := S.rng s m; simp; omega, S.nd, fun s m c z => ?_⟩
  obtain ⟨j, rfl, e⟩ := kids_mem.1 z
  rw [List.getElem?_append] at e
  split at e
  · exact S.cl s m _ (kids_mem.2 ⟨j, rfl, e⟩)
  · have : s = k := by
      rcases Nat.eq_zero_or_pos (j - ks.length) with y | y
      · rw [y] at e; simpa using e.symm
      · rw [List.getElem?_eq_none (by simp; omega)] at e; exact nomatch e
    subst this; exact absurd m n
/-! sorted -/
def insN (a : Nat) : List Nat → List Nat
  | [] => [a]
  | b :: r => if a ≤ b then a :: b :: r else b :: insN a r
def sortN : List Nat → List Nat
  | [] => []
  | a :: r => insN a (sortN r)
/-! ways -/
def wayF (ks : List Nat) : Nat → Nat → List Nat
  | _, 0 => [0]
  | 0, g + 1 => [g + 1]
  | f + 1, g + 1 => (g + 1) :: wayF ks f (ks.getD g 0)
def wayN (ks : List Nat) (g : Nat) : List Nat := wayF ks g g
def comN (ks : List Nat) (g s : Nat) : List Nat := (wayN ks g).filter fun x => decide (x ∈ wayN ks s)
def apN (ks : List Nat) (g s : Nat) : List Nat := (wayN ks g).filter fun x => !decide (x ∈ wayN ks s)
/-- below: seen is behind group on its way -/
def belN (ks : List Nat) (g s : Nat) : Bool := decide (s ∈ (wayN ks g).tail)
def zoneN (ks : List Nat) (g s : Nat) : Nat := if g = s then 2 else if s ∈ wayN ks g then 1 else 3
end Ev

set_option Elab.async false
set_option linter.all false
set_option maxRecDepth 100000
/-! Comprehensions over whole numbers, all and any. -/
namespace Ev
open Py PySem
section
variable {E : EP} {Q : D → LH → Prop} {r : LS} {h : LH} {s : Src} {vs : List Nat} {t e : EX}
theorem wp_filN {js : List Nat} (p : Nat → Bool) (v : Nat → D) (gv : Gives s h (iD js)) (hl : js.length < 1000000)
    (is : ∀ k ∈ js, ∀ h1, Ext [] h h1 → ∃ r1, tgt vs (.int (k : Int)) r = some r1 ∧ WP (t r1 h1) (fun x h2 => Tr x h2 fun b => b = p k ∧ Ext [] h1 h2 ∧ (p k = true → WP (e r1 h2) (fun y h3 => y = v k ∧ Ext [] h2 h3) noE)) noE)
    (q : ∀ n h2, h.length ≤ n → Ext [] h h2 → h2[n]? = some (.lst ((js.filter p).map v)) → Q (.ref n) h2) :
    WP (compX s vs t e fuelN 0 [] r h) (NewL Q) E := by
  refine wp_use0 (wp_compL (iD js) (fun d => match d with | .int i => p i.toNat | _ => false) (fun d => match d with | .int i => v i.toNat | _ => .non) gv (by rw [iD_len]; exact hl) ?_) ?_
  · intro d h1 m x1
    obtain ⟨k, mk, rfl⟩ := iD_mem m
    obtain ⟨r1, e1, w⟩ := is k mk h1 x1
    exact ⟨r1, e1, by simpa using w⟩
  · rintro acc h1 ⟨rfl, x1⟩ n h2 l2 x2 a2
    refine q n h2 (Nat.le_trans x1.1 l2) (x1.trans x2) ?_
    rw [a2, iD_filter]
    simp only [iD, List.map_map, Int.toNat_natCast]
    rfl
theorem wp_mapN {js : List Nat} (v : Nat → D) (gv : Gives s h (iD js)) (hl : js.length < 1000000)
    (is : ∀ k ∈ js, ∀ h1, Ext [] h h1 → ∃ r1, tgt vs (.int (k : Int)) r = some r1 ∧ WP (e r1 h1) (fun y h3 => y = v k ∧ Ext [] h1 h3) noE)
    (q : ∀ n h2, h.length ≤ n → Ext [] h h2 → h2[n]? = some (.lst (js.map v)) → Q (.ref n) h2) :
    WP (compX s vs (eC (.bl true)) e fuelN 0 [] r h) (NewL Q) E := by
  refine wp_filN (fun _ => true) v gv hl ?_ ?_
  · intro k m h1 x1
    obtain ⟨r1, e1, w⟩ := is k m h1 x1
    exact ⟨r1, e1, wp_eC ⟨rfl, Ext.rfl', fun _ => w⟩⟩
  · intro n h2 l x a
    rw [List.filter_eq_self.2 (fun _ _ => rfl)] at a
    exact q n h2 l x a
theorem gives_range {m : Nat} : Gives (.its (rangeL 0 (m : Int))) h (iD (List.range m)) := by
  have e : rangeL 0 (m : Int) = iD (List.range m) := by unfold rangeL iD; simp
  rw [e]; exact gives_its
theorem wp_allT {α : Type} {n : Nat} {js : List α} (e : h[n]? = some (.lst (js.map fun _ => D.bl true))) (q : Q (.bl true) h) : WP (bAll [.ref n] h) Q E := by
  refine wp_bAll (bs := js.map fun _ => true) (by rw [e]; simp) ?_
  have : ((js.map fun _ => true).all id) = true := by simp
  rw [this]; exact q
theorem wp_allB {α : Type} {n : Nat} {js : List α} {p : α → Bool} (e : h[n]? = some (.lst (js.map fun k => D.bl (p k)))) (q : Q (.bl (js.all p)) h) : WP (bAll [.ref n] h) Q E := by
  refine wp_bAll (bs := js.map p) (by rw [e]; simp) ?_
  have : ((js.map p).all id) = js.all p := by simp [List.all_map]
  rw [this]; exact q
theorem wp_anyB {α : Type} {n : Nat} {js : List α} {p : α → Bool} (e : h[n]? = some (.lst (js.map fun k => D.bl (p k)))) (q : Q (.bl (js.any p)) h) : WP (bAny [.ref n] h) Q E := by
  refine wp_bAny (bs := js.map p) (by rw [e]; simp) ?_
  have : ((js.map p).any id) = js.any p := by simp [List.any_map]
  rw [this]; exact q
end
section
variable {E : EP} {N B C : NP} {T : D → LH → Prop} {Q : D → LH → Prop} {r : LS} {h : LH}
def ParAt3 (i j l : Nat) (ds : List D) (r : LS) (h : LH) (N : NP) : Prop := ∃ x y z, ds = [x, y, z] ∧ N (((r.set i (some x)).set j (some y)).set l (some z)) h
theorem parat3 {i j l : Nat} {x y z : D} {r' : LS} (e : ((r.set i (some x)).set j (some y)).set l (some z) = r') (q : N r' h) : ParAt3 i j l [x, y, z] r h N := by subst e; exact ⟨x, y, z, rfl, q⟩
theorem wf_sPar3 {i j l : Nat} {a : AX} (q : WP (a r h) (fun ds h1 => ParAt3 i j l ds r h1 N) E) : WF (sPar3 i j l a r h) N T B C E :=
  wf_to (wp_use q (fun x h1 z => by obtain ⟨x, y, z, rfl, w⟩ := z; exact w) (fun _ _ _ z => z))
theorem wp_isBB {b c : Bool} (q : Q (.bl (c == b)) h) : WP (oIsB b (.bl c) h) Q E := q
def RvAt (x : D) (h : LH) (Q : D → LH → Prop) : Prop := ∃ n xs, x = .ref n ∧ h[n]? = some (.lst xs) ∧ ∀ k h1, h.length ≤ k → Ext [] h h1 → h1[k]? = some (.lst xs.reverse) → Q (.ref k) h1
theorem rvat {n : Nat} {xs : List D} (e : h[n]? = some (.lst xs)) (q : ∀ k h1, h.length ≤ k → Ext [] h h1 → h1[k]? = some (.lst xs.reverse) → Q (.ref k) h1) : RvAt (.ref n) h Q := ⟨n, xs, rfl, e, q⟩
theorem wp_eRev {a : EX} (q : WP (a r h) (fun x h1 => RvAt x h1 Q) E) : WP (eRev a r h) Q E :=
  wp_e1 (wp_use q (fun x h1 z => by
    obtain ⟨n, xs, rfl, e, q⟩ := z
    simp only [lstD, e]; exact wp_new q) (fun _ _ _ z => z))
/-- x is shown as d -/
def Shw (h : LH) (x : D) (d : PyData) : Prop := deep h 59 x = some d ∧ tame d = true ∧ room d ≤ 8000 ∧ d.depth ≤ 10
inductive Shs (h : LH) : List D → List PyData → Prop
  | nil : Shs h [] []
  | cons {x : D} {d : PyData} {xs : List D} {ds : List PyData} : Shw h x d → Shs h xs ds → Shs h (x :: xs) (d :: ds)
theorem Shs.all {xs : List D} {ds : List PyData} (s : Shs h xs ds) : mapO (deep h 59) xs = some ds ∧ tameAll ds = true ∧ roomAll ds ≤ 8002 * xs.length ∧ PyData.depthAll ds ≤ 10 := by
  induction s with
  | nil => exact ⟨rfl, rfl, by simp [roomAll], by simp [PyData.depthAll]⟩
  | cons a b ih =>
    obtain ⟨a1, a2, a3, a4⟩ := a
    obtain ⟨i1, i2, i3, i4⟩ := ih
    refine ⟨mapO_cons a1 i1, by rw [tameAll, a2, i2]; rfl, by rw [roomAll, List.length_cons]; omega, by rw [PyData.depthAll]; omega⟩
/-- the parent of g, None of the top -/
def upD (ks : List Nat) (g : Nat) : D := ((D.non :: iD ks)[g]?).getD .non
def upP (ks : List Nat) (g : Nat) : PyData := datF (upD ks g)
end
end Ev

set_option Elab.async false
set_option linter.all false
set_option maxRecDepth 100000
/-! own ==, isinstance of own classes, pop(i), extend, reverse. -/
namespace Ev
open Py PySem
section
variable {E : EP} {Q : D → LH → Prop} {h : LH}
theorem wp_isO {f : Nat → Option Bool} {n c : Nat} {fs : List (Nat × D)} {b : Bool} (e : h[n]? = some (.ins c fs)) (k : f c = some b) (q : Q (.bl b) h) : WP (oIsO f (.ref n) h) Q E := by
  simp only [oIsO, e, k]; exact q
theorem wp_eqO {c n : Nat} {cf : CF} {y : D} {fs : List (Nat × D)} (e : h[n]? = some (.ins c fs)) (r : rightOk c y h = true) (q : WP (cf [.ref n, y] h) (fun v h1 => IsB v fun b => Q (.bl b) h1) E) : WP (oEqO c cf false (.ref n) y h) Q E := by
  simp only [oEqO, e]
  rw [if_pos ⟨trivial, r⟩]
  refine wp_bind (wp_use q (fun v h1 z => ?_) (fun _ _ _ z => z))
  cases v with
  | bl b => exact z
  | _ => exact z.elim
theorem wp_neO {c n : Nat} {cf : CF} {y : D} {fs : List (Nat × D)} (e : h[n]? = some (.ins c fs)) (r : rightOk c y h = true) (q : WP (cf [.ref n, y] h) (fun v h1 => IsB v fun b => Q (.bl (!b)) h1) E) : WP (oEqO c cf true (.ref n) y h) Q E := by
  simp only [oEqO, e]
  rw [if_pos ⟨trivial, r⟩]
  refine wp_bind (wp_use q (fun v h1 z => ?_) (fun _ _ _ z => z))
  cases v with
  | bl b => exact z
  | _ => exact z.elim
theorem wp_extend {n k : Nat} {xs ys : List D} (e : h[n]? = some (.lst xs)) (e' : h[k]? = some (.lst ys)) (l : xs.length + ys.length ≤ sizeLine) (q : ∀ h1, Ext [n] h h1 → h1[n]? = some (.lst (xs ++ ys)) → Q .non h1) : WP (mExtend (.ref n) [.ref k] h) Q E := by
  simp only [mExtend, lstD, e', onL, e, if_pos l]; exact q _ ext_set (at_set e)
end
end Ev

set_option Elab.async false
set_option linter.all false
set_option maxRecDepth 100000
/-! Words, rows of words; dicts: rules of weakest preconditions. -/
namespace Py
open PySem
abbrev W := Fin 20
def wd (c : W) : Str := match c.val with
  | 0 => "look"
  | 1 => "add"
  | 2 => "try"
  | 3 => "live"
  | 4 => "home"
  | 5 => "off"
  | 6 => "end"
  | 7 => "set"
  | 8 => "both"
  | 9 => "undo"
  | 10 => "leave"
  | 11 => "wait"
  | 12 => "take"
  | 13 => "give"
  | 14 => "move"
  | 15 => "lift"
  | 16 => "settle"
  | 17 => "fail"
  | 18 => "fails"
  | _ => "shared"
def rowD (cs : List W) : List D := cs.map fun c => .str (wd c)
end Py
namespace Ev
open Py PySem
theorem wd_inj : ∀ a b : W, wd a = wd b → a = b := by decide +kernel
theorem wd_eq {a b : W} : decide (wd a = wd b) = decide (a = b) := by
  rw [Bool.eq_iff_iff, decide_eq_true_eq, decide_eq_true_eq]
  exact ⟨wd_inj a b, fun e => by rw [e]⟩
theorem row_len {cs : List W} : (rowD cs).length = cs.length := by simp [rowD]
theorem row_at {cs : List W} {i : Nat} : (rowD cs)[i]? = cs[i]?.map fun c => .str (wd c) := by simp [rowD]
theorem row_app {as bs : List W} : rowD (as ++ bs) = rowD as ++ rowD bs := by simp [rowD]
theorem row_mem {cs : List W} {d : D} (m : d ∈ rowD cs) : ∃ c ∈ cs, d = .str (wd c) := by
  obtain ⟨c, a, b⟩ := List.mem_map.1 m; exact ⟨c, a, b.symm⟩
theorem row_flat {cs : List W} : (rowD cs).all flatD = true := by
  rw [List.all_eq_true]; intro d m; obtain ⟨k, _, rfl⟩ := row_mem m; rfl
theorem row_has {cs : List W} {c : W} : ((rowD cs).any fun z => eqF z (.str (wd c))) = decide (c ∈ cs) := by
  rw [Bool.eq_iff_iff, List.any_eq_true, decide_eq_true_eq]
  constructor
  · rintro ⟨d, m, e⟩
    obtain ⟨j, a, rfl⟩ := row_mem m
    have : wd j = wd c := by simpa [eqF] using e
    rw [← wd_inj _ _ this]; exact a
  · exact fun m => ⟨.str (wd c), List.mem_map.2 ⟨c, m, rfl⟩, by simp [eqF]⟩
theorem row_take {cs : List W} {i : Nat} : (rowD cs).take i = rowD (cs.take i) := by simp [rowD, List.map_take]
def rowP (cs : List W) : List PyData := cs.map fun c => .str (wd c)
theorem strOk_wd : ∀ c : W, PyData.canLay0 (.str (wd c)) = true := by decide +kernel
theorem len_wd : ∀ c : W, (reprText (wd c)).length ≤ 10 := by decide +kernel
section
variable {E : EP} {Q : D → LH → Prop} {r : LS} {h : LH}
theorem wp_inW {c : W} {cs : List W} (q : Q (.bl (decide (c ∈ cs))) h) : WP (oIn false (.str (wd c)) (.tup (rowD cs)) h) Q E := by
  refine wp_in rfl ?_ ?_
  · rw [row_flat]; rfl
  · rw [row_has]; exact q
theorem wp_ninW {c : W} {cs : List W} (q : Q (.bl (!decide (c ∈ cs))) h) : WP (oIn true (.str (wd c)) (.tup (rowD cs)) h) Q E := by
  refine wp_in rfl ?_ ?_
  · rw [row_flat]; rfl
  · rw [row_has]; exact q
theorem wp_eqW {a b : W} (q : Q (.bl (decide (a = b))) h) : WP (oEq false (.str (wd a)) (.str (wd b)) h) Q E := by
  refine wp_eqS ?_; rw [wd_eq]; exact q
theorem wp_neW {a b : W} (q : Q (.bl (!decide (a = b))) h) : WP (oEq true (.str (wd a)) (.str (wd b)) h) Q E := by
  refine wp_neS ?_; rw [wd_eq]; exact q
theorem mapO_row {n : Nat} : ∀ cs : List W, mapO (deep h n) (rowD cs) = some (rowP cs)
  | [] => rfl
  | c :: cs => by
    refine mapO_cons (a := .str (wd c)) (b := .str (wd c)) ?_ (mapO_row cs)
    cases n <;> rfl
theorem lay_row : ∀ cs : List W, PyData.canLayAll0 (rowP cs) = true
  | [] => rfl
  | c :: cs => by
    show (PyData.canLay0 (.str (wd c)) && PyData.canLayAll0 (rowP cs)) = true
    rw [strOk_wd, lay_row cs]; rfl
theorem depth_row : ∀ cs : List W, PyData.depthAll (rowP cs) = 0
  | [] => by simp [rowP, PyData.depthAll]
  | c :: cs => by
    have := depth_row cs
    simp only [rowP, List.map_cons, PyData.depthAll, PyData.depth] at this ⊢
    rw [this]; rfl
theorem shaped_row {cs : List W} : SeqAt.shaped (.tuple (rowP cs)) = true := by
  unfold SeqAt.shaped; rw [PyData.canLay0, lay_row, PyData.depth, depth_row]; rfl
theorem eqv_row : ∀ {as bs : List W}, PyData.eqvAll (rowP as) (rowP bs) = decide (as = bs)
  | [], [] => by simp [rowP, PyData.eqvAll]
  | [], _ :: _ => by simp [rowP, PyData.eqvAll]
  | _ :: _, [] => by simp [rowP, PyData.eqvAll]
  | a :: as, b :: bs => by
    have ih := eqv_row (as := as) (bs := bs)
    simp only [rowP, List.map_cons, PyData.eqvAll, PyData.eqv] at ih ⊢
    rw [ih]
    have : (wd a == wd b) = decide (a = b) := by rw [← wd_eq]; rfl
    rw [this, Bool.eq_iff_iff]
    simp
theorem wp_eqRow {as bs : List W} (q : Q (.bl (decide (as = bs))) h) : WP (oEq false (.tup (rowD as)) (.tup (rowD bs)) h) Q E := by
  refine wp_eqT (deep_tup (mapO_row _)) (deep_tup (mapO_row _)) (by rw [shaped_row, shaped_row]; rfl) ?_
  rw [PyData.eqv, eqv_row]; exact q
theorem wp_neRow {as bs : List W} (q : Q (.bl (!decide (as = bs))) h) : WP (oEq true (.tup (rowD as)) (.tup (rowD bs)) h) Q E := by
  refine wp_eqT (deep_tup (mapO_row _)) (deep_tup (mapO_row _)) (by rw [shaped_row, shaped_row]; rfl) ?_
  rw [PyData.eqv, eqv_row]; exact q
/-- the row is empty -/
theorem wp_eqRow0 {as : List W} (q : Q (.bl (decide (as = []))) h) : WP (oEq false (.tup (rowD as)) (.tup []) h) Q E := wp_eqRow (bs := []) q
theorem wp_neRow0 {as : List W} (q : Q (.bl (!decide (as = []))) h) : WP (oEq true (.tup (rowD as)) (.tup []) h) Q E := wp_neRow (bs := []) q
theorem wp_eqB0 {a b : Bool} {neg : Bool} (q : Q (.bl (if neg then !(a == b) else (a == b))) h) : WP (oEq neg (.bl a) (.bl b) h) Q E := by
  refine wp_eqD (x := .bl a) (y := .bl b) (a := .bool a) (b := .bool b) rfl rfl ?_ ?_
  · unfold SeqAt.shaped; simp only [PyData.canLay0, PyData.depth]; rfl
  · simp only [PyData.eqv]; exact q
theorem wp_eqB {a b : Bool} (q : Q (.bl (a == b)) h) : WP (oEq false (.bl a) (.bl b) h) Q E := wp_eqB0 q
theorem wp_neB {a b : Bool} (q : Q (.bl (!(a == b))) h) : WP (oEq true (.bl a) (.bl b) h) Q E := wp_eqB0 q
theorem br_kt {ks : List Kd} {k : Kd} {P P' : Prop} (e : (ks.any fun t => k.is t) = true) (p : P) : Br (ks.any fun t => k.is t) P P' := br_t e p
theorem br_kf {ks : List Kd} {k : Kd} {P P' : Prop} (e : (ks.any fun t => k.is t) = false) (p : P') : Br (ks.any fun t => k.is t) P P' := br_f e p
theorem qb {b b' : Bool} (q : Q (.bl b) h) (e : b = b') : Q (.bl b') h := e ▸ q
/-- a comprehension over a source of f's values -/
theorem wp_compF {α : Type} {s : Src} {vs : List Nat} {t e : EX} (f : α → D) (js : List α) (p : α → Bool) (v : α → D) (gv : Gives s h (js.map f)) (hl : js.length < 1000000)
    (is : ∀ a ∈ js, ∀ h1, Ext [] h h1 → ∃ r1, tgt vs (f a) r = some r1 ∧ WP (t r1 h1) (fun x h2 => Tr x h2 fun k => k = p a ∧ Ext [] h1 h2 ∧ (p a = true → WP (e r1 h2) (fun y h3 => y = v a ∧ Ext [] h2 h3) noE)) noE)
    (q : ∀ n h2, h.length ≤ n → Ext [] h h2 → h2[n]? = some (.lst ((js.filter p).map v)) → Q (.ref n) h2) :
    WP (compX s vs t e fuelN 0 [] r h) (NewL Q) E := by
  refine wp_comp (fun i => (js.map f).getD i .non) js.length (fun i acc h1 => acc = ((js.take i).filter p).map v ∧ Ext [] h h1) hl ⟨by simp, Ext.rfl'⟩ (fun acc h1 z => ⟨?_, ?_⟩) (fun i acc h1 l z => ?_)
  · rw [gv h1 z.2, List.getElem?_eq_none (by simp)]
  · intro n h2 l2 x2 a2
    refine q n h2 (Nat.le_trans z.2.1 l2) (z.2.trans x2) ?_
    rw [a2, z.1, List.take_of_length_le (Nat.le_refl _)]
  · have e1 : js[i]? = some js[i] := List.getElem?_eq_getElem l
    have e0 : (js.map f)[i]? = some (f js[i]) := by rw [List.getElem?_map, e1]; rfl
    have e' : (js.map f).getD i .non = f js[i] := by simp [List.getD, e0]
    rw [e']
    refine ⟨by rw [gv h1 z.2, e0], ?_⟩
    obtain ⟨r1, et, q⟩ := is js[i] (List.getElem_mem l) h1 z.2
    refine ⟨r1, et, wp_use q (fun x h2 q => ?_) (fun _ _ _ z => z)⟩
    have tk : js.take (i + 1) = js.take i ++ [js[i]] := by rw [List.take_succ, e1]; rfl
    unfold Tr at q ⊢
    match e3 : truth x h2 with
    | none => rw [e3] at q; exact q
    | some k =>
      rw [e3] at q
      obtain ⟨rfl, x2, q⟩ := q
      show Br (p js[i]) _ _
      refine br_s (fun c => ?_) (fun c => ?_)
      · refine wp_use (q c) (fun y h3 q => ?_) (fun _ _ _ z => z)
        obtain ⟨rfl, x3⟩ := q
        refine ⟨?_, ?_, (z.2.trans x2).trans x3⟩
        · rw [z.1, List.length_map]
          refine Nat.lt_of_le_of_lt (List.length_filter_le _ _) ?_
          rw [List.length_take]; unfold sizeLine; omega
        · rw [z.1, tk, List.filter_append, List.map_append]; simp [c]
      · refine ⟨?_, z.2.trans x2⟩
        rw [z.1, tk, List.filter_append, List.map_append]; simp [c]
/-- .. that takes all -/
theorem wp_mapF {α : Type} {s : Src} {vs : List Nat} {e : EX} (f : α → D) (js : List α) (v : α → D) (gv : Gives s h (js.map f)) (hl : js.length < 1000000)
    (is : ∀ a ∈ js, ∀ h1, Ext [] h h1 → ∃ r1, tgt vs (f a) r = some r1 ∧ WP (e r1 h1) (fun y h3 => y = v a ∧ Ext [] h1 h3) noE)
    (q : ∀ n h2, h.length ≤ n → Ext [] h h2 → h2[n]? = some (.lst (js.map v)) → Q (.ref n) h2) :
    WP (compX s vs (eC (.bl true)) e fuelN 0 [] r h) (NewL Q) E := by
  refine wp_compF f js (fun _ => true) v gv hl ?_ ?_
  · intro a m h1 x1
    obtain ⟨r1, e1, w⟩ := is a m h1 x1
    exact ⟨r1, e1, wp_eC ⟨rfl, Ext.rfl', fun _ => w⟩⟩
  · intro n h2 l x a
    rw [List.filter_eq_self.2 (fun _ _ => rfl)] at a
    exact q n h2 l x a
/-! t.index(x) -/
def TupAt (x : D) (P : List D → Prop) : Prop := ∃ xs, x = .tup xs ∧ (strsD xs).isSome = true ∧ P xs
theorem strs_row : ∀ cs : List W, strsD (rowD cs) = some (cs.map wd)
  | [] => rfl
  | c :: cs => by
    show (strsD (rowD cs)).map (wd c :: ·) = _
    rw [strs_row cs]; rfl
theorem tupat {cs : List W} {P : List D → Prop} (p : P (rowD cs)) : TupAt (.tup (rowD cs)) P := ⟨_, rfl, by rw [strs_row]; rfl, p⟩
theorem wp_eTM {op : D → List D → LH → R D} {o : EX} {a : AX} (q : WP (o r h) (fun x h1 => TupAt x fun xs => WP (a r h1) (fun ds h2 => WP (op (.tup xs) ds h2) Q E) E) E) : WP (eTM op o a r h) Q E :=
  wp_bind (wp_use q (fun x h1 z => by
    obtain ⟨xs, rfl, e, z⟩ := z
    simp only [if_pos e]; exact wp_bind z) (fun _ _ _ z => z))
theorem find_row {c : W} : ∀ {cs : List W}, (cs.map wd).findIdx? (fun y => decide (y = wd c)) = if c ∈ cs then some (cs.idxOf c) else none
  | [] => by simp
  | a :: cs => by
    have ih := find_row (c := c) (cs := cs)
    rw [List.map_cons, List.findIdx?_cons, wd_eq]
    by_cases e : a = c
    · subst e; simp
    · have e2 : ¬ c = a := fun z => e z.symm
      rw [decide_eq_false e]
      simp only [Bool.false_eq_true, if_false, List.mem_cons, e2, false_or]
      rw [ih]
      by_cases m : c ∈ cs
      · simp only [if_pos m, Option.map_some, List.idxOf_cons]
        have : (a == c) = false := by simpa using e
        rw [this]; rfl
      · simp only [if_neg m, Option.map_none]
theorem wp_tupIx {c : W} {cs : List W} (m : c ∈ cs) (q : Q (.int (cs.idxOf c : Nat)) h) : WP (mTupIx (.tup (rowD cs)) [.str (wd c)] h) Q E := by
  simp only [mTupIx, strs_row, find_row, if_pos m]; exact q
theorem atI_last0 {xs : List D} {d : D} (e : xs.getLast? = some d) : L2.atI xs (-1) = some d := by
  have ne : xs ≠ [] := fun z => by subst z; exact nomatch e
  have l : 0 < xs.length := List.length_pos_iff.2 ne
  unfold L2.atI L2.ixN
  rw [if_neg (by omega), if_pos (by omega)]
  have : (-1 + (xs.length : Int)).toNat = xs.length - 1 := by omega
  rw [this, Option.bind_some, ← List.getLast?_eq_getElem?]; exact e
theorem row_last {cs : List W} {c : W} (e : cs.getLast? = some c) : (rowD cs).getLast? = some (.str (wd c)) := by
  unfold rowD; rw [List.getLast?_map, e]; rfl
theorem row_head {cs : List W} {c : W} (e : cs.head? = some c) : (rowD cs)[0]? = some (.str (wd c)) := by
  rw [row_at]; cases cs with
  | nil => exact nomatch e
  | cons a r => simp at e; subst e; rfl
theorem some_last {cs : List W} {c : W} (m : c ∈ cs) : ∃ d, cs.getLast? = some d := by
  cases e : cs.getLast? with
  | some d => exact ⟨d, rfl⟩
  | none => rw [List.getLast?_eq_none_iff] at e; subst e; exact nomatch m
theorem some_head {cs : List W} (m : ¬ cs = []) : ∃ d, cs.head? = some d := by
  cases cs with
  | nil => exact absurd rfl m
  | cons a r => exact ⟨a, rfl⟩
theorem wp_lastW {c : W} {cs : List W} (m : c ∈ cs) (q : ∀ d, cs.getLast? = some d → Q (.str (wd d)) h) : WP (oIx (.tup (rowD cs)) (.int (-1)) h) Q E := by
  obtain ⟨d, e⟩ := some_last m
  exact wp_ix rfl (atI_last0 (row_last e)) (q d e)
theorem wp_headW {cs : List W} (m : ¬ cs = []) (q : ∀ d, cs.head? = some d → Q (.str (wd d)) h) : WP (oIx (.tup (rowD cs)) (.int 0) h) Q E := by
  obtain ⟨d, e⟩ := some_head m
  exact wp_ix (i := ((0 : Nat) : Int)) rfl (L2.atI_nat (row_head e)) (q d e)
/-! dicts -/
theorem valD_put (kvs : List (Ky × D)) (k j : Ky) (v : D) : valD (putD kvs k v) j = if j = k then some v else valD kvs j := by
  have snoc : ∀ kvs : List (Ky × D), (kvs.any fun kv => decide (kv.1 = k)) = false → valD (kvs ++ [(k, v)]) j = if j = k then some v else valD kvs j := by
    intro kvs
    induction kvs with
    | nil => intro _; by_cases e : k = j <;> simp [valD, List.find?_cons, e, eq_comm]
    | cons p r ih =>
      intro a
      rw [List.any_cons, Bool.or_eq_false_iff] at a
      have ih := ih a.2
      have n : ¬ p.1 = k := by simpa using a.1
      by_cases e : p.1 = j
      · have : ¬ j = k := fun z => n (e.trans z)
        simp [valD, List.find?_cons, e, this]
      · have : valD (p :: (r ++ [(k, v)])) j = valD (r ++ [(k, v)]) j := by simp [valD, List.find?_cons, e]
        rw [List.cons_append, this, ih]
        have : valD (p :: r) j = valD r j := by simp [valD, List.find?_cons, e]
        rw [this]
  have rep : ∀ kvs : List (Ky × D), (kvs.any fun kv => decide (kv.1 = k)) = true → valD (kvs.map fun kv => if kv.1 = k then (kv.1, v) else kv) j = if j = k then some v else valD kvs j := by
    intro kvs
    induction kvs with
    | nil => intro a; simp at a
    | cons p r ih =>
      intro a
      by_cases n : p.1 = k
      · by_cases e : k = j
        · subst e; simp [valD, List.find?_cons, n]
        · have e' : ¬ j = k := fun z => e z.symm
          have e2 : ¬ p.1 = j := fun z => e (n.symm.trans z)
          rw [List.map_cons, if_pos n, if_neg e']
          have t1 : valD ((p.1, v) :: r.map fun kv => if kv.1 = k then (kv.1, v) else kv) j = valD (r.map fun kv => if kv.1 = k then (kv.1, v) else kv) j := by simp [valD, List.find?_cons, e2]
          have t2 : valD (p :: r) j = valD r j := by simp [valD, List.find?_cons, e2]
          rw [t1, t2]
          by_cases b : (r.any fun kv => decide (kv.1 = k)) = true
          · rw [ih b, if_neg e']
          · have : (r.map fun kv => if kv.1 = k then (kv.1, v) else kv) = r := by
              rw [List.map_congr_left (g := id)]
              · simp
              · intro kv m
                have : ¬ kv.1 = k := fun z => b (List.any_eq_true.2 ⟨kv, m, by simpa using z⟩)
                simp [this]
            rw [this]
      · rw [List.any_cons, decide_eq_false n, Bool.false_or] at a
        have ih := ih a
        rw [List.map_cons, if_neg n]
        by_cases e : p.1 = j
        · have : ¬ j = k := fun z => n (e.trans z)
          simp [valD, List.find?_cons, e, this]
        · have t1 : valD (p :: r.map fun kv => if kv.1 = k then (kv.1, v) else kv) j = valD (r.map fun kv => if kv.1 = k then (kv.1, v) else kv) j := by simp [valD, List.find?_cons, e]
          have t2 : valD (p :: r) j = valD r j := by simp [valD, List.find?_cons, e]
          rw [t1, t2, ih]
  unfold putD
  split
  · rename_i a; exact rep kvs a
  · rename_i a; exact snoc kvs (Bool.eq_false_iff.mpr a)
theorem len_put (kvs : List (Ky × D)) (k : Ky) (v : D) : (putD kvs k v).length ≤ kvs.length + 1 := by
  unfold putD
  split
  · simp
  · simp
theorem len_merge : ∀ (more kvs : List (Ky × D)), (mergeD kvs more).length ≤ kvs.length + more.length
  | [], kvs => by show kvs.length ≤ _; simp
  | p :: more, kvs => by
    have h1 := len_merge more (putD kvs p.1 p.2)
    have h2 := len_put kvs p.1 p.2
    show (mergeD (putD kvs p.1 p.2) more).length ≤ _
    rw [List.length_cons]; omega
theorem len_merge0 (kvs : List (Ky × D)) : (mergeD [] kvs).length ≤ kvs.length := by
  have := len_merge kvs []; simpa using this
theorem wp_dg {n : Nat} {x : Str} {kvs : List (Ky × D)} {d : D} (e : h[n]? = some (.dct kvs)) (k : valD kvs (.inr x) = some d) (q : Q d h) : WP (oDg (.ref n) (.str x) h) Q E := by
  simp only [oDg, dctR, e, keyD, k]; exact q
theorem wp_bDict {n : Nat} {kvs : List (Ky × D)} (e : h[n]? = some (.dct kvs)) (q : ∀ n h1, h.length ≤ n → Ext [] h h1 → h1[n]? = some (.dct kvs) → Q (.ref n) h1) : WP (bDict [.ref n] h) Q E := by
  simp only [bDict, dctR, e]; exact wp_new q
theorem wp_eDnew (q : ∀ n h1, h.length ≤ n → Ext [] h h1 → h1[n]? = some (.dct []) → Q (.ref n) h1) : WP (eDnew r h) Q E := wp_new q
def Pairs (ps : List (EX × EX)) (r : LS) (h : LH) (P : List (Ky × D) → LH → Prop) (E : EP) : Prop := WP (pairsX ps r h) P E
def KeyAt (x : D) (P : Ky → Prop) : Prop := ∃ k, keyD x = some k ∧ P k
theorem keyat_s {x : Str} {P : Ky → Prop} (p : P (.inr x)) : KeyAt (.str x) P := ⟨_, rfl, p⟩
theorem pairs_nil {P : List (Ky × D) → LH → Prop} (p : P [] h) : Pairs [] r h P E := p
theorem pairs_cons {a b : EX} {ps : List (EX × EX)} {P : List (Ky × D) → LH → Prop} (p : WP (a r h) (fun x h1 => WP (b r h1) (fun y h2 => KeyAt x fun k => Pairs ps r h2 (fun kvs h3 => P ((k, y) :: kvs) h3) E) E) E) : Pairs ((a, b) :: ps) r h P E :=
  wp_bind (wp_use p (fun x h1 z => wp_bind (wp_use z (fun y h2 z => by
    obtain ⟨k, e, z⟩ := z
    simp only [e]; exact wp_bind z) (fun _ _ _ z => z))) (fun _ _ _ z => z))
theorem wp_eDisp {ps : List (EX × EX)} (q : ∀ n h0, h.length ≤ n → Ext [] h h0 → h0[n]? = some (.dct []) → Pairs ps r h0 (fun kvs h1 => Need (kvs.length ≤ 15) (h1[n]? = some (.dct []) ∧ ∀ h2, Ext [n] h1 h2 → h2[n]? = some (.dct (mergeD [] kvs)) → (mergeD [] kvs).length ≤ kvs.length → Q (.ref n) h2)) E) : WP (eDisp ps r h) Q E := by
  have q0 := q h.length (h ++ [.dct []]) (Nat.le_refl _) ext_push at_push
  unfold Pairs at q0
  refine wp_bind (wp_use q0 (fun kvs h1 z => ?_) (fun _ _ _ z => z))
  obtain ⟨l, e, q⟩ := z
  simp only [e, if_pos l]
  exact q _ ext_set (at_set e) (len_merge0 kvs)
def DputAt (d x y : D) (r : LS) (h : LH) (N : NP) : Prop := ∃ n s kvs, x = .ref n ∧ y = .str s ∧ h[n]? = some (.dct kvs) ∧ kvs.length < sizeLine ∧ ∀ h1, Ext [n] h h1 → h1[n]? = some (.dct (putD kvs (.inr s) d)) → (putD kvs (.inr s) d).length ≤ kvs.length + 1 → N r h1
theorem lt_line {n : Nat} (l : n ≤ 10000) : n < sizeLine := by unfold sizeLine; omega
/-! defs as values -/
def FnAt (x : D) (P : Str → Prop) : Prop := ∃ n, x = .fn n ∧ P n
theorem fnat {n : Str} {P : Str → Prop} (p : P n) : FnAt (.fn n) P := ⟨n, rfl, p⟩
theorem wp_eCallV {tab : Str → Option KF} {o : EX} {a : AX} (q : WP (o r h) (fun x h1 => FnAt x fun n => ∃ op, tab n = some op ∧ WP (a r h1) (fun ds h2 => WP (op ds [] h2) Q E) E) E) : WP (eCallV tab o a r h) Q E :=
  wp_bind (wp_use q (fun x h1 z => by
    obtain ⟨n, rfl, op, e, z⟩ := z
    simp only [e]; exact wp_bind z) (fun _ _ _ z => z))
end
end Ev

set_option Elab.async false
set_option linter.all false
set_option maxRecDepth 100000
set_option maxHeartbeats 4000000
namespace Lw
open PySem PySem.Spec PyProof.Rows L2 Py
def top (i : Nat) : Stmt := PySem.Challenge.pw_chargeways_k24_books_as_strict_and_equal.main.body.getD i (.Pass ⟨0, 0, 0, 0⟩)
abbrev s_are_words : Stmt := top 35
abbrev s_are_tests_ahead : Stmt := top 37
abbrev s_is_take : Stmt := top 38
abbrev s_is_behind : Stmt := top 36
abbrev s_is_give : Stmt := top 39
abbrev s_is_move : Stmt := top 40
abbrev s_is_lift : Stmt := top 41
abbrev s_is_row : Stmt := top 42
abbrev s_want_word : Stmt := top 45
abbrev s_are_holds : Stmt := top 43
abbrev s_holds_in_sequence : Stmt := top 46
abbrev s_is_integer : Stmt := top 2
abbrev s_want_batch : Stmt := top 47
abbrev s_Book___init__ : Stmt := inClass (top 48) 1
abbrev s__law_book : Stmt := top 63
abbrev s_Book_others : Stmt := inClass (top 48) 11
abbrev s_Book_is_as_strict : Stmt := inClass (top 48) 12
abbrev s_Book___eq__ : Stmt := inClass (top 48) 13
abbrev s__law_is_as_strict : Stmt := top 66
abbrev s__law_two_right : Stmt := top 67
abbrev s__law_known_right : Stmt := top 70
abbrev s__law_draw : Stmt := top 51
abbrev s__law_pick : Stmt := top 52
abbrev s__law_sequences : Stmt := top 53
abbrev s__law_is_ahead : Stmt := top 54
abbrev s__law_is_take : Stmt := top 55
abbrev s__law_takes : Stmt := top 58
abbrev s__law_is_give : Stmt := top 56
abbrev s__law_gives : Stmt := top 59
abbrev s__law_is_move : Stmt := top 57
abbrev s__law_moves : Stmt := top 60
abbrev s__law_lifts : Stmt := top 61
abbrev s__law_any : Stmt := top 62
abbrev s__law_exchanged : Stmt := top 64
abbrev s__law_beside : Stmt := top 65
abbrev s_Book_holds : Stmt := inClass (top 48) 4
abbrev s_Book___repr__ : Stmt := inClass (top 48) 14
abbrev s__law_alone_right : Stmt := top 68
abbrev s__law_right : Stmt := top 69
abbrev s__law_pot : Stmt := top 50
abbrev s_law : Stmt := top 71
def ar_Book___init___take_give_move_lift_fails_shared_holds_batch_settles {α : Type} : List α → List α → List α
  | [s], [x0, x1, x2, x3, x4, x5, x6, x7, x8] => [s, x0, x1, x2, x3, x4, x5, x6, x7, x8]
  | _, _ => []
def ar_Book_is_as_strict_other {α : Type} : List α → List α → List α
  | [s], [x0] => [s, x0]
  | _, _ => []
/-! ### the program as combinators -/
abbrev k_FAILS : D := (.tup (rowD [9, 10, 11]))
abbrev k_GIVE_WORDS : D := (.tup (rowD [4, 5, 6]))
abbrev k_HOLDING : D := (.tup (rowD [12, 13, 14, 15]))
abbrev k_LIFTS : D := (.tup [(.tup []), (.tup (rowD [7])), (.tup (rowD [5])), (.tup (rowD [7, 5])), (.tup (rowD [5, 7])), (.tup (rowD [8]))])
abbrev k_MOVE_WORDS : D := (.tup (rowD [4, 0, 1, 2, 7, 5]))
abbrev k_TAKE_WORDS : D := (.tup (rowD [0, 1, 2, 3]))
abbrev k_TESTS : D := (.tup (rowD [0, 2]))
def is0 : Nat → Option Bool
  | 0 => some true
  | _ => none
def b_are_words : SX := (sSeq (sIf (eOr (eNot (eB (eIsi [.tuple] (eV 0)))) (eNot (eB (eA bAll (aCons (eComp [3] (iSeq (eV 0)) (eC (.bl true)) (eAndB (eIsi [.str] (eV 3)) (e2 (oIn false) (eV 3) (eV 1)))) aNil))))) (sSeq (sRet (eC (.bl false))) sNil) sNil) (sSeq (sRet (eA bAll (aCons (eComp [2, 3] (Py.iEnum 0 (eV 0)) (eC (.bl true)) (e2 (oIn true) (eV 3) (eSl (eV 0) pNo (pSome (eV 2))))) aNil))) sNil))
def f_are_words : CF := runF 2 2 b_are_words
def b_are_tests_ahead : SX := (sSeq (sRet (eOrB (e2 (oIn true) (eV 1) (eV 0)) (eA bAll (aCons (eComp [2] (iSeq (eC k_TESTS)) (e2 (oIn false) (eV 2) (eV 0)) (e2 oLt (eTM mTupIx (eV 0) (aCons (eV 2) aNil)) (eTM mTupIx (eV 0) (aCons (eV 1) aNil)))) aNil)))) sNil)
def f_are_tests_ahead : CF := runF 2 1 b_are_tests_ahead
def b_is_take : SX := (sSeq (sIf (eOr (eNot (eB (eCall (opF 2 0 bd0 f_are_words) (aCons (eV 0) (aCons (eC k_TAKE_WORDS) aNil)) aNil))) (eOr (e2 (oIn true) (eC (.str (wd 3))) (eV 0)) (eNot (eB (eCall (opF 2 0 bd0 f_are_tests_ahead) (aCons (eV 0) (aCons (eC (.str (wd 3))) aNil)) aNil))))) (sSeq (sRet (eC (.bl false))) sNil) sNil) (sSeq (sRet (eIf (e2 (oIn true) (eC (.str (wd 2))) (eV 0)) (e2 (oIn false) (eC (.str (wd 1))) (eV 0)) (eAndB (e2 (oIn true) (eC (.str (wd 0))) (eV 0)) (e2 (oIn true) (eC (.str (wd 1))) (eV 0))))) sNil))
def f_is_take : CF := runF 1 0 b_is_take
def b_is_behind : SX := (sSeq (sRet (eOrB (e2 (oIn true) (eV 1) (eV 0)) (eAndB (e2 (oIn false) (eV 2) (eV 0)) (e2 oLt (eTM mTupIx (eV 0) (aCons (eV 2) aNil)) (eTM mTupIx (eV 0) (aCons (eV 1) aNil)))))) sNil)
def f_is_behind : CF := runF 3 0 b_is_behind
def b_is_give : SX := (sSeq (sRet (eAndB (eCall (opF 2 0 bd0 f_are_words) (aCons (eV 0) (aCons (eC k_GIVE_WORDS) aNil)) aNil) (eAndB (e2 (oIn false) (eC (.str (wd 6))) (eV 0)) (eCall (opF 3 0 bd0 f_is_behind) (aCons (eV 0) (aCons (eC (.str (wd 5))) (aCons (eC (.str (wd 4))) aNil))) aNil)))) sNil)
def f_is_give : CF := runF 1 0 b_is_give
def b_is_move : SX := (sSeq (sIf (eNot (eB (eCall (opF 2 0 bd0 f_are_words) (aCons (eV 0) (aCons (eC k_MOVE_WORDS) aNil)) aNil))) (sSeq (sRet (eC (.bl false))) sNil) sNil) (sSeq (sIf (e2 (oEq false) (eA bLen (aCons (eV 0) aNil)) (eC (.int 0))) (sSeq (sRet (eC (.bl true))) sNil) sNil) (sSeq (sIf (eOr (e2 (oIn true) (eC (.str (wd 7))) (eV 0)) (eAnd (e2 (oIn false) (eC (.str (wd 2))) (eV 0)) (eOr (e2 (oIn false) (eC (.str (wd 0))) (eV 0)) (e2 (oIn false) (eC (.str (wd 1))) (eV 0))))) (sSeq (sRet (eC (.bl false))) sNil) sNil) (sSeq (sRet (eAndB (eCall (opF 3 0 bd0 f_is_behind) (aCons (eV 0) (aCons (eC (.str (wd 5))) (aCons (eC (.str (wd 4))) aNil))) aNil) (eAndB (eCall (opF 2 0 bd0 f_are_tests_ahead) (aCons (eV 0) (aCons (eC (.str (wd 7))) aNil)) aNil) (eCall (opF 2 0 bd0 f_are_tests_ahead) (aCons (eV 0) (aCons (eC (.str (wd 5))) aNil)) aNil)))) sNil))))
def f_is_move : CF := runF 1 0 b_is_move
def b_is_lift : SX := (sSeq (sRet (eAndB (eCall (opF 2 0 bd0 f_are_words) (aCons (eV 0) (aCons (eTup (aCons (eC (.str (wd 7))) (aCons (eC (.str (wd 5))) (aCons (eC (.str (wd 8))) aNil)))) aNil)) aNil) (e2 (oInDp false) (eV 0) (eC k_LIFTS)))) sNil)
def f_is_lift : CF := runF 1 0 b_is_lift
def b_is_row : SX := (sSeq (sIf (e2 (oEq false) (eV 0) (eC (.str (wd 12)))) (sSeq (sRet (eCall (opF 1 0 bd0 f_is_take) (aCons (eV 1) aNil) aNil)) sNil) sNil) (sSeq (sIf (e2 (oEq false) (eV 0) (eC (.str (wd 13)))) (sSeq (sRet (eCall (opF 1 0 bd0 f_is_give) (aCons (eV 1) aNil) aNil)) sNil) sNil) (sSeq (sRet (eIf (e2 (oEq false) (eV 0) (eC (.str (wd 14)))) (eCall (opF 1 0 bd0 f_is_move) (aCons (eV 1) aNil) aNil) (eCall (opF 1 0 bd0 f_is_lift) (aCons (eV 1) aNil) aNil))) sNil)))
def f_is_row : CF := runF 2 0 b_is_row
def b_want_word : SX := (sSeq (sIf (eNot (eB (eV 2))) (sSeq (fun _ _ => .stuck) sNil) sNil) sNil)
def f_want_word : CF := runF 3 0 b_want_word
def b_are_holds : SX := (sSeq (sRet (eAndB (eIsi [.list, .tuple] (eV 0)) (eCall (opF 2 0 bd0 f_are_words) (aCons (eA bTuple (aCons (eV 0) aNil)) (aCons (eC k_HOLDING) aNil)) aNil))) sNil)
def f_are_holds : CF := runF 1 0 b_are_holds
def b_holds_in_sequence : SX := (sSeq (sIf (eNot (eB (eCall (opF 1 0 bd0 f_are_holds) (aCons (eV 0) aNil) aNil))) (sSeq (fun _ _ => .stuck) sNil) sNil) (sSeq (sRet (eA bTuple (aCons (eComp [1] (iSeq (eC k_HOLDING)) (e2 (oIn false) (eV 1) (eV 0)) (eV 1)) aNil))) sNil))
def f_holds_in_sequence : CF := runF 1 1 b_holds_in_sequence
def b_is_integer : SX := (sSeq (sRet (eAndB (eIsi [.int] (eV 0)) (eNotB (eIsi [.bool] (eV 0))))) sNil)
def f_is_integer : CF := runF 1 0 b_is_integer
def b_want_batch : SX := (sSeq (sIf (eOr (eNot (eB (eCall (opF 1 0 bd0 f_is_integer) (aCons (eV 0) aNil) aNil))) (eNot (eChain oLe oLe (eC (.int 1)) (eV 0) (eC (.int 50))))) (sSeq (fun _ _ => .stuck) sNil) sNil) sNil)
def f_want_batch : CF := runF 1 0 b_want_batch
def b_Book___init__ : SX := (sSeq (Py.sFld 0 0 (eV 0) (eDisp [((eC (.str (wd 12))), (eV 1)), ((eC (.str (wd 13))), (eV 2)), ((eC (.str (wd 14))), (eV 3)), ((eC (.str (wd 15))), (eV 4))])) (sSeq (sFor (iSeq (eC k_HOLDING)) (gN 10) (sSeq (sIf (eNot (eB (eCall (opF 2 0 bd0 f_is_row) (aCons (eV 10) (aCons (e2 oDg (eFld 0 0 (eV 0)) (eV 10)) aNil)) aNil))) (sSeq (fun _ _ => .stuck) sNil) sNil) sNil)) (sSeq (sE (eCall (opF 3 0 bd0 f_want_word) (aCons (eC (.str (wd 18))) (aCons (eV 5) (aCons (eAndB (eIsi [.str] (eV 5)) (e2 (oIn false) (eV 5) (eC k_FAILS))) aNil))) aNil)) (sSeq (sE (eCall (opF 3 0 bd0 f_want_word) (aCons (eC (.str (wd 19))) (aCons (eV 6) (aCons (eIsi [.bool] (eV 6)) aNil))) aNil)) (sSeq (Py.sFld 0 1 (eV 0) (eV 5)) (sSeq (Py.sFld 0 2 (eV 0) (eV 6)) (sSeq (Py.sFld 0 3 (eV 0) (eCall (opF 1 0 bd0 f_holds_in_sequence) (aCons (eV 7) aNil) aNil)) (sSeq (sE (eCall (opF 1 0 bd0 f_want_batch) (aCons (eV 8) aNil) aNil)) (sSeq (sE (eCall (opF 3 0 bd0 f_want_word) (aCons (eC (.str "settles")) (aCons (eV 9) (aCons (eIsi [.bool] (eV 9)) aNil))) aNil)) (sSeq (Py.sFld 0 4 (eV 0) (eV 8)) (sSeq (Py.sFld 0 5 (eV 0) (eV 9)) (sSeq (sIf (eAnd (e2 oGt (eV 8) (eC (.int 1))) (e2 (oEq true) (e2 oIx (eV 1) (e1 oNeg (eC (.int 1)))) (eC (.str (wd 3))))) (sSeq (fun _ _ => .stuck) sNil) sNil) (sSeq (sIf (eAnd (eNot (eB (eV 6))) (eAnd (e2 (oEq true) (eV 3) (eTup aNil)) (e2 (oEq true) (e2 oIx (eV 3) (eC (.int 0))) (eC (.str (wd 4)))))) (sSeq (fun _ _ => .stuck) sNil) sNil) sNil)))))))))))))
def f_Book___init__ : CF := runF 10 1 b_Book___init__
def b__law_book : SX := (sSeq (sRet (eCall (opM 0 0 9 (fun a b => ar_Book___init___take_give_move_lift_fails_shared_holds_batch_settles a b) f_Book___init__) aNil (aCons (e2 oDg (eV 0) (eC (.str (wd 12)))) (aCons (e2 oDg (eV 0) (eC (.str (wd 13)))) (aCons (e2 oDg (eV 0) (eC (.str (wd 14)))) (aCons (e2 oDg (eV 0) (eC (.str (wd 15)))) (aCons (e2 oDg (eV 0) (eC (.str (wd 18)))) (aCons (e2 oDg (eV 0) (eC (.str (wd 19)))) (aCons (e2 oDg (eV 0) (eC (.str "holds"))) (aCons (e2 oDg (eV 0) (eC (.str "batch"))) (aCons (e2 oDg (eV 0) (eC (.str "settles"))) aNil))))))))))) sNil)
def f__law_book : CF := runF 1 0 b__law_book
def b_Book_others : SX := (sSeq (sRet (eLst (aStarV (eFld 0 0 (eV 0)) (aCons (eFld 0 1 (eV 0)) (aCons (eFld 0 2 (eV 0)) (aCons (eFld 0 4 (eV 0)) (aCons (eFld 0 5 (eV 0)) aNil))))))) sNil)
def f_Book_others : CF := runF 1 0 b_Book_others
def b_Book_is_as_strict : SX := (sSeq (sIf (e2 (oEq true) (eMeth 0 (opF 1 0 bd0 f_Book_others) (eV 0) aNil aNil) (eMeth 0 (opF 1 0 bd0 f_Book_others) (eV 1) aNil aNil)) (sSeq (sRet (eC (.bl false))) sNil) sNil) (sSeq (sRet (eA bAll (aCons (eComp [2] (iSeq (eFld 0 3 (eV 1))) (eC (.bl true)) (e2 (oIn false) (eV 2) (eFld 0 3 (eV 0)))) aNil))) sNil))
def f_Book_is_as_strict : CF := runF 2 1 b_Book_is_as_strict
def b_Book___eq__ : SX := (sSeq (sRet (eAndB (e1 (oIsO is0) (eV 1)) (eAndB (e2 (oEq false) (eMeth 0 (opF 1 0 bd0 f_Book_others) (eV 0) aNil aNil) (eMeth 0 (opF 1 0 bd0 f_Book_others) (eV 1) aNil aNil)) (e2 (oEq false) (eFld 0 3 (eV 0)) (eFld 0 3 (eV 1)))))) sNil)
def f_Book___eq__ : CF := runF 2 0 b_Book___eq__
def b__law_is_as_strict : SX := (sSeq (sAsg (eLst (aCons (eC (.str (wd 12))) (aCons (eC (.str (wd 13))) (aCons (eC (.str (wd 14))) (aCons (eC (.str (wd 15))) (aCons (eC (.str (wd 18))) (aCons (eC (.str (wd 19))) (aCons (eC (.str "batch")) (aCons (eC (.str "settles")) aNil))))))))) (gN 2)) (sSeq (sIf (eB (eA bAny (aCons (eComp [3] (iSeq (eV 2)) (eC (.bl true)) (e2 (oEq true) (e2 oDg (eV 0) (eV 3)) (e2 oDg (eV 1) (eV 3)))) aNil))) (sSeq (sRet (eC (.bl false))) sNil) sNil) (sSeq (sRet (eA bAll (aCons (eComp [4] (iSeq (e2 oDg (eV 1) (eC (.str "holds")))) (eC (.bl true)) (e2 (oIn false) (eV 4) (e2 oDg (eV 0) (eC (.str "holds"))))) aNil))) sNil)))
def f__law_is_as_strict : CF := runF 2 3 b__law_is_as_strict
def b__law_two_right : SX := (sSeq (sAsg (eLst (aCons (e2 (oEqO 0 f_Book___eq__ false) (eV 0) (eV 1)) (aCons (e2 (oEqO 0 f_Book___eq__ true) (eV 0) (eV 1)) (aCons (eMeth 0 (opF 2 0 bd0 f_Book_is_as_strict) (eV 0) (aCons (eV 1) aNil) aNil) (aCons (eMeth 0 (opF 1 1 (fun a b => ar_Book_is_as_strict_other a b) f_Book_is_as_strict) (eV 0) aNil (aCons (eV 1) aNil)) aNil))))) (gN 4)) (sSeq (sAsg (eCall (opF 2 0 bd0 f__law_is_as_strict) (aCons (eV 2) (aCons (eV 3) aNil)) aNil) (gN 5)) (sSeq (sRet (e2 (oEq false) (eA bRep (aCons (eV 4) aNil)) (eA bRep (aCons (eLst (aCons (e2 (oEqK false) (eV 2) (eV 3)) (aCons (e2 (oEqK true) (eV 2) (eV 3)) (aCons (eV 5) (aCons (eV 5) aNil))))) aNil)))) sNil)))
def f__law_two_right : CF := runF 4 2 b__law_two_right
def b__law_known_right : SX := (sSeq (sAsg (eDisp [((eC (.str (wd 12))), (eTup (aCons (eC (.str (wd 2))) (aCons (eC (.str (wd 3))) aNil)))), ((eC (.str (wd 13))), (eTup (aCons (eC (.str (wd 4))) (aCons (eC (.str (wd 6))) aNil)))), ((eC (.str (wd 14))), (eTup (aCons (eC (.str (wd 4))) (aCons (eC (.str (wd 7))) aNil)))), ((eC (.str (wd 15))), (eTup (aCons (eC (.str (wd 8))) aNil)))]) (gN 0)) (sSeq (sE (eUpd (eV 0) (eDisp [((eC (.str (wd 18))), (eC (.str (wd 9)))), ((eC (.str (wd 19))), (eC (.bl true))), ((eC (.str "holds")), (eTup (aCons (eC (.str (wd 12))) aNil))), ((eC (.str "batch")), (eC (.int 1))), ((eC (.str "settles")), (eC (.bl false)))]))) (sSeq (sAsg (eDisp [((eC (.str (wd 12))), (eTup (aCons (eC (.str (wd 1))) (aCons (eC (.str (wd 3))) aNil)))), ((eC (.str (wd 13))), (eTup (aCons (eC (.str (wd 6))) aNil))), ((eC (.str (wd 14))), (eTup (aCons (eC (.str (wd 4))) (aCons (eC (.str (wd 0))) (aCons (eC (.str (wd 7))) aNil))))), ((eC (.str (wd 15))), (eTup (aCons (eC (.str (wd 7))) aNil)))]) (gN 1)) (sSeq (sE (eUpd (eV 1) (eDisp [((eC (.str (wd 18))), (eC (.str (wd 10)))), ((eC (.str (wd 19))), (eC (.bl false))), ((eC (.str "holds")), (eTup (aCons (eC (.str (wd 12))) (aCons (eC (.str (wd 13))) aNil)))), ((eC (.str "batch")), (eC (.int 2))), ((eC (.str "settles")), (eC (.bl true)))]))) (sSeq (sAsg (eCall (opF 1 0 bd0 f__law_book) (aCons (eV 0) aNil) aNil) (gN 2)) (sSeq (sForK (eV 0) (gN 3) (sSeq (sAsg (eA bDict (aCons (eV 0) aNil)) (gN 4)) (sSeq (Py.sDput (eV 4) (eV 3) (e2 oDg (eV 1) (eV 3))) (sSeq (sAsg (eCall (opF 1 0 bd0 f__law_book) (aCons (eV 4) aNil) aNil) (gN 5)) (sSeq (sIf (eOr (eNot (eB (eCall (opF 4 0 bd0 f__law_two_right) (aCons (eV 2) (aCons (eV 5) (aCons (eV 0) (aCons (eV 4) aNil)))) aNil))) (eNot (eB (eCall (opF 4 0 bd0 f__law_two_right) (aCons (eV 5) (aCons (eV 2) (aCons (eV 4) (aCons (eV 0) aNil)))) aNil)))) (sSeq (sRet (eC (.bl false))) sNil) sNil) sNil))))) (sSeq (sRet (eC (.bl true))) sNil)))))))
def f__law_known_right : CF := runF 0 6 b__law_known_right
def b__law_draw : SX := (sSeq (sIf (e2 oGt (e2 oIx (eV 0) (eC (.int 0))) (eC (.int 0))) (sSeq (sAsg (eA bDivmod (aCons (e2 oIx (eV 0) (eC (.int 0))) (aCons (eV 1) aNil))) (gT 2 (gsCons (Py.gSub (eV 0) (eC (.int 0))) (gsCons (gN 2) gsNil)))) (sSeq (sRet (eV 2)) sNil)) sNil) (sSeq (sAsg (e2 oMod (eA bInt (aCons (e2 oAdd (e2 oMul (e2 oIx (eV 0) (eC (.int 1))) (eC (.int 40009))) (eC (.int 17011))) aNil)) (eC (.int 2147483549))) (Py.gSub (eV 0) (eC (.int 1)))) (sSeq (sRet (e2 oMod (eA bInt (aCons (e2 oDiv (e2 oMod (eA bInt (aCons (e2 oMul (e2 oIx (eV 0) (eC (.int 1))) (e2 oIx (eV 0) (eC (.int 1)))) aNil)) (eC (.int 2147483587))) (eC (.int 11))) aNil)) (eV 1))) sNil)))
def f__law_draw : CF := runF 2 1 b__law_draw
def b__law_pick : SX := (sSeq (sRet (e2 oIx (eV 1) (eCall (opF 2 0 bd0 f__law_draw) (aCons (eV 0) (aCons (eA bLen (aCons (eV 1) aNil)) aNil)) aNil))) sNil)
def f__law_pick : CF := runF 2 0 b__law_pick
def b__law_sequences : SX := (sSeq (sPar 2 3 (aCons (eLst (aCons (eTup aNil) aNil)) (aCons (eLst (aCons (eTup aNil) aNil)) aNil))) (sSeq (sFor (Py.iRng1 (eA bLen (aCons (eV 0) aNil))) (gN 1) (sSeq (sAsg (eLst aNil) (gN 4)) (sSeq (sFor (iSeq (eV 3)) (gN 5) (sSeq (sE (eBM mExtend (eV 4) (aCons (eComp [6] (iSeq (eV 0)) (e2 (oIn true) (eV 6) (eV 5)) (e2 oAdd (eV 5) (eTup (aCons (eV 6) aNil)))) aNil))) sNil)) (sSeq (sAsg (eV 4) (gN 3)) (sSeq (sE (eBM mExtend (eV 2) (aCons (eV 3) aNil))) sNil))))) (sSeq (sRet (eV 2)) sNil)))
def f__law_sequences : CF := runF 1 6 b__law_sequences
def b__law_is_ahead : SX := (sSeq (sRet (eOrB (e2 (oIn true) (eV 1) (eV 0)) (eOrB (e2 (oIn true) (eV 2) (eV 0)) (e2 oLt (eTM mTupIx (eV 0) (aCons (eV 1) aNil)) (eTM mTupIx (eV 0) (aCons (eV 2) aNil)))))) sNil)
def f__law_is_ahead : CF := runF 3 0 b__law_is_ahead
def b__law_is_take : SX := (sSeq (sIf (eOr (e2 (oIn true) (eC (.str (wd 3))) (eV 0)) (eOr (e2 (oEq false) (e2 (oIn false) (eC (.str (wd 2))) (eV 0)) (e2 (oIn false) (eC (.str (wd 1))) (eV 0))) (eAnd (e2 (oIn false) (eC (.str (wd 2))) (eV 0)) (e2 (oIn false) (eC (.str (wd 0))) (eV 0))))) (sSeq (sRet (eC (.bl false))) sNil) sNil) (sSeq (sIf (eAnd (e2 oGt (eV 1) (eC (.int 1))) (e2 (oEq true) (e2 oIx (eV 0) (e1 oNeg (eC (.int 1)))) (eC (.str (wd 3))))) (sSeq (sRet (eC (.bl false))) sNil) sNil) (sSeq (sRet (eAndB (eCall (opF 3 0 bd0 f__law_is_ahead) (aCons (eV 0) (aCons (eC (.str (wd 0))) (aCons (eC (.str (wd 3))) aNil))) aNil) (eCall (opF 3 0 bd0 f__law_is_ahead) (aCons (eV 0) (aCons (eC (.str (wd 2))) (aCons (eC (.str (wd 3))) aNil))) aNil))) sNil)))
def f__law_is_take : CF := runF 2 0 b__law_is_take
def b__law_takes : SX := (sSeq (sRet (eComp [1] (iSeq (eCall (opF 1 0 bd0 f__law_sequences) (aCons (eLst (aCons (eC (.str (wd 0))) (aCons (eC (.str (wd 1))) (aCons (eC (.str (wd 2))) (aCons (eC (.str (wd 3))) aNil))))) aNil) aNil)) (eB (eCall (opF 2 0 bd0 f__law_is_take) (aCons (eV 1) (aCons (eV 0) aNil)) aNil)) (eV 1))) sNil)
def f__law_takes : CF := runF 1 1 b__law_takes
def b__law_is_give : SX := (sSeq (sRet (eAndB (e2 (oIn false) (eC (.str (wd 6))) (eV 0)) (eOrB (e2 (oIn true) (eC (.str (wd 5))) (eV 0)) (eAndB (e2 (oIn false) (eC (.str (wd 4))) (eV 0)) (eCall (opF 3 0 bd0 f__law_is_ahead) (aCons (eV 0) (aCons (eC (.str (wd 4))) (aCons (eC (.str (wd 5))) aNil))) aNil))))) sNil)
def f__law_is_give : CF := runF 1 0 b__law_is_give
def b__law_gives : SX := (sSeq (sRet (eComp [0] (iSeq (eCall (opF 1 0 bd0 f__law_sequences) (aCons (eLst (aCons (eC (.str (wd 4))) (aCons (eC (.str (wd 5))) (aCons (eC (.str (wd 6))) aNil)))) aNil) aNil)) (eB (eCall (opF 1 0 bd0 f__law_is_give) (aCons (eV 0) aNil) aNil)) (eV 0))) sNil)
def f__law_gives : CF := runF 0 1 b__law_gives
def b__law_is_move : SX := (sSeq (sIf (e2 (oEq false) (eV 0) (eTup aNil)) (sSeq (sRet (eC (.bl true))) sNil) sNil) (sSeq (sIf (eOr (e2 (oIn true) (eC (.str (wd 7))) (eV 0)) (eAnd (e2 (oIn false) (eC (.str (wd 2))) (eV 0)) (eOr (e2 (oIn false) (eC (.str (wd 1))) (eV 0)) (e2 (oIn false) (eC (.str (wd 0))) (eV 0))))) (sSeq (sRet (eC (.bl false))) sNil) sNil) (sSeq (sIf (eAnd (e2 (oIn false) (eC (.str (wd 5))) (eV 0)) (eOr (e2 (oIn true) (eC (.str (wd 4))) (eV 0)) (eNot (eB (eCall (opF 3 0 bd0 f__law_is_ahead) (aCons (eV 0) (aCons (eC (.str (wd 4))) (aCons (eC (.str (wd 5))) aNil))) aNil))))) (sSeq (sRet (eC (.bl false))) sNil) sNil) (sSeq (sIf (eAnd (eNot (eB (eV 1))) (e2 (oEq true) (e2 oIx (eV 0) (eC (.int 0))) (eC (.str (wd 4))))) (sSeq (sRet (eC (.bl false))) sNil) sNil) (sSeq (sFor (iSeq (eLst (aCons (eC (.str (wd 0))) (aCons (eC (.str (wd 2))) aNil)))) (gN 2) (sSeq (sIf (eOr (eNot (eB (eCall (opF 3 0 bd0 f__law_is_ahead) (aCons (eV 0) (aCons (eV 2) (aCons (eC (.str (wd 7))) aNil))) aNil))) (eNot (eB (eCall (opF 3 0 bd0 f__law_is_ahead) (aCons (eV 0) (aCons (eV 2) (aCons (eC (.str (wd 5))) aNil))) aNil)))) (sSeq (sRet (eC (.bl false))) sNil) sNil) sNil)) (sSeq (sRet (eC (.bl true))) sNil))))))
def f__law_is_move : CF := runF 2 1 b__law_is_move
def b__law_moves : SX := (sSeq (sAsg (eLst (aCons (eC (.str (wd 4))) (aCons (eC (.str (wd 0))) (aCons (eC (.str (wd 1))) (aCons (eC (.str (wd 2))) (aCons (eC (.str (wd 7))) (aCons (eC (.str (wd 5))) aNil))))))) (gN 1)) (sSeq (sRet (eComp [2] (iSeq (eCall (opF 1 0 bd0 f__law_sequences) (aCons (eV 1) aNil) aNil)) (eB (eCall (opF 2 0 bd0 f__law_is_move) (aCons (eV 2) (aCons (eV 0) aNil)) aNil)) (eV 2))) sNil))
def f__law_moves : CF := runF 1 2 b__law_moves
def b__law_lifts : SX := (sSeq (sRet (eLst (aCons (eTup aNil) (aCons (eTup (aCons (eC (.str (wd 7))) aNil)) (aCons (eTup (aCons (eC (.str (wd 5))) aNil)) (aCons (eTup (aCons (eC (.str (wd 7))) (aCons (eC (.str (wd 5))) aNil))) (aCons (eTup (aCons (eC (.str (wd 5))) (aCons (eC (.str (wd 7))) aNil))) (aCons (eTup (aCons (eC (.str (wd 8))) aNil)) aNil)))))))) sNil)
def f__law_lifts : CF := runF 0 0 b__law_lifts
def b__law_any : SX := (sSeq (sAsg (eDisp [((eC (.str (wd 18))), (eCall (opF 2 0 bd0 f__law_pick) (aCons (eV 0) (aCons (eLst (aCons (eC (.str (wd 9))) (aCons (eC (.str (wd 10))) (aCons (eC (.str (wd 11))) aNil)))) aNil)) aNil)), ((eC (.str (wd 19))), (e2 (oEq false) (eCall (opF 2 0 bd0 f__law_draw) (aCons (eV 0) (aCons (eC (.int 2)) aNil)) aNil) (eC (.int 0))))]) (gN 1)) (sSeq (Py.sDput (eV 1) (eC (.str "batch")) (eCall (opF 2 0 bd0 f__law_pick) (aCons (eV 0) (aCons (eLst (aCons (eC (.int 1)) (aCons (eC (.int 1)) (aCons (eC (.int 2)) (aCons (e2 oAdd (eC (.int 1)) (eCall (opF 2 0 bd0 f__law_draw) (aCons (eV 0) (aCons (eC (.int 50)) aNil)) aNil)) (aCons (eC (.int 50)) aNil)))))) aNil)) aNil)) (sSeq (Py.sDput (eV 1) (eC (.str "settles")) (e2 (oEq false) (eCall (opF 2 0 bd0 f__law_draw) (aCons (eV 0) (aCons (eC (.int 2)) aNil)) aNil) (eC (.int 0)))) (sSeq (Py.sDput (eV 1) (eC (.str "holds")) (eA bTuple (aCons (eComp [2] (iSeq (eLst (aCons (eC (.str (wd 12))) (aCons (eC (.str (wd 13))) (aCons (eC (.str (wd 14))) (aCons (eC (.str (wd 15))) aNil)))))) (e2 (oEq false) (eCall (opF 2 0 bd0 f__law_draw) (aCons (eV 0) (aCons (eC (.int 2)) aNil)) aNil) (eC (.int 0))) (eV 2)) aNil))) (sSeq (Py.sDput (eV 1) (eC (.str (wd 12))) (eCall (opF 2 0 bd0 f__law_pick) (aCons (eV 0) (aCons (eCall (opF 1 0 bd0 f__law_takes) (aCons (e2 oDg (eV 1) (eC (.str "batch"))) aNil) aNil) aNil)) aNil)) (sSeq (Py.sDput (eV 1) (eC (.str (wd 13))) (eCall (opF 2 0 bd0 f__law_pick) (aCons (eV 0) (aCons (eCall (opF 0 0 bd0 f__law_gives) aNil aNil) aNil)) aNil)) (sSeq (Py.sDput (eV 1) (eC (.str (wd 14))) (eCall (opF 2 0 bd0 f__law_pick) (aCons (eV 0) (aCons (eCall (opF 1 0 bd0 f__law_moves) (aCons (e2 oDg (eV 1) (eC (.str (wd 19)))) aNil) aNil) aNil)) aNil)) (sSeq (Py.sDput (eV 1) (eC (.str (wd 15))) (eCall (opF 2 0 bd0 f__law_pick) (aCons (eV 0) (aCons (eCall (opF 0 0 bd0 f__law_lifts) aNil aNil) aNil)) aNil)) (sSeq (sRet (eV 1)) sNil)))))))))
def f__law_any : CF := runF 1 2 b__law_any
def b__law_exchanged : SX := (sSeq (sPar 3 4 (aCons (eA bDict (aCons (eV 1) aNil)) (aCons (eCall (opF 2 0 bd0 f__law_pick) (aCons (eV 0) (aCons (eLst (aCons (eC (.str (wd 13))) (aCons (eC (.str (wd 15))) (aCons (eC (.str (wd 18))) (aCons (eC (.str "settles")) (aCons (eC (.str "batch")) (aCons (eC (.str (wd 19))) (aCons (eC (.str (wd 12))) (aCons (eC (.str (wd 14))) aNil))))))))) aNil)) aNil) aNil))) (sSeq (sIf (e2 (oIn false) (eV 4) (eLst (aCons (eC (.str (wd 13))) (aCons (eC (.str (wd 15))) (aCons (eC (.str (wd 18))) (aCons (eC (.str "settles")) aNil)))))) (sSeq (Py.sDput (eV 3) (eV 4) (e2 oDg (eV 2) (eV 4))) sNil) (sSeq (sIf (e2 (oEq false) (eV 4) (eC (.str "batch"))) (sSeq (sAsg (e2 oAdd (eC (.int 1)) (eCall (opF 2 0 bd0 f__law_draw) (aCons (eV 0) (aCons (eC (.int 50)) aNil)) aNil)) (gN 5)) (sSeq (Py.sDput (eV 3) (eV 4) (eIf (e2 (oInDp false) (e2 oDg (eV 1) (eC (.str (wd 12)))) (eCall (opF 1 0 bd0 f__law_takes) (aCons (eV 5) aNil) aNil)) (eV 5) (e2 oDg (eV 1) (eV 4)))) sNil)) (sSeq (sIf (e2 (oEq false) (eV 4) (eC (.str (wd 19)))) (sSeq (sAsg (e2 (oInDp false) (e2 oDg (eV 1) (eC (.str (wd 14)))) (eCall (opF 1 0 bd0 f__law_moves) (aCons (eNotB (e2 oDg (eV 1) (eC (.str (wd 19))))) aNil) aNil)) (gN 6)) (sSeq (Py.sDput (eV 3) (eV 4) (eIf (eB (eV 6)) (eNotB (e2 oDg (eV 1) (eC (.str (wd 19))))) (e2 oDg (eV 1) (eC (.str (wd 19)))))) sNil)) (sSeq (Py.sDput (eV 3) (eV 4) (eCall (opF 2 0 bd0 f__law_pick) (aCons (eV 0) (aCons (eIf (e2 (oEq false) (eV 4) (eC (.str (wd 12)))) (eCall (opF 1 0 bd0 f__law_takes) (aCons (e2 oDg (eV 1) (eC (.str "batch"))) aNil) aNil) (eCall (opF 1 0 bd0 f__law_moves) (aCons (e2 oDg (eV 1) (eC (.str (wd 19)))) aNil) aNil)) aNil)) aNil)) sNil)) sNil)) sNil)) (sSeq (sRet (eV 3)) sNil)))
def f__law_exchanged : CF := runF 3 4 b__law_exchanged
def b__law_beside : SX := (sSeq (sPar3 2 3 4 (aCons (eA bDict (aCons (eV 1) aNil)) (aCons (eCall (opF 1 0 bd0 f__law_any) (aCons (eV 0) aNil) aNil) (aCons (eCall (opF 2 0 bd0 f__law_draw) (aCons (eV 0) (aCons (eC (.int 6)) aNil)) aNil) aNil)))) (sSeq (sIf (e2 oLt (eV 4) (eC (.int 2))) (sSeq (Py.sDput (eV 2) (eC (.str "holds")) (e2 oDg (eV 3) (eC (.str "holds")))) sNil) (sSeq (sIf (e2 (oEq false) (eV 4) (eC (.int 2))) (sSeq (Py.sDput (eV 2) (eC (.str "holds")) (eA bTuple (aCons (eComp [5] (iSeq (e2 oDg (eV 1) (eC (.str "holds")))) (e2 (oEq false) (eCall (opF 2 0 bd0 f__law_draw) (aCons (eV 0) (aCons (eC (.int 2)) aNil)) aNil) (eC (.int 0))) (eV 5)) aNil))) sNil) (sSeq (sIf (e2 oLt (eV 4) (eC (.int 5))) (sSeq (sAsg (eCall (opF 3 0 bd0 f__law_exchanged) (aCons (eV 0) (aCons (eV 1) (aCons (eV 3) aNil))) aNil) (gN 2)) sNil) sNil) sNil)) sNil)) (sSeq (sRet (eIf (eAnd (e2 (oEq false) (eV 4) (eC (.int 5))) (e2 (oEq false) (eCall (opF 2 0 bd0 f__law_draw) (aCons (eV 0) (aCons (eC (.int 2)) aNil)) aNil) (eC (.int 0)))) (eV 3) (eV 2))) sNil)))
def f__law_beside : CF := runF 2 4 b__law_beside
def b_Book_holds : SX := (sSeq (sRet (eFld 0 3 (eV 0))) sNil)
def f_Book_holds : CF := runF 1 0 b_Book_holds
def b_Book___repr__ : SX := (sSeq (sAsg (eCompI [3, 4] (eFld 0 0 (eV 0)) (eC (.bl true)) (eJoin [(eFmt (eV 3)), (eC (.str "=")), (e1 oFmtR (eV 4))])) (gN 1)) (sSeq (sAsg (eLst (aStar (eV 1) (aCons (eJoin [(eC (.str "fails=")), (e1 oFmtR (eFld 0 1 (eV 0)))]) (aCons (eJoin [(eC (.str "shared=")), (e1 oFmtR (eFld 0 2 (eV 0)))]) (aCons (eJoin [(eC (.str "holds=")), (e1 oFmtR (eFld 0 3 (eV 0)))]) aNil))))) (gN 1)) (sSeq (sAsg (eJoinL (eC (.str ", ")) (eLst (aStar (eV 1) (aCons (eJoin [(eC (.str "batch=")), (e1 oFmtR (eFld 0 4 (eV 0)))]) (aCons (eJoin [(eC (.str "settles=")), (e1 oFmtR (eFld 0 5 (eV 0)))]) aNil))))) (gN 2)) (sSeq (sRet (eJoin [(eC (.str "Book(")), (eFmt (eV 2)), (eC (.str ")"))])) sNil))))
def f_Book___repr__ : CF := runF 1 4 b_Book___repr__
def b__law_alone_right : SX := (sSeq (sAsg (eCall (opF 1 0 bd0 f__law_book) (aCons (eV 1) aNil) aNil) (gN 2)) (sSeq (sAsg (eLst (aCons (eC .non) (aCons (eC (.bl true)) (aCons (eA (bReprO 0 f_Book___repr__) (aCons (eV 0) aNil)) (aCons (e2 oDg (eV 1) (eC (.str (wd 12)))) (aCons (e2 oDg (eV 1) (eC (.str "holds"))) (aCons (eMeth 0 (opF 1 0 bd0 f_Book_holds) (eV 0) aNil aNil) (aCons eDnew (aCons (eLst (aCons (eV 0) aNil)) (aCons (eTup (aCons (eV 0) aNil)) (aCons (eV 1) aNil))))))))))) (gN 3)) (sSeq (sIf (eOr (eB (eA bAny (aCons (eComp [4] (iSeq (eV 3)) (eC (.bl true)) (eOrB (e2 (oEqO 0 f_Book___eq__ false) (eV 0) (eV 4)) (e2 (oEqR 0 f_Book___eq__) (eV 4) (eV 0)))) aNil))) (eOr (eNot (e2 (oEqO 0 f_Book___eq__ false) (eV 0) (eV 2))) (e2 (oEqO 0 f_Book___eq__ true) (eV 0) (eV 2)))) (sSeq (sRet (eC (.bl false))) sNil) sNil) (sSeq (sRet (eAndB (e1 (oIsB true) (eMeth 0 (opF 2 0 bd0 f_Book_is_as_strict) (eV 2) (aCons (eV 0) aNil) aNil)) (e1 (oIsB true) (eMeth 0 (opF 2 0 bd0 f_Book_is_as_strict) (eV 0) (aCons (eV 0) aNil) aNil)))) sNil))))
def f__law_alone_right : CF := runF 2 3 b__law_alone_right
def b__law_right : SX := (sSeq (sAsg (eLst (aCons (eCall (opF 1 0 bd0 f__law_any) (aCons (eV 0) aNil) aNil) aNil)) (gN 1)) (sSeq (sFor (Py.iRng1 (eC (.int 4))) (gN 2) (sSeq (sE (eBM mAppend (eV 1) (aCons (eCall (opF 2 0 bd0 f__law_beside) (aCons (eV 0) (aCons (e2 oIx (eV 1) (e1 oNeg (eC (.int 1)))) aNil)) aNil) aNil))) sNil)) (sSeq (sAsg (eComp [5] (iSeq (eV 1)) (eC (.bl true)) (eCall (opF 1 0 bd0 f__law_book) (aCons (eV 5) aNil) aNil)) (gN 3)) (sSeq (sFor (Py.iZip (eV 3) (eV 1)) (gT 2 (gsCons (gN 4) (gsCons (gN 5) gsNil))) (sSeq (sIf (eNot (eB (eCall (opF 2 0 bd0 f__law_alone_right) (aCons (eV 4) (aCons (eV 5) aNil)) aNil))) (sSeq (sRet (eC (.bl false))) sNil) sNil) (sSeq (sIf (eNot (eB (eA bAll (aCons (eComp [6, 7] (Py.iZip (eV 3) (eV 1)) (eC (.bl true)) (eCall (opF 4 0 bd0 f__law_two_right) (aCons (eV 4) (aCons (eV 6) (aCons (eV 5) (aCons (eV 7) aNil)))) aNil)) aNil)))) (sSeq (sRet (eC (.bl false))) sNil) sNil) sNil))) (sSeq (sRet (eC (.bl true))) sNil)))))
def f__law_right : CF := runF 1 7 b__law_right
def b__law_pot : SX := (sSeq (sAsg (e2 oAdd (e2 oMul (eC (.int 17)) (eV 1)) (eC (.int 11))) (gN 2)) (sSeq (sIf (e2 oLt (eV 1) (eA bLen (aCons (eV 0) aNil))) (sSeq (sAsg (eA bAbs (aCons (e2 oIx (eV 0) (eV 1)) aNil)) (gN 2)) sNil) sNil) (sSeq (sRet (eLst (aCons (eA bMax (aCons (eC (.int 0)) (aCons (e2 oSub (eV 2) (e2 oPow (eC (.int 10)) (eC (.int 18)))) aNil))) (aCons (e2 oAdd (e2 oMod (e2 oMul (eA bInt (aCons (e2 oAdd (e2 oMod (eA bInt (aCons (eV 2) aNil)) (eC (.int 2147483543))) (eC (.int 7))) aNil)) (e2 oPow (e2 oAdd (e2 oMul (eC (.int 2)) (eV 1)) (eC (.int 3))) (eC (.int 3)))) (eC (.int 2147483489))) (eC (.int 1))) aNil)))) sNil)))
def f__law_pot : CF := runF 2 1 b__law_pot
def b_law : SX := (sSeq (sIf (eNot (eB (eCall (opF 0 0 bd0 f__law_known_right) aNil aNil))) (sSeq (sRet (eC (.bl false))) sNil) sNil) (sSeq (sRet (eA bAll (aCons (eComp [1] (Py.iRng1 (eA bMax (aCons (eC (.int 1)) (aCons (eA bMin (aCons (eA bLen (aCons (eV 0) aNil)) (aCons (eC (.int 3)) aNil))) aNil)))) (eC (.bl true)) (eCall (opF 1 0 bd0 f__law_right) (aCons (eCall (opF 2 0 bd0 f__law_pot) (aCons (eV 0) (aCons (eV 1) aNil)) aNil) aNil) aNil)) aNil))) sNil))
def f_law : CF := runF 1 1 b_law
/-! ### names -/
def nmF : Nat → Str
  | 0 => "own_rows"
  | 1 => "own_fails"
  | 2 => "own_shared"
  | 3 => "own_holds"
  | 4 => "own_batch"
  | 5 => "own_settles"
  | _ => ""
theorem nm_inj : ∀ i, i < 6 → ∀ j, j < 6 → nmF i = nmF j → i = j := by decide +kernel
def mkG (C_Book : Addr) : Gam := ⟨fun i => match i with | 0 => C_Book | _ => 0, nmF, 6, fun i j hi hj e => nm_inj i hi j hj e, []⟩
theorem is0_ok {K : PySem.W.Frag} {C_Book : Addr} (ci : ClsI K C_Book) : ∀ c b, is0 c = some b → ClsI K ((mkG C_Book).cl c) ∧ PySem.W.kitOne K (.ref ((mkG C_Book).cl c)) (.ref C_Book) = some b := fun c b h => by
  unfold is0 at h
  split at h
  · cases h; exact ⟨ci, kit_same⟩
  · exact nomatch h
theorem nf_holds (C_Book : Addr) : NotF (mkG C_Book) "holds" := (by decide +kernel : ∀ i, i < 6 → nmF i ≠ "holds")
theorem nf_is_as_strict (C_Book : Addr) : NotF (mkG C_Book) "is_as_strict" := (by decide +kernel : ∀ i, i < 6 → nmF i ≠ "is_as_strict")
theorem nf_others (C_Book : Addr) : NotF (mkG C_Book) "others" := (by decide +kernel : ∀ i, i < 6 → nmF i ≠ "others")
theorem sc_are_words : FnScope ["value", "known", "place", "word"] ["value", "known"] (defScope s_are_words) := ⟨rfl, rfl, rfl, by decide +kernel, rfl, by decide +kernel, by decide +kernel⟩
theorem sc_are_tests_ahead : FnScope ["row", "word", "test"] ["row", "word"] (defScope s_are_tests_ahead) := ⟨rfl, rfl, rfl, by decide +kernel, rfl, by decide +kernel, by decide +kernel⟩
theorem sc_is_take : FnScope ["value"] ["value"] (defScope s_is_take) := ⟨rfl, rfl, rfl, by decide +kernel, rfl, by decide +kernel, by decide +kernel⟩
theorem sc_is_behind : FnScope ["row", "word", "other"] ["row", "word", "other"] (defScope s_is_behind) := ⟨rfl, rfl, rfl, by decide +kernel, rfl, by decide +kernel, by decide +kernel⟩
theorem sc_is_give : FnScope ["value"] ["value"] (defScope s_is_give) := ⟨rfl, rfl, rfl, by decide +kernel, rfl, by decide +kernel, by decide +kernel⟩
theorem sc_is_move : FnScope ["value"] ["value"] (defScope s_is_move) := ⟨rfl, rfl, rfl, by decide +kernel, rfl, by decide +kernel, by decide +kernel⟩
theorem sc_is_lift : FnScope ["value"] ["value"] (defScope s_is_lift) := ⟨rfl, rfl, rfl, by decide +kernel, rfl, by decide +kernel, by decide +kernel⟩
theorem sc_is_row : FnScope ["kind", "value"] ["kind", "value"] (defScope s_is_row) := ⟨rfl, rfl, rfl, by decide +kernel, rfl, by decide +kernel, by decide +kernel⟩
theorem sc_want_word : FnScope ["name", "value", "is_right"] ["name", "value", "is_right"] (defScope s_want_word) := ⟨rfl, rfl, rfl, by decide +kernel, rfl, by decide +kernel, by decide +kernel⟩
theorem sc_are_holds : FnScope ["value"] ["value"] (defScope s_are_holds) := ⟨rfl, rfl, rfl, by decide +kernel, rfl, by decide +kernel, by decide +kernel⟩
theorem sc_holds_in_sequence : FnScope ["holds", "kind"] ["holds"] (defScope s_holds_in_sequence) := ⟨rfl, rfl, rfl, by decide +kernel, rfl, by decide +kernel, by decide +kernel⟩
theorem sc_is_integer : FnScope ["value"] ["value"] (defScope s_is_integer) := ⟨rfl, rfl, rfl, by decide +kernel, rfl, by decide +kernel, by decide +kernel⟩
theorem sc_want_batch : FnScope ["value"] ["value"] (defScope s_want_batch) := ⟨rfl, rfl, rfl, by decide +kernel, rfl, by decide +kernel, by decide +kernel⟩
theorem sc_Book___init__ : FnScope ["self", "take", "give", "move", "lift", "fails", "shared", "holds", "batch", "settles", "kind"] ["self", "take", "give", "move", "lift", "fails", "shared", "holds", "batch", "settles"] (defScope s_Book___init__) := ⟨rfl, rfl, rfl, by decide +kernel, rfl, by decide +kernel, by decide +kernel⟩
theorem sc__law_book : FnScope ["_law_rules"] ["_law_rules"] (defScope s__law_book) := ⟨rfl, rfl, rfl, by decide +kernel, rfl, by decide +kernel, by decide +kernel⟩
theorem sc_Book_others : FnScope ["self"] ["self"] (defScope s_Book_others) := ⟨rfl, rfl, rfl, by decide +kernel, rfl, by decide +kernel, by decide +kernel⟩
theorem sc_Book_is_as_strict : FnScope ["self", "other", "kind"] ["self", "other"] (defScope s_Book_is_as_strict) := ⟨rfl, rfl, rfl, by decide +kernel, rfl, by decide +kernel, by decide +kernel⟩
theorem sc_Book___eq__ : FnScope ["self", "other"] ["self", "other"] (defScope s_Book___eq__) := ⟨rfl, rfl, rfl, by decide +kernel, rfl, by decide +kernel, by decide +kernel⟩
theorem sc__law_is_as_strict : FnScope ["_law_rules", "_law_mate", "_law_parts", "_law_part", "_law_sort"] ["_law_rules", "_law_mate"] (defScope s__law_is_as_strict) := ⟨rfl, rfl, rfl, by decide +kernel, rfl, by decide +kernel, by decide +kernel⟩
theorem sc__law_two_right : FnScope ["_law_one", "_law_two", "_law_rules", "_law_mate", "_law_told", "_law_is_strict"] ["_law_one", "_law_two", "_law_rules", "_law_mate"] (defScope s__law_two_right) := ⟨rfl, rfl, rfl, by decide +kernel, rfl, by decide +kernel, by decide +kernel⟩
theorem sc__law_known_right : FnScope ["_law_rules", "_law_later", "_law_made", "_law_part", "_law_mate", "_law_twin"] [] (defScope s__law_known_right) := ⟨rfl, rfl, rfl, by decide +kernel, rfl, by decide +kernel, by decide +kernel⟩
theorem sc__law_draw : FnScope ["_law_pot_here", "_law_sides", "_law_digit"] ["_law_pot_here", "_law_sides"] (defScope s__law_draw) := ⟨rfl, rfl, rfl, by decide +kernel, rfl, by decide +kernel, by decide +kernel⟩
theorem sc__law_pick : FnScope ["_law_pot_here", "_law_some"] ["_law_pot_here", "_law_some"] (defScope s__law_pick) := ⟨rfl, rfl, rfl, by decide +kernel, rfl, by decide +kernel, by decide +kernel⟩
theorem sc__law_sequences : FnScope ["_law_words", "_law_turn", "_law_found", "_law_longer", "_law_later", "_law_some", "_law_word"] ["_law_words"] (defScope s__law_sequences) := ⟨rfl, rfl, rfl, by decide +kernel, rfl, by decide +kernel, by decide +kernel⟩
theorem sc__law_is_ahead : FnScope ["_law_some", "_law_word", "_law_later"] ["_law_some", "_law_word", "_law_later"] (defScope s__law_is_ahead) := ⟨rfl, rfl, rfl, by decide +kernel, rfl, by decide +kernel, by decide +kernel⟩
theorem sc__law_is_take : FnScope ["_law_some", "_law_amount"] ["_law_some", "_law_amount"] (defScope s__law_is_take) := ⟨rfl, rfl, rfl, by decide +kernel, rfl, by decide +kernel, by decide +kernel⟩
theorem sc__law_takes : FnScope ["_law_amount", "_law_some"] ["_law_amount"] (defScope s__law_takes) := ⟨rfl, rfl, rfl, by decide +kernel, rfl, by decide +kernel, by decide +kernel⟩
theorem sc__law_is_give : FnScope ["_law_some"] ["_law_some"] (defScope s__law_is_give) := ⟨rfl, rfl, rfl, by decide +kernel, rfl, by decide +kernel, by decide +kernel⟩
theorem sc__law_gives : FnScope ["_law_some"] [] (defScope s__law_gives) := ⟨rfl, rfl, rfl, by decide +kernel, rfl, by decide +kernel, by decide +kernel⟩
theorem sc__law_is_move : FnScope ["_law_some", "_law_is_shared", "_law_word"] ["_law_some", "_law_is_shared"] (defScope s__law_is_move) := ⟨rfl, rfl, rfl, by decide +kernel, rfl, by decide +kernel, by decide +kernel⟩
theorem sc__law_moves : FnScope ["_law_is_shared", "_law_words", "_law_some"] ["_law_is_shared"] (defScope s__law_moves) := ⟨rfl, rfl, rfl, by decide +kernel, rfl, by decide +kernel, by decide +kernel⟩
theorem sc__law_lifts : FnScope [] [] (defScope s__law_lifts) := ⟨rfl, rfl, rfl, by decide +kernel, rfl, by decide +kernel, by decide +kernel⟩
theorem sc__law_any : FnScope ["_law_pot_here", "_law_found", "_law_sort"] ["_law_pot_here"] (defScope s__law_any) := ⟨rfl, rfl, rfl, by decide +kernel, rfl, by decide +kernel, by decide +kernel⟩
theorem sc__law_exchanged : FnScope ["_law_pot_here", "_law_rules", "_law_later", "_law_found", "_law_part", "_law_amount", "_law_is_other"] ["_law_pot_here", "_law_rules", "_law_later"] (defScope s__law_exchanged) := ⟨rfl, rfl, rfl, by decide +kernel, rfl, by decide +kernel, by decide +kernel⟩
theorem sc__law_beside : FnScope ["_law_pot_here", "_law_rules", "_law_found", "_law_later", "_law_way", "_law_sort"] ["_law_pot_here", "_law_rules"] (defScope s__law_beside) := ⟨rfl, rfl, rfl, by decide +kernel, rfl, by decide +kernel, by decide +kernel⟩
theorem sc_Book_holds : FnScope ["self"] ["self"] (defScope s_Book_holds) := ⟨rfl, rfl, rfl, by decide +kernel, rfl, by decide +kernel, by decide +kernel⟩
theorem sc_Book___repr__ : FnScope ["self", "told", "text", "kind", "row"] ["self"] (defScope s_Book___repr__) := ⟨rfl, rfl, rfl, by decide +kernel, rfl, by decide +kernel, by decide +kernel⟩
theorem sc__law_alone_right : FnScope ["_law_made", "_law_rules", "_law_again", "_law_odd", "_law_thing"] ["_law_made", "_law_rules"] (defScope s__law_alone_right) := ⟨rfl, rfl, rfl, by decide +kernel, rfl, by decide +kernel, by decide +kernel⟩
theorem sc__law_right : FnScope ["_law_pot_here", "_law_rows", "_law_turn", "_law_some", "_law_one", "_law_rules", "_law_two", "_law_mate"] ["_law_pot_here"] (defScope s__law_right) := ⟨rfl, rfl, rfl, by decide +kernel, rfl, by decide +kernel, by decide +kernel⟩
theorem sc__law_pot : FnScope ["_law_script", "_law_k", "_law_cell"] ["_law_script", "_law_k"] (defScope s__law_pot) := ⟨rfl, rfl, rfl, by decide +kernel, rfl, by decide +kernel, by decide +kernel⟩
theorem sc_law : FnScope ["_law_script", "_law_k"] ["_law_script"] (defScope s_law) := ⟨rfl, rfl, rfl, by decide +kernel, rfl, by decide +kernel, by decide +kernel⟩
theorem ck_of {K : PySem.W.Frag} {C : Addr} (h2 : PySem.W.isClsIn K C = true) (h3 : PySem.W.typeIn K (.ref C) = some (.type "type")) : ((PySem.W.clsIn K C).isSome && PySem.W.typeIn K (.ref C) == some (.type "type")) = true := by
  have h2' : (PySem.W.clsIn K C).isSome = true := h2
  rw [h2', h3] <;> rfl
/-! ### what the top has written -/
structure Tx (w : World) (K : PySem.W.Frag) (mg : Str → Option Value) (C_Book : Addr) : Prop where
  cls_Book : Cls K C_Book
  mg_Book : mg "Book" = some (.ref C_Book)
  ci_Book : ClsI K C_Book
  ck_Book : ((PySem.W.clsIn K C_Book).isSome && PySem.W.typeIn K (.ref C_Book) == some (.type "type")) = true
  ne_Book : PySem.W.findIn K (.ref C_Book) "__ne__" = some (some (.builtin "object.__ne__"))
  sb_Book : ((["NoneType", "bool", "int", "str", "tuple", "list", "dict"] : List String).all fun t => PySem.W.mroIn K C_Book (.type t) == some false) = true
  na_own_rows : NoAttr K C_Book "own_rows"
  na_own_fails : NoAttr K C_Book "own_fails"
  na_own_shared : NoAttr K C_Book "own_shared"
  na_own_holds : NoAttr K C_Book "own_holds"
  na_own_batch : NoAttr K C_Book "own_batch"
  na_own_settles : NoAttr K C_Book "own_settles"
  F_are_words : ∃ f fd, FunD K "are_words" "are_words" (defArgs s_are_words) (defBody s_are_words) (defScope s_are_words) [] [] f fd ∧ mg "are_words" = some (.ref f)
  F_are_tests_ahead : ∃ f fd, FunD K "are_tests_ahead" "are_tests_ahead" (defArgs s_are_tests_ahead) (defBody s_are_tests_ahead) (defScope s_are_tests_ahead) [] [] f fd ∧ mg "are_tests_ahead" = some (.ref f)
  F_is_take : ∃ f fd, FunD K "is_take" "is_take" (defArgs s_is_take) (defBody s_is_take) (defScope s_is_take) [] [] f fd ∧ mg "is_take" = some (.ref f)
  F_is_behind : ∃ f fd, FunD K "is_behind" "is_behind" (defArgs s_is_behind) (defBody s_is_behind) (defScope s_is_behind) [] [] f fd ∧ mg "is_behind" = some (.ref f)
  F_is_give : ∃ f fd, FunD K "is_give" "is_give" (defArgs s_is_give) (defBody s_is_give) (defScope s_is_give) [] [] f fd ∧ mg "is_give" = some (.ref f)
  F_is_move : ∃ f fd, FunD K "is_move" "is_move" (defArgs s_is_move) (defBody s_is_move) (defScope s_is_move) [] [] f fd ∧ mg "is_move" = some (.ref f)
  F_is_lift : ∃ f fd, FunD K "is_lift" "is_lift" (defArgs s_is_lift) (defBody s_is_lift) (defScope s_is_lift) [] [] f fd ∧ mg "is_lift" = some (.ref f)
  F_is_row : ∃ f fd, FunD K "is_row" "is_row" (defArgs s_is_row) (defBody s_is_row) (defScope s_is_row) [] [] f fd ∧ mg "is_row" = some (.ref f)
  F_want_word : ∃ f fd, FunD K "want_word" "want_word" (defArgs s_want_word) (defBody s_want_word) (defScope s_want_word) [] [] f fd ∧ mg "want_word" = some (.ref f)
  F_are_holds : ∃ f fd, FunD K "are_holds" "are_holds" (defArgs s_are_holds) (defBody s_are_holds) (defScope s_are_holds) [] [] f fd ∧ mg "are_holds" = some (.ref f)
  F_holds_in_sequence : ∃ f fd, FunD K "holds_in_sequence" "holds_in_sequence" (defArgs s_holds_in_sequence) (defBody s_holds_in_sequence) (defScope s_holds_in_sequence) [] [] f fd ∧ mg "holds_in_sequence" = some (.ref f)
  F_is_integer : ∃ f fd, FunD K "is_integer" "is_integer" (defArgs s_is_integer) (defBody s_is_integer) (defScope s_is_integer) [] [] f fd ∧ mg "is_integer" = some (.ref f)
  F_want_batch : ∃ f fd, FunD K "want_batch" "want_batch" (defArgs s_want_batch) (defBody s_want_batch) (defScope s_want_batch) [] [] f fd ∧ mg "want_batch" = some (.ref f)
  F_Book___init__ : ∃ f fd, FunD K "__init__" "Book.__init__" (defArgs s_Book___init__) (defBody s_Book___init__) (defScope s_Book___init__) [] [] f fd ∧ Mk K C_Book f
  F__law_book : ∃ f fd, FunD K "_law_book" "_law_book" (defArgs s__law_book) (defBody s__law_book) (defScope s__law_book) [] [] f fd ∧ mg "_law_book" = some (.ref f)
  F_Book_others : ∃ f fd, FunD K "others" "Book.others" (defArgs s_Book_others) (defBody s_Book_others) (defScope s_Book_others) [] [] f fd ∧ Meth K C_Book "others" f
  F_Book_is_as_strict : ∃ f fd, FunD K "is_as_strict" "Book.is_as_strict" (defArgs s_Book_is_as_strict) (defBody s_Book_is_as_strict) (defScope s_Book_is_as_strict) [] [] f fd ∧ Meth K C_Book "is_as_strict" f
  F_Book___eq__ : ∃ f fd, FunD K "__eq__" "Book.__eq__" (defArgs s_Book___eq__) (defBody s_Book___eq__) (defScope s_Book___eq__) [] [] f fd ∧ Meth K C_Book "__eq__" f
  F__law_is_as_strict : ∃ f fd, FunD K "_law_is_as_strict" "_law_is_as_strict" (defArgs s__law_is_as_strict) (defBody s__law_is_as_strict) (defScope s__law_is_as_strict) [] [] f fd ∧ mg "_law_is_as_strict" = some (.ref f)
  F__law_two_right : ∃ f fd, FunD K "_law_two_right" "_law_two_right" (defArgs s__law_two_right) (defBody s__law_two_right) (defScope s__law_two_right) [] [] f fd ∧ mg "_law_two_right" = some (.ref f)
  F__law_known_right : ∃ f fd, FunD K "_law_known_right" "_law_known_right" (defArgs s__law_known_right) (defBody s__law_known_right) (defScope s__law_known_right) [] [] f fd ∧ mg "_law_known_right" = some (.ref f)
  F__law_draw : ∃ f fd, FunD K "_law_draw" "_law_draw" (defArgs s__law_draw) (defBody s__law_draw) (defScope s__law_draw) [] [] f fd ∧ mg "_law_draw" = some (.ref f)
  F__law_pick : ∃ f fd, FunD K "_law_pick" "_law_pick" (defArgs s__law_pick) (defBody s__law_pick) (defScope s__law_pick) [] [] f fd ∧ mg "_law_pick" = some (.ref f)
  F__law_sequences : ∃ f fd, FunD K "_law_sequences" "_law_sequences" (defArgs s__law_sequences) (defBody s__law_sequences) (defScope s__law_sequences) [] [] f fd ∧ mg "_law_sequences" = some (.ref f)
  F__law_is_ahead : ∃ f fd, FunD K "_law_is_ahead" "_law_is_ahead" (defArgs s__law_is_ahead) (defBody s__law_is_ahead) (defScope s__law_is_ahead) [] [] f fd ∧ mg "_law_is_ahead" = some (.ref f)
  F__law_is_take : ∃ f fd, FunD K "_law_is_take" "_law_is_take" (defArgs s__law_is_take) (defBody s__law_is_take) (defScope s__law_is_take) [] [] f fd ∧ mg "_law_is_take" = some (.ref f)
  F__law_takes : ∃ f fd, FunD K "_law_takes" "_law_takes" (defArgs s__law_takes) (defBody s__law_takes) (defScope s__law_takes) [] [] f fd ∧ mg "_law_takes" = some (.ref f)
  F__law_is_give : ∃ f fd, FunD K "_law_is_give" "_law_is_give" (defArgs s__law_is_give) (defBody s__law_is_give) (defScope s__law_is_give) [] [] f fd ∧ mg "_law_is_give" = some (.ref f)
  F__law_gives : ∃ f fd, FunD K "_law_gives" "_law_gives" (defArgs s__law_gives) (defBody s__law_gives) (defScope s__law_gives) [] [] f fd ∧ mg "_law_gives" = some (.ref f)
  F__law_is_move : ∃ f fd, FunD K "_law_is_move" "_law_is_move" (defArgs s__law_is_move) (defBody s__law_is_move) (defScope s__law_is_move) [] [] f fd ∧ mg "_law_is_move" = some (.ref f)
  F__law_moves : ∃ f fd, FunD K "_law_moves" "_law_moves" (defArgs s__law_moves) (defBody s__law_moves) (defScope s__law_moves) [] [] f fd ∧ mg "_law_moves" = some (.ref f)
  F__law_lifts : ∃ f fd, FunD K "_law_lifts" "_law_lifts" (defArgs s__law_lifts) (defBody s__law_lifts) (defScope s__law_lifts) [] [] f fd ∧ mg "_law_lifts" = some (.ref f)
  F__law_any : ∃ f fd, FunD K "_law_any" "_law_any" (defArgs s__law_any) (defBody s__law_any) (defScope s__law_any) [] [] f fd ∧ mg "_law_any" = some (.ref f)
  F__law_exchanged : ∃ f fd, FunD K "_law_exchanged" "_law_exchanged" (defArgs s__law_exchanged) (defBody s__law_exchanged) (defScope s__law_exchanged) [] [] f fd ∧ mg "_law_exchanged" = some (.ref f)
  F__law_beside : ∃ f fd, FunD K "_law_beside" "_law_beside" (defArgs s__law_beside) (defBody s__law_beside) (defScope s__law_beside) [] [] f fd ∧ mg "_law_beside" = some (.ref f)
  F_Book_holds : ∃ f fd p, FunD K "holds" "Book.holds" (defArgs s_Book_holds) (defBody s_Book_holds) (defScope s_Book_holds) [] [] f fd ∧ PropOf K C_Book "holds" p f
  F_Book___repr__ : ∃ f fd, FunD K "__repr__" "Book.__repr__" (defArgs s_Book___repr__) (defBody s_Book___repr__) (defScope s_Book___repr__) [] [] f fd ∧ Meth K C_Book "__repr__" f
  F__law_alone_right : ∃ f fd, FunD K "_law_alone_right" "_law_alone_right" (defArgs s__law_alone_right) (defBody s__law_alone_right) (defScope s__law_alone_right) [] [] f fd ∧ mg "_law_alone_right" = some (.ref f)
  F__law_right : ∃ f fd, FunD K "_law_right" "_law_right" (defArgs s__law_right) (defBody s__law_right) (defScope s__law_right) [] [] f fd ∧ mg "_law_right" = some (.ref f)
  F__law_pot : ∃ f fd, FunD K "_law_pot" "_law_pot" (defArgs s__law_pot) (defBody s__law_pot) (defScope s__law_pot) [] [] f fd ∧ mg "_law_pot" = some (.ref f)
  F_law : ∃ f fd, FunD K "law" "law" (defArgs s_law) (defBody s_law) (defScope s_law) [] [] f fd ∧ mg "law" = some (.ref f)
  b_abs : mg "abs" = none
  b_all : mg "all" = none
  b_any : mg "any" = none
  b_bool : mg "bool" = none
  b_dict : mg "dict" = none
  b_divmod : mg "divmod" = none
  b_enumerate : mg "enumerate" = none
  b_int : mg "int" = none
  b_isinstance : mg "isinstance" = none
  b_len : mg "len" = none
  b_list : mg "list" = none
  b_max : mg "max" = none
  b_min : mg "min" = none
  b_range : mg "range" = none
  b_repr : mg "repr" = none
  b_str : mg "str" = none
  b_tuple : mg "tuple" = none
  b_zip : mg "zip" = none
  g_ADD : ∃ t, mg "ADD" = some (.str "add" t)
  g_BOTH : ∃ t, mg "BOTH" = some (.str "both" t)
  g_END : ∃ t, mg "END" = some (.str "end" t)
  g_FAILS : ∃ a, mg "FAILS" = some (.ref a) ∧ ∀ m N H, RelD K m N H k_FAILS (.ref a)
  g_GIVE : ∃ t, mg "GIVE" = some (.str "give" t)
  g_GIVE_WORDS : ∃ a, mg "GIVE_WORDS" = some (.ref a) ∧ ∀ m N H, RelD K m N H k_GIVE_WORDS (.ref a)
  g_GREATEST_BATCH : ∃ t, mg "GREATEST_BATCH" = some (.int 50 t)
  g_HOLDING : ∃ a, mg "HOLDING" = some (.ref a) ∧ ∀ m N H, RelD K m N H k_HOLDING (.ref a)
  g_HOME : ∃ t, mg "HOME" = some (.str "home" t)
  g_LIFT : ∃ t, mg "LIFT" = some (.str "lift" t)
  g_LIFTS : ∃ a, mg "LIFTS" = some (.ref a) ∧ ∀ m N H, RelD K m N H k_LIFTS (.ref a)
  g_LIVE : ∃ t, mg "LIVE" = some (.str "live" t)
  g_LOOK : ∃ t, mg "LOOK" = some (.str "look" t)
  g_MOVE : ∃ t, mg "MOVE" = some (.str "move" t)
  g_MOVE_WORDS : ∃ a, mg "MOVE_WORDS" = some (.ref a) ∧ ∀ m N H, RelD K m N H k_MOVE_WORDS (.ref a)
  g_OFF : ∃ t, mg "OFF" = some (.str "off" t)
  g_SET : ∃ t, mg "SET" = some (.str "set" t)
  g_TAKE : ∃ t, mg "TAKE" = some (.str "take" t)
  g_TAKE_WORDS : ∃ a, mg "TAKE_WORDS" = some (.ref a) ∧ ∀ m N H, RelD K m N H k_TAKE_WORDS (.ref a)
  g_TESTS : ∃ a, mg "TESTS" = some (.ref a) ∧ ∀ m N H, RelD K m N H k_TESTS (.ref a)
  g_TRY : ∃ t, mg "TRY" = some (.str "try" t)
/-! ### how arguments bind -/
section
variable {K : PySem.W.Frag}
theorem bd_are_words {f : Addr} {fd : FuncData} (F : FunD K "are_words" "are_words" (defArgs s_are_words) (defBody s_are_words) (defScope s_are_words) [] [] f fd) : Bnd K fd ["value", "known"] 2 [] bd0 := bnd_plain F rfl fun _ _ _ _ _ _ us hl => match us, hl with | [_, _], _ => rfl
theorem bd_are_tests_ahead {f : Addr} {fd : FuncData} (F : FunD K "are_tests_ahead" "are_tests_ahead" (defArgs s_are_tests_ahead) (defBody s_are_tests_ahead) (defScope s_are_tests_ahead) [] [] f fd) : Bnd K fd ["row", "word"] 2 [] bd0 := bnd_plain F rfl fun _ _ _ _ _ _ us hl => match us, hl with | [_, _], _ => rfl
theorem bd_is_take {f : Addr} {fd : FuncData} (F : FunD K "is_take" "is_take" (defArgs s_is_take) (defBody s_is_take) (defScope s_is_take) [] [] f fd) : Bnd K fd ["value"] 1 [] bd0 := bnd_plain F rfl fun _ _ _ _ _ _ us hl => match us, hl with | [_], _ => rfl
theorem bd_is_behind {f : Addr} {fd : FuncData} (F : FunD K "is_behind" "is_behind" (defArgs s_is_behind) (defBody s_is_behind) (defScope s_is_behind) [] [] f fd) : Bnd K fd ["row", "word", "other"] 3 [] bd0 := bnd_plain F rfl fun _ _ _ _ _ _ us hl => match us, hl with | [_, _, _], _ => rfl
theorem bd_is_give {f : Addr} {fd : FuncData} (F : FunD K "is_give" "is_give" (defArgs s_is_give) (defBody s_is_give) (defScope s_is_give) [] [] f fd) : Bnd K fd ["value"] 1 [] bd0 := bnd_plain F rfl fun _ _ _ _ _ _ us hl => match us, hl with | [_], _ => rfl
theorem bd_is_move {f : Addr} {fd : FuncData} (F : FunD K "is_move" "is_move" (defArgs s_is_move) (defBody s_is_move) (defScope s_is_move) [] [] f fd) : Bnd K fd ["value"] 1 [] bd0 := bnd_plain F rfl fun _ _ _ _ _ _ us hl => match us, hl with | [_], _ => rfl
theorem bd_is_lift {f : Addr} {fd : FuncData} (F : FunD K "is_lift" "is_lift" (defArgs s_is_lift) (defBody s_is_lift) (defScope s_is_lift) [] [] f fd) : Bnd K fd ["value"] 1 [] bd0 := bnd_plain F rfl fun _ _ _ _ _ _ us hl => match us, hl with | [_], _ => rfl
theorem bd_is_row {f : Addr} {fd : FuncData} (F : FunD K "is_row" "is_row" (defArgs s_is_row) (defBody s_is_row) (defScope s_is_row) [] [] f fd) : Bnd K fd ["kind", "value"] 2 [] bd0 := bnd_plain F rfl fun _ _ _ _ _ _ us hl => match us, hl with | [_, _], _ => rfl
theorem bd_want_word {f : Addr} {fd : FuncData} (F : FunD K "want_word" "want_word" (defArgs s_want_word) (defBody s_want_word) (defScope s_want_word) [] [] f fd) : Bnd K fd ["name", "value", "is_right"] 3 [] bd0 := bnd_plain F rfl fun _ _ _ _ _ _ us hl => match us, hl with | [_, _, _], _ => rfl
theorem bd_are_holds {f : Addr} {fd : FuncData} (F : FunD K "are_holds" "are_holds" (defArgs s_are_holds) (defBody s_are_holds) (defScope s_are_holds) [] [] f fd) : Bnd K fd ["value"] 1 [] bd0 := bnd_plain F rfl fun _ _ _ _ _ _ us hl => match us, hl with | [_], _ => rfl
theorem bd_holds_in_sequence {f : Addr} {fd : FuncData} (F : FunD K "holds_in_sequence" "holds_in_sequence" (defArgs s_holds_in_sequence) (defBody s_holds_in_sequence) (defScope s_holds_in_sequence) [] [] f fd) : Bnd K fd ["holds"] 1 [] bd0 := bnd_plain F rfl fun _ _ _ _ _ _ us hl => match us, hl with | [_], _ => rfl
theorem bd_is_integer {f : Addr} {fd : FuncData} (F : FunD K "is_integer" "is_integer" (defArgs s_is_integer) (defBody s_is_integer) (defScope s_is_integer) [] [] f fd) : Bnd K fd ["value"] 1 [] bd0 := bnd_plain F rfl fun _ _ _ _ _ _ us hl => match us, hl with | [_], _ => rfl
theorem bd_want_batch {f : Addr} {fd : FuncData} (F : FunD K "want_batch" "want_batch" (defArgs s_want_batch) (defBody s_want_batch) (defScope s_want_batch) [] [] f fd) : Bnd K fd ["value"] 1 [] bd0 := bnd_plain F rfl fun _ _ _ _ _ _ us hl => match us, hl with | [_], _ => rfl
theorem bd__law_book {f : Addr} {fd : FuncData} (F : FunD K "_law_book" "_law_book" (defArgs s__law_book) (defBody s__law_book) (defScope s__law_book) [] [] f fd) : Bnd K fd ["_law_rules"] 1 [] bd0 := bnd_plain F rfl fun _ _ _ _ _ _ us hl => match us, hl with | [_], _ => rfl
theorem bd_Book_others {f : Addr} {fd : FuncData} (F : FunD K "others" "Book.others" (defArgs s_Book_others) (defBody s_Book_others) (defScope s_Book_others) [] [] f fd) : Bnd K fd ["self"] 1 [] bd0 := bnd_plain F rfl fun _ _ _ _ _ _ us hl => match us, hl with | [_], _ => rfl
theorem bd_Book_is_as_strict {f : Addr} {fd : FuncData} (F : FunD K "is_as_strict" "Book.is_as_strict" (defArgs s_Book_is_as_strict) (defBody s_Book_is_as_strict) (defScope s_Book_is_as_strict) [] [] f fd) : Bnd K fd ["self", "other"] 2 [] bd0 := bnd_plain F rfl fun _ _ _ _ _ _ us hl => match us, hl with | [_, _], _ => rfl
theorem bd_Book___eq__ {f : Addr} {fd : FuncData} (F : FunD K "__eq__" "Book.__eq__" (defArgs s_Book___eq__) (defBody s_Book___eq__) (defScope s_Book___eq__) [] [] f fd) : Bnd K fd ["self", "other"] 2 [] bd0 := bnd_plain F rfl fun _ _ _ _ _ _ us hl => match us, hl with | [_, _], _ => rfl
theorem bd__law_is_as_strict {f : Addr} {fd : FuncData} (F : FunD K "_law_is_as_strict" "_law_is_as_strict" (defArgs s__law_is_as_strict) (defBody s__law_is_as_strict) (defScope s__law_is_as_strict) [] [] f fd) : Bnd K fd ["_law_rules", "_law_mate"] 2 [] bd0 := bnd_plain F rfl fun _ _ _ _ _ _ us hl => match us, hl with | [_, _], _ => rfl
theorem bd__law_two_right {f : Addr} {fd : FuncData} (F : FunD K "_law_two_right" "_law_two_right" (defArgs s__law_two_right) (defBody s__law_two_right) (defScope s__law_two_right) [] [] f fd) : Bnd K fd ["_law_one", "_law_two", "_law_rules", "_law_mate"] 4 [] bd0 := bnd_plain F rfl fun _ _ _ _ _ _ us hl => match us, hl with | [_, _, _, _], _ => rfl
theorem bd__law_known_right {f : Addr} {fd : FuncData} (F : FunD K "_law_known_right" "_law_known_right" (defArgs s__law_known_right) (defBody s__law_known_right) (defScope s__law_known_right) [] [] f fd) : Bnd K fd [] 0 [] bd0 := bnd_plain F rfl fun _ _ _ _ _ _ us hl => match us, hl with | [], _ => rfl
theorem bd__law_draw {f : Addr} {fd : FuncData} (F : FunD K "_law_draw" "_law_draw" (defArgs s__law_draw) (defBody s__law_draw) (defScope s__law_draw) [] [] f fd) : Bnd K fd ["_law_pot_here", "_law_sides"] 2 [] bd0 := bnd_plain F rfl fun _ _ _ _ _ _ us hl => match us, hl with | [_, _], _ => rfl
theorem bd__law_pick {f : Addr} {fd : FuncData} (F : FunD K "_law_pick" "_law_pick" (defArgs s__law_pick) (defBody s__law_pick) (defScope s__law_pick) [] [] f fd) : Bnd K fd ["_law_pot_here", "_law_some"] 2 [] bd0 := bnd_plain F rfl fun _ _ _ _ _ _ us hl => match us, hl with | [_, _], _ => rfl
theorem bd__law_sequences {f : Addr} {fd : FuncData} (F : FunD K "_law_sequences" "_law_sequences" (defArgs s__law_sequences) (defBody s__law_sequences) (defScope s__law_sequences) [] [] f fd) : Bnd K fd ["_law_words"] 1 [] bd0 := bnd_plain F rfl fun _ _ _ _ _ _ us hl => match us, hl with | [_], _ => rfl
theorem bd__law_is_ahead {f : Addr} {fd : FuncData} (F : FunD K "_law_is_ahead" "_law_is_ahead" (defArgs s__law_is_ahead) (defBody s__law_is_ahead) (defScope s__law_is_ahead) [] [] f fd) : Bnd K fd ["_law_some", "_law_word", "_law_later"] 3 [] bd0 := bnd_plain F rfl fun _ _ _ _ _ _ us hl => match us, hl with | [_, _, _], _ => rfl
theorem bd__law_is_take {f : Addr} {fd : FuncData} (F : FunD K "_law_is_take" "_law_is_take" (defArgs s__law_is_take) (defBody s__law_is_take) (defScope s__law_is_take) [] [] f fd) : Bnd K fd ["_law_some", "_law_amount"] 2 [] bd0 := bnd_plain F rfl fun _ _ _ _ _ _ us hl => match us, hl with | [_, _], _ => rfl
theorem bd__law_takes {f : Addr} {fd : FuncData} (F : FunD K "_law_takes" "_law_takes" (defArgs s__law_takes) (defBody s__law_takes) (defScope s__law_takes) [] [] f fd) : Bnd K fd ["_law_amount"] 1 [] bd0 := bnd_plain F rfl fun _ _ _ _ _ _ us hl => match us, hl with | [_], _ => rfl
theorem bd__law_is_give {f : Addr} {fd : FuncData} (F : FunD K "_law_is_give" "_law_is_give" (defArgs s__law_is_give) (defBody s__law_is_give) (defScope s__law_is_give) [] [] f fd) : Bnd K fd ["_law_some"] 1 [] bd0 := bnd_plain F rfl fun _ _ _ _ _ _ us hl => match us, hl with | [_], _ => rfl
theorem bd__law_gives {f : Addr} {fd : FuncData} (F : FunD K "_law_gives" "_law_gives" (defArgs s__law_gives) (defBody s__law_gives) (defScope s__law_gives) [] [] f fd) : Bnd K fd [] 0 [] bd0 := bnd_plain F rfl fun _ _ _ _ _ _ us hl => match us, hl with | [], _ => rfl
theorem bd__law_is_move {f : Addr} {fd : FuncData} (F : FunD K "_law_is_move" "_law_is_move" (defArgs s__law_is_move) (defBody s__law_is_move) (defScope s__law_is_move) [] [] f fd) : Bnd K fd ["_law_some", "_law_is_shared"] 2 [] bd0 := bnd_plain F rfl fun _ _ _ _ _ _ us hl => match us, hl with | [_, _], _ => rfl
theorem bd__law_moves {f : Addr} {fd : FuncData} (F : FunD K "_law_moves" "_law_moves" (defArgs s__law_moves) (defBody s__law_moves) (defScope s__law_moves) [] [] f fd) : Bnd K fd ["_law_is_shared"] 1 [] bd0 := bnd_plain F rfl fun _ _ _ _ _ _ us hl => match us, hl with | [_], _ => rfl
theorem bd__law_lifts {f : Addr} {fd : FuncData} (F : FunD K "_law_lifts" "_law_lifts" (defArgs s__law_lifts) (defBody s__law_lifts) (defScope s__law_lifts) [] [] f fd) : Bnd K fd [] 0 [] bd0 := bnd_plain F rfl fun _ _ _ _ _ _ us hl => match us, hl with | [], _ => rfl
theorem bd__law_any {f : Addr} {fd : FuncData} (F : FunD K "_law_any" "_law_any" (defArgs s__law_any) (defBody s__law_any) (defScope s__law_any) [] [] f fd) : Bnd K fd ["_law_pot_here"] 1 [] bd0 := bnd_plain F rfl fun _ _ _ _ _ _ us hl => match us, hl with | [_], _ => rfl
theorem bd__law_exchanged {f : Addr} {fd : FuncData} (F : FunD K "_law_exchanged" "_law_exchanged" (defArgs s__law_exchanged) (defBody s__law_exchanged) (defScope s__law_exchanged) [] [] f fd) : Bnd K fd ["_law_pot_here", "_law_rules", "_law_later"] 3 [] bd0 := bnd_plain F rfl fun _ _ _ _ _ _ us hl => match us, hl with | [_, _, _], _ => rfl
theorem bd__law_beside {f : Addr} {fd : FuncData} (F : FunD K "_law_beside" "_law_beside" (defArgs s__law_beside) (defBody s__law_beside) (defScope s__law_beside) [] [] f fd) : Bnd K fd ["_law_pot_here", "_law_rules"] 2 [] bd0 := bnd_plain F rfl fun _ _ _ _ _ _ us hl => match us, hl with | [_, _], _ => rfl
theorem bd_Book_holds {f : Addr} {fd : FuncData} (F : FunD K "holds" "Book.holds" (defArgs s_Book_holds) (defBody s_Book_holds) (defScope s_Book_holds) [] [] f fd) : Bnd K fd ["self"] 1 [] bd0 := bnd_plain F rfl fun _ _ _ _ _ _ us hl => match us, hl with | [_], _ => rfl
theorem bd_Book___repr__ {f : Addr} {fd : FuncData} (F : FunD K "__repr__" "Book.__repr__" (defArgs s_Book___repr__) (defBody s_Book___repr__) (defScope s_Book___repr__) [] [] f fd) : Bnd K fd ["self"] 1 [] bd0 := bnd_plain F rfl fun _ _ _ _ _ _ us hl => match us, hl with | [_], _ => rfl
theorem bd__law_alone_right {f : Addr} {fd : FuncData} (F : FunD K "_law_alone_right" "_law_alone_right" (defArgs s__law_alone_right) (defBody s__law_alone_right) (defScope s__law_alone_right) [] [] f fd) : Bnd K fd ["_law_made", "_law_rules"] 2 [] bd0 := bnd_plain F rfl fun _ _ _ _ _ _ us hl => match us, hl with | [_, _], _ => rfl
theorem bd__law_right {f : Addr} {fd : FuncData} (F : FunD K "_law_right" "_law_right" (defArgs s__law_right) (defBody s__law_right) (defScope s__law_right) [] [] f fd) : Bnd K fd ["_law_pot_here"] 1 [] bd0 := bnd_plain F rfl fun _ _ _ _ _ _ us hl => match us, hl with | [_], _ => rfl
theorem bd__law_pot {f : Addr} {fd : FuncData} (F : FunD K "_law_pot" "_law_pot" (defArgs s__law_pot) (defBody s__law_pot) (defScope s__law_pot) [] [] f fd) : Bnd K fd ["_law_script", "_law_k"] 2 [] bd0 := bnd_plain F rfl fun _ _ _ _ _ _ us hl => match us, hl with | [_, _], _ => rfl
theorem b_Book___init___take_give_move_lift_fails_shared_holds_batch_settles {f : Addr} {fd : FuncData} (F : FunD K "__init__" "Book.__init__" (defArgs s_Book___init__) (defBody s_Book___init__) (defScope s_Book___init__) [] [] f fd) : Bnd K fd ["self", "take", "give", "move", "lift", "fails", "shared", "holds", "batch", "settles"] 1 ["take", "give", "move", "lift", "fails", "shared", "holds", "batch", "settles"] (fun a b => ar_Book___init___take_give_move_lift_fails_shared_holds_batch_settles a b) := by
  refine bnd_kw (fun {α} => ar_Book___init___take_give_move_lift_fails_shared_holds_batch_settles (α := α)) F ?_ ?_ ?_
  · intro vs zs us ws r1 r2 h1 h2
    cases r1 with
    | nil => exact nomatch h1
    | cons s r1 =>
      cases r1 with
      | cons _ _ => exact nomatch h1
      | nil =>
        cases r2 with
        | nil => exact nomatch h2
        | cons x0 r2 =>
          cases r2 with
          | nil => exact nomatch h2
          | cons x1 r2 =>
            cases r2 with
            | nil => exact nomatch h2
            | cons x2 r2 =>
              cases r2 with
              | nil => exact nomatch h2
              | cons x3 r2 =>
                cases r2 with
                | nil => exact nomatch h2
                | cons x4 r2 =>
                  cases r2 with
                  | nil => exact nomatch h2
                  | cons x5 r2 =>
                    cases r2 with
                    | nil => exact nomatch h2
                    | cons x6 r2 =>
                      cases r2 with
                      | nil => exact nomatch h2
                      | cons x7 r2 =>
                        cases r2 with
                        | nil => exact nomatch h2
                        | cons x8 r2 =>
                          cases r2 with
                          | cons _ _ => exact nomatch h2
                          | nil => exact (.cons s (.cons x0 (.cons x1 (.cons x2 (.cons x3 (.cons x4 (.cons x5 (.cons x6 (.cons x7 (.cons x8 .nil))))))))))
  · intro m N H vs zs us ws r1 r2 h1 h2
    cases r1 with
    | nil => exact nomatch h1
    | cons s r1 =>
      cases r1 with
      | cons _ _ => exact nomatch h1
      | nil =>
        cases r2 with
        | nil => exact nomatch h2
        | cons x0 r2 =>
          cases r2 with
          | nil => exact nomatch h2
          | cons x1 r2 =>
            cases r2 with
            | nil => exact nomatch h2
            | cons x2 r2 =>
              cases r2 with
              | nil => exact nomatch h2
              | cons x3 r2 =>
                cases r2 with
                | nil => exact nomatch h2
                | cons x4 r2 =>
                  cases r2 with
                  | nil => exact nomatch h2
                  | cons x5 r2 =>
                    cases r2 with
                    | nil => exact nomatch h2
                    | cons x6 r2 =>
                      cases r2 with
                      | nil => exact nomatch h2
                      | cons x7 r2 =>
                        cases r2 with
                        | nil => exact nomatch h2
                        | cons x8 r2 =>
                          cases r2 with
                          | cons _ _ => exact nomatch h2
                          | nil => exact (.cons s (.cons x0 (.cons x1 (.cons x2 (.cons x3 (.cons x4 (.cons x5 (.cons x6 (.cons x7 (.cons x8 .nil))))))))))
  · intro kV doc pm an cdv ct us ws h1 h2
    match us, ws, h1, h2 with
    | [_], [_, _, _, _, _, _, _, _, _], _, _ => rfl
theorem b_Book_is_as_strict_other {f : Addr} {fd : FuncData} (F : FunD K "is_as_strict" "Book.is_as_strict" (defArgs s_Book_is_as_strict) (defBody s_Book_is_as_strict) (defScope s_Book_is_as_strict) [] [] f fd) : Bnd K fd ["self", "other"] 1 ["other"] (fun a b => ar_Book_is_as_strict_other a b) := by
  refine bnd_kw (fun {α} => ar_Book_is_as_strict_other (α := α)) F ?_ ?_ ?_
  · intro vs zs us ws r1 r2 h1 h2
    cases r1 with
    | nil => exact nomatch h1
    | cons s r1 =>
      cases r1 with
      | cons _ _ => exact nomatch h1
      | nil =>
        cases r2 with
        | nil => exact nomatch h2
        | cons x0 r2 =>
          cases r2 with
          | cons _ _ => exact nomatch h2
          | nil => exact (.cons s (.cons x0 .nil))
  · intro m N H vs zs us ws r1 r2 h1 h2
    cases r1 with
    | nil => exact nomatch h1
    | cons s r1 =>
      cases r1 with
      | cons _ _ => exact nomatch h1
      | nil =>
        cases r2 with
        | nil => exact nomatch h2
        | cons x0 r2 =>
          cases r2 with
          | cons _ _ => exact nomatch h2
          | nil => exact (.cons s (.cons x0 .nil))
  · intro kV doc pm an cdv ct us ws h1 h2
    match us, ws, h1, h2 with
    | [_], [_], _, _ => rfl
end
/-! ### the promises -/
section
variable {P : Program} {w : World} {K : PySem.W.Frag} {mg : Str → Option Value} {base : Heap} {C_Book : Addr}
theorem ok_are_words (T : Tx w K mg C_Book)  {f : Addr} {fd : FuncData} (F : FunD K "are_words" "are_words" (defArgs s_are_words) (defBody s_are_words) (defScope s_are_words) [] [] f fd) : FnG P w K mg base CX0 1 f fd ["value", "known"] (spF (mkG C_Book) K f_are_words) := by
  refine fnG_D F sc_are_words rfl rfl fun cdv A outer s H E hg hr => PSs.nox ?_
  have hu := hu64 hr
  have hu7 := hu70 hr
  exact (zCons (zIf (PW.pt (wOr (yNot (yB (xIsi1 .tuple (fun z => nomatch z) rfl T.b_isinstance rfl T.b_tuple (by decide +kernel) (xV 0)))) (wOneO (yNot (yB (bltn (all_okB rfl) rfl T.b_all (by decide +kernel) (xaCons (xComp rfl sc_are_words.nd (iSeq_ok (xV 0)) (blkOk_by (N := ["value", "known", "place", "word"]) (sc := defScope s_are_words) (own := [("word", 3)]) (by decide +kernel)) rfl (tg1 3) (fun _ _ _ _ _ => pg_name (i := 3) sc_are_words.nd rfl (Or.inl rfl)) (fun _ _ _ _ _ => ptsNil) (fun _ _ _ _ _ => (xAndB (xIsi1 .str (fun z => nomatch z) rfl T.b_isinstance rfl T.b_str (by decide +kernel) (xV 3)) (xOne (xCmp in_ok (xV 3) (xV 1) rfl))))) xaNil))))))) (zCons (zRet xBl)
    zNil) zNil)
    (zCons (zRet (bltn (all_okB rfl) rfl T.b_all (by decide +kernel) (xaCons (xComp rfl sc_are_words.nd (iEnum_ok rfl T.b_enumerate (xV 0)) (blkOk_by (N := ["value", "known", "place", "word"]) (sc := defScope s_are_words) (own := [("place", 2), ("word", 3)]) (by decide +kernel)) rfl (tg2 2 3 (by decide)) (fun _ _ _ _ _ => pg_tup rfl (pgs_cons (pg_name (i := 2) sc_are_words.nd rfl (Or.inl rfl)) (pgs_cons (pg_name (i := 3) sc_are_words.nd rfl (Or.inl rfl)) pgs_nil))) (fun _ _ _ _ _ => ptsNil) (fun _ _ _ _ _ => (xCmp notin_ok (xV 3) (xSl (xV 0) pNo_ok (pSome_ok (xV 2))) rfl))) xaNil)))
    zNil))
theorem ok_are_tests_ahead (T : Tx w K mg C_Book)  {f : Addr} {fd : FuncData} (F : FunD K "are_tests_ahead" "are_tests_ahead" (defArgs s_are_tests_ahead) (defBody s_are_tests_ahead) (defScope s_are_tests_ahead) [] [] f fd) : FnG P w K mg base CX0 1 f fd ["row", "word"] (spF (mkG C_Book) K f_are_tests_ahead) := by
  obtain ⟨a_TESTS, c_TESTS, r_TESTS⟩ := T.g_TESTS
  refine fnG_D F sc_are_tests_ahead rfl rfl fun cdv A outer s H E hg hr => PSs.nox ?_
  have hu := hu64 hr
  have hu7 := hu70 hr
  exact (zCons (zRet (xOrB (xCmp notin_ok (xV 1) (xV 0) rfl) (xOne (bltn (all_okB rfl) rfl T.b_all (by decide +kernel) (xaCons (xComp rfl sc_are_tests_ahead.nd (iSeq_ok (xGlob (v := .ref a_TESTS) rfl c_TESTS rfl r_TESTS)) (blkOk_by (N := ["row", "word", "test"]) (sc := defScope s_are_tests_ahead) (own := [("test", 2)]) (by decide +kernel)) rfl (tg1 2) (fun _ _ _ _ _ => pg_name (i := 2) sc_are_tests_ahead.nd rfl (Or.inl rfl)) (fun _ _ _ _ _ => pts_one (yCmp in_ok (isB_in false) (xV 2) (xV 0) rfl)) (fun _ _ _ _ _ => (xCmp lt_ok (xTupIx (xV 0) (xaCons (xV 2) xaNil)) (xTupIx (xV 0) (xaCons (xV 1) xaNil)) (nomark _)))) xaNil)))))
    zNil)
theorem ok_is_take (T : Tx w K mg C_Book)  {f : Addr} {fd : FuncData} (F : FunD K "is_take" "is_take" (defArgs s_is_take) (defBody s_is_take) (defScope s_is_take) [] [] f fd) : FnG P w K mg base CX0 2 f fd ["value"] (spF (mkG C_Book) K f_is_take) := by
  obtain ⟨a_are_words, d_are_words, F_are_words, m_are_words⟩ := T.F_are_words
  have b_are_words := bd_are_words F_are_words
  have k_are_words := F_are_words.kp
  have g_are_words := ok_are_words (P := P) (w := w) (base := base) T F_are_words
  obtain ⟨a_are_tests_ahead, d_are_tests_ahead, F_are_tests_ahead, m_are_tests_ahead⟩ := T.F_are_tests_ahead
  have b_are_tests_ahead := bd_are_tests_ahead F_are_tests_ahead
  have k_are_tests_ahead := F_are_tests_ahead.kp
  have g_are_tests_ahead := ok_are_tests_ahead (P := P) (w := w) (base := base) T F_are_tests_ahead
  obtain ⟨t_ADD, c_ADD⟩ := T.g_ADD
  obtain ⟨t_LIVE, c_LIVE⟩ := T.g_LIVE
  obtain ⟨t_LOOK, c_LOOK⟩ := T.g_LOOK
  obtain ⟨a_TAKE_WORDS, c_TAKE_WORDS, r_TAKE_WORDS⟩ := T.g_TAKE_WORDS
  obtain ⟨t_TRY, c_TRY⟩ := T.g_TRY
  refine fnG_D F sc_is_take rfl rfl fun cdv A outer s H E hg hr => PSs.nox ?_
  have hu := hu64 hr
  have hu7 := hu70 hr
  exact (zCons (zIf (PW.pt (wOr (yNot (yB (xCall (cg_fn g_are_words hg (hr.mono (by decide)) passes0 b_are_words) rfl m_are_words k_are_words (xaCons (xV 0) (xaCons (xGlob (v := .ref a_TAKE_WORDS) rfl c_TAKE_WORDS rfl r_TAKE_WORDS) xaNil))))) (wOr (yCmp notin_ok (isB_in true) (xGlob (v := .str "live") rfl c_LIVE ⟨_, rfl⟩ (fun _ _ _ => .str _)) (xV 0) rfl) (wOneO (yNot (yB (xCall (cg_fn g_are_tests_ahead hg (hr.mono (by decide)) passes0 b_are_tests_ahead) rfl m_are_tests_ahead k_are_tests_ahead (xaCons (xV 0) (xaCons (xGlob (v := .str "live") rfl c_LIVE ⟨_, rfl⟩ (fun _ _ _ => .str _)) xaNil))))))))) (zCons (zRet xBl)
    zNil) zNil)
    (zCons (zRet (xIf (yCmp notin_ok (isB_in true) (xGlob (v := .str "try") rfl c_TRY ⟨_, rfl⟩ (fun _ _ _ => .str _)) (xV 0) rfl) (xCmp in_ok (xGlob (v := .str "add") rfl c_ADD ⟨_, rfl⟩ (fun _ _ _ => .str _)) (xV 0) rfl) (xAndB (xCmp notin_ok (xGlob (v := .str "look") rfl c_LOOK ⟨_, rfl⟩ (fun _ _ _ => .str _)) (xV 0) rfl) (xOne (xCmp notin_ok (xGlob (v := .str "add") rfl c_ADD ⟨_, rfl⟩ (fun _ _ _ => .str _)) (xV 0) rfl)))))
    zNil))
theorem ok_is_behind (T : Tx w K mg C_Book)  {f : Addr} {fd : FuncData} (F : FunD K "is_behind" "is_behind" (defArgs s_is_behind) (defBody s_is_behind) (defScope s_is_behind) [] [] f fd) : FnG P w K mg base CX0 1 f fd ["row", "word", "other"] (spF (mkG C_Book) K f_is_behind) := by
  refine fnG_D F sc_is_behind rfl rfl fun cdv A outer s H E hg hr => PSs.nox ?_
  have hu := hu64 hr
  have hu7 := hu70 hr
  exact (zCons (zRet (xOrB (xCmp notin_ok (xV 1) (xV 0) rfl) (xOne (xAndB (xCmp in_ok (xV 2) (xV 0) rfl) (xOne (xCmp lt_ok (xTupIx (xV 0) (xaCons (xV 2) xaNil)) (xTupIx (xV 0) (xaCons (xV 1) xaNil)) (nomark _)))))))
    zNil)
theorem ok_is_give (T : Tx w K mg C_Book)  {f : Addr} {fd : FuncData} (F : FunD K "is_give" "is_give" (defArgs s_is_give) (defBody s_is_give) (defScope s_is_give) [] [] f fd) : FnG P w K mg base CX0 2 f fd ["value"] (spF (mkG C_Book) K f_is_give) := by
  obtain ⟨a_are_words, d_are_words, F_are_words, m_are_words⟩ := T.F_are_words
  have b_are_words := bd_are_words F_are_words
  have k_are_words := F_are_words.kp
  have g_are_words := ok_are_words (P := P) (w := w) (base := base) T F_are_words
  obtain ⟨a_is_behind, d_is_behind, F_is_behind, m_is_behind⟩ := T.F_is_behind
  have b_is_behind := bd_is_behind F_is_behind
  have k_is_behind := F_is_behind.kp
  have g_is_behind := ok_is_behind (P := P) (w := w) (base := base) T F_is_behind
  obtain ⟨t_END, c_END⟩ := T.g_END
  obtain ⟨a_GIVE_WORDS, c_GIVE_WORDS, r_GIVE_WORDS⟩ := T.g_GIVE_WORDS
  obtain ⟨t_HOME, c_HOME⟩ := T.g_HOME
  obtain ⟨t_OFF, c_OFF⟩ := T.g_OFF
  refine fnG_D F sc_is_give rfl rfl fun cdv A outer s H E hg hr => PSs.nox ?_
  have hu := hu64 hr
  have hu7 := hu70 hr
  exact (zCons (zRet (xAndB (xCall (cg_fn g_are_words hg (hr.mono (by decide)) passes0 b_are_words) rfl m_are_words k_are_words (xaCons (xV 0) (xaCons (xGlob (v := .ref a_GIVE_WORDS) rfl c_GIVE_WORDS rfl r_GIVE_WORDS) xaNil))) (xAndB (xCmp in_ok (xGlob (v := .str "end") rfl c_END ⟨_, rfl⟩ (fun _ _ _ => .str _)) (xV 0) rfl) (xOne (xCall (cg_fn g_is_behind hg (hr.mono (by decide)) passes0 b_is_behind) rfl m_is_behind k_is_behind (xaCons (xV 0) (xaCons (xGlob (v := .str "off") rfl c_OFF ⟨_, rfl⟩ (fun _ _ _ => .str _)) (xaCons (xGlob (v := .str "home") rfl c_HOME ⟨_, rfl⟩ (fun _ _ _ => .str _)) xaNil))))))))
    zNil)
theorem ok_is_move (T : Tx w K mg C_Book)  {f : Addr} {fd : FuncData} (F : FunD K "is_move" "is_move" (defArgs s_is_move) (defBody s_is_move) (defScope s_is_move) [] [] f fd) : FnG P w K mg base CX0 2 f fd ["value"] (spF (mkG C_Book) K f_is_move) := by
  obtain ⟨a_are_words, d_are_words, F_are_words, m_are_words⟩ := T.F_are_words
  have b_are_words := bd_are_words F_are_words
  have k_are_words := F_are_words.kp
  have g_are_words := ok_are_words (P := P) (w := w) (base := base) T F_are_words
  obtain ⟨a_is_behind, d_is_behind, F_is_behind, m_is_behind⟩ := T.F_is_behind
  have b_is_behind := bd_is_behind F_is_behind
  have k_is_behind := F_is_behind.kp
  have g_is_behind := ok_is_behind (P := P) (w := w) (base := base) T F_is_behind
  obtain ⟨a_are_tests_ahead, d_are_tests_ahead, F_are_tests_ahead, m_are_tests_ahead⟩ := T.F_are_tests_ahead
  have b_are_tests_ahead := bd_are_tests_ahead F_are_tests_ahead
  have k_are_tests_ahead := F_are_tests_ahead.kp
  have g_are_tests_ahead := ok_are_tests_ahead (P := P) (w := w) (base := base) T F_are_tests_ahead
  obtain ⟨t_ADD, c_ADD⟩ := T.g_ADD
  obtain ⟨t_HOME, c_HOME⟩ := T.g_HOME
  obtain ⟨t_LOOK, c_LOOK⟩ := T.g_LOOK
  obtain ⟨a_MOVE_WORDS, c_MOVE_WORDS, r_MOVE_WORDS⟩ := T.g_MOVE_WORDS
  obtain ⟨t_OFF, c_OFF⟩ := T.g_OFF
  obtain ⟨t_SET, c_SET⟩ := T.g_SET
  obtain ⟨t_TRY, c_TRY⟩ := T.g_TRY
  refine fnG_D F sc_is_move rfl rfl fun cdv A outer s H E hg hr => PSs.nox ?_
  have hu := hu64 hr
  have hu7 := hu70 hr
  exact (zCons (zIf (yNot (yB (xCall (cg_fn g_are_words hg (hr.mono (by decide)) passes0 b_are_words) rfl m_are_words k_are_words (xaCons (xV 0) (xaCons (xGlob (v := .ref a_MOVE_WORDS) rfl c_MOVE_WORDS rfl r_MOVE_WORDS) xaNil))))) (zCons (zRet xBl)
    zNil) zNil)
    (zCons (zIf (yCmp (eq_ok hu) (isB_eq false) (bltn len_okB rfl T.b_len (by decide +kernel) (xaCons (xV 0) xaNil)) xInt (nomark _)) (zCons (zRet xBl)
    zNil) zNil)
    (zCons (zIf (PW.pt (wOr (yCmp notin_ok (isB_in true) (xGlob (v := .str "set") rfl c_SET ⟨_, rfl⟩ (fun _ _ _ => .str _)) (xV 0) rfl) (wOneO (PW.pt (wAnd (yCmp in_ok (isB_in false) (xGlob (v := .str "try") rfl c_TRY ⟨_, rfl⟩ (fun _ _ _ => .str _)) (xV 0) rfl) (wOne (PW.pt (wOr (yCmp in_ok (isB_in false) (xGlob (v := .str "look") rfl c_LOOK ⟨_, rfl⟩ (fun _ _ _ => .str _)) (xV 0) rfl) (wOneO (yCmp in_ok (isB_in false) (xGlob (v := .str "add") rfl c_ADD ⟨_, rfl⟩ (fun _ _ _ => .str _)) (xV 0) rfl)))))))))) (zCons (zRet xBl)
    zNil) zNil)
    (zCons (zRet (xAndB (xCall (cg_fn g_is_behind hg (hr.mono (by decide)) passes0 b_is_behind) rfl m_is_behind k_is_behind (xaCons (xV 0) (xaCons (xGlob (v := .str "off") rfl c_OFF ⟨_, rfl⟩ (fun _ _ _ => .str _)) (xaCons (xGlob (v := .str "home") rfl c_HOME ⟨_, rfl⟩ (fun _ _ _ => .str _)) xaNil)))) (xAndB (xCall (cg_fn g_are_tests_ahead hg (hr.mono (by decide)) passes0 b_are_tests_ahead) rfl m_are_tests_ahead k_are_tests_ahead (xaCons (xV 0) (xaCons (xGlob (v := .str "set") rfl c_SET ⟨_, rfl⟩ (fun _ _ _ => .str _)) xaNil))) (xOne (xCall (cg_fn g_are_tests_ahead hg (hr.mono (by decide)) passes0 b_are_tests_ahead) rfl m_are_tests_ahead k_are_tests_ahead (xaCons (xV 0) (xaCons (xGlob (v := .str "off") rfl c_OFF ⟨_, rfl⟩ (fun _ _ _ => .str _)) xaNil)))))))
    zNil))))
theorem ok_is_lift (T : Tx w K mg C_Book)  {f : Addr} {fd : FuncData} (F : FunD K "is_lift" "is_lift" (defArgs s_is_lift) (defBody s_is_lift) (defScope s_is_lift) [] [] f fd) : FnG P w K mg base CX0 2 f fd ["value"] (spF (mkG C_Book) K f_is_lift) := by
  obtain ⟨a_are_words, d_are_words, F_are_words, m_are_words⟩ := T.F_are_words
  have b_are_words := bd_are_words F_are_words
  have k_are_words := F_are_words.kp
  have g_are_words := ok_are_words (P := P) (w := w) (base := base) T F_are_words
  obtain ⟨t_BOTH, c_BOTH⟩ := T.g_BOTH
  obtain ⟨a_LIFTS, c_LIFTS, r_LIFTS⟩ := T.g_LIFTS
  obtain ⟨t_OFF, c_OFF⟩ := T.g_OFF
  obtain ⟨t_SET, c_SET⟩ := T.g_SET
  refine fnG_D F sc_is_lift rfl rfl fun cdv A outer s H E hg hr => PSs.nox ?_
  have hu := hu64 hr
  have hu7 := hu70 hr
  exact (zCons (zRet (xAndB (xCall (cg_fn g_are_words hg (hr.mono (by decide)) passes0 b_are_words) rfl m_are_words k_are_words (xaCons (xV 0) (xaCons (xTup (xaCons (xGlob (v := .str "set") rfl c_SET ⟨_, rfl⟩ (fun _ _ _ => .str _)) (xaCons (xGlob (v := .str "off") rfl c_OFF ⟨_, rfl⟩ (fun _ _ _ => .str _)) (xaCons (xGlob (v := .str "both") rfl c_BOTH ⟨_, rfl⟩ (fun _ _ _ => .str _)) xaNil)))) xaNil))) (xOne (xCmp (inDp_ok hu7) (xV 0) (xGlob (v := .ref a_LIFTS) rfl c_LIFTS rfl r_LIFTS) rfl))))
    zNil)
theorem ok_is_row (T : Tx w K mg C_Book)  {f : Addr} {fd : FuncData} (F : FunD K "is_row" "is_row" (defArgs s_is_row) (defBody s_is_row) (defScope s_is_row) [] [] f fd) : FnG P w K mg base CX0 3 f fd ["kind", "value"] (spF (mkG C_Book) K f_is_row) := by
  obtain ⟨a_is_take, d_is_take, F_is_take, m_is_take⟩ := T.F_is_take
  have b_is_take := bd_is_take F_is_take
  have k_is_take := F_is_take.kp
  have g_is_take := ok_is_take (P := P) (w := w) (base := base) T F_is_take
  obtain ⟨a_is_give, d_is_give, F_is_give, m_is_give⟩ := T.F_is_give
  have b_is_give := bd_is_give F_is_give
  have k_is_give := F_is_give.kp
  have g_is_give := ok_is_give (P := P) (w := w) (base := base) T F_is_give
  obtain ⟨a_is_move, d_is_move, F_is_move, m_is_move⟩ := T.F_is_move
  have b_is_move := bd_is_move F_is_move
  have k_is_move := F_is_move.kp
  have g_is_move := ok_is_move (P := P) (w := w) (base := base) T F_is_move
  obtain ⟨a_is_lift, d_is_lift, F_is_lift, m_is_lift⟩ := T.F_is_lift
  have b_is_lift := bd_is_lift F_is_lift
  have k_is_lift := F_is_lift.kp
  have g_is_lift := ok_is_lift (P := P) (w := w) (base := base) T F_is_lift
  obtain ⟨t_GIVE, c_GIVE⟩ := T.g_GIVE
  obtain ⟨t_MOVE, c_MOVE⟩ := T.g_MOVE
  obtain ⟨t_TAKE, c_TAKE⟩ := T.g_TAKE
  refine fnG_D F sc_is_row rfl rfl fun cdv A outer s H E hg hr => PSs.nox ?_
  have hu := hu64 hr
  have hu7 := hu70 hr
  exact (zCons (zIf (yCmp (eq_ok hu) (isB_eq false) (xV 0) (xGlob (v := .str "take") rfl c_TAKE ⟨_, rfl⟩ (fun _ _ _ => .str _)) (nomark _)) (zCons (zRet (xCall (cg_fn g_is_take hg (hr.mono (by decide)) passes0 b_is_take) rfl m_is_take k_is_take (xaCons (xV 1) xaNil)))
    zNil) zNil)
    (zCons (zIf (yCmp (eq_ok hu) (isB_eq false) (xV 0) (xGlob (v := .str "give") rfl c_GIVE ⟨_, rfl⟩ (fun _ _ _ => .str _)) (nomark _)) (zCons (zRet (xCall (cg_fn g_is_give hg (hr.mono (by decide)) passes0 b_is_give) rfl m_is_give k_is_give (xaCons (xV 1) xaNil)))
    zNil) zNil)
    (zCons (zRet (xIf (yCmp (eq_ok hu) (isB_eq false) (xV 0) (xGlob (v := .str "move") rfl c_MOVE ⟨_, rfl⟩ (fun _ _ _ => .str _)) (nomark _)) (xCall (cg_fn g_is_move hg (hr.mono (by decide)) passes0 b_is_move) rfl m_is_move k_is_move (xaCons (xV 1) xaNil)) (xCall (cg_fn g_is_lift hg (hr.mono (by decide)) passes0 b_is_lift) rfl m_is_lift k_is_lift (xaCons (xV 1) xaNil))))
    zNil)))
theorem ok_want_word (T : Tx w K mg C_Book)  {f : Addr} {fd : FuncData} (F : FunD K "want_word" "want_word" (defArgs s_want_word) (defBody s_want_word) (defScope s_want_word) [] [] f fd) : FnG P w K mg base CX0 1 f fd ["name", "value", "is_right"] (spF (mkG C_Book) K f_want_word) := by
  refine fnG_D F sc_want_word rfl rfl fun cdv A outer s H E hg hr => PSs.nox ?_
  have hu := hu64 hr
  have hu7 := hu70 hr
  exact (zCons (zIf (yNot (yB (xV 2))) (zCons zNever
    zNil) zNil)
    zNil)
theorem ok_are_holds (T : Tx w K mg C_Book)  {f : Addr} {fd : FuncData} (F : FunD K "are_holds" "are_holds" (defArgs s_are_holds) (defBody s_are_holds) (defScope s_are_holds) [] [] f fd) : FnG P w K mg base CX0 2 f fd ["value"] (spF (mkG C_Book) K f_are_holds) := by
  obtain ⟨a_are_words, d_are_words, F_are_words, m_are_words⟩ := T.F_are_words
  have b_are_words := bd_are_words F_are_words
  have k_are_words := F_are_words.kp
  have g_are_words := ok_are_words (P := P) (w := w) (base := base) T F_are_words
  obtain ⟨a_HOLDING, c_HOLDING, r_HOLDING⟩ := T.g_HOLDING
  refine fnG_D F sc_are_holds rfl rfl fun cdv A outer s H E hg hr => PSs.nox ?_
  have hu := hu64 hr
  have hu7 := hu70 hr
  exact (zCons (zRet (xAndB (xIsi2 .list .tuple (fun z => nomatch z) (fun z => nomatch z) rfl T.b_isinstance rfl T.b_list (by decide +kernel) rfl T.b_tuple (by decide +kernel) (xV 0)) (xOne (xCall (cg_fn g_are_words hg (hr.mono (by decide)) passes0 b_are_words) rfl m_are_words k_are_words (xaCons (bltnT tuple_okB rfl T.b_tuple (by decide +kernel) (xaCons (xV 0) xaNil)) (xaCons (xGlob (v := .ref a_HOLDING) rfl c_HOLDING rfl r_HOLDING) xaNil))))))
    zNil)
theorem ok_holds_in_sequence (T : Tx w K mg C_Book)  {f : Addr} {fd : FuncData} (F : FunD K "holds_in_sequence" "holds_in_sequence" (defArgs s_holds_in_sequence) (defBody s_holds_in_sequence) (defScope s_holds_in_sequence) [] [] f fd) : FnG P w K mg base CX0 3 f fd ["holds"] (spF (mkG C_Book) K f_holds_in_sequence) := by
  obtain ⟨a_are_holds, d_are_holds, F_are_holds, m_are_holds⟩ := T.F_are_holds
  have b_are_holds := bd_are_holds F_are_holds
  have k_are_holds := F_are_holds.kp
  have g_are_holds := ok_are_holds (P := P) (w := w) (base := base) T F_are_holds
  obtain ⟨a_HOLDING, c_HOLDING, r_HOLDING⟩ := T.g_HOLDING
  refine fnG_D F sc_holds_in_sequence rfl rfl fun cdv A outer s H E hg hr => PSs.nox ?_
  have hu := hu64 hr
  have hu7 := hu70 hr
  exact (zCons (zIf (yNot (yB (xCall (cg_fn g_are_holds hg (hr.mono (by decide)) passes0 b_are_holds) rfl m_are_holds k_are_holds (xaCons (xV 0) xaNil)))) (zCons zNever
    zNil) zNil)
    (zCons (zRet (bltnT tuple_okB rfl T.b_tuple (by decide +kernel) (xaCons (xComp rfl sc_holds_in_sequence.nd (iSeq_ok (xGlob (v := .ref a_HOLDING) rfl c_HOLDING rfl r_HOLDING)) (blkOk_by (N := ["holds", "kind"]) (sc := defScope s_holds_in_sequence) (own := [("kind", 1)]) (by decide +kernel)) rfl (tg1 1) (fun _ _ _ _ _ => pg_name (i := 1) sc_holds_in_sequence.nd rfl (Or.inl rfl)) (fun _ _ _ _ _ => pts_one (yCmp in_ok (isB_in false) (xV 1) (xV 0) rfl)) (fun _ _ _ _ _ => (xV 1))) xaNil)))
    zNil))
theorem ok_is_integer (T : Tx w K mg C_Book)  {f : Addr} {fd : FuncData} (F : FunD K "is_integer" "is_integer" (defArgs s_is_integer) (defBody s_is_integer) (defScope s_is_integer) [] [] f fd) : FnG P w K mg base CX0 1 f fd ["value"] (spF (mkG C_Book) K f_is_integer) := by
  refine fnG_D F sc_is_integer rfl rfl fun cdv A outer s H E hg hr => PSs.nox ?_
  have hu := hu64 hr
  have hu7 := hu70 hr
  exact (zCons (zRet (xAndB (xIsi1 .int (fun z => nomatch z) rfl T.b_isinstance rfl T.b_int (by decide +kernel) (xV 0)) (xOne (xNotB (xIsi1 .bool (fun z => nomatch z) rfl T.b_isinstance rfl T.b_bool (by decide +kernel) (xV 0))))))
    zNil)
theorem ok_want_batch (T : Tx w K mg C_Book)  {f : Addr} {fd : FuncData} (F : FunD K "want_batch" "want_batch" (defArgs s_want_batch) (defBody s_want_batch) (defScope s_want_batch) [] [] f fd) : FnG P w K mg base CX0 2 f fd ["value"] (spF (mkG C_Book) K f_want_batch) := by
  obtain ⟨a_is_integer, d_is_integer, F_is_integer, m_is_integer⟩ := T.F_is_integer
  have b_is_integer := bd_is_integer F_is_integer
  have k_is_integer := F_is_integer.kp
  have g_is_integer := ok_is_integer (P := P) (w := w) (base := base) T F_is_integer
  obtain ⟨t_GREATEST_BATCH, c_GREATEST_BATCH⟩ := T.g_GREATEST_BATCH
  refine fnG_D F sc_want_batch rfl rfl fun cdv A outer s H E hg hr => PSs.nox ?_
  have hu := hu64 hr
  have hu7 := hu70 hr
  exact (zCons (zIf (PW.pt (wOr (yNot (yB (xCall (cg_fn g_is_integer hg (hr.mono (by decide)) passes0 b_is_integer) rfl m_is_integer k_is_integer (xaCons (xV 0) xaNil)))) (wOneO (yNot (yChain le_ok le_ok isB_le xInt (xV 0) (xGlob (v := .int 50) rfl c_GREATEST_BATCH ⟨_, rfl⟩ (fun _ _ _ => .int _))))))) (zCons zNever
    zNil) zNil)
    zNil)
theorem ok_Book___init__ (T : Tx w K mg C_Book)  {f : Addr} {fd : FuncData} (F : FunD K "__init__" "Book.__init__" (defArgs s_Book___init__) (defBody s_Book___init__) (defScope s_Book___init__) [] [] f fd) : FnG P w K mg base CX0 4 f fd ["self", "take", "give", "move", "lift", "fails", "shared", "holds", "batch", "settles"] (spF (mkG C_Book) K f_Book___init__) := by
  obtain ⟨a_is_row, d_is_row, F_is_row, m_is_row⟩ := T.F_is_row
  have b_is_row := bd_is_row F_is_row
  have k_is_row := F_is_row.kp
  have g_is_row := ok_is_row (P := P) (w := w) (base := base) T F_is_row
  obtain ⟨a_want_word, d_want_word, F_want_word, m_want_word⟩ := T.F_want_word
  have b_want_word := bd_want_word F_want_word
  have k_want_word := F_want_word.kp
  have g_want_word := ok_want_word (P := P) (w := w) (base := base) T F_want_word
  obtain ⟨a_holds_in_sequence, d_holds_in_sequence, F_holds_in_sequence, m_holds_in_sequence⟩ := T.F_holds_in_sequence
  have b_holds_in_sequence := bd_holds_in_sequence F_holds_in_sequence
  have k_holds_in_sequence := F_holds_in_sequence.kp
  have g_holds_in_sequence := ok_holds_in_sequence (P := P) (w := w) (base := base) T F_holds_in_sequence
  obtain ⟨a_want_batch, d_want_batch, F_want_batch, m_want_batch⟩ := T.F_want_batch
  have b_want_batch := bd_want_batch F_want_batch
  have k_want_batch := F_want_batch.kp
  have g_want_batch := ok_want_batch (P := P) (w := w) (base := base) T F_want_batch
  obtain ⟨a_FAILS, c_FAILS, r_FAILS⟩ := T.g_FAILS
  obtain ⟨t_GIVE, c_GIVE⟩ := T.g_GIVE
  obtain ⟨a_HOLDING, c_HOLDING, r_HOLDING⟩ := T.g_HOLDING
  obtain ⟨t_HOME, c_HOME⟩ := T.g_HOME
  obtain ⟨t_LIFT, c_LIFT⟩ := T.g_LIFT
  obtain ⟨t_LIVE, c_LIVE⟩ := T.g_LIVE
  obtain ⟨t_MOVE, c_MOVE⟩ := T.g_MOVE
  obtain ⟨t_TAKE, c_TAKE⟩ := T.g_TAKE
  refine fnG_D F sc_Book___init__ rfl rfl fun cdv A outer s H E hg hr => PSs.nox ?_
  have hu := hu64 hr
  have hu7 := hu70 hr
  exact (zCons (zFld (c := 0) (i := 0) (by show 0 < 6; decide) T.cls_Book T.na_own_rows (xV 0) (xDisp (ppCons (xGlob (v := .str "take") rfl c_TAKE ⟨_, rfl⟩ (fun _ _ _ => .str _)) (xV 1) (ppCons (xGlob (v := .str "give") rfl c_GIVE ⟨_, rfl⟩ (fun _ _ _ => .str _)) (xV 2) (ppCons (xGlob (v := .str "move") rfl c_MOVE ⟨_, rfl⟩ (fun _ _ _ => .str _)) (xV 3) (ppCons (xGlob (v := .str "lift") rfl c_LIFT ⟨_, rfl⟩ (fun _ _ _ => .str _)) (xV 4) ppNil))))))
    (zCons (zFor PassesOwn.never rfl (iSeq_ok (xGlob (v := .ref a_HOLDING) rfl c_HOLDING rfl r_HOLDING)) (gName_ok (i := 10) sc_Book___init__.nd rfl (Or.inl rfl)) (zCons (zIf (yNot (yB (xCall (cg_fn g_is_row hg (hr.mono (by decide)) passes0 b_is_row) rfl m_is_row k_is_row (xaCons (xV 10) (xaCons (xDg (hu1_of hu7) (xFld (c := 0) (i := 0) (by show 0 < 6; decide) T.cls_Book T.na_own_rows (xV 0)) (xV 10)) xaNil))))) (zCons zNever
    zNil) zNil)
    zNil))
    (zCons (zE (xCall (cg_fn g_want_word hg (hr.mono (by decide)) passes0 b_want_word) rfl m_want_word k_want_word (xaCons xStr (xaCons (xV 5) (xaCons (xAndB (xIsi1 .str (fun z => nomatch z) rfl T.b_isinstance rfl T.b_str (by decide +kernel) (xV 5)) (xOne (xCmp in_ok (xV 5) (xGlob (v := .ref a_FAILS) rfl c_FAILS rfl r_FAILS) rfl))) xaNil)))))
    (zCons (zE (xCall (cg_fn g_want_word hg (hr.mono (by decide)) passes0 b_want_word) rfl m_want_word k_want_word (xaCons xStr (xaCons (xV 6) (xaCons (xIsi1 .bool (fun z => nomatch z) rfl T.b_isinstance rfl T.b_bool (by decide +kernel) (xV 6)) xaNil)))))
    (zCons (zFld (c := 0) (i := 1) (by show 1 < 6; decide) T.cls_Book T.na_own_fails (xV 0) (xV 5))
    (zCons (zFld (c := 0) (i := 2) (by show 2 < 6; decide) T.cls_Book T.na_own_shared (xV 0) (xV 6))
    (zCons (zFld (c := 0) (i := 3) (by show 3 < 6; decide) T.cls_Book T.na_own_holds (xV 0) (xCall (cg_fn g_holds_in_sequence hg (hr.mono (by decide)) passes0 b_holds_in_sequence) rfl m_holds_in_sequence k_holds_in_sequence (xaCons (xV 7) xaNil)))
    (zCons (zE (xCall (cg_fn g_want_batch hg (hr.mono (by decide)) passes0 b_want_batch) rfl m_want_batch k_want_batch (xaCons (xV 8) xaNil)))
    (zCons (zE (xCall (cg_fn g_want_word hg (hr.mono (by decide)) passes0 b_want_word) rfl m_want_word k_want_word (xaCons xStr (xaCons (xV 9) (xaCons (xIsi1 .bool (fun z => nomatch z) rfl T.b_isinstance rfl T.b_bool (by decide +kernel) (xV 9)) xaNil)))))
    (zCons (zFld (c := 0) (i := 4) (by show 4 < 6; decide) T.cls_Book T.na_own_batch (xV 0) (xV 8))
    (zCons (zFld (c := 0) (i := 5) (by show 5 < 6; decide) T.cls_Book T.na_own_settles (xV 0) (xV 9))
    (zCons (zIf (PW.pt (wAnd (yCmp gt_ok isB_gt (xV 8) xInt (nomark _)) (wOne (yCmp (ne_ok hu) (isB_eq true) (xIx (xV 1) (xNeg xInt)) (xGlob (v := .str "live") rfl c_LIVE ⟨_, rfl⟩ (fun _ _ _ => .str _)) (nomark _))))) (zCons zNever
    zNil) zNil)
    (zCons (zIf (PW.pt (wAnd (yNot (yB (xV 6))) (wAnd (yCmp (ne_ok hu) (isB_eq true) (xV 3) (xTup xaNil) (nomark _)) (wOne (yCmp (ne_ok hu) (isB_eq true) (xIx (xV 3) xInt) (xGlob (v := .str "home") rfl c_HOME ⟨_, rfl⟩ (fun _ _ _ => .str _)) (nomark _)))))) (zCons zNever
    zNil) zNil)
    zNil)))))))))))))
theorem ok__law_book (T : Tx w K mg C_Book)  {f : Addr} {fd : FuncData} (F : FunD K "_law_book" "_law_book" (defArgs s__law_book) (defBody s__law_book) (defScope s__law_book) [] [] f fd) : FnG P w K mg base CX0 6 f fd ["_law_rules"] (spF (mkG C_Book) K f__law_book) := by
  obtain ⟨a_Book___init__, d_Book___init__, F_Book___init__, mk_Book⟩ := T.F_Book___init__
  have k_Book___init__ := F_Book___init__.kp
  have g_Book___init__ := ok_Book___init__ (P := P) (w := w) (base := base) T F_Book___init__
  refine fnG_D F sc__law_book rfl rfl fun cdv A outer s H E hg hr => PSs.nox ?_
  have hu := hu64 hr
  have hu7 := hu70 hr
  exact (zCons (zRet (xCall0K (cg_make (c := 0) mk_Book g_Book___init__ hg (hr.mono (by decide)) passes0 (b_Book___init___take_give_move_lift_fails_shared_holds_batch_settles F_Book___init__)) rfl T.mg_Book mk_Book.kp (kCons (xDg (hu1_of hu7) (xV 0) xStr) (kCons (xDg (hu1_of hu7) (xV 0) xStr) (kCons (xDg (hu1_of hu7) (xV 0) xStr) (kCons (xDg (hu1_of hu7) (xV 0) xStr) (kCons (xDg (hu1_of hu7) (xV 0) xStr) (kCons (xDg (hu1_of hu7) (xV 0) xStr) (kCons (xDg (hu1_of hu7) (xV 0) xStr) (kCons (xDg (hu1_of hu7) (xV 0) xStr) (kCons (xDg (hu1_of hu7) (xV 0) xStr) kNil)))))))))))
    zNil)
theorem ok_Book_others (T : Tx w K mg C_Book)  {f : Addr} {fd : FuncData} (F : FunD K "others" "Book.others" (defArgs s_Book_others) (defBody s_Book_others) (defScope s_Book_others) [] [] f fd) : FnG P w K mg base CX0 1 f fd ["self"] (spF (mkG C_Book) K f_Book_others) := by
  refine fnG_D F sc_Book_others rfl rfl fun cdv A outer s H E hg hr => PSs.nox ?_
  have hu := hu64 hr
  have hu7 := hu70 hr
  exact (zCons (zRet (xLst (xaStarV rfl (xFld (c := 0) (i := 0) (by show 0 < 6; decide) T.cls_Book T.na_own_rows (xV 0)) (xaCons (xFld (c := 0) (i := 1) (by show 1 < 6; decide) T.cls_Book T.na_own_fails (xV 0)) (xaCons (xFld (c := 0) (i := 2) (by show 2 < 6; decide) T.cls_Book T.na_own_shared (xV 0)) (xaCons (xFld (c := 0) (i := 4) (by show 4 < 6; decide) T.cls_Book T.na_own_batch (xV 0)) (xaCons (xFld (c := 0) (i := 5) (by show 5 < 6; decide) T.cls_Book T.na_own_settles (xV 0)) xaNil)))))))
    zNil)
theorem ok_Book_is_as_strict (T : Tx w K mg C_Book)  {f : Addr} {fd : FuncData} (F : FunD K "is_as_strict" "Book.is_as_strict" (defArgs s_Book_is_as_strict) (defBody s_Book_is_as_strict) (defScope s_Book_is_as_strict) [] [] f fd) : FnG P w K mg base CX0 2 f fd ["self", "other"] (spF (mkG C_Book) K f_Book_is_as_strict) := by
  obtain ⟨a_Book_others, d_Book_others, F_Book_others, m_Book_others⟩ := T.F_Book_others
  have b_Book_others := bd_Book_others F_Book_others
  have k_Book_others := F_Book_others.kp
  have g_Book_others := ok_Book_others (P := P) (w := w) (base := base) T F_Book_others
  refine fnG_D F sc_Book_is_as_strict rfl rfl fun cdv A outer s H E hg hr => PSs.nox ?_
  have hu := hu64 hr
  have hu7 := hu70 hr
  exact (zCons (zIf (yCmp (ne_ok hu) (isB_eq true) (xMeth0 (c := 0) (nf_others _) (xV 0) T.cls_Book m_Book_others (cg_fn g_Book_others hg (hr.mono (by decide)) passes0 b_Book_others)) (xMeth0 (c := 0) (nf_others _) (xV 1) T.cls_Book m_Book_others (cg_fn g_Book_others hg (hr.mono (by decide)) passes0 b_Book_others)) (nomark _)) (zCons (zRet xBl)
    zNil) zNil)
    (zCons (zRet (bltn (all_okB rfl) rfl T.b_all (by decide +kernel) (xaCons (xComp rfl sc_Book_is_as_strict.nd (iSeq_ok (xFld (c := 0) (i := 3) (by show 3 < 6; decide) T.cls_Book T.na_own_holds (xV 1))) (blkOk_by (N := ["self", "other", "kind"]) (sc := defScope s_Book_is_as_strict) (own := [("kind", 2)]) (by decide +kernel)) rfl (tg1 2) (fun _ _ _ _ _ => pg_name (i := 2) sc_Book_is_as_strict.nd rfl (Or.inl rfl)) (fun _ _ _ _ _ => ptsNil) (fun _ _ _ _ _ => (xCmp in_ok (xV 2) (xFld (c := 0) (i := 3) (by show 3 < 6; decide) T.cls_Book T.na_own_holds (xV 0)) rfl))) xaNil)))
    zNil))
theorem ok_Book___eq__ (T : Tx w K mg C_Book)  {f : Addr} {fd : FuncData} (F : FunD K "__eq__" "Book.__eq__" (defArgs s_Book___eq__) (defBody s_Book___eq__) (defScope s_Book___eq__) [] [] f fd) : FnG P w K mg base CX0 2 f fd ["self", "other"] (spF (mkG C_Book) K f_Book___eq__) := by
  obtain ⟨a_Book_others, d_Book_others, F_Book_others, m_Book_others⟩ := T.F_Book_others
  have b_Book_others := bd_Book_others F_Book_others
  have k_Book_others := F_Book_others.kp
  have g_Book_others := ok_Book_others (P := P) (w := w) (base := base) T F_Book_others
  refine fnG_D F sc_Book___eq__ rfl rfl fun cdv A outer s H E hg hr => PSs.nox ?_
  have hu := hu64 hr
  have hu7 := hu70 hr
  exact (zCons (zRet (xAndB (xIsO (f := is0) rfl T.b_isinstance rfl T.mg_Book (fun c b h => is0_ok T.ci_Book c b h) (kit_own T.ck_Book) (xV 1)) (xAndB (xCmp (eq_ok hu) (xMeth0 (c := 0) (nf_others _) (xV 0) T.cls_Book m_Book_others (cg_fn g_Book_others hg (hr.mono (by decide)) passes0 b_Book_others)) (xMeth0 (c := 0) (nf_others _) (xV 1) T.cls_Book m_Book_others (cg_fn g_Book_others hg (hr.mono (by decide)) passes0 b_Book_others)) (nomark _)) (xOne (xCmp (eq_ok hu) (xFld (c := 0) (i := 3) (by show 3 < 6; decide) T.cls_Book T.na_own_holds (xV 0)) (xFld (c := 0) (i := 3) (by show 3 < 6; decide) T.cls_Book T.na_own_holds (xV 1)) (nomark _))))))
    zNil)
theorem ok__law_is_as_strict (T : Tx w K mg C_Book)  {f : Addr} {fd : FuncData} (F : FunD K "_law_is_as_strict" "_law_is_as_strict" (defArgs s__law_is_as_strict) (defBody s__law_is_as_strict) (defScope s__law_is_as_strict) [] [] f fd) : FnG P w K mg base CX0 1 f fd ["_law_rules", "_law_mate"] (spF (mkG C_Book) K f__law_is_as_strict) := by
  refine fnG_D F sc__law_is_as_strict rfl rfl fun cdv A outer s H E hg hr => PSs.nox ?_
  have hu := hu64 hr
  have hu7 := hu70 hr
  exact (zCons (zSet (i := 2) sc__law_is_as_strict.nd rfl (Or.inl rfl) (xLst (xaCons xStr (xaCons xStr (xaCons xStr (xaCons xStr (xaCons xStr (xaCons xStr (xaCons xStr (xaCons xStr xaNil))))))))))
    (zCons (zIf (yB (bltn (any_okB rfl) rfl T.b_any (by decide +kernel) (xaCons (xComp rfl sc__law_is_as_strict.nd (iSeq_ok (xV 2)) (blkOk_by (N := ["_law_rules", "_law_mate", "_law_parts", "_law_part", "_law_sort"]) (sc := defScope s__law_is_as_strict) (own := [("_law_part", 3)]) (by decide +kernel)) rfl (tg1 3) (fun _ _ _ _ _ => pg_name (i := 3) sc__law_is_as_strict.nd rfl (Or.inl rfl)) (fun _ _ _ _ _ => ptsNil) (fun _ _ _ _ _ => (xCmp (ne_ok hu) (xDg (hu1_of hu7) (xV 0) (xV 3)) (xDg (hu1_of hu7) (xV 1) (xV 3)) (nomark _)))) xaNil))) (zCons (zRet xBl)
    zNil) zNil)
    (zCons (zRet (bltn (all_okB rfl) rfl T.b_all (by decide +kernel) (xaCons (xComp rfl sc__law_is_as_strict.nd (iSeq_ok (xDg (hu1_of hu7) (xV 1) xStr)) (blkOk_by (N := ["_law_rules", "_law_mate", "_law_parts", "_law_part", "_law_sort"]) (sc := defScope s__law_is_as_strict) (own := [("_law_sort", 4)]) (by decide +kernel)) rfl (tg1 4) (fun _ _ _ _ _ => pg_name (i := 4) sc__law_is_as_strict.nd rfl (Or.inl rfl)) (fun _ _ _ _ _ => ptsNil) (fun _ _ _ _ _ => (xCmp in_ok (xV 4) (xDg (hu1_of hu7) (xV 0) xStr) rfl))) xaNil)))
    zNil)))
theorem ok__law_two_right (T : Tx w K mg C_Book)  {f : Addr} {fd : FuncData} (F : FunD K "_law_two_right" "_law_two_right" (defArgs s__law_two_right) (defBody s__law_two_right) (defScope s__law_two_right) [] [] f fd) : FnG P w K mg base CX0 4 f fd ["_law_one", "_law_two", "_law_rules", "_law_mate"] (spF (mkG C_Book) K f__law_two_right) := by
  obtain ⟨a_Book_is_as_strict, d_Book_is_as_strict, F_Book_is_as_strict, m_Book_is_as_strict⟩ := T.F_Book_is_as_strict
  have b_Book_is_as_strict := bd_Book_is_as_strict F_Book_is_as_strict
  have k_Book_is_as_strict := F_Book_is_as_strict.kp
  have g_Book_is_as_strict := ok_Book_is_as_strict (P := P) (w := w) (base := base) T F_Book_is_as_strict
  obtain ⟨a_Book___eq__, d_Book___eq__, F_Book___eq__, m_Book___eq__⟩ := T.F_Book___eq__
  have b_Book___eq__ := bd_Book___eq__ F_Book___eq__
  have k_Book___eq__ := F_Book___eq__.kp
  have g_Book___eq__ := ok_Book___eq__ (P := P) (w := w) (base := base) T F_Book___eq__
  obtain ⟨a__law_is_as_strict, d__law_is_as_strict, F__law_is_as_strict, m__law_is_as_strict⟩ := T.F__law_is_as_strict
  have b__law_is_as_strict := bd__law_is_as_strict F__law_is_as_strict
  have k__law_is_as_strict := F__law_is_as_strict.kp
  have g__law_is_as_strict := ok__law_is_as_strict (P := P) (w := w) (base := base) T F__law_is_as_strict
  refine fnG_D F sc__law_two_right rfl rfl fun cdv A outer s H E hg hr => PSs.nox ?_
  have hu := hu64 hr
  have hu7 := hu70 hr
  exact (zCons (zSet (i := 4) sc__law_two_right.nd rfl (Or.inl rfl) (xLst (xaCons (xCmp (eqO_ok (c := 0) g_Book___eq__ hg (hr.mono (by decide)) passes0 b_Book___eq__ m_Book___eq__.at_ m_Book___eq__.fn T.ci_Book hu) (xV 0) (xV 1) (nomark _)) (xaCons (xCmp (neO_ok (c := 0) g_Book___eq__ hg (hr.mono (by decide)) passes0 b_Book___eq__ m_Book___eq__.at_ m_Book___eq__.fn T.ne_Book T.ci_Book hu) (xV 0) (xV 1) (nomark _)) (xaCons (xMeth (c := 0) (nf_is_as_strict _) (xV 0) T.cls_Book m_Book_is_as_strict (cg_fn g_Book_is_as_strict hg (hr.mono (by decide)) passes0 b_Book_is_as_strict) (xaCons (xV 1) xaNil)) (xaCons (xMeth0K (c := 0) (nf_is_as_strict _) (xV 0) T.cls_Book m_Book_is_as_strict (cg_fn g_Book_is_as_strict hg (hr.mono (by decide)) passes0 (b_Book_is_as_strict_other F_Book_is_as_strict)) (kCons (xV 1) kNil)) xaNil))))))
    (zCons (zSet (i := 5) sc__law_two_right.nd rfl (Or.inl rfl) (xCall (cg_fn g__law_is_as_strict hg (hr.mono (by decide)) passes0 b__law_is_as_strict) rfl m__law_is_as_strict k__law_is_as_strict (xaCons (xV 2) (xaCons (xV 3) xaNil))))
    (zCons (zRet (xCmp (eq_ok hu) (bltn (rep_okB hg hu7) rfl T.b_repr (by decide +kernel) (xaCons (xV 4) xaNil)) (bltn (rep_okB hg hu7) rfl T.b_repr (by decide +kernel) (xaCons (xLst (xaCons (xCmp (eqK_ok (hu66_of hu7)) (xV 2) (xV 3) (nomark _)) (xaCons (xCmp (neK_ok (hu66_of hu7)) (xV 2) (xV 3) (nomark _)) (xaCons (xV 5) (xaCons (xV 5) xaNil))))) xaNil)) (nomark _)))
    zNil)))
theorem ok__law_known_right (T : Tx w K mg C_Book)  {f : Addr} {fd : FuncData} (F : FunD K "_law_known_right" "_law_known_right" (defArgs s__law_known_right) (defBody s__law_known_right) (defScope s__law_known_right) [] [] f fd) : FnG P w K mg base CX0 7 f fd [] (spF (mkG C_Book) K f__law_known_right) := by
  obtain ⟨a__law_book, d__law_book, F__law_book, m__law_book⟩ := T.F__law_book
  have b__law_book := bd__law_book F__law_book
  have k__law_book := F__law_book.kp
  have g__law_book := ok__law_book (P := P) (w := w) (base := base) T F__law_book
  obtain ⟨a__law_two_right, d__law_two_right, F__law_two_right, m__law_two_right⟩ := T.F__law_two_right
  have b__law_two_right := bd__law_two_right F__law_two_right
  have k__law_two_right := F__law_two_right.kp
  have g__law_two_right := ok__law_two_right (P := P) (w := w) (base := base) T F__law_two_right
  refine fnG_D F sc__law_known_right rfl rfl fun cdv A outer s H E hg hr => PSs.nox ?_
  have hu := hu64 hr
  have hu7 := hu70 hr
  exact (zCons (zSet (i := 0) sc__law_known_right.nd rfl (Or.inl rfl) (xDisp (ppCons xStr (xTup (xaCons xStr (xaCons xStr xaNil))) (ppCons xStr (xTup (xaCons xStr (xaCons xStr xaNil))) (ppCons xStr (xTup (xaCons xStr (xaCons xStr xaNil))) (ppCons xStr (xTup (xaCons xStr xaNil)) ppNil))))))
    (zCons (zE (xUpd (xV 0) (xDisp (ppCons xStr xStr (ppCons xStr xBl (ppCons xStr (xTup (xaCons xStr xaNil)) (ppCons xStr xInt (ppCons xStr xBl ppNil))))))))
    (zCons (zSet (i := 1) sc__law_known_right.nd rfl (Or.inl rfl) (xDisp (ppCons xStr (xTup (xaCons xStr (xaCons xStr xaNil))) (ppCons xStr (xTup (xaCons xStr xaNil)) (ppCons xStr (xTup (xaCons xStr (xaCons xStr (xaCons xStr xaNil)))) (ppCons xStr (xTup (xaCons xStr xaNil)) ppNil))))))
    (zCons (zE (xUpd (xV 1) (xDisp (ppCons xStr xStr (ppCons xStr xBl (ppCons xStr (xTup (xaCons xStr (xaCons xStr xaNil))) (ppCons xStr xInt (ppCons xStr xBl ppNil))))))))
    (zCons (zSet (i := 2) sc__law_known_right.nd rfl (Or.inl rfl) (xCall (cg_fn g__law_book hg (hr.mono (by decide)) passes0 b__law_book) rfl m__law_book k__law_book (xaCons (xV 0) xaNil)))
    (zCons (zForK PassesOwn.never rfl (xV 0) (gName_ok (i := 3) sc__law_known_right.nd rfl (Or.inl rfl)) (zCons (zSet (i := 4) sc__law_known_right.nd rfl (Or.inl rfl) (bltnT dict_okB rfl T.b_dict (by decide +kernel) (xaCons (xV 0) xaNil)))
    (zCons (zDput (hu1_of hu7) (xV 4) (xV 3) (xDg (hu1_of hu7) (xV 1) (xV 3)))
    (zCons (zSet (i := 5) sc__law_known_right.nd rfl (Or.inl rfl) (xCall (cg_fn g__law_book hg (hr.mono (by decide)) passes0 b__law_book) rfl m__law_book k__law_book (xaCons (xV 4) xaNil)))
    (zCons (zIf (PW.pt (wOr (yNot (yB (xCall (cg_fn g__law_two_right hg (hr.mono (by decide)) passes0 b__law_two_right) rfl m__law_two_right k__law_two_right (xaCons (xV 2) (xaCons (xV 5) (xaCons (xV 0) (xaCons (xV 4) xaNil))))))) (wOneO (yNot (yB (xCall (cg_fn g__law_two_right hg (hr.mono (by decide)) passes0 b__law_two_right) rfl m__law_two_right k__law_two_right (xaCons (xV 5) (xaCons (xV 2) (xaCons (xV 4) (xaCons (xV 0) xaNil)))))))))) (zCons (zRet xBl)
    zNil) zNil)
    zNil)))))
    (zCons (zRet xBl)
    zNil)))))))
theorem ok__law_draw (T : Tx w K mg C_Book)  {f : Addr} {fd : FuncData} (F : FunD K "_law_draw" "_law_draw" (defArgs s__law_draw) (defBody s__law_draw) (defScope s__law_draw) [] [] f fd) : FnG P w K mg base CX0 1 f fd ["_law_pot_here", "_law_sides"] (spF (mkG C_Book) K f__law_draw) := by
  refine fnG_D F sc__law_draw rfl rfl fun cdv A outer s H E hg hr => PSs.nox ?_
  have hu := hu64 hr
  have hu7 := hu70 hr
  exact (zCons (zIf (yCmp gt_ok isB_gt (xIx (xV 0) xInt) xInt (nomark _)) (zCons (zAsg (ng_tup (ngs_cons ng_sub (ngs_cons ng_name ngs_nil))) (bltn divmod_okB rfl T.b_divmod (by decide +kernel) (xaCons (xIx (xV 0) xInt) (xaCons (xV 1) xaNil))) (gT_ok rfl (gsCons_ok (gSub_ok (xV 0) xInt) (gsCons_ok (gName_ok (i := 2) sc__law_draw.nd rfl (Or.inl rfl)) gsNil_ok))))
    (zCons (zRet (xV 2))
    zNil)) zNil)
    (zCons (zAsg ng_sub (x2 mod_ok (bltnT int_okB rfl T.b_int (by decide +kernel) (xaCons (x2 add_ok (x2 mul_ok (xIx (xV 0) xInt) xInt) xInt) xaNil)) xInt) (gSub_ok (xV 0) xInt))
    (zCons (zRet (x2 mod_ok (bltnT int_okB rfl T.b_int (by decide +kernel) (xaCons (x2 div_ok (x2 mod_ok (bltnT int_okB rfl T.b_int (by decide +kernel) (xaCons (x2 mul_ok (xIx (xV 0) xInt) (xIx (xV 0) xInt)) xaNil)) xInt) xInt) xaNil)) (xV 1)))
    zNil)))
theorem ok__law_pick (T : Tx w K mg C_Book)  {f : Addr} {fd : FuncData} (F : FunD K "_law_pick" "_law_pick" (defArgs s__law_pick) (defBody s__law_pick) (defScope s__law_pick) [] [] f fd) : FnG P w K mg base CX0 2 f fd ["_law_pot_here", "_law_some"] (spF (mkG C_Book) K f__law_pick) := by
  obtain ⟨a__law_draw, d__law_draw, F__law_draw, m__law_draw⟩ := T.F__law_draw
  have b__law_draw := bd__law_draw F__law_draw
  have k__law_draw := F__law_draw.kp
  have g__law_draw := ok__law_draw (P := P) (w := w) (base := base) T F__law_draw
  refine fnG_D F sc__law_pick rfl rfl fun cdv A outer s H E hg hr => PSs.nox ?_
  have hu := hu64 hr
  have hu7 := hu70 hr
  exact (zCons (zRet (xIx (xV 1) (xCall (cg_fn g__law_draw hg (hr.mono (by decide)) passes0 b__law_draw) rfl m__law_draw k__law_draw (xaCons (xV 0) (xaCons (bltn len_okB rfl T.b_len (by decide +kernel) (xaCons (xV 1) xaNil)) xaNil)))))
    zNil)
theorem ok__law_sequences (T : Tx w K mg C_Book)  {f : Addr} {fd : FuncData} (F : FunD K "_law_sequences" "_law_sequences" (defArgs s__law_sequences) (defBody s__law_sequences) (defScope s__law_sequences) [] [] f fd) : FnG P w K mg base CX0 1 f fd ["_law_words"] (spF (mkG C_Book) K f__law_sequences) := by
  refine fnG_D F sc__law_sequences rfl rfl fun cdv A outer s H E hg hr => PSs.nox ?_
  have hu := hu64 hr
  have hu7 := hu70 hr
  exact (zCons (zPar (i := 2) (j := 3) rfl sc__law_sequences.nd rfl rfl (by decide) rfl rfl (xaCons (xLst (xaCons (xTup xaNil) xaNil)) (xaCons (xLst (xaCons (xTup xaNil) xaNil)) xaNil)) rfl)
    (zCons (zFor PassesOwn.never rfl (iRng1_ok rfl T.b_range (bltn len_okB rfl T.b_len (by decide +kernel) (xaCons (xV 0) xaNil))) (gName_ok (i := 1) sc__law_sequences.nd rfl (Or.inl rfl)) (zCons (zSet (i := 4) sc__law_sequences.nd rfl (Or.inl rfl) (xLst xaNil))
    (zCons (zFor PassesOwn.never rfl (iSeq_ok (xV 3)) (gName_ok (i := 5) sc__law_sequences.nd rfl (Or.inr rfl)) (zCons (zE (xExtend (xV 4) (xaCons (xComp rfl sc__law_sequences.nd (iSeq_ok (xV 0)) (blkOk_by (N := ["_law_words", "_law_turn", "_law_found", "_law_longer", "_law_later", "_law_some", "_law_word"]) (sc := defScope s__law_sequences) (own := [("_law_word", 6)]) (by decide +kernel)) rfl (tg1 6) (fun _ _ _ _ _ => pg_name (i := 6) sc__law_sequences.nd rfl (Or.inl rfl)) (fun _ _ _ _ _ => pts_one (yCmp notin_ok (isB_in true) (xV 6) (xV 5) rfl)) (fun _ _ _ _ _ => (x2 add_ok (xV 5) (xTup (xaCons (xV 6) xaNil))))) xaNil)))
    zNil))
    (zCons (zSet (i := 3) sc__law_sequences.nd rfl (Or.inl rfl) (xV 4))
    (zCons (zE (xExtend (xV 2) (xaCons (xV 3) xaNil)))
    zNil)))))
    (zCons (zRet (xV 2))
    zNil)))
theorem ok__law_is_ahead (T : Tx w K mg C_Book)  {f : Addr} {fd : FuncData} (F : FunD K "_law_is_ahead" "_law_is_ahead" (defArgs s__law_is_ahead) (defBody s__law_is_ahead) (defScope s__law_is_ahead) [] [] f fd) : FnG P w K mg base CX0 1 f fd ["_law_some", "_law_word", "_law_later"] (spF (mkG C_Book) K f__law_is_ahead) := by
  refine fnG_D F sc__law_is_ahead rfl rfl fun cdv A outer s H E hg hr => PSs.nox ?_
  have hu := hu64 hr
  have hu7 := hu70 hr
  exact (zCons (zRet (xOrB (xCmp notin_ok (xV 1) (xV 0) rfl) (xOrB (xCmp notin_ok (xV 2) (xV 0) rfl) (xOne (xCmp lt_ok (xTupIx (xV 0) (xaCons (xV 1) xaNil)) (xTupIx (xV 0) (xaCons (xV 2) xaNil)) (nomark _))))))
    zNil)
theorem ok__law_is_take (T : Tx w K mg C_Book)  {f : Addr} {fd : FuncData} (F : FunD K "_law_is_take" "_law_is_take" (defArgs s__law_is_take) (defBody s__law_is_take) (defScope s__law_is_take) [] [] f fd) : FnG P w K mg base CX0 2 f fd ["_law_some", "_law_amount"] (spF (mkG C_Book) K f__law_is_take) := by
  obtain ⟨a__law_is_ahead, d__law_is_ahead, F__law_is_ahead, m__law_is_ahead⟩ := T.F__law_is_ahead
  have b__law_is_ahead := bd__law_is_ahead F__law_is_ahead
  have k__law_is_ahead := F__law_is_ahead.kp
  have g__law_is_ahead := ok__law_is_ahead (P := P) (w := w) (base := base) T F__law_is_ahead
  refine fnG_D F sc__law_is_take rfl rfl fun cdv A outer s H E hg hr => PSs.nox ?_
  have hu := hu64 hr
  have hu7 := hu70 hr
  exact (zCons (zIf (PW.pt (wOr (yCmp notin_ok (isB_in true) xStr (xV 0) rfl) (wOr (yCmp (eq_ok hu) (isB_eq false) (xCmp in_ok xStr (xV 0) rfl) (xCmp in_ok xStr (xV 0) rfl) (nomark _)) (wOneO (PW.pt (wAnd (yCmp in_ok (isB_in false) xStr (xV 0) rfl) (wOne (yCmp in_ok (isB_in false) xStr (xV 0) rfl)))))))) (zCons (zRet xBl)
    zNil) zNil)
    (zCons (zIf (PW.pt (wAnd (yCmp gt_ok isB_gt (xV 1) xInt (nomark _)) (wOne (yCmp (ne_ok hu) (isB_eq true) (xIx (xV 0) (xNeg xInt)) xStr (nomark _))))) (zCons (zRet xBl)
    zNil) zNil)
    (zCons (zRet (xAndB (xCall (cg_fn g__law_is_ahead hg (hr.mono (by decide)) passes0 b__law_is_ahead) rfl m__law_is_ahead k__law_is_ahead (xaCons (xV 0) (xaCons xStr (xaCons xStr xaNil)))) (xOne (xCall (cg_fn g__law_is_ahead hg (hr.mono (by decide)) passes0 b__law_is_ahead) rfl m__law_is_ahead k__law_is_ahead (xaCons (xV 0) (xaCons xStr (xaCons xStr xaNil)))))))
    zNil)))
theorem ok__law_takes (T : Tx w K mg C_Book)  {f : Addr} {fd : FuncData} (F : FunD K "_law_takes" "_law_takes" (defArgs s__law_takes) (defBody s__law_takes) (defScope s__law_takes) [] [] f fd) : FnG P w K mg base CX0 3 f fd ["_law_amount"] (spF (mkG C_Book) K f__law_takes) := by
  obtain ⟨a__law_sequences, d__law_sequences, F__law_sequences, m__law_sequences⟩ := T.F__law_sequences
  have b__law_sequences := bd__law_sequences F__law_sequences
  have k__law_sequences := F__law_sequences.kp
  have g__law_sequences := ok__law_sequences (P := P) (w := w) (base := base) T F__law_sequences
  obtain ⟨a__law_is_take, d__law_is_take, F__law_is_take, m__law_is_take⟩ := T.F__law_is_take
  have b__law_is_take := bd__law_is_take F__law_is_take
  have k__law_is_take := F__law_is_take.kp
  have g__law_is_take := ok__law_is_take (P := P) (w := w) (base := base) T F__law_is_take
  refine fnG_D F sc__law_takes rfl rfl fun cdv A outer s H E hg hr => PSs.nox ?_
  have hu := hu64 hr
  have hu7 := hu70 hr
  exact (zCons (zRet (xComp rfl sc__law_takes.nd (iSeq_ok (xCall (cg_fn g__law_sequences hg (hr.mono (by decide)) passes0 b__law_sequences) rfl m__law_sequences k__law_sequences (xaCons (xLst (xaCons xStr (xaCons xStr (xaCons xStr (xaCons xStr xaNil))))) xaNil))) (blkOk_by (N := ["_law_amount", "_law_some"]) (sc := defScope s__law_takes) (own := [("_law_some", 1)]) (by decide +kernel)) rfl (tg1 1) (fun _ _ _ _ _ => pg_name (i := 1) sc__law_takes.nd rfl (Or.inl rfl)) (fun _ _ _ _ _ => pts_one (yB (xCall (cg_fn g__law_is_take hg (hr.mono (by decide)) passes0 b__law_is_take) rfl m__law_is_take k__law_is_take (xaCons (xV 1) (xaCons (xV 0) xaNil))))) (fun _ _ _ _ _ => (xV 1))))
    zNil)
theorem ok__law_is_give (T : Tx w K mg C_Book)  {f : Addr} {fd : FuncData} (F : FunD K "_law_is_give" "_law_is_give" (defArgs s__law_is_give) (defBody s__law_is_give) (defScope s__law_is_give) [] [] f fd) : FnG P w K mg base CX0 2 f fd ["_law_some"] (spF (mkG C_Book) K f__law_is_give) := by
  obtain ⟨a__law_is_ahead, d__law_is_ahead, F__law_is_ahead, m__law_is_ahead⟩ := T.F__law_is_ahead
  have b__law_is_ahead := bd__law_is_ahead F__law_is_ahead
  have k__law_is_ahead := F__law_is_ahead.kp
  have g__law_is_ahead := ok__law_is_ahead (P := P) (w := w) (base := base) T F__law_is_ahead
  refine fnG_D F sc__law_is_give rfl rfl fun cdv A outer s H E hg hr => PSs.nox ?_
  have hu := hu64 hr
  have hu7 := hu70 hr
  exact (zCons (zRet (xAndB (xCmp in_ok xStr (xV 0) rfl) (xOne (xOrB (xCmp notin_ok xStr (xV 0) rfl) (xOne (xAndB (xCmp in_ok xStr (xV 0) rfl) (xOne (xCall (cg_fn g__law_is_ahead hg (hr.mono (by decide)) passes0 b__law_is_ahead) rfl m__law_is_ahead k__law_is_ahead (xaCons (xV 0) (xaCons xStr (xaCons xStr xaNil)))))))))))
    zNil)
theorem ok__law_gives (T : Tx w K mg C_Book)  {f : Addr} {fd : FuncData} (F : FunD K "_law_gives" "_law_gives" (defArgs s__law_gives) (defBody s__law_gives) (defScope s__law_gives) [] [] f fd) : FnG P w K mg base CX0 3 f fd [] (spF (mkG C_Book) K f__law_gives) := by
  obtain ⟨a__law_sequences, d__law_sequences, F__law_sequences, m__law_sequences⟩ := T.F__law_sequences
  have b__law_sequences := bd__law_sequences F__law_sequences
  have k__law_sequences := F__law_sequences.kp
  have g__law_sequences := ok__law_sequences (P := P) (w := w) (base := base) T F__law_sequences
  obtain ⟨a__law_is_give, d__law_is_give, F__law_is_give, m__law_is_give⟩ := T.F__law_is_give
  have b__law_is_give := bd__law_is_give F__law_is_give
  have k__law_is_give := F__law_is_give.kp
  have g__law_is_give := ok__law_is_give (P := P) (w := w) (base := base) T F__law_is_give
  refine fnG_D F sc__law_gives rfl rfl fun cdv A outer s H E hg hr => PSs.nox ?_
  have hu := hu64 hr
  have hu7 := hu70 hr
  exact (zCons (zRet (xComp rfl sc__law_gives.nd (iSeq_ok (xCall (cg_fn g__law_sequences hg (hr.mono (by decide)) passes0 b__law_sequences) rfl m__law_sequences k__law_sequences (xaCons (xLst (xaCons xStr (xaCons xStr (xaCons xStr xaNil)))) xaNil))) (blkOk_by (N := ["_law_some"]) (sc := defScope s__law_gives) (own := [("_law_some", 0)]) (by decide +kernel)) rfl (tg1 0) (fun _ _ _ _ _ => pg_name (i := 0) sc__law_gives.nd rfl (Or.inl rfl)) (fun _ _ _ _ _ => pts_one (yB (xCall (cg_fn g__law_is_give hg (hr.mono (by decide)) passes0 b__law_is_give) rfl m__law_is_give k__law_is_give (xaCons (xV 0) xaNil)))) (fun _ _ _ _ _ => (xV 0))))
    zNil)
theorem ok__law_is_move (T : Tx w K mg C_Book)  {f : Addr} {fd : FuncData} (F : FunD K "_law_is_move" "_law_is_move" (defArgs s__law_is_move) (defBody s__law_is_move) (defScope s__law_is_move) [] [] f fd) : FnG P w K mg base CX0 2 f fd ["_law_some", "_law_is_shared"] (spF (mkG C_Book) K f__law_is_move) := by
  obtain ⟨a__law_is_ahead, d__law_is_ahead, F__law_is_ahead, m__law_is_ahead⟩ := T.F__law_is_ahead
  have b__law_is_ahead := bd__law_is_ahead F__law_is_ahead
  have k__law_is_ahead := F__law_is_ahead.kp
  have g__law_is_ahead := ok__law_is_ahead (P := P) (w := w) (base := base) T F__law_is_ahead
  refine fnG_D F sc__law_is_move rfl rfl fun cdv A outer s H E hg hr => PSs.nox ?_
  have hu := hu64 hr
  have hu7 := hu70 hr
  exact (zCons (zIf (yCmp (eq_ok hu) (isB_eq false) (xV 0) (xTup xaNil) (nomark _)) (zCons (zRet xBl)
    zNil) zNil)
    (zCons (zIf (PW.pt (wOr (yCmp notin_ok (isB_in true) xStr (xV 0) rfl) (wOneO (PW.pt (wAnd (yCmp in_ok (isB_in false) xStr (xV 0) rfl) (wOne (PW.pt (wOr (yCmp in_ok (isB_in false) xStr (xV 0) rfl) (wOneO (yCmp in_ok (isB_in false) xStr (xV 0) rfl)))))))))) (zCons (zRet xBl)
    zNil) zNil)
    (zCons (zIf (PW.pt (wAnd (yCmp in_ok (isB_in false) xStr (xV 0) rfl) (wOne (PW.pt (wOr (yCmp notin_ok (isB_in true) xStr (xV 0) rfl) (wOneO (yNot (yB (xCall (cg_fn g__law_is_ahead hg (hr.mono (by decide)) passes0 b__law_is_ahead) rfl m__law_is_ahead k__law_is_ahead (xaCons (xV 0) (xaCons xStr (xaCons xStr xaNil)))))))))))) (zCons (zRet xBl)
    zNil) zNil)
    (zCons (zIf (PW.pt (wAnd (yNot (yB (xV 1))) (wOne (yCmp (ne_ok hu) (isB_eq true) (xIx (xV 0) xInt) xStr (nomark _))))) (zCons (zRet xBl)
    zNil) zNil)
    (zCons (zFor PassesOwn.never rfl (iSeq_ok (xLst (xaCons xStr (xaCons xStr xaNil)))) (gName_ok (i := 2) sc__law_is_move.nd rfl (Or.inl rfl)) (zCons (zIf (PW.pt (wOr (yNot (yB (xCall (cg_fn g__law_is_ahead hg (hr.mono (by decide)) passes0 b__law_is_ahead) rfl m__law_is_ahead k__law_is_ahead (xaCons (xV 0) (xaCons (xV 2) (xaCons xStr xaNil)))))) (wOneO (yNot (yB (xCall (cg_fn g__law_is_ahead hg (hr.mono (by decide)) passes0 b__law_is_ahead) rfl m__law_is_ahead k__law_is_ahead (xaCons (xV 0) (xaCons (xV 2) (xaCons xStr xaNil))))))))) (zCons (zRet xBl)
    zNil) zNil)
    zNil))
    (zCons (zRet xBl)
    zNil))))))
theorem ok__law_moves (T : Tx w K mg C_Book)  {f : Addr} {fd : FuncData} (F : FunD K "_law_moves" "_law_moves" (defArgs s__law_moves) (defBody s__law_moves) (defScope s__law_moves) [] [] f fd) : FnG P w K mg base CX0 3 f fd ["_law_is_shared"] (spF (mkG C_Book) K f__law_moves) := by
  obtain ⟨a__law_sequences, d__law_sequences, F__law_sequences, m__law_sequences⟩ := T.F__law_sequences
  have b__law_sequences := bd__law_sequences F__law_sequences
  have k__law_sequences := F__law_sequences.kp
  have g__law_sequences := ok__law_sequences (P := P) (w := w) (base := base) T F__law_sequences
  obtain ⟨a__law_is_move, d__law_is_move, F__law_is_move, m__law_is_move⟩ := T.F__law_is_move
  have b__law_is_move := bd__law_is_move F__law_is_move
  have k__law_is_move := F__law_is_move.kp
  have g__law_is_move := ok__law_is_move (P := P) (w := w) (base := base) T F__law_is_move
  refine fnG_D F sc__law_moves rfl rfl fun cdv A outer s H E hg hr => PSs.nox ?_
  have hu := hu64 hr
  have hu7 := hu70 hr
  exact (zCons (zSet (i := 1) sc__law_moves.nd rfl (Or.inl rfl) (xLst (xaCons xStr (xaCons xStr (xaCons xStr (xaCons xStr (xaCons xStr (xaCons xStr xaNil))))))))
    (zCons (zRet (xComp rfl sc__law_moves.nd (iSeq_ok (xCall (cg_fn g__law_sequences hg (hr.mono (by decide)) passes0 b__law_sequences) rfl m__law_sequences k__law_sequences (xaCons (xV 1) xaNil))) (blkOk_by (N := ["_law_is_shared", "_law_words", "_law_some"]) (sc := defScope s__law_moves) (own := [("_law_some", 2)]) (by decide +kernel)) rfl (tg1 2) (fun _ _ _ _ _ => pg_name (i := 2) sc__law_moves.nd rfl (Or.inl rfl)) (fun _ _ _ _ _ => pts_one (yB (xCall (cg_fn g__law_is_move hg (hr.mono (by decide)) passes0 b__law_is_move) rfl m__law_is_move k__law_is_move (xaCons (xV 2) (xaCons (xV 0) xaNil))))) (fun _ _ _ _ _ => (xV 2))))
    zNil))
theorem ok__law_lifts (T : Tx w K mg C_Book)  {f : Addr} {fd : FuncData} (F : FunD K "_law_lifts" "_law_lifts" (defArgs s__law_lifts) (defBody s__law_lifts) (defScope s__law_lifts) [] [] f fd) : FnG P w K mg base CX0 1 f fd [] (spF (mkG C_Book) K f__law_lifts) := by
  refine fnG_D F sc__law_lifts rfl rfl fun cdv A outer s H E hg hr => PSs.nox ?_
  have hu := hu64 hr
  have hu7 := hu70 hr
  exact (zCons (zRet (xLst (xaCons (xTup xaNil) (xaCons (xTup (xaCons xStr xaNil)) (xaCons (xTup (xaCons xStr xaNil)) (xaCons (xTup (xaCons xStr (xaCons xStr xaNil))) (xaCons (xTup (xaCons xStr (xaCons xStr xaNil))) (xaCons (xTup (xaCons xStr xaNil)) xaNil))))))))
    zNil)
theorem ok__law_any (T : Tx w K mg C_Book)  {f : Addr} {fd : FuncData} (F : FunD K "_law_any" "_law_any" (defArgs s__law_any) (defBody s__law_any) (defScope s__law_any) [] [] f fd) : FnG P w K mg base CX0 4 f fd ["_law_pot_here"] (spF (mkG C_Book) K f__law_any) := by
  obtain ⟨a__law_pick, d__law_pick, F__law_pick, m__law_pick⟩ := T.F__law_pick
  have b__law_pick := bd__law_pick F__law_pick
  have k__law_pick := F__law_pick.kp
  have g__law_pick := ok__law_pick (P := P) (w := w) (base := base) T F__law_pick
  obtain ⟨a__law_draw, d__law_draw, F__law_draw, m__law_draw⟩ := T.F__law_draw
  have b__law_draw := bd__law_draw F__law_draw
  have k__law_draw := F__law_draw.kp
  have g__law_draw := ok__law_draw (P := P) (w := w) (base := base) T F__law_draw
  obtain ⟨a__law_takes, d__law_takes, F__law_takes, m__law_takes⟩ := T.F__law_takes
  have b__law_takes := bd__law_takes F__law_takes
  have k__law_takes := F__law_takes.kp
  have g__law_takes := ok__law_takes (P := P) (w := w) (base := base) T F__law_takes
  obtain ⟨a__law_gives, d__law_gives, F__law_gives, m__law_gives⟩ := T.F__law_gives
  have b__law_gives := bd__law_gives F__law_gives
  have k__law_gives := F__law_gives.kp
  have g__law_gives := ok__law_gives (P := P) (w := w) (base := base) T F__law_gives
  obtain ⟨a__law_moves, d__law_moves, F__law_moves, m__law_moves⟩ := T.F__law_moves
  have b__law_moves := bd__law_moves F__law_moves
  have k__law_moves := F__law_moves.kp
  have g__law_moves := ok__law_moves (P := P) (w := w) (base := base) T F__law_moves
  obtain ⟨a__law_lifts, d__law_lifts, F__law_lifts, m__law_lifts⟩ := T.F__law_lifts
  have b__law_lifts := bd__law_lifts F__law_lifts
  have k__law_lifts := F__law_lifts.kp
  have g__law_lifts := ok__law_lifts (P := P) (w := w) (base := base) T F__law_lifts
  refine fnG_D F sc__law_any rfl rfl fun cdv A outer s H E hg hr => PSs.nox ?_
  have hu := hu64 hr
  have hu7 := hu70 hr
  exact (zCons (zSet (i := 1) sc__law_any.nd rfl (Or.inl rfl) (xDisp (ppCons xStr (xCall (cg_fn g__law_pick hg (hr.mono (by decide)) passes0 b__law_pick) rfl m__law_pick k__law_pick (xaCons (xV 0) (xaCons (xLst (xaCons xStr (xaCons xStr (xaCons xStr xaNil)))) xaNil))) (ppCons xStr (xCmp (eq_ok hu) (xCall (cg_fn g__law_draw hg (hr.mono (by decide)) passes0 b__law_draw) rfl m__law_draw k__law_draw (xaCons (xV 0) (xaCons xInt xaNil))) xInt (nomark _)) ppNil))))
    (zCons (zDput (hu1_of hu7) (xV 1) xStr (xCall (cg_fn g__law_pick hg (hr.mono (by decide)) passes0 b__law_pick) rfl m__law_pick k__law_pick (xaCons (xV 0) (xaCons (xLst (xaCons xInt (xaCons xInt (xaCons xInt (xaCons (x2 add_ok xInt (xCall (cg_fn g__law_draw hg (hr.mono (by decide)) passes0 b__law_draw) rfl m__law_draw k__law_draw (xaCons (xV 0) (xaCons xInt xaNil)))) (xaCons xInt xaNil)))))) xaNil))))
    (zCons (zDput (hu1_of hu7) (xV 1) xStr (xCmp (eq_ok hu) (xCall (cg_fn g__law_draw hg (hr.mono (by decide)) passes0 b__law_draw) rfl m__law_draw k__law_draw (xaCons (xV 0) (xaCons xInt xaNil))) xInt (nomark _)))
    (zCons (zDput (hu1_of hu7) (xV 1) xStr (bltnT tuple_okB rfl T.b_tuple (by decide +kernel) (xaCons (xComp rfl sc__law_any.nd (iSeq_ok (xLst (xaCons xStr (xaCons xStr (xaCons xStr (xaCons xStr xaNil)))))) (blkOk_by (N := ["_law_pot_here", "_law_found", "_law_sort"]) (sc := defScope s__law_any) (own := [("_law_sort", 2)]) (by decide +kernel)) rfl (tg1 2) (fun _ _ _ _ _ => pg_name (i := 2) sc__law_any.nd rfl (Or.inl rfl)) (fun _ _ _ _ _ => pts_one (yCmp (eq_ok hu) (isB_eq false) (xCall (cg_fn g__law_draw hg (hr.mono (by decide)) passes0 b__law_draw) rfl m__law_draw k__law_draw (xaCons (xV 0) (xaCons xInt xaNil))) xInt (nomark _))) (fun _ _ _ _ _ => (xV 2))) xaNil)))
    (zCons (zDput (hu1_of hu7) (xV 1) xStr (xCall (cg_fn g__law_pick hg (hr.mono (by decide)) passes0 b__law_pick) rfl m__law_pick k__law_pick (xaCons (xV 0) (xaCons (xCall (cg_fn g__law_takes hg (hr.mono (by decide)) passes0 b__law_takes) rfl m__law_takes k__law_takes (xaCons (xDg (hu1_of hu7) (xV 1) xStr) xaNil)) xaNil))))
    (zCons (zDput (hu1_of hu7) (xV 1) xStr (xCall (cg_fn g__law_pick hg (hr.mono (by decide)) passes0 b__law_pick) rfl m__law_pick k__law_pick (xaCons (xV 0) (xaCons (xCall0 (cg_fn g__law_gives hg (hr.mono (by decide)) passes0 b__law_gives) rfl m__law_gives k__law_gives) xaNil))))
    (zCons (zDput (hu1_of hu7) (xV 1) xStr (xCall (cg_fn g__law_pick hg (hr.mono (by decide)) passes0 b__law_pick) rfl m__law_pick k__law_pick (xaCons (xV 0) (xaCons (xCall (cg_fn g__law_moves hg (hr.mono (by decide)) passes0 b__law_moves) rfl m__law_moves k__law_moves (xaCons (xDg (hu1_of hu7) (xV 1) xStr) xaNil)) xaNil))))
    (zCons (zDput (hu1_of hu7) (xV 1) xStr (xCall (cg_fn g__law_pick hg (hr.mono (by decide)) passes0 b__law_pick) rfl m__law_pick k__law_pick (xaCons (xV 0) (xaCons (xCall0 (cg_fn g__law_lifts hg (hr.mono (by decide)) passes0 b__law_lifts) rfl m__law_lifts k__law_lifts) xaNil))))
    (zCons (zRet (xV 1))
    zNil)))))))))
theorem ok__law_exchanged (T : Tx w K mg C_Book)  {f : Addr} {fd : FuncData} (F : FunD K "_law_exchanged" "_law_exchanged" (defArgs s__law_exchanged) (defBody s__law_exchanged) (defScope s__law_exchanged) [] [] f fd) : FnG P w K mg base CX0 4 f fd ["_law_pot_here", "_law_rules", "_law_later"] (spF (mkG C_Book) K f__law_exchanged) := by
  obtain ⟨a__law_pick, d__law_pick, F__law_pick, m__law_pick⟩ := T.F__law_pick
  have b__law_pick := bd__law_pick F__law_pick
  have k__law_pick := F__law_pick.kp
  have g__law_pick := ok__law_pick (P := P) (w := w) (base := base) T F__law_pick
  obtain ⟨a__law_draw, d__law_draw, F__law_draw, m__law_draw⟩ := T.F__law_draw
  have b__law_draw := bd__law_draw F__law_draw
  have k__law_draw := F__law_draw.kp
  have g__law_draw := ok__law_draw (P := P) (w := w) (base := base) T F__law_draw
  obtain ⟨a__law_takes, d__law_takes, F__law_takes, m__law_takes⟩ := T.F__law_takes
  have b__law_takes := bd__law_takes F__law_takes
  have k__law_takes := F__law_takes.kp
  have g__law_takes := ok__law_takes (P := P) (w := w) (base := base) T F__law_takes
  obtain ⟨a__law_moves, d__law_moves, F__law_moves, m__law_moves⟩ := T.F__law_moves
  have b__law_moves := bd__law_moves F__law_moves
  have k__law_moves := F__law_moves.kp
  have g__law_moves := ok__law_moves (P := P) (w := w) (base := base) T F__law_moves
  refine fnG_D F sc__law_exchanged rfl rfl fun cdv A outer s H E hg hr => PSs.nox ?_
  have hu := hu64 hr
  have hu7 := hu70 hr
  exact (zCons (zPar (i := 3) (j := 4) rfl sc__law_exchanged.nd rfl rfl (by decide) rfl rfl (xaCons (bltnT dict_okB rfl T.b_dict (by decide +kernel) (xaCons (xV 1) xaNil)) (xaCons (xCall (cg_fn g__law_pick hg (hr.mono (by decide)) passes0 b__law_pick) rfl m__law_pick k__law_pick (xaCons (xV 0) (xaCons (xLst (xaCons xStr (xaCons xStr (xaCons xStr (xaCons xStr (xaCons xStr (xaCons xStr (xaCons xStr (xaCons xStr xaNil))))))))) xaNil))) xaNil)) rfl)
    (zCons (zIf (yCmp in_ok (isB_in false) (xV 4) (xLst (xaCons xStr (xaCons xStr (xaCons xStr (xaCons xStr xaNil))))) rfl) (zCons (zDput (hu1_of hu7) (xV 3) (xV 4) (xDg (hu1_of hu7) (xV 2) (xV 4)))
    zNil) (zCons (zIf (yCmp (eq_ok hu) (isB_eq false) (xV 4) xStr (nomark _)) (zCons (zSet (i := 5) sc__law_exchanged.nd rfl (Or.inl rfl) (x2 add_ok xInt (xCall (cg_fn g__law_draw hg (hr.mono (by decide)) passes0 b__law_draw) rfl m__law_draw k__law_draw (xaCons (xV 0) (xaCons xInt xaNil)))))
    (zCons (zDput (hu1_of hu7) (xV 3) (xV 4) (xIf (yCmp (inDp_ok hu7) (isB_inDp false) (xDg (hu1_of hu7) (xV 1) xStr) (xCall (cg_fn g__law_takes hg (hr.mono (by decide)) passes0 b__law_takes) rfl m__law_takes k__law_takes (xaCons (xV 5) xaNil)) rfl) (xV 5) (xDg (hu1_of hu7) (xV 1) (xV 4))))
    zNil)) (zCons (zIf (yCmp (eq_ok hu) (isB_eq false) (xV 4) xStr (nomark _)) (zCons (zSet (i := 6) sc__law_exchanged.nd rfl (Or.inl rfl) (xCmp (inDp_ok hu7) (xDg (hu1_of hu7) (xV 1) xStr) (xCall (cg_fn g__law_moves hg (hr.mono (by decide)) passes0 b__law_moves) rfl m__law_moves k__law_moves (xaCons (xNotB (xDg (hu1_of hu7) (xV 1) xStr)) xaNil)) rfl))
    (zCons (zDput (hu1_of hu7) (xV 3) (xV 4) (xIf (yB (xV 6)) (xNotB (xDg (hu1_of hu7) (xV 1) xStr)) (xDg (hu1_of hu7) (xV 1) xStr)))
    zNil)) (zCons (zDput (hu1_of hu7) (xV 3) (xV 4) (xCall (cg_fn g__law_pick hg (hr.mono (by decide)) passes0 b__law_pick) rfl m__law_pick k__law_pick (xaCons (xV 0) (xaCons (xIf (yCmp (eq_ok hu) (isB_eq false) (xV 4) xStr (nomark _)) (xCall (cg_fn g__law_takes hg (hr.mono (by decide)) passes0 b__law_takes) rfl m__law_takes k__law_takes (xaCons (xDg (hu1_of hu7) (xV 1) xStr) xaNil)) (xCall (cg_fn g__law_moves hg (hr.mono (by decide)) passes0 b__law_moves) rfl m__law_moves k__law_moves (xaCons (xDg (hu1_of hu7) (xV 1) xStr) xaNil))) xaNil))))
    zNil))
    zNil))
    zNil))
    (zCons (zRet (xV 3))
    zNil)))
theorem ok__law_beside (T : Tx w K mg C_Book)  {f : Addr} {fd : FuncData} (F : FunD K "_law_beside" "_law_beside" (defArgs s__law_beside) (defBody s__law_beside) (defScope s__law_beside) [] [] f fd) : FnG P w K mg base CX0 5 f fd ["_law_pot_here", "_law_rules"] (spF (mkG C_Book) K f__law_beside) := by
  obtain ⟨a__law_draw, d__law_draw, F__law_draw, m__law_draw⟩ := T.F__law_draw
  have b__law_draw := bd__law_draw F__law_draw
  have k__law_draw := F__law_draw.kp
  have g__law_draw := ok__law_draw (P := P) (w := w) (base := base) T F__law_draw
  obtain ⟨a__law_any, d__law_any, F__law_any, m__law_any⟩ := T.F__law_any
  have b__law_any := bd__law_any F__law_any
  have k__law_any := F__law_any.kp
  have g__law_any := ok__law_any (P := P) (w := w) (base := base) T F__law_any
  obtain ⟨a__law_exchanged, d__law_exchanged, F__law_exchanged, m__law_exchanged⟩ := T.F__law_exchanged
  have b__law_exchanged := bd__law_exchanged F__law_exchanged
  have k__law_exchanged := F__law_exchanged.kp
  have g__law_exchanged := ok__law_exchanged (P := P) (w := w) (base := base) T F__law_exchanged
  refine fnG_D F sc__law_beside rfl rfl fun cdv A outer s H E hg hr => PSs.nox ?_
  have hu := hu64 hr
  have hu7 := hu70 hr
  exact (zCons (zPar3 (i := 2) (j := 3) (l := 4) rfl sc__law_beside.nd rfl rfl rfl (by decide) (by decide) (by decide) rfl rfl rfl (xaCons (bltnT dict_okB rfl T.b_dict (by decide +kernel) (xaCons (xV 1) xaNil)) (xaCons (xCall (cg_fn g__law_any hg (hr.mono (by decide)) passes0 b__law_any) rfl m__law_any k__law_any (xaCons (xV 0) xaNil)) (xaCons (xCall (cg_fn g__law_draw hg (hr.mono (by decide)) passes0 b__law_draw) rfl m__law_draw k__law_draw (xaCons (xV 0) (xaCons xInt xaNil))) xaNil))) rfl)
    (zCons (zIf (yCmp lt_ok isB_lt (xV 4) xInt (nomark _)) (zCons (zDput (hu1_of hu7) (xV 2) xStr (xDg (hu1_of hu7) (xV 3) xStr))
    zNil) (zCons (zIf (yCmp (eq_ok hu) (isB_eq false) (xV 4) xInt (nomark _)) (zCons (zDput (hu1_of hu7) (xV 2) xStr (bltnT tuple_okB rfl T.b_tuple (by decide +kernel) (xaCons (xComp rfl sc__law_beside.nd (iSeq_ok (xDg (hu1_of hu7) (xV 1) xStr)) (blkOk_by (N := ["_law_pot_here", "_law_rules", "_law_found", "_law_later", "_law_way", "_law_sort"]) (sc := defScope s__law_beside) (own := [("_law_sort", 5)]) (by decide +kernel)) rfl (tg1 5) (fun _ _ _ _ _ => pg_name (i := 5) sc__law_beside.nd rfl (Or.inl rfl)) (fun _ _ _ _ _ => pts_one (yCmp (eq_ok hu) (isB_eq false) (xCall (cg_fn g__law_draw hg (hr.mono (by decide)) passes0 b__law_draw) rfl m__law_draw k__law_draw (xaCons (xV 0) (xaCons xInt xaNil))) xInt (nomark _))) (fun _ _ _ _ _ => (xV 5))) xaNil)))
    zNil) (zCons (zIf (yCmp lt_ok isB_lt (xV 4) xInt (nomark _)) (zCons (zSet (i := 2) sc__law_beside.nd rfl (Or.inl rfl) (xCall (cg_fn g__law_exchanged hg (hr.mono (by decide)) passes0 b__law_exchanged) rfl m__law_exchanged k__law_exchanged (xaCons (xV 0) (xaCons (xV 1) (xaCons (xV 3) xaNil)))))
    zNil) zNil)
    zNil))
    zNil))
    (zCons (zRet (xIf (PW.pt (wAnd (yCmp (eq_ok hu) (isB_eq false) (xV 4) xInt (nomark _)) (wOne (yCmp (eq_ok hu) (isB_eq false) (xCall (cg_fn g__law_draw hg (hr.mono (by decide)) passes0 b__law_draw) rfl m__law_draw k__law_draw (xaCons (xV 0) (xaCons xInt xaNil))) xInt (nomark _))))) (xV 3) (xV 2)))
    zNil)))
theorem ok_Book_holds (T : Tx w K mg C_Book)  {f : Addr} {fd : FuncData} (F : FunD K "holds" "Book.holds" (defArgs s_Book_holds) (defBody s_Book_holds) (defScope s_Book_holds) [] [] f fd) : FnG P w K mg base CX0 1 f fd ["self"] (spF (mkG C_Book) K f_Book_holds) := by
  refine fnG_D F sc_Book_holds rfl rfl fun cdv A outer s H E hg hr => PSs.nox ?_
  have hu := hu64 hr
  have hu7 := hu70 hr
  exact (zCons (zRet (xFld (c := 0) (i := 3) (by show 3 < 6; decide) T.cls_Book T.na_own_holds (xV 0)))
    zNil)
theorem ok_Book___repr__ (T : Tx w K mg C_Book)  {f : Addr} {fd : FuncData} (F : FunD K "__repr__" "Book.__repr__" (defArgs s_Book___repr__) (defBody s_Book___repr__) (defScope s_Book___repr__) [] [] f fd) : FnG P w K mg base CX0 1 f fd ["self"] (spF (mkG C_Book) K f_Book___repr__) := by
  refine fnG_D F sc_Book___repr__ rfl rfl fun cdv A outer s H E hg hr => PSs.nox ?_
  have hu := hu64 hr
  have hu7 := hu70 hr
  exact (zCons (zSetLcI (i := 1) rfl sc_Book___repr__.nd rfl rfl (sw_true rfl rfl rfl (by decide +kernel)) (xFld (c := 0) (i := 0) (by show 0 < 6; decide) T.cls_Book T.na_own_rows (xV 0)) (blkOk_by (N := ["self", "told", "text", "kind", "row"]) (sc := defScope s_Book___repr__) (own := [("kind", 3), ("row", 4)]) (by decide +kernel)) rfl (tg2 3 4 (by decide)) (fun _ _ _ _ _ => pg_tup rfl (pgs_cons (pg_name (i := 3) sc_Book___repr__.nd rfl (Or.inl rfl)) (pgs_cons (pg_name (i := 4) sc_Book___repr__.nd rfl (Or.inl rfl)) pgs_nil))) (fun _ _ _ _ _ => ptsNil) (fun _ _ _ _ _ => (xJoin (.cons (fmt_ok hg hu7 (xV 3)) (.cons xStr (.cons (fmtR_ok hg hu7 (xV 4)) PJE.nil))))))
    (zCons (zSet (i := 1) sc_Book___repr__.nd rfl (Or.inl rfl) (xLst (xaStar (xV 1) (xaCons (xJoin (.cons xStr (.cons (fmtR_ok hg hu7 (xFld (c := 0) (i := 1) (by show 1 < 6; decide) T.cls_Book T.na_own_fails (xV 0))) PJE.nil))) (xaCons (xJoin (.cons xStr (.cons (fmtR_ok hg hu7 (xFld (c := 0) (i := 2) (by show 2 < 6; decide) T.cls_Book T.na_own_shared (xV 0))) PJE.nil))) (xaCons (xJoin (.cons xStr (.cons (fmtR_ok hg hu7 (xFld (c := 0) (i := 3) (by show 3 < 6; decide) T.cls_Book T.na_own_holds (xV 0))) PJE.nil))) xaNil))))))
    (zCons (zSet (i := 2) sc_Book___repr__.nd rfl (Or.inl rfl) (xJoinL xStr (xLst (xaStar (xV 1) (xaCons (xJoin (.cons xStr (.cons (fmtR_ok hg hu7 (xFld (c := 0) (i := 4) (by show 4 < 6; decide) T.cls_Book T.na_own_batch (xV 0))) PJE.nil))) (xaCons (xJoin (.cons xStr (.cons (fmtR_ok hg hu7 (xFld (c := 0) (i := 5) (by show 5 < 6; decide) T.cls_Book T.na_own_settles (xV 0))) PJE.nil))) xaNil))))))
    (zCons (zRet (xJoin (.cons xStr (.cons (fmt_ok hg hu7 (xV 2)) (.cons xStr PJE.nil)))))
    zNil))))
theorem ok__law_alone_right (T : Tx w K mg C_Book)  {f : Addr} {fd : FuncData} (F : FunD K "_law_alone_right" "_law_alone_right" (defArgs s__law_alone_right) (defBody s__law_alone_right) (defScope s__law_alone_right) [] [] f fd) : FnG P w K mg base CX0 7 f fd ["_law_made", "_law_rules"] (spF (mkG C_Book) K f__law_alone_right) := by
  obtain ⟨a__law_book, d__law_book, F__law_book, m__law_book⟩ := T.F__law_book
  have b__law_book := bd__law_book F__law_book
  have k__law_book := F__law_book.kp
  have g__law_book := ok__law_book (P := P) (w := w) (base := base) T F__law_book
  obtain ⟨a_Book_holds, d_Book_holds, p_Book_holds, F_Book_holds, m_Book_holds⟩ := T.F_Book_holds
  have b_Book_holds := bd_Book_holds F_Book_holds
  have k_Book_holds := F_Book_holds.kp
  have g_Book_holds := ok_Book_holds (P := P) (w := w) (base := base) T F_Book_holds
  obtain ⟨a_Book___repr__, d_Book___repr__, F_Book___repr__, m_Book___repr__⟩ := T.F_Book___repr__
  have b_Book___repr__ := bd_Book___repr__ F_Book___repr__
  have k_Book___repr__ := F_Book___repr__.kp
  have g_Book___repr__ := ok_Book___repr__ (P := P) (w := w) (base := base) T F_Book___repr__
  obtain ⟨a_Book___eq__, d_Book___eq__, F_Book___eq__, m_Book___eq__⟩ := T.F_Book___eq__
  have b_Book___eq__ := bd_Book___eq__ F_Book___eq__
  have k_Book___eq__ := F_Book___eq__.kp
  have g_Book___eq__ := ok_Book___eq__ (P := P) (w := w) (base := base) T F_Book___eq__
  obtain ⟨a_Book_is_as_strict, d_Book_is_as_strict, F_Book_is_as_strict, m_Book_is_as_strict⟩ := T.F_Book_is_as_strict
  have b_Book_is_as_strict := bd_Book_is_as_strict F_Book_is_as_strict
  have k_Book_is_as_strict := F_Book_is_as_strict.kp
  have g_Book_is_as_strict := ok_Book_is_as_strict (P := P) (w := w) (base := base) T F_Book_is_as_strict
  refine fnG_D F sc__law_alone_right rfl rfl fun cdv A outer s H E hg hr => PSs.nox ?_
  have hu := hu64 hr
  have hu7 := hu70 hr
  exact (zCons (zSet (i := 2) sc__law_alone_right.nd rfl (Or.inl rfl) (xCall (cg_fn g__law_book hg (hr.mono (by decide)) passes0 b__law_book) rfl m__law_book k__law_book (xaCons (xV 1) xaNil)))
    (zCons (zSet (i := 3) sc__law_alone_right.nd rfl (Or.inl rfl) (xLst (xaCons xNon (xaCons xBl (xaCons (bltn (reprO_ok (c := 0) g_Book___repr__ hg (hr.mono (by decide)) passes0 b_Book___repr__ m_Book___repr__.at_ m_Book___repr__.fn) rfl T.b_repr (by decide +kernel) (xaCons (xV 0) xaNil)) (xaCons (xDg (hu1_of hu7) (xV 1) xStr) (xaCons (xDg (hu1_of hu7) (xV 1) xStr) (xaCons (xProp (c := 0) (nf_holds _) (xV 0) T.cls_Book m_Book_holds g_Book_holds hg (hr.mono (by decide)) passes0 b_Book_holds) (xaCons xDnew (xaCons (xLst (xaCons (xV 0) xaNil)) (xaCons (xTup (xaCons (xV 0) xaNil)) (xaCons (xV 1) xaNil))))))))))))
    (zCons (zIf (PW.pt (wOr (yB (bltn (any_okB rfl) rfl T.b_any (by decide +kernel) (xaCons (xComp rfl sc__law_alone_right.nd (iSeq_ok (xV 3)) (blkOk_by (N := ["_law_made", "_law_rules", "_law_again", "_law_odd", "_law_thing"]) (sc := defScope s__law_alone_right) (own := [("_law_thing", 4)]) (by decide +kernel)) rfl (tg1 4) (fun _ _ _ _ _ => pg_name (i := 4) sc__law_alone_right.nd rfl (Or.inl rfl)) (fun _ _ _ _ _ => ptsNil) (fun _ _ _ _ _ => (xOrB (xCmp (eqO_ok (c := 0) g_Book___eq__ hg (hr.mono (by decide)) passes0 b_Book___eq__ m_Book___eq__.at_ m_Book___eq__.fn T.ci_Book hu) (xV 0) (xV 4) (nomark _)) (xOne (xCmp (eqR_ok (c := 0) g_Book___eq__ hg (hr.mono (by decide)) passes0 b_Book___eq__ m_Book___eq__.at_ m_Book___eq__.fn T.sb_Book hu) (xV 4) (xV 0) (nomark _)))))) xaNil))) (wOr (yNot (yCmp (eqO_ok (c := 0) g_Book___eq__ hg (hr.mono (by decide)) passes0 b_Book___eq__ m_Book___eq__.at_ m_Book___eq__.fn T.ci_Book hu) (isB_eqO _ _ _) (xV 0) (xV 2) (nomark _))) (wOneO (yCmp (neO_ok (c := 0) g_Book___eq__ hg (hr.mono (by decide)) passes0 b_Book___eq__ m_Book___eq__.at_ m_Book___eq__.fn T.ne_Book T.ci_Book hu) (isB_eqO _ _ _) (xV 0) (xV 2) (nomark _)))))) (zCons (zRet xBl)
    zNil) zNil)
    (zCons (zRet (xAndB (xIsB (xMeth (c := 0) (nf_is_as_strict _) (xV 2) T.cls_Book m_Book_is_as_strict (cg_fn g_Book_is_as_strict hg (hr.mono (by decide)) passes0 b_Book_is_as_strict) (xaCons (xV 0) xaNil))) (xOne (xIsB (xMeth (c := 0) (nf_is_as_strict _) (xV 0) T.cls_Book m_Book_is_as_strict (cg_fn g_Book_is_as_strict hg (hr.mono (by decide)) passes0 b_Book_is_as_strict) (xaCons (xV 0) xaNil))))))
    zNil))))
theorem ok__law_right (T : Tx w K mg C_Book)  {f : Addr} {fd : FuncData} (F : FunD K "_law_right" "_law_right" (defArgs s__law_right) (defBody s__law_right) (defScope s__law_right) [] [] f fd) : FnG P w K mg base CX0 8 f fd ["_law_pot_here"] (spF (mkG C_Book) K f__law_right) := by
  obtain ⟨a__law_any, d__law_any, F__law_any, m__law_any⟩ := T.F__law_any
  have b__law_any := bd__law_any F__law_any
  have k__law_any := F__law_any.kp
  have g__law_any := ok__law_any (P := P) (w := w) (base := base) T F__law_any
  obtain ⟨a__law_beside, d__law_beside, F__law_beside, m__law_beside⟩ := T.F__law_beside
  have b__law_beside := bd__law_beside F__law_beside
  have k__law_beside := F__law_beside.kp
  have g__law_beside := ok__law_beside (P := P) (w := w) (base := base) T F__law_beside
  obtain ⟨a__law_book, d__law_book, F__law_book, m__law_book⟩ := T.F__law_book
  have b__law_book := bd__law_book F__law_book
  have k__law_book := F__law_book.kp
  have g__law_book := ok__law_book (P := P) (w := w) (base := base) T F__law_book
  obtain ⟨a__law_alone_right, d__law_alone_right, F__law_alone_right, m__law_alone_right⟩ := T.F__law_alone_right
  have b__law_alone_right := bd__law_alone_right F__law_alone_right
  have k__law_alone_right := F__law_alone_right.kp
  have g__law_alone_right := ok__law_alone_right (P := P) (w := w) (base := base) T F__law_alone_right
  obtain ⟨a__law_two_right, d__law_two_right, F__law_two_right, m__law_two_right⟩ := T.F__law_two_right
  have b__law_two_right := bd__law_two_right F__law_two_right
  have k__law_two_right := F__law_two_right.kp
  have g__law_two_right := ok__law_two_right (P := P) (w := w) (base := base) T F__law_two_right
  refine fnG_D F sc__law_right rfl rfl fun cdv A outer s H E hg hr => PSs.nox ?_
  have hu := hu64 hr
  have hu7 := hu70 hr
  exact (zCons (zSet (i := 1) sc__law_right.nd rfl (Or.inl rfl) (xLst (xaCons (xCall (cg_fn g__law_any hg (hr.mono (by decide)) passes0 b__law_any) rfl m__law_any k__law_any (xaCons (xV 0) xaNil)) xaNil)))
    (zCons (zFor PassesOwn.never rfl (iRng1_ok rfl T.b_range xInt) (gName_ok (i := 2) sc__law_right.nd rfl (Or.inl rfl)) (zCons (zE (xAppend (xV 1) (xaCons (xCall (cg_fn g__law_beside hg (hr.mono (by decide)) passes0 b__law_beside) rfl m__law_beside k__law_beside (xaCons (xV 0) (xaCons (xIx (xV 1) (xNeg xInt)) xaNil))) xaNil)))
    zNil))
    (zCons (zSetLc (i := 3) rfl sc__law_right.nd rfl rfl (sw_true rfl rfl rfl (by decide +kernel)) (iSeq_ok (xV 1)) (blkOk_by (N := ["_law_pot_here", "_law_rows", "_law_turn", "_law_some", "_law_one", "_law_rules", "_law_two", "_law_mate"]) (sc := defScope s__law_right) (own := [("_law_rules", 5)]) (by decide +kernel)) rfl (tg1 5) (fun _ _ _ _ _ => pg_name (i := 5) sc__law_right.nd rfl (Or.inl rfl)) (fun _ _ _ _ _ => ptsNil) (fun _ _ _ _ _ => (xCall (cg_fn g__law_book hg (hr.mono (by decide)) passes0 b__law_book) rfl m__law_book k__law_book (xaCons (xV 5) xaNil))))
    (zCons (zFor PassesOwn.never rfl (iZip_ok rfl T.b_zip (xV 3) (xV 1)) (gT_ok rfl (gsCons_ok (gName_ok (i := 4) sc__law_right.nd rfl (Or.inr rfl)) (gsCons_ok (gName_ok (i := 5) sc__law_right.nd rfl (Or.inr rfl)) gsNil_ok))) (zCons (zIf (yNot (yB (xCall (cg_fn g__law_alone_right hg (hr.mono (by decide)) passes0 b__law_alone_right) rfl m__law_alone_right k__law_alone_right (xaCons (xV 4) (xaCons (xV 5) xaNil))))) (zCons (zRet xBl)
    zNil) zNil)
    (zCons (zIf (yNot (yB (bltn (all_okB rfl) rfl T.b_all (by decide +kernel) (xaCons (xComp rfl sc__law_right.nd (iZip_ok rfl T.b_zip (xV 3) (xV 1)) (blkOk_by (N := ["_law_pot_here", "_law_rows", "_law_turn", "_law_some", "_law_one", "_law_rules", "_law_two", "_law_mate"]) (sc := defScope s__law_right) (own := [("_law_two", 6), ("_law_mate", 7)]) (by decide +kernel)) rfl (tg2 6 7 (by decide)) (fun _ _ _ _ _ => pg_tup rfl (pgs_cons (pg_name (i := 6) sc__law_right.nd rfl (Or.inl rfl)) (pgs_cons (pg_name (i := 7) sc__law_right.nd rfl (Or.inl rfl)) pgs_nil))) (fun _ _ _ _ _ => ptsNil) (fun _ _ _ _ _ => (xCall (cg_fn g__law_two_right hg (hr.mono (by decide)) passes0 b__law_two_right) rfl m__law_two_right k__law_two_right (xaCons (xV 4) (xaCons (xV 6) (xaCons (xV 5) (xaCons (xV 7) xaNil))))))) xaNil)))) (zCons (zRet xBl)
    zNil) zNil)
    zNil)))
    (zCons (zRet xBl)
    zNil)))))
theorem ok__law_pot (T : Tx w K mg C_Book)  {f : Addr} {fd : FuncData} (F : FunD K "_law_pot" "_law_pot" (defArgs s__law_pot) (defBody s__law_pot) (defScope s__law_pot) [] [] f fd) : FnG P w K mg base CX0 1 f fd ["_law_script", "_law_k"] (spF (mkG C_Book) K f__law_pot) := by
  refine fnG_D F sc__law_pot rfl rfl fun cdv A outer s H E hg hr => PSs.nox ?_
  have hu := hu64 hr
  have hu7 := hu70 hr
  exact (zCons (zSet (i := 2) sc__law_pot.nd rfl (Or.inl rfl) (x2 add_ok (x2 mul_ok xInt (xV 1)) xInt))
    (zCons (zIf (yCmp lt_ok isB_lt (xV 1) (bltn len_okB rfl T.b_len (by decide +kernel) (xaCons (xV 0) xaNil)) (nomark _)) (zCons (zSet (i := 2) sc__law_pot.nd rfl (Or.inl rfl) (bltn abs_okB rfl T.b_abs (by decide +kernel) (xaCons (xIx (xV 0) (xV 1)) xaNil)))
    zNil) zNil)
    (zCons (zRet (xLst (xaCons (bltn (max_okB rfl) rfl T.b_max (by decide +kernel) (xaCons xInt (xaCons (x2 sub_ok (xV 2) (x2 pow_ok xInt xInt)) xaNil))) (xaCons (x2 add_ok (x2 mod_ok (x2 mul_ok (bltnT int_okB rfl T.b_int (by decide +kernel) (xaCons (x2 add_ok (x2 mod_ok (bltnT int_okB rfl T.b_int (by decide +kernel) (xaCons (xV 2) xaNil)) xInt) xInt) xaNil)) (x2 pow_ok (x2 add_ok (x2 mul_ok xInt (xV 1)) xInt) xInt)) xInt) xInt) xaNil))))
    zNil)))
theorem ok_law (T : Tx w K mg C_Book)  {f : Addr} {fd : FuncData} (F : FunD K "law" "law" (defArgs s_law) (defBody s_law) (defScope s_law) [] [] f fd) : FnG P w K mg base CX0 9 f fd ["_law_script"] (spF (mkG C_Book) K f_law) := by
  obtain ⟨a__law_known_right, d__law_known_right, F__law_known_right, m__law_known_right⟩ := T.F__law_known_right
  have b__law_known_right := bd__law_known_right F__law_known_right
  have k__law_known_right := F__law_known_right.kp
  have g__law_known_right := ok__law_known_right (P := P) (w := w) (base := base) T F__law_known_right
  obtain ⟨a__law_right, d__law_right, F__law_right, m__law_right⟩ := T.F__law_right
  have b__law_right := bd__law_right F__law_right
  have k__law_right := F__law_right.kp
  have g__law_right := ok__law_right (P := P) (w := w) (base := base) T F__law_right
  obtain ⟨a__law_pot, d__law_pot, F__law_pot, m__law_pot⟩ := T.F__law_pot
  have b__law_pot := bd__law_pot F__law_pot
  have k__law_pot := F__law_pot.kp
  have g__law_pot := ok__law_pot (P := P) (w := w) (base := base) T F__law_pot
  refine fnG_D F sc_law rfl rfl fun cdv A outer s H E hg hr => PSs.nox ?_
  have hu := hu64 hr
  have hu7 := hu70 hr
  exact (zCons (zIf (yNot (yB (xCall0 (cg_fn g__law_known_right hg (hr.mono (by decide)) passes0 b__law_known_right) rfl m__law_known_right k__law_known_right))) (zCons (zRet xBl)
    zNil) zNil)
    (zCons (zRet (bltn (all_okB rfl) rfl T.b_all (by decide +kernel) (xaCons (xComp rfl sc_law.nd (iRng1_ok rfl T.b_range (bltn (max_okB rfl) rfl T.b_max (by decide +kernel) (xaCons xInt (xaCons (bltn (min_okB rfl) rfl T.b_min (by decide +kernel) (xaCons (bltn len_okB rfl T.b_len (by decide +kernel) (xaCons (xV 0) xaNil)) (xaCons xInt xaNil))) xaNil)))) (blkOk_by (N := ["_law_script", "_law_k"]) (sc := defScope s_law) (own := [("_law_k", 1)]) (by decide +kernel)) rfl (tg1 1) (fun _ _ _ _ _ => pg_name (i := 1) sc_law.nd rfl (Or.inl rfl)) (fun _ _ _ _ _ => ptsNil) (fun _ _ _ _ _ => (xCall (cg_fn g__law_right hg (hr.mono (by decide)) passes0 b__law_right) rfl m__law_right k__law_right (xaCons (xCall (cg_fn g__law_pot hg (hr.mono (by decide)) passes0 b__law_pot) rfl m__law_pot k__law_pot (xaCons (xV 0) (xaCons (xV 1) xaNil))) xaNil)))) xaNil)))
    zNil))
end
/-! ### the head -/
theorem all_mk (hT : ∀ ns : List Int, ns.length ≤ 63 → ∃ h', f_law [.scr ns] [] = .ok (.bl true) h') {l : PySem.W.OpenLaw} {w : World} {K : PySem.W.Frag} {h : Heap} {mg : Str → Option Value} {fa C_Book : Addr} {f_are_words_ : Addr} {oc_are_words kv_are_words dc_are_words pm_are_words cd_are_words ct_are_words : Value} {od_are_words an_are_words : Option Addr} {sl_are_words : Array (Option Value)} {f_are_tests_ahead_ : Addr} {oc_are_tests_ahead kv_are_tests_ahead dc_are_tests_ahead pm_are_tests_ahead cd_are_tests_ahead ct_are_tests_ahead : Value} {od_are_tests_ahead an_are_tests_ahead : Option Addr} {sl_are_tests_ahead : Array (Option Value)} {f_is_take_ : Addr} {oc_is_take kv_is_take dc_is_take pm_is_take cd_is_take ct_is_take : Value} {od_is_take an_is_take : Option Addr} {sl_is_take : Array (Option Value)} {f_is_behind_ : Addr} {oc_is_behind kv_is_behind dc_is_behind pm_is_behind cd_is_behind ct_is_behind : Value} {od_is_behind an_is_behind : Option Addr} {sl_is_behind : Array (Option Value)} {f_is_give_ : Addr} {oc_is_give kv_is_give dc_is_give pm_is_give cd_is_give ct_is_give : Value} {od_is_give an_is_give : Option Addr} {sl_is_give : Array (Option Value)} {f_is_move_ : Addr} {oc_is_move kv_is_move dc_is_move pm_is_move cd_is_move ct_is_move : Value} {od_is_move an_is_move : Option Addr} {sl_is_move : Array (Option Value)} {f_is_lift_ : Addr} {oc_is_lift kv_is_lift dc_is_lift pm_is_lift cd_is_lift ct_is_lift : Value} {od_is_lift an_is_lift : Option Addr} {sl_is_lift : Array (Option Value)} {f_is_row_ : Addr} {oc_is_row kv_is_row dc_is_row pm_is_row cd_is_row ct_is_row : Value} {od_is_row an_is_row : Option Addr} {sl_is_row : Array (Option Value)} {f_want_word_ : Addr} {oc_want_word kv_want_word dc_want_word pm_want_word cd_want_word ct_want_word : Value} {od_want_word an_want_word : Option Addr} {sl_want_word : Array (Option Value)} {f_are_holds_ : Addr} {oc_are_holds kv_are_holds dc_are_holds pm_are_holds cd_are_holds ct_are_holds : Value} {od_are_holds an_are_holds : Option Addr} {sl_are_holds : Array (Option Value)} {f_holds_in_sequence_ : Addr} {oc_holds_in_sequence kv_holds_in_sequence dc_holds_in_sequence pm_holds_in_sequence cd_holds_in_sequence ct_holds_in_sequence : Value} {od_holds_in_sequence an_holds_in_sequence : Option Addr} {sl_holds_in_sequence : Array (Option Value)} {f_is_integer_ : Addr} {oc_is_integer kv_is_integer dc_is_integer pm_is_integer cd_is_integer ct_is_integer : Value} {od_is_integer an_is_integer : Option Addr} {sl_is_integer : Array (Option Value)} {f_want_batch_ : Addr} {oc_want_batch kv_want_batch dc_want_batch pm_want_batch cd_want_batch ct_want_batch : Value} {od_want_batch an_want_batch : Option Addr} {sl_want_batch : Array (Option Value)} {f_Book___init___ : Addr} {oc_Book___init__ kv_Book___init__ dc_Book___init__ pm_Book___init__ cd_Book___init__ ct_Book___init__ : Value} {od_Book___init__ an_Book___init__ : Option Addr} {sl_Book___init__ : Array (Option Value)} {f__law_book_ : Addr} {oc__law_book kv__law_book dc__law_book pm__law_book cd__law_book ct__law_book : Value} {od__law_book an__law_book : Option Addr} {sl__law_book : Array (Option Value)} {f_Book_others_ : Addr} {oc_Book_others kv_Book_others dc_Book_others pm_Book_others cd_Book_others ct_Book_others : Value} {od_Book_others an_Book_others : Option Addr} {sl_Book_others : Array (Option Value)} {f_Book_is_as_strict_ : Addr} {oc_Book_is_as_strict kv_Book_is_as_strict dc_Book_is_as_strict pm_Book_is_as_strict cd_Book_is_as_strict ct_Book_is_as_strict : Value} {od_Book_is_as_strict an_Book_is_as_strict : Option Addr} {sl_Book_is_as_strict : Array (Option Value)} {f_Book___eq___ : Addr} {oc_Book___eq__ kv_Book___eq__ dc_Book___eq__ pm_Book___eq__ cd_Book___eq__ ct_Book___eq__ : Value} {od_Book___eq__ an_Book___eq__ : Option Addr} {sl_Book___eq__ : Array (Option Value)} {f__law_is_as_strict_ : Addr} {oc__law_is_as_strict kv__law_is_as_strict dc__law_is_as_strict pm__law_is_as_strict cd__law_is_as_strict ct__law_is_as_strict : Value} {od__law_is_as_strict an__law_is_as_strict : Option Addr} {sl__law_is_as_strict : Array (Option Value)} {f__law_two_right_ : Addr} {oc__law_two_right kv__law_two_right dc__law_two_right pm__law_two_right cd__law_two_right ct__law_two_right : Value} {od__law_two_right an__law_two_right : Option Addr} {sl__law_two_right : Array (Option Value)} {f__law_known_right_ : Addr} {oc__law_known_right kv__law_known_right dc__law_known_right pm__law_known_right cd__law_known_right ct__law_known_right : Value} {od__law_known_right an__law_known_right : Option Addr} {sl__law_known_right : Array (Option Value)} {f__law_draw_ : Addr} {oc__law_draw kv__law_draw dc__law_draw pm__law_draw cd__law_draw ct__law_draw : Value} {od__law_draw an__law_draw : Option Addr} {sl__law_draw : Array (Option Value)} {f__law_pick_ : Addr} {oc__law_pick kv__law_pick dc__law_pick pm__law_pick cd__law_pick ct__law_pick : Value} {od__law_pick an__law_pick : Option Addr} {sl__law_pick : Array (Option Value)} {f__law_sequences_ : Addr} {oc__law_sequences kv__law_sequences dc__law_sequences pm__law_sequences cd__law_sequences ct__law_sequences : Value} {od__law_sequences an__law_sequences : Option Addr} {sl__law_sequences : Array (Option Value)} {f__law_is_ahead_ : Addr} {oc__law_is_ahead kv__law_is_ahead dc__law_is_ahead pm__law_is_ahead cd__law_is_ahead ct__law_is_ahead : Value} {od__law_is_ahead an__law_is_ahead : Option Addr} {sl__law_is_ahead : Array (Option Value)} {f__law_is_take_ : Addr} {oc__law_is_take kv__law_is_take dc__law_is_take pm__law_is_take cd__law_is_take ct__law_is_take : Value} {od__law_is_take an__law_is_take : Option Addr} {sl__law_is_take : Array (Option Value)} {f__law_takes_ : Addr} {oc__law_takes kv__law_takes dc__law_takes pm__law_takes cd__law_takes ct__law_takes : Value} {od__law_takes an__law_takes : Option Addr} {sl__law_takes : Array (Option Value)} {f__law_is_give_ : Addr} {oc__law_is_give kv__law_is_give dc__law_is_give pm__law_is_give cd__law_is_give ct__law_is_give : Value} {od__law_is_give an__law_is_give : Option Addr} {sl__law_is_give : Array (Option Value)} {f__law_gives_ : Addr} {oc__law_gives kv__law_gives dc__law_gives pm__law_gives cd__law_gives ct__law_gives : Value} {od__law_gives an__law_gives : Option Addr} {sl__law_gives : Array (Option Value)} {f__law_is_move_ : Addr} {oc__law_is_move kv__law_is_move dc__law_is_move pm__law_is_move cd__law_is_move ct__law_is_move : Value} {od__law_is_move an__law_is_move : Option Addr} {sl__law_is_move : Array (Option Value)} {f__law_moves_ : Addr} {oc__law_moves kv__law_moves dc__law_moves pm__law_moves cd__law_moves ct__law_moves : Value} {od__law_moves an__law_moves : Option Addr} {sl__law_moves : Array (Option Value)} {f__law_lifts_ : Addr} {oc__law_lifts kv__law_lifts dc__law_lifts pm__law_lifts cd__law_lifts ct__law_lifts : Value} {od__law_lifts an__law_lifts : Option Addr} {sl__law_lifts : Array (Option Value)} {f__law_any_ : Addr} {oc__law_any kv__law_any dc__law_any pm__law_any cd__law_any ct__law_any : Value} {od__law_any an__law_any : Option Addr} {sl__law_any : Array (Option Value)} {f__law_exchanged_ : Addr} {oc__law_exchanged kv__law_exchanged dc__law_exchanged pm__law_exchanged cd__law_exchanged ct__law_exchanged : Value} {od__law_exchanged an__law_exchanged : Option Addr} {sl__law_exchanged : Array (Option Value)} {f__law_beside_ : Addr} {oc__law_beside kv__law_beside dc__law_beside pm__law_beside cd__law_beside ct__law_beside : Value} {od__law_beside an__law_beside : Option Addr} {sl__law_beside : Array (Option Value)} {f_Book_holds_ : Addr} {oc_Book_holds kv_Book_holds dc_Book_holds pm_Book_holds cd_Book_holds ct_Book_holds : Value} {od_Book_holds an_Book_holds : Option Addr} {sl_Book_holds : Array (Option Value)} {pr_Book_holds : Addr} {re_Book_holds : List Value} {f_Book___repr___ : Addr} {oc_Book___repr__ kv_Book___repr__ dc_Book___repr__ pm_Book___repr__ cd_Book___repr__ ct_Book___repr__ : Value} {od_Book___repr__ an_Book___repr__ : Option Addr} {sl_Book___repr__ : Array (Option Value)} {f__law_alone_right_ : Addr} {oc__law_alone_right kv__law_alone_right dc__law_alone_right pm__law_alone_right cd__law_alone_right ct__law_alone_right : Value} {od__law_alone_right an__law_alone_right : Option Addr} {sl__law_alone_right : Array (Option Value)} {f__law_right_ : Addr} {oc__law_right kv__law_right dc__law_right pm__law_right cd__law_right ct__law_right : Value} {od__law_right an__law_right : Option Addr} {sl__law_right : Array (Option Value)} {f__law_pot_ : Addr} {oc__law_pot kv__law_pot dc__law_pot pm__law_pot cd__law_pot ct__law_pot : Value} {od__law_pot an__law_pot : Option Addr} {sl__law_pot : Array (Option Value)} {f_law_ : Addr} {oc_law kv_law dc_law pm_law cd_law ct_law : Value} {od_law an_law : Option Addr} {sl_law : Array (Option Value)} {tk_ADD : Tok} {tk_BOTH : Tok} {tk_END : Tok} {ad_FAILS : Addr} {nn_FAILS : Nat} {ss_FAILS : Array (Option Value)} {kk_FAILS_0 : Tok} {kk_FAILS_1 : Tok} {kk_FAILS_2 : Tok} {tk_GIVE : Tok} {ad_GIVE_WORDS : Addr} {nn_GIVE_WORDS : Nat} {ss_GIVE_WORDS : Array (Option Value)} {kk_GIVE_WORDS_0 : Tok} {kk_GIVE_WORDS_1 : Tok} {kk_GIVE_WORDS_2 : Tok} {tk_GREATEST_BATCH : Tok} {ad_HOLDING : Addr} {nn_HOLDING : Nat} {ss_HOLDING : Array (Option Value)} {kk_HOLDING_0 : Tok} {kk_HOLDING_1 : Tok} {kk_HOLDING_2 : Tok} {kk_HOLDING_3 : Tok} {tk_HOME : Tok} {tk_LIFT : Tok} {ad_LIFTS : Addr} {nn_LIFTS : Nat} {ss_LIFTS : Array (Option Value)} {ad_LIFTS_0 : Addr} {nn_LIFTS_0 : Nat} {ss_LIFTS_0 : Array (Option Value)} {ad_LIFTS_1 : Addr} {nn_LIFTS_1 : Nat} {ss_LIFTS_1 : Array (Option Value)} {kk_LIFTS_1_0 : Tok} {ad_LIFTS_2 : Addr} {nn_LIFTS_2 : Nat} {ss_LIFTS_2 : Array (Option Value)} {kk_LIFTS_2_0 : Tok} {ad_LIFTS_3 : Addr} {nn_LIFTS_3 : Nat} {ss_LIFTS_3 : Array (Option Value)} {kk_LIFTS_3_0 : Tok} {kk_LIFTS_3_1 : Tok} {ad_LIFTS_4 : Addr} {nn_LIFTS_4 : Nat} {ss_LIFTS_4 : Array (Option Value)} {kk_LIFTS_4_0 : Tok} {kk_LIFTS_4_1 : Tok} {ad_LIFTS_5 : Addr} {nn_LIFTS_5 : Nat} {ss_LIFTS_5 : Array (Option Value)} {kk_LIFTS_5_0 : Tok} {tk_LIVE : Tok} {tk_LOOK : Tok} {tk_MOVE : Tok} {ad_MOVE_WORDS : Addr} {nn_MOVE_WORDS : Nat} {ss_MOVE_WORDS : Array (Option Value)} {kk_MOVE_WORDS_0 : Tok} {kk_MOVE_WORDS_1 : Tok} {kk_MOVE_WORDS_2 : Tok} {kk_MOVE_WORDS_3 : Tok} {kk_MOVE_WORDS_4 : Tok} {kk_MOVE_WORDS_5 : Tok} {tk_OFF : Tok} {tk_SET : Tok} {tk_TAKE : Tok} {ad_TAKE_WORDS : Addr} {nn_TAKE_WORDS : Nat} {ss_TAKE_WORDS : Array (Option Value)} {kk_TAKE_WORDS_0 : Tok} {kk_TAKE_WORDS_1 : Tok} {kk_TAKE_WORDS_2 : Tok} {kk_TAKE_WORDS_3 : Tok} {ad_TESTS : Addr} {nn_TESTS : Nat} {ss_TESTS : Array (Option Value)} {kk_TESTS_0 : Tok} {kk_TESTS_1 : Tok} {tk_TRY : Tok} (X : K.In h) (G : h.Ns mainGlobals mg) (hfa : mg "law" = some (.ref fa))
    (aC_Book : PySem.W.nsIn K mainGlobals "Book" = some (some (.ref C_Book)))
    (pg_Book : PySem.W.plainGet K C_Book Str.empty = true)
    (hd_Book : PySem.W.hasDictIn K C_Book = true)
    (po_Book : PySem.W.plainOver K C_Book = true)
    (sa_Book : PySem.W.findIn K (.ref C_Book) "__setattr__" = some (some (.builtin "object.__setattr__")))
    (mk_Book : PySem.W.makesIn K C_Book = true)
    (kc_Book : PySem.W.keepIn K (.ref C_Book) = true)
    (ia_Book : PySem.W.findIn K (.ref C_Book) "__class__" = some (some (.builtin "object.__class__")))
    (ib_Book : PySem.W.specialIn K (.builtin "object.__class__") "__get__" = some (some (.builtin "getset_descriptor.__get__")))
    (ic_Book : PySem.W.takesIn K (.builtin "object.__class__") = some true)
    (id_Book : PySem.W.mroIn K C_Book (.type "object") = some true)
    (ie_Book : PySem.W.isClsIn K C_Book = true)
    (ig_Book : PySem.W.typeIn K (.ref C_Book) = some (.type "type"))
    (if_Book : PySem.W.findIn K (.ref C_Book) "__ne__" = some (some (.builtin "object.__ne__")))
    (sb_Book : ((["NoneType", "bool", "int", "str", "tuple", "list", "dict"] : List String).all fun t => PySem.W.mroIn K C_Book (.type t) == some false) = true)
    (na_own_rows : PySem.W.findIn K (.ref C_Book) "own_rows" = some none)
    (na_own_fails : PySem.W.findIn K (.ref C_Book) "own_fails" = some none)
    (na_own_shared : PySem.W.findIn K (.ref C_Book) "own_shared" = some none)
    (na_own_holds : PySem.W.findIn K (.ref C_Book) "own_holds" = some none)
    (na_own_batch : PySem.W.findIn K (.ref C_Book) "own_batch" = some none)
    (na_own_settles : PySem.W.findIn K (.ref C_Book) "own_settles" = some none)
    (a_are_words : PySem.W.nsIn K mainGlobals "are_words" = some (some (.ref f_are_words_)))
    (l_are_words : K.lookup f_are_words_ = some ⟨oc_are_words, od_are_words, .func (PySem.W.fnOf "are_words" "are_words" (defArgs s_are_words) (defBody s_are_words) (defScope s_are_words) .none kv_are_words dc_are_words pm_are_words an_are_words cd_are_words ct_are_words), sl_are_words⟩)
    (c_are_words : PySem.W.codeIn K cd_are_words "are_words" = true)
    (k_are_words : PySem.W.keepIn K (.ref f_are_words_) = true)
    (a_are_tests_ahead : PySem.W.nsIn K mainGlobals "are_tests_ahead" = some (some (.ref f_are_tests_ahead_)))
    (l_are_tests_ahead : K.lookup f_are_tests_ahead_ = some ⟨oc_are_tests_ahead, od_are_tests_ahead, .func (PySem.W.fnOf "are_tests_ahead" "are_tests_ahead" (defArgs s_are_tests_ahead) (defBody s_are_tests_ahead) (defScope s_are_tests_ahead) .none kv_are_tests_ahead dc_are_tests_ahead pm_are_tests_ahead an_are_tests_ahead cd_are_tests_ahead ct_are_tests_ahead), sl_are_tests_ahead⟩)
    (c_are_tests_ahead : PySem.W.codeIn K cd_are_tests_ahead "are_tests_ahead" = true)
    (k_are_tests_ahead : PySem.W.keepIn K (.ref f_are_tests_ahead_) = true)
    (a_is_take : PySem.W.nsIn K mainGlobals "is_take" = some (some (.ref f_is_take_)))
    (l_is_take : K.lookup f_is_take_ = some ⟨oc_is_take, od_is_take, .func (PySem.W.fnOf "is_take" "is_take" (defArgs s_is_take) (defBody s_is_take) (defScope s_is_take) .none kv_is_take dc_is_take pm_is_take an_is_take cd_is_take ct_is_take), sl_is_take⟩)
    (c_is_take : PySem.W.codeIn K cd_is_take "is_take" = true)
    (k_is_take : PySem.W.keepIn K (.ref f_is_take_) = true)
    (a_is_behind : PySem.W.nsIn K mainGlobals "is_behind" = some (some (.ref f_is_behind_)))
    (l_is_behind : K.lookup f_is_behind_ = some ⟨oc_is_behind, od_is_behind, .func (PySem.W.fnOf "is_behind" "is_behind" (defArgs s_is_behind) (defBody s_is_behind) (defScope s_is_behind) .none kv_is_behind dc_is_behind pm_is_behind an_is_behind cd_is_behind ct_is_behind), sl_is_behind⟩)
    (c_is_behind : PySem.W.codeIn K cd_is_behind "is_behind" = true)
    (k_is_behind : PySem.W.keepIn K (.ref f_is_behind_) = true)
    (a_is_give : PySem.W.nsIn K mainGlobals "is_give" = some (some (.ref f_is_give_)))
    (l_is_give : K.lookup f_is_give_ = some ⟨oc_is_give, od_is_give, .func (PySem.W.fnOf "is_give" "is_give" (defArgs s_is_give) (defBody s_is_give) (defScope s_is_give) .none kv_is_give dc_is_give pm_is_give an_is_give cd_is_give ct_is_give), sl_is_give⟩)
    (c_is_give : PySem.W.codeIn K cd_is_give "is_give" = true)
    (k_is_give : PySem.W.keepIn K (.ref f_is_give_) = true)
    (a_is_move : PySem.W.nsIn K mainGlobals "is_move" = some (some (.ref f_is_move_)))
    (l_is_move : K.lookup f_is_move_ = some ⟨oc_is_move, od_is_move, .func (PySem.W.fnOf "is_move" "is_move" (defArgs s_is_move) (defBody s_is_move) (defScope s_is_move) .none kv_is_move dc_is_move pm_is_move an_is_move cd_is_move ct_is_move), sl_is_move⟩)
    (c_is_move : PySem.W.codeIn K cd_is_move "is_move" = true)
    (k_is_move : PySem.W.keepIn K (.ref f_is_move_) = true)
    (a_is_lift : PySem.W.nsIn K mainGlobals "is_lift" = some (some (.ref f_is_lift_)))
    (l_is_lift : K.lookup f_is_lift_ = some ⟨oc_is_lift, od_is_lift, .func (PySem.W.fnOf "is_lift" "is_lift" (defArgs s_is_lift) (defBody s_is_lift) (defScope s_is_lift) .none kv_is_lift dc_is_lift pm_is_lift an_is_lift cd_is_lift ct_is_lift), sl_is_lift⟩)
    (c_is_lift : PySem.W.codeIn K cd_is_lift "is_lift" = true)
    (k_is_lift : PySem.W.keepIn K (.ref f_is_lift_) = true)
    (a_is_row : PySem.W.nsIn K mainGlobals "is_row" = some (some (.ref f_is_row_)))
    (l_is_row : K.lookup f_is_row_ = some ⟨oc_is_row, od_is_row, .func (PySem.W.fnOf "is_row" "is_row" (defArgs s_is_row) (defBody s_is_row) (defScope s_is_row) .none kv_is_row dc_is_row pm_is_row an_is_row cd_is_row ct_is_row), sl_is_row⟩)
    (c_is_row : PySem.W.codeIn K cd_is_row "is_row" = true)
    (k_is_row : PySem.W.keepIn K (.ref f_is_row_) = true)
    (a_want_word : PySem.W.nsIn K mainGlobals "want_word" = some (some (.ref f_want_word_)))
    (l_want_word : K.lookup f_want_word_ = some ⟨oc_want_word, od_want_word, .func (PySem.W.fnOf "want_word" "want_word" (defArgs s_want_word) (defBody s_want_word) (defScope s_want_word) .none kv_want_word dc_want_word pm_want_word an_want_word cd_want_word ct_want_word), sl_want_word⟩)
    (c_want_word : PySem.W.codeIn K cd_want_word "want_word" = true)
    (k_want_word : PySem.W.keepIn K (.ref f_want_word_) = true)
    (a_are_holds : PySem.W.nsIn K mainGlobals "are_holds" = some (some (.ref f_are_holds_)))
    (l_are_holds : K.lookup f_are_holds_ = some ⟨oc_are_holds, od_are_holds, .func (PySem.W.fnOf "are_holds" "are_holds" (defArgs s_are_holds) (defBody s_are_holds) (defScope s_are_holds) .none kv_are_holds dc_are_holds pm_are_holds an_are_holds cd_are_holds ct_are_holds), sl_are_holds⟩)
    (c_are_holds : PySem.W.codeIn K cd_are_holds "are_holds" = true)
    (k_are_holds : PySem.W.keepIn K (.ref f_are_holds_) = true)
    (a_holds_in_sequence : PySem.W.nsIn K mainGlobals "holds_in_sequence" = some (some (.ref f_holds_in_sequence_)))
    (l_holds_in_sequence : K.lookup f_holds_in_sequence_ = some ⟨oc_holds_in_sequence, od_holds_in_sequence, .func (PySem.W.fnOf "holds_in_sequence" "holds_in_sequence" (defArgs s_holds_in_sequence) (defBody s_holds_in_sequence) (defScope s_holds_in_sequence) .none kv_holds_in_sequence dc_holds_in_sequence pm_holds_in_sequence an_holds_in_sequence cd_holds_in_sequence ct_holds_in_sequence), sl_holds_in_sequence⟩)
    (c_holds_in_sequence : PySem.W.codeIn K cd_holds_in_sequence "holds_in_sequence" = true)
    (k_holds_in_sequence : PySem.W.keepIn K (.ref f_holds_in_sequence_) = true)
    (a_is_integer : PySem.W.nsIn K mainGlobals "is_integer" = some (some (.ref f_is_integer_)))
    (l_is_integer : K.lookup f_is_integer_ = some ⟨oc_is_integer, od_is_integer, .func (PySem.W.fnOf "is_integer" "is_integer" (defArgs s_is_integer) (defBody s_is_integer) (defScope s_is_integer) .none kv_is_integer dc_is_integer pm_is_integer an_is_integer cd_is_integer ct_is_integer), sl_is_integer⟩)
    (c_is_integer : PySem.W.codeIn K cd_is_integer "is_integer" = true)
    (k_is_integer : PySem.W.keepIn K (.ref f_is_integer_) = true)
    (a_want_batch : PySem.W.nsIn K mainGlobals "want_batch" = some (some (.ref f_want_batch_)))
    (l_want_batch : K.lookup f_want_batch_ = some ⟨oc_want_batch, od_want_batch, .func (PySem.W.fnOf "want_batch" "want_batch" (defArgs s_want_batch) (defBody s_want_batch) (defScope s_want_batch) .none kv_want_batch dc_want_batch pm_want_batch an_want_batch cd_want_batch ct_want_batch), sl_want_batch⟩)
    (c_want_batch : PySem.W.codeIn K cd_want_batch "want_batch" = true)
    (k_want_batch : PySem.W.keepIn K (.ref f_want_batch_) = true)
    (a_Book___init__ : PySem.W.findIn K (.ref C_Book) "__init__" = some (some (.ref f_Book___init___)))
    (i_Book___init__ : PySem.W.isFn K (.ref f_Book___init___) = true)
    (l_Book___init__ : K.lookup f_Book___init___ = some ⟨oc_Book___init__, od_Book___init__, .func (PySem.W.fnOf "__init__" "Book.__init__" (defArgs s_Book___init__) (defBody s_Book___init__) (defScope s_Book___init__) .none kv_Book___init__ dc_Book___init__ pm_Book___init__ an_Book___init__ cd_Book___init__ ct_Book___init__), sl_Book___init__⟩)
    (c_Book___init__ : PySem.W.codeIn K cd_Book___init__ "Book.__init__" = true)
    (k_Book___init__ : PySem.W.keepIn K (.ref f_Book___init___) = true)
    (a__law_book : PySem.W.nsIn K mainGlobals "_law_book" = some (some (.ref f__law_book_)))
    (l__law_book : K.lookup f__law_book_ = some ⟨oc__law_book, od__law_book, .func (PySem.W.fnOf "_law_book" "_law_book" (defArgs s__law_book) (defBody s__law_book) (defScope s__law_book) .none kv__law_book dc__law_book pm__law_book an__law_book cd__law_book ct__law_book), sl__law_book⟩)
    (c__law_book : PySem.W.codeIn K cd__law_book "_law_book" = true)
    (k__law_book : PySem.W.keepIn K (.ref f__law_book_) = true)
    (a_Book_others : PySem.W.findIn K (.ref C_Book) "others" = some (some (.ref f_Book_others_)))
    (i_Book_others : PySem.W.isFn K (.ref f_Book_others_) = true)
    (l_Book_others : K.lookup f_Book_others_ = some ⟨oc_Book_others, od_Book_others, .func (PySem.W.fnOf "others" "Book.others" (defArgs s_Book_others) (defBody s_Book_others) (defScope s_Book_others) .none kv_Book_others dc_Book_others pm_Book_others an_Book_others cd_Book_others ct_Book_others), sl_Book_others⟩)
    (c_Book_others : PySem.W.codeIn K cd_Book_others "Book.others" = true)
    (k_Book_others : PySem.W.keepIn K (.ref f_Book_others_) = true)
    (a_Book_is_as_strict : PySem.W.findIn K (.ref C_Book) "is_as_strict" = some (some (.ref f_Book_is_as_strict_)))
    (i_Book_is_as_strict : PySem.W.isFn K (.ref f_Book_is_as_strict_) = true)
    (l_Book_is_as_strict : K.lookup f_Book_is_as_strict_ = some ⟨oc_Book_is_as_strict, od_Book_is_as_strict, .func (PySem.W.fnOf "is_as_strict" "Book.is_as_strict" (defArgs s_Book_is_as_strict) (defBody s_Book_is_as_strict) (defScope s_Book_is_as_strict) .none kv_Book_is_as_strict dc_Book_is_as_strict pm_Book_is_as_strict an_Book_is_as_strict cd_Book_is_as_strict ct_Book_is_as_strict), sl_Book_is_as_strict⟩)
    (c_Book_is_as_strict : PySem.W.codeIn K cd_Book_is_as_strict "Book.is_as_strict" = true)
    (k_Book_is_as_strict : PySem.W.keepIn K (.ref f_Book_is_as_strict_) = true)
    (a_Book___eq__ : PySem.W.findIn K (.ref C_Book) "__eq__" = some (some (.ref f_Book___eq___)))
    (i_Book___eq__ : PySem.W.isFn K (.ref f_Book___eq___) = true)
    (l_Book___eq__ : K.lookup f_Book___eq___ = some ⟨oc_Book___eq__, od_Book___eq__, .func (PySem.W.fnOf "__eq__" "Book.__eq__" (defArgs s_Book___eq__) (defBody s_Book___eq__) (defScope s_Book___eq__) .none kv_Book___eq__ dc_Book___eq__ pm_Book___eq__ an_Book___eq__ cd_Book___eq__ ct_Book___eq__), sl_Book___eq__⟩)
    (c_Book___eq__ : PySem.W.codeIn K cd_Book___eq__ "Book.__eq__" = true)
    (k_Book___eq__ : PySem.W.keepIn K (.ref f_Book___eq___) = true)
    (a__law_is_as_strict : PySem.W.nsIn K mainGlobals "_law_is_as_strict" = some (some (.ref f__law_is_as_strict_)))
    (l__law_is_as_strict : K.lookup f__law_is_as_strict_ = some ⟨oc__law_is_as_strict, od__law_is_as_strict, .func (PySem.W.fnOf "_law_is_as_strict" "_law_is_as_strict" (defArgs s__law_is_as_strict) (defBody s__law_is_as_strict) (defScope s__law_is_as_strict) .none kv__law_is_as_strict dc__law_is_as_strict pm__law_is_as_strict an__law_is_as_strict cd__law_is_as_strict ct__law_is_as_strict), sl__law_is_as_strict⟩)
    (c__law_is_as_strict : PySem.W.codeIn K cd__law_is_as_strict "_law_is_as_strict" = true)
    (k__law_is_as_strict : PySem.W.keepIn K (.ref f__law_is_as_strict_) = true)
    (a__law_two_right : PySem.W.nsIn K mainGlobals "_law_two_right" = some (some (.ref f__law_two_right_)))
    (l__law_two_right : K.lookup f__law_two_right_ = some ⟨oc__law_two_right, od__law_two_right, .func (PySem.W.fnOf "_law_two_right" "_law_two_right" (defArgs s__law_two_right) (defBody s__law_two_right) (defScope s__law_two_right) .none kv__law_two_right dc__law_two_right pm__law_two_right an__law_two_right cd__law_two_right ct__law_two_right), sl__law_two_right⟩)
    (c__law_two_right : PySem.W.codeIn K cd__law_two_right "_law_two_right" = true)
    (k__law_two_right : PySem.W.keepIn K (.ref f__law_two_right_) = true)
    (a__law_known_right : PySem.W.nsIn K mainGlobals "_law_known_right" = some (some (.ref f__law_known_right_)))
    (l__law_known_right : K.lookup f__law_known_right_ = some ⟨oc__law_known_right, od__law_known_right, .func (PySem.W.fnOf "_law_known_right" "_law_known_right" (defArgs s__law_known_right) (defBody s__law_known_right) (defScope s__law_known_right) .none kv__law_known_right dc__law_known_right pm__law_known_right an__law_known_right cd__law_known_right ct__law_known_right), sl__law_known_right⟩)
    (c__law_known_right : PySem.W.codeIn K cd__law_known_right "_law_known_right" = true)
    (k__law_known_right : PySem.W.keepIn K (.ref f__law_known_right_) = true)
    (a__law_draw : PySem.W.nsIn K mainGlobals "_law_draw" = some (some (.ref f__law_draw_)))
    (l__law_draw : K.lookup f__law_draw_ = some ⟨oc__law_draw, od__law_draw, .func (PySem.W.fnOf "_law_draw" "_law_draw" (defArgs s__law_draw) (defBody s__law_draw) (defScope s__law_draw) .none kv__law_draw dc__law_draw pm__law_draw an__law_draw cd__law_draw ct__law_draw), sl__law_draw⟩)
    (c__law_draw : PySem.W.codeIn K cd__law_draw "_law_draw" = true)
    (k__law_draw : PySem.W.keepIn K (.ref f__law_draw_) = true)
    (a__law_pick : PySem.W.nsIn K mainGlobals "_law_pick" = some (some (.ref f__law_pick_)))
    (l__law_pick : K.lookup f__law_pick_ = some ⟨oc__law_pick, od__law_pick, .func (PySem.W.fnOf "_law_pick" "_law_pick" (defArgs s__law_pick) (defBody s__law_pick) (defScope s__law_pick) .none kv__law_pick dc__law_pick pm__law_pick an__law_pick cd__law_pick ct__law_pick), sl__law_pick⟩)
    (c__law_pick : PySem.W.codeIn K cd__law_pick "_law_pick" = true)
    (k__law_pick : PySem.W.keepIn K (.ref f__law_pick_) = true)
    (a__law_sequences : PySem.W.nsIn K mainGlobals "_law_sequences" = some (some (.ref f__law_sequences_)))
    (l__law_sequences : K.lookup f__law_sequences_ = some ⟨oc__law_sequences, od__law_sequences, .func (PySem.W.fnOf "_law_sequences" "_law_sequences" (defArgs s__law_sequences) (defBody s__law_sequences) (defScope s__law_sequences) .none kv__law_sequences dc__law_sequences pm__law_sequences an__law_sequences cd__law_sequences ct__law_sequences), sl__law_sequences⟩)
    (c__law_sequences : PySem.W.codeIn K cd__law_sequences "_law_sequences" = true)
    (k__law_sequences : PySem.W.keepIn K (.ref f__law_sequences_) = true)
    (a__law_is_ahead : PySem.W.nsIn K mainGlobals "_law_is_ahead" = some (some (.ref f__law_is_ahead_)))
    (l__law_is_ahead : K.lookup f__law_is_ahead_ = some ⟨oc__law_is_ahead, od__law_is_ahead, .func (PySem.W.fnOf "_law_is_ahead" "_law_is_ahead" (defArgs s__law_is_ahead) (defBody s__law_is_ahead) (defScope s__law_is_ahead) .none kv__law_is_ahead dc__law_is_ahead pm__law_is_ahead an__law_is_ahead cd__law_is_ahead ct__law_is_ahead), sl__law_is_ahead⟩)
    (c__law_is_ahead : PySem.W.codeIn K cd__law_is_ahead "_law_is_ahead" = true)
    (k__law_is_ahead : PySem.W.keepIn K (.ref f__law_is_ahead_) = true)
    (a__law_is_take : PySem.W.nsIn K mainGlobals "_law_is_take" = some (some (.ref f__law_is_take_)))
    (l__law_is_take : K.lookup f__law_is_take_ = some ⟨oc__law_is_take, od__law_is_take, .func (PySem.W.fnOf "_law_is_take" "_law_is_take" (defArgs s__law_is_take) (defBody s__law_is_take) (defScope s__law_is_take) .none kv__law_is_take dc__law_is_take pm__law_is_take an__law_is_take cd__law_is_take ct__law_is_take), sl__law_is_take⟩)
    (c__law_is_take : PySem.W.codeIn K cd__law_is_take "_law_is_take" = true)
    (k__law_is_take : PySem.W.keepIn K (.ref f__law_is_take_) = true)
    (a__law_takes : PySem.W.nsIn K mainGlobals "_law_takes" = some (some (.ref f__law_takes_)))
    (l__law_takes : K.lookup f__law_takes_ = some ⟨oc__law_takes, od__law_takes, .func (PySem.W.fnOf "_law_takes" "_law_takes" (defArgs s__law_takes) (defBody s__law_takes) (defScope s__law_takes) .none kv__law_takes dc__law_takes pm__law_takes an__law_takes cd__law_takes ct__law_takes), sl__law_takes⟩)
    (c__law_takes : PySem.W.codeIn K cd__law_takes "_law_takes" = true)
    (k__law_takes : PySem.W.keepIn K (.ref f__law_takes_) = true)
    (a__law_is_give : PySem.W.nsIn K mainGlobals "_law_is_give" = some (some (.ref f__law_is_give_)))
    (l__law_is_give : K.lookup f__law_is_give_ = some ⟨oc__law_is_give, od__law_is_give, .func (PySem.W.fnOf "_law_is_give" "_law_is_give" (defArgs s__law_is_give) (defBody s__law_is_give) (defScope s__law_is_give) .none kv__law_is_give dc__law_is_give pm__law_is_give an__law_is_give cd__law_is_give ct__law_is_give), sl__law_is_give⟩)
    (c__law_is_give : PySem.W.codeIn K cd__law_is_give "_law_is_give" = true)
    (k__law_is_give : PySem.W.keepIn K (.ref f__law_is_give_) = true)
    (a__law_gives : PySem.W.nsIn K mainGlobals "_law_gives" = some (some (.ref f__law_gives_)))
    (l__law_gives : K.lookup f__law_gives_ = some ⟨oc__law_gives, od__law_gives, .func (PySem.W.fnOf "_law_gives" "_law_gives" (defArgs s__law_gives) (defBody s__law_gives) (defScope s__law_gives) .none kv__law_gives dc__law_gives pm__law_gives an__law_gives cd__law_gives ct__law_gives), sl__law_gives⟩)
    (c__law_gives : PySem.W.codeIn K cd__law_gives "_law_gives" = true)
    (k__law_gives : PySem.W.keepIn K (.ref f__law_gives_) = true)
    (a__law_is_move : PySem.W.nsIn K mainGlobals "_law_is_move" = some (some (.ref f__law_is_move_)))
    (l__law_is_move : K.lookup f__law_is_move_ = some ⟨oc__law_is_move, od__law_is_move, .func (PySem.W.fnOf "_law_is_move" "_law_is_move" (defArgs s__law_is_move) (defBody s__law_is_move) (defScope s__law_is_move) .none kv__law_is_move dc__law_is_move pm__law_is_move an__law_is_move cd__law_is_move ct__law_is_move), sl__law_is_move⟩)
    (c__law_is_move : PySem.W.codeIn K cd__law_is_move "_law_is_move" = true)
    (k__law_is_move : PySem.W.keepIn K (.ref f__law_is_move_) = true)
    (a__law_moves : PySem.W.nsIn K mainGlobals "_law_moves" = some (some (.ref f__law_moves_)))
    (l__law_moves : K.lookup f__law_moves_ = some ⟨oc__law_moves, od__law_moves, .func (PySem.W.fnOf "_law_moves" "_law_moves" (defArgs s__law_moves) (defBody s__law_moves) (defScope s__law_moves) .none kv__law_moves dc__law_moves pm__law_moves an__law_moves cd__law_moves ct__law_moves), sl__law_moves⟩)
    (c__law_moves : PySem.W.codeIn K cd__law_moves "_law_moves" = true)
    (k__law_moves : PySem.W.keepIn K (.ref f__law_moves_) = true)
    (a__law_lifts : PySem.W.nsIn K mainGlobals "_law_lifts" = some (some (.ref f__law_lifts_)))
    (l__law_lifts : K.lookup f__law_lifts_ = some ⟨oc__law_lifts, od__law_lifts, .func (PySem.W.fnOf "_law_lifts" "_law_lifts" (defArgs s__law_lifts) (defBody s__law_lifts) (defScope s__law_lifts) .none kv__law_lifts dc__law_lifts pm__law_lifts an__law_lifts cd__law_lifts ct__law_lifts), sl__law_lifts⟩)
    (c__law_lifts : PySem.W.codeIn K cd__law_lifts "_law_lifts" = true)
    (k__law_lifts : PySem.W.keepIn K (.ref f__law_lifts_) = true)
    (a__law_any : PySem.W.nsIn K mainGlobals "_law_any" = some (some (.ref f__law_any_)))
    (l__law_any : K.lookup f__law_any_ = some ⟨oc__law_any, od__law_any, .func (PySem.W.fnOf "_law_any" "_law_any" (defArgs s__law_any) (defBody s__law_any) (defScope s__law_any) .none kv__law_any dc__law_any pm__law_any an__law_any cd__law_any ct__law_any), sl__law_any⟩)
    (c__law_any : PySem.W.codeIn K cd__law_any "_law_any" = true)
    (k__law_any : PySem.W.keepIn K (.ref f__law_any_) = true)
    (a__law_exchanged : PySem.W.nsIn K mainGlobals "_law_exchanged" = some (some (.ref f__law_exchanged_)))
    (l__law_exchanged : K.lookup f__law_exchanged_ = some ⟨oc__law_exchanged, od__law_exchanged, .func (PySem.W.fnOf "_law_exchanged" "_law_exchanged" (defArgs s__law_exchanged) (defBody s__law_exchanged) (defScope s__law_exchanged) .none kv__law_exchanged dc__law_exchanged pm__law_exchanged an__law_exchanged cd__law_exchanged ct__law_exchanged), sl__law_exchanged⟩)
    (c__law_exchanged : PySem.W.codeIn K cd__law_exchanged "_law_exchanged" = true)
    (k__law_exchanged : PySem.W.keepIn K (.ref f__law_exchanged_) = true)
    (a__law_beside : PySem.W.nsIn K mainGlobals "_law_beside" = some (some (.ref f__law_beside_)))
    (l__law_beside : K.lookup f__law_beside_ = some ⟨oc__law_beside, od__law_beside, .func (PySem.W.fnOf "_law_beside" "_law_beside" (defArgs s__law_beside) (defBody s__law_beside) (defScope s__law_beside) .none kv__law_beside dc__law_beside pm__law_beside an__law_beside cd__law_beside ct__law_beside), sl__law_beside⟩)
    (c__law_beside : PySem.W.codeIn K cd__law_beside "_law_beside" = true)
    (k__law_beside : PySem.W.keepIn K (.ref f__law_beside_) = true)
    (pa_Book_holds : PySem.W.findIn K (.ref C_Book) "holds" = some (some (.ref pr_Book_holds)))
    (pd_Book_holds : PySem.W.recIn K pr_Book_holds "property" = some (.ref f_Book_holds_ :: re_Book_holds))
    (pb_Book_holds : PySem.W.specialIn K (.ref pr_Book_holds) "__get__" = some (some (.builtin "property.__get__")))
    (pc_Book_holds : PySem.W.takesIn K (.ref pr_Book_holds) = some true)
    (l_Book_holds : K.lookup f_Book_holds_ = some ⟨oc_Book_holds, od_Book_holds, .func (PySem.W.fnOf "holds" "Book.holds" (defArgs s_Book_holds) (defBody s_Book_holds) (defScope s_Book_holds) .none kv_Book_holds dc_Book_holds pm_Book_holds an_Book_holds cd_Book_holds ct_Book_holds), sl_Book_holds⟩)
    (c_Book_holds : PySem.W.codeIn K cd_Book_holds "Book.holds" = true)
    (k_Book_holds : PySem.W.keepIn K (.ref f_Book_holds_) = true)
    (a_Book___repr__ : PySem.W.findIn K (.ref C_Book) "__repr__" = some (some (.ref f_Book___repr___)))
    (i_Book___repr__ : PySem.W.isFn K (.ref f_Book___repr___) = true)
    (l_Book___repr__ : K.lookup f_Book___repr___ = some ⟨oc_Book___repr__, od_Book___repr__, .func (PySem.W.fnOf "__repr__" "Book.__repr__" (defArgs s_Book___repr__) (defBody s_Book___repr__) (defScope s_Book___repr__) .none kv_Book___repr__ dc_Book___repr__ pm_Book___repr__ an_Book___repr__ cd_Book___repr__ ct_Book___repr__), sl_Book___repr__⟩)
    (c_Book___repr__ : PySem.W.codeIn K cd_Book___repr__ "Book.__repr__" = true)
    (k_Book___repr__ : PySem.W.keepIn K (.ref f_Book___repr___) = true)
    (a__law_alone_right : PySem.W.nsIn K mainGlobals "_law_alone_right" = some (some (.ref f__law_alone_right_)))
    (l__law_alone_right : K.lookup f__law_alone_right_ = some ⟨oc__law_alone_right, od__law_alone_right, .func (PySem.W.fnOf "_law_alone_right" "_law_alone_right" (defArgs s__law_alone_right) (defBody s__law_alone_right) (defScope s__law_alone_right) .none kv__law_alone_right dc__law_alone_right pm__law_alone_right an__law_alone_right cd__law_alone_right ct__law_alone_right), sl__law_alone_right⟩)
    (c__law_alone_right : PySem.W.codeIn K cd__law_alone_right "_law_alone_right" = true)
    (k__law_alone_right : PySem.W.keepIn K (.ref f__law_alone_right_) = true)
    (a__law_right : PySem.W.nsIn K mainGlobals "_law_right" = some (some (.ref f__law_right_)))
    (l__law_right : K.lookup f__law_right_ = some ⟨oc__law_right, od__law_right, .func (PySem.W.fnOf "_law_right" "_law_right" (defArgs s__law_right) (defBody s__law_right) (defScope s__law_right) .none kv__law_right dc__law_right pm__law_right an__law_right cd__law_right ct__law_right), sl__law_right⟩)
    (c__law_right : PySem.W.codeIn K cd__law_right "_law_right" = true)
    (k__law_right : PySem.W.keepIn K (.ref f__law_right_) = true)
    (a__law_pot : PySem.W.nsIn K mainGlobals "_law_pot" = some (some (.ref f__law_pot_)))
    (l__law_pot : K.lookup f__law_pot_ = some ⟨oc__law_pot, od__law_pot, .func (PySem.W.fnOf "_law_pot" "_law_pot" (defArgs s__law_pot) (defBody s__law_pot) (defScope s__law_pot) .none kv__law_pot dc__law_pot pm__law_pot an__law_pot cd__law_pot ct__law_pot), sl__law_pot⟩)
    (c__law_pot : PySem.W.codeIn K cd__law_pot "_law_pot" = true)
    (k__law_pot : PySem.W.keepIn K (.ref f__law_pot_) = true)
    (a_law : PySem.W.nsIn K mainGlobals "law" = some (some (.ref f_law_)))
    (l_law : K.lookup f_law_ = some ⟨oc_law, od_law, .func (PySem.W.fnOf "law" "law" (defArgs s_law) (defBody s_law) (defScope s_law) .none kv_law dc_law pm_law an_law cd_law ct_law), sl_law⟩)
    (c_law : PySem.W.codeIn K cd_law "law" = true)
    (k_law : PySem.W.keepIn K (.ref f_law_) = true)
    (z_abs : PySem.W.nsIn K mainGlobals "abs" = some none)
    (z_all : PySem.W.nsIn K mainGlobals "all" = some none)
    (z_any : PySem.W.nsIn K mainGlobals "any" = some none)
    (z_bool : PySem.W.nsIn K mainGlobals "bool" = some none)
    (z_dict : PySem.W.nsIn K mainGlobals "dict" = some none)
    (z_divmod : PySem.W.nsIn K mainGlobals "divmod" = some none)
    (z_enumerate : PySem.W.nsIn K mainGlobals "enumerate" = some none)
    (z_int : PySem.W.nsIn K mainGlobals "int" = some none)
    (z_isinstance : PySem.W.nsIn K mainGlobals "isinstance" = some none)
    (z_len : PySem.W.nsIn K mainGlobals "len" = some none)
    (z_list : PySem.W.nsIn K mainGlobals "list" = some none)
    (z_max : PySem.W.nsIn K mainGlobals "max" = some none)
    (z_min : PySem.W.nsIn K mainGlobals "min" = some none)
    (z_range : PySem.W.nsIn K mainGlobals "range" = some none)
    (z_repr : PySem.W.nsIn K mainGlobals "repr" = some none)
    (z_str : PySem.W.nsIn K mainGlobals "str" = some none)
    (z_tuple : PySem.W.nsIn K mainGlobals "tuple" = some none)
    (z_zip : PySem.W.nsIn K mainGlobals "zip" = some none)
    (y_ADD : PySem.W.nsIn K mainGlobals "ADD" = some (some (.str "add" tk_ADD)))
    (y_BOTH : PySem.W.nsIn K mainGlobals "BOTH" = some (some (.str "both" tk_BOTH)))
    (y_END : PySem.W.nsIn K mainGlobals "END" = some (some (.str "end" tk_END)))
    (y_FAILS : PySem.W.nsIn K mainGlobals "FAILS" = some (some (.ref ad_FAILS)))
    (tt_FAILS : K.lookup ad_FAILS = some ⟨.type "tuple", none, .seq [(.str "undo" kk_FAILS_0), (.str "leave" kk_FAILS_1), (.str "wait" kk_FAILS_2)].toArray nn_FAILS, ss_FAILS⟩)
    (y_GIVE : PySem.W.nsIn K mainGlobals "GIVE" = some (some (.str "give" tk_GIVE)))
    (y_GIVE_WORDS : PySem.W.nsIn K mainGlobals "GIVE_WORDS" = some (some (.ref ad_GIVE_WORDS)))
    (tt_GIVE_WORDS : K.lookup ad_GIVE_WORDS = some ⟨.type "tuple", none, .seq [(.str "home" kk_GIVE_WORDS_0), (.str "off" kk_GIVE_WORDS_1), (.str "end" kk_GIVE_WORDS_2)].toArray nn_GIVE_WORDS, ss_GIVE_WORDS⟩)
    (y_GREATEST_BATCH : PySem.W.nsIn K mainGlobals "GREATEST_BATCH" = some (some (.int 50 tk_GREATEST_BATCH)))
    (y_HOLDING : PySem.W.nsIn K mainGlobals "HOLDING" = some (some (.ref ad_HOLDING)))
    (tt_HOLDING : K.lookup ad_HOLDING = some ⟨.type "tuple", none, .seq [(.str "take" kk_HOLDING_0), (.str "give" kk_HOLDING_1), (.str "move" kk_HOLDING_2), (.str "lift" kk_HOLDING_3)].toArray nn_HOLDING, ss_HOLDING⟩)
    (y_HOME : PySem.W.nsIn K mainGlobals "HOME" = some (some (.str "home" tk_HOME)))
    (y_LIFT : PySem.W.nsIn K mainGlobals "LIFT" = some (some (.str "lift" tk_LIFT)))
    (y_LIFTS : PySem.W.nsIn K mainGlobals "LIFTS" = some (some (.ref ad_LIFTS)))
    (tt_LIFTS : K.lookup ad_LIFTS = some ⟨.type "tuple", none, .seq [(Value.ref ad_LIFTS_0), (Value.ref ad_LIFTS_1), (Value.ref ad_LIFTS_2), (Value.ref ad_LIFTS_3), (Value.ref ad_LIFTS_4), (Value.ref ad_LIFTS_5)].toArray nn_LIFTS, ss_LIFTS⟩)
    (tt_LIFTS_0 : K.lookup ad_LIFTS_0 = some ⟨.type "tuple", none, .seq [].toArray nn_LIFTS_0, ss_LIFTS_0⟩)
    (tt_LIFTS_1 : K.lookup ad_LIFTS_1 = some ⟨.type "tuple", none, .seq [(.str "set" kk_LIFTS_1_0)].toArray nn_LIFTS_1, ss_LIFTS_1⟩)
    (tt_LIFTS_2 : K.lookup ad_LIFTS_2 = some ⟨.type "tuple", none, .seq [(.str "off" kk_LIFTS_2_0)].toArray nn_LIFTS_2, ss_LIFTS_2⟩)
    (tt_LIFTS_3 : K.lookup ad_LIFTS_3 = some ⟨.type "tuple", none, .seq [(.str "set" kk_LIFTS_3_0), (.str "off" kk_LIFTS_3_1)].toArray nn_LIFTS_3, ss_LIFTS_3⟩)
    (tt_LIFTS_4 : K.lookup ad_LIFTS_4 = some ⟨.type "tuple", none, .seq [(.str "off" kk_LIFTS_4_0), (.str "set" kk_LIFTS_4_1)].toArray nn_LIFTS_4, ss_LIFTS_4⟩)
    (tt_LIFTS_5 : K.lookup ad_LIFTS_5 = some ⟨.type "tuple", none, .seq [(.str "both" kk_LIFTS_5_0)].toArray nn_LIFTS_5, ss_LIFTS_5⟩)
    (y_LIVE : PySem.W.nsIn K mainGlobals "LIVE" = some (some (.str "live" tk_LIVE)))
    (y_LOOK : PySem.W.nsIn K mainGlobals "LOOK" = some (some (.str "look" tk_LOOK)))
    (y_MOVE : PySem.W.nsIn K mainGlobals "MOVE" = some (some (.str "move" tk_MOVE)))
    (y_MOVE_WORDS : PySem.W.nsIn K mainGlobals "MOVE_WORDS" = some (some (.ref ad_MOVE_WORDS)))
    (tt_MOVE_WORDS : K.lookup ad_MOVE_WORDS = some ⟨.type "tuple", none, .seq [(.str "home" kk_MOVE_WORDS_0), (.str "look" kk_MOVE_WORDS_1), (.str "add" kk_MOVE_WORDS_2), (.str "try" kk_MOVE_WORDS_3), (.str "set" kk_MOVE_WORDS_4), (.str "off" kk_MOVE_WORDS_5)].toArray nn_MOVE_WORDS, ss_MOVE_WORDS⟩)
    (y_OFF : PySem.W.nsIn K mainGlobals "OFF" = some (some (.str "off" tk_OFF)))
    (y_SET : PySem.W.nsIn K mainGlobals "SET" = some (some (.str "set" tk_SET)))
    (y_TAKE : PySem.W.nsIn K mainGlobals "TAKE" = some (some (.str "take" tk_TAKE)))
    (y_TAKE_WORDS : PySem.W.nsIn K mainGlobals "TAKE_WORDS" = some (some (.ref ad_TAKE_WORDS)))
    (tt_TAKE_WORDS : K.lookup ad_TAKE_WORDS = some ⟨.type "tuple", none, .seq [(.str "look" kk_TAKE_WORDS_0), (.str "add" kk_TAKE_WORDS_1), (.str "try" kk_TAKE_WORDS_2), (.str "live" kk_TAKE_WORDS_3)].toArray nn_TAKE_WORDS, ss_TAKE_WORDS⟩)
    (y_TESTS : PySem.W.nsIn K mainGlobals "TESTS" = some (some (.ref ad_TESTS)))
    (tt_TESTS : K.lookup ad_TESTS = some ⟨.type "tuple", none, .seq [(.str "look" kk_TESTS_0), (.str "try" kk_TESTS_1)].toArray nn_TESTS, ss_TESTS⟩)
    (y_TRY : PySem.W.nsIn K mainGlobals "TRY" = some (some (.str "try" tk_TRY)))
    : ∃ fd : FuncData, (∀ (s : Shared) (u : Value), BindsTo s fd ⟨[u], []⟩ [("_law_script", u)]) ∧ ∀ base : Heap, K.In base → base.Ns mainGlobals mg → FnG l.prog w K mg base CX0 9 fa fd ["_law_script"] (spLaw 63 K []) := by
  have T : Tx w K mg C_Book := ⟨⟨pg_Book, hd_Book, po_Book, sa_Book⟩,
    PySem.W.mg_of X G aC_Book,
    ⟨⟨pg_Book, hd_Book, po_Book, sa_Book⟩, ia_Book, ib_Book, ic_Book, id_Book⟩,
    (ck_of ie_Book ig_Book),
    if_Book,
    sb_Book,
    na_own_rows,
    na_own_fails,
    na_own_shared,
    na_own_holds,
    na_own_batch,
    na_own_settles,
    ⟨_, _, ⟨⟨_, _, _, _, _, _, _, _, _, _, rfl, l_are_words, c_are_words, .inl ⟨rfl, rfl⟩, .inl rfl⟩, k_are_words⟩, PySem.W.mg_of X G a_are_words⟩,
    ⟨_, _, ⟨⟨_, _, _, _, _, _, _, _, _, _, rfl, l_are_tests_ahead, c_are_tests_ahead, .inl ⟨rfl, rfl⟩, .inl rfl⟩, k_are_tests_ahead⟩, PySem.W.mg_of X G a_are_tests_ahead⟩,
    ⟨_, _, ⟨⟨_, _, _, _, _, _, _, _, _, _, rfl, l_is_take, c_is_take, .inl ⟨rfl, rfl⟩, .inl rfl⟩, k_is_take⟩, PySem.W.mg_of X G a_is_take⟩,
    ⟨_, _, ⟨⟨_, _, _, _, _, _, _, _, _, _, rfl, l_is_behind, c_is_behind, .inl ⟨rfl, rfl⟩, .inl rfl⟩, k_is_behind⟩, PySem.W.mg_of X G a_is_behind⟩,
    ⟨_, _, ⟨⟨_, _, _, _, _, _, _, _, _, _, rfl, l_is_give, c_is_give, .inl ⟨rfl, rfl⟩, .inl rfl⟩, k_is_give⟩, PySem.W.mg_of X G a_is_give⟩,
    ⟨_, _, ⟨⟨_, _, _, _, _, _, _, _, _, _, rfl, l_is_move, c_is_move, .inl ⟨rfl, rfl⟩, .inl rfl⟩, k_is_move⟩, PySem.W.mg_of X G a_is_move⟩,
    ⟨_, _, ⟨⟨_, _, _, _, _, _, _, _, _, _, rfl, l_is_lift, c_is_lift, .inl ⟨rfl, rfl⟩, .inl rfl⟩, k_is_lift⟩, PySem.W.mg_of X G a_is_lift⟩,
    ⟨_, _, ⟨⟨_, _, _, _, _, _, _, _, _, _, rfl, l_is_row, c_is_row, .inl ⟨rfl, rfl⟩, .inl rfl⟩, k_is_row⟩, PySem.W.mg_of X G a_is_row⟩,
    ⟨_, _, ⟨⟨_, _, _, _, _, _, _, _, _, _, rfl, l_want_word, c_want_word, .inl ⟨rfl, rfl⟩, .inl rfl⟩, k_want_word⟩, PySem.W.mg_of X G a_want_word⟩,
    ⟨_, _, ⟨⟨_, _, _, _, _, _, _, _, _, _, rfl, l_are_holds, c_are_holds, .inl ⟨rfl, rfl⟩, .inl rfl⟩, k_are_holds⟩, PySem.W.mg_of X G a_are_holds⟩,
    ⟨_, _, ⟨⟨_, _, _, _, _, _, _, _, _, _, rfl, l_holds_in_sequence, c_holds_in_sequence, .inl ⟨rfl, rfl⟩, .inl rfl⟩, k_holds_in_sequence⟩, PySem.W.mg_of X G a_holds_in_sequence⟩,
    ⟨_, _, ⟨⟨_, _, _, _, _, _, _, _, _, _, rfl, l_is_integer, c_is_integer, .inl ⟨rfl, rfl⟩, .inl rfl⟩, k_is_integer⟩, PySem.W.mg_of X G a_is_integer⟩,
    ⟨_, _, ⟨⟨_, _, _, _, _, _, _, _, _, _, rfl, l_want_batch, c_want_batch, .inl ⟨rfl, rfl⟩, .inl rfl⟩, k_want_batch⟩, PySem.W.mg_of X G a_want_batch⟩,
    ⟨_, _, ⟨⟨_, _, _, _, _, _, _, _, _, _, rfl, l_Book___init__, c_Book___init__, .inl ⟨rfl, rfl⟩, .inl rfl⟩, k_Book___init__⟩, ⟨mk_Book, a_Book___init__, i_Book___init__, kc_Book⟩⟩,
    ⟨_, _, ⟨⟨_, _, _, _, _, _, _, _, _, _, rfl, l__law_book, c__law_book, .inl ⟨rfl, rfl⟩, .inl rfl⟩, k__law_book⟩, PySem.W.mg_of X G a__law_book⟩,
    ⟨_, _, ⟨⟨_, _, _, _, _, _, _, _, _, _, rfl, l_Book_others, c_Book_others, .inl ⟨rfl, rfl⟩, .inl rfl⟩, k_Book_others⟩, ⟨a_Book_others, i_Book_others, k_Book_others⟩⟩,
    ⟨_, _, ⟨⟨_, _, _, _, _, _, _, _, _, _, rfl, l_Book_is_as_strict, c_Book_is_as_strict, .inl ⟨rfl, rfl⟩, .inl rfl⟩, k_Book_is_as_strict⟩, ⟨a_Book_is_as_strict, i_Book_is_as_strict, k_Book_is_as_strict⟩⟩,
    ⟨_, _, ⟨⟨_, _, _, _, _, _, _, _, _, _, rfl, l_Book___eq__, c_Book___eq__, .inl ⟨rfl, rfl⟩, .inl rfl⟩, k_Book___eq__⟩, ⟨a_Book___eq__, i_Book___eq__, k_Book___eq__⟩⟩,
    ⟨_, _, ⟨⟨_, _, _, _, _, _, _, _, _, _, rfl, l__law_is_as_strict, c__law_is_as_strict, .inl ⟨rfl, rfl⟩, .inl rfl⟩, k__law_is_as_strict⟩, PySem.W.mg_of X G a__law_is_as_strict⟩,
    ⟨_, _, ⟨⟨_, _, _, _, _, _, _, _, _, _, rfl, l__law_two_right, c__law_two_right, .inl ⟨rfl, rfl⟩, .inl rfl⟩, k__law_two_right⟩, PySem.W.mg_of X G a__law_two_right⟩,
    ⟨_, _, ⟨⟨_, _, _, _, _, _, _, _, _, _, rfl, l__law_known_right, c__law_known_right, .inl ⟨rfl, rfl⟩, .inl rfl⟩, k__law_known_right⟩, PySem.W.mg_of X G a__law_known_right⟩,
    ⟨_, _, ⟨⟨_, _, _, _, _, _, _, _, _, _, rfl, l__law_draw, c__law_draw, .inl ⟨rfl, rfl⟩, .inl rfl⟩, k__law_draw⟩, PySem.W.mg_of X G a__law_draw⟩,
    ⟨_, _, ⟨⟨_, _, _, _, _, _, _, _, _, _, rfl, l__law_pick, c__law_pick, .inl ⟨rfl, rfl⟩, .inl rfl⟩, k__law_pick⟩, PySem.W.mg_of X G a__law_pick⟩,
    ⟨_, _, ⟨⟨_, _, _, _, _, _, _, _, _, _, rfl, l__law_sequences, c__law_sequences, .inl ⟨rfl, rfl⟩, .inl rfl⟩, k__law_sequences⟩, PySem.W.mg_of X G a__law_sequences⟩,
    ⟨_, _, ⟨⟨_, _, _, _, _, _, _, _, _, _, rfl, l__law_is_ahead, c__law_is_ahead, .inl ⟨rfl, rfl⟩, .inl rfl⟩, k__law_is_ahead⟩, PySem.W.mg_of X G a__law_is_ahead⟩,
    ⟨_, _, ⟨⟨_, _, _, _, _, _, _, _, _, _, rfl, l__law_is_take, c__law_is_take, .inl ⟨rfl, rfl⟩, .inl rfl⟩, k__law_is_take⟩, PySem.W.mg_of X G a__law_is_take⟩,
    ⟨_, _, ⟨⟨_, _, _, _, _, _, _, _, _, _, rfl, l__law_takes, c__law_takes, .inl ⟨rfl, rfl⟩, .inl rfl⟩, k__law_takes⟩, PySem.W.mg_of X G a__law_takes⟩,
    ⟨_, _, ⟨⟨_, _, _, _, _, _, _, _, _, _, rfl, l__law_is_give, c__law_is_give, .inl ⟨rfl, rfl⟩, .inl rfl⟩, k__law_is_give⟩, PySem.W.mg_of X G a__law_is_give⟩,
    ⟨_, _, ⟨⟨_, _, _, _, _, _, _, _, _, _, rfl, l__law_gives, c__law_gives, .inl ⟨rfl, rfl⟩, .inl rfl⟩, k__law_gives⟩, PySem.W.mg_of X G a__law_gives⟩,
    ⟨_, _, ⟨⟨_, _, _, _, _, _, _, _, _, _, rfl, l__law_is_move, c__law_is_move, .inl ⟨rfl, rfl⟩, .inl rfl⟩, k__law_is_move⟩, PySem.W.mg_of X G a__law_is_move⟩,
    ⟨_, _, ⟨⟨_, _, _, _, _, _, _, _, _, _, rfl, l__law_moves, c__law_moves, .inl ⟨rfl, rfl⟩, .inl rfl⟩, k__law_moves⟩, PySem.W.mg_of X G a__law_moves⟩,
    ⟨_, _, ⟨⟨_, _, _, _, _, _, _, _, _, _, rfl, l__law_lifts, c__law_lifts, .inl ⟨rfl, rfl⟩, .inl rfl⟩, k__law_lifts⟩, PySem.W.mg_of X G a__law_lifts⟩,
    ⟨_, _, ⟨⟨_, _, _, _, _, _, _, _, _, _, rfl, l__law_any, c__law_any, .inl ⟨rfl, rfl⟩, .inl rfl⟩, k__law_any⟩, PySem.W.mg_of X G a__law_any⟩,
    ⟨_, _, ⟨⟨_, _, _, _, _, _, _, _, _, _, rfl, l__law_exchanged, c__law_exchanged, .inl ⟨rfl, rfl⟩, .inl rfl⟩, k__law_exchanged⟩, PySem.W.mg_of X G a__law_exchanged⟩,
    ⟨_, _, ⟨⟨_, _, _, _, _, _, _, _, _, _, rfl, l__law_beside, c__law_beside, .inl ⟨rfl, rfl⟩, .inl rfl⟩, k__law_beside⟩, PySem.W.mg_of X G a__law_beside⟩,
    ⟨_, _, _, ⟨⟨_, _, _, _, _, _, _, _, _, _, rfl, l_Book_holds, c_Book_holds, .inl ⟨rfl, rfl⟩, .inl rfl⟩, k_Book_holds⟩, ⟨pa_Book_holds, pb_Book_holds, pc_Book_holds, ⟨_, pd_Book_holds⟩⟩⟩,
    ⟨_, _, ⟨⟨_, _, _, _, _, _, _, _, _, _, rfl, l_Book___repr__, c_Book___repr__, .inl ⟨rfl, rfl⟩, .inl rfl⟩, k_Book___repr__⟩, ⟨a_Book___repr__, i_Book___repr__, k_Book___repr__⟩⟩,
    ⟨_, _, ⟨⟨_, _, _, _, _, _, _, _, _, _, rfl, l__law_alone_right, c__law_alone_right, .inl ⟨rfl, rfl⟩, .inl rfl⟩, k__law_alone_right⟩, PySem.W.mg_of X G a__law_alone_right⟩,
    ⟨_, _, ⟨⟨_, _, _, _, _, _, _, _, _, _, rfl, l__law_right, c__law_right, .inl ⟨rfl, rfl⟩, .inl rfl⟩, k__law_right⟩, PySem.W.mg_of X G a__law_right⟩,
    ⟨_, _, ⟨⟨_, _, _, _, _, _, _, _, _, _, rfl, l__law_pot, c__law_pot, .inl ⟨rfl, rfl⟩, .inl rfl⟩, k__law_pot⟩, PySem.W.mg_of X G a__law_pot⟩,
    ⟨_, _, ⟨⟨_, _, _, _, _, _, _, _, _, _, rfl, l_law, c_law, .inl ⟨rfl, rfl⟩, .inl rfl⟩, k_law⟩, PySem.W.mg_of X G a_law⟩,
    PySem.W.mg_none_of X G z_abs,
    PySem.W.mg_none_of X G z_all,
    PySem.W.mg_none_of X G z_any,
    PySem.W.mg_none_of X G z_bool,
    PySem.W.mg_none_of X G z_dict,
    PySem.W.mg_none_of X G z_divmod,
    PySem.W.mg_none_of X G z_enumerate,
    PySem.W.mg_none_of X G z_int,
    PySem.W.mg_none_of X G z_isinstance,
    PySem.W.mg_none_of X G z_len,
    PySem.W.mg_none_of X G z_list,
    PySem.W.mg_none_of X G z_max,
    PySem.W.mg_none_of X G z_min,
    PySem.W.mg_none_of X G z_range,
    PySem.W.mg_none_of X G z_repr,
    PySem.W.mg_none_of X G z_str,
    PySem.W.mg_none_of X G z_tuple,
    PySem.W.mg_none_of X G z_zip,
    ⟨_, PySem.W.mg_of X G y_ADD⟩,
    ⟨_, PySem.W.mg_of X G y_BOTH⟩,
    ⟨_, PySem.W.mg_of X G y_END⟩,
    ⟨_, PySem.W.mg_of X G y_FAILS, fun m N H => (.tup (vs := [V.str "undo", V.str "leave", V.str "wait"]) ⟨.inr ⟨_, _, _, tt_FAILS, rfl, rfl, (by rw [sizeLine_eq]; exact Nat.le_of_ble_eq_true rfl), (.cons ⟨_, rfl⟩ (.cons ⟨_, rfl⟩ (.cons ⟨_, rfl⟩ .nil)))⟩, .inl (.inr ⟨_, tt_FAILS, rfl⟩)⟩ (.cons (.str _) (.cons (.str _) (.cons (.str _) .nil))))⟩,
    ⟨_, PySem.W.mg_of X G y_GIVE⟩,
    ⟨_, PySem.W.mg_of X G y_GIVE_WORDS, fun m N H => (.tup (vs := [V.str "home", V.str "off", V.str "end"]) ⟨.inr ⟨_, _, _, tt_GIVE_WORDS, rfl, rfl, (by rw [sizeLine_eq]; exact Nat.le_of_ble_eq_true rfl), (.cons ⟨_, rfl⟩ (.cons ⟨_, rfl⟩ (.cons ⟨_, rfl⟩ .nil)))⟩, .inl (.inr ⟨_, tt_GIVE_WORDS, rfl⟩)⟩ (.cons (.str _) (.cons (.str _) (.cons (.str _) .nil))))⟩,
    ⟨_, PySem.W.mg_of X G y_GREATEST_BATCH⟩,
    ⟨_, PySem.W.mg_of X G y_HOLDING, fun m N H => (.tup (vs := [V.str "take", V.str "give", V.str "move", V.str "lift"]) ⟨.inr ⟨_, _, _, tt_HOLDING, rfl, rfl, (by rw [sizeLine_eq]; exact Nat.le_of_ble_eq_true rfl), (.cons ⟨_, rfl⟩ (.cons ⟨_, rfl⟩ (.cons ⟨_, rfl⟩ (.cons ⟨_, rfl⟩ .nil))))⟩, .inl (.inr ⟨_, tt_HOLDING, rfl⟩)⟩ (.cons (.str _) (.cons (.str _) (.cons (.str _) (.cons (.str _) .nil)))))⟩,
    ⟨_, PySem.W.mg_of X G y_HOME⟩,
    ⟨_, PySem.W.mg_of X G y_LIFT⟩,
    ⟨_, PySem.W.mg_of X G y_LIFTS, fun m N H => (.tup (vs := [V.ref ad_LIFTS_0, V.ref ad_LIFTS_1, V.ref ad_LIFTS_2, V.ref ad_LIFTS_3, V.ref ad_LIFTS_4, V.ref ad_LIFTS_5]) ⟨.inr ⟨_, _, _, tt_LIFTS, rfl, rfl, (by rw [sizeLine_eq]; exact Nat.le_of_ble_eq_true rfl), (.cons rfl (.cons rfl (.cons rfl (.cons rfl (.cons rfl (.cons rfl .nil))))))⟩, .inl (.inr ⟨_, tt_LIFTS, rfl⟩)⟩ (.cons (.tup (vs := []) ⟨.inr ⟨_, _, _, tt_LIFTS_0, rfl, rfl, (by rw [sizeLine_eq]; exact Nat.le_of_ble_eq_true rfl), .nil⟩, .inl (.inr ⟨_, tt_LIFTS_0, rfl⟩)⟩ .nil) (.cons (.tup (vs := [V.str "set"]) ⟨.inr ⟨_, _, _, tt_LIFTS_1, rfl, rfl, (by rw [sizeLine_eq]; exact Nat.le_of_ble_eq_true rfl), (.cons ⟨_, rfl⟩ .nil)⟩, .inl (.inr ⟨_, tt_LIFTS_1, rfl⟩)⟩ (.cons (.str _) .nil)) (.cons (.tup (vs := [V.str "off"]) ⟨.inr ⟨_, _, _, tt_LIFTS_2, rfl, rfl, (by rw [sizeLine_eq]; exact Nat.le_of_ble_eq_true rfl), (.cons ⟨_, rfl⟩ .nil)⟩, .inl (.inr ⟨_, tt_LIFTS_2, rfl⟩)⟩ (.cons (.str _) .nil)) (.cons (.tup (vs := [V.str "set", V.str "off"]) ⟨.inr ⟨_, _, _, tt_LIFTS_3, rfl, rfl, (by rw [sizeLine_eq]; exact Nat.le_of_ble_eq_true rfl), (.cons ⟨_, rfl⟩ (.cons ⟨_, rfl⟩ .nil))⟩, .inl (.inr ⟨_, tt_LIFTS_3, rfl⟩)⟩ (.cons (.str _) (.cons (.str _) .nil))) (.cons (.tup (vs := [V.str "off", V.str "set"]) ⟨.inr ⟨_, _, _, tt_LIFTS_4, rfl, rfl, (by rw [sizeLine_eq]; exact Nat.le_of_ble_eq_true rfl), (.cons ⟨_, rfl⟩ (.cons ⟨_, rfl⟩ .nil))⟩, .inl (.inr ⟨_, tt_LIFTS_4, rfl⟩)⟩ (.cons (.str _) (.cons (.str _) .nil))) (.cons (.tup (vs := [V.str "both"]) ⟨.inr ⟨_, _, _, tt_LIFTS_5, rfl, rfl, (by rw [sizeLine_eq]; exact Nat.le_of_ble_eq_true rfl), (.cons ⟨_, rfl⟩ .nil)⟩, .inl (.inr ⟨_, tt_LIFTS_5, rfl⟩)⟩ (.cons (.str _) .nil)) .nil)))))))⟩,
    ⟨_, PySem.W.mg_of X G y_LIVE⟩,
    ⟨_, PySem.W.mg_of X G y_LOOK⟩,
    ⟨_, PySem.W.mg_of X G y_MOVE⟩,
    ⟨_, PySem.W.mg_of X G y_MOVE_WORDS, fun m N H => (.tup (vs := [V.str "home", V.str "look", V.str "add", V.str "try", V.str "set", V.str "off"]) ⟨.inr ⟨_, _, _, tt_MOVE_WORDS, rfl, rfl, (by rw [sizeLine_eq]; exact Nat.le_of_ble_eq_true rfl), (.cons ⟨_, rfl⟩ (.cons ⟨_, rfl⟩ (.cons ⟨_, rfl⟩ (.cons ⟨_, rfl⟩ (.cons ⟨_, rfl⟩ (.cons ⟨_, rfl⟩ .nil))))))⟩, .inl (.inr ⟨_, tt_MOVE_WORDS, rfl⟩)⟩ (.cons (.str _) (.cons (.str _) (.cons (.str _) (.cons (.str _) (.cons (.str _) (.cons (.str _) .nil)))))))⟩,
    ⟨_, PySem.W.mg_of X G y_OFF⟩,
    ⟨_, PySem.W.mg_of X G y_SET⟩,
    ⟨_, PySem.W.mg_of X G y_TAKE⟩,
    ⟨_, PySem.W.mg_of X G y_TAKE_WORDS, fun m N H => (.tup (vs := [V.str "look", V.str "add", V.str "try", V.str "live"]) ⟨.inr ⟨_, _, _, tt_TAKE_WORDS, rfl, rfl, (by rw [sizeLine_eq]; exact Nat.le_of_ble_eq_true rfl), (.cons ⟨_, rfl⟩ (.cons ⟨_, rfl⟩ (.cons ⟨_, rfl⟩ (.cons ⟨_, rfl⟩ .nil))))⟩, .inl (.inr ⟨_, tt_TAKE_WORDS, rfl⟩)⟩ (.cons (.str _) (.cons (.str _) (.cons (.str _) (.cons (.str _) .nil)))))⟩,
    ⟨_, PySem.W.mg_of X G y_TESTS, fun m N H => (.tup (vs := [V.str "look", V.str "try"]) ⟨.inr ⟨_, _, _, tt_TESTS, rfl, rfl, (by rw [sizeLine_eq]; exact Nat.le_of_ble_eq_true rfl), (.cons ⟨_, rfl⟩ (.cons ⟨_, rfl⟩ .nil))⟩, .inl (.inr ⟨_, tt_TESTS, rfl⟩)⟩ (.cons (.str _) (.cons (.str _) .nil)))⟩,
    ⟨_, PySem.W.mg_of X G y_TRY⟩⟩
  have e := hfa.symm.trans (PySem.W.mg_of X G a_law)
  cases e
  have F : FunD K "law" "law" (defArgs s_law) (defBody s_law) (defScope s_law) [] [] fa _ := ⟨⟨_, _, _, _, _, _, _, _, _, _, rfl, l_law, c_law, .inl ⟨rfl, rfl⟩, .inl rfl⟩, k_law⟩
  exact ⟨_, fun s u => F.bindsA (ps := ["_law_script"]) (fun _ _ _ _ _ _ us hl => match us, hl with | [_], _ => rfl) s [u] rfl, fun base _ _ => law_of (ok_law T F) hT⟩
end Lw

set_option Elab.async false
set_option linter.all false
set_option maxRecDepth 100000
set_option maxHeartbeats 3000000
/-! Own layer: exceptions of the program's own classes, over any built-in base. -/
namespace Py
open PySem L2 PySem.Spec PyProof.Rows
/-- what is asked of the built-in class under an own one -/
structure BaseX (tl : List Value) (newId : String) : Prop where
  ok : ∃ B initId, ExcBaseFacts B newId initId tl ∧ PySem.StoreFacts B tl "object.__setattr__" "object"
/-- an own class of errors -/
structure ExC (K : PySem.W.Frag) (C : Addr) : Prop where
  base : ∃ tl newId, BaseX tl newId ∧ PySem.W.excInitIn K C tl newId = true ∧ PySem.W.excOver K C tl = true
  dict : PySem.W.hasDictIn K C = true
  put : PySem.W.findIn K (.ref C) "__setattr__" = some (some (.builtin "object.__setattr__"))
  sub : PySem.W.subIn K (.ref C) (.type "BaseException") = some true
  typ : PySem.W.typeIn K (.ref C) = some (.type "type")
  keeps : PySem.W.keepIn K (.ref C) = true
section
open PySem.Builtin PySem.Builtin.ObjectAttr
variable {prog : Program} {w : World} {A : Around} {R : Result → Shared → Prop} {hp : Heap} {g : Array GenState} {d : Drawn} {t : Nat} {os : OsState}
end
end Py

set_option Elab.async false
set_option linter.all false
set_option maxRecDepth 100000
set_option maxHeartbeats 3000000
/-! Own layer: self.f = v of an exception that is being made; such a def; the making; raise. -/
namespace Py
open PySem L2 PySem.Spec PyProof.Rows
section
variable {X : Cx} {pins : List (Addr × Obj)} {σ : L2.St} {H : Hp} {s : Shared} {a C dx : Addr} {f : Str} {y : V} {u : Value} {ff : List (Str × V)} {Q : Unit → Shared → Prop} {E : Value → Shared → Prop} {A : Around}
end
/-- self.f = e, self an exception that is being made -/
def tXset (K : PySem.W.Frag) (f : Str) (to te : TE) : TS := fun D σ H => te σ H fun y H1 => to σ H1 fun x Hb => ∃ a C : Addr, x = .ref a ∧ ExC K C ∧ PySem.W.takerIn K C f = some none ∧
  ((Hb a = some (exo a C none) ∧ ∀ dx, Hb dx = none → dx ≠ a → D.nx σ (upd (upd Hb dx (exd dx [(f, y)])) a (exo a C (some dx)))) ∨
    ∃ (dx : Addr) (ff : List (Str × V)), Hb a = some (exo a C (some dx)) ∧ Hb dx = some (exd dx ff) ∧ ff.length ≤ 900 ∧ D.nx σ (upd Hb dx (exd dx ((f, y) :: ff))))
/-! ### def __init__(self, v): self.f = v -/
def spX1 (K : PySem.W.Frag) (f : Str) : Sp := fun vs H Q _ => ∃ (a C : Addr) (y : V), vs = [.ref a, y] ∧ ExC K C ∧ PySem.W.takerIn K C f = some none ∧ H a = some (exo a C none) ∧ ∀ dx, H dx = none → dx ≠ a → Q .non (upd (upd H dx (exd dx [(f, y)])) a (exo a C (some dx)))
/-! ### the making -/
def tMkX (C : Addr) (sp : Sp) (ta : TA) : L2.St → Hp → XK → Prop := fun σ H Q => ta σ H fun vs H1 => vs.length ≤ 1000 ∧ ∀ a, H1 a = none → sp (.ref a :: vs) (upd H1 a (exo a C none))
  (fun v Hb => v = .non ∧ ∃ (d : Addr) (ff : List (Str × V)), Hb a = some (exo a C (some d)) ∧ Hb d = some (exd d ff) ∧ H1 d = none ∧ Q (.ref C) (some d) (upd (del Hb a) d (.xd ff))) (fun _ _ _ => False)
end Py

set_option Elab.async false
set_option linter.all false
set_option maxRecDepth 100000
set_option maxHeartbeats 3000000
/-! Own layer: raise; what may leave a def; try with several clauses. -/
namespace Py
open PySem L2 PySem.Spec PyProof.Rows
/-! ### raise -/
def sRaise1 (c i : Nat) (fa : EX) : SX := fun r h => (fa r h).to fun d h1 => .exc c [(i, d)] h1
def sRaise0 (c : Nat) : SX := fun _ h => .exc c [] h
section
variable {X : Cx} {G : Gam} {E : XK} {ee : Expr} {fa : EX} {x : Str} {p pos rpos : Pos}
end
/-! ### a def that may let an error out -/
/-! ### try: several clauses, with names or not; all that comes is caught -/
def endAt (Z : Ends) : Option Nat → Ends
  | none => Z
  | some i => { nx := fun σ' H' => Z.nx (σ'.set i none) H', rt := Z.rt, bk := fun σ' H' => Z.bk (σ'.set i none) H', ct := fun σ' H' => Z.ct (σ'.set i none) H' }
def setAt (σ : L2.St) : Option Nat → Addr → L2.St
  | none, _ => σ
  | some i, a => σ.set i (some (.ref a))
abbrev Cl := Value × Option Nat × (Addr → Value → Option Addr → TS)
def wCls (K : PySem.W.Frag) (Z : Ends) : List Cl → WX
  | [] => fun _ _ _ _ => False
  | (c, oi, ts) :: l => fun cls d σ H => ∃ b, PySem.W.exmOne K cls c = some b ∧ (b = true → ∀ a, H a = none → ts a cls d (endAt Z oi) (setAt σ oi a) H) ∧ (b = false → wCls K Z l cls d σ H)
inductive ClsOk (X : Cx) : List ExceptHandler → List Cl → Prop
  | nil : ClsOk X [] []
  | plain {x : Str} {c : Value} {ts : Addr → Value → Option Addr → TS} {b₀ : Stmt} {suite : List Stmt} {np pos' : Pos} {cls' : List ExceptHandler} {l : List Cl} (hc : Names X x c)
      (hsu : ∀ (a : Addr) (ob : Obj) (cls : Value) (d : Option Addr) (pn : List (Addr × Obj)), Zc cls d ob → (∃ vs, ob.data = .fields vs) → PSs (X.suite a ((a, ob) :: pn)) (b₀ :: suite) (ts a cls d)) (r : ClsOk X cls' l) :
      ClsOk X (.ExceptHandler (some (.Name x np)) none (b₀ :: suite) pos' :: cls') ((c, none, ts) :: l)
  | named {x n : Str} {i : Nat} {c : Value} {ts : Addr → Value → Option Addr → TS} {b₀ : Stmt} {suite : List Stmt} {np pos' : Pos} {cls' : List ExceptHandler} {l : List Cl} (hN : X.N.Nodup) (hi : X.N[i]? = some n) (hln : X.env.kindOf n = some .local) (hc : Names X x c)
      (hsu : ∀ (a : Addr) (ob : Obj) (cls : Value) (d : Option Addr) (pn : List (Addr × Obj)), Zc cls d ob → (∃ vs, ob.data = .fields vs) → PSs (X.suite a ((a, ob) :: pn)) (b₀ :: suite) (ts a cls d)) (r : ClsOk X cls' l) :
      ClsOk X (.ExceptHandler (some (.Name x np)) (some n) (b₀ :: suite) pos' :: cls') ((c, some i, ts) :: l)
section
variable {X : Cx} {body : List Stmt} {h₀ : ExceptHandler} {cls' : List ExceptHandler} {l : List Cl} {pos : Pos} {tb : WX → TS}
end
end Py

set_option Elab.async false
set_option linter.all false
set_option maxRecDepth 100000
set_option maxHeartbeats 3000000
/-! Own layer: try in the plain world, and its soundness; what a clause's suite reads of its exception. -/
namespace Py
open PySem L2 PySem.Spec PyProof.Rows
/-- a clause: which classes it takes, the slot of its name, its suite -/
abbrev Hd := (Nat → Option Bool) × Option Nat × (Nat → List (Nat × D) → SX)
def wipe (r : LS) : Option Nat → LS
  | none => r
  | some i => r.set i none
def wipeF (oi : Option Nat) : F → F
  | .nx r h => .nx (wipe r oi) h
  | .bk r h => .bk (wipe r oi) h
  | .ct r h => .ct (wipe r oi) h
  | .rt d h => .rt d h
  | _ => .stuck
def hdl : List Hd → Nat → List (Nat × D) → SX
  | [], _, _ => fun _ _ => .stuck
  | (mt, oi, b) :: l, c, fs => fun r h => match mt c with
    | some true => wipeF oi (b c fs (wipe r oi) h)
    | some false => hdl l c fs r h
    | none => .stuck
def sTry (b : SX) (l : List Hd) : SX := fun r h => match b r h with
  | .exc c fs h1 => hdl l c fs r h1
  | f => f
theorem RelS.len {K : PySem.W.Frag} {m : Nat → Addr} {N : Nat} {H : Hp} : ∀ {r : LS} {σ : L2.St}, RelS K m N H r σ → r.length = σ.length
  | _, _, .nil => rfl
  | _, _, .no q => by simp [RelS.len q]
  | _, _, .yes _ q => by simp [RelS.len q]
section
variable {G : Gam} {K : PySem.W.Frag} {m m' : Nat → Addr} {N : Nat} {H H' : Hp} {h h' : LH}
theorem RelO.notX {a : Addr} {o : O} (r : RelO G K m N H a o) {vs : List (Str × V)} (e : H a = some (.xd vs)) : False := by
  cases o with
  | lst xs => obtain ⟨ws, h1, _⟩ := r; rw [e] at h1; exact nomatch h1
  | ins c fs => obtain ⟨dx, ws, h1, _⟩ := r; rw [e] at h1; exact nomatch h1
  | dct kv => obtain ⟨ws, h1, _⟩ := r; rw [e] at h1; exact nomatch h1
  | hid _ => obtain ⟨_, _, h1, _⟩ := r; rw [e] at h1; exact nomatch h1
theorem ExcAt.on {fs : List (Nat × D)} {od : Option Addr} (rh : RelH G K m h H) (p : Post G K m h.length H m' h' H') (x : ExcAt G K m h.length H fs od) : ExcAt G K m' h'.length H' fs od := by
  rcases x with x | ⟨a, vs, rfl, e, r⟩
  · exact .inl x
  · refine .inr ⟨a, vs, rfl, p.fr a _ e (fun _ z => nomatch z) fun i l z => ?_, r.mono p.agr p.len p.tk⟩
    have := rh.obj i _ (List.getElem?_eq_getElem l)
    rw [z] at this
    exact this.notX e
end
/-- what a clause's suite is worth: a the exception, cls its class, d its dict -/
def tHd (G : Gam) (K : PySem.W.Frag) (mt : Nat → Option Bool) (oi : Option Nat) (b : Nat → List (Nat × D) → SX) : Addr → Value → Option Addr → TS := fun a cls d Z σ H =>
  ∃ c fs m r h, cls = .ref (G.cl c) ∧ mt c = some true ∧ RelH G K m h H ∧ RelS K m h.length H r σ ∧ ExcAt G K m h.length H fs d ∧ (∀ i, oi = some i → i < σ.length → σ[i]? = some (some (.ref a))) ∧ OutS G K (fun _ _ _ => False) m h.length H Z (b c fs r h)
def clOf (G : Gam) (K : PySem.W.Frag) (p : Value × Hd) : Cl := (p.1, p.2.2.1, tHd G K p.2.1 p.2.2.1 p.2.2.2)
section
variable {X : Cx} {G : Gam} {E : XK}
/-! ### suites -/
variable {a : Addr} {oe : Obj} {cls : Value} {d : Option Addr} {pn : List (Addr × Obj)}
/-- an expression of a suite, the exception's fields at hand -/
def tJ (G : Gam) (K : PySem.W.Frag) (c i : Nat) (fs : List (Nat × D)) (f : EX) (a : Addr) (cls : Value) (d : Option Addr) : TE := fun σ H Q =>
  ∃ m r h, cls = .ref (G.cl c) ∧ RelH G K m h H ∧ RelS K m h.length H r σ ∧ ExcAt G K m h.length H fs d ∧ (i < σ.length → σ[i]? = some (some (.ref a))) ∧ Out G K (fun _ _ _ => False) m h.length H Q (f r h)
def eXf (k : Nat) (fs : List (Nat × D)) : EX := fun _ h => match getA k fs with
  | some x => .ok x h
  | none => .stuck
/-- a test of a suite -/
def tJT (G : Gam) (K : PySem.W.Frag) (c i : Nat) (fs : List (Nat × D)) (f : EX) (a : Addr) (cls : Value) (d : Option Addr) : TT := fun σ H Q =>
  ∃ m r h, cls = .ref (G.cl c) ∧ RelH G K m h H ∧ RelS K m h.length H r σ ∧ ExcAt G K m h.length H fs d ∧ (i < σ.length → σ[i]? = some (some (.ref a))) ∧ OutT G K (fun _ _ _ => False) m h.length H Q (f r h)
/-! ### the body of a try: one call that may let an error out -/
def CallS (X : Cx) (G : Gam) (E : L2.St → XK) (fv : Value) (op : KF) : Prop :=
  ∀ (pins : List (Addr × Obj)) (s : Shared) (σ : L2.St) (H : Hp) (us : List Value) (vs : List V) (Q : VK), Inv X pins σ H s → Vals vs us →
    (∃ m h ds, RelH G X.K m h H ∧ RelDs X.K m h.length H ds vs ∧ Out G X.K (E σ) m h.length H Q (op ds [] h)) → wpAny (model X.prog X.w) X.A (call fv us) (EP X pins σ Q) X.xe s
end
end Py

set_option Elab.async false
set_option linter.all false
set_option maxRecDepth 100000
/-! Rules for raise, try, an error's field. -/
namespace Ev
open Py PySem
section
variable {E : EP} {Q : D → LH → Prop} {h : LH} {r : LS} {N B C : NP} {T : D → LH → Prop}
theorem wf_Raise1 {c i : Nat} {fa : EX} (q : WP (fa r h) (fun d h1 => E c [(i, d)] h1) E) : WF (sRaise1 c i fa r h) N T B C E := wf_to q
theorem wf_Raise0 {c : Nat} (q : E c [] h) : WF (sRaise0 c r h) N T B C E := q
theorem wf_Try {b : SX} {l : List Hd} (q : WF (b r h) N T B C (fun c fs h1 => WF (hdl l c fs r h1) N T B C E)) : WF (sTry b l r h) N T B C E := by
  unfold sTry
  cases z : b r h with
  | nx r1 h1 => rw [z] at q; exact q
  | rt d h1 => rw [z] at q; exact q
  | bk r1 h1 => rw [z] at q; exact q
  | ct r1 h1 => rw [z] at q; exact q
  | exc c fs h1 => rw [z] at q; exact q
  | stuck => rw [z] at q; exact q
theorem wp_eXf {k : Nat} {fs : List (Nat × D)} {x : D} (e : getA k fs = some x) (q : Q x h) : WP (eXf k fs r h) Q E := by
  unfold eXf
  rw [e]
  exact q
end
end Ev

set_option Elab.async false
set_option linter.all false
set_option maxRecDepth 100000
/-! Rules for dict(list(d.items()) + l), d.update(e), [*d.values(), ..], range(a, b, -1), x.split(sep). -/
namespace Ev
open Py PySem
section
variable {E : EP} {Q : D → LH → Prop} {h : LH} {r : LS}
def DctAt (x : D) (h : LH) (P : List (Ky × D) → Prop) : Prop := ∃ ks, dctD x h = some ks ∧ P ks
theorem dctat {n : Nat} {ks : List (Ky × D)} {P : List (Ky × D) → Prop} (e : h[n]? = some (.dct ks)) (p : P ks) : DctAt (.ref n) h P := ⟨ks, by simp only [dctD, e], p⟩
theorem wp_eUpd {fo fi : EX} (q : WP (fo r h) (fun x h1 => DctAt x h1 fun _ => WP (fi r h1) (fun y h2 => WP (oUpd x y h2) Q E) E) E) : WP (eUpd fo fi r h) Q E :=
  wp_bind (wp_use q (fun x h1 z => by
    obtain ⟨ks, e, z⟩ := z
    simp only [e]; exact wp_bind z) (fun _ _ _ z => z))
theorem wp_oUpd {n k : Nat} {ks ms : List (Ky × D)} (e1 : h[n]? = some (.dct ks)) (e2 : h[k]? = some (.dct ms)) (c : n ≠ k ∧ ks.length + ms.length ≤ sizeLine) (q : ∀ h1, Ext [n] h h1 → h1[n]? = some (.dct (mergeD ks ms)) → Q .non h1) : WP (oUpd (.ref n) (.ref k) h) Q E := by
  simp only [oUpd, e1, e2, if_pos c]; exact q _ ext_set (at_set e1)
theorem wp_aStarV {fo : EX} {fa : AX} {Q : List D → LH → Prop} (q : WP (fo r h) (fun x h1 => DctAt x h1 fun ks => WP (fa r h1) (fun ds h2 => Q (ks.map (·.2) ++ ds) h2) E) E) : WP (aStarV fo fa r h) Q E :=
  wp_bind (wp_use q (fun x h1 z => by
    obtain ⟨ks, e, z⟩ := z
    simp only [e]
    exact wp_bind (wp_use z (fun _ _ z => z) (fun _ _ _ z => z))) (fun _ _ _ z => z))
end
end Ev

set_option Elab.async false
set_option linter.all false
set_option maxRecDepth 100000
set_option maxHeartbeats 4000000
/-! Own layer: lists with own instances compared (all found equal); isinstance of an own instance; calls that might raise but do not. -/
namespace GQ
open PySem PySem.SeqAt
open AutoSeq1 (wpAny_loadPart')
open MeetsSeq MeetsSeq2 MeetsSeq3 SeqRoads2
section
variable {prog : Program} {w : World} {A : Around} {R : Result → Shared → Prop}
end
section
variable {prog : Program} {w : World} {A : Around} {E : Value → Shared → Prop} {s : Shared}
end
end GQ
namespace Py
open PySem PySem.Spec PyProof.Rows L2
/-! ### == of lists with own instances -/
def sameF : D → D → Bool
  | .non, .non => true
  | .bl a, .bl b => a == b
  | .int a, .int b => decide (a = b)
  | .str a, .str b => decide (a = b)
  | _, _ => false
def eqItm (c : Nat) (cf : CF) (x y : D) (h : LH) : Option LH := if sameF x y = true then some h else match x, y with
  | .ref a, .ref b => if a = b then some h else (match h[a]?, h[b]? with
    | some (.ins c1 _), some (.ins c2 _) => if c1 = c ∧ c2 = c then (match cf [.ref a, .ref b] h with
      | .ok (.bl true) h1 => some h1
      | _ => none) else none
    | _, _ => none)
  | _, _ => none
def twoL (n k N : Nat) (h : LH) : Option (List D × List D) := match h[n]?, h[k]? with
  | some (.lst xs), some (.lst ys) => if xs.length = N ∧ ys.length = N then some (xs, ys) else none
  | _, _ => none
def eqLoop (c : Nat) (cf : CF) (n k N : Nat) : Nat → Nat → LH → Option LH
  | 0, _, h => (twoL n k N h).map fun _ => h
  | f + 1, i, h => (twoL n k N h).bind fun p => match p.1[i]?, p.2[i]? with
    | some x, some y => (eqItm c cf x y h).bind fun h1 => eqLoop c cf n k N f (i + 1) h1
    | _, _ => none
def oEqL (c : Nat) (cf : CF) (neg : Bool) : D → D → LH → R D
  | .ref n, .ref k, h => (match h[n]? with
    | some (.lst xs) => (match eqLoop c cf n k xs.length xs.length 0 h with
      | some h1 => .ok (.bl (!neg)) h1
      | none => .stuck)
    | _ => .stuck)
  | _, _, _ => .stuck
section
variable {X : Cx} {G : Gam} {E : XK} {CX : CXT}
/-! ### calls that might raise, but do not -/
def nxK (op : KF) : KF := fun ds es h => match op ds es h with
  | .exc _ _ _ => .stuck
  | r => r
/-! ### isinstance(x, (t1, t2)), x perhaps an own instance -/
def oIsiO (c : Nat) (ks : List Kd) : D → LH → R D := fun d h => match kindD d h with
  | some k => .ok (.bl (ks.any fun t => k.is t)) h
  | none => (match d with
    | .ref n => (match h[n]? with
      | some (.ins c' _) => if c' = c then .ok (.bl false) h else .stuck
      | _ => .stuck)
    | _ => .stuck)
variable {a : Expr} {fa : EX} {pos : Pos}
end
end Py

set_option Elab.async false
set_option linter.all false
set_option maxRecDepth 100000
/-! Rules for runs: dicts of whole keys, o[i] += x, fields as targets. -/
namespace Ev
open Py PySem
section
variable {E : EP} {Q : D → LH → Prop} {h : LH} {r : LS} {N B C : NP} {T : D → LH → Prop}
def DputK (d x y : D) (r : LS) (h : LH) (N : NP) : Prop := ∃ n k kvs, x = .ref n ∧ keyD y = some k ∧ h[n]? = some (.dct kvs) ∧ kvs.length < sizeLine ∧ ∀ h1, Ext [n] h h1 → h1[n]? = some (.dct (putD kvs k d)) → (putD kvs k d).length ≤ kvs.length + 1 → N r h1
theorem dputk_s {n : Nat} {s : Str} {kvs : List (Ky × D)} {d : D} {N : NP} (e : h[n]? = some (.dct kvs)) (l : kvs.length < sizeLine) (q : ∀ h1, Ext [n] h h1 → h1[n]? = some (.dct (putD kvs (.inr s) d)) → (putD kvs (.inr s) d).length ≤ kvs.length + 1 → N r h1) : DputK d (.ref n) (.str s) r h N := ⟨n, _, kvs, rfl, rfl, e, l, q⟩
theorem wf_sDputK {o i e : EX} (q : WP (e r h) (fun d h1 => WP (o r h1) (fun x h2 => WP (i r h2) (fun y h3 => DputK d x y r h3 N) E) E) E) : WF (sDput o i e r h) N T B C E :=
  wf_to (wp_use q (fun d h1 z => wf_to (wp_use z (fun x h2 z => wf_to (wp_use z (fun y h3 z => by
    obtain ⟨n, k, kvs, rfl, ek, e, l, q⟩ := z
    simp only [ek, e, if_pos l]; exact q _ ext_set (at_set e) (len_put _ _ _)) (fun _ _ _ z => z))) (fun _ _ _ z => z))) (fun _ _ _ z => z))
theorem wp_eGet1 {fo fi : EX} (q : WP (fo r h) (fun x h1 => DctAt x h1 fun _ => WP (fi r h1) (fun y h2 => WP (get1D x y h2) Q E) E) E) : WP (eGet1 fo fi r h) Q E :=
  wp_bind (wp_use q (fun x h1 z => by
    obtain ⟨ks, e, z⟩ := z
    simp only [e]; exact wp_bind z) (fun _ _ _ z => z))
theorem wp_eGet2 {fo fi fz : EX} (q : WP (fo r h) (fun x h1 => DctAt x h1 fun _ => WP (fi r h1) (fun y h2 => WP (fz r h2) (fun z h3 => WP (get2D x y z h3) Q E) E) E) E) : WP (eGet2 fo fi fz r h) Q E :=
  wp_bind (wp_use q (fun x h1 z => by
    obtain ⟨ks, e, z⟩ := z
    simp only [e]; exact wp_bind (wp_use z (fun _ _ z => wp_bind z) (fun _ _ _ z => z))) (fun _ _ _ z => z))
theorem wp_ePop {fo fi : EX} (q : WP (fo r h) (fun x h1 => DctAt x h1 fun _ => WP (fi r h1) (fun y h2 => WP (popD x y h2) Q E) E) E) : WP (ePop fo fi r h) Q E :=
  wp_bind (wp_use q (fun x h1 z => by
    obtain ⟨ks, e, z⟩ := z
    simp only [e]; exact wp_bind z) (fun _ _ _ z => z))
end
end Ev

set_option Elab.async false
set_option linter.all false
set_option maxRecDepth 100000
/-! Rules for zip, == of dicts, reflected ==, a loop over a dict's keys, items, [*l, ..], join, !r. -/
namespace Ev
open Py PySem
section
variable {E : EP} {Q : D → LH → Prop} {h : LH} {r : LS} {N B C : NP} {T : D → LH → Prop}
def ZipAt (x y : D) (h : LH) (P : Src → Prop) : Prop := ∃ n k xs ys, x = .ref n ∧ y = .ref k ∧ h[n]? = some (.lst xs) ∧ h[k]? = some (.lst ys) ∧ P (.zip (.lst n) (.lst k))
theorem zipat {n k : Nat} {xs ys : List D} {P : Src → Prop} (e1 : h[n]? = some (.lst xs)) (e2 : h[k]? = some (.lst ys)) (p : P (.zip (.lst n) (.lst k))) : ZipAt (.ref n) (.ref k) h P := ⟨n, k, xs, ys, rfl, rfl, e1, e2, p⟩
theorem wp_iZip {a b : EX} {P : Src → LH → Prop} (q : WP (a r h) (fun x h1 => WP (b r h1) (fun y h2 => ZipAt x y h2 fun s => P s h2) E) E) : WP (Py.iZip a b r h) P E :=
  wp_bind (wp_use q (fun x h1 z => wp_bind (wp_use z (fun y h2 z => by
    obtain ⟨n, k, xs, ys, rfl, rfl, e1, e2, z⟩ := z
    simp only [e1, e2]; exact z) (fun _ _ _ z => z))) (fun _ _ _ z => z))
def zipD (xs ys : List D) : List D := List.zipWith (fun x y => .tup [x, y]) xs ys
theorem src_zip {n k i : Nat} {xs ys : List D} (e1 : h[n]? = some (.lst xs)) (e2 : h[k]? = some (.lst ys)) (ns : xs.all notS = true) : srcAt (.zip (.lst n) (.lst k)) h i = some (zipD xs ys)[i]? := by
  have us : srcAt (.zip (.lst n) (.lst k)) h i = (match srcAt (.lst n) h i, srcAt (.lst k) h i with
    | some (some d), some (some e) => if (notS d || notS e) = true then some (some (.tup [d, e])) else none
    | some _, some _ => some none
    | _, _ => none) := rfl
  rw [us, src_lst e1, src_lst e2]
  unfold zipD
  rw [List.getElem?_zipWith]
  cases q1 : xs[i]? with
  | none => cases ys[i]? <;> rfl
  | some d =>
    cases q2 : ys[i]? with
    | none => rfl
    | some e =>
      have : notS d = true := List.all_eq_true.1 ns d (List.mem_of_getElem? q1)
      simp only [this, Bool.true_or, if_true]
theorem gives_zip {n k : Nat} {xs ys : List D} (e1 : h[n]? = some (.lst xs)) (e2 : h[k]? = some (.lst ys)) (ns : xs.all notS = true) : Gives (.zip (.lst n) (.lst k)) h (zipD xs ys) := fun _ x _ => src_zip (x.get0 e1) (x.get0 e2) ns
def IsD (h : LH) (n : Nat) (kvs : List (Ky × D)) : Prop := h[n]? = some (.dct kvs) ∨ h[n]? = some (.hid kvs)
theorem IsD.rd {n : Nat} {kvs : List (Ky × D)} (e : IsD h n kvs) : dctR (.ref n) h = some kvs := by
  rcases e with e | e <;> simp only [dctR, e]
theorem IsD.ext {W : List Nat} {h1 : LH} {n : Nat} {kvs : List (Ky × D)} (e : IsD h n kvs) (x : Ext W h h1) (k : n ∉ W) : IsD h1 n kvs := e.imp (fun e => x.get e k) (fun e => x.get e k)
theorem IsD.lt {n : Nat} {kvs : List (Ky × D)} (e : IsD h n kvs) : n < h.length := by rcases e with e | e <;> exact lt_of_at e
theorem wp_dgR {n : Nat} {x : Str} {kvs : List (Ky × D)} {d : D} (e : IsD h n kvs) (k : valD kvs (.inr x) = some d) (q : Q d h) : WP (oDg (.ref n) (.str x) h) Q E := by
  simp only [oDg, e.rd, keyD, k]; exact q
theorem wp_bDictR {n : Nat} {kvs : List (Ky × D)} (e : IsD h n kvs) (q : ∀ n h1, h.length ≤ n → Ext [] h h1 → h1[n]? = some (.dct kvs) → Q (.ref n) h1) : WP (bDict [.ref n] h) Q E := by
  simp only [bDict, e.rd]; exact wp_new q
theorem wp_eqK {n k : Nat} {a b : List (Ky × D)} {neg c : Bool} (e1 : IsD h n a) (e2 : IsD h k b) (z : eqKs h b a = some c) (q : Q (.bl (if neg then !(a.length == b.length && c) else (a.length == b.length && c))) h) : WP (oEqK neg (.ref n) (.ref k) h) Q E := by
  simp only [oEqK, e1.rd, e2.rd, z]; exact q
theorem wp_eqRf {c n : Nat} {cf : CF} {x : D} {kd : Kd} {fs : List (Nat × D)} (k : kindD x h = some kd) (e : h[n]? = some (.ins c fs)) (q : WP (cf [.ref n, x] h) (fun v h1 => IsB v fun b => Q (.bl b) h1) E) : WP (oEqR c cf x (.ref n) h) Q E := by
  simp only [oEqR, k, e, if_true]
  refine wp_bind (wp_use q (fun v h1 z => ?_) (fun _ _ _ z => z))
  cases v with
  | bl b => exact z
  | _ => exact z.elim
theorem wf_forK {i n : Nat} {kvs : List (Ky × D)} {g : GX} {b : SX} (e : r[i]? = some (some (.ref n))) (a : h[n]? = some (.dct kvs))
    (q : ∀ h1, Ext [n] h h1 → h1[n]? = some (.hid kvs) → WF (forX (.its (kvs.map fun p => kyD p.1)) g b fuelN 0 r h1) (fun r2 h2 => (∃ kz, h2[n]? = some (.hid kz)) ∧ ∀ h3, Ext [n] h2 h3 → h3[n]? = some (.dct kvs) → N r2 h3) (fun d h2 => (∃ kz, h2[n]? = some (.hid kz)) ∧ ∀ h3, Ext [n] h2 h3 → h3[n]? = some (.dct kvs) → T d h3) noN noN noE) : WF (sForK (eV i) g b r h) N T B C E := by
  have o1 : ∀ h', eV i r h' = .ok (.ref n) h' := fun h' => by unfold eV; rw [e]
  have w := q (h.set n (.hid kvs)) ext_set (at_set a)
  unfold sForK
  simp only [o1, a, at_set a, if_true]
  cases z : forX (.its (kvs.map fun p => kyD p.1)) g b fuelN 0 r (h.set n (.hid kvs)) with
  | nx r2 h2 =>
    rw [z] at w
    obtain ⟨⟨kz, a2⟩, w⟩ := w
    simp only [unF, a2]
    exact w _ ext_set (at_set a2)
  | rt d h2 =>
    rw [z] at w
    obtain ⟨⟨kz, a2⟩, w⟩ := w
    simp only [unF, a2]
    exact w _ ext_set (at_set a2)
  | bk r2 h2 => rw [z] at w; exact w.elim
  | ct r2 h2 => rw [z] at w; exact w.elim
  | exc c fs h2 => rw [z] at w; exact w.elim
  | stuck => rw [z] at w; exact w.elim
theorem wp_eCompI {fo ft fe : EX} {vs : List Nat} {n : Nat} {kvs : List (Ky × D)} {r' : LS} (f1 : ∀ h1, Ext [n] h h1 → WP (fo r h1) (fun x h2 => x = .ref n ∧ h2 = h1) noE) (a : h[n]? = some (.dct kvs)) (ns : (kvs.all fun p => notS p.2) = true) (ew : wipeL r vs = r')
    (q : ∀ h1, Ext [n] h h1 → h1[n]? = some (.hid kvs) → WP (compX (.its (kvs.map fun p => .tup [kyD p.1, p.2])) vs ft fe fuelN 0 [] r' h1) (fun acc h2 => (∃ kz, h2[n]? = some (.hid kz)) ∧ ∀ k h3, h2.length ≤ k → Ext [n] h2 h3 → h3[n]? = some (.dct kvs) → h3[k]? = some (.lst acc) → Q (.ref k) h3) noE) : WP (eCompI vs fo ft fe r h) Q E := by
  subst ew
  have o1 : ∀ h1, Ext [n] h h1 → fo r h1 = .ok (.ref n) h1 := fun h1 x => by
    obtain ⟨d, h2, e, rfl, rfl⟩ := wp_eq (f1 h1 x); exact e
  have w := q (h.set n (.hid kvs)) ext_set (at_set a)
  unfold eCompI
  simp only [o1 h Ext.rfl', o1 _ (ext_set (h := h) (n := n) (o := .hid kvs)), a, at_set a, ns, and_self, if_true]
  cases z : compX (.its (kvs.map fun p => .tup [kyD p.1, p.2])) vs ft fe fuelN 0 [] (wipeL r vs) (h.set n (.hid kvs)) with
  | ok acc h2 =>
    rw [z] at w
    obtain ⟨⟨kz, a2⟩, w⟩ := w
    simp only [a2]
    have l2 := lt_of_at a2
    refine w h2.length _ (Nat.le_refl _) ?_ ?_ ?_
    · exact (ext_push (W := [n])).trans ext_set
    · exact at_set (o' := .hid kz) (by rw [List.getElem?_append_left l2]; exact a2)
    · rw [List.getElem?_set_ne (by omega)]; exact at_push
  | exc c fs h2 => rw [z] at w; exact w.elim
  | stuck => rw [z] at w; exact w.elim
def SqAt (x : D) (h : LH) (P : List D → Prop) : Prop := ∃ xs, seqD x h = some xs ∧ P xs
theorem sqat {x : D} {xs : List D} {P : List D → Prop} (e : seqD x h = some xs) (p : P xs) : SqAt x h P := ⟨xs, e, p⟩
theorem wp_aStar {fo : EX} {fa : AX} {Q : List D → LH → Prop} (q : WP (fo r h) (fun x h1 => SqAt x h1 fun xs => WP (fa r h1) (fun ds h2 => Q (xs ++ ds) h2) E) E) : WP (aStar fo fa r h) Q E :=
  wp_bind (wp_use q (fun x h1 z => by
    obtain ⟨ks, e, z⟩ := z
    simp only [e]
    exact wp_bind (wp_use z (fun _ _ z => z) (fun _ _ _ z => z))) (fun _ _ _ z => z))
def JnAt (a : Str) (y : D) (h : LH) (P : List Str → Prop) : Prop := ∃ ys, (seqD y h).bind strsD = some ys ∧ (ys.map (·.length)).sum + ys.length * a.length ≤ 16777216 ∧ P ys
theorem wp_eJoinL {fo fe : EX} (q : WP (fo r h) (fun x h1 => StrAt x fun a => WP (fe r h1) (fun y h2 => JnAt a y h2 fun ys => Q (.str (Txt.join a ys)) h2) E) E) : WP (eJoinL fo fe r h) Q E :=
  wp_bind (wp_use q (fun x h1 z => by
    obtain ⟨a, rfl, z⟩ := z
    exact wp_bind (wp_use z (fun y h2 z => by
      obtain ⟨ys, e, l, z⟩ := z
      simp only [e, if_pos l]; exact z) (fun _ _ _ z => z))) (fun _ _ _ z => z))
theorem wp_rS {x : Str} (l : (reprText x).length ≤ sizeLine) (q : Q (.str (reprText x)) h) : WP (oFmtR (.str x) h) Q E := by
  simp only [oFmtR, if_pos l]; exact q
theorem wp_rB {b : Bool} (q : Q (.str (if b then "True" else "False")) h) : WP (oFmtR (.bl b) h) Q E := q
theorem wp_rI {i : Int} (l : i.natAbs.log2 < 1920) (q : Q (.str (toString i)) h) : WP (oFmtR (.int i) h) Q E := by
  simp only [oFmtR, if_pos l]; exact q
theorem wp_rT {xs : List D} {a : PyData} (e : deep h 60 (.tup xs) = some a) (s : showOk a = true) (q : Q (.str a.shown) h) : WP (oFmtR (.tup xs) h) Q E := by
  simp only [oFmtR, e, if_pos s]; exact q
end
end Ev

set_option Elab.async false
set_option linter.all false
set_option maxRecDepth 100000
set_option maxHeartbeats 4000000
namespace Lw
open Py Ev PySem
section
local macro_rules | `(tactic| walk_at "rf") => `(tactic| with_unfolding_all exact rfl)
local macro_rules | `(tactic| walk_at "nin") => `(tactic| first | exact List.not_mem_nil | (simp only [List.mem_cons, List.not_mem_nil, or_false, not_or]; omega))
local macro_rules | `(tactic| walk_at "lk") => `(tactic| first | assumption | (refine Ext.get (by assumption) ?_ ?_; (walk_at "lk"); (walk_at "nin")))
local macro_rules | `(tactic| walk_at "sq") => `(tactic| first | exact seq_tup | exact seq_scr | exact SeqOf.seq (by assumption) | exact seq_lst (by walk_at "lk"))
local macro_rules | `(tactic| walk_at "sz") => `(tactic| first | omega | (simp only [List.length_cons, List.length_nil, List.length_append, List.length_map, List.length_replicate, iD_len, sizeLine]; omega))
local macro_rules | `(tactic| walk_at "ls") => `(tactic| (simp only [List.set_cons_succ, List.set_cons_zero, List.map_cons, List.map_nil, List.replicate_succ, List.replicate_zero, List.cons_append, List.nil_append, wipeL]; rfl))
local macro_rules | `(tactic| walk_at "call") => `(tactic| fail)
local macro_rules | `(tactic| walk_at "run") => `(tactic| with_reducible first
  | (apply wp_eV; (· walk_at "rf"))
  | refine wp_eC ?_
  | refine wp_e2 ?_
  | refine wp_e1 ?_
  | refine wp_aCons ?_
  | refine wp_aNil ?_
  | refine wp_eA ?_
  | refine wf_seq ?_
  | refine wf_Asg ?_
  | (apply wf_gN; (· walk_at "ls"))
  | refine wf_E ?_
  | refine wf_Ret ?_
  | refine wf_If ?_
  | refine wf_nil ?_
  | refine wp_eCall ?_
  | (apply wp_opF0; (· with_unfolding_all exact ⟨rfl, rfl⟩))
  | refine wp_eMeth ?_
  | (apply insat; (· walk_at "lk"))
  | refine wp_add ?_
  | refine wp_sub ?_
  | refine wp_lt ?_
  | refine wp_le ?_
  | refine wp_gt ?_
  | refine wp_ge ?_
  | (apply br_kt; (· with_unfolding_all rfl))
  | (apply br_kf; (· with_unfolding_all rfl))
  | refine wp_eqW ?_
  | refine wp_neW ?_
  | refine wp_eqB ?_
  | refine wp_neB ?_
  | (apply wp_lastW; (· assumption))
  | (apply wp_headW; (· assumption))
  | refine wp_inW ?_
  | refine wp_ninW ?_
  | refine wp_eqRow0 ?_
  | refine wp_neRow0 ?_
  | refine wp_eDisp ?_
  | refine pairs_cons ?_
  | refine pairs_nil ?_
  | refine keyat_s ?_
  | refine wf_sDputK ?_
  | (apply dputk_s; (· walk_at "lk"); (· exact lt_line (by omega)))
  | refine wp_eGet1 ?_
  | refine wp_eGet2 ?_
  | refine wp_ePop ?_
  | (apply dctat; (· walk_at "lk"))
  | (apply wp_dg; (· walk_at "lk"); (· assumption))
  | (apply wp_bDict; (· walk_at "lk"))
  | refine wp_eTM ?_
  | refine tupat ?_
  | (apply wp_tupIx; (· assumption))
  | refine wp_eCallV ?_
  | refine fnat ?_
  | refine wp_eqI ?_
  | refine wp_neI ?_
  | refine wp_eqS ?_
  | refine wp_neS ?_
  | (apply wp_mod; (· omega))
  | (apply wp_div; (· omega))
  | (apply wp_mul; (· omega))
  | (apply wp_powN; (· (simp only [Int.reduceToNat]; rfl)); (· omega); (· omega))
  | refine wp_neg ?_
  | refine wp_isN ?_
  | refine wp_isNI ?_
  | refine wp_bMax ?_
  | refine wp_bMin ?_
  | refine wp_bAbs ?_
  | refine wp_bInt ?_
  | (apply wp_bDivmod; (· omega))
  | refine tr_bl ?_
  | refine isb ?_
  | (apply br_t; (· rfl))
  | (apply br_f; (· rfl))
  | refine br_nt ?_
  | (apply br_dt; (· omega))
  | (apply br_df; (· omega))
  | refine wp_eNot ?_
  | refine wp_eB ?_
  | refine wp_eOr ?_
  | refine wp_eAnd ?_
  | refine wp_eAndB ?_
  | refine wp_eOrB ?_
  | refine wp_eNotB ?_
  | refine wp_eIf ?_
  | refine wp_chain ?_
  | refine wp_eFld ?_
  | (apply fdat; (· walk_at "lk"); (· walk_at "rf"))
  | refine wp_eTup ?_
  | refine wp_eLst ?_
  | refine wp_listR ?_
  | (apply wp_addT; (· walk_at "sz"))
  | (apply need; (· walk_at "sz"))
  | refine intat ?_
  | refine strat ?_
  | refine nonat ?_
  | (apply wp_len; (· walk_at "sq"))
  | (apply wp_ix; (· walk_at "sq"); (· walk_at "rf"))
  | (apply wp_bTuple; (· walk_at "sq"))
  | (apply wp_bList; (· walk_at "sq"))
  | refine wp_eBM ?_
  | (apply lstat; (· walk_at "lk"))
  | (apply wp_append; (· walk_at "lk"); (· walk_at "sz"))
  | (apply wp_clear; (· walk_at "lk"))
  | refine wp_eSl ?_
  | refine wp_pSome ?_
  | refine pis ?_
  | refine wp_pNo ?_
  | refine slat_tup ?_
  | (apply slat_lst; (· walk_at "lk"))
  | (apply wf_gT; (· walk_at "rf"))
  | refine wf_gsCons ?_
  | refine wf_gsNil ?_
  | refine wf_gSub ?_
  | (apply subat; (· walk_at "lk"); (· walk_at "rf"))
  | refine wf_sFld ?_
  | (apply fldat; (· walk_at "lk"); (· walk_at "sz"); (· walk_at "rf"))
  | refine wf_sPar ?_
  | (apply parat; (· walk_at "ls"))
  | refine wf_sPar3 ?_
  | (apply parat3; (· walk_at "ls"))
  | refine wp_eRev ?_
  | (apply rvat; (· walk_at "lk"))
  | refine wp_isBB ?_
  | refine wf_sFor ?_
  | refine wp_iSeq ?_
  | refine wp_iZip ?_
  | (apply zipat; (· walk_at "lk"); (· walk_at "lk"))
  | refine wp_aStar ?_
  | (apply sqat; (· walk_at "sq"))
  | refine wp_eJoinL ?_
  | refine wp_rB ?_
  | refine wp_iEnum ?_
  | refine wp_iRng1 ?_
  | refine wp_iRng2 ?_
  | refine srcat_tup ?_
  | refine srcat_scr ?_
  | (apply srcat_lst; (· walk_at "lk"))
  | refine wp_eIsi ?_
  | refine kd_int ?_
  | refine kd_bl ?_
  | refine kd_str ?_
  | refine kd_non ?_
  | refine kd_tup ?_
  | (apply kd_lst; (· walk_at "lk"))
  | (apply wp_eComp; (· walk_at "ls"))
  | (apply wp_lenO; (· walk_at "lk"))
  | (apply wp_reprO; (· walk_at "lk"))
  | refine wp_eFmt ?_
  | refine wp_eJoin ?_
  | refine jgo_cons ?_
  | refine jgo_nil ?_
  | walk_at "call")
local macro_rules | `(tactic| walk_at "go") => `(tactic| repeat (with_reducible first
  | (apply wp_eV; (· walk_at "rf"))
  | refine wp_eC ?_
  | refine wp_e2 ?_
  | refine wp_e1 ?_
  | refine wp_aCons ?_
  | refine wp_aNil ?_
  | refine wp_eA ?_
  | refine wf_seq ?_
  | refine wf_Asg ?_
  | (apply wf_gN; (· walk_at "ls"))
  | refine wf_E ?_
  | refine wf_Ret ?_
  | refine wf_If ?_
  | refine wf_nil ?_
  | refine wp_eCall ?_
  | (apply wp_opF0; (· with_unfolding_all exact ⟨rfl, rfl⟩))
  | refine wp_eMeth ?_
  | (apply insat; (· walk_at "lk"))
  | refine wp_add ?_
  | refine wp_sub ?_
  | refine wp_lt ?_
  | refine wp_le ?_
  | refine wp_gt ?_
  | refine wp_ge ?_
  | (apply br_kt; (· with_unfolding_all rfl))
  | (apply br_kf; (· with_unfolding_all rfl))
  | refine wp_eqW ?_
  | refine wp_neW ?_
  | refine wp_eqB ?_
  | refine wp_neB ?_
  | (apply wp_lastW; (· assumption))
  | (apply wp_headW; (· assumption))
  | refine wp_inW ?_
  | refine wp_ninW ?_
  | refine wp_eqRow0 ?_
  | refine wp_neRow0 ?_
  | refine wp_eDisp ?_
  | refine pairs_cons ?_
  | refine pairs_nil ?_
  | refine keyat_s ?_
  | refine wf_sDputK ?_
  | (apply dputk_s; (· walk_at "lk"); (· exact lt_line (by omega)))
  | refine wp_eGet1 ?_
  | refine wp_eGet2 ?_
  | refine wp_ePop ?_
  | (apply dctat; (· walk_at "lk"))
  | (apply wp_dg; (· walk_at "lk"); (· assumption))
  | (apply wp_bDict; (· walk_at "lk"))
  | refine wp_eTM ?_
  | refine tupat ?_
  | (apply wp_tupIx; (· assumption))
  | refine wp_eCallV ?_
  | refine fnat ?_
  | refine wp_eqI ?_
  | refine wp_neI ?_
  | refine wp_eqS ?_
  | refine wp_neS ?_
  | (apply wp_mod; (· omega))
  | (apply wp_div; (· omega))
  | (apply wp_mul; (· omega))
  | (apply wp_powN; (· (simp only [Int.reduceToNat]; rfl)); (· omega); (· omega))
  | refine wp_neg ?_
  | refine wp_isN ?_
  | refine wp_isNI ?_
  | refine wp_bMax ?_
  | refine wp_bMin ?_
  | refine wp_bAbs ?_
  | refine wp_bInt ?_
  | (apply wp_bDivmod; (· omega))
  | refine tr_bl ?_
  | refine isb ?_
  | (apply br_t; (· rfl))
  | (apply br_f; (· rfl))
  | refine br_nt ?_
  | (apply br_dt; (· omega))
  | (apply br_df; (· omega))
  | refine wp_eNot ?_
  | refine wp_eB ?_
  | refine wp_eOr ?_
  | refine wp_eAnd ?_
  | refine wp_eAndB ?_
  | refine wp_eOrB ?_
  | refine wp_eNotB ?_
  | refine wp_eIf ?_
  | refine wp_chain ?_
  | refine wp_eFld ?_
  | (apply fdat; (· walk_at "lk"); (· walk_at "rf"))
  | refine wp_eTup ?_
  | refine wp_eLst ?_
  | refine wp_listR ?_
  | (apply wp_addT; (· walk_at "sz"))
  | (apply need; (· walk_at "sz"))
  | refine intat ?_
  | refine strat ?_
  | refine nonat ?_
  | (apply wp_len; (· walk_at "sq"))
  | (apply wp_ix; (· walk_at "sq"); (· walk_at "rf"))
  | (apply wp_bTuple; (· walk_at "sq"))
  | (apply wp_bList; (· walk_at "sq"))
  | refine wp_eBM ?_
  | (apply lstat; (· walk_at "lk"))
  | (apply wp_append; (· walk_at "lk"); (· walk_at "sz"))
  | (apply wp_clear; (· walk_at "lk"))
  | refine wp_eSl ?_
  | refine wp_pSome ?_
  | refine pis ?_
  | refine wp_pNo ?_
  | refine slat_tup ?_
  | (apply slat_lst; (· walk_at "lk"))
  | (apply wf_gT; (· walk_at "rf"))
  | refine wf_gsCons ?_
  | refine wf_gsNil ?_
  | refine wf_gSub ?_
  | (apply subat; (· walk_at "lk"); (· walk_at "rf"))
  | refine wf_sFld ?_
  | (apply fldat; (· walk_at "lk"); (· walk_at "sz"); (· walk_at "rf"))
  | refine wf_sPar ?_
  | (apply parat; (· walk_at "ls"))
  | refine wf_sPar3 ?_
  | (apply parat3; (· walk_at "ls"))
  | refine wp_eRev ?_
  | (apply rvat; (· walk_at "lk"))
  | refine wp_isBB ?_
  | refine wf_sFor ?_
  | refine wp_iSeq ?_
  | refine wp_iZip ?_
  | (apply zipat; (· walk_at "lk"); (· walk_at "lk"))
  | refine wp_aStar ?_
  | (apply sqat; (· walk_at "sq"))
  | refine wp_eJoinL ?_
  | refine wp_rB ?_
  | refine wp_iEnum ?_
  | refine wp_iRng1 ?_
  | refine wp_iRng2 ?_
  | refine srcat_tup ?_
  | refine srcat_scr ?_
  | (apply srcat_lst; (· walk_at "lk"))
  | refine wp_eIsi ?_
  | refine kd_int ?_
  | refine kd_bl ?_
  | refine kd_str ?_
  | refine kd_non ?_
  | refine kd_tup ?_
  | (apply kd_lst; (· walk_at "lk"))
  | (apply wp_eComp; (· walk_at "ls"))
  | (apply wp_lenO; (· walk_at "lk"))
  | (apply wp_reprO; (· walk_at "lk"))
  | refine wp_eFmt ?_
  | refine wp_eJoin ?_
  | refine jgo_cons ?_
  | refine jgo_nil ?_
  | refine wf_Raise1 ?_
  | refine wf_Raise0 ?_
  | refine wf_Try ?_
  | (apply wp_eXf; (· walk_at "rf"))
  | walk_at "call"))
/-- into a def -/
local macro_rules | `(tactic| walk_at "into") => `(tactic| (refine wp_runF (by walk_at "rf") (by walk_at "ls") ?_))
/-- on, through all branches -/
local macro_rules | `(tactic| walk_at "br") => `(tactic| repeat' (first | walk_at "run" | (with_reducible apply br_dt; (· assumption)) | (with_reducible apply br_df; (· assumption)) | (with_reducible apply br_t; (· assumption)) | (with_reducible apply br_f; (· assumption)) | (with_reducible refine br_d (fun _ => ?_) (fun _ => ?_)) | (with_reducible refine br_s (fun _ => ?_) (fun _ => ?_)) | (intro d ed)))
/-! ### the law's own draws -/
def Pot (h : LH) (p : Nat) : Prop := ∃ a b : Int, h[p]? = some (.lst [.int a, .int b]) ∧ 0 ≤ a ∧ 0 ≤ b ∧ b < 2147483648
theorem Pot.lt {h : LH} {p : Nat} (P : Pot h p) : p < h.length := by obtain ⟨a, b, e, _⟩ := P; exact lt_of_at e
theorem Pot.ext {W : List Nat} {h h1 : LH} {p : Nat} (P : Pot h p) (x : Ext W h h1) (k : p ∉ W) : Pot h1 p := by
  obtain ⟨a, b, e, z⟩ := P; exact ⟨a, b, x.get e k, z⟩
theorem draw_spec {h : LH} {p : Nat} {n : Int} (P : Pot h p) (hn : 0 < n ∧ n < 1073741824) :
    WP (f__law_draw [.ref p, .int n] h) (fun d h1 => ∃ k : Nat, d = .int k ∧ (k : Int) < n ∧ Pot h1 p ∧ Ext [p] h h1) noE := by
  obtain ⟨a, b, e, ha, hb, hc⟩ := P
  unfold f__law_draw b__law_draw
  walk_at "into"
  walk_at "go"
  have m1 := Int.emod_nonneg a (show n ≠ 0 by omega)
  have m2 := Int.emod_lt_of_pos a hn.1
  refine br_d (fun c => ?_) (fun c => ?_)
  · walk_at "go"
    intro h1 x1 a1
    walk_at "go"
    refine ⟨(a % n).toNat, ?_, by omega, ⟨a / n, b, a1, Int.ediv_nonneg ha (by omega), hb, hc⟩, x1⟩
    rw [Int.toNat_of_nonneg m1]
  · walk_at "go"
    intro h1 x1 a1
    have a1 : h1[p]? = some (O.lst [.int a, .int ((b * 40009 + 17011) % 2147483549)]) := a1
    walk_at "go"
    have g1 := Int.emod_nonneg (((b * 40009 + 17011) % 2147483549) * ((b * 40009 + 17011) % 2147483549) % 2147483587 / 11) (show n ≠ 0 by omega)
    have g2 := Int.emod_lt_of_pos (((b * 40009 + 17011) % 2147483549) * ((b * 40009 + 17011) % 2147483549) % 2147483587 / 11) hn.1
    refine ⟨(((b * 40009 + 17011) % 2147483549) * ((b * 40009 + 17011) % 2147483549) % 2147483587 / 11 % n).toNat, ?_, by omega, ⟨a, _, a1, ha, by omega, by omega⟩, x1⟩
    rw [Int.toNat_of_nonneg g1]
theorem pot_spec {h : LH} {ns : List Int} {k : Nat} (hk : k < 64) :
    WP (f__law_pot [.scr ns, .int k] h) (fun d h1 => ∃ p, d = .ref p ∧ Pot h1 p ∧ h.length ≤ p ∧ Ext [] h h1) noE := by
  unfold f__law_pot b__law_pot
  walk_at "into"
  walk_at "go"
  refine br_d (fun c => ?_) (fun c => ?_)
  · walk_at "go"
    have l : k < ns.length := by simpa using c
    refine wp_ixS rfl (List.getElem?_eq_getElem l) ?_
    walk_at "go"
    intro n h1 l x a
    refine ⟨n, rfl, ⟨_, _, a, ?_, by omega, by omega⟩, l, x⟩
    split <;> omega
  · have ge : ∃ cell : Int, 17 * (k : Int) + 11 = cell := ⟨_, rfl⟩
    obtain ⟨cell, ge⟩ := ge
    rw [ge]
    walk_at "go"
    intro n h1 l x a
    refine ⟨n, rfl, ⟨_, _, a, ?_, by omega, by omega⟩, l, x⟩
    split <;> omega
theorem draw_w {E : EP} {Q : D → LH → Prop} {h : LH} {p : Nat} {n : Int} (P : Pot h p) (hn : 0 < n ∧ n < 1073741824) (q : ∀ (k : Nat) h1, (k : Int) < n → Pot h1 p → Ext [p] h h1 → Q (.int (k : Int)) h1) : WP (f__law_draw [.ref p, .int n] h) Q E :=
  wp_use0 (draw_spec P hn) (by rintro d h1 ⟨k, rfl, a, b, c⟩; exact q k h1 a b c)
theorem pot_w {E : EP} {Q : D → LH → Prop} {h : LH} {ns : List Int} {k : Nat} (hk : k < 64) (q : ∀ p h1, h.length ≤ p → Pot h1 p → Ext [] h h1 → Q (.ref p) h1) : WP (f__law_pot [.scr ns, .int k] h) Q E :=
  wp_use0 (pot_spec hk) (by rintro d h1 ⟨p, rfl, a, b, c⟩; exact q p h1 b a c)
end
end Lw

set_option Elab.async false
set_option linter.all false
set_option maxRecDepth 100000
set_option maxHeartbeats 4000000
namespace Lw
open Py Ev PySem
section
local macro_rules | `(tactic| walk_at "rf") => `(tactic| with_unfolding_all exact rfl)
local macro_rules | `(tactic| walk_at "nin") => `(tactic| first | exact List.not_mem_nil | (simp only [List.mem_cons, List.not_mem_nil, or_false, not_or]; omega))
local macro_rules | `(tactic| walk_at "lk") => `(tactic| first | assumption | (refine Ext.get (by assumption) ?_ ?_; (walk_at "lk"); (walk_at "nin")))
local macro_rules | `(tactic| walk_at "sq") => `(tactic| first | exact seq_tup | exact seq_scr | exact SeqOf.seq (by assumption) | exact seq_lst (by walk_at "lk"))
local macro_rules | `(tactic| walk_at "sz") => `(tactic| first | omega | (simp only [List.length_cons, List.length_nil, List.length_append, List.length_map, List.length_replicate, iD_len, sizeLine]; omega))
local macro_rules | `(tactic| walk_at "ls") => `(tactic| (simp only [List.set_cons_succ, List.set_cons_zero, List.map_cons, List.map_nil, List.replicate_succ, List.replicate_zero, List.cons_append, List.nil_append, wipeL]; rfl))
local macro_rules | `(tactic| walk_at "call") => `(tactic| fail)
local macro_rules | `(tactic| walk_at "run") => `(tactic| with_reducible first
  | (apply wp_eV; (· walk_at "rf"))
  | refine wp_eC ?_
  | refine wp_e2 ?_
  | refine wp_e1 ?_
  | refine wp_aCons ?_
  | refine wp_aNil ?_
  | refine wp_eA ?_
  | refine wf_seq ?_
  | refine wf_Asg ?_
  | (apply wf_gN; (· walk_at "ls"))
  | refine wf_E ?_
  | refine wf_Ret ?_
  | refine wf_If ?_
  | refine wf_nil ?_
  | refine wp_eCall ?_
  | (apply wp_opF0; (· with_unfolding_all exact ⟨rfl, rfl⟩))
  | refine wp_eMeth ?_
  | (apply insat; (· walk_at "lk"))
  | refine wp_add ?_
  | refine wp_sub ?_
  | refine wp_lt ?_
  | refine wp_le ?_
  | refine wp_gt ?_
  | refine wp_ge ?_
  | (apply br_kt; (· with_unfolding_all rfl))
  | (apply br_kf; (· with_unfolding_all rfl))
  | refine wp_eqW ?_
  | refine wp_neW ?_
  | refine wp_eqB ?_
  | refine wp_neB ?_
  | (apply wp_lastW; (· assumption))
  | (apply wp_headW; (· assumption))
  | refine wp_inW ?_
  | refine wp_ninW ?_
  | refine wp_eqRow0 ?_
  | refine wp_neRow0 ?_
  | refine wp_eDisp ?_
  | refine pairs_cons ?_
  | refine pairs_nil ?_
  | refine keyat_s ?_
  | refine wf_sDputK ?_
  | (apply dputk_s; (· walk_at "lk"); (· exact lt_line (by omega)))
  | refine wp_eGet1 ?_
  | refine wp_eGet2 ?_
  | refine wp_ePop ?_
  | (apply dctat; (· walk_at "lk"))
  | (apply wp_dg; (· walk_at "lk"); (· assumption))
  | (apply wp_bDict; (· walk_at "lk"))
  | refine wp_eTM ?_
  | refine tupat ?_
  | (apply wp_tupIx; (· assumption))
  | refine wp_eCallV ?_
  | refine fnat ?_
  | refine wp_eqI ?_
  | refine wp_neI ?_
  | refine wp_eqS ?_
  | refine wp_neS ?_
  | (apply wp_mod; (· omega))
  | (apply wp_div; (· omega))
  | (apply wp_mul; (· omega))
  | (apply wp_powN; (· (simp only [Int.reduceToNat]; rfl)); (· omega); (· omega))
  | refine wp_neg ?_
  | refine wp_isN ?_
  | refine wp_isNI ?_
  | refine wp_bMax ?_
  | refine wp_bMin ?_
  | refine wp_bAbs ?_
  | refine wp_bInt ?_
  | (apply wp_bDivmod; (· omega))
  | refine tr_bl ?_
  | refine isb ?_
  | (apply br_t; (· rfl))
  | (apply br_f; (· rfl))
  | refine br_nt ?_
  | (apply br_dt; (· omega))
  | (apply br_df; (· omega))
  | refine wp_eNot ?_
  | refine wp_eB ?_
  | refine wp_eOr ?_
  | refine wp_eAnd ?_
  | refine wp_eAndB ?_
  | refine wp_eOrB ?_
  | refine wp_eNotB ?_
  | refine wp_eIf ?_
  | refine wp_chain ?_
  | refine wp_eFld ?_
  | (apply fdat; (· walk_at "lk"); (· walk_at "rf"))
  | refine wp_eTup ?_
  | refine wp_eLst ?_
  | refine wp_listR ?_
  | (apply wp_addT; (· walk_at "sz"))
  | (apply need; (· walk_at "sz"))
  | refine intat ?_
  | refine strat ?_
  | refine nonat ?_
  | (apply wp_len; (· walk_at "sq"))
  | (apply wp_ix; (· walk_at "sq"); (· walk_at "rf"))
  | (apply wp_bTuple; (· walk_at "sq"))
  | (apply wp_bList; (· walk_at "sq"))
  | refine wp_eBM ?_
  | (apply lstat; (· walk_at "lk"))
  | (apply wp_append; (· walk_at "lk"); (· walk_at "sz"))
  | (apply wp_clear; (· walk_at "lk"))
  | refine wp_eSl ?_
  | refine wp_pSome ?_
  | refine pis ?_
  | refine wp_pNo ?_
  | refine slat_tup ?_
  | (apply slat_lst; (· walk_at "lk"))
  | (apply wf_gT; (· walk_at "rf"))
  | refine wf_gsCons ?_
  | refine wf_gsNil ?_
  | refine wf_gSub ?_
  | (apply subat; (· walk_at "lk"); (· walk_at "rf"))
  | refine wf_sFld ?_
  | (apply fldat; (· walk_at "lk"); (· walk_at "sz"); (· walk_at "rf"))
  | refine wf_sPar ?_
  | (apply parat; (· walk_at "ls"))
  | refine wf_sPar3 ?_
  | (apply parat3; (· walk_at "ls"))
  | refine wp_eRev ?_
  | (apply rvat; (· walk_at "lk"))
  | refine wp_isBB ?_
  | refine wf_sFor ?_
  | refine wp_iSeq ?_
  | refine wp_iZip ?_
  | (apply zipat; (· walk_at "lk"); (· walk_at "lk"))
  | refine wp_aStar ?_
  | (apply sqat; (· walk_at "sq"))
  | refine wp_eJoinL ?_
  | refine wp_rB ?_
  | refine wp_iEnum ?_
  | refine wp_iRng1 ?_
  | refine wp_iRng2 ?_
  | refine srcat_tup ?_
  | refine srcat_scr ?_
  | (apply srcat_lst; (· walk_at "lk"))
  | refine wp_eIsi ?_
  | refine kd_int ?_
  | refine kd_bl ?_
  | refine kd_str ?_
  | refine kd_non ?_
  | refine kd_tup ?_
  | (apply kd_lst; (· walk_at "lk"))
  | (apply wp_eComp; (· walk_at "ls"))
  | (apply wp_lenO; (· walk_at "lk"))
  | (apply wp_reprO; (· walk_at "lk"))
  | refine wp_eFmt ?_
  | refine wp_eJoin ?_
  | refine jgo_cons ?_
  | refine jgo_nil ?_
  | walk_at "call")
local macro_rules | `(tactic| walk_at "go") => `(tactic| repeat (with_reducible first
  | (apply wp_eV; (· walk_at "rf"))
  | refine wp_eC ?_
  | refine wp_e2 ?_
  | refine wp_e1 ?_
  | refine wp_aCons ?_
  | refine wp_aNil ?_
  | refine wp_eA ?_
  | refine wf_seq ?_
  | refine wf_Asg ?_
  | (apply wf_gN; (· walk_at "ls"))
  | refine wf_E ?_
  | refine wf_Ret ?_
  | refine wf_If ?_
  | refine wf_nil ?_
  | refine wp_eCall ?_
  | (apply wp_opF0; (· with_unfolding_all exact ⟨rfl, rfl⟩))
  | refine wp_eMeth ?_
  | (apply insat; (· walk_at "lk"))
  | refine wp_add ?_
  | refine wp_sub ?_
  | refine wp_lt ?_
  | refine wp_le ?_
  | refine wp_gt ?_
  | refine wp_ge ?_
  | (apply br_kt; (· with_unfolding_all rfl))
  | (apply br_kf; (· with_unfolding_all rfl))
  | refine wp_eqW ?_
  | refine wp_neW ?_
  | refine wp_eqB ?_
  | refine wp_neB ?_
  | (apply wp_lastW; (· assumption))
  | (apply wp_headW; (· assumption))
  | refine wp_inW ?_
  | refine wp_ninW ?_
  | refine wp_eqRow0 ?_
  | refine wp_neRow0 ?_
  | refine wp_eDisp ?_
  | refine pairs_cons ?_
  | refine pairs_nil ?_
  | refine keyat_s ?_
  | refine wf_sDputK ?_
  | (apply dputk_s; (· walk_at "lk"); (· exact lt_line (by omega)))
  | refine wp_eGet1 ?_
  | refine wp_eGet2 ?_
  | refine wp_ePop ?_
  | (apply dctat; (· walk_at "lk"))
  | (apply wp_dg; (· walk_at "lk"); (· assumption))
  | (apply wp_bDict; (· walk_at "lk"))
  | refine wp_eTM ?_
  | refine tupat ?_
  | (apply wp_tupIx; (· assumption))
  | refine wp_eCallV ?_
  | refine fnat ?_
  | refine wp_eqI ?_
  | refine wp_neI ?_
  | refine wp_eqS ?_
  | refine wp_neS ?_
  | (apply wp_mod; (· omega))
  | (apply wp_div; (· omega))
  | (apply wp_mul; (· omega))
  | (apply wp_powN; (· (simp only [Int.reduceToNat]; rfl)); (· omega); (· omega))
  | refine wp_neg ?_
  | refine wp_isN ?_
  | refine wp_isNI ?_
  | refine wp_bMax ?_
  | refine wp_bMin ?_
  | refine wp_bAbs ?_
  | refine wp_bInt ?_
  | (apply wp_bDivmod; (· omega))
  | refine tr_bl ?_
  | refine isb ?_
  | (apply br_t; (· rfl))
  | (apply br_f; (· rfl))
  | refine br_nt ?_
  | (apply br_dt; (· omega))
  | (apply br_df; (· omega))
  | refine wp_eNot ?_
  | refine wp_eB ?_
  | refine wp_eOr ?_
  | refine wp_eAnd ?_
  | refine wp_eAndB ?_
  | refine wp_eOrB ?_
  | refine wp_eNotB ?_
  | refine wp_eIf ?_
  | refine wp_chain ?_
  | refine wp_eFld ?_
  | (apply fdat; (· walk_at "lk"); (· walk_at "rf"))
  | refine wp_eTup ?_
  | refine wp_eLst ?_
  | refine wp_listR ?_
  | (apply wp_addT; (· walk_at "sz"))
  | (apply need; (· walk_at "sz"))
  | refine intat ?_
  | refine strat ?_
  | refine nonat ?_
  | (apply wp_len; (· walk_at "sq"))
  | (apply wp_ix; (· walk_at "sq"); (· walk_at "rf"))
  | (apply wp_bTuple; (· walk_at "sq"))
  | (apply wp_bList; (· walk_at "sq"))
  | refine wp_eBM ?_
  | (apply lstat; (· walk_at "lk"))
  | (apply wp_append; (· walk_at "lk"); (· walk_at "sz"))
  | (apply wp_clear; (· walk_at "lk"))
  | refine wp_eSl ?_
  | refine wp_pSome ?_
  | refine pis ?_
  | refine wp_pNo ?_
  | refine slat_tup ?_
  | (apply slat_lst; (· walk_at "lk"))
  | (apply wf_gT; (· walk_at "rf"))
  | refine wf_gsCons ?_
  | refine wf_gsNil ?_
  | refine wf_gSub ?_
  | (apply subat; (· walk_at "lk"); (· walk_at "rf"))
  | refine wf_sFld ?_
  | (apply fldat; (· walk_at "lk"); (· walk_at "sz"); (· walk_at "rf"))
  | refine wf_sPar ?_
  | (apply parat; (· walk_at "ls"))
  | refine wf_sPar3 ?_
  | (apply parat3; (· walk_at "ls"))
  | refine wp_eRev ?_
  | (apply rvat; (· walk_at "lk"))
  | refine wp_isBB ?_
  | refine wf_sFor ?_
  | refine wp_iSeq ?_
  | refine wp_iZip ?_
  | (apply zipat; (· walk_at "lk"); (· walk_at "lk"))
  | refine wp_aStar ?_
  | (apply sqat; (· walk_at "sq"))
  | refine wp_eJoinL ?_
  | refine wp_rB ?_
  | refine wp_iEnum ?_
  | refine wp_iRng1 ?_
  | refine wp_iRng2 ?_
  | refine srcat_tup ?_
  | refine srcat_scr ?_
  | (apply srcat_lst; (· walk_at "lk"))
  | refine wp_eIsi ?_
  | refine kd_int ?_
  | refine kd_bl ?_
  | refine kd_str ?_
  | refine kd_non ?_
  | refine kd_tup ?_
  | (apply kd_lst; (· walk_at "lk"))
  | (apply wp_eComp; (· walk_at "ls"))
  | (apply wp_lenO; (· walk_at "lk"))
  | (apply wp_reprO; (· walk_at "lk"))
  | refine wp_eFmt ?_
  | refine wp_eJoin ?_
  | refine jgo_cons ?_
  | refine jgo_nil ?_
  | refine wf_Raise1 ?_
  | refine wf_Raise0 ?_
  | refine wf_Try ?_
  | (apply wp_eXf; (· walk_at "rf"))
  | walk_at "call"))
/-- into a def -/
local macro_rules | `(tactic| walk_at "into") => `(tactic| (refine wp_runF (by walk_at "rf") (by walk_at "ls") ?_))
/-- on, through all branches -/
local macro_rules | `(tactic| walk_at "br") => `(tactic| repeat' (first | walk_at "run" | (with_reducible apply br_dt; (· assumption)) | (with_reducible apply br_df; (· assumption)) | (with_reducible apply br_t; (· assumption)) | (with_reducible apply br_f; (· assumption)) | (with_reducible refine br_d (fun _ => ?_) (fun _ => ?_)) | (with_reducible refine br_s (fun _ => ?_) (fun _ => ?_)) | (intro d ed)))
/-! ### the law's own rows -/
def aheadB (cs : List W) (a b : W) : Bool := !decide (a ∈ cs) || (!decide (b ∈ cs) || decide (cs.idxOf a < cs.idxOf b))
def lastIs (cs : List W) (c : W) : Bool := match cs.getLast? with
  | some d => decide (d = c)
  | none => false
def headIs (cs : List W) (c : W) : Bool := match cs.head? with
  | some d => decide (d = c)
  | none => false
def lawTake (cs : List W) (big : Bool) : Bool :=
  if (!decide ((3 : W) ∈ cs) || (decide ((2 : W) ∈ cs) == decide ((1 : W) ∈ cs)) || (decide ((2 : W) ∈ cs) && decide ((0 : W) ∈ cs))) = true then false
  else if (big && !lastIs cs 3) = true then false
  else aheadB cs 0 3 && aheadB cs 2 3
def lawGive (cs : List W) : Bool := decide ((6 : W) ∈ cs) && (!decide ((5 : W) ∈ cs) || (decide ((4 : W) ∈ cs) && aheadB cs 4 5))
def lawMove (cs : List W) (sh : Bool) : Bool :=
  if cs = [] then true
  else if (!decide ((7 : W) ∈ cs) || (decide ((2 : W) ∈ cs) && (decide ((1 : W) ∈ cs) || decide ((0 : W) ∈ cs)))) = true then false
  else if (decide ((5 : W) ∈ cs) && (!decide ((4 : W) ∈ cs) || !aheadB cs 4 5)) = true then false
  else if (!sh && !headIs cs 4) = true then false
  else (aheadB cs 0 7 && aheadB cs 0 5) && (aheadB cs 2 7 && aheadB cs 2 5)
section
variable {E : EP} {Q : D → LH → Prop} {h : LH}
theorem law_is_ahead_w {cs : List W} {a b : W} (q : Q (.bl (aheadB cs a b)) h) : WP (f__law_is_ahead [.tup (rowD cs), .str (wd a), .str (wd b)] h) Q E := by
  unfold f__law_is_ahead b__law_is_ahead
  walk_at "into"
  walk_at "br"
  all_goals exact qb q (by simp [aheadB, *])
local macro_rules | `(tactic| walk_at "call") => `(tactic| refine law_is_ahead_w ?_)
theorem law_is_take_w {cs : List W} {k : Int} (q : Q (.bl (lawTake cs (decide (1 < k)))) h) : WP (f__law_is_take [.tup (rowD cs), .int k] h) Q E := by
  unfold f__law_is_take b__law_is_take
  walk_at "into"
  walk_at "br"
  all_goals exact qb q (by simp_all [lawTake, lastIs])
theorem law_is_give_w {cs : List W} (q : Q (.bl (lawGive cs)) h) : WP (f__law_is_give [.tup (rowD cs)] h) Q E := by
  unfold f__law_is_give b__law_is_give
  walk_at "into"
  walk_at "br"
  all_goals exact qb q (by simp_all [lawGive])
theorem law_is_move_w {cs : List W} {sh : Bool} (q : ∀ h1, Ext [] h h1 → Q (.bl (lawMove cs sh)) h1) : WP (f__law_is_move [.tup (rowD cs), .bl sh] h) Q E := by
  unfold f__law_is_move b__law_is_move
  walk_at "into"
  walk_at "br"
  all_goals try exact qb (q _ Ext.rfl') (by simp_all [lawMove, headIs])
  all_goals
    rename_i n h1 l1 x1
    intro a1
    refine srcat_lst a1 ?_
    refine wf_forL [.str (wd 0), .str (wd 2)] (by simp) (fun i r h' => ∃ c, r = [some (.tup (rowD cs)), some (.bl sh), c] ∧ h' = h1 ∧ (1 ≤ i → aheadB cs 0 7 = true ∧ aheadB cs 0 5 = true) ∧ (2 ≤ i → aheadB cs 2 7 = true ∧ aheadB cs 2 5 = true)) (fun i r h' z => ?_) ⟨_, rfl, rfl, (fun z => by omega), (fun z => by omega)⟩ ?_ ?_
    · obtain ⟨c, _, rfl, _⟩ := z; exact src_lst a1
    · rintro r h2 ⟨c, rfl, rfl, z1, z2⟩
      have z1 := z1 (by simp)
      have z2 := z2 (by simp)
      walk_at "go"
      exact qb (q _ x1) (by simp_all [lawMove, headIs])
    · rintro i d r h2 ed ⟨c, rfl, rfl, z1, z2⟩
      match i, ed with
      | 0, ed =>
        cases ed
        walk_at "br"
        all_goals first
          | exact qb (q _ x1) (by simp_all [lawMove, headIs])
          | exact ⟨_, rfl, rfl, (fun _ => by simp_all), (fun z => by omega)⟩
      | 1, ed =>
        cases ed
        have z1 := z1 (by omega)
        walk_at "br"
        all_goals first
          | exact qb (q _ x1) (by simp_all [lawMove, headIs])
          | exact ⟨_, rfl, rfl, (fun _ => z1), (fun _ => by simp_all)⟩
      | i + 2, ed => simp at ed
/-! ### sequences of words -/
def rowsD (css : List (List W)) : List D := css.map fun cs => .tup (rowD cs)
def nextS (ws : List W) (css : List (List W)) : List (List W) := css.flatMap fun s => (ws.filter fun w => !decide (w ∈ s)).map fun w => s ++ [w]
def iterS (ws : List W) : Nat → List (List W) × List (List W)
  | 0 => ([[]], [[]])
  | n + 1 => ((iterS ws n).1 ++ nextS ws (iterS ws n).2, nextS ws (iterS ws n).2)
def seqsN (ws : List W) : List (List W) := (iterS ws ws.length).1
structure Few (ws : List W) : Prop where
  a : ∀ n, n ≤ ws.length → (iterS ws n).1.length ≤ 3000 ∧ (iterS ws n).2.length ≤ 3000 ∧ ∀ cs ∈ (iterS ws n).2, cs.length ≤ 3000
  l : ws.length ≤ 100
theorem rowsD_app {a b : List (List W)} : rowsD (a ++ b) = rowsD a ++ rowsD b := by simp [rowsD]
theorem rowsD_len {a : List (List W)} : (rowsD a).length = a.length := by simp [rowsD]
theorem flat_take {α β : Type} (f : α → List β) : ∀ (xs : List α) (j : Nat), ((xs.take j).flatMap f).length ≤ (xs.flatMap f).length
  | [], j => by simp
  | x :: xs, 0 => by simp
  | x :: xs, j + 1 => by
    have := flat_take f xs j
    simp only [List.take_succ_cons, List.flatMap_cons, List.length_append]; omega
theorem seqs_w {l : Nat} {ws : List W} (L : h[l]? = some (.lst (rowD ws))) (F : Few ws) (q : ∀ n h1, h.length ≤ n → Ext [] h h1 → h1[n]? = some (.lst (rowsD (seqsN ws))) → Q (.ref n) h1) : WP (f__law_sequences [.ref l] h) Q E := by
  have ll := lt_of_at L
  have fl := F.l
  unfold f__law_sequences b__law_sequences
  walk_at "into"
  walk_at "go"
  intro f h1 l1 x1 a1
  walk_at "go"
  intro g h2 l2 x2 a2
  have f1 : f < h1.length := lt_of_at a1
  have gf : g ≠ f := by omega
  walk_at "go"
  rw [row_len]
  walk_at "go"
  refine wf_forR ws.length (by omega) (by omega) (fun i r h' => ∃ a b c d g', r = [some (.ref l), a, some (.ref f), some (.ref g'), b, c, d] ∧ h'[f]? = some (.lst (rowsD (iterS ws i).1)) ∧ h'[g']? = some (.lst (rowsD (iterS ws i).2)) ∧ g' ≠ f ∧ Ext [] h h') ?_ ?_ ?_
  · exact ⟨_, _, _, _, g, rfl, x2.get0 a1, a2, gf, x1.trans x2⟩
  · rintro r h3 ⟨a, b, c, d, g', rfl, a3, _, _, x3⟩
    walk_at "go"
    exact q f h3 l1 x3 a3
  · rintro i r h3 li ⟨a, b, c, d, g', rfl, a3, g3, ne, x3⟩
    obtain ⟨b1, b2, b3⟩ := F.a i (by omega)
    obtain ⟨b4, b5, b6⟩ := F.a (i + 1) (by omega)
    have e1 : (iterS ws (i + 1)).1 = (iterS ws i).1 ++ nextS ws (iterS ws i).2 := rfl
    have e2 : (iterS ws (i + 1)).2 = nextS ws (iterS ws i).2 := rfl
    rw [e1] at b4
    rw [e2] at b5
    have L3 := x3.get0 L
    walk_at "go"
    intro k h4 l4 x4 a4
    have g4 := x4.get0 g3
    have a34 := x4.get0 a3
    walk_at "go"
    have kf : k ≠ f := by have := lt_of_at a3; omega
    have kg : k ≠ g' := by have := lt_of_at g3; omega
    have kl : k ≠ l := by have := lt_of_at L3; omega
    have h30 := x3.1
    refine wf_forL (rowsD (iterS ws i).2) (by rw [rowsD_len]; omega) (fun j r h' => ∃ c d, r = [some (.ref l), some (.int (0 + (i : Nat))), some (.ref f), some (.ref g'), some (.ref k), c, d] ∧ h'[f]? = some (.lst (rowsD (iterS ws i).1)) ∧ h'[g']? = some (.lst (rowsD (iterS ws i).2)) ∧ h'[k]? = some (.lst (rowsD (nextS ws ((iterS ws i).2.take j)))) ∧ Ext [] h h' ∧ k < h'.length) (fun j r h' z => ?_) ⟨_, _, rfl, a34, g4, a4, x3.trans x4, lt_of_at a4⟩ ?_ ?_
    · obtain ⟨c, d, _, _, g, _⟩ := z; exact src_lst g
    · rintro r h5 ⟨c, d, rfl, a5, g5, k5, x5, _⟩
      rw [rowsD_len, List.take_length] at k5
      walk_at "go"
      refine wp_extend a5 k5 (by rw [rowsD_len, rowsD_len]; rw [List.length_append] at b4; unfold sizeLine; omega) ?_
      intro h6 x6 a6
      walk_at "go"
      rw [← rowsD_app] at a6
      exact ⟨_, _, _, _, k, rfl, a6, x6.get1 k5 kf, kf, x5.new x6 (by omega)⟩
    · rintro j d0 r h5 ed ⟨c, d, rfl, a5, g5, k5, x5, kl5⟩
      have jl : j < (iterS ws i).2.length := by have := (List.getElem?_eq_some_iff.1 ed).1; rwa [rowsD_len] at this
      have ej : (iterS ws i).2[j]? = some ((iterS ws i).2[j]) := List.getElem?_eq_getElem jl
      unfold rowsD at ed
      rw [List.getElem?_map, ej] at ed
      cases ed
      have tk : (iterS ws i).2.take (j + 1) = (iterS ws i).2.take j ++ [(iterS ws i).2[j]] := by rw [List.take_succ, ej]; rfl
      have sl : ((iterS ws i).2[j]).length ≤ 3000 := b3 _ (List.getElem_mem jl)
      generalize (iterS ws i).2[j] = s at tk sl
      have L5 := x5.get0 L
      walk_at "go"
      refine wp_compF (fun w => .str (wd w)) ws (fun w => !decide (w ∈ s)) (fun w => .tup (rowD (s ++ [w]))) (gives_lst L5) (by omega) ?_ ?_
      · intro w mw h6 x6
        refine ⟨_, rfl, ?_⟩
        walk_at "go"
        refine ⟨rfl, Ext.rfl', fun _ => ?_⟩
        walk_at "go"
        refine wp_addT (by simp only [row_len, List.length_cons, List.length_nil, sizeLine]; omega) ?_
        refine ⟨by rw [row_app]; rfl, Ext.rfl'⟩
      intro n6 h6 l6 x6 a6
      have k6 := x6.get0 k5
      walk_at "go"
      have hb := flat_take (fun s => (ws.filter fun w => !decide (w ∈ s)).map fun w => s ++ [w]) (iterS ws i).2 (j + 1)
      have eb : nextS ws ((iterS ws i).2.take (j + 1)) = nextS ws ((iterS ws i).2.take j) ++ (ws.filter fun w => !decide (w ∈ s)).map fun w => s ++ [w] := by
        unfold nextS; rw [tk, List.flatMap_append]; simp
      have hb : (nextS ws ((iterS ws i).2.take (j + 1))).length ≤ (nextS ws (iterS ws i).2).length := hb
      rw [eb, List.length_append, List.length_map] at hb
      refine wp_extend k6 a6 (by rw [rowsD_len, List.length_map]; unfold sizeLine; omega) ?_
      intro h7 x7 a7
      walk_at "go"
      have h56 := x6.1
      have h67 := x7.1
      refine ⟨_, _, rfl, x7.get1 (x6.get0 a5) (fun z => kf z.symm), x7.get1 (x6.get0 g5) (fun z => kg z.symm), ?_, (x5.trans x6).new x7 (by omega), by omega⟩
      rw [a7, eb, rowsD_app]
      unfold rowsD; rw [List.map_map]; rfl
end
end
end Lw

set_option Elab.async false
set_option linter.all false
set_option maxRecDepth 100000
set_option maxHeartbeats 4000000
namespace Lw
open Py Ev PySem
section
local macro_rules | `(tactic| walk_at "rf") => `(tactic| with_unfolding_all exact rfl)
local macro_rules | `(tactic| walk_at "nin") => `(tactic| first | exact List.not_mem_nil | (simp only [List.mem_cons, List.not_mem_nil, or_false, not_or]; omega))
local macro_rules | `(tactic| walk_at "lk") => `(tactic| first | assumption | (refine Ext.get (by assumption) ?_ ?_; (walk_at "lk"); (walk_at "nin")))
local macro_rules | `(tactic| walk_at "sq") => `(tactic| first | exact seq_tup | exact seq_scr | exact SeqOf.seq (by assumption) | exact seq_lst (by walk_at "lk"))
local macro_rules | `(tactic| walk_at "sz") => `(tactic| first | omega | (simp only [List.length_cons, List.length_nil, List.length_append, List.length_map, List.length_replicate, iD_len, sizeLine]; omega))
local macro_rules | `(tactic| walk_at "ls") => `(tactic| (simp only [List.set_cons_succ, List.set_cons_zero, List.map_cons, List.map_nil, List.replicate_succ, List.replicate_zero, List.cons_append, List.nil_append, wipeL]; rfl))
local macro_rules | `(tactic| walk_at "call") => `(tactic| fail)
local macro_rules | `(tactic| walk_at "run") => `(tactic| with_reducible first
  | (apply wp_eV; (· walk_at "rf"))
  | refine wp_eC ?_
  | refine wp_e2 ?_
  | refine wp_e1 ?_
  | refine wp_aCons ?_
  | refine wp_aNil ?_
  | refine wp_eA ?_
  | refine wf_seq ?_
  | refine wf_Asg ?_
  | (apply wf_gN; (· walk_at "ls"))
  | refine wf_E ?_
  | refine wf_Ret ?_
  | refine wf_If ?_
  | refine wf_nil ?_
  | refine wp_eCall ?_
  | (apply wp_opF0; (· with_unfolding_all exact ⟨rfl, rfl⟩))
  | refine wp_eMeth ?_
  | (apply insat; (· walk_at "lk"))
  | refine wp_add ?_
  | refine wp_sub ?_
  | refine wp_lt ?_
  | refine wp_le ?_
  | refine wp_gt ?_
  | refine wp_ge ?_
  | (apply br_kt; (· with_unfolding_all rfl))
  | (apply br_kf; (· with_unfolding_all rfl))
  | refine wp_eqW ?_
  | refine wp_neW ?_
  | refine wp_eqB ?_
  | refine wp_neB ?_
  | (apply wp_lastW; (· assumption))
  | (apply wp_headW; (· assumption))
  | refine wp_inW ?_
  | refine wp_ninW ?_
  | refine wp_eqRow0 ?_
  | refine wp_neRow0 ?_
  | refine wp_eDisp ?_
  | refine pairs_cons ?_
  | refine pairs_nil ?_
  | refine keyat_s ?_
  | refine wf_sDputK ?_
  | (apply dputk_s; (· walk_at "lk"); (· exact lt_line (by omega)))
  | refine wp_eGet1 ?_
  | refine wp_eGet2 ?_
  | refine wp_ePop ?_
  | (apply dctat; (· walk_at "lk"))
  | (apply wp_dg; (· walk_at "lk"); (· assumption))
  | (apply wp_bDict; (· walk_at "lk"))
  | refine wp_eTM ?_
  | refine tupat ?_
  | (apply wp_tupIx; (· assumption))
  | refine wp_eCallV ?_
  | refine fnat ?_
  | refine wp_eqI ?_
  | refine wp_neI ?_
  | refine wp_eqS ?_
  | refine wp_neS ?_
  | (apply wp_mod; (· omega))
  | (apply wp_div; (· omega))
  | (apply wp_mul; (· omega))
  | (apply wp_powN; (· (simp only [Int.reduceToNat]; rfl)); (· omega); (· omega))
  | refine wp_neg ?_
  | refine wp_isN ?_
  | refine wp_isNI ?_
  | refine wp_bMax ?_
  | refine wp_bMin ?_
  | refine wp_bAbs ?_
  | refine wp_bInt ?_
  | (apply wp_bDivmod; (· omega))
  | refine tr_bl ?_
  | refine isb ?_
  | (apply br_t; (· rfl))
  | (apply br_f; (· rfl))
  | refine br_nt ?_
  | (apply br_dt; (· omega))
  | (apply br_df; (· omega))
  | refine wp_eNot ?_
  | refine wp_eB ?_
  | refine wp_eOr ?_
  | refine wp_eAnd ?_
  | refine wp_eAndB ?_
  | refine wp_eOrB ?_
  | refine wp_eNotB ?_
  | refine wp_eIf ?_
  | refine wp_chain ?_
  | refine wp_eFld ?_
  | (apply fdat; (· walk_at "lk"); (· walk_at "rf"))
  | refine wp_eTup ?_
  | refine wp_eLst ?_
  | refine wp_listR ?_
  | (apply wp_addT; (· walk_at "sz"))
  | (apply need; (· walk_at "sz"))
  | refine intat ?_
  | refine strat ?_
  | refine nonat ?_
  | (apply wp_len; (· walk_at "sq"))
  | (apply wp_ix; (· walk_at "sq"); (· walk_at "rf"))
  | (apply wp_bTuple; (· walk_at "sq"))
  | (apply wp_bList; (· walk_at "sq"))
  | refine wp_eBM ?_
  | (apply lstat; (· walk_at "lk"))
  | (apply wp_append; (· walk_at "lk"); (· walk_at "sz"))
  | (apply wp_clear; (· walk_at "lk"))
  | refine wp_eSl ?_
  | refine wp_pSome ?_
  | refine pis ?_
  | refine wp_pNo ?_
  | refine slat_tup ?_
  | (apply slat_lst; (· walk_at "lk"))
  | (apply wf_gT; (· walk_at "rf"))
  | refine wf_gsCons ?_
  | refine wf_gsNil ?_
  | refine wf_gSub ?_
  | (apply subat; (· walk_at "lk"); (· walk_at "rf"))
  | refine wf_sFld ?_
  | (apply fldat; (· walk_at "lk"); (· walk_at "sz"); (· walk_at "rf"))
  | refine wf_sPar ?_
  | (apply parat; (· walk_at "ls"))
  | refine wf_sPar3 ?_
  | (apply parat3; (· walk_at "ls"))
  | refine wp_eRev ?_
  | (apply rvat; (· walk_at "lk"))
  | refine wp_isBB ?_
  | refine wf_sFor ?_
  | refine wp_iSeq ?_
  | refine wp_iZip ?_
  | (apply zipat; (· walk_at "lk"); (· walk_at "lk"))
  | refine wp_aStar ?_
  | (apply sqat; (· walk_at "sq"))
  | refine wp_eJoinL ?_
  | refine wp_rB ?_
  | refine wp_iEnum ?_
  | refine wp_iRng1 ?_
  | refine wp_iRng2 ?_
  | refine srcat_tup ?_
  | refine srcat_scr ?_
  | (apply srcat_lst; (· walk_at "lk"))
  | refine wp_eIsi ?_
  | refine kd_int ?_
  | refine kd_bl ?_
  | refine kd_str ?_
  | refine kd_non ?_
  | refine kd_tup ?_
  | (apply kd_lst; (· walk_at "lk"))
  | (apply wp_eComp; (· walk_at "ls"))
  | (apply wp_lenO; (· walk_at "lk"))
  | (apply wp_reprO; (· walk_at "lk"))
  | refine wp_eFmt ?_
  | refine wp_eJoin ?_
  | refine jgo_cons ?_
  | refine jgo_nil ?_
  | walk_at "call")
local macro_rules | `(tactic| walk_at "go") => `(tactic| repeat (with_reducible first
  | (apply wp_eV; (· walk_at "rf"))
  | refine wp_eC ?_
  | refine wp_e2 ?_
  | refine wp_e1 ?_
  | refine wp_aCons ?_
  | refine wp_aNil ?_
  | refine wp_eA ?_
  | refine wf_seq ?_
  | refine wf_Asg ?_
  | (apply wf_gN; (· walk_at "ls"))
  | refine wf_E ?_
  | refine wf_Ret ?_
  | refine wf_If ?_
  | refine wf_nil ?_
  | refine wp_eCall ?_
  | (apply wp_opF0; (· with_unfolding_all exact ⟨rfl, rfl⟩))
  | refine wp_eMeth ?_
  | (apply insat; (· walk_at "lk"))
  | refine wp_add ?_
  | refine wp_sub ?_
  | refine wp_lt ?_
  | refine wp_le ?_
  | refine wp_gt ?_
  | refine wp_ge ?_
  | (apply br_kt; (· with_unfolding_all rfl))
  | (apply br_kf; (· with_unfolding_all rfl))
  | refine wp_eqW ?_
  | refine wp_neW ?_
  | refine wp_eqB ?_
  | refine wp_neB ?_
  | (apply wp_lastW; (· assumption))
  | (apply wp_headW; (· assumption))
  | refine wp_inW ?_
  | refine wp_ninW ?_
  | refine wp_eqRow0 ?_
  | refine wp_neRow0 ?_
  | refine wp_eDisp ?_
  | refine pairs_cons ?_
  | refine pairs_nil ?_
  | refine keyat_s ?_
  | refine wf_sDputK ?_
  | (apply dputk_s; (· walk_at "lk"); (· exact lt_line (by omega)))
  | refine wp_eGet1 ?_
  | refine wp_eGet2 ?_
  | refine wp_ePop ?_
  | (apply dctat; (· walk_at "lk"))
  | (apply wp_dg; (· walk_at "lk"); (· assumption))
  | (apply wp_bDict; (· walk_at "lk"))
  | refine wp_eTM ?_
  | refine tupat ?_
  | (apply wp_tupIx; (· assumption))
  | refine wp_eCallV ?_
  | refine fnat ?_
  | refine wp_eqI ?_
  | refine wp_neI ?_
  | refine wp_eqS ?_
  | refine wp_neS ?_
  | (apply wp_mod; (· omega))
  | (apply wp_div; (· omega))
  | (apply wp_mul; (· omega))
  | (apply wp_powN; (· (simp only [Int.reduceToNat]; rfl)); (· omega); (· omega))
  | refine wp_neg ?_
  | refine wp_isN ?_
  | refine wp_isNI ?_
  | refine wp_bMax ?_
  | refine wp_bMin ?_
  | refine wp_bAbs ?_
  | refine wp_bInt ?_
  | (apply wp_bDivmod; (· omega))
  | refine tr_bl ?_
  | refine isb ?_
  | (apply br_t; (· rfl))
  | (apply br_f; (· rfl))
  | refine br_nt ?_
  | (apply br_dt; (· omega))
  | (apply br_df; (· omega))
  | refine wp_eNot ?_
  | refine wp_eB ?_
  | refine wp_eOr ?_
  | refine wp_eAnd ?_
  | refine wp_eAndB ?_
  | refine wp_eOrB ?_
  | refine wp_eNotB ?_
  | refine wp_eIf ?_
  | refine wp_chain ?_
  | refine wp_eFld ?_
  | (apply fdat; (· walk_at "lk"); (· walk_at "rf"))
  | refine wp_eTup ?_
  | refine wp_eLst ?_
  | refine wp_listR ?_
  | (apply wp_addT; (· walk_at "sz"))
  | (apply need; (· walk_at "sz"))
  | refine intat ?_
  | refine strat ?_
  | refine nonat ?_
  | (apply wp_len; (· walk_at "sq"))
  | (apply wp_ix; (· walk_at "sq"); (· walk_at "rf"))
  | (apply wp_bTuple; (· walk_at "sq"))
  | (apply wp_bList; (· walk_at "sq"))
  | refine wp_eBM ?_
  | (apply lstat; (· walk_at "lk"))
  | (apply wp_append; (· walk_at "lk"); (· walk_at "sz"))
  | (apply wp_clear; (· walk_at "lk"))
  | refine wp_eSl ?_
  | refine wp_pSome ?_
  | refine pis ?_
  | refine wp_pNo ?_
  | refine slat_tup ?_
  | (apply slat_lst; (· walk_at "lk"))
  | (apply wf_gT; (· walk_at "rf"))
  | refine wf_gsCons ?_
  | refine wf_gsNil ?_
  | refine wf_gSub ?_
  | (apply subat; (· walk_at "lk"); (· walk_at "rf"))
  | refine wf_sFld ?_
  | (apply fldat; (· walk_at "lk"); (· walk_at "sz"); (· walk_at "rf"))
  | refine wf_sPar ?_
  | (apply parat; (· walk_at "ls"))
  | refine wf_sPar3 ?_
  | (apply parat3; (· walk_at "ls"))
  | refine wp_eRev ?_
  | (apply rvat; (· walk_at "lk"))
  | refine wp_isBB ?_
  | refine wf_sFor ?_
  | refine wp_iSeq ?_
  | refine wp_iZip ?_
  | (apply zipat; (· walk_at "lk"); (· walk_at "lk"))
  | refine wp_aStar ?_
  | (apply sqat; (· walk_at "sq"))
  | refine wp_eJoinL ?_
  | refine wp_rB ?_
  | refine wp_iEnum ?_
  | refine wp_iRng1 ?_
  | refine wp_iRng2 ?_
  | refine srcat_tup ?_
  | refine srcat_scr ?_
  | (apply srcat_lst; (· walk_at "lk"))
  | refine wp_eIsi ?_
  | refine kd_int ?_
  | refine kd_bl ?_
  | refine kd_str ?_
  | refine kd_non ?_
  | refine kd_tup ?_
  | (apply kd_lst; (· walk_at "lk"))
  | (apply wp_eComp; (· walk_at "ls"))
  | (apply wp_lenO; (· walk_at "lk"))
  | (apply wp_reprO; (· walk_at "lk"))
  | refine wp_eFmt ?_
  | refine wp_eJoin ?_
  | refine jgo_cons ?_
  | refine jgo_nil ?_
  | refine wf_Raise1 ?_
  | refine wf_Raise0 ?_
  | refine wf_Try ?_
  | (apply wp_eXf; (· walk_at "rf"))
  | walk_at "call"))
/-- into a def -/
local macro_rules | `(tactic| walk_at "into") => `(tactic| (refine wp_runF (by walk_at "rf") (by walk_at "ls") ?_))
/-- on, through all branches -/
local macro_rules | `(tactic| walk_at "br") => `(tactic| repeat' (first | walk_at "run" | (with_reducible apply br_dt; (· assumption)) | (with_reducible apply br_df; (· assumption)) | (with_reducible apply br_t; (· assumption)) | (with_reducible apply br_f; (· assumption)) | (with_reducible refine br_d (fun _ => ?_) (fun _ => ?_)) | (with_reducible refine br_s (fun _ => ?_) (fun _ => ?_)) | (intro d ed)))
/-! ### rows by the law, rules -/
def takesN (big : Bool) : List (List W) := (seqsN [0, 1, 2, 3]).filter fun cs => lawTake cs big
def givesN : List (List W) := (seqsN [4, 5, 6]).filter fun cs => lawGive cs
def movesN (sh : Bool) : List (List W) := (seqsN [4, 0, 1, 2, 7, 5]).filter fun cs => lawMove cs sh
def liftsN : List (List W) := [[], [7], [5], [7, 5], [5, 7], [8]]
theorem few4 : Few [0, 1, 2, 3] := ⟨by decide +kernel, by decide⟩
theorem few3 : Few [4, 5, 6] := ⟨by decide +kernel, by decide⟩
theorem few6 : Few [4, 0, 1, 2, 7, 5] := ⟨by decide +kernel, by decide⟩
theorem takes_len : ∀ big, 0 < (takesN big).length ∧ (takesN big).length < 1000000 := by decide +kernel
theorem gives_len : 0 < givesN.length ∧ givesN.length < 1000000 := by decide +kernel
theorem moves_len : ∀ sh, 0 < (movesN sh).length ∧ (movesN sh).length < 1000000 := by decide +kernel
theorem seqs_len4 : (seqsN [0, 1, 2, 3]).length < 1000000 := by decide +kernel
theorem seqs_len3 : (seqsN [4, 5, 6]).length < 1000000 := by decide +kernel
theorem seqs_len6 : (seqsN [4, 0, 1, 2, 7, 5]).length < 1000000 := by decide +kernel
section
variable {E : EP} {Q : D → LH → Prop} {h : LH}
theorem takes_w {k : Int} (q : ∀ n h1, h.length ≤ n → Ext [] h h1 → h1[n]? = some (.lst (rowsD (takesN (decide (1 < k))))) → Q (.ref n) h1) : WP (f__law_takes [.int k] h) Q E := by
  unfold f__law_takes b__law_takes
  walk_at "into"
  walk_at "go"
  intro l h1 l1 x1 a1
  walk_at "go"
  refine seqs_w (ws := [0, 1, 2, 3]) a1 few4 ?_
  intro n h2 l2 x2 a2
  walk_at "go"
  refine wp_compF (fun cs => .tup (rowD cs)) (seqsN [0, 1, 2, 3]) (fun cs => lawTake cs (decide (1 < k))) (fun cs => .tup (rowD cs)) (gives_lst a2) seqs_len4 ?_ ?_
  · intro cs m h3 x3
    refine ⟨_, rfl, ?_⟩
    walk_at "go"
    refine law_is_take_w ?_
    walk_at "go"
    refine ⟨rfl, Ext.rfl', fun _ => ?_⟩
    walk_at "go"
    exact ⟨rfl, Ext.rfl'⟩
  intro n3 h3 l3 x3 a3
  have := x1.1
  have := x2.1
  exact q n3 h3 (by omega) ((x1.trans x2).trans x3) a3
theorem gives_w (q : ∀ n h1, h.length ≤ n → Ext [] h h1 → h1[n]? = some (.lst (rowsD givesN)) → Q (.ref n) h1) : WP (f__law_gives [] h) Q E := by
  unfold f__law_gives b__law_gives
  walk_at "into"
  walk_at "go"
  intro l h1 l1 x1 a1
  walk_at "go"
  refine seqs_w (ws := [4, 5, 6]) a1 few3 ?_
  intro n h2 l2 x2 a2
  walk_at "go"
  refine wp_compF (fun cs => .tup (rowD cs)) (seqsN [4, 5, 6]) (fun cs => lawGive cs) (fun cs => .tup (rowD cs)) (gives_lst a2) seqs_len3 ?_ ?_
  · intro cs m h3 x3
    refine ⟨_, rfl, ?_⟩
    walk_at "go"
    refine law_is_give_w ?_
    walk_at "go"
    refine ⟨rfl, Ext.rfl', fun _ => ?_⟩
    walk_at "go"
    exact ⟨rfl, Ext.rfl'⟩
  intro n3 h3 l3 x3 a3
  have := x1.1
  have := x2.1
  exact q n3 h3 (by omega) ((x1.trans x2).trans x3) a3
theorem moves_w {sh : Bool} (q : ∀ n h1, h.length ≤ n → Ext [] h h1 → h1[n]? = some (.lst (rowsD (movesN sh))) → Q (.ref n) h1) : WP (f__law_moves [.bl sh] h) Q E := by
  unfold f__law_moves b__law_moves
  walk_at "into"
  walk_at "go"
  intro l h1 l1 x1 a1
  walk_at "go"
  refine seqs_w (ws := [4, 0, 1, 2, 7, 5]) a1 few6 ?_
  intro n h2 l2 x2 a2
  walk_at "go"
  refine wp_compF (fun cs => .tup (rowD cs)) (seqsN [4, 0, 1, 2, 7, 5]) (fun cs => lawMove cs sh) (fun cs => .tup (rowD cs)) (gives_lst a2) seqs_len6 ?_ ?_
  · intro cs m h3 x3
    refine ⟨_, rfl, ?_⟩
    walk_at "go"
    refine law_is_move_w ?_
    intro h4 x4
    walk_at "go"
    refine ⟨rfl, x4, fun _ => ?_⟩
    walk_at "go"
    exact ⟨rfl, Ext.rfl'⟩
  intro n3 h3 l3 x3 a3
  have := x1.1
  have := x2.1
  exact q n3 h3 (by omega) ((x1.trans x2).trans x3) a3
theorem lifts_w (q : ∀ n h1, h.length ≤ n → Ext [] h h1 → h1[n]? = some (.lst (rowsD liftsN)) → Q (.ref n) h1) : WP (f__law_lifts [] h) Q E := by
  unfold f__law_lifts b__law_lifts
  walk_at "into"
  walk_at "go"
  intro l h1 l1 x1 a1
  exact q l h1 l1 x1 a1
theorem pick_w {p l : Nat} {xs : List D} (P : Pot h p) (L : h[l]? = some (.lst xs)) (pl : l ≠ p) (hx : 0 < xs.length ∧ xs.length < 1000000) (q : ∀ d h1, d ∈ xs → Pot h1 p → Ext [p] h h1 → Q d h1) : WP (f__law_pick [.ref p, .ref l] h) Q E := by
  unfold f__law_pick b__law_pick
  walk_at "into"
  walk_at "go"
  refine draw_w P (by omega) ?_
  intro k h1 lk P1 x1
  have L1 := x1.get1 L pl
  walk_at "go"
  have kl : k < xs.length := by omega
  refine wp_ixN (d := xs[k]) (seq_lst L1) (List.getElem?_eq_getElem kl) ?_
  exact q _ h1 (List.getElem_mem kl) P1 x1
end
/-- the rules of a book -/
structure Ru where
  fails : W
  shared : Bool
  batch : Nat
  settles : Bool
  holds : List W
  take : List W
  give : List W
  move : List W
  lift : List W
structure RulesK (kvs : List (Ky × D)) (R : Ru) : Prop where
  fails : valD kvs (.inr (wd 18)) = some (.str (wd R.fails))
  shared : valD kvs (.inr (wd 19)) = some (.bl R.shared)
  batch : valD kvs (.inr "batch") = some (.int (R.batch : Int))
  settles : valD kvs (.inr "settles") = some (.bl R.settles)
  holds : valD kvs (.inr "holds") = some (.tup (rowD R.holds))
  take : valD kvs (.inr (wd 12)) = some (.tup (rowD R.take))
  give : valD kvs (.inr (wd 13)) = some (.tup (rowD R.give))
  move : valD kvs (.inr (wd 14)) = some (.tup (rowD R.move))
  lift : valD kvs (.inr (wd 15)) = some (.tup (rowD R.lift))
  few : kvs.length ≤ 30
def RulesAt (h : LH) (n : Nat) (R : Ru) : Prop := ∃ kvs, h[n]? = some (.dct kvs) ∧ RulesK kvs R
theorem RulesAt.ext {W : List Nat} {h h1 : LH} {n : Nat} {R : Ru} (A : RulesAt h n R) (x : Ext W h h1) (k : n ∉ W) : RulesAt h1 n R := by
  obtain ⟨kvs, e, K⟩ := A; exact ⟨kvs, x.get e k, K⟩
theorem RulesAt.lt {h : LH} {n : Nat} {R : Ru} (A : RulesAt h n R) : n < h.length := by obtain ⟨kvs, e, K⟩ := A; exact lt_of_at e
def tests (cs : List W) (w : W) : Bool := !decide (w ∈ cs) || ((!decide ((0 : W) ∈ cs) || decide (cs.idxOf 0 < cs.idxOf w)) && (!decide ((2 : W) ∈ cs) || decide (cs.idxOf 2 < cs.idxOf w)))
def behB (cs : List W) (w o : W) : Bool := !decide (w ∈ cs) || (decide (o ∈ cs) && decide (cs.idxOf o < cs.idxOf w))
def rowOk (known cs : List W) : Bool := decide (∀ c ∈ cs, c ∈ known) && decide cs.Nodup
def takeP (cs : List W) : Bool := rowOk [0, 1, 2, 3] cs && (decide ((3 : W) ∈ cs) && (tests cs 3 && (if decide ((2 : W) ∈ cs) then !decide ((0 : W) ∈ cs) && !decide ((1 : W) ∈ cs) else decide ((1 : W) ∈ cs))))
def giveP (cs : List W) : Bool := rowOk [4, 5, 6] cs && (decide ((6 : W) ∈ cs) && behB cs 5 4)
def moveP (cs : List W) : Bool := rowOk [4, 0, 1, 2, 7, 5] cs && (decide (cs = []) || (decide ((7 : W) ∈ cs) && (!(decide ((2 : W) ∈ cs) && (decide ((0 : W) ∈ cs) || decide ((1 : W) ∈ cs))) && (behB cs 5 4 && (tests cs 7 && tests cs 5)))))
def liftP (cs : List W) : Bool := rowOk [7, 5, 8] cs && decide (cs ∈ liftsN)
/-- rules of which there is a book -/
structure Ok (R : Ru) : Prop where
  fails : R.fails ∈ ([9, 10, 11] : List W)
  batch : 1 ≤ R.batch ∧ R.batch ≤ 50
  holds : rowOk [12, 13, 14, 15] R.holds = true
  take : takeP R.take = true
  late : 1 < R.batch → lastIs R.take 3 = true
  give : giveP R.give = true
  move : moveP R.move = true
  own : R.shared = false → R.move = [] ∨ headIs R.move 4 = true
  lift : liftP R.lift = true
theorem takes_ok : ∀ big, ∀ cs ∈ takesN big, takeP cs = true ∧ (big = true → lastIs cs 3 = true) := by decide +kernel
theorem gives_ok : ∀ cs ∈ givesN, giveP cs = true := by decide +kernel
theorem moves_ok : ∀ sh, ∀ cs ∈ movesN sh, moveP cs = true ∧ (sh = false → cs = [] ∨ headIs cs 4 = true) := by decide +kernel
theorem lifts_ok : ∀ cs ∈ liftsN, liftP cs = true := by decide +kernel
theorem sub_ok : ∀ cs : List W, cs.Sublist [12, 13, 14, 15] → rowOk [12, 13, 14, 15] cs = true := fun cs s => by
  unfold rowOk
  rw [Bool.and_eq_true, decide_eq_true_eq, decide_eq_true_eq]
  exact ⟨fun c m => s.subset m, s.nodup (by decide)⟩
end
end Lw

set_option Elab.async false
set_option linter.all false
set_option maxRecDepth 100000
set_option maxHeartbeats 4000000
namespace Lw
open Py Ev PySem
section
local macro_rules | `(tactic| walk_at "rf") => `(tactic| with_unfolding_all exact rfl)
local macro_rules | `(tactic| walk_at "nin") => `(tactic| first | exact List.not_mem_nil | (simp only [List.mem_cons, List.not_mem_nil, or_false, not_or]; omega))
local macro_rules | `(tactic| walk_at "lk") => `(tactic| first | assumption | (refine Ext.get (by assumption) ?_ ?_; (walk_at "lk"); (walk_at "nin")))
local macro_rules | `(tactic| walk_at "sq") => `(tactic| first | exact seq_tup | exact seq_scr | exact SeqOf.seq (by assumption) | exact seq_lst (by walk_at "lk"))
local macro_rules | `(tactic| walk_at "sz") => `(tactic| first | omega | (simp only [List.length_cons, List.length_nil, List.length_append, List.length_map, List.length_replicate, iD_len, sizeLine]; omega))
local macro_rules | `(tactic| walk_at "ls") => `(tactic| (simp only [List.set_cons_succ, List.set_cons_zero, List.map_cons, List.map_nil, List.replicate_succ, List.replicate_zero, List.cons_append, List.nil_append, wipeL]; rfl))
local macro_rules | `(tactic| walk_at "call") => `(tactic| fail)
local macro_rules | `(tactic| walk_at "run") => `(tactic| with_reducible first
  | (apply wp_eV; (· walk_at "rf"))
  | refine wp_eC ?_
  | refine wp_e2 ?_
  | refine wp_e1 ?_
  | refine wp_aCons ?_
  | refine wp_aNil ?_
  | refine wp_eA ?_
  | refine wf_seq ?_
  | refine wf_Asg ?_
  | (apply wf_gN; (· walk_at "ls"))
  | refine wf_E ?_
  | refine wf_Ret ?_
  | refine wf_If ?_
  | refine wf_nil ?_
  | refine wp_eCall ?_
  | (apply wp_opF0; (· with_unfolding_all exact ⟨rfl, rfl⟩))
  | refine wp_eMeth ?_
  | (apply insat; (· walk_at "lk"))
  | refine wp_add ?_
  | refine wp_sub ?_
  | refine wp_lt ?_
  | refine wp_le ?_
  | refine wp_gt ?_
  | refine wp_ge ?_
  | (apply br_kt; (· with_unfolding_all rfl))
  | (apply br_kf; (· with_unfolding_all rfl))
  | refine wp_eqW ?_
  | refine wp_neW ?_
  | refine wp_eqB ?_
  | refine wp_neB ?_
  | (apply wp_lastW; (· assumption))
  | (apply wp_headW; (· assumption))
  | refine wp_inW ?_
  | refine wp_ninW ?_
  | refine wp_eqRow0 ?_
  | refine wp_neRow0 ?_
  | refine wp_eDisp ?_
  | refine pairs_cons ?_
  | refine pairs_nil ?_
  | refine keyat_s ?_
  | refine wf_sDputK ?_
  | (apply dputk_s; (· walk_at "lk"); (· exact lt_line (by omega)))
  | refine wp_eGet1 ?_
  | refine wp_eGet2 ?_
  | refine wp_ePop ?_
  | (apply dctat; (· walk_at "lk"))
  | (apply wp_dg; (· walk_at "lk"); (· assumption))
  | (apply wp_bDict; (· walk_at "lk"))
  | refine wp_eTM ?_
  | refine tupat ?_
  | (apply wp_tupIx; (· assumption))
  | refine wp_eCallV ?_
  | refine fnat ?_
  | refine wp_eqI ?_
  | refine wp_neI ?_
  | refine wp_eqS ?_
  | refine wp_neS ?_
  | (apply wp_mod; (· omega))
  | (apply wp_div; (· omega))
  | (apply wp_mul; (· omega))
  | (apply wp_powN; (· (simp only [Int.reduceToNat]; rfl)); (· omega); (· omega))
  | refine wp_neg ?_
  | refine wp_isN ?_
  | refine wp_isNI ?_
  | refine wp_bMax ?_
  | refine wp_bMin ?_
  | refine wp_bAbs ?_
  | refine wp_bInt ?_
  | (apply wp_bDivmod; (· omega))
  | refine tr_bl ?_
  | refine isb ?_
  | (apply br_t; (· rfl))
  | (apply br_f; (· rfl))
  | refine br_nt ?_
  | (apply br_dt; (· omega))
  | (apply br_df; (· omega))
  | refine wp_eNot ?_
  | refine wp_eB ?_
  | refine wp_eOr ?_
  | refine wp_eAnd ?_
  | refine wp_eAndB ?_
  | refine wp_eOrB ?_
  | refine wp_eNotB ?_
  | refine wp_eIf ?_
  | refine wp_chain ?_
  | refine wp_eFld ?_
  | (apply fdat; (· walk_at "lk"); (· walk_at "rf"))
  | refine wp_eTup ?_
  | refine wp_eLst ?_
  | refine wp_listR ?_
  | (apply wp_addT; (· walk_at "sz"))
  | (apply need; (· walk_at "sz"))
  | refine intat ?_
  | refine strat ?_
  | refine nonat ?_
  | (apply wp_len; (· walk_at "sq"))
  | (apply wp_ix; (· walk_at "sq"); (· walk_at "rf"))
  | (apply wp_bTuple; (· walk_at "sq"))
  | (apply wp_bList; (· walk_at "sq"))
  | refine wp_eBM ?_
  | (apply lstat; (· walk_at "lk"))
  | (apply wp_append; (· walk_at "lk"); (· walk_at "sz"))
  | (apply wp_clear; (· walk_at "lk"))
  | refine wp_eSl ?_
  | refine wp_pSome ?_
  | refine pis ?_
  | refine wp_pNo ?_
  | refine slat_tup ?_
  | (apply slat_lst; (· walk_at "lk"))
  | (apply wf_gT; (· walk_at "rf"))
  | refine wf_gsCons ?_
  | refine wf_gsNil ?_
  | refine wf_gSub ?_
  | (apply subat; (· walk_at "lk"); (· walk_at "rf"))
  | refine wf_sFld ?_
  | (apply fldat; (· walk_at "lk"); (· walk_at "sz"); (· walk_at "rf"))
  | refine wf_sPar ?_
  | (apply parat; (· walk_at "ls"))
  | refine wf_sPar3 ?_
  | (apply parat3; (· walk_at "ls"))
  | refine wp_eRev ?_
  | (apply rvat; (· walk_at "lk"))
  | refine wp_isBB ?_
  | refine wf_sFor ?_
  | refine wp_iSeq ?_
  | refine wp_iZip ?_
  | (apply zipat; (· walk_at "lk"); (· walk_at "lk"))
  | refine wp_aStar ?_
  | (apply sqat; (· walk_at "sq"))
  | refine wp_eJoinL ?_
  | refine wp_rB ?_
  | refine wp_iEnum ?_
  | refine wp_iRng1 ?_
  | refine wp_iRng2 ?_
  | refine srcat_tup ?_
  | refine srcat_scr ?_
  | (apply srcat_lst; (· walk_at "lk"))
  | refine wp_eIsi ?_
  | refine kd_int ?_
  | refine kd_bl ?_
  | refine kd_str ?_
  | refine kd_non ?_
  | refine kd_tup ?_
  | (apply kd_lst; (· walk_at "lk"))
  | (apply wp_eComp; (· walk_at "ls"))
  | (apply wp_lenO; (· walk_at "lk"))
  | (apply wp_reprO; (· walk_at "lk"))
  | refine wp_eFmt ?_
  | refine wp_eJoin ?_
  | refine jgo_cons ?_
  | refine jgo_nil ?_
  | walk_at "call")
local macro_rules | `(tactic| walk_at "go") => `(tactic| repeat (with_reducible first
  | (apply wp_eV; (· walk_at "rf"))
  | refine wp_eC ?_
  | refine wp_e2 ?_
  | refine wp_e1 ?_
  | refine wp_aCons ?_
  | refine wp_aNil ?_
  | refine wp_eA ?_
  | refine wf_seq ?_
  | refine wf_Asg ?_
  | (apply wf_gN; (· walk_at "ls"))
  | refine wf_E ?_
  | refine wf_Ret ?_
  | refine wf_If ?_
  | refine wf_nil ?_
  | refine wp_eCall ?_
  | (apply wp_opF0; (· with_unfolding_all exact ⟨rfl, rfl⟩))
  | refine wp_eMeth ?_
  | (apply insat; (· walk_at "lk"))
  | refine wp_add ?_
  | refine wp_sub ?_
  | refine wp_lt ?_
  | refine wp_le ?_
  | refine wp_gt ?_
  | refine wp_ge ?_
  | (apply br_kt; (· with_unfolding_all rfl))
  | (apply br_kf; (· with_unfolding_all rfl))
  | refine wp_eqW ?_
  | refine wp_neW ?_
  | refine wp_eqB ?_
  | refine wp_neB ?_
  | (apply wp_lastW; (· assumption))
  | (apply wp_headW; (· assumption))
  | refine wp_inW ?_
  | refine wp_ninW ?_
  | refine wp_eqRow0 ?_
  | refine wp_neRow0 ?_
  | refine wp_eDisp ?_
  | refine pairs_cons ?_
  | refine pairs_nil ?_
  | refine keyat_s ?_
  | refine wf_sDputK ?_
  | (apply dputk_s; (· walk_at "lk"); (· exact lt_line (by omega)))
  | refine wp_eGet1 ?_
  | refine wp_eGet2 ?_
  | refine wp_ePop ?_
  | (apply dctat; (· walk_at "lk"))
  | (apply wp_dg; (· walk_at "lk"); (· assumption))
  | (apply wp_bDict; (· walk_at "lk"))
  | refine wp_eTM ?_
  | refine tupat ?_
  | (apply wp_tupIx; (· assumption))
  | refine wp_eCallV ?_
  | refine fnat ?_
  | refine wp_eqI ?_
  | refine wp_neI ?_
  | refine wp_eqS ?_
  | refine wp_neS ?_
  | (apply wp_mod; (· omega))
  | (apply wp_div; (· omega))
  | (apply wp_mul; (· omega))
  | (apply wp_powN; (· (simp only [Int.reduceToNat]; rfl)); (· omega); (· omega))
  | refine wp_neg ?_
  | refine wp_isN ?_
  | refine wp_isNI ?_
  | refine wp_bMax ?_
  | refine wp_bMin ?_
  | refine wp_bAbs ?_
  | refine wp_bInt ?_
  | (apply wp_bDivmod; (· omega))
  | refine tr_bl ?_
  | refine isb ?_
  | (apply br_t; (· rfl))
  | (apply br_f; (· rfl))
  | refine br_nt ?_
  | (apply br_dt; (· omega))
  | (apply br_df; (· omega))
  | refine wp_eNot ?_
  | refine wp_eB ?_
  | refine wp_eOr ?_
  | refine wp_eAnd ?_
  | refine wp_eAndB ?_
  | refine wp_eOrB ?_
  | refine wp_eNotB ?_
  | refine wp_eIf ?_
  | refine wp_chain ?_
  | refine wp_eFld ?_
  | (apply fdat; (· walk_at "lk"); (· walk_at "rf"))
  | refine wp_eTup ?_
  | refine wp_eLst ?_
  | refine wp_listR ?_
  | (apply wp_addT; (· walk_at "sz"))
  | (apply need; (· walk_at "sz"))
  | refine intat ?_
  | refine strat ?_
  | refine nonat ?_
  | (apply wp_len; (· walk_at "sq"))
  | (apply wp_ix; (· walk_at "sq"); (· walk_at "rf"))
  | (apply wp_bTuple; (· walk_at "sq"))
  | (apply wp_bList; (· walk_at "sq"))
  | refine wp_eBM ?_
  | (apply lstat; (· walk_at "lk"))
  | (apply wp_append; (· walk_at "lk"); (· walk_at "sz"))
  | (apply wp_clear; (· walk_at "lk"))
  | refine wp_eSl ?_
  | refine wp_pSome ?_
  | refine pis ?_
  | refine wp_pNo ?_
  | refine slat_tup ?_
  | (apply slat_lst; (· walk_at "lk"))
  | (apply wf_gT; (· walk_at "rf"))
  | refine wf_gsCons ?_
  | refine wf_gsNil ?_
  | refine wf_gSub ?_
  | (apply subat; (· walk_at "lk"); (· walk_at "rf"))
  | refine wf_sFld ?_
  | (apply fldat; (· walk_at "lk"); (· walk_at "sz"); (· walk_at "rf"))
  | refine wf_sPar ?_
  | (apply parat; (· walk_at "ls"))
  | refine wf_sPar3 ?_
  | (apply parat3; (· walk_at "ls"))
  | refine wp_eRev ?_
  | (apply rvat; (· walk_at "lk"))
  | refine wp_isBB ?_
  | refine wf_sFor ?_
  | refine wp_iSeq ?_
  | refine wp_iZip ?_
  | (apply zipat; (· walk_at "lk"); (· walk_at "lk"))
  | refine wp_aStar ?_
  | (apply sqat; (· walk_at "sq"))
  | refine wp_eJoinL ?_
  | refine wp_rB ?_
  | refine wp_iEnum ?_
  | refine wp_iRng1 ?_
  | refine wp_iRng2 ?_
  | refine srcat_tup ?_
  | refine srcat_scr ?_
  | (apply srcat_lst; (· walk_at "lk"))
  | refine wp_eIsi ?_
  | refine kd_int ?_
  | refine kd_bl ?_
  | refine kd_str ?_
  | refine kd_non ?_
  | refine kd_tup ?_
  | (apply kd_lst; (· walk_at "lk"))
  | (apply wp_eComp; (· walk_at "ls"))
  | (apply wp_lenO; (· walk_at "lk"))
  | (apply wp_reprO; (· walk_at "lk"))
  | refine wp_eFmt ?_
  | refine wp_eJoin ?_
  | refine jgo_cons ?_
  | refine jgo_nil ?_
  | refine wf_Raise1 ?_
  | refine wf_Raise0 ?_
  | refine wf_Try ?_
  | (apply wp_eXf; (· walk_at "rf"))
  | walk_at "call"))
/-- into a def -/
local macro_rules | `(tactic| walk_at "into") => `(tactic| (refine wp_runF (by walk_at "rf") (by walk_at "ls") ?_))
/-- on, through all branches -/
local macro_rules | `(tactic| walk_at "br") => `(tactic| repeat' (first | walk_at "run" | (with_reducible apply br_dt; (· assumption)) | (with_reducible apply br_df; (· assumption)) | (with_reducible apply br_t; (· assumption)) | (with_reducible apply br_f; (· assumption)) | (with_reducible refine br_d (fun _ => ?_) (fun _ => ?_)) | (with_reducible refine br_s (fun _ => ?_) (fun _ => ?_)) | (intro d ed)))
/-! ### the nine parts of rules -/
abbrev Pt := Fin 9
def pk (p : Pt) : Str := match p.val with
  | 0 => wd 18
  | 1 => wd 19
  | 2 => "batch"
  | 3 => "settles"
  | 4 => "holds"
  | 5 => wd 12
  | 6 => wd 13
  | 7 => wd 14
  | _ => wd 15
def pv (R : Ru) (p : Pt) : D := match p.val with
  | 0 => .str (wd R.fails)
  | 1 => .bl R.shared
  | 2 => .int (R.batch : Int)
  | 3 => .bl R.settles
  | 4 => .tup (rowD R.holds)
  | 5 => .tup (rowD R.take)
  | 6 => .tup (rowD R.give)
  | 7 => .tup (rowD R.move)
  | _ => .tup (rowD R.lift)
theorem pk_inj : ∀ a b : Pt, pk a = pk b → a = b := by decide +kernel
theorem fin9 {P : Pt → Prop} (h0 : P 0) (h1 : P 1) (h2 : P 2) (h3 : P 3) (h4 : P 4) (h5 : P 5) (h6 : P 6) (h7 : P 7) (h8 : P 8) : ∀ p, P p := fun p => match p with
  | 0 => h0
  | 1 => h1
  | 2 => h2
  | 3 => h3
  | 4 => h4
  | 5 => h5
  | 6 => h6
  | 7 => h7
  | 8 => h8
def kvR (o : List Pt) (R : Ru) : List (Ky × D) := o.map fun p => (.inr (pk p), pv R p)
def RF (o : List Pt) (h : LH) (n : Nat) (R : Ru) : Prop := h[n]? = some (.dct (kvR o R))
def o0 : List Pt := [0, 1, 2, 3, 4, 5, 6, 7, 8]
def o1 : List Pt := [5, 6, 7, 8, 0, 1, 4, 2, 3]
structure Od (o : List Pt) : Prop where
  has : ∀ p, p ∈ o
  len : o.length = 9
theorem od0 : Od o0 := ⟨by decide, rfl⟩
theorem od1 : Od o1 := ⟨by decide, rfl⟩
theorem kvR_len {o : List Pt} {R : Ru} : (kvR o R).length = o.length := by simp [kvR]
theorem valD_kv {R : Ru} {p : Pt} : ∀ {o : List Pt}, p ∈ o → valD (kvR o R) (.inr (pk p)) = some (pv R p)
  | a :: o, m => by
    by_cases e : a = p
    · subst e; simp [kvR, valD]
    · have m2 : p ∈ o := by
        rcases List.mem_cons.1 m with z | z
        · exact absurd z.symm e
        · exact z
      have ih := valD_kv (R := R) m2
      have ne : ¬ pk a = pk p := fun z => e (pk_inj _ _ z)
      simp only [kvR, valD] at ih ⊢
      rw [List.map_cons, List.find?_cons]
      have : decide ((Sum.inr (pk a) : Ky) = Sum.inr (pk p)) = false := decide_eq_false fun z => ne (Sum.inr.inj z)
      simp only [this]
      exact ih
theorem rulesK_kv {o : List Pt} {R : Ru} (d : Od o) : RulesK (kvR o R) R :=
  ⟨valD_kv (p := 0) (d.has _), valD_kv (p := 1) (d.has _), valD_kv (p := 2) (d.has _), valD_kv (p := 3) (d.has _), valD_kv (p := 4) (d.has _), valD_kv (p := 5) (d.has _), valD_kv (p := 6) (d.has _), valD_kv (p := 7) (d.has _), valD_kv (p := 8) (d.has _), by rw [kvR_len, d.len]; decide⟩
theorem RF.at {o : List Pt} {h : LH} {n : Nat} {R : Ru} (A : RF o h n R) (d : Od o) : RulesAt h n R := ⟨_, A, rulesK_kv d⟩
theorem RF.ext {o : List Pt} {W : List Nat} {h h1 : LH} {n : Nat} {R : Ru} (A : RF o h n R) (x : Ext W h h1) (k : n ∉ W) : RF o h1 n R := x.get A k
theorem RF.lt {o : List Pt} {h : LH} {n : Nat} {R : Ru} (A : RF o h n R) : n < h.length := lt_of_at A
theorem put_kv {o : List Pt} {R T : Ru} {p : Pt} {v : D} (d : Od o) (e : pv T p = v) (f : ∀ q, q ≠ p → pv T q = pv R q) : putD (kvR o R) (.inr (pk p)) v = kvR o T := by
  have a : ((kvR o R).any fun kv => decide (kv.1 = .inr (pk p))) = true := List.any_eq_true.2 ⟨_, List.mem_map.2 ⟨p, d.has p, rfl⟩, by simp⟩
  unfold putD
  rw [if_pos a]
  simp only [kvR, List.map_map]
  refine List.map_congr_left fun q _ => ?_
  simp only [Function.comp]
  by_cases z : q = p
  · subst z; rw [if_pos rfl, e]
  · rw [if_neg fun y => z (pk_inj _ _ (Sum.inr.inj y)), f q z]
section
variable {o : List Pt} {R : Ru}
theorem putF0 (d : Od o) (w : W) : putD (kvR o R) (.inr (wd 18)) (.str (wd w)) = kvR o { R with fails := w } := put_kv (p := 0) d rfl (by refine fin9 ?_ ?_ ?_ ?_ ?_ ?_ ?_ ?_ ?_ <;> first | exact fun _ => rfl | exact fun z => absurd rfl z)
theorem putF1 (d : Od o) (w : Bool) : putD (kvR o R) (.inr (wd 19)) (.bl w) = kvR o { R with shared := w } := put_kv (p := 1) d rfl (by refine fin9 ?_ ?_ ?_ ?_ ?_ ?_ ?_ ?_ ?_ <;> first | exact fun _ => rfl | exact fun z => absurd rfl z)
theorem putF2 (d : Od o) (w : Nat) : putD (kvR o R) (.inr "batch") (.int (w : Int)) = kvR o { R with batch := w } := put_kv (p := 2) d rfl (by refine fin9 ?_ ?_ ?_ ?_ ?_ ?_ ?_ ?_ ?_ <;> first | exact fun _ => rfl | exact fun z => absurd rfl z)
theorem putF3 (d : Od o) (w : Bool) : putD (kvR o R) (.inr "settles") (.bl w) = kvR o { R with settles := w } := put_kv (p := 3) d rfl (by refine fin9 ?_ ?_ ?_ ?_ ?_ ?_ ?_ ?_ ?_ <;> first | exact fun _ => rfl | exact fun z => absurd rfl z)
theorem putF4 (d : Od o) (w : List W) : putD (kvR o R) (.inr "holds") (.tup (rowD w)) = kvR o { R with holds := w } := put_kv (p := 4) d rfl (by refine fin9 ?_ ?_ ?_ ?_ ?_ ?_ ?_ ?_ ?_ <;> first | exact fun _ => rfl | exact fun z => absurd rfl z)
theorem putF5 (d : Od o) (w : List W) : putD (kvR o R) (.inr (wd 12)) (.tup (rowD w)) = kvR o { R with take := w } := put_kv (p := 5) d rfl (by refine fin9 ?_ ?_ ?_ ?_ ?_ ?_ ?_ ?_ ?_ <;> first | exact fun _ => rfl | exact fun z => absurd rfl z)
theorem putF6 (d : Od o) (w : List W) : putD (kvR o R) (.inr (wd 13)) (.tup (rowD w)) = kvR o { R with give := w } := put_kv (p := 6) d rfl (by refine fin9 ?_ ?_ ?_ ?_ ?_ ?_ ?_ ?_ ?_ <;> first | exact fun _ => rfl | exact fun z => absurd rfl z)
theorem putF7 (d : Od o) (w : List W) : putD (kvR o R) (.inr (wd 14)) (.tup (rowD w)) = kvR o { R with move := w } := put_kv (p := 7) d rfl (by refine fin9 ?_ ?_ ?_ ?_ ?_ ?_ ?_ ?_ ?_ <;> first | exact fun _ => rfl | exact fun z => absurd rfl z)
theorem putF8 (d : Od o) (w : List W) : putD (kvR o R) (.inr (wd 15)) (.tup (rowD w)) = kvR o { R with lift := w } := put_kv (p := 8) d rfl (by refine fin9 ?_ ?_ ?_ ?_ ?_ ?_ ?_ ?_ ?_ <;> first | exact fun _ => rfl | exact fun z => absurd rfl z)
end
theorem mem3 {d : D} {a b c : D} (m : d ∈ [a, b, c]) : d = a ∨ d = b ∨ d = c := by simpa using m
section
variable {E : EP} {Q : D → LH → Prop} {h : LH}
/-- what is drawn -/
theorem any_w {p : Nat} (P : Pot h p) (q : ∀ n h1 R, h.length ≤ n → RF o0 h1 n R → Ok R → R.holds.Sublist [12, 13, 14, 15] → Pot h1 p → Ext [p] h h1 → Q (.ref n) h1) : WP (f__law_any [.ref p] h) Q E := by
  have pl := P.lt
  unfold f__law_any b__law_any
  walk_at "into"
  walk_at "go"
  intro f h1 l1 x1 a1
  have fl := lt_of_at a1
  have P1 := P.ext x1 (by simp)
  have e1 := x1.1
  walk_at "go"
  intro l2 h2 k2 x2 a2
  have P2 := P1.ext x2 (by simp)
  have e2 := x2.1
  walk_at "go"
  refine pick_w P2 a2 (by omega) (by simp) ?_
  intro d h3 md P3 x3
  obtain ⟨wf, mf, rfl⟩ : ∃ w : W, w ∈ ([9, 10, 11] : List W) ∧ d = .str (wd w) := by
    rcases mem3 md with rfl | rfl | rfl
    · exact ⟨9, by simp, rfl⟩
    · exact ⟨10, by simp, rfl⟩
    · exact ⟨11, by simp, rfl⟩
  walk_at "go"
  refine draw_w P3 (by omega) ?_
  intro ks h4 lks P4 x4
  walk_at "go"
  have y4 : Ext [p] h1 h4 := (x2.w0).trans (x3.trans x4)
  refine ⟨y4.get1 a1 (by omega), ?_⟩
  intro h5 x5 a5 m5
  simp only [List.length_cons, List.length_nil] at m5
  have z5 : Ext [p] h h5 := ((x1.w0).trans y4).new x5 l1
  have P5 := P4.ext x5 (by simp; omega)
  have e5 := z5.1
  walk_at "go"
  refine draw_w P5 (by omega) ?_
  intro kb h6 lkb P6 x6
  have a6 := x6.get1 a5 (by omega)
  have z6 := z5.trans x6
  have e6 := z6.1
  walk_at "go"
  intro l7 h7 k7 x7 a7
  have P7 := P6.ext x7 (by simp)
  have a67 := x7.get0 a6
  walk_at "go"
  refine pick_w P7 a7 (by have := lt_of_at a6; have := P6.lt; omega) (by simp) ?_
  intro d h8 md P8 x8
  obtain ⟨nb, hb, rfl⟩ : ∃ n : Nat, (1 ≤ n ∧ n ≤ 50) ∧ d = .int (n : Int) := by
    simp only [List.mem_cons, List.not_mem_nil, or_false] at md
    rcases md with rfl | rfl | rfl | rfl | rfl
    · exact ⟨1, by omega, rfl⟩
    · exact ⟨1, by omega, rfl⟩
    · exact ⟨2, by omega, rfl⟩
    · exact ⟨1 + kb, by omega, by simp⟩
    · exact ⟨50, by omega, rfl⟩
  have a8 := x8.get1 a67 (by omega)
  have z8 := (z6.then0 x7).trans x8
  walk_at "go"
  intro h9 x9 a9 m9
  have P9 := P8.ext x9 (by simp; omega)
  have z9 := z8.new x9 (by omega)
  walk_at "go"
  refine draw_w P9 (by omega) ?_
  intro kt h10 lkt P10 x10
  have a10 := x10.get1 a9 (by omega)
  have z10 := z9.trans x10
  walk_at "go"
  intro h11 x11 a11 m11
  have P11 := P10.ext x11 (by simp; omega)
  have z11 := z10.new x11 (by omega)
  have e11 := z11.1
  clear a1 a2 a5 a6 a7 a67 a8 a9 a10 P1 P2 P3 P4 P5 P6 P7 P8 P9 P10 z5 z6 z8 z9 z10 x1 x2 x3 x4 x5 x6 x7 x8 x9 x10 x11 y4
  walk_at "go"
  intro l12 h12 k12 x12 a12
  have P12 := P11.ext x12 (by simp)
  have a112 := x12.get0 a11
  have pk := P11.lt
  have fk := lt_of_at a11
  walk_at "go"
  refine wp_comp (fun i => (D.str (wd (([12, 13, 14, 15] : List W).getD i 0)))) 4 (fun i acc h' => ∃ hs : List W, acc = rowD hs ∧ hs.length ≤ i ∧ hs.Sublist (([12, 13, 14, 15] : List W).take i) ∧ Pot h' p ∧ Ext [p] h12 h') (by omega) ⟨[], rfl, Nat.le_refl _, List.Sublist.refl _, P12, Ext.rfl'⟩ ?_ ?_
  · rintro acc h13 ⟨hs, rfl, hl, sb, P13, x13⟩
    have a13 := x13.get1 a12 (by omega)
    refine ⟨src_lst a13, ?_⟩
    intro n14 h14 l14 x14 a14
    have P14 := P13.ext x14 (by simp)
    have z14 : Ext [p] h h14 := ((z11.then0 x12).trans x13).then0 x14
    have f14 := x14.get0 (x13.get1 a112 (by omega))
    have hok := sub_ok hs (by simpa using sb)
    walk_at "go"
    intro h15 x15 a15 m15
    have P15 := P14.ext x15 (by simp; omega)
    have z15 := z14.new x15 (by omega)
    have b15 : valD (putD (putD (putD (mergeD [] [(.inr (wd 18), D.str (wd wf)), (.inr (wd 19), .bl (decide ((ks : Int) = 0)))]) (.inr "batch") (.int (nb : Int))) (.inr "settles") (.bl (decide ((kt : Int) = 0)))) (.inr "holds") (.tup (rowD hs))) (.inr "batch") = some (.int (nb : Int)) := by
      rw [valD_put, if_neg (by decide), valD_put, if_neg (by decide), valD_put, if_pos rfl]
    walk_at "go"
    refine takes_w ?_
    intro n16 h16 l16 x16 a16
    have P16 := P15.ext x16 (by simp)
    have a156 := x16.get0 a15
    have fk15 := lt_of_at a15
    have pk15 := P15.lt
    walk_at "go"
    refine pick_w P16 a16 (by omega) (by rw [rowsD_len]; exact takes_len _) ?_
    intro d h17 md P17 x17
    obtain ⟨ct, mt, rfl⟩ := List.mem_map.1 md
    have okt := takes_ok _ ct mt
    have a17 := x17.get1 a156 (by omega)
    have z17 := (z15.then0 x16).trans x17
    walk_at "go"
    intro h18 x18 a18 m18
    have P18 := P17.ext x18 (by simp; omega)
    have z18 := z17.new x18 (by omega)
    clear a15 a156 a16 a17 P15 P16 P17 z15 z17 x15 x16 x17 x18 a13 a14 f14 P13 P14 x13 x14
    walk_at "go"
    refine gives_w ?_
    intro n19 h19 l19 x19 a19
    have P19 := P18.ext x19 (by simp)
    have a189 := x19.get0 a18
    have fk18 := lt_of_at a18
    have pk18 := P18.lt
    walk_at "go"
    refine pick_w P19 a19 (by omega) (by rw [rowsD_len]; exact gives_len) ?_
    intro d h20 md P20 x20
    obtain ⟨cg, mg, rfl⟩ := List.mem_map.1 md
    have okg := gives_ok cg mg
    have a20 := x20.get1 a189 (by omega)
    have z20 := (z18.then0 x19).trans x20
    walk_at "go"
    intro h21 x21 a21 m21
    have P21 := P20.ext x21 (by simp; omega)
    have z21 := z20.new x21 (by omega)
    have b21 : valD (putD (putD (putD (putD (putD (mergeD [] [(.inr (wd 18), D.str (wd wf)), (.inr (wd 19), .bl (decide ((ks : Int) = 0)))]) (.inr "batch") (.int (nb : Int))) (.inr "settles") (.bl (decide ((kt : Int) = 0)))) (.inr "holds") (.tup (rowD hs))) (.inr (wd 12)) (.tup (rowD ct))) (.inr (wd 13)) (.tup (rowD cg))) (.inr (wd 19)) = some (.bl (decide ((ks : Int) = 0))) := by
      rw [valD_put, if_neg (by decide), valD_put, if_neg (by decide), valD_put, if_neg (by decide), valD_put, if_neg (by decide), valD_put, if_neg (by decide)]; rfl
    walk_at "go"
    refine moves_w ?_
    intro n22 h22 l22 x22 a22
    have P22 := P21.ext x22 (by simp)
    have a212 := x22.get0 a21
    have fk21 := lt_of_at a21
    have pk21 := P21.lt
    walk_at "go"
    refine pick_w P22 a22 (by omega) (by rw [rowsD_len]; exact moves_len _) ?_
    intro d h23 md P23 x23
    obtain ⟨cm, mm, rfl⟩ := List.mem_map.1 md
    have okm := moves_ok _ cm mm
    have a23 := x23.get1 a212 (by omega)
    have z23 := (z21.then0 x22).trans x23
    walk_at "go"
    intro h24 x24 a24 m24
    have P24 := P23.ext x24 (by simp; omega)
    have z24 := z23.new x24 (by omega)
    walk_at "go"
    refine lifts_w ?_
    intro n25 h25 l25 x25 a25
    have P25 := P24.ext x25 (by simp)
    have a245 := x25.get0 a24
    have fk24 := lt_of_at a24
    have pk24 := P24.lt
    walk_at "go"
    refine pick_w P25 a25 (by omega) (by rw [rowsD_len]; decide) ?_
    intro d h26 md P26 x26
    obtain ⟨cl, ml, rfl⟩ := List.mem_map.1 md
    have okl := lifts_ok cl ml
    have a26 := x26.get1 a245 (by omega)
    have z26 := (z24.then0 x25).trans x26
    walk_at "go"
    intro h27 x27 a27 m27
    have P27 := P26.ext x27 (by simp; omega)
    have z27 := z26.new x27 (by omega)
    walk_at "go"
    refine q f h27 ⟨wf, decide ((ks : Int) = 0), nb, decide ((kt : Int) = 0), hs, ct, cg, cm, cl⟩ (by omega) (by unfold RF; rw [a27]; rfl) ?_ (by simpa using sb) P27 z27
    · exact ⟨mf, hb, hok, okt.1, fun (z : 1 < nb) => okt.2 (decide_eq_true (by omega)), okg, okm.1, okm.2, okl⟩
  · rintro i acc h13 li ⟨hs, rfl, hl, sb, P13, x13⟩
    have a13 := x13.get1 a12 (by omega)
    refine ⟨?_, _, rfl, ?_⟩
    · rw [src_lst a13]
      match i, li with
      | 0, _ => rfl
      | 1, _ => rfl
      | 2, _ => rfl
      | 3, _ => rfl
    · walk_at "go"
      refine draw_w P13 (by omega) ?_
      intro kh h14 lkh P14 x14
      have tk : ([12, 13, 14, 15] : List W).take (i + 1) = ([12, 13, 14, 15] : List W).take i ++ [([12, 13, 14, 15] : List W).getD i 0] := by
        match i, li with
        | 0, _ => rfl
        | 1, _ => rfl
        | 2, _ => rfl
        | 3, _ => rfl
      walk_at "go"
      refine br_d (fun c => ?_) (fun c => ?_)
      · walk_at "go"
        refine need (by rw [row_len]; exact lt_line (by omega)) ?_
        exact ⟨hs ++ [([12, 13, 14, 15] : List W).getD i 0], by rw [row_app]; rfl, by simp; omega, by rw [tk]; exact sb.append_right _, P14, x13.trans x14⟩
      · exact ⟨hs, rfl, by omega, by rw [tk]; exact sb.trans (List.sublist_append_left _ _), P14, x13.trans x14⟩
end
end
end Lw

set_option Elab.async false
set_option linter.all false
set_option maxRecDepth 100000
set_option maxHeartbeats 4000000
namespace Lw
open Py Ev PySem
section
local macro_rules | `(tactic| walk_at "rf") => `(tactic| with_unfolding_all exact rfl)
local macro_rules | `(tactic| walk_at "nin") => `(tactic| first | exact List.not_mem_nil | (simp only [List.mem_cons, List.not_mem_nil, or_false, not_or]; omega))
local macro_rules | `(tactic| walk_at "lk") => `(tactic| first | assumption | (refine Ext.get (by assumption) ?_ ?_; (walk_at "lk"); (walk_at "nin")))
local macro_rules | `(tactic| walk_at "sq") => `(tactic| first | exact seq_tup | exact seq_scr | exact SeqOf.seq (by assumption) | exact seq_lst (by walk_at "lk"))
local macro_rules | `(tactic| walk_at "sz") => `(tactic| first | omega | (simp only [List.length_cons, List.length_nil, List.length_append, List.length_map, List.length_replicate, iD_len, sizeLine]; omega))
local macro_rules | `(tactic| walk_at "ls") => `(tactic| (simp only [List.set_cons_succ, List.set_cons_zero, List.map_cons, List.map_nil, List.replicate_succ, List.replicate_zero, List.cons_append, List.nil_append, wipeL]; rfl))
local macro_rules | `(tactic| walk_at "call") => `(tactic| fail)
local macro_rules | `(tactic| walk_at "run") => `(tactic| with_reducible first
  | (apply wp_eV; (· walk_at "rf"))
  | refine wp_eC ?_
  | refine wp_e2 ?_
  | refine wp_e1 ?_
  | refine wp_aCons ?_
  | refine wp_aNil ?_
  | refine wp_eA ?_
  | refine wf_seq ?_
  | refine wf_Asg ?_
  | (apply wf_gN; (· walk_at "ls"))
  | refine wf_E ?_
  | refine wf_Ret ?_
  | refine wf_If ?_
  | refine wf_nil ?_
  | refine wp_eCall ?_
  | (apply wp_opF0; (· with_unfolding_all exact ⟨rfl, rfl⟩))
  | refine wp_eMeth ?_
  | (apply insat; (· walk_at "lk"))
  | refine wp_add ?_
  | refine wp_sub ?_
  | refine wp_lt ?_
  | refine wp_le ?_
  | refine wp_gt ?_
  | refine wp_ge ?_
  | (apply br_kt; (· with_unfolding_all rfl))
  | (apply br_kf; (· with_unfolding_all rfl))
  | refine wp_eqW ?_
  | refine wp_neW ?_
  | refine wp_eqB ?_
  | refine wp_neB ?_
  | (apply wp_lastW; (· assumption))
  | (apply wp_headW; (· assumption))
  | refine wp_inW ?_
  | refine wp_ninW ?_
  | refine wp_eqRow0 ?_
  | refine wp_neRow0 ?_
  | refine wp_eDisp ?_
  | refine pairs_cons ?_
  | refine pairs_nil ?_
  | refine keyat_s ?_
  | refine wf_sDputK ?_
  | (apply dputk_s; (· walk_at "lk"); (· exact lt_line (by omega)))
  | refine wp_eGet1 ?_
  | refine wp_eGet2 ?_
  | refine wp_ePop ?_
  | (apply dctat; (· walk_at "lk"))
  | (apply wp_dg; (· walk_at "lk"); (· assumption))
  | (apply wp_bDict; (· walk_at "lk"))
  | refine wp_eTM ?_
  | refine tupat ?_
  | (apply wp_tupIx; (· assumption))
  | refine wp_eCallV ?_
  | refine fnat ?_
  | refine wp_eqI ?_
  | refine wp_neI ?_
  | refine wp_eqS ?_
  | refine wp_neS ?_
  | (apply wp_mod; (· omega))
  | (apply wp_div; (· omega))
  | (apply wp_mul; (· omega))
  | (apply wp_powN; (· (simp only [Int.reduceToNat]; rfl)); (· omega); (· omega))
  | refine wp_neg ?_
  | refine wp_isN ?_
  | refine wp_isNI ?_
  | refine wp_bMax ?_
  | refine wp_bMin ?_
  | refine wp_bAbs ?_
  | refine wp_bInt ?_
  | (apply wp_bDivmod; (· omega))
  | refine tr_bl ?_
  | refine isb ?_
  | (apply br_t; (· rfl))
  | (apply br_f; (· rfl))
  | refine br_nt ?_
  | (apply br_dt; (· omega))
  | (apply br_df; (· omega))
  | refine wp_eNot ?_
  | refine wp_eB ?_
  | refine wp_eOr ?_
  | refine wp_eAnd ?_
  | refine wp_eAndB ?_
  | refine wp_eOrB ?_
  | refine wp_eNotB ?_
  | refine wp_eIf ?_
  | refine wp_chain ?_
  | refine wp_eFld ?_
  | (apply fdat; (· walk_at "lk"); (· walk_at "rf"))
  | refine wp_eTup ?_
  | refine wp_eLst ?_
  | refine wp_listR ?_
  | (apply wp_addT; (· walk_at "sz"))
  | (apply need; (· walk_at "sz"))
  | refine intat ?_
  | refine strat ?_
  | refine nonat ?_
  | (apply wp_len; (· walk_at "sq"))
  | (apply wp_ix; (· walk_at "sq"); (· walk_at "rf"))
  | (apply wp_bTuple; (· walk_at "sq"))
  | (apply wp_bList; (· walk_at "sq"))
  | refine wp_eBM ?_
  | (apply lstat; (· walk_at "lk"))
  | (apply wp_append; (· walk_at "lk"); (· walk_at "sz"))
  | (apply wp_clear; (· walk_at "lk"))
  | refine wp_eSl ?_
  | refine wp_pSome ?_
  | refine pis ?_
  | refine wp_pNo ?_
  | refine slat_tup ?_
  | (apply slat_lst; (· walk_at "lk"))
  | (apply wf_gT; (· walk_at "rf"))
  | refine wf_gsCons ?_
  | refine wf_gsNil ?_
  | refine wf_gSub ?_
  | (apply subat; (· walk_at "lk"); (· walk_at "rf"))
  | refine wf_sFld ?_
  | (apply fldat; (· walk_at "lk"); (· walk_at "sz"); (· walk_at "rf"))
  | refine wf_sPar ?_
  | (apply parat; (· walk_at "ls"))
  | refine wf_sPar3 ?_
  | (apply parat3; (· walk_at "ls"))
  | refine wp_eRev ?_
  | (apply rvat; (· walk_at "lk"))
  | refine wp_isBB ?_
  | refine wf_sFor ?_
  | refine wp_iSeq ?_
  | refine wp_iZip ?_
  | (apply zipat; (· walk_at "lk"); (· walk_at "lk"))
  | refine wp_aStar ?_
  | (apply sqat; (· walk_at "sq"))
  | refine wp_eJoinL ?_
  | refine wp_rB ?_
  | refine wp_iEnum ?_
  | refine wp_iRng1 ?_
  | refine wp_iRng2 ?_
  | refine srcat_tup ?_
  | refine srcat_scr ?_
  | (apply srcat_lst; (· walk_at "lk"))
  | refine wp_eIsi ?_
  | refine kd_int ?_
  | refine kd_bl ?_
  | refine kd_str ?_
  | refine kd_non ?_
  | refine kd_tup ?_
  | (apply kd_lst; (· walk_at "lk"))
  | (apply wp_eComp; (· walk_at "ls"))
  | (apply wp_lenO; (· walk_at "lk"))
  | (apply wp_reprO; (· walk_at "lk"))
  | refine wp_eFmt ?_
  | refine wp_eJoin ?_
  | refine jgo_cons ?_
  | refine jgo_nil ?_
  | walk_at "call")
local macro_rules | `(tactic| walk_at "go") => `(tactic| repeat (with_reducible first
  | (apply wp_eV; (· walk_at "rf"))
  | refine wp_eC ?_
  | refine wp_e2 ?_
  | refine wp_e1 ?_
  | refine wp_aCons ?_
  | refine wp_aNil ?_
  | refine wp_eA ?_
  | refine wf_seq ?_
  | refine wf_Asg ?_
  | (apply wf_gN; (· walk_at "ls"))
  | refine wf_E ?_
  | refine wf_Ret ?_
  | refine wf_If ?_
  | refine wf_nil ?_
  | refine wp_eCall ?_
  | (apply wp_opF0; (· with_unfolding_all exact ⟨rfl, rfl⟩))
  | refine wp_eMeth ?_
  | (apply insat; (· walk_at "lk"))
  | refine wp_add ?_
  | refine wp_sub ?_
  | refine wp_lt ?_
  | refine wp_le ?_
  | refine wp_gt ?_
  | refine wp_ge ?_
  | (apply br_kt; (· with_unfolding_all rfl))
  | (apply br_kf; (· with_unfolding_all rfl))
  | refine wp_eqW ?_
  | refine wp_neW ?_
  | refine wp_eqB ?_
  | refine wp_neB ?_
  | (apply wp_lastW; (· assumption))
  | (apply wp_headW; (· assumption))
  | refine wp_inW ?_
  | refine wp_ninW ?_
  | refine wp_eqRow0 ?_
  | refine wp_neRow0 ?_
  | refine wp_eDisp ?_
  | refine pairs_cons ?_
  | refine pairs_nil ?_
  | refine keyat_s ?_
  | refine wf_sDputK ?_
  | (apply dputk_s; (· walk_at "lk"); (· exact lt_line (by omega)))
  | refine wp_eGet1 ?_
  | refine wp_eGet2 ?_
  | refine wp_ePop ?_
  | (apply dctat; (· walk_at "lk"))
  | (apply wp_dg; (· walk_at "lk"); (· assumption))
  | (apply wp_bDict; (· walk_at "lk"))
  | refine wp_eTM ?_
  | refine tupat ?_
  | (apply wp_tupIx; (· assumption))
  | refine wp_eCallV ?_
  | refine fnat ?_
  | refine wp_eqI ?_
  | refine wp_neI ?_
  | refine wp_eqS ?_
  | refine wp_neS ?_
  | (apply wp_mod; (· omega))
  | (apply wp_div; (· omega))
  | (apply wp_mul; (· omega))
  | (apply wp_powN; (· (simp only [Int.reduceToNat]; rfl)); (· omega); (· omega))
  | refine wp_neg ?_
  | refine wp_isN ?_
  | refine wp_isNI ?_
  | refine wp_bMax ?_
  | refine wp_bMin ?_
  | refine wp_bAbs ?_
  | refine wp_bInt ?_
  | (apply wp_bDivmod; (· omega))
  | refine tr_bl ?_
  | refine isb ?_
  | (apply br_t; (· rfl))
  | (apply br_f; (· rfl))
  | refine br_nt ?_
  | (apply br_dt; (· omega))
  | (apply br_df; (· omega))
  | refine wp_eNot ?_
  | refine wp_eB ?_
  | refine wp_eOr ?_
  | refine wp_eAnd ?_
  | refine wp_eAndB ?_
  | refine wp_eOrB ?_
  | refine wp_eNotB ?_
  | refine wp_eIf ?_
  | refine wp_chain ?_
  | refine wp_eFld ?_
  | (apply fdat; (· walk_at "lk"); (· walk_at "rf"))
  | refine wp_eTup ?_
  | refine wp_eLst ?_
  | refine wp_listR ?_
  | (apply wp_addT; (· walk_at "sz"))
  | (apply need; (· walk_at "sz"))
  | refine intat ?_
  | refine strat ?_
  | refine nonat ?_
  | (apply wp_len; (· walk_at "sq"))
  | (apply wp_ix; (· walk_at "sq"); (· walk_at "rf"))
  | (apply wp_bTuple; (· walk_at "sq"))
  | (apply wp_bList; (· walk_at "sq"))
  | refine wp_eBM ?_
  | (apply lstat; (· walk_at "lk"))
  | (apply wp_append; (· walk_at "lk"); (· walk_at "sz"))
  | (apply wp_clear; (· walk_at "lk"))
  | refine wp_eSl ?_
  | refine wp_pSome ?_
  | refine pis ?_
  | refine wp_pNo ?_
  | refine slat_tup ?_
  | (apply slat_lst; (· walk_at "lk"))
  | (apply wf_gT; (· walk_at "rf"))
  | refine wf_gsCons ?_
  | refine wf_gsNil ?_
  | refine wf_gSub ?_
  | (apply subat; (· walk_at "lk"); (· walk_at "rf"))
  | refine wf_sFld ?_
  | (apply fldat; (· walk_at "lk"); (· walk_at "sz"); (· walk_at "rf"))
  | refine wf_sPar ?_
  | (apply parat; (· walk_at "ls"))
  | refine wf_sPar3 ?_
  | (apply parat3; (· walk_at "ls"))
  | refine wp_eRev ?_
  | (apply rvat; (· walk_at "lk"))
  | refine wp_isBB ?_
  | refine wf_sFor ?_
  | refine wp_iSeq ?_
  | refine wp_iZip ?_
  | (apply zipat; (· walk_at "lk"); (· walk_at "lk"))
  | refine wp_aStar ?_
  | (apply sqat; (· walk_at "sq"))
  | refine wp_eJoinL ?_
  | refine wp_rB ?_
  | refine wp_iEnum ?_
  | refine wp_iRng1 ?_
  | refine wp_iRng2 ?_
  | refine srcat_tup ?_
  | refine srcat_scr ?_
  | (apply srcat_lst; (· walk_at "lk"))
  | refine wp_eIsi ?_
  | refine kd_int ?_
  | refine kd_bl ?_
  | refine kd_str ?_
  | refine kd_non ?_
  | refine kd_tup ?_
  | (apply kd_lst; (· walk_at "lk"))
  | (apply wp_eComp; (· walk_at "ls"))
  | (apply wp_lenO; (· walk_at "lk"))
  | (apply wp_reprO; (· walk_at "lk"))
  | refine wp_eFmt ?_
  | refine wp_eJoin ?_
  | refine jgo_cons ?_
  | refine jgo_nil ?_
  | refine wf_Raise1 ?_
  | refine wf_Raise0 ?_
  | refine wf_Try ?_
  | (apply wp_eXf; (· walk_at "rf"))
  | walk_at "call"))
/-- into a def -/
local macro_rules | `(tactic| walk_at "into") => `(tactic| (refine wp_runF (by walk_at "rf") (by walk_at "ls") ?_))
/-- on, through all branches -/
local macro_rules | `(tactic| walk_at "br") => `(tactic| repeat' (first | walk_at "run" | (with_reducible apply br_dt; (· assumption)) | (with_reducible apply br_df; (· assumption)) | (with_reducible apply br_t; (· assumption)) | (with_reducible apply br_f; (· assumption)) | (with_reducible refine br_d (fun _ => ?_) (fun _ => ?_)) | (with_reducible refine br_s (fun _ => ?_) (fun _ => ?_)) | (intro d ed)))
/-! ### the program's rows and books -/
theorem cut_takeR {cs : List W} {i : Nat} (l : i ≤ cs.length) : cutD (rowD cs) none (some (0 + (i : Nat) : Int)) = rowD (cs.take i) := by
  unfold cutD
  rw [HT.sIx_none, Int.zero_add, HT.sIx_nat, row_len]
  simp [Nat.min_eq_left l, row_take]
theorem enum_row {cs : List W} : enumD 0 (rowD cs) = (cs.zipIdx).map fun p => .tup [.int (0 + (p.2 : Nat)), .str (wd p.1)] := by
  unfold enumD rowD
  rw [List.zipIdx_map, List.map_map]; rfl
theorem nodup_take {cs : List W} (d : cs.Nodup) {i : Nat} {c : W} (e : cs[i]? = some c) : c ∉ cs.take i := by
  intro m
  obtain ⟨j, l, e'⟩ := List.mem_iff_getElem.1 m
  rw [List.length_take] at l
  rw [List.getElem_take] at e'
  have l2 : j < cs.length := by omega
  obtain ⟨l3, e3⟩ := List.getElem?_eq_some_iff.1 e
  have := (List.nodup_iff_pairwise_ne.1 d)
  rw [List.pairwise_iff_getElem] at this
  exact this j i l2 l3 (by omega) (by rw [e', e3])
theorem nodup_lenW (cs : List W) (d : cs.Nodup) : cs.length ≤ 20 := by
  have d2 : (cs.map fun c => c.val).Nodup := by
    rw [List.nodup_iff_pairwise_ne, List.pairwise_map]
    exact (List.nodup_iff_pairwise_ne.1 d).imp fun ne z => ne (Fin.ext z)
  have := nodup_len (n := 20) d2 (fun s m => by
    obtain ⟨a, _, rfl⟩ := List.mem_map.1 m
    exact a.isLt)
  simpa using this
section
variable {E : EP} {Q : D → LH → Prop} {h : LH}
theorem are_words_w {cs kn : List W} (o : rowOk kn cs = true) (q : ∀ h1, Ext [] h h1 → Q (.bl true) h1) : WP (f_are_words [.tup (rowD cs), .tup (rowD kn)] h) Q E := by
  unfold rowOk at o
  rw [Bool.and_eq_true, decide_eq_true_eq, decide_eq_true_eq] at o
  obtain ⟨hk, hd⟩ := o
  have hl := nodup_lenW cs hd
  unfold f_are_words b_are_words
  walk_at "into"
  walk_at "go"
  refine wp_mapF (fun c => .str (wd c)) cs (fun _ => .bl true) gives_its (by omega) ?_ ?_
  · intro c mc h1 x1
    refine ⟨_, rfl, ?_⟩
    walk_at "go"
    rw [decide_eq_true (hk c mc)]
    exact ⟨rfl, Ext.rfl'⟩
  intro n1 h1 l1 x1 a1
  walk_at "go"
  refine wp_allT a1 ?_
  walk_at "go"
  refine wp_mapF (fun p : W × Nat => .tup [.int (0 + (p.2 : Nat)), .str (wd p.1)]) cs.zipIdx (fun _ => .bl true) (by rw [← enum_row]; exact gives_enm gives_its) (by simp; omega) ?_ ?_
  · rintro ⟨c, i⟩ mc h2 x2
    rw [List.mem_zipIdx_iff_getElem?] at mc
    have il : i < cs.length := (List.getElem?_eq_some_iff.1 mc).1
    refine ⟨_, rfl, ?_⟩
    walk_at "go"
    rw [cut_takeR (by omega)]
    walk_at "go"
    rw [decide_eq_false (nodup_take hd mc)]
    exact ⟨rfl, Ext.rfl'⟩
  intro n2 h2 l2 x2 a2
  walk_at "go"
  refine wp_allT a2 ?_
  exact q h2 (x1.trans x2)
theorem tests_w {cs : List W} {w : W} (q : ∀ h1, Ext [] h h1 → Q (.bl (tests cs w)) h1) : WP (f_are_tests_ahead [.tup (rowD cs), .str (wd w)] h) Q E := by
  unfold f_are_tests_ahead b_are_tests_ahead
  walk_at "into"
  walk_at "go"
  refine br_d (fun c => ?_) (fun c => ?_)
  · walk_at "go"
    refine wp_compF (fun c => .str (wd c)) [0, 2] (fun t => decide (t ∈ cs)) (fun t => .bl (decide (cs.idxOf t < cs.idxOf w))) gives_its (by simp) ?_ ?_
    · intro t mt h1 x1
      refine ⟨_, rfl, ?_⟩
      walk_at "go"
      refine ⟨rfl, Ext.rfl', fun m => ?_⟩
      have m := of_decide_eq_true m
      walk_at "go"
      refine ⟨?_, Ext.rfl'⟩
      congr 1
      rw [Bool.eq_iff_iff, decide_eq_true_eq, decide_eq_true_eq]; omega
    intro n1 h1 l1 x1 a1
    walk_at "go"
    refine wp_bAll (bs := ([0, 2].filter fun t => decide (t ∈ cs)).map fun t => decide (cs.idxOf t < cs.idxOf w)) (by rw [a1, List.map_map]; rfl) ?_
    refine qb (q h1 x1) ?_
    unfold tests
    by_cases m0 : (0 : W) ∈ cs <;> by_cases m2 : (2 : W) ∈ cs <;> simp [m0, m2, c]
  · exact qb (q h Ext.rfl') (by simp [tests, c])
theorem behind_w {cs : List W} {w o : W} (q : Q (.bl (behB cs w o)) h) : WP (f_is_behind [.tup (rowD cs), .str (wd w), .str (wd o)] h) Q E := by
  unfold f_is_behind b_is_behind
  walk_at "into"
  walk_at "br"
  all_goals exact qb q (by simp_all [behB])
theorem ptake_w {cs : List W} (o : takeP cs = true) (q : ∀ h1, Ext [] h h1 → Q (.bl true) h1) : WP (f_is_take [.tup (rowD cs)] h) Q E := by
  unfold takeP at o
  rw [Bool.and_eq_true, Bool.and_eq_true, Bool.and_eq_true] at o
  obtain ⟨o1, o2, o3, o4⟩ := o
  unfold f_is_take b_is_take
  walk_at "into"
  walk_at "go"
  refine are_words_w o1 ?_
  intro h1 x1
  walk_at "go"
  refine br_dt (of_decide_eq_true o2) ?_
  walk_at "go"
  refine tests_w ?_
  intro h2 x2
  rw [o3]
  walk_at "br"
  all_goals exact qb (q h2 (x1.trans x2)) (by simp_all)
theorem pgive_w {cs : List W} (o : giveP cs = true) (q : ∀ h1, Ext [] h h1 → Q (.bl true) h1) : WP (f_is_give [.tup (rowD cs)] h) Q E := by
  unfold giveP at o
  rw [Bool.and_eq_true, Bool.and_eq_true] at o
  obtain ⟨o1, o2, o3⟩ := o
  unfold f_is_give b_is_give
  walk_at "into"
  walk_at "go"
  refine are_words_w o1 ?_
  intro h1 x1
  walk_at "go"
  refine br_dt (of_decide_eq_true o2) ?_
  walk_at "go"
  refine behind_w ?_
  rw [o3]
  exact q h1 x1
theorem pmove_w {cs : List W} (o : moveP cs = true) (q : ∀ h1, Ext [] h h1 → Q (.bl true) h1) : WP (f_is_move [.tup (rowD cs)] h) Q E := by
  unfold moveP at o
  rw [Bool.and_eq_true] at o
  obtain ⟨o1, o⟩ := o
  unfold f_is_move b_is_move
  walk_at "into"
  walk_at "go"
  refine are_words_w o1 ?_
  intro h1 x1
  walk_at "go"
  rw [row_len]
  refine br_d (fun c => ?_) (fun c => ?_)
  · walk_at "go"; exact q h1 x1
  · have ne : ¬ cs = [] := fun z => c (by rw [z]; rfl)
    rw [decide_eq_false ne, Bool.false_or, Bool.and_eq_true, Bool.and_eq_true, Bool.and_eq_true, Bool.and_eq_true] at o
    obtain ⟨m7, m2, p1, p2, p3⟩ := o
    walk_at "go"
    refine br_dt (of_decide_eq_true m7) ?_
    have m2' : (2 : W) ∈ cs → ¬ (0 : W) ∈ cs ∧ ¬ (1 : W) ∈ cs := by
      intro z; simpa [z] using m2
    walk_at "go"
    refine br_d (fun c2 => ?_) (fun c2 => ?_)
    · obtain ⟨n0, n1⟩ := m2' c2
      walk_at "br"
      refine behind_w ?_
      rw [p1]
      walk_at "go"
      refine tests_w ?_
      intro h2 x2
      rw [p2]
      walk_at "go"
      refine tests_w ?_
      intro h3 x3
      rw [p3]
      exact q h3 ((x1.trans x2).trans x3)
    · walk_at "br"
      refine behind_w ?_
      rw [p1]
      walk_at "go"
      refine tests_w ?_
      intro h2 x2
      rw [p2]
      walk_at "go"
      refine tests_w ?_
      intro h3 x3
      rw [p3]
      exact q h3 ((x1.trans x2).trans x3)
end
end
end Lw

set_option Elab.async false
set_option linter.all false
set_option maxRecDepth 100000
set_option maxHeartbeats 4000000
namespace Lw
open Py Ev PySem
section
local macro_rules | `(tactic| walk_at "rf") => `(tactic| with_unfolding_all exact rfl)
local macro_rules | `(tactic| walk_at "nin") => `(tactic| first | exact List.not_mem_nil | (simp only [List.mem_cons, List.not_mem_nil, or_false, not_or]; omega))
local macro_rules | `(tactic| walk_at "lk") => `(tactic| first | assumption | (refine Ext.get (by assumption) ?_ ?_; (walk_at "lk"); (walk_at "nin")))
local macro_rules | `(tactic| walk_at "sq") => `(tactic| first | exact seq_tup | exact seq_scr | exact SeqOf.seq (by assumption) | exact seq_lst (by walk_at "lk"))
local macro_rules | `(tactic| walk_at "sz") => `(tactic| first | omega | (simp only [List.length_cons, List.length_nil, List.length_append, List.length_map, List.length_replicate, iD_len, sizeLine]; omega))
local macro_rules | `(tactic| walk_at "ls") => `(tactic| (simp only [List.set_cons_succ, List.set_cons_zero, List.map_cons, List.map_nil, List.replicate_succ, List.replicate_zero, List.cons_append, List.nil_append, wipeL]; rfl))
local macro_rules | `(tactic| walk_at "call") => `(tactic| fail)
local macro_rules | `(tactic| walk_at "run") => `(tactic| with_reducible first
  | (apply wp_eV; (· walk_at "rf"))
  | refine wp_eC ?_
  | refine wp_e2 ?_
  | refine wp_e1 ?_
  | refine wp_aCons ?_
  | refine wp_aNil ?_
  | refine wp_eA ?_
  | refine wf_seq ?_
  | refine wf_Asg ?_
  | (apply wf_gN; (· walk_at "ls"))
  | refine wf_E ?_
  | refine wf_Ret ?_
  | refine wf_If ?_
  | refine wf_nil ?_
  | refine wp_eCall ?_
  | (apply wp_opF0; (· with_unfolding_all exact ⟨rfl, rfl⟩))
  | refine wp_eMeth ?_
  | (apply insat; (· walk_at "lk"))
  | refine wp_add ?_
  | refine wp_sub ?_
  | refine wp_lt ?_
  | refine wp_le ?_
  | refine wp_gt ?_
  | refine wp_ge ?_
  | (apply br_kt; (· with_unfolding_all rfl))
  | (apply br_kf; (· with_unfolding_all rfl))
  | refine wp_eqW ?_
  | refine wp_neW ?_
  | refine wp_eqB ?_
  | refine wp_neB ?_
  | (apply wp_lastW; (· assumption))
  | (apply wp_headW; (· assumption))
  | refine wp_inW ?_
  | refine wp_ninW ?_
  | refine wp_eqRow0 ?_
  | refine wp_neRow0 ?_
  | refine wp_eDisp ?_
  | refine pairs_cons ?_
  | refine pairs_nil ?_
  | refine keyat_s ?_
  | refine wf_sDputK ?_
  | (apply dputk_s; (· walk_at "lk"); (· exact lt_line (by omega)))
  | refine wp_eGet1 ?_
  | refine wp_eGet2 ?_
  | refine wp_ePop ?_
  | (apply dctat; (· walk_at "lk"))
  | (apply wp_dg; (· walk_at "lk"); (· assumption))
  | (apply wp_bDict; (· walk_at "lk"))
  | refine wp_eTM ?_
  | refine tupat ?_
  | (apply wp_tupIx; (· assumption))
  | refine wp_eCallV ?_
  | refine fnat ?_
  | refine wp_eqI ?_
  | refine wp_neI ?_
  | refine wp_eqS ?_
  | refine wp_neS ?_
  | (apply wp_mod; (· omega))
  | (apply wp_div; (· omega))
  | (apply wp_mul; (· omega))
  | (apply wp_powN; (· (simp only [Int.reduceToNat]; rfl)); (· omega); (· omega))
  | refine wp_neg ?_
  | refine wp_isN ?_
  | refine wp_isNI ?_
  | refine wp_bMax ?_
  | refine wp_bMin ?_
  | refine wp_bAbs ?_
  | refine wp_bInt ?_
  | (apply wp_bDivmod; (· omega))
  | refine tr_bl ?_
  | refine isb ?_
  | (apply br_t; (· rfl))
  | (apply br_f; (· rfl))
  | refine br_nt ?_
  | (apply br_dt; (· omega))
  | (apply br_df; (· omega))
  | refine wp_eNot ?_
  | refine wp_eB ?_
  | refine wp_eOr ?_
  | refine wp_eAnd ?_
  | refine wp_eAndB ?_
  | refine wp_eOrB ?_
  | refine wp_eNotB ?_
  | refine wp_eIf ?_
  | refine wp_chain ?_
  | refine wp_eFld ?_
  | (apply fdat; (· walk_at "lk"); (· walk_at "rf"))
  | refine wp_eTup ?_
  | refine wp_eLst ?_
  | refine wp_listR ?_
  | (apply wp_addT; (· walk_at "sz"))
  | (apply need; (· walk_at "sz"))
  | refine intat ?_
  | refine strat ?_
  | refine nonat ?_
  | (apply wp_len; (· walk_at "sq"))
  | (apply wp_ix; (· walk_at "sq"); (· walk_at "rf"))
  | (apply wp_bTuple; (· walk_at "sq"))
  | (apply wp_bList; (· walk_at "sq"))
  | refine wp_eBM ?_
  | (apply lstat; (· walk_at "lk"))
  | (apply wp_append; (· walk_at "lk"); (· walk_at "sz"))
  | (apply wp_clear; (· walk_at "lk"))
  | refine wp_eSl ?_
  | refine wp_pSome ?_
  | refine pis ?_
  | refine wp_pNo ?_
  | refine slat_tup ?_
  | (apply slat_lst; (· walk_at "lk"))
  | (apply wf_gT; (· walk_at "rf"))
  | refine wf_gsCons ?_
  | refine wf_gsNil ?_
  | refine wf_gSub ?_
  | (apply subat; (· walk_at "lk"); (· walk_at "rf"))
  | refine wf_sFld ?_
  | (apply fldat; (· walk_at "lk"); (· walk_at "sz"); (· walk_at "rf"))
  | refine wf_sPar ?_
  | (apply parat; (· walk_at "ls"))
  | refine wf_sPar3 ?_
  | (apply parat3; (· walk_at "ls"))
  | refine wp_eRev ?_
  | (apply rvat; (· walk_at "lk"))
  | refine wp_isBB ?_
  | refine wf_sFor ?_
  | refine wp_iSeq ?_
  | refine wp_iZip ?_
  | (apply zipat; (· walk_at "lk"); (· walk_at "lk"))
  | refine wp_aStar ?_
  | (apply sqat; (· walk_at "sq"))
  | refine wp_eJoinL ?_
  | refine wp_rB ?_
  | refine wp_iEnum ?_
  | refine wp_iRng1 ?_
  | refine wp_iRng2 ?_
  | refine srcat_tup ?_
  | refine srcat_scr ?_
  | (apply srcat_lst; (· walk_at "lk"))
  | refine wp_eIsi ?_
  | refine kd_int ?_
  | refine kd_bl ?_
  | refine kd_str ?_
  | refine kd_non ?_
  | refine kd_tup ?_
  | (apply kd_lst; (· walk_at "lk"))
  | (apply wp_eComp; (· walk_at "ls"))
  | (apply wp_lenO; (· walk_at "lk"))
  | (apply wp_reprO; (· walk_at "lk"))
  | refine wp_eFmt ?_
  | refine wp_eJoin ?_
  | refine jgo_cons ?_
  | refine jgo_nil ?_
  | walk_at "call")
local macro_rules | `(tactic| walk_at "go") => `(tactic| repeat (with_reducible first
  | (apply wp_eV; (· walk_at "rf"))
  | refine wp_eC ?_
  | refine wp_e2 ?_
  | refine wp_e1 ?_
  | refine wp_aCons ?_
  | refine wp_aNil ?_
  | refine wp_eA ?_
  | refine wf_seq ?_
  | refine wf_Asg ?_
  | (apply wf_gN; (· walk_at "ls"))
  | refine wf_E ?_
  | refine wf_Ret ?_
  | refine wf_If ?_
  | refine wf_nil ?_
  | refine wp_eCall ?_
  | (apply wp_opF0; (· with_unfolding_all exact ⟨rfl, rfl⟩))
  | refine wp_eMeth ?_
  | (apply insat; (· walk_at "lk"))
  | refine wp_add ?_
  | refine wp_sub ?_
  | refine wp_lt ?_
  | refine wp_le ?_
  | refine wp_gt ?_
  | refine wp_ge ?_
  | (apply br_kt; (· with_unfolding_all rfl))
  | (apply br_kf; (· with_unfolding_all rfl))
  | refine wp_eqW ?_
  | refine wp_neW ?_
  | refine wp_eqB ?_
  | refine wp_neB ?_
  | (apply wp_lastW; (· assumption))
  | (apply wp_headW; (· assumption))
  | refine wp_inW ?_
  | refine wp_ninW ?_
  | refine wp_eqRow0 ?_
  | refine wp_neRow0 ?_
  | refine wp_eDisp ?_
  | refine pairs_cons ?_
  | refine pairs_nil ?_
  | refine keyat_s ?_
  | refine wf_sDputK ?_
  | (apply dputk_s; (· walk_at "lk"); (· exact lt_line (by omega)))
  | refine wp_eGet1 ?_
  | refine wp_eGet2 ?_
  | refine wp_ePop ?_
  | (apply dctat; (· walk_at "lk"))
  | (apply wp_dg; (· walk_at "lk"); (· assumption))
  | (apply wp_bDict; (· walk_at "lk"))
  | refine wp_eTM ?_
  | refine tupat ?_
  | (apply wp_tupIx; (· assumption))
  | refine wp_eCallV ?_
  | refine fnat ?_
  | refine wp_eqI ?_
  | refine wp_neI ?_
  | refine wp_eqS ?_
  | refine wp_neS ?_
  | (apply wp_mod; (· omega))
  | (apply wp_div; (· omega))
  | (apply wp_mul; (· omega))
  | (apply wp_powN; (· (simp only [Int.reduceToNat]; rfl)); (· omega); (· omega))
  | refine wp_neg ?_
  | refine wp_isN ?_
  | refine wp_isNI ?_
  | refine wp_bMax ?_
  | refine wp_bMin ?_
  | refine wp_bAbs ?_
  | refine wp_bInt ?_
  | (apply wp_bDivmod; (· omega))
  | refine tr_bl ?_
  | refine isb ?_
  | (apply br_t; (· rfl))
  | (apply br_f; (· rfl))
  | refine br_nt ?_
  | (apply br_dt; (· omega))
  | (apply br_df; (· omega))
  | refine wp_eNot ?_
  | refine wp_eB ?_
  | refine wp_eOr ?_
  | refine wp_eAnd ?_
  | refine wp_eAndB ?_
  | refine wp_eOrB ?_
  | refine wp_eNotB ?_
  | refine wp_eIf ?_
  | refine wp_chain ?_
  | refine wp_eFld ?_
  | (apply fdat; (· walk_at "lk"); (· walk_at "rf"))
  | refine wp_eTup ?_
  | refine wp_eLst ?_
  | refine wp_listR ?_
  | (apply wp_addT; (· walk_at "sz"))
  | (apply need; (· walk_at "sz"))
  | refine intat ?_
  | refine strat ?_
  | refine nonat ?_
  | (apply wp_len; (· walk_at "sq"))
  | (apply wp_ix; (· walk_at "sq"); (· walk_at "rf"))
  | (apply wp_bTuple; (· walk_at "sq"))
  | (apply wp_bList; (· walk_at "sq"))
  | refine wp_eBM ?_
  | (apply lstat; (· walk_at "lk"))
  | (apply wp_append; (· walk_at "lk"); (· walk_at "sz"))
  | (apply wp_clear; (· walk_at "lk"))
  | refine wp_eSl ?_
  | refine wp_pSome ?_
  | refine pis ?_
  | refine wp_pNo ?_
  | refine slat_tup ?_
  | (apply slat_lst; (· walk_at "lk"))
  | (apply wf_gT; (· walk_at "rf"))
  | refine wf_gsCons ?_
  | refine wf_gsNil ?_
  | refine wf_gSub ?_
  | (apply subat; (· walk_at "lk"); (· walk_at "rf"))
  | refine wf_sFld ?_
  | (apply fldat; (· walk_at "lk"); (· walk_at "sz"); (· walk_at "rf"))
  | refine wf_sPar ?_
  | (apply parat; (· walk_at "ls"))
  | refine wf_sPar3 ?_
  | (apply parat3; (· walk_at "ls"))
  | refine wp_eRev ?_
  | (apply rvat; (· walk_at "lk"))
  | refine wp_isBB ?_
  | refine wf_sFor ?_
  | refine wp_iSeq ?_
  | refine wp_iZip ?_
  | (apply zipat; (· walk_at "lk"); (· walk_at "lk"))
  | refine wp_aStar ?_
  | (apply sqat; (· walk_at "sq"))
  | refine wp_eJoinL ?_
  | refine wp_rB ?_
  | refine wp_iEnum ?_
  | refine wp_iRng1 ?_
  | refine wp_iRng2 ?_
  | refine srcat_tup ?_
  | refine srcat_scr ?_
  | (apply srcat_lst; (· walk_at "lk"))
  | refine wp_eIsi ?_
  | refine kd_int ?_
  | refine kd_bl ?_
  | refine kd_str ?_
  | refine kd_non ?_
  | refine kd_tup ?_
  | (apply kd_lst; (· walk_at "lk"))
  | (apply wp_eComp; (· walk_at "ls"))
  | (apply wp_lenO; (· walk_at "lk"))
  | (apply wp_reprO; (· walk_at "lk"))
  | refine wp_eFmt ?_
  | refine wp_eJoin ?_
  | refine jgo_cons ?_
  | refine jgo_nil ?_
  | refine wf_Raise1 ?_
  | refine wf_Raise0 ?_
  | refine wf_Try ?_
  | (apply wp_eXf; (· walk_at "rf"))
  | walk_at "call"))
/-- into a def -/
local macro_rules | `(tactic| walk_at "into") => `(tactic| (refine wp_runF (by walk_at "rf") (by walk_at "ls") ?_))
/-- on, through all branches -/
local macro_rules | `(tactic| walk_at "br") => `(tactic| repeat' (first | walk_at "run" | (with_reducible apply br_dt; (· assumption)) | (with_reducible apply br_df; (· assumption)) | (with_reducible apply br_t; (· assumption)) | (with_reducible apply br_f; (· assumption)) | (with_reducible refine br_d (fun _ => ?_) (fun _ => ?_)) | (with_reducible refine br_s (fun _ => ?_) (fun _ => ?_)) | (intro d ed)))
theorem take_live {cs : List W} (h : takeP cs = true) : (3 : W) ∈ cs := by
  unfold takeP at h
  simp only [Bool.and_eq_true, decide_eq_true_eq] at h
  exact h.2.1
theorem eqv_rowT {as bs : List W} : PyData.eqv (.tuple (rowP as)) (.tuple (rowP bs)) = decide (as = bs) := by rw [PyData.eqv, eqv_row]
def rowsP (css : List (List W)) : List PyData := css.map fun cs => .tuple (rowP cs)
theorem deep_row {h : LH} {n : Nat} {cs : List W} : deep h (n + 1) (.tup (rowD cs)) = some (.tuple (rowP cs)) := by
  show (mapO (deep h n) (rowD cs)).map _ = _
  rw [mapO_row]; rfl
theorem mapO_rows {h : LH} {n : Nat} : ∀ css : List (List W), mapO (deep h (n + 1)) (rowsD css) = some (rowsP css)
  | [] => rfl
  | cs :: css => mapO_cons (a := .tup (rowD cs)) (b := .tuple (rowP cs)) deep_row (mapO_rows css)
theorem shaped_lifts : SeqAt.shaped (.tuple (rowsP liftsN)) = true := by decide +kernel
section
variable {E : EP} {Q : D → LH → Prop} {h : LH}
theorem wp_inLifts {cs : List W} (q : Q (.bl (decide (cs ∈ liftsN))) h) : WP (oInDp false (.tup (rowD cs)) k_LIFTS h) Q E := by
  have e1 : deep h 60 (.tup (rowD cs)) = some (.tuple (rowP cs)) := deep_row
  have e2 : deep h 60 k_LIFTS = some (.tuple (rowsP liftsN)) := by
    show (mapO (deep h 59) (rowsD liftsN)).map _ = _
    rw [mapO_rows]; rfl
  unfold oInDp
  simp only [e1, e2, itemsP, shaped_row, shaped_lifts, Bool.and_self, if_true]
  refine qb q ?_
  rw [Bool.eq_iff_iff, decide_eq_true_eq]
  simp only [rowsP, List.any_map, Bool.false_eq_true, if_false, List.any_eq_true, Function.comp, eqv_rowT, decide_eq_true_eq, exists_eq_right]
theorem plift_w {cs : List W} (o : liftP cs = true) (q : ∀ h1, Ext [] h h1 → Q (.bl true) h1) : WP (f_is_lift [.tup (rowD cs)] h) Q E := by
  unfold liftP at o
  rw [Bool.and_eq_true] at o
  unfold f_is_lift b_is_lift
  walk_at "into"
  walk_at "go"
  refine are_words_w (kn := [7, 5, 8]) o.1 ?_
  intro h1 x1
  walk_at "go"
  refine wp_inLifts ?_
  rw [o.2]; exact q h1 x1
theorem row_ok_w {k : W} {cs : List W} (o : (k = 12 ∧ takeP cs = true) ∨ (k = 13 ∧ giveP cs = true) ∨ (k = 14 ∧ moveP cs = true) ∨ (k = 15 ∧ liftP cs = true)) (q : ∀ h1, Ext [] h h1 → Q (.bl true) h1) : WP (f_is_row [.str (wd k), .tup (rowD cs)] h) Q E := by
  unfold f_is_row b_is_row
  walk_at "into"
  rcases o with ⟨rfl, o⟩ | ⟨rfl, o⟩ | ⟨rfl, o⟩ | ⟨rfl, o⟩
  · walk_at "go"
    refine br_t (by decide) ?_
    walk_at "go"
    exact ptake_w o q
  · walk_at "go"
    refine br_f (by decide) ?_
    walk_at "go"
    refine br_t (by decide) ?_
    walk_at "go"
    exact pgive_w o q
  · walk_at "go"
    refine br_f (by decide) ?_
    walk_at "go"
    refine br_f (by decide) ?_
    walk_at "go"
    refine br_t (by decide) ?_
    exact wp_eCall (by walk_at "go"; exact pmove_w o q)
  · walk_at "go"
    refine br_f (by decide) ?_
    walk_at "go"
    refine br_f (by decide) ?_
    walk_at "go"
    refine br_f (by decide) ?_
    exact wp_eCall (by walk_at "go"; exact plift_w o q)
theorem want_word_w {x y : D} (q : Q .non h) : WP (f_want_word [x, y, .bl true] h) Q E := by
  unfold f_want_word b_want_word
  walk_at "into"
  walk_at "go"
  exact q
theorem holds_w {cs : List W} (o : rowOk [12, 13, 14, 15] cs = true) (q : ∀ h1, Ext [] h h1 → Q (.tup (rowD (([12, 13, 14, 15] : List W).filter fun c => decide (c ∈ cs)))) h1) : WP (f_holds_in_sequence [.tup (rowD cs)] h) Q E := by
  have words : WP (f_are_holds [.tup (rowD cs)] h) (fun d h1 => d = .bl true ∧ Ext [] h h1) noE := by
    unfold f_are_holds b_are_holds
    walk_at "into"
    walk_at "go"
    refine are_words_w o ?_
    intro h1 x1
    exact ⟨rfl, x1⟩
  unfold f_holds_in_sequence b_holds_in_sequence
  walk_at "into"
  walk_at "go"
  refine wp_use0 words ?_
  rintro d h1 ⟨rfl, x1⟩
  walk_at "go"
  refine wp_compF (fun c => .str (wd c)) [12, 13, 14, 15] (fun c => decide (c ∈ cs)) (fun c => .str (wd c)) gives_its (by simp) ?_ ?_
  · intro c mc h2 x2
    refine ⟨_, rfl, ?_⟩
    walk_at "go"
    refine ⟨rfl, Ext.rfl', fun _ => ?_⟩
    walk_at "go"
    exact ⟨rfl, Ext.rfl'⟩
  intro n2 h2 l2 x2 a2
  walk_at "go"
  exact q h2 (x1.trans x2)
theorem batch_w {k : Nat} (l : 1 ≤ k ∧ k ≤ 50) (q : Q .non h) : WP (f_want_batch [.int (k : Int)] h) Q E := by
  have int : WP (f_is_integer [.int (k : Int)] h) (fun d h1 => d = .bl true ∧ h1 = h) noE := by
    unfold f_is_integer b_is_integer
    walk_at "into"
    walk_at "go"
    exact ⟨rfl, rfl⟩
  unfold f_want_batch b_want_batch
  walk_at "into"
  walk_at "go"
  refine wp_use0 int ?_
  rintro d h1 ⟨rfl, rfl⟩
  walk_at "go"
  exact q
end
/-- a book stands at b -/
def kvB (R : Ru) : List (Ky × D) := [(.inr (wd 12), .tup (rowD R.take)), (.inr (wd 13), .tup (rowD R.give)), (.inr (wd 14), .tup (rowD R.move)), (.inr (wd 15), .tup (rowD R.lift))]
def holdQ (R : Ru) : List W := ([12, 13, 14, 15] : List W).filter fun c => decide (c ∈ R.holds)
structure BookK (h : LH) (b d : Nat) (R : Ru) : Prop where
  ins : h[b]? = some (.ins 0 [(0, .ref d), (1, .str (wd R.fails)), (2, .bl R.shared), (3, .tup (rowD (holdQ R))), (4, .int (R.batch : Int)), (5, .bl R.settles)])
  dct : h[d]? = some (.dct (kvB R))
def BookAt (h : LH) (b : Nat) (R : Ru) : Prop := ∃ d, BookK h b d R
theorem BookAt.ext {h h1 : LH} {b : Nat} {R : Ru} (B : BookAt h b R) (x : Ext [] h h1) : BookAt h1 b R := by
  obtain ⟨d, K⟩ := B
  exact ⟨d, x.get0 K.ins, x.get0 K.dct⟩
theorem BookAt.lt {h : LH} {b : Nat} {R : Ru} (B : BookAt h b R) : b < h.length := by
  obtain ⟨d, K⟩ := B; exact lt_of_at K.ins
section
variable {E : EP} {Q : D → LH → Prop} {h : LH}
theorem init_w {b : Nat} {R : Ru} (K : Ok R) (e : h[b]? = some (.ins 0 [])) (q : ∀ h1, Ext [b] h h1 → BookAt h1 b R → Q .non h1) :
    WP (f_Book___init__ [.ref b, .tup (rowD R.take), .tup (rowD R.give), .tup (rowD R.move), .tup (rowD R.lift), .str (wd R.fails), .bl R.shared, .tup (rowD R.holds), .int (R.batch : Int), .bl R.settles] h) Q E := by
  have bl := lt_of_at e
  obtain ⟨wf, sh, nb, st, hs, ct, cg, cm, cl⟩ := R
  obtain ⟨k1, k2, k3, k4, k5, k6, k7, k8, k9⟩ := K
  simp only at k1 k2 k3 k4 k5 k6 k7 k8 k9 q ⊢
  unfold f_Book___init__ b_Book___init__
  walk_at "into"
  walk_at "go"
  intro d h1 l1 x1 a1
  have e1 := x1.get0 e
  walk_at "go"
  refine ⟨a1, ?_⟩
  intro h2 x2 a2 _
  have e2 := x2.get1 e1 (by omega)
  have y2 : Ext [b] h h2 := (x1.w0).new x2 l1
  have hkv : mergeD [] [(Sum.inr (wd 12), D.tup (rowD ct)), (Sum.inr (wd 13), D.tup (rowD cg)), (Sum.inr (wd 14), D.tup (rowD cm)), (Sum.inr (wd 15), D.tup (rowD cl))] = kvB ⟨wf, sh, nb, st, hs, ct, cg, cm, cl⟩ := rfl
  rw [hkv] at a2
  generalize hkq : kvB ⟨wf, sh, nb, st, hs, ct, cg, cm, cl⟩ = kvs at a2
  have f1 : valD kvs (.inr (wd 12)) = some (.tup (rowD ct)) := by subst hkq; rfl
  have f2 : valD kvs (.inr (wd 13)) = some (.tup (rowD cg)) := by subst hkq; rfl
  have f3 : valD kvs (.inr (wd 14)) = some (.tup (rowD cm)) := by subst hkq; rfl
  have f4 : valD kvs (.inr (wd 15)) = some (.tup (rowD cl)) := by subst hkq; rfl
  clear hkv
  have db : d ≠ b := by omega
  walk_at "go"
  intro h3 x3 e3
  replace e3 : h3[b]? = some (.ins 0 [(0, .ref d)]) := e3
  have a3 := x3.get1 a2 db
  have y3 := y2.trans x3
  clear e e1 a1 e2 a2 x1 x2 x3
  walk_at "go"
  refine wf_forL [.str (wd 12), .str (wd 13), .str (wd 14), .str (wd 15)] (by simp) (fun i r h' => ∃ c, r = [some (.ref b), some (.tup (rowD ct)), some (.tup (rowD cg)), some (.tup (rowD cm)), some (.tup (rowD cl)), some (.str (wd wf)), some (.bl sh), some (.tup (rowD hs)), some (.int (nb : Int)), some (.bl st), c] ∧ Ext [] h3 h') (fun i r h' z => rfl) ⟨_, rfl, Ext.rfl'⟩ ?_ ?_
  · rintro r h4 ⟨c, rfl, x4⟩
    have e4 := x4.get0 e3
    have a4 := x4.get0 a3
    have y4 := y3.then0 x4
    clear e3 a3 x4 y3
    have mf : wf ∈ ([9, 10, 11] : List W) := k1
    walk_at "go"
    rw [decide_eq_true mf]
    refine want_word_w ?_
    walk_at "go"
    refine want_word_w ?_
    walk_at "go"
    intro h5 x5 e5
    replace e5 : h5[b]? = some (.ins 0 [(0, .ref d), (1, .str (wd wf))]) := e5
    have a5 := x5.get1 a4 db
    have y5 := y4.trans x5
    clear e4 a4 x5 y4
    walk_at "go"
    intro h6 x6 e6
    replace e6 : h6[b]? = some (.ins 0 [(0, .ref d), (1, .str (wd wf)), (2, .bl sh)]) := e6
    have a6 := x6.get1 a5 db
    have y6 := y5.trans x6
    clear e5 a5 x6 y5
    walk_at "go"
    refine holds_w k3 ?_
    intro h7 x7
    have e7 := x7.get0 e6
    have a7 := x7.get0 a6
    have y7 := y6.then0 x7
    clear e6 a6 x7 y6
    walk_at "go"
    intro h8 x8 e8
    replace e8 : h8[b]? = some (.ins 0 [(0, .ref d), (1, .str (wd wf)), (2, .bl sh), (3, .tup (rowD (([12, 13, 14, 15] : List W).filter fun c => decide (c ∈ hs))))]) := e8
    have a8 := x8.get1 a7 db
    have y8 := y7.trans x8
    clear e7 a7 x8 y7
    walk_at "go"
    refine batch_w k2 ?_
    walk_at "go"
    refine want_word_w ?_
    walk_at "go"
    intro h9 x9 e9
    replace e9 : h9[b]? = some (.ins 0 [(0, .ref d), (1, .str (wd wf)), (2, .bl sh), (3, .tup (rowD (([12, 13, 14, 15] : List W).filter fun c => decide (c ∈ hs)))), (4, .int (nb : Int))]) := e9
    have a9 := x9.get1 a8 db
    have y9 := y8.trans x9
    clear e8 a8 x9 y8
    walk_at "go"
    intro h10 x10 e10
    replace e10 : h10[b]? = some (.ins 0 [(0, .ref d), (1, .str (wd wf)), (2, .bl sh), (3, .tup (rowD (([12, 13, 14, 15] : List W).filter fun c => decide (c ∈ hs)))), (4, .int (nb : Int)), (5, .bl st)]) := e10
    have a10 := x10.get1 a9 db
    have y10 := y9.trans x10
    clear e9 a9 x10 y9
    have fin : Q .non h10 := q h10 y10 ⟨d, e10, by rw [hkq]; exact a10⟩
    have m3 := take_live k4
    walk_at "go"
    have hd : ∀ t, cm.head? = some t → sh = false → ¬ cm = [] → t = 4 := by
      intro t et z c2
      rcases k8 z with z | z
      · exact absurd z c2
      · simpa [headIs, et] using z
    refine br_d (fun c1 => ?_) (fun c1 => ?_)
    · have k5 := k5 (by omega)
      walk_at "go"
      intro t et
      have : t = 3 := by simpa [lastIs, et] using k5
      subst this
      cases sh <;> walk_at "br"
      all_goals first | exact fin | contradiction | exact absurd (hd _ ‹cm.head? = some _› rfl ‹¬ cm = []›) ‹_›
    · cases sh <;> walk_at "br"
      all_goals first | exact fin | contradiction | exact absurd (hd _ ‹cm.head? = some _› rfl ‹¬ cm = []›) ‹_›
  · rintro i dd r h4 ed ⟨c, rfl, x4⟩
    have e4 := x4.get0 e3
    have a4 := x4.get0 a3
    match i, ed with
    | 0, ed =>
      cases ed
      walk_at "go"
      refine row_ok_w (.inl ⟨rfl, k4⟩) ?_
      intro h5 x5
      walk_at "go"
      exact ⟨_, rfl, x4.trans x5⟩
    | 1, ed =>
      cases ed
      walk_at "go"
      refine row_ok_w (.inr (.inl ⟨rfl, k6⟩)) ?_
      intro h5 x5
      walk_at "go"
      exact ⟨_, rfl, x4.trans x5⟩
    | 2, ed =>
      cases ed
      walk_at "go"
      refine row_ok_w (.inr (.inr (.inl ⟨rfl, k7⟩))) ?_
      intro h5 x5
      walk_at "go"
      exact ⟨_, rfl, x4.trans x5⟩
    | 3, ed =>
      cases ed
      walk_at "go"
      refine row_ok_w (.inr (.inr (.inr ⟨rfl, k9⟩))) ?_
      intro h5 x5
      walk_at "go"
      exact ⟨_, rfl, x4.trans x5⟩
    | i + 4, ed => simp at ed
theorem law_book_w {n : Nat} {R : Ru} (A : RulesAt h n R) (K : Ok R) (q : ∀ b h1, h.length ≤ b → Ext [] h h1 → BookAt h1 b R → Q (.ref b) h1) : WP (f__law_book [.ref n] h) Q E := by
  obtain ⟨kvs, e, RK⟩ := A
  have r1 := RK.take
  have r2 := RK.give
  have r3 := RK.move
  have r4 := RK.lift
  have r5 := RK.fails
  have r6 := RK.shared
  have r7 := RK.holds
  have r8 := RK.batch
  have r9 := RK.settles
  unfold f__law_book b__law_book
  walk_at "into"
  walk_at "go"
  refine wp_opM ⟨rfl, rfl⟩ ?_
  intro b h1 l1 x1 a1
  refine init_w K a1 ?_
  intro h2 x2 B
  exact nonat (q b h2 l1 (x1.new x2 l1) B)
end
end
end Lw

set_option Elab.async false
set_option linter.all false
set_option maxRecDepth 100000
set_option maxHeartbeats 4000000
namespace Lw
open Py Ev PySem
section
local macro_rules | `(tactic| walk_at "rf") => `(tactic| with_unfolding_all exact rfl)
local macro_rules | `(tactic| walk_at "nin") => `(tactic| first | exact List.not_mem_nil | (simp only [List.mem_cons, List.not_mem_nil, or_false, not_or]; omega))
local macro_rules | `(tactic| walk_at "lk") => `(tactic| first | assumption | (refine Ext.get (by assumption) ?_ ?_; (walk_at "lk"); (walk_at "nin")))
local macro_rules | `(tactic| walk_at "sq") => `(tactic| first | exact seq_tup | exact seq_scr | exact SeqOf.seq (by assumption) | exact seq_lst (by walk_at "lk"))
local macro_rules | `(tactic| walk_at "sz") => `(tactic| first | omega | (simp only [List.length_cons, List.length_nil, List.length_append, List.length_map, List.length_replicate, iD_len, sizeLine]; omega))
local macro_rules | `(tactic| walk_at "ls") => `(tactic| (simp only [List.set_cons_succ, List.set_cons_zero, List.map_cons, List.map_nil, List.replicate_succ, List.replicate_zero, List.cons_append, List.nil_append, wipeL]; rfl))
local macro_rules | `(tactic| walk_at "call") => `(tactic| fail)
local macro_rules | `(tactic| walk_at "run") => `(tactic| with_reducible first
  | (apply wp_eV; (· walk_at "rf"))
  | refine wp_eC ?_
  | refine wp_e2 ?_
  | refine wp_e1 ?_
  | refine wp_aCons ?_
  | refine wp_aNil ?_
  | refine wp_eA ?_
  | refine wf_seq ?_
  | refine wf_Asg ?_
  | (apply wf_gN; (· walk_at "ls"))
  | refine wf_E ?_
  | refine wf_Ret ?_
  | refine wf_If ?_
  | refine wf_nil ?_
  | refine wp_eCall ?_
  | (apply wp_opF0; (· with_unfolding_all exact ⟨rfl, rfl⟩))
  | refine wp_eMeth ?_
  | (apply insat; (· walk_at "lk"))
  | refine wp_add ?_
  | refine wp_sub ?_
  | refine wp_lt ?_
  | refine wp_le ?_
  | refine wp_gt ?_
  | refine wp_ge ?_
  | (apply br_kt; (· with_unfolding_all rfl))
  | (apply br_kf; (· with_unfolding_all rfl))
  | refine wp_eqW ?_
  | refine wp_neW ?_
  | refine wp_eqB ?_
  | refine wp_neB ?_
  | (apply wp_lastW; (· assumption))
  | (apply wp_headW; (· assumption))
  | refine wp_inW ?_
  | refine wp_ninW ?_
  | refine wp_eqRow0 ?_
  | refine wp_neRow0 ?_
  | refine wp_eDisp ?_
  | refine pairs_cons ?_
  | refine pairs_nil ?_
  | refine keyat_s ?_
  | refine wf_sDputK ?_
  | (apply dputk_s; (· walk_at "lk"); (· exact lt_line (by omega)))
  | refine wp_eGet1 ?_
  | refine wp_eGet2 ?_
  | refine wp_ePop ?_
  | (apply dctat; (· walk_at "lk"))
  | (apply wp_dg; (· walk_at "lk"); (· assumption))
  | (apply wp_bDict; (· walk_at "lk"))
  | refine wp_eTM ?_
  | refine tupat ?_
  | (apply wp_tupIx; (· assumption))
  | refine wp_eCallV ?_
  | refine fnat ?_
  | refine wp_eqI ?_
  | refine wp_neI ?_
  | refine wp_eqS ?_
  | refine wp_neS ?_
  | (apply wp_mod; (· omega))
  | (apply wp_div; (· omega))
  | (apply wp_mul; (· omega))
  | (apply wp_powN; (· (simp only [Int.reduceToNat]; rfl)); (· omega); (· omega))
  | refine wp_neg ?_
  | refine wp_isN ?_
  | refine wp_isNI ?_
  | refine wp_bMax ?_
  | refine wp_bMin ?_
  | refine wp_bAbs ?_
  | refine wp_bInt ?_
  | (apply wp_bDivmod; (· omega))
  | refine tr_bl ?_
  | refine isb ?_
  | (apply br_t; (· rfl))
  | (apply br_f; (· rfl))
  | refine br_nt ?_
  | (apply br_dt; (· omega))
  | (apply br_df; (· omega))
  | refine wp_eNot ?_
  | refine wp_eB ?_
  | refine wp_eOr ?_
  | refine wp_eAnd ?_
  | refine wp_eAndB ?_
  | refine wp_eOrB ?_
  | refine wp_eNotB ?_
  | refine wp_eIf ?_
  | refine wp_chain ?_
  | refine wp_eFld ?_
  | (apply fdat; (· walk_at "lk"); (· walk_at "rf"))
  | refine wp_eTup ?_
  | refine wp_eLst ?_
  | refine wp_listR ?_
  | (apply wp_addT; (· walk_at "sz"))
  | (apply need; (· walk_at "sz"))
  | refine intat ?_
  | refine strat ?_
  | refine nonat ?_
  | (apply wp_len; (· walk_at "sq"))
  | (apply wp_ix; (· walk_at "sq"); (· walk_at "rf"))
  | (apply wp_bTuple; (· walk_at "sq"))
  | (apply wp_bList; (· walk_at "sq"))
  | refine wp_eBM ?_
  | (apply lstat; (· walk_at "lk"))
  | (apply wp_append; (· walk_at "lk"); (· walk_at "sz"))
  | (apply wp_clear; (· walk_at "lk"))
  | refine wp_eSl ?_
  | refine wp_pSome ?_
  | refine pis ?_
  | refine wp_pNo ?_
  | refine slat_tup ?_
  | (apply slat_lst; (· walk_at "lk"))
  | (apply wf_gT; (· walk_at "rf"))
  | refine wf_gsCons ?_
  | refine wf_gsNil ?_
  | refine wf_gSub ?_
  | (apply subat; (· walk_at "lk"); (· walk_at "rf"))
  | refine wf_sFld ?_
  | (apply fldat; (· walk_at "lk"); (· walk_at "sz"); (· walk_at "rf"))
  | refine wf_sPar ?_
  | (apply parat; (· walk_at "ls"))
  | refine wf_sPar3 ?_
  | (apply parat3; (· walk_at "ls"))
  | refine wp_eRev ?_
  | (apply rvat; (· walk_at "lk"))
  | refine wp_isBB ?_
  | refine wf_sFor ?_
  | refine wp_iSeq ?_
  | refine wp_iZip ?_
  | (apply zipat; (· walk_at "lk"); (· walk_at "lk"))
  | refine wp_aStar ?_
  | (apply sqat; (· walk_at "sq"))
  | refine wp_eJoinL ?_
  | refine wp_rB ?_
  | refine wp_iEnum ?_
  | refine wp_iRng1 ?_
  | refine wp_iRng2 ?_
  | refine srcat_tup ?_
  | refine srcat_scr ?_
  | (apply srcat_lst; (· walk_at "lk"))
  | refine wp_eIsi ?_
  | refine kd_int ?_
  | refine kd_bl ?_
  | refine kd_str ?_
  | refine kd_non ?_
  | refine kd_tup ?_
  | (apply kd_lst; (· walk_at "lk"))
  | (apply wp_eComp; (· walk_at "ls"))
  | (apply wp_lenO; (· walk_at "lk"))
  | (apply wp_reprO; (· walk_at "lk"))
  | refine wp_eFmt ?_
  | refine wp_eJoin ?_
  | refine jgo_cons ?_
  | refine jgo_nil ?_
  | walk_at "call")
local macro_rules | `(tactic| walk_at "go") => `(tactic| repeat (with_reducible first
  | (apply wp_eV; (· walk_at "rf"))
  | refine wp_eC ?_
  | refine wp_e2 ?_
  | refine wp_e1 ?_
  | refine wp_aCons ?_
  | refine wp_aNil ?_
  | refine wp_eA ?_
  | refine wf_seq ?_
  | refine wf_Asg ?_
  | (apply wf_gN; (· walk_at "ls"))
  | refine wf_E ?_
  | refine wf_Ret ?_
  | refine wf_If ?_
  | refine wf_nil ?_
  | refine wp_eCall ?_
  | (apply wp_opF0; (· with_unfolding_all exact ⟨rfl, rfl⟩))
  | refine wp_eMeth ?_
  | (apply insat; (· walk_at "lk"))
  | refine wp_add ?_
  | refine wp_sub ?_
  | refine wp_lt ?_
  | refine wp_le ?_
  | refine wp_gt ?_
  | refine wp_ge ?_
  | (apply br_kt; (· with_unfolding_all rfl))
  | (apply br_kf; (· with_unfolding_all rfl))
  | refine wp_eqW ?_
  | refine wp_neW ?_
  | refine wp_eqB ?_
  | refine wp_neB ?_
  | (apply wp_lastW; (· assumption))
  | (apply wp_headW; (· assumption))
  | refine wp_inW ?_
  | refine wp_ninW ?_
  | refine wp_eqRow0 ?_
  | refine wp_neRow0 ?_
  | refine wp_eDisp ?_
  | refine pairs_cons ?_
  | refine pairs_nil ?_
  | refine keyat_s ?_
  | refine wf_sDputK ?_
  | (apply dputk_s; (· walk_at "lk"); (· exact lt_line (by omega)))
  | refine wp_eGet1 ?_
  | refine wp_eGet2 ?_
  | refine wp_ePop ?_
  | (apply dctat; (· walk_at "lk"))
  | (apply wp_dg; (· walk_at "lk"); (· assumption))
  | (apply wp_bDict; (· walk_at "lk"))
  | refine wp_eTM ?_
  | refine tupat ?_
  | (apply wp_tupIx; (· assumption))
  | refine wp_eCallV ?_
  | refine fnat ?_
  | refine wp_eqI ?_
  | refine wp_neI ?_
  | refine wp_eqS ?_
  | refine wp_neS ?_
  | (apply wp_mod; (· omega))
  | (apply wp_div; (· omega))
  | (apply wp_mul; (· omega))
  | (apply wp_powN; (· (simp only [Int.reduceToNat]; rfl)); (· omega); (· omega))
  | refine wp_neg ?_
  | refine wp_isN ?_
  | refine wp_isNI ?_
  | refine wp_bMax ?_
  | refine wp_bMin ?_
  | refine wp_bAbs ?_
  | refine wp_bInt ?_
  | (apply wp_bDivmod; (· omega))
  | refine tr_bl ?_
  | refine isb ?_
  | (apply br_t; (· rfl))
  | (apply br_f; (· rfl))
  | refine br_nt ?_
  | (apply br_dt; (· omega))
  | (apply br_df; (· omega))
  | refine wp_eNot ?_
  | refine wp_eB ?_
  | refine wp_eOr ?_
  | refine wp_eAnd ?_
  | refine wp_eAndB ?_
  | refine wp_eOrB ?_
  | refine wp_eNotB ?_
  | refine wp_eIf ?_
  | refine wp_chain ?_
  | refine wp_eFld ?_
  | (apply fdat; (· walk_at "lk"); (· walk_at "rf"))
  | refine wp_eTup ?_
  | refine wp_eLst ?_
  | refine wp_listR ?_
  | (apply wp_addT; (· walk_at "sz"))
  | (apply need; (· walk_at "sz"))
  | refine intat ?_
  | refine strat ?_
  | refine nonat ?_
  | (apply wp_len; (· walk_at "sq"))
  | (apply wp_ix; (· walk_at "sq"); (· walk_at "rf"))
  | (apply wp_bTuple; (· walk_at "sq"))
  | (apply wp_bList; (· walk_at "sq"))
  | refine wp_eBM ?_
  | (apply lstat; (· walk_at "lk"))
  | (apply wp_append; (· walk_at "lk"); (· walk_at "sz"))
  | (apply wp_clear; (· walk_at "lk"))
  | refine wp_eSl ?_
  | refine wp_pSome ?_
  | refine pis ?_
  | refine wp_pNo ?_
  | refine slat_tup ?_
  | (apply slat_lst; (· walk_at "lk"))
  | (apply wf_gT; (· walk_at "rf"))
  | refine wf_gsCons ?_
  | refine wf_gsNil ?_
  | refine wf_gSub ?_
  | (apply subat; (· walk_at "lk"); (· walk_at "rf"))
  | refine wf_sFld ?_
  | (apply fldat; (· walk_at "lk"); (· walk_at "sz"); (· walk_at "rf"))
  | refine wf_sPar ?_
  | (apply parat; (· walk_at "ls"))
  | refine wf_sPar3 ?_
  | (apply parat3; (· walk_at "ls"))
  | refine wp_eRev ?_
  | (apply rvat; (· walk_at "lk"))
  | refine wp_isBB ?_
  | refine wf_sFor ?_
  | refine wp_iSeq ?_
  | refine wp_iZip ?_
  | (apply zipat; (· walk_at "lk"); (· walk_at "lk"))
  | refine wp_aStar ?_
  | (apply sqat; (· walk_at "sq"))
  | refine wp_eJoinL ?_
  | refine wp_rB ?_
  | refine wp_iEnum ?_
  | refine wp_iRng1 ?_
  | refine wp_iRng2 ?_
  | refine srcat_tup ?_
  | refine srcat_scr ?_
  | (apply srcat_lst; (· walk_at "lk"))
  | refine wp_eIsi ?_
  | refine kd_int ?_
  | refine kd_bl ?_
  | refine kd_str ?_
  | refine kd_non ?_
  | refine kd_tup ?_
  | (apply kd_lst; (· walk_at "lk"))
  | (apply wp_eComp; (· walk_at "ls"))
  | (apply wp_lenO; (· walk_at "lk"))
  | (apply wp_reprO; (· walk_at "lk"))
  | refine wp_eFmt ?_
  | refine wp_eJoin ?_
  | refine jgo_cons ?_
  | refine jgo_nil ?_
  | refine wf_Raise1 ?_
  | refine wf_Raise0 ?_
  | refine wf_Try ?_
  | (apply wp_eXf; (· walk_at "rf"))
  | walk_at "call"))
/-- into a def -/
local macro_rules | `(tactic| walk_at "into") => `(tactic| (refine wp_runF (by walk_at "rf") (by walk_at "ls") ?_))
/-- on, through all branches -/
local macro_rules | `(tactic| walk_at "br") => `(tactic| repeat' (first | walk_at "run" | (with_reducible apply br_dt; (· assumption)) | (with_reducible apply br_df; (· assumption)) | (with_reducible apply br_t; (· assumption)) | (with_reducible apply br_f; (· assumption)) | (with_reducible refine br_d (fun _ => ?_) (fun _ => ?_)) | (with_reducible refine br_s (fun _ => ?_) (fun _ => ?_)) | (intro d ed)))
/-! ### rules beside rules -/
theorem lay_rows : ∀ css : List (List W), PyData.canLayAll0 (rowsP css) = true
  | [] => rfl
  | cs :: css => by
    show (PyData.canLay0 (.tuple (rowP cs)) && PyData.canLayAll0 (rowsP css)) = true
    rw [PyData.canLay0, lay_row, lay_rows css]; rfl
theorem depth_rows : ∀ css : List (List W), PyData.depthAll (rowsP css) = 0 ∨ PyData.depthAll (rowsP css) = 1
  | [] => .inl (by simp [rowsP, PyData.depthAll])
  | cs :: css => by
    have e : PyData.depthAll (rowsP (cs :: css)) = max (PyData.depth (.tuple (rowP cs))) (PyData.depthAll (rowsP css)) := by
      simp only [rowsP, List.map_cons, PyData.depthAll]
    rw [e, PyData.depth, depth_row]
    rcases depth_rows css with z | z <;> rw [z] <;> simp
theorem shaped_rows {css : List (List W)} : SeqAt.shaped (.list (rowsP css)) = true := by
  unfold SeqAt.shaped
  rw [PyData.canLay0, lay_rows, PyData.depth]
  rcases depth_rows css with z | z <;> rw [z] <;> rfl
theorem RF.np {o : List Pt} {h : LH} {n p : Nat} {R : Ru} (A : RF o h n R) (P : Pot h p) : n ≠ p := by
  obtain ⟨i, j, e, _⟩ := P
  intro z
  subst z
  unfold RF at A
  rw [A] at e; exact nomatch e
section
variable {E : EP} {Q : D → LH → Prop} {h : LH}
theorem wp_inRows {n : Nat} {css : List (List W)} {cs : List W} (e : h[n]? = some (.lst (rowsD css))) (q : Q (.bl (decide (cs ∈ css))) h) : WP (oInDp false (.tup (rowD cs)) (.ref n) h) Q E := by
  have e1 : deep h 60 (.tup (rowD cs)) = some (.tuple (rowP cs)) := deep_row
  have e2 : deep h 60 (.ref n) = some (.list (rowsP css)) := deep_list e (mapO_rows css)
  unfold oInDp
  simp only [e1, e2, itemsP, shaped_row, shaped_rows, Bool.and_self, if_true]
  refine qb q ?_
  rw [Bool.eq_iff_iff, decide_eq_true_eq]
  simp only [rowsP, List.any_map, Bool.false_eq_true, if_false, List.any_eq_true, Function.comp, eqv_rowT, decide_eq_true_eq, exists_eq_right]
theorem wp_inC {x y : D} {xs : List D} {b : Bool} (e : seqD y h = some xs) (k : (flatD x && xs.all flatD) = true) (v : (xs.any fun z => eqF z x) = b) (q : Q (.bl b) h) : WP (oIn false x y h) Q E :=
  wp_in e k (by rw [if_neg Bool.false_ne_true, v]; exact q)
theorem exch_w {p n m : Nat} {R S : Ru} (P : Pot h p) (A : RF o0 h n R) (B : RF o0 h m S) (K : Ok R) (KS : Ok S) (hs : R.holds.Sublist [12, 13, 14, 15]) (q : ∀ k h1 T, h.length ≤ k → RF o0 h1 k T → Ok T → T.holds.Sublist [12, 13, 14, 15] → Pot h1 p → Ext [p] h h1 → Q (.ref k) h1) :
    WP (f__law_exchanged [.ref p, .ref n, .ref m] h) Q E := by
  have pl := P.lt
  have np := A.np P
  have mp := B.np P
  have nl := A.lt
  have ml := B.lt
  have e : h[n]? = some (.dct (kvR o0 R)) := A
  have f : h[m]? = some (.dct (kvR o0 S)) := B
  have RK := rulesK_kv (R := R) od0
  have SK := rulesK_kv (R := S) od0
  have t1 := RK.take
  have t2 := RK.move
  have t3 := RK.shared
  have t4 := RK.batch
  have s1 := SK.give
  have s2 := SK.lift
  have s3 := SK.fails
  have s4 := SK.settles
  have few : ∀ T, (kvR o0 T).length ≤ 30 := fun T => by rw [kvR_len]; decide
  have fw := few R
  unfold f__law_exchanged b__law_exchanged
  walk_at "into"
  walk_at "go"
  intro k h1 l1 x1 a1
  have P1 := P.ext x1 (by simp)
  have e1 := x1.get0 e
  have f1 := x1.get0 f
  have kl := lt_of_at a1
  have b1 := x1.1
  walk_at "go"
  intro l2 h2 k2 x2 a2
  have P2 := P1.ext x2 (by simp)
  have e2 := x2.get0 e1
  have f2 := x2.get0 f1
  have a12 := x2.get0 a1
  have y2 : Ext [p] h h2 := (x1.trans x2).w0
  have b2 := x2.1
  walk_at "go"
  refine pick_w P2 a2 (by omega) (by simp) ?_
  intro d h3 md P3 x3
  have e3 := x3.get1 e2 np
  have f3 := x3.get1 f2 mp
  have a3 := x3.get1 a12 (by omega)
  have y3 : Ext [p] h h3 := y2.trans x3
  have b3 := x3.1
  clear e1 f1 a1 x1 a2 x2 e2 f2 a12 y2 x3 e f P P1 P2 A B
  have fin : ∀ (T : Ru) (h4 h5 : LH), Ext [p] h3 h4 → Pot h4 p → Ok T → T.holds.Sublist [12, 13, 14, 15] → Ext [k] h4 h5 → h5[k]? = some (.dct (kvR o0 T)) → Q (.ref k) h5 := by
    intro T h4 h5 x4 P4 KT hT x5 a5
    exact q k h5 T l1 a5 KT hT (P4.ext x5 (by simp; omega)) ((y3.trans x4).new x5 l1)
  simp only [List.mem_cons, List.not_mem_nil, or_false] at md
  rcases md with rfl | rfl | rfl | rfl | rfl | rfl | rfl | rfl
  · walk_at "go"
    intro l4 h4 k4 x4 a4
    walk_at "go"
    refine wp_inC (b := true) (seq_lst a4) rfl (by decide +kernel) ?_
    have e4 := x4.get0 e3
    have f4 := x4.get0 f3
    have a34 := x4.get0 a3
    walk_at "go"
    intro h5 x5 a5 _
    rw [putF6 od0] at a5
    walk_at "go"
    exact fin { R with give := S.give } h4 h5 x4.w0 (P3.ext x4 (by simp)) ⟨K.fails, K.batch, K.holds, K.take, K.late, KS.give, K.move, K.own, K.lift⟩ hs x5 a5
  · walk_at "go"
    intro l4 h4 k4 x4 a4
    walk_at "go"
    refine wp_inC (b := true) (seq_lst a4) rfl (by decide +kernel) ?_
    have e4 := x4.get0 e3
    have f4 := x4.get0 f3
    have a34 := x4.get0 a3
    walk_at "go"
    intro h5 x5 a5 _
    rw [putF8 od0] at a5
    walk_at "go"
    exact fin { R with lift := S.lift } h4 h5 x4.w0 (P3.ext x4 (by simp)) ⟨K.fails, K.batch, K.holds, K.take, K.late, K.give, K.move, K.own, KS.lift⟩ hs x5 a5
  · walk_at "go"
    intro l4 h4 k4 x4 a4
    walk_at "go"
    refine wp_inC (b := true) (seq_lst a4) rfl (by decide +kernel) ?_
    have e4 := x4.get0 e3
    have f4 := x4.get0 f3
    have a34 := x4.get0 a3
    walk_at "go"
    intro h5 x5 a5 _
    rw [putF0 od0] at a5
    walk_at "go"
    exact fin { R with fails := S.fails } h4 h5 x4.w0 (P3.ext x4 (by simp)) ⟨KS.fails, K.batch, K.holds, K.take, K.late, K.give, K.move, K.own, K.lift⟩ hs x5 a5
  · walk_at "go"
    intro l4 h4 k4 x4 a4
    walk_at "go"
    refine wp_inC (b := true) (seq_lst a4) rfl (by decide +kernel) ?_
    have e4 := x4.get0 e3
    have f4 := x4.get0 f3
    have a34 := x4.get0 a3
    walk_at "go"
    intro h5 x5 a5 _
    rw [putF3 od0] at a5
    walk_at "go"
    exact fin { R with settles := S.settles } h4 h5 x4.w0 (P3.ext x4 (by simp)) ⟨K.fails, K.batch, K.holds, K.take, K.late, K.give, K.move, K.own, K.lift⟩ hs x5 a5
  · walk_at "go"
    intro l4 h4 k4 x4 a4
    walk_at "go"
    refine wp_inC (b := false) (seq_lst a4) rfl (by decide +kernel) ?_
    have e4 := x4.get0 e3
    have a34 := x4.get0 a3
    have P4 := P3.ext x4 (by simp)
    have b4 := x4.1
    clear f3 a4
    walk_at "go"
    refine br_t (by decide) ?_
    walk_at "go"
    refine draw_w P4 (by omega) ?_
    intro j h5 lj P5 x5
    have e5 := x5.get1 e4 np
    have a5 := x5.get1 a34 (by omega)
    have b5 := x5.1
    walk_at "go"
    refine takes_w ?_
    intro n6 h6 k6 x6 a6
    have e6 := x6.get0 e5
    have a56 := x6.get0 a5
    have P6 := P5.ext x6 (by simp)
    have b6 := x6.1
    have y6 : Ext [p] h3 h6 := ((x4.w0).trans x5).then0 x6
    walk_at "go"
    refine wp_inRows a6 ?_
    have ej : (1 + (j : Int)) = ((1 + j : Nat) : Int) := by omega
    refine tr_bl ?_
    refine br_d (fun c => ?_) (fun c => ?_)
    · obtain ⟨c1, c2⟩ := takes_ok _ _ c
      rw [ej]
      walk_at "go"
      intro h7 x7 a7 _
      rw [putF2 od0] at a7
      walk_at "go"
      exact fin { R with batch := 1 + j } h6 h7 y6 P6 ⟨K.fails, ⟨by show 1 ≤ 1 + j; omega, by show 1 + j ≤ 50; omega⟩, K.holds, K.take, fun (z : 1 < 1 + j) => c2 (decide_eq_true (by omega)), K.give, K.move, K.own, K.lift⟩ hs x7 a7
    · walk_at "go"
      intro h7 x7 a7 _
      rw [putF2 od0] at a7
      walk_at "go"
      exact fin R h6 h7 y6 P6 ⟨K.fails, K.batch, K.holds, K.take, K.late, K.give, K.move, K.own, K.lift⟩ hs x7 a7
  · walk_at "go"
    intro l4 h4 k4 x4 a4
    walk_at "go"
    refine wp_inC (b := false) (seq_lst a4) rfl (by decide +kernel) ?_
    have e4 := x4.get0 e3
    have a34 := x4.get0 a3
    have P4 := P3.ext x4 (by simp)
    have b4 := x4.1
    clear f3 a4
    walk_at "go"
    refine br_f (by decide) ?_
    walk_at "go"
    refine br_t (by decide) ?_
    walk_at "go"
    refine moves_w ?_
    intro n6 h6 k6 x6 a6
    have e6 := x6.get0 e4
    have a56 := x6.get0 a34
    have P6 := P4.ext x6 (by simp)
    have b6 := x6.1
    have y6 : Ext [p] h3 h6 := ((x4.trans x6).w0)
    walk_at "go"
    refine wp_inRows a6 ?_
    walk_at "go"
    refine br_d (fun c => ?_) (fun c => ?_)
    · obtain ⟨c1, c2⟩ := moves_ok _ _ c
      walk_at "go"
      intro h7 x7 a7 _
      rw [putF1 od0] at a7
      walk_at "go"
      exact fin { R with shared := !R.shared } h6 h7 y6 P6 ⟨K.fails, K.batch, K.holds, K.take, K.late, K.give, K.move, c2, K.lift⟩ hs x7 a7
    · walk_at "go"
      intro h7 x7 a7 _
      rw [putF1 od0] at a7
      walk_at "go"
      exact fin R h6 h7 y6 P6 ⟨K.fails, K.batch, K.holds, K.take, K.late, K.give, K.move, K.own, K.lift⟩ hs x7 a7
  · walk_at "go"
    intro l4 h4 k4 x4 a4
    walk_at "go"
    refine wp_inC (b := false) (seq_lst a4) rfl (by decide +kernel) ?_
    have e4 := x4.get0 e3
    have a34 := x4.get0 a3
    have P4 := P3.ext x4 (by simp)
    have b4 := x4.1
    clear f3 a4
    walk_at "go"
    refine br_f (by decide) ?_
    walk_at "go"
    refine br_f (by decide) ?_
    walk_at "go"
    refine br_t (by decide) ?_
    walk_at "go"
    refine takes_w ?_
    intro n6 h6 k6 x6 a6
    have a56 := x6.get0 a34
    have P6 := P4.ext x6 (by simp)
    have b6 := x6.1
    have p4 := P4.lt
    walk_at "go"
    refine pick_w P6 a6 (by omega) (by rw [rowsD_len]; exact takes_len _) ?_
    intro d h7 md P7 x7
    obtain ⟨cs, mc, rfl⟩ := List.mem_map.1 md
    obtain ⟨c1, c2⟩ := takes_ok _ cs mc
    have a7 := x7.get1 a56 (by omega)
    have y7 : Ext [p] h3 h7 := ((x4.trans x6).w0).trans x7
    walk_at "go"
    intro h8 x8 a8 _
    rw [putF5 od0] at a8
    walk_at "go"
    exact fin { R with take := cs } h7 h8 y7 P7 ⟨K.fails, K.batch, K.holds, c1, fun (z : 1 < R.batch) => c2 (decide_eq_true (by omega)), K.give, K.move, K.own, K.lift⟩ hs x8 a8
  · walk_at "go"
    intro l4 h4 k4 x4 a4
    walk_at "go"
    refine wp_inC (b := false) (seq_lst a4) rfl (by decide +kernel) ?_
    have e4 := x4.get0 e3
    have a34 := x4.get0 a3
    have P4 := P3.ext x4 (by simp)
    have b4 := x4.1
    clear f3 a4
    walk_at "go"
    refine br_f (by decide) ?_
    walk_at "go"
    refine br_f (by decide) ?_
    walk_at "go"
    refine br_f (by decide) ?_
    walk_at "go"
    refine moves_w ?_
    intro n6 h6 k6 x6 a6
    have a56 := x6.get0 a34
    have P6 := P4.ext x6 (by simp)
    have b6 := x6.1
    have p4 := P4.lt
    walk_at "go"
    refine pick_w P6 a6 (by omega) (by rw [rowsD_len]; exact moves_len _) ?_
    intro d h7 md P7 x7
    obtain ⟨cs, mc, rfl⟩ := List.mem_map.1 md
    obtain ⟨c1, c2⟩ := moves_ok _ cs mc
    have a7 := x7.get1 a56 (by omega)
    have y7 : Ext [p] h3 h7 := ((x4.trans x6).w0).trans x7
    walk_at "go"
    intro h8 x8 a8 _
    rw [putF7 od0] at a8
    walk_at "go"
    exact fin { R with move := cs } h7 h8 y7 P7 ⟨K.fails, K.batch, K.holds, K.take, K.late, K.give, c1, c2, K.lift⟩ hs x8 a8
end
end
end Lw

set_option Elab.async false
set_option linter.all false
set_option maxRecDepth 100000
set_option maxHeartbeats 4000000
namespace Lw
open Py Ev PySem
section
local macro_rules | `(tactic| walk_at "rf") => `(tactic| with_unfolding_all exact rfl)
local macro_rules | `(tactic| walk_at "nin") => `(tactic| first | exact List.not_mem_nil | (simp only [List.mem_cons, List.not_mem_nil, or_false, not_or]; omega))
local macro_rules | `(tactic| walk_at "lk") => `(tactic| first | assumption | (refine Ext.get (by assumption) ?_ ?_; (walk_at "lk"); (walk_at "nin")))
local macro_rules | `(tactic| walk_at "sq") => `(tactic| first | exact seq_tup | exact seq_scr | exact SeqOf.seq (by assumption) | exact seq_lst (by walk_at "lk"))
local macro_rules | `(tactic| walk_at "sz") => `(tactic| first | omega | (simp only [List.length_cons, List.length_nil, List.length_append, List.length_map, List.length_replicate, iD_len, sizeLine]; omega))
local macro_rules | `(tactic| walk_at "ls") => `(tactic| (simp only [List.set_cons_succ, List.set_cons_zero, List.map_cons, List.map_nil, List.replicate_succ, List.replicate_zero, List.cons_append, List.nil_append, wipeL]; rfl))
local macro_rules | `(tactic| walk_at "call") => `(tactic| fail)
local macro_rules | `(tactic| walk_at "run") => `(tactic| with_reducible first
  | (apply wp_eV; (· walk_at "rf"))
  | refine wp_eC ?_
  | refine wp_e2 ?_
  | refine wp_e1 ?_
  | refine wp_aCons ?_
  | refine wp_aNil ?_
  | refine wp_eA ?_
  | refine wf_seq ?_
  | refine wf_Asg ?_
  | (apply wf_gN; (· walk_at "ls"))
  | refine wf_E ?_
  | refine wf_Ret ?_
  | refine wf_If ?_
  | refine wf_nil ?_
  | refine wp_eCall ?_
  | (apply wp_opF0; (· with_unfolding_all exact ⟨rfl, rfl⟩))
  | refine wp_eMeth ?_
  | (apply insat; (· walk_at "lk"))
  | refine wp_add ?_
  | refine wp_sub ?_
  | refine wp_lt ?_
  | refine wp_le ?_
  | refine wp_gt ?_
  | refine wp_ge ?_
  | (apply br_kt; (· with_unfolding_all rfl))
  | (apply br_kf; (· with_unfolding_all rfl))
  | refine wp_eqW ?_
  | refine wp_neW ?_
  | refine wp_eqB ?_
  | refine wp_neB ?_
  | (apply wp_lastW; (· assumption))
  | (apply wp_headW; (· assumption))
  | refine wp_inW ?_
  | refine wp_ninW ?_
  | refine wp_eqRow0 ?_
  | refine wp_neRow0 ?_
  | refine wp_eDisp ?_
  | refine pairs_cons ?_
  | refine pairs_nil ?_
  | refine keyat_s ?_
  | refine wf_sDputK ?_
  | (apply dputk_s; (· walk_at "lk"); (· exact lt_line (by omega)))
  | refine wp_eGet1 ?_
  | refine wp_eGet2 ?_
  | refine wp_ePop ?_
  | (apply dctat; (· walk_at "lk"))
  | (apply wp_dg; (· walk_at "lk"); (· assumption))
  | (apply wp_bDict; (· walk_at "lk"))
  | refine wp_eTM ?_
  | refine tupat ?_
  | (apply wp_tupIx; (· assumption))
  | refine wp_eCallV ?_
  | refine fnat ?_
  | refine wp_eqI ?_
  | refine wp_neI ?_
  | refine wp_eqS ?_
  | refine wp_neS ?_
  | (apply wp_mod; (· omega))
  | (apply wp_div; (· omega))
  | (apply wp_mul; (· omega))
  | (apply wp_powN; (· (simp only [Int.reduceToNat]; rfl)); (· omega); (· omega))
  | refine wp_neg ?_
  | refine wp_isN ?_
  | refine wp_isNI ?_
  | refine wp_bMax ?_
  | refine wp_bMin ?_
  | refine wp_bAbs ?_
  | refine wp_bInt ?_
  | (apply wp_bDivmod; (· omega))
  | refine tr_bl ?_
  | refine isb ?_
  | (apply br_t; (· rfl))
  | (apply br_f; (· rfl))
  | refine br_nt ?_
  | (apply br_dt; (· omega))
  | (apply br_df; (· omega))
  | refine wp_eNot ?_
  | refine wp_eB ?_
  | refine wp_eOr ?_
  | refine wp_eAnd ?_
  | refine wp_eAndB ?_
  | refine wp_eOrB ?_
  | refine wp_eNotB ?_
  | refine wp_eIf ?_
  | refine wp_chain ?_
  | refine wp_eFld ?_
  | (apply fdat; (· walk_at "lk"); (· walk_at "rf"))
  | refine wp_eTup ?_
  | refine wp_eLst ?_
  | refine wp_listR ?_
  | (apply wp_addT; (· walk_at "sz"))
  | (apply need; (· walk_at "sz"))
  | refine intat ?_
  | refine strat ?_
  | refine nonat ?_
  | (apply wp_len; (· walk_at "sq"))
  | (apply wp_ix; (· walk_at "sq"); (· walk_at "rf"))
  | (apply wp_bTuple; (· walk_at "sq"))
  | (apply wp_bList; (· walk_at "sq"))
  | refine wp_eBM ?_
  | (apply lstat; (· walk_at "lk"))
  | (apply wp_append; (· walk_at "lk"); (· walk_at "sz"))
  | (apply wp_clear; (· walk_at "lk"))
  | refine wp_eSl ?_
  | refine wp_pSome ?_
  | refine pis ?_
  | refine wp_pNo ?_
  | refine slat_tup ?_
  | (apply slat_lst; (· walk_at "lk"))
  | (apply wf_gT; (· walk_at "rf"))
  | refine wf_gsCons ?_
  | refine wf_gsNil ?_
  | refine wf_gSub ?_
  | (apply subat; (· walk_at "lk"); (· walk_at "rf"))
  | refine wf_sFld ?_
  | (apply fldat; (· walk_at "lk"); (· walk_at "sz"); (· walk_at "rf"))
  | refine wf_sPar ?_
  | (apply parat; (· walk_at "ls"))
  | refine wf_sPar3 ?_
  | (apply parat3; (· walk_at "ls"))
  | refine wp_eRev ?_
  | (apply rvat; (· walk_at "lk"))
  | refine wp_isBB ?_
  | refine wf_sFor ?_
  | refine wp_iSeq ?_
  | refine wp_iZip ?_
  | (apply zipat; (· walk_at "lk"); (· walk_at "lk"))
  | refine wp_aStar ?_
  | (apply sqat; (· walk_at "sq"))
  | refine wp_eJoinL ?_
  | refine wp_rB ?_
  | refine wp_iEnum ?_
  | refine wp_iRng1 ?_
  | refine wp_iRng2 ?_
  | refine srcat_tup ?_
  | refine srcat_scr ?_
  | (apply srcat_lst; (· walk_at "lk"))
  | refine wp_eIsi ?_
  | refine kd_int ?_
  | refine kd_bl ?_
  | refine kd_str ?_
  | refine kd_non ?_
  | refine kd_tup ?_
  | (apply kd_lst; (· walk_at "lk"))
  | (apply wp_eComp; (· walk_at "ls"))
  | (apply wp_lenO; (· walk_at "lk"))
  | (apply wp_reprO; (· walk_at "lk"))
  | refine wp_eFmt ?_
  | refine wp_eJoin ?_
  | refine jgo_cons ?_
  | refine jgo_nil ?_
  | walk_at "call")
local macro_rules | `(tactic| walk_at "go") => `(tactic| repeat (with_reducible first
  | (apply wp_eV; (· walk_at "rf"))
  | refine wp_eC ?_
  | refine wp_e2 ?_
  | refine wp_e1 ?_
  | refine wp_aCons ?_
  | refine wp_aNil ?_
  | refine wp_eA ?_
  | refine wf_seq ?_
  | refine wf_Asg ?_
  | (apply wf_gN; (· walk_at "ls"))
  | refine wf_E ?_
  | refine wf_Ret ?_
  | refine wf_If ?_
  | refine wf_nil ?_
  | refine wp_eCall ?_
  | (apply wp_opF0; (· with_unfolding_all exact ⟨rfl, rfl⟩))
  | refine wp_eMeth ?_
  | (apply insat; (· walk_at "lk"))
  | refine wp_add ?_
  | refine wp_sub ?_
  | refine wp_lt ?_
  | refine wp_le ?_
  | refine wp_gt ?_
  | refine wp_ge ?_
  | (apply br_kt; (· with_unfolding_all rfl))
  | (apply br_kf; (· with_unfolding_all rfl))
  | refine wp_eqW ?_
  | refine wp_neW ?_
  | refine wp_eqB ?_
  | refine wp_neB ?_
  | (apply wp_lastW; (· assumption))
  | (apply wp_headW; (· assumption))
  | refine wp_inW ?_
  | refine wp_ninW ?_
  | refine wp_eqRow0 ?_
  | refine wp_neRow0 ?_
  | refine wp_eDisp ?_
  | refine pairs_cons ?_
  | refine pairs_nil ?_
  | refine keyat_s ?_
  | refine wf_sDputK ?_
  | (apply dputk_s; (· walk_at "lk"); (· exact lt_line (by omega)))
  | refine wp_eGet1 ?_
  | refine wp_eGet2 ?_
  | refine wp_ePop ?_
  | (apply dctat; (· walk_at "lk"))
  | (apply wp_dg; (· walk_at "lk"); (· assumption))
  | (apply wp_bDict; (· walk_at "lk"))
  | refine wp_eTM ?_
  | refine tupat ?_
  | (apply wp_tupIx; (· assumption))
  | refine wp_eCallV ?_
  | refine fnat ?_
  | refine wp_eqI ?_
  | refine wp_neI ?_
  | refine wp_eqS ?_
  | refine wp_neS ?_
  | (apply wp_mod; (· omega))
  | (apply wp_div; (· omega))
  | (apply wp_mul; (· omega))
  | (apply wp_powN; (· (simp only [Int.reduceToNat]; rfl)); (· omega); (· omega))
  | refine wp_neg ?_
  | refine wp_isN ?_
  | refine wp_isNI ?_
  | refine wp_bMax ?_
  | refine wp_bMin ?_
  | refine wp_bAbs ?_
  | refine wp_bInt ?_
  | (apply wp_bDivmod; (· omega))
  | refine tr_bl ?_
  | refine isb ?_
  | (apply br_t; (· rfl))
  | (apply br_f; (· rfl))
  | refine br_nt ?_
  | (apply br_dt; (· omega))
  | (apply br_df; (· omega))
  | refine wp_eNot ?_
  | refine wp_eB ?_
  | refine wp_eOr ?_
  | refine wp_eAnd ?_
  | refine wp_eAndB ?_
  | refine wp_eOrB ?_
  | refine wp_eNotB ?_
  | refine wp_eIf ?_
  | refine wp_chain ?_
  | refine wp_eFld ?_
  | (apply fdat; (· walk_at "lk"); (· walk_at "rf"))
  | refine wp_eTup ?_
  | refine wp_eLst ?_
  | refine wp_listR ?_
  | (apply wp_addT; (· walk_at "sz"))
  | (apply need; (· walk_at "sz"))
  | refine intat ?_
  | refine strat ?_
  | refine nonat ?_
  | (apply wp_len; (· walk_at "sq"))
  | (apply wp_ix; (· walk_at "sq"); (· walk_at "rf"))
  | (apply wp_bTuple; (· walk_at "sq"))
  | (apply wp_bList; (· walk_at "sq"))
  | refine wp_eBM ?_
  | (apply lstat; (· walk_at "lk"))
  | (apply wp_append; (· walk_at "lk"); (· walk_at "sz"))
  | (apply wp_clear; (· walk_at "lk"))
  | refine wp_eSl ?_
  | refine wp_pSome ?_
  | refine pis ?_
  | refine wp_pNo ?_
  | refine slat_tup ?_
  | (apply slat_lst; (· walk_at "lk"))
  | (apply wf_gT; (· walk_at "rf"))
  | refine wf_gsCons ?_
  | refine wf_gsNil ?_
  | refine wf_gSub ?_
  | (apply subat; (· walk_at "lk"); (· walk_at "rf"))
  | refine wf_sFld ?_
  | (apply fldat; (· walk_at "lk"); (· walk_at "sz"); (· walk_at "rf"))
  | refine wf_sPar ?_
  | (apply parat; (· walk_at "ls"))
  | refine wf_sPar3 ?_
  | (apply parat3; (· walk_at "ls"))
  | refine wp_eRev ?_
  | (apply rvat; (· walk_at "lk"))
  | refine wp_isBB ?_
  | refine wf_sFor ?_
  | refine wp_iSeq ?_
  | refine wp_iZip ?_
  | (apply zipat; (· walk_at "lk"); (· walk_at "lk"))
  | refine wp_aStar ?_
  | (apply sqat; (· walk_at "sq"))
  | refine wp_eJoinL ?_
  | refine wp_rB ?_
  | refine wp_iEnum ?_
  | refine wp_iRng1 ?_
  | refine wp_iRng2 ?_
  | refine srcat_tup ?_
  | refine srcat_scr ?_
  | (apply srcat_lst; (· walk_at "lk"))
  | refine wp_eIsi ?_
  | refine kd_int ?_
  | refine kd_bl ?_
  | refine kd_str ?_
  | refine kd_non ?_
  | refine kd_tup ?_
  | (apply kd_lst; (· walk_at "lk"))
  | (apply wp_eComp; (· walk_at "ls"))
  | (apply wp_lenO; (· walk_at "lk"))
  | (apply wp_reprO; (· walk_at "lk"))
  | refine wp_eFmt ?_
  | refine wp_eJoin ?_
  | refine jgo_cons ?_
  | refine jgo_nil ?_
  | refine wf_Raise1 ?_
  | refine wf_Raise0 ?_
  | refine wf_Try ?_
  | (apply wp_eXf; (· walk_at "rf"))
  | walk_at "call"))
/-- into a def -/
local macro_rules | `(tactic| walk_at "into") => `(tactic| (refine wp_runF (by walk_at "rf") (by walk_at "ls") ?_))
/-- on, through all branches -/
local macro_rules | `(tactic| walk_at "br") => `(tactic| repeat' (first | walk_at "run" | (with_reducible apply br_dt; (· assumption)) | (with_reducible apply br_df; (· assumption)) | (with_reducible apply br_t; (· assumption)) | (with_reducible apply br_f; (· assumption)) | (with_reducible refine br_d (fun _ => ?_) (fun _ => ?_)) | (with_reducible refine br_s (fun _ => ?_) (fun _ => ?_)) | (intro d ed)))
section
variable {E : EP} {Q : D → LH → Prop} {h : LH}
theorem beside_w {p n : Nat} {R : Ru} (P : Pot h p) (A : RF o0 h n R) (K : Ok R) (hs : R.holds.Sublist [12, 13, 14, 15]) (q : ∀ k h1 T, h.length ≤ k → RF o0 h1 k T → Ok T → T.holds.Sublist [12, 13, 14, 15] → Pot h1 p → Ext [p] h h1 → Q (.ref k) h1) :
    WP (f__law_beside [.ref p, .ref n] h) Q E := by
  have pl := P.lt
  have np := A.np P
  have nl := A.lt
  have e : h[n]? = some (.dct (kvR o0 R)) := A
  have RK := rulesK_kv (R := R) od0
  have t1 := RK.holds
  have few : ∀ T, (kvR o0 T).length ≤ 30 := fun T => by rw [kvR_len]; decide
  have fw := few R
  unfold f__law_beside b__law_beside
  walk_at "into"
  walk_at "go"
  intro k h1 l1 x1 a1
  have P1 := P.ext x1 (by simp)
  have e1 := x1.get0 e
  have kl := lt_of_at a1
  have b1 := x1.1
  walk_at "go"
  refine any_w P1 ?_
  intro m h2 S l2 B2 KS hS P2 x2
  have e2 := x2.get1 e1 np
  have a2 := x2.get1 a1 (by omega)
  have y2 : Ext [p] h h2 := (x1.w0).trans x2
  have b2 := x2.1
  have SK := rulesK_kv (R := S) od0
  have s1 := SK.holds
  walk_at "go"
  refine draw_w P2 (by omega) ?_
  intro w h3 lw P3 x3
  have ml := B2.lt
  have pl2 := P2.lt
  have e3 := x3.get1 e2 np
  have a3 := x3.get1 a2 (by omega)
  have B3 := B2.ext x3 (by simp; omega)
  have y3 : Ext [p] h h3 := y2.trans x3
  have b3 := x3.1
  clear e e1 e2 a1 a2 P P1 P2 A B2 x1 x2 x3 y2
  have f3 : h3[m]? = some (.dct (kvR o0 S)) := B3
  have fin : ∀ (T : Ru) (h4 h5 : LH), Ext [p] h3 h4 → Pot h4 p → Ok T → T.holds.Sublist [12, 13, 14, 15] → Ext [k] h4 h5 → h5[k]? = some (.dct (kvR o0 T)) → Q (.ref k) h5 := by
    intro T h4 h5 x4 P4 KT hT x5 a5
    exact q k h5 T l1 a5 KT hT (P4.ext x5 (by simp; omega)) ((y3.trans x4).new x5 l1)
  walk_at "go"
  refine br_d (fun c1 => ?_) (fun c1 => ?_)
  · walk_at "go"
    intro h5 x5 a5 _
    rw [putF4 od0] at a5
    walk_at "go"
    exact fin { R with holds := S.holds } h3 h5 Ext.rfl' P3 ⟨K.fails, K.batch, KS.holds, K.take, K.late, K.give, K.move, K.own, K.lift⟩ hS x5 a5
  walk_at "go"
  refine br_d (fun c2 => ?_) (fun c2 => ?_)
  · walk_at "go"
    have ko := K.holds
    unfold rowOk at ko
    rw [Bool.and_eq_true, decide_eq_true_eq, decide_eq_true_eq] at ko
    have hl20 := nodup_lenW R.holds ko.2
    refine wp_comp (fun i => (D.str (wd (R.holds.getD i 0)))) R.holds.length (fun i acc h' => ∃ gs : List W, acc = rowD gs ∧ gs.length ≤ i ∧ gs.Sublist (R.holds.take i) ∧ Pot h' p ∧ Ext [p] h3 h') (by omega) ⟨[], rfl, Nat.le_refl _, List.nil_sublist _, P3, Ext.rfl'⟩ ?_ ?_
    · rintro acc h4 ⟨gs, rfl, hl, sb, P4, x4⟩
      refine ⟨?_, ?_⟩
      · show some (rowD R.holds)[R.holds.length]? = some none
        rw [List.getElem?_eq_none (by rw [row_len]; omega)]
      intro n5 h5 l5 x5 a5
      have a45 := x5.get0 (x4.get1 a3 (by omega))
      have P5 := P4.ext x5 (by simp)
      have sb2 : gs.Sublist [12, 13, 14, 15] := (by simpa using sb : gs.Sublist R.holds).trans hs
      walk_at "go"
      intro h6 x6 a6 _
      rw [putF4 od0] at a6
      walk_at "go"
      exact fin { R with holds := gs } h5 h6 (x4.then0 x5) P5 ⟨K.fails, K.batch, sub_ok gs sb2, K.take, K.late, K.give, K.move, K.own, K.lift⟩ sb2 x6 a6
    · rintro i acc h4 li ⟨gs, rfl, hl, sb, P4, x4⟩
      have eg : R.holds[i]? = some (R.holds.getD i 0) := by simp [List.getD, List.getElem?_eq_getElem li]
      refine ⟨?_, _, rfl, ?_⟩
      · show some (rowD R.holds)[i]? = _
        rw [row_at, eg]; rfl
      walk_at "go"
      refine draw_w P4 (by omega) ?_
      intro j h5 lj P5 x5
      have tk : R.holds.take (i + 1) = R.holds.take i ++ [R.holds.getD i 0] := by rw [List.take_succ, eg]; rfl
      walk_at "go"
      refine br_d (fun c => ?_) (fun c => ?_)
      · walk_at "go"
        refine need (by rw [row_len]; exact lt_line (by omega)) ?_
        exact ⟨gs ++ [R.holds.getD i 0], by rw [row_app]; rfl, by simp; omega, by rw [tk]; exact sb.append_right _, P5, x4.trans x5⟩
      · exact ⟨gs, rfl, by omega, by rw [tk]; exact sb.trans (List.sublist_append_left _ _), P5, x4.trans x5⟩
  walk_at "go"
  refine br_d (fun c3 => ?_) (fun c3 => ?_)
  · walk_at "go"
    refine exch_w P3 e3 B3 K KS hs ?_
    intro k4 h4 T l4 A4 KT hT P4 x4
    walk_at "go"
    exact q k4 h4 T (by omega) A4 KT hT P4 (y3.trans x4)
  · have w5 : w = 5 := by omega
    subst w5
    walk_at "go"
    refine draw_w P3 (by omega) ?_
    intro j h4 lj P4 x4
    have a4 := x4.get1 a3 (by omega)
    have f4 := x4.get1 f3 (by omega)
    walk_at "go"
    refine br_d (fun c => ?_) (fun c => ?_)
    · walk_at "go"
      exact q m h4 S (by omega) f4 KS hS P4 (y3.trans x4)
    · walk_at "go"
      exact q k h4 R l1 a4 K hs P4 (y3.trans x4)
end
end
end Lw

set_option Elab.async false
set_option linter.all false
set_option maxRecDepth 100000
set_option maxHeartbeats 4000000
namespace Lw
open Py Ev PySem
section
local macro_rules | `(tactic| walk_at "rf") => `(tactic| with_unfolding_all exact rfl)
local macro_rules | `(tactic| walk_at "nin") => `(tactic| first | exact List.not_mem_nil | (simp only [List.mem_cons, List.not_mem_nil, or_false, not_or]; omega))
local macro_rules | `(tactic| walk_at "lk") => `(tactic| first | assumption | (refine Ext.get (by assumption) ?_ ?_; (walk_at "lk"); (walk_at "nin")))
local macro_rules | `(tactic| walk_at "sq") => `(tactic| first | exact seq_tup | exact seq_scr | exact SeqOf.seq (by assumption) | exact seq_lst (by walk_at "lk"))
local macro_rules | `(tactic| walk_at "sz") => `(tactic| first | omega | (simp only [List.length_cons, List.length_nil, List.length_append, List.length_map, List.length_replicate, iD_len, sizeLine]; omega))
local macro_rules | `(tactic| walk_at "ls") => `(tactic| (simp only [List.set_cons_succ, List.set_cons_zero, List.map_cons, List.map_nil, List.replicate_succ, List.replicate_zero, List.cons_append, List.nil_append, wipeL]; rfl))
local macro_rules | `(tactic| walk_at "call") => `(tactic| fail)
local macro_rules | `(tactic| walk_at "run") => `(tactic| with_reducible first
  | (apply wp_eV; (· walk_at "rf"))
  | refine wp_eC ?_
  | refine wp_e2 ?_
  | refine wp_e1 ?_
  | refine wp_aCons ?_
  | refine wp_aNil ?_
  | refine wp_eA ?_
  | refine wf_seq ?_
  | refine wf_Asg ?_
  | (apply wf_gN; (· walk_at "ls"))
  | refine wf_E ?_
  | refine wf_Ret ?_
  | refine wf_If ?_
  | refine wf_nil ?_
  | refine wp_eCall ?_
  | (apply wp_opF0; (· with_unfolding_all exact ⟨rfl, rfl⟩))
  | refine wp_eMeth ?_
  | (apply insat; (· walk_at "lk"))
  | refine wp_add ?_
  | refine wp_sub ?_
  | refine wp_lt ?_
  | refine wp_le ?_
  | refine wp_gt ?_
  | refine wp_ge ?_
  | (apply br_kt; (· with_unfolding_all rfl))
  | (apply br_kf; (· with_unfolding_all rfl))
  | refine wp_eqW ?_
  | refine wp_neW ?_
  | refine wp_eqB ?_
  | refine wp_neB ?_
  | (apply wp_lastW; (· assumption))
  | (apply wp_headW; (· assumption))
  | refine wp_inW ?_
  | refine wp_ninW ?_
  | refine wp_eqRow0 ?_
  | refine wp_neRow0 ?_
  | refine wp_eDisp ?_
  | refine pairs_cons ?_
  | refine pairs_nil ?_
  | refine keyat_s ?_
  | refine wf_sDputK ?_
  | (apply dputk_s; (· walk_at "lk"); (· exact lt_line (by omega)))
  | refine wp_eGet1 ?_
  | refine wp_eGet2 ?_
  | refine wp_ePop ?_
  | (apply dctat; (· walk_at "lk"))
  | (apply wp_dg; (· walk_at "lk"); (· assumption))
  | (apply wp_bDict; (· walk_at "lk"))
  | refine wp_eTM ?_
  | refine tupat ?_
  | (apply wp_tupIx; (· assumption))
  | refine wp_eCallV ?_
  | refine fnat ?_
  | refine wp_eqI ?_
  | refine wp_neI ?_
  | refine wp_eqS ?_
  | refine wp_neS ?_
  | (apply wp_mod; (· omega))
  | (apply wp_div; (· omega))
  | (apply wp_mul; (· omega))
  | (apply wp_powN; (· (simp only [Int.reduceToNat]; rfl)); (· omega); (· omega))
  | refine wp_neg ?_
  | refine wp_isN ?_
  | refine wp_isNI ?_
  | refine wp_bMax ?_
  | refine wp_bMin ?_
  | refine wp_bAbs ?_
  | refine wp_bInt ?_
  | (apply wp_bDivmod; (· omega))
  | refine tr_bl ?_
  | refine isb ?_
  | (apply br_t; (· rfl))
  | (apply br_f; (· rfl))
  | refine br_nt ?_
  | (apply br_dt; (· omega))
  | (apply br_df; (· omega))
  | refine wp_eNot ?_
  | refine wp_eB ?_
  | refine wp_eOr ?_
  | refine wp_eAnd ?_
  | refine wp_eAndB ?_
  | refine wp_eOrB ?_
  | refine wp_eNotB ?_
  | refine wp_eIf ?_
  | refine wp_chain ?_
  | refine wp_eFld ?_
  | (apply fdat; (· walk_at "lk"); (· walk_at "rf"))
  | refine wp_eTup ?_
  | refine wp_eLst ?_
  | refine wp_listR ?_
  | (apply wp_addT; (· walk_at "sz"))
  | (apply need; (· walk_at "sz"))
  | refine intat ?_
  | refine strat ?_
  | refine nonat ?_
  | (apply wp_len; (· walk_at "sq"))
  | (apply wp_ix; (· walk_at "sq"); (· walk_at "rf"))
  | (apply wp_bTuple; (· walk_at "sq"))
  | (apply wp_bList; (· walk_at "sq"))
  | refine wp_eBM ?_
  | (apply lstat; (· walk_at "lk"))
  | (apply wp_append; (· walk_at "lk"); (· walk_at "sz"))
  | (apply wp_clear; (· walk_at "lk"))
  | refine wp_eSl ?_
  | refine wp_pSome ?_
  | refine pis ?_
  | refine wp_pNo ?_
  | refine slat_tup ?_
  | (apply slat_lst; (· walk_at "lk"))
  | (apply wf_gT; (· walk_at "rf"))
  | refine wf_gsCons ?_
  | refine wf_gsNil ?_
  | refine wf_gSub ?_
  | (apply subat; (· walk_at "lk"); (· walk_at "rf"))
  | refine wf_sFld ?_
  | (apply fldat; (· walk_at "lk"); (· walk_at "sz"); (· walk_at "rf"))
  | refine wf_sPar ?_
  | (apply parat; (· walk_at "ls"))
  | refine wf_sPar3 ?_
  | (apply parat3; (· walk_at "ls"))
  | refine wp_eRev ?_
  | (apply rvat; (· walk_at "lk"))
  | refine wp_isBB ?_
  | refine wf_sFor ?_
  | refine wp_iSeq ?_
  | refine wp_iZip ?_
  | (apply zipat; (· walk_at "lk"); (· walk_at "lk"))
  | refine wp_aStar ?_
  | (apply sqat; (· walk_at "sq"))
  | refine wp_eJoinL ?_
  | refine wp_rB ?_
  | refine wp_iEnum ?_
  | refine wp_iRng1 ?_
  | refine wp_iRng2 ?_
  | refine srcat_tup ?_
  | refine srcat_scr ?_
  | (apply srcat_lst; (· walk_at "lk"))
  | refine wp_eIsi ?_
  | refine kd_int ?_
  | refine kd_bl ?_
  | refine kd_str ?_
  | refine kd_non ?_
  | refine kd_tup ?_
  | (apply kd_lst; (· walk_at "lk"))
  | (apply wp_eComp; (· walk_at "ls"))
  | (apply wp_lenO; (· walk_at "lk"))
  | (apply wp_reprO; (· walk_at "lk"))
  | refine wp_eFmt ?_
  | refine wp_eJoin ?_
  | refine jgo_cons ?_
  | refine jgo_nil ?_
  | walk_at "call")
local macro_rules | `(tactic| walk_at "go") => `(tactic| repeat (with_reducible first
  | (apply wp_eV; (· walk_at "rf"))
  | refine wp_eC ?_
  | refine wp_e2 ?_
  | refine wp_e1 ?_
  | refine wp_aCons ?_
  | refine wp_aNil ?_
  | refine wp_eA ?_
  | refine wf_seq ?_
  | refine wf_Asg ?_
  | (apply wf_gN; (· walk_at "ls"))
  | refine wf_E ?_
  | refine wf_Ret ?_
  | refine wf_If ?_
  | refine wf_nil ?_
  | refine wp_eCall ?_
  | (apply wp_opF0; (· with_unfolding_all exact ⟨rfl, rfl⟩))
  | refine wp_eMeth ?_
  | (apply insat; (· walk_at "lk"))
  | refine wp_add ?_
  | refine wp_sub ?_
  | refine wp_lt ?_
  | refine wp_le ?_
  | refine wp_gt ?_
  | refine wp_ge ?_
  | (apply br_kt; (· with_unfolding_all rfl))
  | (apply br_kf; (· with_unfolding_all rfl))
  | refine wp_eqW ?_
  | refine wp_neW ?_
  | refine wp_eqB ?_
  | refine wp_neB ?_
  | (apply wp_lastW; (· assumption))
  | (apply wp_headW; (· assumption))
  | refine wp_inW ?_
  | refine wp_ninW ?_
  | refine wp_eqRow0 ?_
  | refine wp_neRow0 ?_
  | refine wp_eDisp ?_
  | refine pairs_cons ?_
  | refine pairs_nil ?_
  | refine keyat_s ?_
  | refine wf_sDputK ?_
  | (apply dputk_s; (· walk_at "lk"); (· exact lt_line (by omega)))
  | refine wp_eGet1 ?_
  | refine wp_eGet2 ?_
  | refine wp_ePop ?_
  | (apply dctat; (· walk_at "lk"))
  | (apply wp_dg; (· walk_at "lk"); (· assumption))
  | (apply wp_bDict; (· walk_at "lk"))
  | refine wp_eTM ?_
  | refine tupat ?_
  | (apply wp_tupIx; (· assumption))
  | refine wp_eCallV ?_
  | refine fnat ?_
  | refine wp_eqI ?_
  | refine wp_neI ?_
  | refine wp_eqS ?_
  | refine wp_neS ?_
  | (apply wp_mod; (· omega))
  | (apply wp_div; (· omega))
  | (apply wp_mul; (· omega))
  | (apply wp_powN; (· (simp only [Int.reduceToNat]; rfl)); (· omega); (· omega))
  | refine wp_neg ?_
  | refine wp_isN ?_
  | refine wp_isNI ?_
  | refine wp_bMax ?_
  | refine wp_bMin ?_
  | refine wp_bAbs ?_
  | refine wp_bInt ?_
  | (apply wp_bDivmod; (· omega))
  | refine tr_bl ?_
  | refine isb ?_
  | (apply br_t; (· rfl))
  | (apply br_f; (· rfl))
  | refine br_nt ?_
  | (apply br_dt; (· omega))
  | (apply br_df; (· omega))
  | refine wp_eNot ?_
  | refine wp_eB ?_
  | refine wp_eOr ?_
  | refine wp_eAnd ?_
  | refine wp_eAndB ?_
  | refine wp_eOrB ?_
  | refine wp_eNotB ?_
  | refine wp_eIf ?_
  | refine wp_chain ?_
  | refine wp_eFld ?_
  | (apply fdat; (· walk_at "lk"); (· walk_at "rf"))
  | refine wp_eTup ?_
  | refine wp_eLst ?_
  | refine wp_listR ?_
  | (apply wp_addT; (· walk_at "sz"))
  | (apply need; (· walk_at "sz"))
  | refine intat ?_
  | refine strat ?_
  | refine nonat ?_
  | (apply wp_len; (· walk_at "sq"))
  | (apply wp_ix; (· walk_at "sq"); (· walk_at "rf"))
  | (apply wp_bTuple; (· walk_at "sq"))
  | (apply wp_bList; (· walk_at "sq"))
  | refine wp_eBM ?_
  | (apply lstat; (· walk_at "lk"))
  | (apply wp_append; (· walk_at "lk"); (· walk_at "sz"))
  | (apply wp_clear; (· walk_at "lk"))
  | refine wp_eSl ?_
  | refine wp_pSome ?_
  | refine pis ?_
  | refine wp_pNo ?_
  | refine slat_tup ?_
  | (apply slat_lst; (· walk_at "lk"))
  | (apply wf_gT; (· walk_at "rf"))
  | refine wf_gsCons ?_
  | refine wf_gsNil ?_
  | refine wf_gSub ?_
  | (apply subat; (· walk_at "lk"); (· walk_at "rf"))
  | refine wf_sFld ?_
  | (apply fldat; (· walk_at "lk"); (· walk_at "sz"); (· walk_at "rf"))
  | refine wf_sPar ?_
  | (apply parat; (· walk_at "ls"))
  | refine wf_sPar3 ?_
  | (apply parat3; (· walk_at "ls"))
  | refine wp_eRev ?_
  | (apply rvat; (· walk_at "lk"))
  | refine wp_isBB ?_
  | refine wf_sFor ?_
  | refine wp_iSeq ?_
  | refine wp_iZip ?_
  | (apply zipat; (· walk_at "lk"); (· walk_at "lk"))
  | refine wp_aStar ?_
  | (apply sqat; (· walk_at "sq"))
  | refine wp_eJoinL ?_
  | refine wp_rB ?_
  | refine wp_iEnum ?_
  | refine wp_iRng1 ?_
  | refine wp_iRng2 ?_
  | refine srcat_tup ?_
  | refine srcat_scr ?_
  | (apply srcat_lst; (· walk_at "lk"))
  | refine wp_eIsi ?_
  | refine kd_int ?_
  | refine kd_bl ?_
  | refine kd_str ?_
  | refine kd_non ?_
  | refine kd_tup ?_
  | (apply kd_lst; (· walk_at "lk"))
  | (apply wp_eComp; (· walk_at "ls"))
  | (apply wp_lenO; (· walk_at "lk"))
  | (apply wp_reprO; (· walk_at "lk"))
  | refine wp_eFmt ?_
  | refine wp_eJoin ?_
  | refine jgo_cons ?_
  | refine jgo_nil ?_
  | refine wf_Raise1 ?_
  | refine wf_Raise0 ?_
  | refine wf_Try ?_
  | (apply wp_eXf; (· walk_at "rf"))
  | walk_at "call"))
/-- into a def -/
local macro_rules | `(tactic| walk_at "into") => `(tactic| (refine wp_runF (by walk_at "rf") (by walk_at "ls") ?_))
/-- on, through all branches -/
local macro_rules | `(tactic| walk_at "br") => `(tactic| repeat' (first | walk_at "run" | (with_reducible apply br_dt; (· assumption)) | (with_reducible apply br_df; (· assumption)) | (with_reducible apply br_t; (· assumption)) | (with_reducible apply br_f; (· assumption)) | (with_reducible refine br_d (fun _ => ?_) (fun _ => ?_)) | (with_reducible refine br_s (fun _ => ?_) (fun _ => ?_)) | (intro d ed)))
/-! ### what is the same in two rules -/
def same (R S : Ru) (p : Pt) : Bool := match p.val with
  | 0 => decide (R.fails = S.fails)
  | 1 => R.shared == S.shared
  | 2 => decide ((R.batch : Int) = (S.batch : Int))
  | 3 => R.settles == S.settles
  | 4 => decide (R.holds = S.holds)
  | 5 => decide (R.take = S.take)
  | 6 => decide (R.give = S.give)
  | 7 => decide (R.move = S.move)
  | _ => decide (R.lift = S.lift)
def pp (R : Ru) (p : Pt) : PyData := match p.val with
  | 0 => .str (wd R.fails)
  | 1 => .bool R.shared
  | 2 => .int (R.batch : Int)
  | 3 => .bool R.settles
  | 4 => .tuple (rowP R.holds)
  | 5 => .tuple (rowP R.take)
  | 6 => .tuple (rowP R.give)
  | 7 => .tuple (rowP R.move)
  | _ => .tuple (rowP R.lift)
theorem deep_pv {h : LH} {R : Ru} {n : Nat} : ∀ p, deep h (n + 1) (pv R p) = some (pp R p) :=
  fin9 rfl rfl rfl rfl deep_row deep_row deep_row deep_row deep_row
theorem shaped_str {c : W} : SeqAt.shaped (.str (wd c)) = true := by
  unfold SeqAt.shaped; rw [strOk_wd, PyData.depth]; rfl
theorem shaped_bool {b : Bool} : SeqAt.shaped (.bool b) = true := by
  unfold SeqAt.shaped; simp only [PyData.canLay0, PyData.depth]; rfl
theorem shaped_int {i : Int} : SeqAt.shaped (.int i) = true := by
  unfold SeqAt.shaped; simp only [PyData.canLay0, PyData.depth]; rfl
theorem shaped_pp {R : Ru} : ∀ p, SeqAt.shaped (pp R p) = true :=
  fin9 shaped_str shaped_bool shaped_int shaped_bool shaped_row shaped_row shaped_row shaped_row shaped_row
theorem eqv_str {a b : W} : PyData.eqv (.str (wd a)) (.str (wd b)) = decide (a = b) := by
  rw [PyData.eqv, ← wd_eq]; rfl
theorem eqv_bool {a b : Bool} : PyData.eqv (.bool a) (.bool b) = (a == b) := by rw [PyData.eqv]
theorem eqv_int {a b : Int} : PyData.eqv (.int a) (.int b) = decide (a = b) := by rw [PyData.eqv]; rfl
theorem eqv_pp {R S : Ru} : ∀ p, PyData.eqv (pp R p) (pp S p) = same R S p :=
  fin9 eqv_str eqv_bool eqv_int eqv_bool eqv_rowT eqv_rowT eqv_rowT eqv_rowT eqv_rowT
theorem eqKs_kv {h : LH} {o' : List Pt} {R S : Ru} (d : Od o') : ∀ o : List Pt, eqKs h (kvR o' S) (kvR o R) = some (o.all (same R S))
  | [] => rfl
  | p :: o => by
    have ih := eqKs_kv (h := h) (R := R) (S := S) d o
    show eqKs h (kvR o' S) ((.inr (pk p), pv R p) :: kvR o R) = _
    simp only [eqKs, valD_kv (d.has p), deep_pv, shaped_pp, Bool.and_self, if_true, ih, eqv_pp, Option.map_some, List.all_cons]
def pts8 : List Pt := [5, 6, 7, 8, 0, 1, 2, 3]
def sameB (R S : Ru) : Bool := pts8.all (same R S)
def eqB (R S : Ru) : Bool := sameB R S && same R S 4
def strictB (R S : Ru) : Bool := sameB R S && S.holds.all fun c => decide (c ∈ R.holds)
theorem all_o0 (R S : Ru) : o0.all (same R S) = eqB R S := by
  simp only [o0, eqB, sameB, pts8, List.all_cons, List.all_nil, Bool.and_true]
  ac_rfl
theorem all_o1 (R S : Ru) : o1.all (same R S) = eqB R S := by
  simp only [o1, eqB, sameB, pts8, List.all_cons, List.all_nil, Bool.and_true]
  ac_rfl
def otherD (R : Ru) : List D := pts8.map (pv R)
def otherP (R : Ru) : List PyData := pts8.map (pp R)
theorem mapO_pv {h : LH} {R : Ru} {n : Nat} : ∀ l : List Pt, mapO (deep h (n + 1)) (l.map (pv R)) = some (l.map (pp R))
  | [] => rfl
  | p :: l => mapO_cons (deep_pv p) (mapO_pv l)
theorem deep_other {h : LH} {n : Nat} {R : Ru} (e : h[n]? = some (.lst (otherD R))) : deep h 60 (.ref n) = some (.list (otherP R)) := deep_list e (mapO_pv pts8)
theorem eqvAll_pp {R S : Ru} : ∀ l : List Pt, PyData.eqvAll (l.map (pp R)) (l.map (pp S)) = l.all (same R S)
  | [] => by simp [PyData.eqvAll]
  | p :: l => by
    have ih := eqvAll_pp (R := R) (S := S) l
    rw [List.map_cons, List.map_cons, PyData.eqvAll, ih, eqv_pp, List.all_cons]
theorem shaped_other {R : Ru} : SeqAt.shaped (.list (otherP R)) = true := by
  have e (cs : List W) : PyData.canLay0 (.tuple (rowP cs)) = true := by rw [PyData.canLay0, lay_row]
  have k : PyData.strOk (wd R.fails) = true := by have := strOk_wd R.fails; rwa [PyData.canLay0] at this
  show SeqAt.shaped (.list [.tuple (rowP R.take), .tuple (rowP R.give), .tuple (rowP R.move), .tuple (rowP R.lift), .str (wd R.fails), .bool R.shared, .int (R.batch : Int), .bool R.settles]) = true
  unfold SeqAt.shaped
  simp only [PyData.canLay0, PyData.canLayAll0, e, k, lay_row, PyData.depth, PyData.depthAll, depth_row]
  decide
theorem filter_sub {s l : List W} (b : s.Sublist l) : l.Nodup → (l.filter fun c => decide (c ∈ s)) = s := by
  induction b with
  | slnil => intro _; rfl
  | @cons s l a b ih =>
    intro nd
    rw [List.nodup_cons] at nd
    have na : a ∉ s := fun m => nd.1 (b.subset m)
    rw [List.filter_cons, decide_eq_false na]
    exact ih nd.2
  | @cons_cons s l a b ih =>
    intro nd
    rw [List.nodup_cons] at nd
    rw [List.filter_cons, decide_eq_true (List.mem_cons_self ..)]
    simp only [if_true]
    congr 1
    have : ∀ c ∈ l, decide (c ∈ a :: s) = decide (c ∈ s) := fun c m => by
      have ne : ¬ c = a := fun z => nd.1 (z ▸ m)
      rw [decide_eq_decide, List.mem_cons]
      exact ⟨fun z => z.resolve_left ne, .inr⟩
    rw [List.filter_congr this, ih nd.2]
theorem hold_sub {R : Ru} (hs : R.holds.Sublist [12, 13, 14, 15]) : holdQ R = R.holds := filter_sub hs (by decide)
section
variable {E : EP} {Q : D → LH → Prop} {h : LH}
theorem eqD_w {o : List Pt} {n m : Nat} {R S : Ru} {neg : Bool} (d : Od o) (ao : ∀ R S, o.all (same R S) = eqB R S) (A : IsD h n (kvR o R)) (B : IsD h m (kvR o S)) (q : Q (.bl (if neg then !eqB R S else eqB R S)) h) : WP (oEqK neg (.ref n) (.ref m) h) Q E :=
  wp_eqK A B (eqKs_kv d o) (by rw [kvR_len, kvR_len, ao, beq_self_eq_true, Bool.true_and]; exact q)
theorem nePart_a {R S : Ru} : ∀ p : Pt, Q (.bl (!same R S p)) h → WP (oEq true (pv R p) (pv S p) h) Q E := by
  refine fin9 ?_ ?_ ?_ ?_ ?_ ?_ ?_ ?_ ?_
  all_goals intro q
  · exact wp_neW q
  · exact wp_neB q
  · exact wp_neI q
  · exact wp_neB q
  all_goals exact wp_neRow q
theorem nePart_w {R S : Ru} {p : Pt} (q : Q (.bl (!same R S p)) h) : WP (oEq true (pv R p) (pv S p) h) Q E := nePart_a p q
/-! ### books -/
theorem others_w {b : Nat} {R : Ru} (B : BookAt h b R) (q : ∀ n h1, h.length ≤ n → Ext [] h h1 → h1[n]? = some (.lst (otherD R)) → Q (.ref n) h1) : WP (f_Book_others [.ref b] h) Q E := by
  obtain ⟨d, B⟩ := B
  have e := B.ins
  have a := B.dct
  unfold f_Book_others b_Book_others
  walk_at "into"
  walk_at "go"
  refine wp_aStarV ?_
  walk_at "go"
  refine need (by show 8 ≤ sizeLine; decide) ?_
  intro n h1 l1 x1 a1
  exact q n h1 l1 x1 a1
theorem beq_w {b c : Nat} {R S : Ru} (B : BookAt h b R) (C : BookAt h c S) (hR : R.holds.Sublist [12, 13, 14, 15]) (hS : S.holds.Sublist [12, 13, 14, 15]) (q : ∀ h1, Ext [] h h1 → Q (.bl (eqB R S)) h1) : WP (f_Book___eq__ [.ref b, .ref c] h) Q E := by
  obtain ⟨d1, B1⟩ := id B
  obtain ⟨d2, C1⟩ := id C
  have e1 := B1.ins
  have e2 := C1.ins
  rw [hold_sub hR] at e1
  rw [hold_sub hS] at e2
  unfold f_Book___eq__ b_Book___eq__
  walk_at "into"
  walk_at "go"
  refine wp_isO e2 rfl ?_
  walk_at "go"
  refine others_w B ?_
  intro n1 h1 l1 x1 a1
  walk_at "go"
  refine others_w (C.ext x1) ?_
  intro n2 h2 l2 x2 a2
  walk_at "go"
  refine wp_eqR (deep_other (x2.get0 a1)) (deep_other a2) (by rw [shaped_other, shaped_other]; rfl) ?_
  rw [PyData.eqv, otherP, otherP, eqvAll_pp]
  have f1 := x2.get0 (x1.get0 e1)
  have f2 := x2.get0 (x1.get0 e2)
  refine isb ?_
  refine br_s (fun z => ?_) (fun z => ?_)
  · walk_at "go"
    refine wp_eqRow ?_
    exact qb (q h2 (x1.trans x2)) (by
      have z : sameB R S = true := z
      unfold eqB; rw [z]; rfl)
  · exact qb (q h2 (x1.trans x2)) (by
      have z : sameB R S = false := z
      unfold eqB; rw [z]; rfl)
theorem strict_w {b c : Nat} {R S : Ru} (B : BookAt h b R) (C : BookAt h c S) (hR : R.holds.Sublist [12, 13, 14, 15]) (hS : S.holds.Sublist [12, 13, 14, 15]) (q : ∀ h1, Ext [] h h1 → Q (.bl (strictB R S)) h1) : WP (f_Book_is_as_strict [.ref b, .ref c] h) Q E := by
  obtain ⟨d1, B1⟩ := id B
  obtain ⟨d2, C1⟩ := id C
  have e1 := B1.ins
  have e2 := C1.ins
  rw [hold_sub hR] at e1
  rw [hold_sub hS] at e2
  have hl : S.holds.length ≤ 20 := by have := hS.length_le; simp at this; omega
  unfold f_Book_is_as_strict b_Book_is_as_strict
  walk_at "into"
  walk_at "go"
  refine others_w B ?_
  intro n1 h1 l1 x1 a1
  walk_at "go"
  refine others_w (C.ext x1) ?_
  intro n2 h2 l2 x2 a2
  walk_at "go"
  refine wp_eqR (deep_other (x2.get0 a1)) (deep_other a2) (by rw [shaped_other, shaped_other]; rfl) ?_
  rw [PyData.eqv, otherP, otherP, eqvAll_pp]
  have f1 := x2.get0 (x1.get0 e1)
  have f2 := x2.get0 (x1.get0 e2)
  show Tr (.bl (!sameB R S)) _ _
  refine tr_bl ?_
  refine br_nt (br_s (fun z => ?_) (fun z => ?_))
  · walk_at "go"
    refine wp_mapF (fun c => .str (wd c)) S.holds (fun c => .bl (decide (c ∈ R.holds))) gives_its (by omega) ?_ ?_
    · intro c mc h3 x3
      refine ⟨_, rfl, ?_⟩
      have f3 := x3.get0 f1
      walk_at "go"
      exact ⟨rfl, Ext.rfl'⟩
    intro n3 h3 l3 x3 a3
    walk_at "go"
    refine wp_allB a3 ?_
    exact qb (q h3 ((x1.trans x2).trans x3)) (by unfold strictB; rw [z]; rfl)
  · walk_at "go"
    exact qb (q h2 (x1.trans x2)) (by unfold strictB; rw [z]; rfl)
end
end
end Lw

set_option Elab.async false
set_option linter.all false
set_option maxRecDepth 100000
set_option maxHeartbeats 4000000
namespace Lw
open Py Ev PySem
section
local macro_rules | `(tactic| walk_at "rf") => `(tactic| with_unfolding_all exact rfl)
local macro_rules | `(tactic| walk_at "nin") => `(tactic| first | exact List.not_mem_nil | (simp only [List.mem_cons, List.not_mem_nil, or_false, not_or]; omega))
local macro_rules | `(tactic| walk_at "lk") => `(tactic| first | assumption | (refine Ext.get (by assumption) ?_ ?_; (walk_at "lk"); (walk_at "nin")))
local macro_rules | `(tactic| walk_at "sq") => `(tactic| first | exact seq_tup | exact seq_scr | exact SeqOf.seq (by assumption) | exact seq_lst (by walk_at "lk"))
local macro_rules | `(tactic| walk_at "sz") => `(tactic| first | omega | (simp only [List.length_cons, List.length_nil, List.length_append, List.length_map, List.length_replicate, iD_len, sizeLine]; omega))
local macro_rules | `(tactic| walk_at "ls") => `(tactic| (simp only [List.set_cons_succ, List.set_cons_zero, List.map_cons, List.map_nil, List.replicate_succ, List.replicate_zero, List.cons_append, List.nil_append, wipeL]; rfl))
local macro_rules | `(tactic| walk_at "call") => `(tactic| fail)
local macro_rules | `(tactic| walk_at "run") => `(tactic| with_reducible first
  | (apply wp_eV; (· walk_at "rf"))
  | refine wp_eC ?_
  | refine wp_e2 ?_
  | refine wp_e1 ?_
  | refine wp_aCons ?_
  | refine wp_aNil ?_
  | refine wp_eA ?_
  | refine wf_seq ?_
  | refine wf_Asg ?_
  | (apply wf_gN; (· walk_at "ls"))
  | refine wf_E ?_
  | refine wf_Ret ?_
  | refine wf_If ?_
  | refine wf_nil ?_
  | refine wp_eCall ?_
  | (apply wp_opF0; (· with_unfolding_all exact ⟨rfl, rfl⟩))
  | refine wp_eMeth ?_
  | (apply insat; (· walk_at "lk"))
  | refine wp_add ?_
  | refine wp_sub ?_
  | refine wp_lt ?_
  | refine wp_le ?_
  | refine wp_gt ?_
  | refine wp_ge ?_
  | (apply br_kt; (· with_unfolding_all rfl))
  | (apply br_kf; (· with_unfolding_all rfl))
  | refine wp_eqW ?_
  | refine wp_neW ?_
  | refine wp_eqB ?_
  | refine wp_neB ?_
  | (apply wp_lastW; (· assumption))
  | (apply wp_headW; (· assumption))
  | refine wp_inW ?_
  | refine wp_ninW ?_
  | refine wp_eqRow0 ?_
  | refine wp_neRow0 ?_
  | refine wp_eDisp ?_
  | refine pairs_cons ?_
  | refine pairs_nil ?_
  | refine keyat_s ?_
  | refine wf_sDputK ?_
  | (apply dputk_s; (· walk_at "lk"); (· exact lt_line (by omega)))
  | refine wp_eGet1 ?_
  | refine wp_eGet2 ?_
  | refine wp_ePop ?_
  | (apply dctat; (· walk_at "lk"))
  | (apply wp_dg; (· walk_at "lk"); (· assumption))
  | (apply wp_bDict; (· walk_at "lk"))
  | refine wp_eTM ?_
  | refine tupat ?_
  | (apply wp_tupIx; (· assumption))
  | refine wp_eCallV ?_
  | refine fnat ?_
  | refine wp_eqI ?_
  | refine wp_neI ?_
  | refine wp_eqS ?_
  | refine wp_neS ?_
  | (apply wp_mod; (· omega))
  | (apply wp_div; (· omega))
  | (apply wp_mul; (· omega))
  | (apply wp_powN; (· (simp only [Int.reduceToNat]; rfl)); (· omega); (· omega))
  | refine wp_neg ?_
  | refine wp_isN ?_
  | refine wp_isNI ?_
  | refine wp_bMax ?_
  | refine wp_bMin ?_
  | refine wp_bAbs ?_
  | refine wp_bInt ?_
  | (apply wp_bDivmod; (· omega))
  | refine tr_bl ?_
  | refine isb ?_
  | (apply br_t; (· rfl))
  | (apply br_f; (· rfl))
  | refine br_nt ?_
  | (apply br_dt; (· omega))
  | (apply br_df; (· omega))
  | refine wp_eNot ?_
  | refine wp_eB ?_
  | refine wp_eOr ?_
  | refine wp_eAnd ?_
  | refine wp_eAndB ?_
  | refine wp_eOrB ?_
  | refine wp_eNotB ?_
  | refine wp_eIf ?_
  | refine wp_chain ?_
  | refine wp_eFld ?_
  | (apply fdat; (· walk_at "lk"); (· walk_at "rf"))
  | refine wp_eTup ?_
  | refine wp_eLst ?_
  | refine wp_listR ?_
  | (apply wp_addT; (· walk_at "sz"))
  | (apply need; (· walk_at "sz"))
  | refine intat ?_
  | refine strat ?_
  | refine nonat ?_
  | (apply wp_len; (· walk_at "sq"))
  | (apply wp_ix; (· walk_at "sq"); (· walk_at "rf"))
  | (apply wp_bTuple; (· walk_at "sq"))
  | (apply wp_bList; (· walk_at "sq"))
  | refine wp_eBM ?_
  | (apply lstat; (· walk_at "lk"))
  | (apply wp_append; (· walk_at "lk"); (· walk_at "sz"))
  | (apply wp_clear; (· walk_at "lk"))
  | refine wp_eSl ?_
  | refine wp_pSome ?_
  | refine pis ?_
  | refine wp_pNo ?_
  | refine slat_tup ?_
  | (apply slat_lst; (· walk_at "lk"))
  | (apply wf_gT; (· walk_at "rf"))
  | refine wf_gsCons ?_
  | refine wf_gsNil ?_
  | refine wf_gSub ?_
  | (apply subat; (· walk_at "lk"); (· walk_at "rf"))
  | refine wf_sFld ?_
  | (apply fldat; (· walk_at "lk"); (· walk_at "sz"); (· walk_at "rf"))
  | refine wf_sPar ?_
  | (apply parat; (· walk_at "ls"))
  | refine wf_sPar3 ?_
  | (apply parat3; (· walk_at "ls"))
  | refine wp_eRev ?_
  | (apply rvat; (· walk_at "lk"))
  | refine wp_isBB ?_
  | refine wf_sFor ?_
  | refine wp_iSeq ?_
  | refine wp_iZip ?_
  | (apply zipat; (· walk_at "lk"); (· walk_at "lk"))
  | refine wp_aStar ?_
  | (apply sqat; (· walk_at "sq"))
  | refine wp_eJoinL ?_
  | refine wp_rB ?_
  | refine wp_iEnum ?_
  | refine wp_iRng1 ?_
  | refine wp_iRng2 ?_
  | refine srcat_tup ?_
  | refine srcat_scr ?_
  | (apply srcat_lst; (· walk_at "lk"))
  | refine wp_eIsi ?_
  | refine kd_int ?_
  | refine kd_bl ?_
  | refine kd_str ?_
  | refine kd_non ?_
  | refine kd_tup ?_
  | (apply kd_lst; (· walk_at "lk"))
  | (apply wp_eComp; (· walk_at "ls"))
  | (apply wp_lenO; (· walk_at "lk"))
  | (apply wp_reprO; (· walk_at "lk"))
  | refine wp_eFmt ?_
  | refine wp_eJoin ?_
  | refine jgo_cons ?_
  | refine jgo_nil ?_
  | walk_at "call")
local macro_rules | `(tactic| walk_at "go") => `(tactic| repeat (with_reducible first
  | (apply wp_eV; (· walk_at "rf"))
  | refine wp_eC ?_
  | refine wp_e2 ?_
  | refine wp_e1 ?_
  | refine wp_aCons ?_
  | refine wp_aNil ?_
  | refine wp_eA ?_
  | refine wf_seq ?_
  | refine wf_Asg ?_
  | (apply wf_gN; (· walk_at "ls"))
  | refine wf_E ?_
  | refine wf_Ret ?_
  | refine wf_If ?_
  | refine wf_nil ?_
  | refine wp_eCall ?_
  | (apply wp_opF0; (· with_unfolding_all exact ⟨rfl, rfl⟩))
  | refine wp_eMeth ?_
  | (apply insat; (· walk_at "lk"))
  | refine wp_add ?_
  | refine wp_sub ?_
  | refine wp_lt ?_
  | refine wp_le ?_
  | refine wp_gt ?_
  | refine wp_ge ?_
  | (apply br_kt; (· with_unfolding_all rfl))
  | (apply br_kf; (· with_unfolding_all rfl))
  | refine wp_eqW ?_
  | refine wp_neW ?_
  | refine wp_eqB ?_
  | refine wp_neB ?_
  | (apply wp_lastW; (· assumption))
  | (apply wp_headW; (· assumption))
  | refine wp_inW ?_
  | refine wp_ninW ?_
  | refine wp_eqRow0 ?_
  | refine wp_neRow0 ?_
  | refine wp_eDisp ?_
  | refine pairs_cons ?_
  | refine pairs_nil ?_
  | refine keyat_s ?_
  | refine wf_sDputK ?_
  | (apply dputk_s; (· walk_at "lk"); (· exact lt_line (by omega)))
  | refine wp_eGet1 ?_
  | refine wp_eGet2 ?_
  | refine wp_ePop ?_
  | (apply dctat; (· walk_at "lk"))
  | (apply wp_dg; (· walk_at "lk"); (· assumption))
  | (apply wp_bDict; (· walk_at "lk"))
  | refine wp_eTM ?_
  | refine tupat ?_
  | (apply wp_tupIx; (· assumption))
  | refine wp_eCallV ?_
  | refine fnat ?_
  | refine wp_eqI ?_
  | refine wp_neI ?_
  | refine wp_eqS ?_
  | refine wp_neS ?_
  | (apply wp_mod; (· omega))
  | (apply wp_div; (· omega))
  | (apply wp_mul; (· omega))
  | (apply wp_powN; (· (simp only [Int.reduceToNat]; rfl)); (· omega); (· omega))
  | refine wp_neg ?_
  | refine wp_isN ?_
  | refine wp_isNI ?_
  | refine wp_bMax ?_
  | refine wp_bMin ?_
  | refine wp_bAbs ?_
  | refine wp_bInt ?_
  | (apply wp_bDivmod; (· omega))
  | refine tr_bl ?_
  | refine isb ?_
  | (apply br_t; (· rfl))
  | (apply br_f; (· rfl))
  | refine br_nt ?_
  | (apply br_dt; (· omega))
  | (apply br_df; (· omega))
  | refine wp_eNot ?_
  | refine wp_eB ?_
  | refine wp_eOr ?_
  | refine wp_eAnd ?_
  | refine wp_eAndB ?_
  | refine wp_eOrB ?_
  | refine wp_eNotB ?_
  | refine wp_eIf ?_
  | refine wp_chain ?_
  | refine wp_eFld ?_
  | (apply fdat; (· walk_at "lk"); (· walk_at "rf"))
  | refine wp_eTup ?_
  | refine wp_eLst ?_
  | refine wp_listR ?_
  | (apply wp_addT; (· walk_at "sz"))
  | (apply need; (· walk_at "sz"))
  | refine intat ?_
  | refine strat ?_
  | refine nonat ?_
  | (apply wp_len; (· walk_at "sq"))
  | (apply wp_ix; (· walk_at "sq"); (· walk_at "rf"))
  | (apply wp_bTuple; (· walk_at "sq"))
  | (apply wp_bList; (· walk_at "sq"))
  | refine wp_eBM ?_
  | (apply lstat; (· walk_at "lk"))
  | (apply wp_append; (· walk_at "lk"); (· walk_at "sz"))
  | (apply wp_clear; (· walk_at "lk"))
  | refine wp_eSl ?_
  | refine wp_pSome ?_
  | refine pis ?_
  | refine wp_pNo ?_
  | refine slat_tup ?_
  | (apply slat_lst; (· walk_at "lk"))
  | (apply wf_gT; (· walk_at "rf"))
  | refine wf_gsCons ?_
  | refine wf_gsNil ?_
  | refine wf_gSub ?_
  | (apply subat; (· walk_at "lk"); (· walk_at "rf"))
  | refine wf_sFld ?_
  | (apply fldat; (· walk_at "lk"); (· walk_at "sz"); (· walk_at "rf"))
  | refine wf_sPar ?_
  | (apply parat; (· walk_at "ls"))
  | refine wf_sPar3 ?_
  | (apply parat3; (· walk_at "ls"))
  | refine wp_eRev ?_
  | (apply rvat; (· walk_at "lk"))
  | refine wp_isBB ?_
  | refine wf_sFor ?_
  | refine wp_iSeq ?_
  | refine wp_iZip ?_
  | (apply zipat; (· walk_at "lk"); (· walk_at "lk"))
  | refine wp_aStar ?_
  | (apply sqat; (· walk_at "sq"))
  | refine wp_eJoinL ?_
  | refine wp_rB ?_
  | refine wp_iEnum ?_
  | refine wp_iRng1 ?_
  | refine wp_iRng2 ?_
  | refine srcat_tup ?_
  | refine srcat_scr ?_
  | (apply srcat_lst; (· walk_at "lk"))
  | refine wp_eIsi ?_
  | refine kd_int ?_
  | refine kd_bl ?_
  | refine kd_str ?_
  | refine kd_non ?_
  | refine kd_tup ?_
  | (apply kd_lst; (· walk_at "lk"))
  | (apply wp_eComp; (· walk_at "ls"))
  | (apply wp_lenO; (· walk_at "lk"))
  | (apply wp_reprO; (· walk_at "lk"))
  | refine wp_eFmt ?_
  | refine wp_eJoin ?_
  | refine jgo_cons ?_
  | refine jgo_nil ?_
  | refine wf_Raise1 ?_
  | refine wf_Raise0 ?_
  | refine wf_Try ?_
  | (apply wp_eXf; (· walk_at "rf"))
  | walk_at "call"))
/-- into a def -/
local macro_rules | `(tactic| walk_at "into") => `(tactic| (refine wp_runF (by walk_at "rf") (by walk_at "ls") ?_))
/-- on, through all branches -/
local macro_rules | `(tactic| walk_at "br") => `(tactic| repeat' (first | walk_at "run" | (with_reducible apply br_dt; (· assumption)) | (with_reducible apply br_df; (· assumption)) | (with_reducible apply br_t; (· assumption)) | (with_reducible apply br_f; (· assumption)) | (with_reducible refine br_d (fun _ => ?_) (fun _ => ?_)) | (with_reducible refine br_s (fun _ => ?_) (fun _ => ?_)) | (intro d ed)))
theorem any_same {R S : Ru} : (pts8.any fun p => !same R S p) = !sameB R S := by
  simp only [sameB, pts8, List.any_cons, List.all_cons, List.any_nil, List.all_nil, Bool.not_and, Bool.not_true]
theorem show_bools {a b c d : Bool} : showOk (.list [.bool a, .bool b, .bool c, .bool d]) = true :=
  showOk_of rfl (by simp [PyData.depth, PyData.depthAll]) (by simp only [room, roomAll]; decide)
section
variable {E : EP} {Q : D → LH → Prop} {h : LH}
theorem law_strict_w {o : List Pt} {n m : Nat} {R S : Ru} (d : Od o) (A : IsD h n (kvR o R)) (B : IsD h m (kvR o S)) (hl : S.holds.length ≤ 20) (q : ∀ h1, Ext [] h h1 → Q (.bl (strictB R S)) h1) : WP (f__law_is_as_strict [.ref n, .ref m] h) Q E := by
  unfold f__law_is_as_strict b__law_is_as_strict
  walk_at "into"
  walk_at "go"
  intro l h1 l1 x1 a1
  have A1 := A.ext x1 (by simp)
  have B1 := B.ext x1 (by simp)
  walk_at "go"
  refine wp_mapF (fun p => .str (pk p)) pts8 (fun p => .bl (!same R S p)) (gives_lst (xs := pts8.map fun p => .str (pk p)) a1) (by decide) ?_ ?_
  · intro p mp h2 x2
    refine ⟨_, rfl, ?_⟩
    walk_at "go"
    refine wp_dgR (A1.ext x2 (by simp)) (valD_kv (d.has p)) ?_
    walk_at "go"
    refine wp_dgR (B1.ext x2 (by simp)) (valD_kv (d.has p)) ?_
    refine nePart_w ?_
    exact ⟨rfl, Ext.rfl'⟩
  intro n2 h2 l2 x2 a2
  have A2 := A1.ext x2 (by simp)
  have B2 := B1.ext x2 (by simp)
  walk_at "go"
  refine wp_anyB a2 ?_
  rw [any_same]
  walk_at "go"
  refine br_s (fun z => ?_) (fun z => ?_)
  · walk_at "go"
    refine wp_dgR (d := .tup (rowD S.holds)) B2 (valD_kv (p := 4) (d.has 4)) ?_
    walk_at "go"
    refine wp_mapF (fun c => .str (wd c)) S.holds (fun c => .bl (decide (c ∈ R.holds))) gives_its (by omega) ?_ ?_
    · intro c mc h3 x3
      refine ⟨_, rfl, ?_⟩
      walk_at "go"
      refine wp_dgR (d := .tup (rowD R.holds)) (A2.ext x3 (by simp)) (valD_kv (p := 4) (d.has 4)) ?_
      walk_at "go"
      exact ⟨rfl, Ext.rfl'⟩
    intro n3 h3 l3 x3 a3
    walk_at "go"
    refine wp_allB a3 ?_
    exact qb (q h3 ((x1.trans x2).trans x3)) (by unfold strictB; rw [z]; rfl)
  · walk_at "go"
    exact qb (q h2 (x1.trans x2)) (by unfold strictB; rw [z]; rfl)
theorem two_w {o : List Pt} {b c n m : Nat} {R S : Ru} (d : Od o) (ao : ∀ R S, o.all (same R S) = eqB R S) (B : BookAt h b R) (C : BookAt h c S) (A1 : IsD h n (kvR o R)) (A2 : IsD h m (kvR o S)) (hR : R.holds.Sublist [12, 13, 14, 15]) (hS : S.holds.Sublist [12, 13, 14, 15]) (q : ∀ h1, Ext [] h h1 → Q (.bl true) h1) :
    WP (f__law_two_right [.ref b, .ref c, .ref n, .ref m] h) Q E := by
  obtain ⟨d1, B1⟩ := id B
  obtain ⟨d2, C1⟩ := id C
  have e1 := B1.ins
  have e2 := C1.ins
  have hl : S.holds.length ≤ 20 := by have := hS.length_le; simp at this; omega
  unfold f__law_two_right b__law_two_right
  walk_at "into"
  walk_at "go"
  refine wp_eqO e1 (by simp [rightOk, e2]) ?_
  refine beq_w B C hR hS ?_
  intro h1 x1
  refine isb ?_
  walk_at "go"
  refine wp_neO (x1.get0 e1) (by simp [rightOk, x1.get0 e2]) ?_
  refine beq_w (B.ext x1) (C.ext x1) hR hS ?_
  intro h2 x2
  refine isb ?_
  have y2 := x1.trans x2
  have g1 := y2.get0 e1
  walk_at "go"
  refine strict_w (B.ext y2) (C.ext y2) hR hS ?_
  intro h3 x3
  have y3 := y2.trans x3
  have g3 := x3.get0 g1
  walk_at "go"
  refine wp_opF (xs := [.ref b, .ref c]) ⟨rfl, rfl⟩ rfl ?_
  refine strict_w (B.ext y3) (C.ext y3) hR hS ?_
  intro h4 x4
  have y4 := y3.trans x4
  walk_at "go"
  intro t h5 l5 x5 a5
  have y5 := y4.trans x5
  walk_at "go"
  refine law_strict_w d (A1.ext y5 (by simp)) (A2.ext y5 (by simp)) hl ?_
  intro h6 x6
  have a6 := x6.get0 a5
  have y6 := y5.trans x6
  walk_at "go"
  refine wp_repL (deep_list a6 (mapO_cons rfl (mapO_cons rfl (mapO_cons rfl (mapO_cons rfl mapO_nil))))) show_bools ?_
  walk_at "go"
  refine eqD_w d ao (A1.ext y6 (by simp)) (A2.ext y6 (by simp)) ?_
  walk_at "go"
  refine eqD_w d ao (A1.ext y6 (by simp)) (A2.ext y6 (by simp)) ?_
  walk_at "go"
  intro u h7 l7 x7 a7
  walk_at "go"
  refine wp_repL (deep_list a7 (mapO_cons rfl (mapO_cons rfl (mapO_cons rfl (mapO_cons rfl mapO_nil))))) show_bools ?_
  walk_at "go"
  exact qb (q h7 (y6.trans x7)) (by simp)
end
end
end Lw

set_option Elab.async false
set_option linter.all false
set_option maxRecDepth 100000
set_option maxHeartbeats 4000000
namespace Lw
open Py Ev PySem
section
local macro_rules | `(tactic| walk_at "rf") => `(tactic| with_unfolding_all exact rfl)
local macro_rules | `(tactic| walk_at "nin") => `(tactic| first | exact List.not_mem_nil | (simp only [List.mem_cons, List.not_mem_nil, or_false, not_or]; omega))
local macro_rules | `(tactic| walk_at "lk") => `(tactic| first | assumption | (refine Ext.get (by assumption) ?_ ?_; (walk_at "lk"); (walk_at "nin")))
local macro_rules | `(tactic| walk_at "sq") => `(tactic| first | exact seq_tup | exact seq_scr | exact SeqOf.seq (by assumption) | exact seq_lst (by walk_at "lk"))
local macro_rules | `(tactic| walk_at "sz") => `(tactic| first | omega | (simp only [List.length_cons, List.length_nil, List.length_append, List.length_map, List.length_replicate, iD_len, sizeLine]; omega))
local macro_rules | `(tactic| walk_at "ls") => `(tactic| (simp only [List.set_cons_succ, List.set_cons_zero, List.map_cons, List.map_nil, List.replicate_succ, List.replicate_zero, List.cons_append, List.nil_append, wipeL]; rfl))
local macro_rules | `(tactic| walk_at "call") => `(tactic| fail)
local macro_rules | `(tactic| walk_at "run") => `(tactic| with_reducible first
  | (apply wp_eV; (· walk_at "rf"))
  | refine wp_eC ?_
  | refine wp_e2 ?_
  | refine wp_e1 ?_
  | refine wp_aCons ?_
  | refine wp_aNil ?_
  | refine wp_eA ?_
  | refine wf_seq ?_
  | refine wf_Asg ?_
  | (apply wf_gN; (· walk_at "ls"))
  | refine wf_E ?_
  | refine wf_Ret ?_
  | refine wf_If ?_
  | refine wf_nil ?_
  | refine wp_eCall ?_
  | (apply wp_opF0; (· with_unfolding_all exact ⟨rfl, rfl⟩))
  | refine wp_eMeth ?_
  | (apply insat; (· walk_at "lk"))
  | refine wp_add ?_
  | refine wp_sub ?_
  | refine wp_lt ?_
  | refine wp_le ?_
  | refine wp_gt ?_
  | refine wp_ge ?_
  | (apply br_kt; (· with_unfolding_all rfl))
  | (apply br_kf; (· with_unfolding_all rfl))
  | refine wp_eqW ?_
  | refine wp_neW ?_
  | refine wp_eqB ?_
  | refine wp_neB ?_
  | (apply wp_lastW; (· assumption))
  | (apply wp_headW; (· assumption))
  | refine wp_inW ?_
  | refine wp_ninW ?_
  | refine wp_eqRow0 ?_
  | refine wp_neRow0 ?_
  | refine wp_eDisp ?_
  | refine pairs_cons ?_
  | refine pairs_nil ?_
  | refine keyat_s ?_
  | refine wf_sDputK ?_
  | (apply dputk_s; (· walk_at "lk"); (· exact lt_line (by omega)))
  | refine wp_eGet1 ?_
  | refine wp_eGet2 ?_
  | refine wp_ePop ?_
  | (apply dctat; (· walk_at "lk"))
  | (apply wp_dg; (· walk_at "lk"); (· assumption))
  | (apply wp_bDict; (· walk_at "lk"))
  | refine wp_eTM ?_
  | refine tupat ?_
  | (apply wp_tupIx; (· assumption))
  | refine wp_eCallV ?_
  | refine fnat ?_
  | refine wp_eqI ?_
  | refine wp_neI ?_
  | refine wp_eqS ?_
  | refine wp_neS ?_
  | (apply wp_mod; (· omega))
  | (apply wp_div; (· omega))
  | (apply wp_mul; (· omega))
  | (apply wp_powN; (· (simp only [Int.reduceToNat]; rfl)); (· omega); (· omega))
  | refine wp_neg ?_
  | refine wp_isN ?_
  | refine wp_isNI ?_
  | refine wp_bMax ?_
  | refine wp_bMin ?_
  | refine wp_bAbs ?_
  | refine wp_bInt ?_
  | (apply wp_bDivmod; (· omega))
  | refine tr_bl ?_
  | refine isb ?_
  | (apply br_t; (· rfl))
  | (apply br_f; (· rfl))
  | refine br_nt ?_
  | (apply br_dt; (· omega))
  | (apply br_df; (· omega))
  | refine wp_eNot ?_
  | refine wp_eB ?_
  | refine wp_eOr ?_
  | refine wp_eAnd ?_
  | refine wp_eAndB ?_
  | refine wp_eOrB ?_
  | refine wp_eNotB ?_
  | refine wp_eIf ?_
  | refine wp_chain ?_
  | refine wp_eFld ?_
  | (apply fdat; (· walk_at "lk"); (· walk_at "rf"))
  | refine wp_eTup ?_
  | refine wp_eLst ?_
  | refine wp_listR ?_
  | (apply wp_addT; (· walk_at "sz"))
  | (apply need; (· walk_at "sz"))
  | refine intat ?_
  | refine strat ?_
  | refine nonat ?_
  | (apply wp_len; (· walk_at "sq"))
  | (apply wp_ix; (· walk_at "sq"); (· walk_at "rf"))
  | (apply wp_bTuple; (· walk_at "sq"))
  | (apply wp_bList; (· walk_at "sq"))
  | refine wp_eBM ?_
  | (apply lstat; (· walk_at "lk"))
  | (apply wp_append; (· walk_at "lk"); (· walk_at "sz"))
  | (apply wp_clear; (· walk_at "lk"))
  | refine wp_eSl ?_
  | refine wp_pSome ?_
  | refine pis ?_
  | refine wp_pNo ?_
  | refine slat_tup ?_
  | (apply slat_lst; (· walk_at "lk"))
  | (apply wf_gT; (· walk_at "rf"))
  | refine wf_gsCons ?_
  | refine wf_gsNil ?_
  | refine wf_gSub ?_
  | (apply subat; (· walk_at "lk"); (· walk_at "rf"))
  | refine wf_sFld ?_
  | (apply fldat; (· walk_at "lk"); (· walk_at "sz"); (· walk_at "rf"))
  | refine wf_sPar ?_
  | (apply parat; (· walk_at "ls"))
  | refine wf_sPar3 ?_
  | (apply parat3; (· walk_at "ls"))
  | refine wp_eRev ?_
  | (apply rvat; (· walk_at "lk"))
  | refine wp_isBB ?_
  | refine wf_sFor ?_
  | refine wp_iSeq ?_
  | refine wp_iZip ?_
  | (apply zipat; (· walk_at "lk"); (· walk_at "lk"))
  | refine wp_aStar ?_
  | (apply sqat; (· walk_at "sq"))
  | refine wp_eJoinL ?_
  | refine wp_rB ?_
  | refine wp_iEnum ?_
  | refine wp_iRng1 ?_
  | refine wp_iRng2 ?_
  | refine srcat_tup ?_
  | refine srcat_scr ?_
  | (apply srcat_lst; (· walk_at "lk"))
  | refine wp_eIsi ?_
  | refine kd_int ?_
  | refine kd_bl ?_
  | refine kd_str ?_
  | refine kd_non ?_
  | refine kd_tup ?_
  | (apply kd_lst; (· walk_at "lk"))
  | (apply wp_eComp; (· walk_at "ls"))
  | (apply wp_lenO; (· walk_at "lk"))
  | (apply wp_reprO; (· walk_at "lk"))
  | refine wp_eFmt ?_
  | refine wp_eJoin ?_
  | refine jgo_cons ?_
  | refine jgo_nil ?_
  | walk_at "call")
local macro_rules | `(tactic| walk_at "go") => `(tactic| repeat (with_reducible first
  | (apply wp_eV; (· walk_at "rf"))
  | refine wp_eC ?_
  | refine wp_e2 ?_
  | refine wp_e1 ?_
  | refine wp_aCons ?_
  | refine wp_aNil ?_
  | refine wp_eA ?_
  | refine wf_seq ?_
  | refine wf_Asg ?_
  | (apply wf_gN; (· walk_at "ls"))
  | refine wf_E ?_
  | refine wf_Ret ?_
  | refine wf_If ?_
  | refine wf_nil ?_
  | refine wp_eCall ?_
  | (apply wp_opF0; (· with_unfolding_all exact ⟨rfl, rfl⟩))
  | refine wp_eMeth ?_
  | (apply insat; (· walk_at "lk"))
  | refine wp_add ?_
  | refine wp_sub ?_
  | refine wp_lt ?_
  | refine wp_le ?_
  | refine wp_gt ?_
  | refine wp_ge ?_
  | (apply br_kt; (· with_unfolding_all rfl))
  | (apply br_kf; (· with_unfolding_all rfl))
  | refine wp_eqW ?_
  | refine wp_neW ?_
  | refine wp_eqB ?_
  | refine wp_neB ?_
  | (apply wp_lastW; (· assumption))
  | (apply wp_headW; (· assumption))
  | refine wp_inW ?_
  | refine wp_ninW ?_
  | refine wp_eqRow0 ?_
  | refine wp_neRow0 ?_
  | refine wp_eDisp ?_
  | refine pairs_cons ?_
  | refine pairs_nil ?_
  | refine keyat_s ?_
  | refine wf_sDputK ?_
  | (apply dputk_s; (· walk_at "lk"); (· exact lt_line (by omega)))
  | refine wp_eGet1 ?_
  | refine wp_eGet2 ?_
  | refine wp_ePop ?_
  | (apply dctat; (· walk_at "lk"))
  | (apply wp_dg; (· walk_at "lk"); (· assumption))
  | (apply wp_bDict; (· walk_at "lk"))
  | refine wp_eTM ?_
  | refine tupat ?_
  | (apply wp_tupIx; (· assumption))
  | refine wp_eCallV ?_
  | refine fnat ?_
  | refine wp_eqI ?_
  | refine wp_neI ?_
  | refine wp_eqS ?_
  | refine wp_neS ?_
  | (apply wp_mod; (· omega))
  | (apply wp_div; (· omega))
  | (apply wp_mul; (· omega))
  | (apply wp_powN; (· (simp only [Int.reduceToNat]; rfl)); (· omega); (· omega))
  | refine wp_neg ?_
  | refine wp_isN ?_
  | refine wp_isNI ?_
  | refine wp_bMax ?_
  | refine wp_bMin ?_
  | refine wp_bAbs ?_
  | refine wp_bInt ?_
  | (apply wp_bDivmod; (· omega))
  | refine tr_bl ?_
  | refine isb ?_
  | (apply br_t; (· rfl))
  | (apply br_f; (· rfl))
  | refine br_nt ?_
  | (apply br_dt; (· omega))
  | (apply br_df; (· omega))
  | refine wp_eNot ?_
  | refine wp_eB ?_
  | refine wp_eOr ?_
  | refine wp_eAnd ?_
  | refine wp_eAndB ?_
  | refine wp_eOrB ?_
  | refine wp_eNotB ?_
  | refine wp_eIf ?_
  | refine wp_chain ?_
  | refine wp_eFld ?_
  | (apply fdat; (· walk_at "lk"); (· walk_at "rf"))
  | refine wp_eTup ?_
  | refine wp_eLst ?_
  | refine wp_listR ?_
  | (apply wp_addT; (· walk_at "sz"))
  | (apply need; (· walk_at "sz"))
  | refine intat ?_
  | refine strat ?_
  | refine nonat ?_
  | (apply wp_len; (· walk_at "sq"))
  | (apply wp_ix; (· walk_at "sq"); (· walk_at "rf"))
  | (apply wp_bTuple; (· walk_at "sq"))
  | (apply wp_bList; (· walk_at "sq"))
  | refine wp_eBM ?_
  | (apply lstat; (· walk_at "lk"))
  | (apply wp_append; (· walk_at "lk"); (· walk_at "sz"))
  | (apply wp_clear; (· walk_at "lk"))
  | refine wp_eSl ?_
  | refine wp_pSome ?_
  | refine pis ?_
  | refine wp_pNo ?_
  | refine slat_tup ?_
  | (apply slat_lst; (· walk_at "lk"))
  | (apply wf_gT; (· walk_at "rf"))
  | refine wf_gsCons ?_
  | refine wf_gsNil ?_
  | refine wf_gSub ?_
  | (apply subat; (· walk_at "lk"); (· walk_at "rf"))
  | refine wf_sFld ?_
  | (apply fldat; (· walk_at "lk"); (· walk_at "sz"); (· walk_at "rf"))
  | refine wf_sPar ?_
  | (apply parat; (· walk_at "ls"))
  | refine wf_sPar3 ?_
  | (apply parat3; (· walk_at "ls"))
  | refine wp_eRev ?_
  | (apply rvat; (· walk_at "lk"))
  | refine wp_isBB ?_
  | refine wf_sFor ?_
  | refine wp_iSeq ?_
  | refine wp_iZip ?_
  | (apply zipat; (· walk_at "lk"); (· walk_at "lk"))
  | refine wp_aStar ?_
  | (apply sqat; (· walk_at "sq"))
  | refine wp_eJoinL ?_
  | refine wp_rB ?_
  | refine wp_iEnum ?_
  | refine wp_iRng1 ?_
  | refine wp_iRng2 ?_
  | refine srcat_tup ?_
  | refine srcat_scr ?_
  | (apply srcat_lst; (· walk_at "lk"))
  | refine wp_eIsi ?_
  | refine kd_int ?_
  | refine kd_bl ?_
  | refine kd_str ?_
  | refine kd_non ?_
  | refine kd_tup ?_
  | (apply kd_lst; (· walk_at "lk"))
  | (apply wp_eComp; (· walk_at "ls"))
  | (apply wp_lenO; (· walk_at "lk"))
  | (apply wp_reprO; (· walk_at "lk"))
  | refine wp_eFmt ?_
  | refine wp_eJoin ?_
  | refine jgo_cons ?_
  | refine jgo_nil ?_
  | refine wf_Raise1 ?_
  | refine wf_Raise0 ?_
  | refine wf_Try ?_
  | (apply wp_eXf; (· walk_at "rf"))
  | walk_at "call"))
/-- into a def -/
local macro_rules | `(tactic| walk_at "into") => `(tactic| (refine wp_runF (by walk_at "rf") (by walk_at "ls") ?_))
/-- on, through all branches -/
local macro_rules | `(tactic| walk_at "br") => `(tactic| repeat' (first | walk_at "run" | (with_reducible apply br_dt; (· assumption)) | (with_reducible apply br_df; (· assumption)) | (with_reducible apply br_t; (· assumption)) | (with_reducible apply br_f; (· assumption)) | (with_reducible refine br_d (fun _ => ?_) (fun _ => ?_)) | (with_reducible refine br_s (fun _ => ?_) (fun _ => ?_)) | (intro d ed)))
/-! ### repr of a book -/
theorem wlen : ∀ c : W, (wd c).length ≤ 10 := by decide +kernel
theorem room_row : ∀ cs : List W, roomAll (rowP cs) ≤ 12 * cs.length
  | [] => Nat.zero_le _
  | c :: cs => by
    have ih := room_row cs
    have l := len_wd c
    show room (.str (wd c)) + 2 + roomAll (rowP cs) ≤ _
    rw [room, List.length_cons]; omega
theorem tame_row : ∀ cs : List W, tameAll (rowP cs) = true
  | [] => rfl
  | c :: cs => by
    show (tame (.str (wd c)) && tameAll (rowP cs)) = true
    rw [tame_row cs]; rfl
theorem show_row {cs : List W} (l : cs.length ≤ 20) : showOk (.tuple (rowP cs)) = true ∧ (PyData.tuple (rowP cs)).shown.length ≤ 243 := by
  have t : tame (.tuple (rowP cs)) = true := by rw [tame]; exact tame_row cs
  have r : room (.tuple (rowP cs)) ≤ 243 := by rw [room]; have := room_row cs; omega
  refine ⟨showOk_of t ?_ (by unfold sizeLine; omega), Nat.le_trans (shown_len _ t) r⟩
  rw [PyData.depth, depth_row]; decide
theorem rowOk_len {kn cs : List W} (o : rowOk kn cs = true) : cs.length ≤ 20 := by
  unfold rowOk at o
  rw [Bool.and_eq_true, decide_eq_true_eq, decide_eq_true_eq] at o
  exact nodup_lenW cs o.2
theorem take_len {cs : List W} (o : takeP cs = true) : cs.length ≤ 20 := by
  unfold takeP at o; rw [Bool.and_eq_true] at o; exact rowOk_len o.1
theorem give_len {cs : List W} (o : giveP cs = true) : cs.length ≤ 20 := by
  unfold giveP at o; rw [Bool.and_eq_true] at o; exact rowOk_len o.1
theorem move_len {cs : List W} (o : moveP cs = true) : cs.length ≤ 20 := by
  unfold moveP at o; rw [Bool.and_eq_true] at o; exact rowOk_len o.1
theorem lift_len {cs : List W} (o : liftP cs = true) : cs.length ≤ 20 := by
  unfold liftP at o; rw [Bool.and_eq_true] at o; exact rowOk_len o.1
theorem ap_len {a b : Str} {m n k : Nat} (x : a.length ≤ m) (y : b.length ≤ n) (l : m + n ≤ k) : (a ++ b).length ≤ k := by
  rw [Str.length_append]; omega
theorem ap_line {a b : Str} {m n : Nat} (x : a.length ≤ m) (y : b.length ≤ n) (l : m + n ≤ 10000) : (a ++ b).length ≤ sizeLine := by
  rw [Str.length_append]; unfold sizeLine; omega
theorem strs_map : ∀ ys : List Str, strsD (ys.map D.str) = some ys
  | [] => rfl
  | y :: ys => by
    show (strsD (ys.map D.str)).map (y :: ·) = _
    rw [strs_map ys]; rfl
theorem sum_len {k : Nat} : ∀ {ts : List Str}, (∀ t ∈ ts, t.length ≤ k) → (ts.map (·.length)).sum ≤ k * ts.length
  | [], _ => by simp
  | t :: ts, l => by
    have ih := sum_len (k := k) (ts := ts) fun t m => l t (by simp [m])
    have := l t (by simp)
    rw [List.map_cons, List.sum_cons, List.length_cons, Nat.mul_add]; omega
theorem glue_len {ts : List Str} {k : Nat} (l : ∀ t ∈ ts, t.length ≤ k) : (Txt.join ", " ts).length ≤ (k + 2) * ts.length := by
  rw [TL.join_eq]
  refine Nat.le_trans (join_len ts) ?_
  induction ts with
  | nil => simp
  | cons t ts ih =>
    have := ih fun t m => l t (by simp [m])
    have := l t (by simp)
    rw [List.map_cons, List.sum_cons, List.length_cons, Nat.mul_add]; omega
theorem int_len {i : Int} (l : i.natAbs < 10 ^ 18) : (toString i : Str).length ≤ 20 := by
  have := shown_len (.int i) (by rw [tame]; simpa using l)
  rw [PyData.shown, room] at this
  exact this
theorem ext_back {h h1 : LH} {n : Nat} {o : O} (x : Ext [n] h h1) (e : h[n]? = some o) (e1 : h1[n]? = some o) : Ext [] h h1 := ⟨x.1, fun k a _ => by
  by_cases z : k = n
  · subst z; rw [e, e1]
  · exact x.2 k a (by simp [z])⟩
section
variable {E : EP} {Q : D → LH → Prop} {h : LH}
theorem jnat {a : Str} {n : Nat} {ys : List Str} {P : List Str → Prop} (e : h[n]? = some (.lst (ys.map D.str))) (l : (ys.map (·.length)).sum + ys.length * a.length ≤ 16777216) (p : P ys) : JnAt a (.ref n) h P :=
  ⟨ys, by rw [seq_lst e, Option.bind_some, strs_map], l, p⟩
theorem part_w {r : LS} {k : W} {cs : List W} (e3 : r[3]? = some (some (.str (wd k)))) (e4 : r[4]? = some (some (.tup (rowD cs)))) (l : cs.length ≤ 20) : WP (eJoin [(eFmt (eV 3)), (eC (.str "=")), (e1 oFmtR (eV 4))] r h) (fun y h3 => (∃ t : Str, y = .str t ∧ t.length ≤ 400) ∧ h3 = h) E := by
  obtain ⟨s1, s2⟩ := show_row l
  have w := wlen k
  refine wp_eJoin (jgo_cons (wp_eFmt (wp_eV e3 ⟨wd k, if_pos (by unfold sizeLine; omega), strat (need ?_ (jgo_cons (wp_eC (strat (need ?_ (jgo_cons (wp_e1 (wp_eV e4 (wp_rT deep_row s1 (strat (need ?_ (jgo_nil ⟨⟨_, rfl, ?_⟩, rfl⟩))))))))))))⟩)))
  · exact ap_line (m := 0) (n := 10) (by decide) w (by decide)
  · exact ap_line (m := 10) (n := 1) (ap_len (m := 0) (n := 10) (by decide) w (by decide)) (by decide) (by decide)
  · exact ap_line (m := 11) (n := 243) (ap_len (m := 10) (n := 1) (ap_len (m := 0) (n := 10) (by decide) w (by decide)) (by decide) (by decide)) s2 (by decide)
  · exact ap_len (m := 11) (n := 243) (ap_len (m := 10) (n := 1) (ap_len (m := 0) (n := 10) (by decide) w (by decide)) (by decide) (by decide)) s2 (by decide)
theorem repr_w {b : Nat} {R : Ru} (B : BookAt h b R) (K : Ok R) (hR : R.holds.Sublist [12, 13, 14, 15]) (q : ∀ (s : Str) h1, Ext [] h h1 → Q (.str s) h1) : WP (f_Book___repr__ [.ref b] h) Q E := by
  obtain ⟨d, B1⟩ := id B
  have e := B1.ins
  have a := B1.dct
  rw [hold_sub hR] at e
  have bd : b ≠ d := fun z => by subst z; rw [e] at a; exact nomatch a
  unfold f_Book___repr__ b_Book___repr__
  walk_at "into"
  refine wf_seq (wf_Asg ?_)
  refine wp_eCompI (n := d) (kvs := kvB R) (r' := [some (.ref b), none, none, none, none]) ?_ a rfl rfl ?_
  · intro h1 x1
    have e1 := x1.get1 e bd
    walk_at "go"
    exact ⟨rfl, rfl⟩
  intro h1 x1 a1
  have e1 := x1.get1 e bd
  refine wp_comp (fun i => ((kvB R).map fun p => D.tup [kyD p.1, p.2]).getD i .non) 4 (fun i acc h' => ∃ ts : List Str, acc = ts.map D.str ∧ ts.length = i ∧ (∀ t ∈ ts, t.length ≤ 400) ∧ h' = h1) (by omega) ⟨[], rfl, rfl, (fun t m => nomatch m), rfl⟩ ?_ ?_
  · rintro acc h2 ⟨ts, rfl, tl, tb, rfl⟩
    refine ⟨rfl, ⟨_, a1⟩, ?_⟩
    intro k h3 l3 x3 a3 c3
    have y3 : Ext [] h h3 := ext_back (x1.trans x3) a a3
    have e3 := y3.get0 e
    clear a1 e1 x1 x3
    obtain ⟨s1, s2⟩ := show_row (rowOk_len K.holds)
    have lw := len_wd R.fails
    have lb := int_len (i := (R.batch : Int)) (by have := K.batch; omega)
    have ls : ∀ z : Bool, (if z = true then Str.ofString "True" else Str.ofString "False").length ≤ 5 := by decide +kernel
    walk_at "go"
    refine need (by decide +kernel) ?_
    walk_at "go"
    refine wp_rS (by unfold sizeLine; omega) ?_
    walk_at "go"
    refine need (ap_line (m := 6) (by decide +kernel) lw (by decide)) ?_
    walk_at "go"
    refine need (by decide +kernel) ?_
    walk_at "go"
    refine need (ap_line (m := 7) (by decide +kernel) (ls _) (by decide)) ?_
    walk_at "go"
    refine need (by decide +kernel) ?_
    walk_at "go"
    refine wp_rT deep_row s1 ?_
    walk_at "go"
    refine need (ap_line (m := 6) (by decide +kernel) s2 (by decide)) ?_
    walk_at "go"
    intro k4 h4 l4 x4 a4
    have e4 := x4.get0 e3
    walk_at "go"
    refine need (by decide +kernel) ?_
    walk_at "go"
    refine wp_rI (by have := K.batch; exact Nat.lt_of_lt_of_le ((Nat.log2_lt (by omega)).2 (show _ < 2 ^ 60 by omega)) (by decide)) ?_
    walk_at "go"
    refine need (ap_line (m := 6) (by decide +kernel) lb (by decide)) ?_
    walk_at "go"
    refine need (by decide +kernel) ?_
    walk_at "go"
    refine need (ap_line (m := 8) (by decide +kernel) (ls _) (by decide)) ?_
    walk_at "go"
    intro k5 h5 l5 x5 a5
    obtain ⟨ys, ey, yl, yb⟩ : ∃ ys : List Str, h5[k5]? = some (.lst (ys.map D.str)) ∧ ys.length = 9 ∧ ∀ t ∈ ys, t.length ≤ 400 := by
      refine ⟨ts ++ [_, _, _] ++ [_, _], by rw [a5, List.map_append, List.map_append]; rfl, by simp [tl], ?_⟩
      intro t m
      simp only [List.mem_append, List.mem_cons, List.not_mem_nil, or_false] at m
      rcases m with (m | rfl | rfl | rfl) | rfl | rfl
      · exact tb t m
      · exact ap_len (m := 6) (by decide +kernel) lw (by decide)
      · exact ap_len (m := 7) (by decide +kernel) (ls _) (by decide)
      · exact ap_len (m := 6) (by decide +kernel) s2 (by decide)
      · exact ap_len (m := 6) (by decide +kernel) lb (by decide)
      · exact ap_len (m := 8) (by decide +kernel) (ls _) (by decide)
    have c2 : ((", " : String) : Str).length = 2 := by decide
    have lj := glue_len yb
    rw [yl] at lj
    refine jnat ey (by have := sum_len yb; rw [yl] at this; rw [yl, c2]; omega) ?_
    walk_at "go"
    refine need (by decide +kernel) ?_
    walk_at "go"
    refine ⟨_, if_pos (by unfold sizeLine; omega), ?_⟩
    refine strat (need (ap_line (m := 5) (by decide +kernel) lj (by decide)) ?_)
    walk_at "go"
    refine need (ap_line (m := 5000) (n := 1) (ap_len (m := 5) (by decide +kernel) lj (by decide)) (by decide +kernel) (by decide)) ?_
    walk_at "go"
    exact q _ h5 ((y3.trans x4).trans x5)
  · clear e1
    rintro i acc h2 li ⟨ts, rfl, tl, tb, rfl⟩
    have fin : ∀ (k : W) (cs : List W), cs.length ≤ 20 → WP (eJoin [(eFmt (eV 3)), (eC (.str "=")), (e1 oFmtR (eV 4))] [some (.ref b), none, none, some (.str (wd k)), some (.tup (rowD cs))] h2) (fun y h3 => Need ((ts.map D.str).length < sizeLine) (∃ us : List Str, ts.map D.str ++ [y] = us.map D.str ∧ us.length = i + 1 ∧ (∀ t ∈ us, t.length ≤ 400) ∧ h3 = h2)) noE := by
      intro k cs l
      refine wp_use0 (part_w rfl rfl l) ?_
      rintro y h3 ⟨⟨t, rfl, lt⟩, rfl⟩
      refine need (by rw [List.length_map]; exact lt_line (by omega)) ⟨ts ++ [t], by simp, by simp [tl], ?_, rfl⟩
      intro u m
      rcases List.mem_append.1 m with m | m
      · exact tb u m
      · rw [List.mem_singleton.1 m]; exact lt
    match i, li with
    | 0, _ => exact ⟨rfl, _, rfl, wp_eC (tr_bl (fin 12 _ (take_len K.take)))⟩
    | 1, _ => exact ⟨rfl, _, rfl, wp_eC (tr_bl (fin 13 _ (give_len K.give)))⟩
    | 2, _ => exact ⟨rfl, _, rfl, wp_eC (tr_bl (fin 14 _ (move_len K.move)))⟩
    | 3, _ => exact ⟨rfl, _, rfl, wp_eC (tr_bl (fin 15 _ (lift_len K.lift)))⟩
end
end
end Lw

set_option Elab.async false
set_option linter.all false
set_option maxRecDepth 100000
set_option maxHeartbeats 4000000
namespace Lw
open Py Ev PySem
section
local macro_rules | `(tactic| walk_at "rf") => `(tactic| with_unfolding_all exact rfl)
local macro_rules | `(tactic| walk_at "nin") => `(tactic| first | exact List.not_mem_nil | (simp only [List.mem_cons, List.not_mem_nil, or_false, not_or]; omega))
local macro_rules | `(tactic| walk_at "lk") => `(tactic| first | assumption | (refine Ext.get (by assumption) ?_ ?_; (walk_at "lk"); (walk_at "nin")))
local macro_rules | `(tactic| walk_at "sq") => `(tactic| first | exact seq_tup | exact seq_scr | exact SeqOf.seq (by assumption) | exact seq_lst (by walk_at "lk"))
local macro_rules | `(tactic| walk_at "sz") => `(tactic| first | omega | (simp only [List.length_cons, List.length_nil, List.length_append, List.length_map, List.length_replicate, iD_len, sizeLine]; omega))
local macro_rules | `(tactic| walk_at "ls") => `(tactic| (simp only [List.set_cons_succ, List.set_cons_zero, List.map_cons, List.map_nil, List.replicate_succ, List.replicate_zero, List.cons_append, List.nil_append, wipeL]; rfl))
local macro_rules | `(tactic| walk_at "call") => `(tactic| fail)
local macro_rules | `(tactic| walk_at "run") => `(tactic| with_reducible first
  | (apply wp_eV; (· walk_at "rf"))
  | refine wp_eC ?_
  | refine wp_e2 ?_
  | refine wp_e1 ?_
  | refine wp_aCons ?_
  | refine wp_aNil ?_
  | refine wp_eA ?_
  | refine wf_seq ?_
  | refine wf_Asg ?_
  | (apply wf_gN; (· walk_at "ls"))
  | refine wf_E ?_
  | refine wf_Ret ?_
  | refine wf_If ?_
  | refine wf_nil ?_
  | refine wp_eCall ?_
  | (apply wp_opF0; (· with_unfolding_all exact ⟨rfl, rfl⟩))
  | refine wp_eMeth ?_
  | (apply insat; (· walk_at "lk"))
  | refine wp_add ?_
  | refine wp_sub ?_
  | refine wp_lt ?_
  | refine wp_le ?_
  | refine wp_gt ?_
  | refine wp_ge ?_
  | (apply br_kt; (· with_unfolding_all rfl))
  | (apply br_kf; (· with_unfolding_all rfl))
  | refine wp_eqW ?_
  | refine wp_neW ?_
  | refine wp_eqB ?_
  | refine wp_neB ?_
  | (apply wp_lastW; (· assumption))
  | (apply wp_headW; (· assumption))
  | refine wp_inW ?_
  | refine wp_ninW ?_
  | refine wp_eqRow0 ?_
  | refine wp_neRow0 ?_
  | refine wp_eDisp ?_
  | refine pairs_cons ?_
  | refine pairs_nil ?_
  | refine keyat_s ?_
  | refine wf_sDputK ?_
  | (apply dputk_s; (· walk_at "lk"); (· exact lt_line (by omega)))
  | refine wp_eGet1 ?_
  | refine wp_eGet2 ?_
  | refine wp_ePop ?_
  | (apply dctat; (· walk_at "lk"))
  | (apply wp_dg; (· walk_at "lk"); (· assumption))
  | (apply wp_bDict; (· walk_at "lk"))
  | refine wp_eTM ?_
  | refine tupat ?_
  | (apply wp_tupIx; (· assumption))
  | refine wp_eCallV ?_
  | refine fnat ?_
  | refine wp_eqI ?_
  | refine wp_neI ?_
  | refine wp_eqS ?_
  | refine wp_neS ?_
  | (apply wp_mod; (· omega))
  | (apply wp_div; (· omega))
  | (apply wp_mul; (· omega))
  | (apply wp_powN; (· (simp only [Int.reduceToNat]; rfl)); (· omega); (· omega))
  | refine wp_neg ?_
  | refine wp_isN ?_
  | refine wp_isNI ?_
  | refine wp_bMax ?_
  | refine wp_bMin ?_
  | refine wp_bAbs ?_
  | refine wp_bInt ?_
  | (apply wp_bDivmod; (· omega))
  | refine tr_bl ?_
  | refine isb ?_
  | (apply br_t; (· rfl))
  | (apply br_f; (· rfl))
  | refine br_nt ?_
  | (apply br_dt; (· omega))
  | (apply br_df; (· omega))
  | refine wp_eNot ?_
  | refine wp_eB ?_
  | refine wp_eOr ?_
  | refine wp_eAnd ?_
  | refine wp_eAndB ?_
  | refine wp_eOrB ?_
  | refine wp_eNotB ?_
  | refine wp_eIf ?_
  | refine wp_chain ?_
  | refine wp_eFld ?_
  | (apply fdat; (· walk_at "lk"); (· walk_at "rf"))
  | refine wp_eTup ?_
  | refine wp_eLst ?_
  | refine wp_listR ?_
  | (apply wp_addT; (· walk_at "sz"))
  | (apply need; (· walk_at "sz"))
  | refine intat ?_
  | refine strat ?_
  | refine nonat ?_
  | (apply wp_len; (· walk_at "sq"))
  | (apply wp_ix; (· walk_at "sq"); (· walk_at "rf"))
  | (apply wp_bTuple; (· walk_at "sq"))
  | (apply wp_bList; (· walk_at "sq"))
  | refine wp_eBM ?_
  | (apply lstat; (· walk_at "lk"))
  | (apply wp_append; (· walk_at "lk"); (· walk_at "sz"))
  | (apply wp_clear; (· walk_at "lk"))
  | refine wp_eSl ?_
  | refine wp_pSome ?_
  | refine pis ?_
  | refine wp_pNo ?_
  | refine slat_tup ?_
  | (apply slat_lst; (· walk_at "lk"))
  | (apply wf_gT; (· walk_at "rf"))
  | refine wf_gsCons ?_
  | refine wf_gsNil ?_
  | refine wf_gSub ?_
  | (apply subat; (· walk_at "lk"); (· walk_at "rf"))
  | refine wf_sFld ?_
  | (apply fldat; (· walk_at "lk"); (· walk_at "sz"); (· walk_at "rf"))
  | refine wf_sPar ?_
  | (apply parat; (· walk_at "ls"))
  | refine wf_sPar3 ?_
  | (apply parat3; (· walk_at "ls"))
  | refine wp_eRev ?_
  | (apply rvat; (· walk_at "lk"))
  | refine wp_isBB ?_
  | refine wf_sFor ?_
  | refine wp_iSeq ?_
  | refine wp_iZip ?_
  | (apply zipat; (· walk_at "lk"); (· walk_at "lk"))
  | refine wp_aStar ?_
  | (apply sqat; (· walk_at "sq"))
  | refine wp_eJoinL ?_
  | refine wp_rB ?_
  | refine wp_iEnum ?_
  | refine wp_iRng1 ?_
  | refine wp_iRng2 ?_
  | refine srcat_tup ?_
  | refine srcat_scr ?_
  | (apply srcat_lst; (· walk_at "lk"))
  | refine wp_eIsi ?_
  | refine kd_int ?_
  | refine kd_bl ?_
  | refine kd_str ?_
  | refine kd_non ?_
  | refine kd_tup ?_
  | (apply kd_lst; (· walk_at "lk"))
  | (apply wp_eComp; (· walk_at "ls"))
  | (apply wp_lenO; (· walk_at "lk"))
  | (apply wp_reprO; (· walk_at "lk"))
  | refine wp_eFmt ?_
  | refine wp_eJoin ?_
  | refine jgo_cons ?_
  | refine jgo_nil ?_
  | walk_at "call")
local macro_rules | `(tactic| walk_at "go") => `(tactic| repeat (with_reducible first
  | (apply wp_eV; (· walk_at "rf"))
  | refine wp_eC ?_
  | refine wp_e2 ?_
  | refine wp_e1 ?_
  | refine wp_aCons ?_
  | refine wp_aNil ?_
  | refine wp_eA ?_
  | refine wf_seq ?_
  | refine wf_Asg ?_
  | (apply wf_gN; (· walk_at "ls"))
  | refine wf_E ?_
  | refine wf_Ret ?_
  | refine wf_If ?_
  | refine wf_nil ?_
  | refine wp_eCall ?_
  | (apply wp_opF0; (· with_unfolding_all exact ⟨rfl, rfl⟩))
  | refine wp_eMeth ?_
  | (apply insat; (· walk_at "lk"))
  | refine wp_add ?_
  | refine wp_sub ?_
  | refine wp_lt ?_
  | refine wp_le ?_
  | refine wp_gt ?_
  | refine wp_ge ?_
  | (apply br_kt; (· with_unfolding_all rfl))
  | (apply br_kf; (· with_unfolding_all rfl))
  | refine wp_eqW ?_
  | refine wp_neW ?_
  | refine wp_eqB ?_
  | refine wp_neB ?_
  | (apply wp_lastW; (· assumption))
  | (apply wp_headW; (· assumption))
  | refine wp_inW ?_
  | refine wp_ninW ?_
  | refine wp_eqRow0 ?_
  | refine wp_neRow0 ?_
  | refine wp_eDisp ?_
  | refine pairs_cons ?_
  | refine pairs_nil ?_
  | refine keyat_s ?_
  | refine wf_sDputK ?_
  | (apply dputk_s; (· walk_at "lk"); (· exact lt_line (by omega)))
  | refine wp_eGet1 ?_
  | refine wp_eGet2 ?_
  | refine wp_ePop ?_
  | (apply dctat; (· walk_at "lk"))
  | (apply wp_dg; (· walk_at "lk"); (· assumption))
  | (apply wp_bDict; (· walk_at "lk"))
  | refine wp_eTM ?_
  | refine tupat ?_
  | (apply wp_tupIx; (· assumption))
  | refine wp_eCallV ?_
  | refine fnat ?_
  | refine wp_eqI ?_
  | refine wp_neI ?_
  | refine wp_eqS ?_
  | refine wp_neS ?_
  | (apply wp_mod; (· omega))
  | (apply wp_div; (· omega))
  | (apply wp_mul; (· omega))
  | (apply wp_powN; (· (simp only [Int.reduceToNat]; rfl)); (· omega); (· omega))
  | refine wp_neg ?_
  | refine wp_isN ?_
  | refine wp_isNI ?_
  | refine wp_bMax ?_
  | refine wp_bMin ?_
  | refine wp_bAbs ?_
  | refine wp_bInt ?_
  | (apply wp_bDivmod; (· omega))
  | refine tr_bl ?_
  | refine isb ?_
  | (apply br_t; (· rfl))
  | (apply br_f; (· rfl))
  | refine br_nt ?_
  | (apply br_dt; (· omega))
  | (apply br_df; (· omega))
  | refine wp_eNot ?_
  | refine wp_eB ?_
  | refine wp_eOr ?_
  | refine wp_eAnd ?_
  | refine wp_eAndB ?_
  | refine wp_eOrB ?_
  | refine wp_eNotB ?_
  | refine wp_eIf ?_
  | refine wp_chain ?_
  | refine wp_eFld ?_
  | (apply fdat; (· walk_at "lk"); (· walk_at "rf"))
  | refine wp_eTup ?_
  | refine wp_eLst ?_
  | refine wp_listR ?_
  | (apply wp_addT; (· walk_at "sz"))
  | (apply need; (· walk_at "sz"))
  | refine intat ?_
  | refine strat ?_
  | refine nonat ?_
  | (apply wp_len; (· walk_at "sq"))
  | (apply wp_ix; (· walk_at "sq"); (· walk_at "rf"))
  | (apply wp_bTuple; (· walk_at "sq"))
  | (apply wp_bList; (· walk_at "sq"))
  | refine wp_eBM ?_
  | (apply lstat; (· walk_at "lk"))
  | (apply wp_append; (· walk_at "lk"); (· walk_at "sz"))
  | (apply wp_clear; (· walk_at "lk"))
  | refine wp_eSl ?_
  | refine wp_pSome ?_
  | refine pis ?_
  | refine wp_pNo ?_
  | refine slat_tup ?_
  | (apply slat_lst; (· walk_at "lk"))
  | (apply wf_gT; (· walk_at "rf"))
  | refine wf_gsCons ?_
  | refine wf_gsNil ?_
  | refine wf_gSub ?_
  | (apply subat; (· walk_at "lk"); (· walk_at "rf"))
  | refine wf_sFld ?_
  | (apply fldat; (· walk_at "lk"); (· walk_at "sz"); (· walk_at "rf"))
  | refine wf_sPar ?_
  | (apply parat; (· walk_at "ls"))
  | refine wf_sPar3 ?_
  | (apply parat3; (· walk_at "ls"))
  | refine wp_eRev ?_
  | (apply rvat; (· walk_at "lk"))
  | refine wp_isBB ?_
  | refine wf_sFor ?_
  | refine wp_iSeq ?_
  | refine wp_iZip ?_
  | (apply zipat; (· walk_at "lk"); (· walk_at "lk"))
  | refine wp_aStar ?_
  | (apply sqat; (· walk_at "sq"))
  | refine wp_eJoinL ?_
  | refine wp_rB ?_
  | refine wp_iEnum ?_
  | refine wp_iRng1 ?_
  | refine wp_iRng2 ?_
  | refine srcat_tup ?_
  | refine srcat_scr ?_
  | (apply srcat_lst; (· walk_at "lk"))
  | refine wp_eIsi ?_
  | refine kd_int ?_
  | refine kd_bl ?_
  | refine kd_str ?_
  | refine kd_non ?_
  | refine kd_tup ?_
  | (apply kd_lst; (· walk_at "lk"))
  | (apply wp_eComp; (· walk_at "ls"))
  | (apply wp_lenO; (· walk_at "lk"))
  | (apply wp_reprO; (· walk_at "lk"))
  | refine wp_eFmt ?_
  | refine wp_eJoin ?_
  | refine jgo_cons ?_
  | refine jgo_nil ?_
  | refine wf_Raise1 ?_
  | refine wf_Raise0 ?_
  | refine wf_Try ?_
  | (apply wp_eXf; (· walk_at "rf"))
  | walk_at "call"))
/-- into a def -/
local macro_rules | `(tactic| walk_at "into") => `(tactic| (refine wp_runF (by walk_at "rf") (by walk_at "ls") ?_))
/-- on, through all branches -/
local macro_rules | `(tactic| walk_at "br") => `(tactic| repeat' (first | walk_at "run" | (with_reducible apply br_dt; (· assumption)) | (with_reducible apply br_df; (· assumption)) | (with_reducible apply br_t; (· assumption)) | (with_reducible apply br_f; (· assumption)) | (with_reducible refine br_d (fun _ => ?_) (fun _ => ?_)) | (with_reducible refine br_s (fun _ => ?_) (fun _ => ?_)) | (intro d ed)))
/-! ### a book alone -/
inductive Odd (h : LH) : D → Prop
  | non : Odd h .non
  | bl (b : Bool) : Odd h (.bl b)
  | str (s : Str) : Odd h (.str s)
  | tup (xs : List D) : Odd h (.tup xs)
  | lst {n : Nat} {xs : List D} : h[n]? = some (.lst xs) → Odd h (.ref n)
  | dct {n : Nat} {kv : List (Ky × D)} : h[n]? = some (.dct kv) → Odd h (.ref n)
theorem Odd.ext {h h1 : LH} {d : D} (o : Odd h d) (x : Ext [] h h1) : Odd h1 d := by
  cases o with
  | non => exact .non
  | bl b => exact .bl b
  | str s => exact .str s
  | tup xs => exact .tup xs
  | lst e => exact .lst (x.get0 e)
  | dct e => exact .dct (x.get0 e)
theorem Odd.kind {h : LH} {d : D} (o : Odd h d) : ∃ k, kindD d h = some k := by
  cases o with
  | lst e => exact ⟨.list, by simp only [kindD, e]⟩
  | dct e => exact ⟨.dict, by simp only [kindD, e]⟩
  | _ => exact ⟨_, rfl⟩
theorem Odd.right {h : LH} {d : D} {c : Nat} (o : Odd h d) : rightOk c d h = true := by
  cases o with
  | lst e => simp only [rightOk, e]
  | dct e => simp only [rightOk, e]
  | _ => rfl
theorem same_self {R : Ru} : ∀ p, same R R p = true := fin9 (decide_eq_true rfl) (beq_self_eq_true _) (decide_eq_true rfl) (beq_self_eq_true _) (decide_eq_true rfl) (decide_eq_true rfl) (decide_eq_true rfl) (decide_eq_true rfl) (decide_eq_true rfl)
theorem sameB_self {R : Ru} : sameB R R = true := List.all_eq_true.2 fun p _ => same_self p
theorem eqB_self {R : Ru} : eqB R R = true := by unfold eqB; rw [sameB_self, same_self]; rfl
theorem strictB_self {R : Ru} : strictB R R = true := by
  unfold strictB
  rw [sameB_self, Bool.true_and, List.all_eq_true]
  exact fun c m => decide_eq_true m
section
variable {E : EP} {Q : D → LH → Prop} {h : LH}
theorem Odd.iso {f : Nat → Option Bool} {d : D} (o : Odd h d) (q : Q (.bl false) h) : WP (oIsO f d h) Q E := by
  cases o with
  | lst e => simp only [oIsO, e]; exact q
  | dct e => simp only [oIsO, e]; exact q
  | _ => exact q
theorem beq_odd_w {b : Nat} {d : D} (o : Odd h d) (q : Q (.bl false) h) : WP (f_Book___eq__ [.ref b, d] h) Q E := by
  unfold f_Book___eq__ b_Book___eq__
  walk_at "into"
  walk_at "go"
  refine o.iso ?_
  walk_at "go"
  exact q
theorem holds_m_w {b : Nat} {R : Ru} (B : BookAt h b R) (hR : R.holds.Sublist [12, 13, 14, 15]) (q : Q (.tup (rowD R.holds)) h) : WP (f_Book_holds [.ref b] h) Q E := by
  obtain ⟨d, B1⟩ := B
  have e := B1.ins
  rw [hold_sub hR] at e
  unfold f_Book_holds b_Book_holds
  walk_at "into"
  walk_at "go"
  exact q
theorem alone_w {b n : Nat} {R : Ru} (B : BookAt h b R) (A : RF o0 h n R) (K : Ok R) (hR : R.holds.Sublist [12, 13, 14, 15]) (q : ∀ h1, Ext [] h h1 → Q (.bl true) h1) : WP (f__law_alone_right [.ref b, .ref n] h) Q E := by
  have a : h[n]? = some (.dct (kvR o0 R)) := A
  have RK := rulesK_kv (R := R) od0
  have t1 := RK.take
  have t2 := RK.holds
  unfold f__law_alone_right b__law_alone_right
  walk_at "into"
  walk_at "go"
  refine law_book_w (A.at od0) K ?_
  intro c h1 l1 x1 C
  have B1 := B.ext x1
  obtain ⟨d1, BK⟩ := id B1
  have e1 := BK.ins
  have a1 := x1.get0 a
  clear BK a
  walk_at "go"
  refine repr_w B1 K hR ?_
  intro s h2 x2
  have B2 := B1.ext x2
  have C2 := C.ext x2
  have e2 := x2.get0 e1
  have a2 := x2.get0 a1
  have y2 := x1.trans x2
  clear e1 a1 B1 C
  walk_at "go"
  refine holds_m_w B2 hR ?_
  walk_at "go"
  refine wp_eDnew ?_
  intro k3 h3 l3 x3 a3
  have e3 := x3.get0 e2
  have a23 := x3.get0 a2
  walk_at "go"
  intro k4 h4 l4 x4 a4
  walk_at "go"
  intro k5 h5 l5 x5 a5
  have x25 := (x3.trans x4).trans x5
  have B5 := B2.ext x25
  have C5 := C2.ext x25
  have y5 := y2.trans x25
  have e5 := x25.get0 e2
  obtain ⟨odd, ho, a5'⟩ : ∃ odd : List D, (odd.length ≤ 10 ∧ ∀ d ∈ odd, Odd h5 d) ∧ h5[k5]? = some (.lst odd) := by
    refine ⟨_, ⟨?_, ?_⟩, a5⟩
    · simp
    · intro d m
      simp only [List.mem_cons, List.not_mem_nil, or_false] at m
      rcases m with rfl | rfl | rfl | rfl | rfl | rfl | rfl | rfl | rfl | rfl
      · exact .non
      · exact .bl _
      · exact .str _
      · exact .tup _
      · exact .tup _
      · exact .tup _
      · exact .dct (x5.get0 (x4.get0 a3))
      · exact .lst (x5.get0 a4)
      · exact .tup _
      · exact .dct (x5.get0 (x4.get0 a23))
  clear a5 a3 a4 a23 a2 e2 e3 x3 x4 x5 x25 y2 x1 x2
  walk_at "go"
  refine wp_mapF (fun d => d) odd (fun _ => .bl false) (by simpa using gives_lst a5') (by omega) ?_ ?_
  · intro d md h6 x6
    have o := (ho.2 d md).ext x6
    have e6 := x6.get0 e5
    obtain ⟨kd, hk⟩ := o.kind
    refine ⟨_, rfl, ?_⟩
    walk_at "go"
    refine wp_eqO e6 o.right ?_
    refine beq_odd_w o ?_
    refine isb ?_
    walk_at "go"
    refine wp_eqRf hk e6 ?_
    refine beq_odd_w o ?_
    exact ⟨rfl, Ext.rfl'⟩
  intro k6 h6 l6 x6 a6
  have B6 := B5.ext x6
  have C6 := C5.ext x6
  have e6 := x6.get0 e5
  obtain ⟨d2, CK⟩ := id C6
  have f6 := CK.ins
  walk_at "go"
  refine wp_anyB (p := fun _ => false) a6 ?_
  have an : (odd.any fun _ => false) = false := by simp
  rw [an]
  walk_at "go"
  refine wp_eqO e6 (by simp [rightOk, f6]) ?_
  refine beq_w B6 C6 hR hR ?_
  intro h7 x7
  rw [eqB_self]
  refine isb ?_
  walk_at "go"
  refine wp_neO (x7.get0 e6) (by simp [rightOk, x7.get0 f6]) ?_
  refine beq_w (B6.ext x7) (C6.ext x7) hR hR ?_
  intro h8 x8
  rw [eqB_self]
  refine isb ?_
  have x78 := x7.trans x8
  have e8 := x78.get0 e6
  have f8 := x78.get0 f6
  walk_at "go"
  refine strict_w (C6.ext x78) (B6.ext x78) hR hR ?_
  intro h9 x9
  rw [strictB_self]
  have e9 := x9.get0 e8
  have x79 := x78.trans x9
  walk_at "go"
  refine br_t rfl ?_
  walk_at "go"
  refine strict_w (B6.ext x79) (B6.ext x79) hR hR ?_
  intro h10 x10
  rw [strictB_self]
  walk_at "go"
  exact qb (b := true) (q h10 (((y5.trans x6).trans x79).trans x10)) rfl
end
end
end Lw

set_option Elab.async false
set_option linter.all false
set_option maxRecDepth 100000
set_option maxHeartbeats 4000000
namespace Lw
open Py Ev PySem
section
local macro_rules | `(tactic| walk_at "rf") => `(tactic| with_unfolding_all exact rfl)
local macro_rules | `(tactic| walk_at "nin") => `(tactic| first | exact List.not_mem_nil | (simp only [List.mem_cons, List.not_mem_nil, or_false, not_or]; omega))
local macro_rules | `(tactic| walk_at "lk") => `(tactic| first | assumption | (refine Ext.get (by assumption) ?_ ?_; (walk_at "lk"); (walk_at "nin")))
local macro_rules | `(tactic| walk_at "sq") => `(tactic| first | exact seq_tup | exact seq_scr | exact SeqOf.seq (by assumption) | exact seq_lst (by walk_at "lk"))
local macro_rules | `(tactic| walk_at "sz") => `(tactic| first | omega | (simp only [List.length_cons, List.length_nil, List.length_append, List.length_map, List.length_replicate, iD_len, sizeLine]; omega))
local macro_rules | `(tactic| walk_at "ls") => `(tactic| (simp only [List.set_cons_succ, List.set_cons_zero, List.map_cons, List.map_nil, List.replicate_succ, List.replicate_zero, List.cons_append, List.nil_append, wipeL]; rfl))
local macro_rules | `(tactic| walk_at "call") => `(tactic| fail)
local macro_rules | `(tactic| walk_at "run") => `(tactic| with_reducible first
  | (apply wp_eV; (· walk_at "rf"))
  | refine wp_eC ?_
  | refine wp_e2 ?_
  | refine wp_e1 ?_
  | refine wp_aCons ?_
  | refine wp_aNil ?_
  | refine wp_eA ?_
  | refine wf_seq ?_
  | refine wf_Asg ?_
  | (apply wf_gN; (· walk_at "ls"))
  | refine wf_E ?_
  | refine wf_Ret ?_
  | refine wf_If ?_
  | refine wf_nil ?_
  | refine wp_eCall ?_
  | (apply wp_opF0; (· with_unfolding_all exact ⟨rfl, rfl⟩))
  | refine wp_eMeth ?_
  | (apply insat; (· walk_at "lk"))
  | refine wp_add ?_
  | refine wp_sub ?_
  | refine wp_lt ?_
  | refine wp_le ?_
  | refine wp_gt ?_
  | refine wp_ge ?_
  | (apply br_kt; (· with_unfolding_all rfl))
  | (apply br_kf; (· with_unfolding_all rfl))
  | refine wp_eqW ?_
  | refine wp_neW ?_
  | refine wp_eqB ?_
  | refine wp_neB ?_
  | (apply wp_lastW; (· assumption))
  | (apply wp_headW; (· assumption))
  | refine wp_inW ?_
  | refine wp_ninW ?_
  | refine wp_eqRow0 ?_
  | refine wp_neRow0 ?_
  | refine wp_eDisp ?_
  | refine pairs_cons ?_
  | refine pairs_nil ?_
  | refine keyat_s ?_
  | refine wf_sDputK ?_
  | (apply dputk_s; (· walk_at "lk"); (· exact lt_line (by omega)))
  | refine wp_eGet1 ?_
  | refine wp_eGet2 ?_
  | refine wp_ePop ?_
  | (apply dctat; (· walk_at "lk"))
  | (apply wp_dg; (· walk_at "lk"); (· assumption))
  | (apply wp_bDict; (· walk_at "lk"))
  | refine wp_eTM ?_
  | refine tupat ?_
  | (apply wp_tupIx; (· assumption))
  | refine wp_eCallV ?_
  | refine fnat ?_
  | refine wp_eqI ?_
  | refine wp_neI ?_
  | refine wp_eqS ?_
  | refine wp_neS ?_
  | (apply wp_mod; (· omega))
  | (apply wp_div; (· omega))
  | (apply wp_mul; (· omega))
  | (apply wp_powN; (· (simp only [Int.reduceToNat]; rfl)); (· omega); (· omega))
  | refine wp_neg ?_
  | refine wp_isN ?_
  | refine wp_isNI ?_
  | refine wp_bMax ?_
  | refine wp_bMin ?_
  | refine wp_bAbs ?_
  | refine wp_bInt ?_
  | (apply wp_bDivmod; (· omega))
  | refine tr_bl ?_
  | refine isb ?_
  | (apply br_t; (· rfl))
  | (apply br_f; (· rfl))
  | refine br_nt ?_
  | (apply br_dt; (· omega))
  | (apply br_df; (· omega))
  | refine wp_eNot ?_
  | refine wp_eB ?_
  | refine wp_eOr ?_
  | refine wp_eAnd ?_
  | refine wp_eAndB ?_
  | refine wp_eOrB ?_
  | refine wp_eNotB ?_
  | refine wp_eIf ?_
  | refine wp_chain ?_
  | refine wp_eFld ?_
  | (apply fdat; (· walk_at "lk"); (· walk_at "rf"))
  | refine wp_eTup ?_
  | refine wp_eLst ?_
  | refine wp_listR ?_
  | (apply wp_addT; (· walk_at "sz"))
  | (apply need; (· walk_at "sz"))
  | refine intat ?_
  | refine strat ?_
  | refine nonat ?_
  | (apply wp_len; (· walk_at "sq"))
  | (apply wp_ix; (· walk_at "sq"); (· walk_at "rf"))
  | (apply wp_bTuple; (· walk_at "sq"))
  | (apply wp_bList; (· walk_at "sq"))
  | refine wp_eBM ?_
  | (apply lstat; (· walk_at "lk"))
  | (apply wp_append; (· walk_at "lk"); (· walk_at "sz"))
  | (apply wp_clear; (· walk_at "lk"))
  | refine wp_eSl ?_
  | refine wp_pSome ?_
  | refine pis ?_
  | refine wp_pNo ?_
  | refine slat_tup ?_
  | (apply slat_lst; (· walk_at "lk"))
  | (apply wf_gT; (· walk_at "rf"))
  | refine wf_gsCons ?_
  | refine wf_gsNil ?_
  | refine wf_gSub ?_
  | (apply subat; (· walk_at "lk"); (· walk_at "rf"))
  | refine wf_sFld ?_
  | (apply fldat; (· walk_at "lk"); (· walk_at "sz"); (· walk_at "rf"))
  | refine wf_sPar ?_
  | (apply parat; (· walk_at "ls"))
  | refine wf_sPar3 ?_
  | (apply parat3; (· walk_at "ls"))
  | refine wp_eRev ?_
  | (apply rvat; (· walk_at "lk"))
  | refine wp_isBB ?_
  | refine wf_sFor ?_
  | refine wp_iSeq ?_
  | refine wp_iZip ?_
  | (apply zipat; (· walk_at "lk"); (· walk_at "lk"))
  | refine wp_aStar ?_
  | (apply sqat; (· walk_at "sq"))
  | refine wp_eJoinL ?_
  | refine wp_rB ?_
  | refine wp_iEnum ?_
  | refine wp_iRng1 ?_
  | refine wp_iRng2 ?_
  | refine srcat_tup ?_
  | refine srcat_scr ?_
  | (apply srcat_lst; (· walk_at "lk"))
  | refine wp_eIsi ?_
  | refine kd_int ?_
  | refine kd_bl ?_
  | refine kd_str ?_
  | refine kd_non ?_
  | refine kd_tup ?_
  | (apply kd_lst; (· walk_at "lk"))
  | (apply wp_eComp; (· walk_at "ls"))
  | (apply wp_lenO; (· walk_at "lk"))
  | (apply wp_reprO; (· walk_at "lk"))
  | refine wp_eFmt ?_
  | refine wp_eJoin ?_
  | refine jgo_cons ?_
  | refine jgo_nil ?_
  | walk_at "call")
local macro_rules | `(tactic| walk_at "go") => `(tactic| repeat (with_reducible first
  | (apply wp_eV; (· walk_at "rf"))
  | refine wp_eC ?_
  | refine wp_e2 ?_
  | refine wp_e1 ?_
  | refine wp_aCons ?_
  | refine wp_aNil ?_
  | refine wp_eA ?_
  | refine wf_seq ?_
  | refine wf_Asg ?_
  | (apply wf_gN; (· walk_at "ls"))
  | refine wf_E ?_
  | refine wf_Ret ?_
  | refine wf_If ?_
  | refine wf_nil ?_
  | refine wp_eCall ?_
  | (apply wp_opF0; (· with_unfolding_all exact ⟨rfl, rfl⟩))
  | refine wp_eMeth ?_
  | (apply insat; (· walk_at "lk"))
  | refine wp_add ?_
  | refine wp_sub ?_
  | refine wp_lt ?_
  | refine wp_le ?_
  | refine wp_gt ?_
  | refine wp_ge ?_
  | (apply br_kt; (· with_unfolding_all rfl))
  | (apply br_kf; (· with_unfolding_all rfl))
  | refine wp_eqW ?_
  | refine wp_neW ?_
  | refine wp_eqB ?_
  | refine wp_neB ?_
  | (apply wp_lastW; (· assumption))
  | (apply wp_headW; (· assumption))
  | refine wp_inW ?_
  | refine wp_ninW ?_
  | refine wp_eqRow0 ?_
  | refine wp_neRow0 ?_
  | refine wp_eDisp ?_
  | refine pairs_cons ?_
  | refine pairs_nil ?_
  | refine keyat_s ?_
  | refine wf_sDputK ?_
  | (apply dputk_s; (· walk_at "lk"); (· exact lt_line (by omega)))
  | refine wp_eGet1 ?_
  | refine wp_eGet2 ?_
  | refine wp_ePop ?_
  | (apply dctat; (· walk_at "lk"))
  | (apply wp_dg; (· walk_at "lk"); (· assumption))
  | (apply wp_bDict; (· walk_at "lk"))
  | refine wp_eTM ?_
  | refine tupat ?_
  | (apply wp_tupIx; (· assumption))
  | refine wp_eCallV ?_
  | refine fnat ?_
  | refine wp_eqI ?_
  | refine wp_neI ?_
  | refine wp_eqS ?_
  | refine wp_neS ?_
  | (apply wp_mod; (· omega))
  | (apply wp_div; (· omega))
  | (apply wp_mul; (· omega))
  | (apply wp_powN; (· (simp only [Int.reduceToNat]; rfl)); (· omega); (· omega))
  | refine wp_neg ?_
  | refine wp_isN ?_
  | refine wp_isNI ?_
  | refine wp_bMax ?_
  | refine wp_bMin ?_
  | refine wp_bAbs ?_
  | refine wp_bInt ?_
  | (apply wp_bDivmod; (· omega))
  | refine tr_bl ?_
  | refine isb ?_
  | (apply br_t; (· rfl))
  | (apply br_f; (· rfl))
  | refine br_nt ?_
  | (apply br_dt; (· omega))
  | (apply br_df; (· omega))
  | refine wp_eNot ?_
  | refine wp_eB ?_
  | refine wp_eOr ?_
  | refine wp_eAnd ?_
  | refine wp_eAndB ?_
  | refine wp_eOrB ?_
  | refine wp_eNotB ?_
  | refine wp_eIf ?_
  | refine wp_chain ?_
  | refine wp_eFld ?_
  | (apply fdat; (· walk_at "lk"); (· walk_at "rf"))
  | refine wp_eTup ?_
  | refine wp_eLst ?_
  | refine wp_listR ?_
  | (apply wp_addT; (· walk_at "sz"))
  | (apply need; (· walk_at "sz"))
  | refine intat ?_
  | refine strat ?_
  | refine nonat ?_
  | (apply wp_len; (· walk_at "sq"))
  | (apply wp_ix; (· walk_at "sq"); (· walk_at "rf"))
  | (apply wp_bTuple; (· walk_at "sq"))
  | (apply wp_bList; (· walk_at "sq"))
  | refine wp_eBM ?_
  | (apply lstat; (· walk_at "lk"))
  | (apply wp_append; (· walk_at "lk"); (· walk_at "sz"))
  | (apply wp_clear; (· walk_at "lk"))
  | refine wp_eSl ?_
  | refine wp_pSome ?_
  | refine pis ?_
  | refine wp_pNo ?_
  | refine slat_tup ?_
  | (apply slat_lst; (· walk_at "lk"))
  | (apply wf_gT; (· walk_at "rf"))
  | refine wf_gsCons ?_
  | refine wf_gsNil ?_
  | refine wf_gSub ?_
  | (apply subat; (· walk_at "lk"); (· walk_at "rf"))
  | refine wf_sFld ?_
  | (apply fldat; (· walk_at "lk"); (· walk_at "sz"); (· walk_at "rf"))
  | refine wf_sPar ?_
  | (apply parat; (· walk_at "ls"))
  | refine wf_sPar3 ?_
  | (apply parat3; (· walk_at "ls"))
  | refine wp_eRev ?_
  | (apply rvat; (· walk_at "lk"))
  | refine wp_isBB ?_
  | refine wf_sFor ?_
  | refine wp_iSeq ?_
  | refine wp_iZip ?_
  | (apply zipat; (· walk_at "lk"); (· walk_at "lk"))
  | refine wp_aStar ?_
  | (apply sqat; (· walk_at "sq"))
  | refine wp_eJoinL ?_
  | refine wp_rB ?_
  | refine wp_iEnum ?_
  | refine wp_iRng1 ?_
  | refine wp_iRng2 ?_
  | refine srcat_tup ?_
  | refine srcat_scr ?_
  | (apply srcat_lst; (· walk_at "lk"))
  | refine wp_eIsi ?_
  | refine kd_int ?_
  | refine kd_bl ?_
  | refine kd_str ?_
  | refine kd_non ?_
  | refine kd_tup ?_
  | (apply kd_lst; (· walk_at "lk"))
  | (apply wp_eComp; (· walk_at "ls"))
  | (apply wp_lenO; (· walk_at "lk"))
  | (apply wp_reprO; (· walk_at "lk"))
  | refine wp_eFmt ?_
  | refine wp_eJoin ?_
  | refine jgo_cons ?_
  | refine jgo_nil ?_
  | refine wf_Raise1 ?_
  | refine wf_Raise0 ?_
  | refine wf_Try ?_
  | (apply wp_eXf; (· walk_at "rf"))
  | walk_at "call"))
/-- into a def -/
local macro_rules | `(tactic| walk_at "into") => `(tactic| (refine wp_runF (by walk_at "rf") (by walk_at "ls") ?_))
/-- on, through all branches -/
local macro_rules | `(tactic| walk_at "br") => `(tactic| repeat' (first | walk_at "run" | (with_reducible apply br_dt; (· assumption)) | (with_reducible apply br_df; (· assumption)) | (with_reducible apply br_t; (· assumption)) | (with_reducible apply br_f; (· assumption)) | (with_reducible refine br_d (fun _ => ?_) (fun _ => ?_)) | (with_reducible refine br_s (fun _ => ?_) (fun _ => ?_)) | (intro d ed)))
/-! ### five rules, five books -/
theorem zip_map {α : Type} {f g : α → D} : ∀ ts : List α, zipD (ts.map f) (ts.map g) = ts.map fun t => .tup [f t, g t]
  | [] => rfl
  | t :: ts => by
    have ih := zip_map (f := f) (g := g) ts
    unfold zipD at ih ⊢
    rw [List.map_cons, List.map_cons, List.map_cons, List.zipWith_cons_cons, ih]
structure Good (h : LH) (n : Nat) (R : Ru) : Prop where
  a : RF o0 h n R
  k : Ok R
  s : R.holds.Sublist [12, 13, 14, 15]
theorem Good.ext {W : List Nat} {h h1 : LH} {n : Nat} {R : Ru} (g : Good h n R) (x : Ext W h h1) (k : n ∉ W) : Good h1 n R := ⟨g.a.ext x k, g.k, g.s⟩
theorem RF.nl {o : List Pt} {h : LH} {n l : Nat} {R : Ru} {xs : List D} (A : RF o h n R) (L : h[l]? = some (.lst xs)) : n ≠ l := by
  intro z
  subst z
  unfold RF at A
  rw [A] at L; exact nomatch L
theorem refs_notS {α : Type} {f : α → Nat} (ts : List α) : (ts.map fun t => D.ref (f t)).all notS = true := by
  rw [List.all_eq_true]
  intro d m
  obtain ⟨t, _, rfl⟩ := List.mem_map.1 m
  rfl
section
variable {E : EP} {Q : D → LH → Prop} {h : LH}
theorem right_w {p : Nat} (P : Pot h p) (q : ∀ h1, Ext [p] h h1 → Q (.bl true) h1) : WP (f__law_right [.ref p] h) Q E := by
  have pl := P.lt
  unfold f__law_right b__law_right
  walk_at "into"
  walk_at "go"
  refine any_w P ?_
  intro n0 h1 R0 l1 A1 K0 S0 P1 x1
  walk_at "go"
  intro l h2 l2 x2 a2
  have P2 := P1.ext x2 (by simp)
  have A2 := A1.ext x2 (by simp)
  have y2 : Ext [p] h h2 := x1.then0 x2
  have lp : l ≠ p := by have := P1.lt; omega
  have b1 := x1.1
  have ll : h.length ≤ l := by omega
  walk_at "go"
  refine wf_forR 4 (by omega) (by decide) (fun i r h' => ∃ (c : Option D) (zs : List (Nat × Ru)), r = [some (.ref p), some (.ref l), c, none, none, none, none, none] ∧ zs.length = i + 1 ∧ h'[l]? = some (.lst (zs.map fun z => D.ref z.1)) ∧ (∀ z ∈ zs, Good h' z.1 z.2) ∧ Pot h' p ∧ Ext [p] h h') ⟨_, [(n0, R0)], rfl, rfl, a2, (fun z m => by rw [List.mem_singleton.1 m]; exact ⟨A2, K0, S0⟩), P2, y2⟩ ?_ ?_
  · clear a2 A1 A2 K0 S0 P1 x1 x2 y2 P2
    rintro r h3 ⟨c, zs, rfl, zl, a3, gd, P3, y3⟩
    walk_at "go"
    refine wp_comp (fun i => (zs.map fun z => D.ref z.1).getD i .non) zs.length (fun i acc h' => ∃ ts : List (Nat × Nat × Ru), ts.map (·.2) = zs.take i ∧ acc = ts.map (fun t => D.ref t.1) ∧ (∀ t ∈ ts, BookAt h' t.1 t.2.2) ∧ Ext [] h3 h') (by omega) ⟨[], rfl, rfl, (fun t m => nomatch m), Ext.rfl'⟩ ?_ ?_
    · rintro acc h4 ⟨ts, et, rfl, bk, x4⟩
      rw [List.take_length] at et
      have a4 := x4.get0 a3
      refine ⟨by rw [src_lst a4, List.getElem?_eq_none (by simp)], ?_⟩
      intro m h5 l5 x5 a5
      have y5 := y3.then0 (x4.trans x5)
      have a45 : h5[l]? = some (.lst (ts.map fun t => D.ref t.2.1)) := by
        rw [x5.get0 a4, ← et, List.map_map]; rfl
      have gd5 : ∀ t ∈ ts, BookAt h5 t.1 t.2.2 ∧ Good h5 t.2.1 t.2.2 := by
        intro t mt
        have mz : t.2 ∈ zs := by rw [← et]; exact List.mem_map.2 ⟨t, mt, rfl⟩
        exact ⟨(bk t mt).ext x5, (gd _ mz).ext (x4.trans x5) (by simp)⟩
      have tl : ts.length ≤ 5 := by
        have := congrArg List.length et
        rw [List.length_map] at this; omega
      clear bk gd a4 a3 x4 x5 y3 P3 et
      walk_at "go"
      refine wf_forL (ts.map fun t => D.tup [.ref t.1, .ref t.2.1]) (by rw [List.length_map]; omega) (fun i r h' => ∃ c4 c5 : Option D, r = [some (.ref p), some (.ref l), c, some (.ref m), c4, c5, none, none] ∧ Ext [] h5 h') (fun i r h' z => ?_) ⟨_, _, rfl, Ext.rfl'⟩ ?_ ?_
      · obtain ⟨_, _, _, x6⟩ := z
        rw [src_zip (x6.get0 a5) (x6.get0 a45) (refs_notS ts), zip_map]
      · rintro r h6 ⟨c4, c5, rfl, x6⟩
        walk_at "go"
        exact q h6 (y5.then0 x6)
      · rintro i d r h6 ed ⟨c4, c5, rfl, x6⟩
        rw [List.getElem?_map] at ed
        obtain ⟨t, et, rfl⟩ := Option.map_eq_some_iff.1 ed
        have mt := List.mem_of_getElem? et
        obtain ⟨B, g⟩ := gd5 t mt
        walk_at "go"
        refine alone_w (B.ext x6) (g.a.ext x6 (by simp)) g.k g.s ?_
        intro h7 x7
        have x57 := x6.trans x7
        have a57 := x57.get0 a5
        have b57 := x57.get0 a45
        walk_at "go"
        refine wp_mapF (fun t : Nat × Nat × Ru => D.tup [.ref t.1, .ref t.2.1]) ts (fun _ => .bl true) (by rw [← zip_map]; exact gives_zip a57 b57 (refs_notS ts)) (by omega) ?_ ?_
        · intro t2 mt2 h8 x8
          obtain ⟨B2, g2⟩ := gd5 t2 mt2
          have x58 := x57.trans x8
          refine ⟨_, rfl, ?_⟩
          walk_at "go"
          refine two_w od0 all_o0 (B.ext x58) (B2.ext x58) (.inl (g.a.ext x58 (by simp))) (.inl (g2.a.ext x58 (by simp))) g.s g2.s ?_
          intro h9 x9
          exact ⟨rfl, x9⟩
        intro n8 h8 l8 x8 a8
        walk_at "go"
        refine wp_allT a8 ?_
        walk_at "go"
        exact ⟨_, _, rfl, x57.trans x8⟩
    · rintro i acc h4 li ⟨ts, et, rfl, bk, x4⟩
      have ei : zs[i]? = some zs[i] := List.getElem?_eq_getElem li
      generalize zs[i] = z at ei
      have g := (gd z (List.mem_of_getElem? ei)).ext x4 (by simp)
      have e0 : (zs.map fun z => D.ref z.1).getD i .non = .ref z.1 := by simp [List.getD, ei]
      rw [e0]
      have a4 := x4.get0 a3
      refine ⟨by rw [src_lst a4, List.getElem?_map, ei]; rfl, _, rfl, ?_⟩
      walk_at "go"
      refine law_book_w (g.a.at od0) g.k ?_
      intro b h5 l5 x5 B5
      have tk : zs.take (i + 1) = zs.take i ++ [z] := by rw [List.take_succ, ei]; rfl
      have tl : ts.length ≤ 5 := by
        have := congrArg List.length et
        rw [List.length_map, List.length_take] at this; omega
      refine need (by rw [List.length_map]; exact lt_line (by omega)) ⟨ts ++ [(b, z.1, z.2)], by rw [List.map_append, et, tk]; rfl, by rw [List.map_append]; rfl, ?_, x4.trans x5⟩
      intro t m
      rcases List.mem_append.1 m with m | m
      · exact (bk t m).ext x5
      · rw [List.mem_singleton.1 m]; exact B5
  · clear a2 A1 A2 K0 S0 P1 x1 x2 y2 P2
    rintro i r h3 li ⟨c, zs, rfl, zl, a3, gd, P3, y3⟩
    obtain ⟨z, ez⟩ : ∃ z, zs.getLast? = some z := by
      cases e : zs.getLast? with
      | some z => exact ⟨z, rfl⟩
      | none => rw [List.getLast?_eq_none_iff] at e; subst e; simp at zl
    have g := gd z (List.mem_of_getLast? ez)
    walk_at "go"
    refine wp_ix (seq_lst a3) (atI_last0 (by rw [List.getLast?_map, ez]; rfl)) ?_
    walk_at "go"
    refine beside_w P3 g.a g.k g.s ?_
    intro k h4 T l4 A4 K4 S4 P4 x4
    have a4 := x4.get1 a3 lp
    have gd4 : ∀ z ∈ zs, Good h4 z.1 z.2 := fun z m => (gd z m).ext x4 (by have := (gd z m).a.np P3; simpa using this)
    have y4 := y3.trans x4
    walk_at "go"
    intro h5 x5 a5
    walk_at "go"
    refine ⟨_, zs ++ [(k, T)], rfl, by simp; omega, by rw [a5, List.map_append]; rfl, ?_, P4.ext x5 (by simpa using fun z => lp z.symm), y4.new x5 ll⟩
    intro w m
    rcases List.mem_append.1 m with m | m
    · exact (gd4 w m).ext x5 (by have := (gd4 w m).a.nl a4; simpa using this)
    · rw [List.mem_singleton.1 m]
      exact ⟨A4.ext x5 (by have := A4.nl a4; simpa using this), K4, S4⟩
end
end
end Lw

set_option Elab.async false
set_option linter.all false
set_option maxRecDepth 100000
set_option maxHeartbeats 4000000
namespace Lw
open Py Ev PySem
section
local macro_rules | `(tactic| walk_at "rf") => `(tactic| with_unfolding_all exact rfl)
local macro_rules | `(tactic| walk_at "nin") => `(tactic| first | exact List.not_mem_nil | (simp only [List.mem_cons, List.not_mem_nil, or_false, not_or]; omega))
local macro_rules | `(tactic| walk_at "lk") => `(tactic| first | assumption | (refine Ext.get (by assumption) ?_ ?_; (walk_at "lk"); (walk_at "nin")))
local macro_rules | `(tactic| walk_at "sq") => `(tactic| first | exact seq_tup | exact seq_scr | exact SeqOf.seq (by assumption) | exact seq_lst (by walk_at "lk"))
local macro_rules | `(tactic| walk_at "sz") => `(tactic| first | omega | (simp only [List.length_cons, List.length_nil, List.length_append, List.length_map, List.length_replicate, iD_len, sizeLine]; omega))
local macro_rules | `(tactic| walk_at "ls") => `(tactic| (simp only [List.set_cons_succ, List.set_cons_zero, List.map_cons, List.map_nil, List.replicate_succ, List.replicate_zero, List.cons_append, List.nil_append, wipeL]; rfl))
local macro_rules | `(tactic| walk_at "call") => `(tactic| fail)
local macro_rules | `(tactic| walk_at "run") => `(tactic| with_reducible first
  | (apply wp_eV; (· walk_at "rf"))
  | refine wp_eC ?_
  | refine wp_e2 ?_
  | refine wp_e1 ?_
  | refine wp_aCons ?_
  | refine wp_aNil ?_
  | refine wp_eA ?_
  | refine wf_seq ?_
  | refine wf_Asg ?_
  | (apply wf_gN; (· walk_at "ls"))
  | refine wf_E ?_
  | refine wf_Ret ?_
  | refine wf_If ?_
  | refine wf_nil ?_
  | refine wp_eCall ?_
  | (apply wp_opF0; (· with_unfolding_all exact ⟨rfl, rfl⟩))
  | refine wp_eMeth ?_
  | (apply insat; (· walk_at "lk"))
  | refine wp_add ?_
  | refine wp_sub ?_
  | refine wp_lt ?_
  | refine wp_le ?_
  | refine wp_gt ?_
  | refine wp_ge ?_
  | (apply br_kt; (· with_unfolding_all rfl))
  | (apply br_kf; (· with_unfolding_all rfl))
  | refine wp_eqW ?_
  | refine wp_neW ?_
  | refine wp_eqB ?_
  | refine wp_neB ?_
  | (apply wp_lastW; (· assumption))
  | (apply wp_headW; (· assumption))
  | refine wp_inW ?_
  | refine wp_ninW ?_
  | refine wp_eqRow0 ?_
  | refine wp_neRow0 ?_
  | refine wp_eDisp ?_
  | refine pairs_cons ?_
  | refine pairs_nil ?_
  | refine keyat_s ?_
  | refine wf_sDputK ?_
  | (apply dputk_s; (· walk_at "lk"); (· exact lt_line (by omega)))
  | refine wp_eGet1 ?_
  | refine wp_eGet2 ?_
  | refine wp_ePop ?_
  | (apply dctat; (· walk_at "lk"))
  | (apply wp_dg; (· walk_at "lk"); (· assumption))
  | (apply wp_bDict; (· walk_at "lk"))
  | refine wp_eTM ?_
  | refine tupat ?_
  | (apply wp_tupIx; (· assumption))
  | refine wp_eCallV ?_
  | refine fnat ?_
  | refine wp_eqI ?_
  | refine wp_neI ?_
  | refine wp_eqS ?_
  | refine wp_neS ?_
  | (apply wp_mod; (· omega))
  | (apply wp_div; (· omega))
  | (apply wp_mul; (· omega))
  | (apply wp_powN; (· (simp only [Int.reduceToNat]; rfl)); (· omega); (· omega))
  | refine wp_neg ?_
  | refine wp_isN ?_
  | refine wp_isNI ?_
  | refine wp_bMax ?_
  | refine wp_bMin ?_
  | refine wp_bAbs ?_
  | refine wp_bInt ?_
  | (apply wp_bDivmod; (· omega))
  | refine tr_bl ?_
  | refine isb ?_
  | (apply br_t; (· rfl))
  | (apply br_f; (· rfl))
  | refine br_nt ?_
  | (apply br_dt; (· omega))
  | (apply br_df; (· omega))
  | refine wp_eNot ?_
  | refine wp_eB ?_
  | refine wp_eOr ?_
  | refine wp_eAnd ?_
  | refine wp_eAndB ?_
  | refine wp_eOrB ?_
  | refine wp_eNotB ?_
  | refine wp_eIf ?_
  | refine wp_chain ?_
  | refine wp_eFld ?_
  | (apply fdat; (· walk_at "lk"); (· walk_at "rf"))
  | refine wp_eTup ?_
  | refine wp_eLst ?_
  | refine wp_listR ?_
  | (apply wp_addT; (· walk_at "sz"))
  | (apply need; (· walk_at "sz"))
  | refine intat ?_
  | refine strat ?_
  | refine nonat ?_
  | (apply wp_len; (· walk_at "sq"))
  | (apply wp_ix; (· walk_at "sq"); (· walk_at "rf"))
  | (apply wp_bTuple; (· walk_at "sq"))
  | (apply wp_bList; (· walk_at "sq"))
  | refine wp_eBM ?_
  | (apply lstat; (· walk_at "lk"))
  | (apply wp_append; (· walk_at "lk"); (· walk_at "sz"))
  | (apply wp_clear; (· walk_at "lk"))
  | refine wp_eSl ?_
  | refine wp_pSome ?_
  | refine pis ?_
  | refine wp_pNo ?_
  | refine slat_tup ?_
  | (apply slat_lst; (· walk_at "lk"))
  | (apply wf_gT; (· walk_at "rf"))
  | refine wf_gsCons ?_
  | refine wf_gsNil ?_
  | refine wf_gSub ?_
  | (apply subat; (· walk_at "lk"); (· walk_at "rf"))
  | refine wf_sFld ?_
  | (apply fldat; (· walk_at "lk"); (· walk_at "sz"); (· walk_at "rf"))
  | refine wf_sPar ?_
  | (apply parat; (· walk_at "ls"))
  | refine wf_sPar3 ?_
  | (apply parat3; (· walk_at "ls"))
  | refine wp_eRev ?_
  | (apply rvat; (· walk_at "lk"))
  | refine wp_isBB ?_
  | refine wf_sFor ?_
  | refine wp_iSeq ?_
  | refine wp_iZip ?_
  | (apply zipat; (· walk_at "lk"); (· walk_at "lk"))
  | refine wp_aStar ?_
  | (apply sqat; (· walk_at "sq"))
  | refine wp_eJoinL ?_
  | refine wp_rB ?_
  | refine wp_iEnum ?_
  | refine wp_iRng1 ?_
  | refine wp_iRng2 ?_
  | refine srcat_tup ?_
  | refine srcat_scr ?_
  | (apply srcat_lst; (· walk_at "lk"))
  | refine wp_eIsi ?_
  | refine kd_int ?_
  | refine kd_bl ?_
  | refine kd_str ?_
  | refine kd_non ?_
  | refine kd_tup ?_
  | (apply kd_lst; (· walk_at "lk"))
  | (apply wp_eComp; (· walk_at "ls"))
  | (apply wp_lenO; (· walk_at "lk"))
  | (apply wp_reprO; (· walk_at "lk"))
  | refine wp_eFmt ?_
  | refine wp_eJoin ?_
  | refine jgo_cons ?_
  | refine jgo_nil ?_
  | walk_at "call")
local macro_rules | `(tactic| walk_at "go") => `(tactic| repeat (with_reducible first
  | (apply wp_eV; (· walk_at "rf"))
  | refine wp_eC ?_
  | refine wp_e2 ?_
  | refine wp_e1 ?_
  | refine wp_aCons ?_
  | refine wp_aNil ?_
  | refine wp_eA ?_
  | refine wf_seq ?_
  | refine wf_Asg ?_
  | (apply wf_gN; (· walk_at "ls"))
  | refine wf_E ?_
  | refine wf_Ret ?_
  | refine wf_If ?_
  | refine wf_nil ?_
  | refine wp_eCall ?_
  | (apply wp_opF0; (· with_unfolding_all exact ⟨rfl, rfl⟩))
  | refine wp_eMeth ?_
  | (apply insat; (· walk_at "lk"))
  | refine wp_add ?_
  | refine wp_sub ?_
  | refine wp_lt ?_
  | refine wp_le ?_
  | refine wp_gt ?_
  | refine wp_ge ?_
  | (apply br_kt; (· with_unfolding_all rfl))
  | (apply br_kf; (· with_unfolding_all rfl))
  | refine wp_eqW ?_
  | refine wp_neW ?_
  | refine wp_eqB ?_
  | refine wp_neB ?_
  | (apply wp_lastW; (· assumption))
  | (apply wp_headW; (· assumption))
  | refine wp_inW ?_
  | refine wp_ninW ?_
  | refine wp_eqRow0 ?_
  | refine wp_neRow0 ?_
  | refine wp_eDisp ?_
  | refine pairs_cons ?_
  | refine pairs_nil ?_
  | refine keyat_s ?_
  | refine wf_sDputK ?_
  | (apply dputk_s; (· walk_at "lk"); (· exact lt_line (by omega)))
  | refine wp_eGet1 ?_
  | refine wp_eGet2 ?_
  | refine wp_ePop ?_
  | (apply dctat; (· walk_at "lk"))
  | (apply wp_dg; (· walk_at "lk"); (· assumption))
  | (apply wp_bDict; (· walk_at "lk"))
  | refine wp_eTM ?_
  | refine tupat ?_
  | (apply wp_tupIx; (· assumption))
  | refine wp_eCallV ?_
  | refine fnat ?_
  | refine wp_eqI ?_
  | refine wp_neI ?_
  | refine wp_eqS ?_
  | refine wp_neS ?_
  | (apply wp_mod; (· omega))
  | (apply wp_div; (· omega))
  | (apply wp_mul; (· omega))
  | (apply wp_powN; (· (simp only [Int.reduceToNat]; rfl)); (· omega); (· omega))
  | refine wp_neg ?_
  | refine wp_isN ?_
  | refine wp_isNI ?_
  | refine wp_bMax ?_
  | refine wp_bMin ?_
  | refine wp_bAbs ?_
  | refine wp_bInt ?_
  | (apply wp_bDivmod; (· omega))
  | refine tr_bl ?_
  | refine isb ?_
  | (apply br_t; (· rfl))
  | (apply br_f; (· rfl))
  | refine br_nt ?_
  | (apply br_dt; (· omega))
  | (apply br_df; (· omega))
  | refine wp_eNot ?_
  | refine wp_eB ?_
  | refine wp_eOr ?_
  | refine wp_eAnd ?_
  | refine wp_eAndB ?_
  | refine wp_eOrB ?_
  | refine wp_eNotB ?_
  | refine wp_eIf ?_
  | refine wp_chain ?_
  | refine wp_eFld ?_
  | (apply fdat; (· walk_at "lk"); (· walk_at "rf"))
  | refine wp_eTup ?_
  | refine wp_eLst ?_
  | refine wp_listR ?_
  | (apply wp_addT; (· walk_at "sz"))
  | (apply need; (· walk_at "sz"))
  | refine intat ?_
  | refine strat ?_
  | refine nonat ?_
  | (apply wp_len; (· walk_at "sq"))
  | (apply wp_ix; (· walk_at "sq"); (· walk_at "rf"))
  | (apply wp_bTuple; (· walk_at "sq"))
  | (apply wp_bList; (· walk_at "sq"))
  | refine wp_eBM ?_
  | (apply lstat; (· walk_at "lk"))
  | (apply wp_append; (· walk_at "lk"); (· walk_at "sz"))
  | (apply wp_clear; (· walk_at "lk"))
  | refine wp_eSl ?_
  | refine wp_pSome ?_
  | refine pis ?_
  | refine wp_pNo ?_
  | refine slat_tup ?_
  | (apply slat_lst; (· walk_at "lk"))
  | (apply wf_gT; (· walk_at "rf"))
  | refine wf_gsCons ?_
  | refine wf_gsNil ?_
  | refine wf_gSub ?_
  | (apply subat; (· walk_at "lk"); (· walk_at "rf"))
  | refine wf_sFld ?_
  | (apply fldat; (· walk_at "lk"); (· walk_at "sz"); (· walk_at "rf"))
  | refine wf_sPar ?_
  | (apply parat; (· walk_at "ls"))
  | refine wf_sPar3 ?_
  | (apply parat3; (· walk_at "ls"))
  | refine wp_eRev ?_
  | (apply rvat; (· walk_at "lk"))
  | refine wp_isBB ?_
  | refine wf_sFor ?_
  | refine wp_iSeq ?_
  | refine wp_iZip ?_
  | (apply zipat; (· walk_at "lk"); (· walk_at "lk"))
  | refine wp_aStar ?_
  | (apply sqat; (· walk_at "sq"))
  | refine wp_eJoinL ?_
  | refine wp_rB ?_
  | refine wp_iEnum ?_
  | refine wp_iRng1 ?_
  | refine wp_iRng2 ?_
  | refine srcat_tup ?_
  | refine srcat_scr ?_
  | (apply srcat_lst; (· walk_at "lk"))
  | refine wp_eIsi ?_
  | refine kd_int ?_
  | refine kd_bl ?_
  | refine kd_str ?_
  | refine kd_non ?_
  | refine kd_tup ?_
  | (apply kd_lst; (· walk_at "lk"))
  | (apply wp_eComp; (· walk_at "ls"))
  | (apply wp_lenO; (· walk_at "lk"))
  | (apply wp_reprO; (· walk_at "lk"))
  | refine wp_eFmt ?_
  | refine wp_eJoin ?_
  | refine jgo_cons ?_
  | refine jgo_nil ?_
  | refine wf_Raise1 ?_
  | refine wf_Raise0 ?_
  | refine wf_Try ?_
  | (apply wp_eXf; (· walk_at "rf"))
  | walk_at "call"))
/-- into a def -/
local macro_rules | `(tactic| walk_at "into") => `(tactic| (refine wp_runF (by walk_at "rf") (by walk_at "ls") ?_))
/-- on, through all branches -/
local macro_rules | `(tactic| walk_at "br") => `(tactic| repeat' (first | walk_at "run" | (with_reducible apply br_dt; (· assumption)) | (with_reducible apply br_df; (· assumption)) | (with_reducible apply br_t; (· assumption)) | (with_reducible apply br_f; (· assumption)) | (with_reducible refine br_d (fun _ => ?_) (fun _ => ?_)) | (with_reducible refine br_s (fun _ => ?_) (fun _ => ?_)) | (intro d ed)))
/-! ### rules that are known -/
def setP (R S : Ru) (p : Pt) : Ru := match p.val with
  | 0 => { R with fails := S.fails }
  | 1 => { R with shared := S.shared }
  | 2 => { R with batch := S.batch }
  | 3 => { R with settles := S.settles }
  | 4 => { R with holds := S.holds }
  | 5 => { R with take := S.take }
  | 6 => { R with give := S.give }
  | 7 => { R with move := S.move }
  | _ => { R with lift := S.lift }
theorem setP_eq {R S : Ru} : ∀ p, pv (setP R S p) p = pv S p := fin9 rfl rfl rfl rfl rfl rfl rfl rfl rfl
theorem setP_ne {R S : Ru} : ∀ p q, q ≠ p → pv (setP R S p) q = pv R q := by
  refine fin9 ?_ ?_ ?_ ?_ ?_ ?_ ?_ ?_ ?_
  all_goals refine fin9 ?_ ?_ ?_ ?_ ?_ ?_ ?_ ?_ ?_
  all_goals first | exact fun _ => rfl | exact fun z => absurd rfl z
theorem putP {o : List Pt} {R S : Ru} {p : Pt} (d : Od o) : putD (kvR o R) (.inr (pk p)) (pv S p) = kvR o (setP R S p) := put_kv d (setP_eq p) (setP_ne p)
def knR : Ru := ⟨9, true, 1, false, [12], [2, 3], [4, 6], [4, 7], [8]⟩
def knS : Ru := ⟨10, false, 2, true, [12, 13], [1, 3], [6], [4, 0, 7], [7]⟩
theorem ok_kn : Ok knR := by constructor <;> decide +kernel
theorem ok_set : ∀ p, Ok (setP knR knS p) := by
  refine fin9 ?_ ?_ ?_ ?_ ?_ ?_ ?_ ?_ ?_
  all_goals constructor <;> decide +kernel
theorem sub_kn : knR.holds.Sublist [12, 13, 14, 15] := by decide
theorem sub_set : ∀ p, (setP knR knS p).holds.Sublist [12, 13, 14, 15] := by
  refine fin9 ?_ ?_ ?_ ?_ ?_ ?_ ?_ ?_ ?_
  all_goals decide
section
variable {E : EP} {Q : D → LH → Prop} {h : LH}
theorem known_w (q : ∀ h1, Ext [] h h1 → Q (.bl true) h1) : WP (f__law_known_right [] h) Q E := by
  unfold f__law_known_right b__law_known_right
  walk_at "into"
  walk_at "go"
  intro n h1 l1 x1 a1
  walk_at "go"
  refine ⟨a1, ?_⟩
  intro h2 x2 a2 _
  have y2 : Ext [] h h2 := x1.new x2 l1
  walk_at "go"
  refine wp_eUpd ?_
  walk_at "go"
  intro m h3 l3 x3 a3
  walk_at "go"
  refine ⟨a3, ?_⟩
  intro h4 x4 a4 _
  have nl := lt_of_at a2
  have nm : n ≠ m := by omega
  have a24 := x4.get1 (x3.get0 a2) nm
  have y4 : Ext [] h h4 := (y2.trans x3).new x4 (by have := y2.1; omega)
  refine wp_oUpd a24 a4 ⟨nm, by decide +kernel⟩ ?_
  intro h5 x5 a5
  have A5 : RF o1 h5 n knR := by unfold RF; rw [a5]; rfl
  have y5 : Ext [] h h5 := y4.new x5 l1
  clear a1 a2 a3 a4 a5 a24 x1 x2 x3 x4 x5 y2 y4 l3 nl nm
  have nl := A5.lt
  have a5 : h5[n]? = some (.dct (kvR o1 knR)) := A5
  walk_at "go"
  intro k h6 l6 x6 a6
  walk_at "go"
  refine ⟨a6, ?_⟩
  intro h7 x7 a7 _
  have y7 : Ext [] h5 h7 := x6.new x7 l6
  walk_at "go"
  refine wp_eUpd ?_
  walk_at "go"
  intro m h8 l8 x8 a8
  walk_at "go"
  refine ⟨a8, ?_⟩
  intro h9 x9 a9 _
  have kl := lt_of_at a7
  have km : k ≠ m := by omega
  have a79 := x9.get1 (x8.get0 a7) km
  have y9 : Ext [] h5 h9 := (y7.trans x8).new x9 (by have := y7.1; omega)
  refine wp_oUpd a79 a9 ⟨km, by decide +kernel⟩ ?_
  intro h10 x10 a10
  have B10 : RF o1 h10 k knS := by unfold RF; rw [a10]; rfl
  have y10 : Ext [] h5 h10 := y9.new x10 l6
  have A10 := A5.ext y10 (by simp)
  have z10 := y5.trans y10
  clear A5 y5 y10 a5 a6 a7 a8 a9 a10 a79 x6 x7 x8 x9 x10 y7 y9
  have nk : n ≠ k := by omega
  walk_at "go"
  refine law_book_w (A10.at od1) ok_kn ?_
  intro b h11 l11 x11 B11
  have A11 := A10.ext x11 (by simp)
  have K11 := B10.ext x11 (by simp)
  have z11 := z10.trans x11
  have nb : b ≠ n := by have := A10.lt; omega
  clear A10 B10 x11 z10
  walk_at "go"
  refine wf_forK rfl A11 ?_
  intro h12 x12 a12
  obtain ⟨db, BK⟩ := B11
  have nd : db ≠ n := by
    intro z
    subst z
    have e1 := BK.dct
    unfold RF at A11
    rw [A11] at e1
    exact absurd (congrArg (fun o => match o with | some (O.dct ks) => ks.length | _ => 0) e1) (by decide +kernel)
  have B12 : BookAt h12 b knR := ⟨db, x12.get1 BK.ins nb, x12.get1 BK.dct nd⟩
  have K12 := K11.ext x12 (by simpa using fun z => nk z.symm)
  refine wf_forL (o1.map fun p => D.str (pk p)) (by decide) (fun i r h' => ∃ c3 c4 c5 : Option D, r = [some (.ref n), some (.ref k), some (.ref b), c3, c4, c5] ∧ Ext [] h12 h') (fun _ _ _ _ => rfl) ⟨_, _, _, rfl, Ext.rfl'⟩ ?_ ?_
  · rintro r h13 ⟨c3, c4, c5, rfl, x13⟩
    refine ⟨⟨_, x13.get0 a12⟩, ?_⟩
    intro h14 x14 a14
    walk_at "go"
    have A11' : h11[n]? = some (.dct (kvR o1 knR)) := A11
    exact q h14 (z11.trans ⟨Nat.le_trans x12.1 (Nat.le_trans x13.1 x14.1), fun j lj _ => by
      by_cases z : j = n
      · subst z; rw [a14, A11']
      · have w := ((x12.trans (x13.w0)).trans x14).2 j lj (by simpa using z)
        exact w⟩)
  · rintro i d r h13 ed ⟨c3, c4, c5, rfl, x13⟩
    rw [List.getElem?_map] at ed
    obtain ⟨p, ep, rfl⟩ := Option.map_eq_some_iff.1 ed
    have I13 : IsD h13 n (kvR o1 knR) := .inr (x13.get0 a12)
    have K13 := K12.ext x13 (by simp)
    have few : (kvR o1 knR).length ≤ 30 := by decide
    walk_at "go"
    refine wp_bDictR I13 ?_
    intro t h14 l14 x14 a14
    have K14 : RF o1 h14 k knS := K13.ext x14 (by simp)
    walk_at "go"
    refine wp_dgR (.inl K14) (valD_kv (od1.has p)) ?_
    walk_at "go"
    intro h15 x15 a15 _
    rw [putP od1] at a15
    have x1315 : Ext [] h13 h15 := x14.new x15 l14
    have T15 : RF o1 h15 t (setP knR knS p) := a15
    walk_at "go"
    refine law_book_w (T15.at od1) (ok_set p) ?_
    intro c h16 l16 x16 C16
    have x1316 := x1315.trans x16
    have B16 := B12.ext (x13.trans x1316)
    have T16 := T15.ext x16 (by simp)
    have I16 := I13.ext x1316 (by simp)
    walk_at "go"
    refine two_w od1 all_o1 B16 C16 I16 (.inl T16) sub_kn (sub_set p) ?_
    intro h17 x17
    walk_at "go"
    refine two_w od1 all_o1 (C16.ext x17) (B16.ext x17) (.inl (T16.ext x17 (by simp))) (I16.ext x17 (by simp)) (sub_set p) sub_kn ?_
    intro h18 x18
    walk_at "go"
    exact ⟨_, _, _, rfl, ((x13.trans x1316).trans x17).trans x18⟩
end
theorem law_true : ∀ ns : List Int, ns.length ≤ 63 → ∃ h', f_law [.scr ns] [] = .ok (.bl true) h' := by
  intro ns hl
  have main : WP (f_law [.scr ns] []) (fun d _ => d = .bl true) noE := by
    unfold f_law b_law
    have kn : ∀ (Q : D → LH → Prop) (h : LH), (∀ h1, Ext [] h h1 → Q (.bl true) h1) → WP (f__law_known_right [] h) Q noE := fun Q h q => known_w q
    generalize f__law_known_right = F at kn ⊢
    walk_at "into"
    walk_at "go"
    refine kn _ _ ?_
    intro h1 x1
    walk_at "go"
    have ge : ∃ z : Int, (if (if (3 : Int) < ((ns.map D.int).length : Int) then 3 else ((ns.map D.int).length : Int)) > 1 then (if (3 : Int) < ((ns.map D.int).length : Int) then 3 else ((ns.map D.int).length : Int)) else 1) = z ∧ 0 ≤ z ∧ z ≤ 3 := by
      refine ⟨_, rfl, ?_, ?_⟩ <;> split <;> split <;> omega
    obtain ⟨z, ge, z0, z2⟩ := ge
    rw [ge]
    walk_at "go"
    obtain ⟨m, rfl⟩ : ∃ m : Nat, z = m := ⟨z.toNat, by omega⟩
    refine wp_mapN (fun _ => .bl true) gives_range (by simp; omega) ?_ ?_
    · intro c mc h5 x5
      rw [List.mem_range] at mc
      refine ⟨_, rfl, ?_⟩
      walk_at "go"
      refine pot_w (by omega) ?_
      intro p h6 l6 P6 x6
      walk_at "go"
      refine right_w P6 ?_
      intro h7 x7
      exact ⟨rfl, x6.new x7 l6⟩
    intro n' h6 l6 x6 a6
    walk_at "go"
    refine wp_allT a6 ?_
    rfl
  obtain ⟨a, h', e, rfl⟩ := wp_eq main
  exact ⟨h', e⟩
end
end Lw

set_option Elab.async false
set_option linter.all false
set_option maxRecDepth 100000
set_option maxHeartbeats 3000000
/-! The end of a law whose defs make lambdas: tables of code objects. -/
namespace Py
open PySem L2 PySem.Spec PyProof.Rows
end Py

set_option Elab.async false
set_option linter.all false
set_option maxRecDepth 100000
set_option maxHeartbeats 2000000
namespace Py
open PySem PySem.Spec PyProof.Rows L2
/-- the same where no table is written -/
theorem walk_h0 {l : PySem.W.OpenLaw} {n k : Nat} {q : Program} {loose : List Str} {XP : (Str → Option Value) → Heap → Prop} {YP : World → Heap → Prop} {d : DefRec} {x : Str}
    (hn : l.most = some n) (hn2 : n ≤ sizeLine) (hdf : d.params.defaults = []) (hr : Room k callerA)
    (F : ∀ (w : World) (mg : Str → Option Value) (fa : Addr) (h : Heap), YP w h → h.Ns mainGlobals mg → mg d.name = some (.ref fa) →
      ∃ (K : PySem.W.Frag), K.In h ∧ ∃ fd : FuncData, (∀ (s : Shared) (u : Value), BindsTo s fd ⟨[u], []⟩ [(x, u)]) ∧
        ∀ base : Heap, K.In base → base.Ns mainGlobals mg → FnG l.prog w K mg base CX0 k fa fd [x] (spLaw n K [])) :
    PySem.W.WalkO q loose XP YP l.row.toRowW d [] (fun f vs => PySem.call f vs) := by
  refine Att.attach_call hn hdf ?_
  intro w s0 s1 mg mb fa o pm cd doc a vs ns G Y ho hd hcd hmg hobj hints hlen hg
  obtain ⟨K, kin, fd, hb, hF⟩ := F w mg fa _ Y G.T.g hmg
  exact law_end kin G.T.g G.T.b G.T.builtins G.T.nolimit hg hobj hints (Nat.le_trans hlen hn2) hr hF hb fun H hS => ⟨(fun p m => nomatch m), a, ns, rfl, hS, hlen, fun _ => rfl⟩
end Py

set_option Elab.async false
set_option linter.all false
set_option maxRecDepth 100000
set_option maxHeartbeats 4000000
namespace Lw
open PySem PySem.Spec PyProof.Rows L2 Py
theorem all_h (hT : ∀ ns : List Int, ns.length ≤ 63 → ∃ h', f_law [.scr ns] [] = .ok (.bl true) h') {l : PySem.W.OpenLaw} {w : World} {K : PySem.W.Frag} {h : Heap} {mg : Str → Option Value} {fa : Addr} (qq : Program) (KX : K.In h) (G : h.Ns mainGlobals mg) (hmg : mg ("law" : Str) = some (.ref fa)) (c : Rn.obF K = Rn.vaF) :
    ∃ fd : FuncData, (∀ (s : Shared) (u : Value), BindsTo s fd ⟨[u], []⟩ [("_law_script", u)]) ∧ ∀ base : Heap, K.In base → base.Ns mainGlobals mg → FnG l.prog w K mg base CX0 9 fa fd ["_law_script"] (spLaw 63 K []) := by
  unfold Rn.obF Rn.vaF at c
  have c0 := congrArg Prod.fst c
  replace c := congrArg Prod.snd c
  dsimp only at c0 c
  unfold Rn.lk0 at c0
  obtain ⟨g, c0⟩ := Hk.ba c0
  unfold Rn.bs0 at g
  obtain ⟨e_aC_Book, g⟩ := Hk.ba g
  obtain ⟨e_pg_Book, g⟩ := Hk.ba g
  obtain ⟨e_hd_Book, g⟩ := Hk.ba g
  obtain ⟨e_po_Book, g⟩ := Hk.ba g
  obtain ⟨e_sa_Book, g⟩ := Hk.ba g
  obtain ⟨e_mk_Book, g⟩ := Hk.ba g
  obtain ⟨e_kc_Book, g⟩ := Hk.ba g
  obtain ⟨e_ia_Book, g⟩ := Hk.ba g
  obtain ⟨e_ib_Book, g⟩ := Hk.ba g
  obtain ⟨e_ic_Book, g⟩ := Hk.ba g
  obtain ⟨e_id_Book, g⟩ := Hk.ba g
  obtain ⟨e_ie_Book, g⟩ := Hk.ba g
  obtain ⟨e_ig_Book, g⟩ := Hk.ba g
  obtain ⟨e_if_Book, g⟩ := Hk.ba g
  obtain ⟨e_sb_Book, g⟩ := Hk.ba g
  obtain ⟨e_na_own_rows, g⟩ := Hk.ba g
  obtain ⟨e_na_own_fails, g⟩ := Hk.ba g
  obtain ⟨e_na_own_shared, g⟩ := Hk.ba g
  obtain ⟨e_na_own_holds, g⟩ := Hk.ba g
  obtain ⟨e_na_own_batch, g⟩ := Hk.ba g
  obtain ⟨e_na_own_settles, g⟩ := Hk.ba g
  obtain ⟨e_a_are_words, g⟩ := Hk.ba g
  obtain ⟨e_l_are_words, g⟩ := Hk.ba g
  obtain ⟨e_c_are_words, g⟩ := Hk.ba g
  obtain ⟨e_k_are_words, g⟩ := Hk.ba g
  obtain ⟨e_a_are_tests_ahead, g⟩ := Hk.ba g
  obtain ⟨e_l_are_tests_ahead, g⟩ := Hk.ba g
  obtain ⟨e_c_are_tests_ahead, g⟩ := Hk.ba g
  obtain ⟨e_k_are_tests_ahead, g⟩ := Hk.ba g
  obtain ⟨e_a_is_take, g⟩ := Hk.ba g
  clear g
  obtain ⟨g, c0⟩ := Hk.ba c0
  unfold Rn.bs1 at g
  obtain ⟨e_l_is_take, g⟩ := Hk.ba g
  obtain ⟨e_c_is_take, g⟩ := Hk.ba g
  obtain ⟨e_k_is_take, g⟩ := Hk.ba g
  obtain ⟨e_a_is_behind, g⟩ := Hk.ba g
  obtain ⟨e_l_is_behind, g⟩ := Hk.ba g
  obtain ⟨e_c_is_behind, g⟩ := Hk.ba g
  obtain ⟨e_k_is_behind, g⟩ := Hk.ba g
  obtain ⟨e_a_is_give, g⟩ := Hk.ba g
  obtain ⟨e_l_is_give, g⟩ := Hk.ba g
  obtain ⟨e_c_is_give, g⟩ := Hk.ba g
  obtain ⟨e_k_is_give, g⟩ := Hk.ba g
  obtain ⟨e_a_is_move, g⟩ := Hk.ba g
  obtain ⟨e_l_is_move, g⟩ := Hk.ba g
  obtain ⟨e_c_is_move, g⟩ := Hk.ba g
  obtain ⟨e_k_is_move, g⟩ := Hk.ba g
  obtain ⟨e_a_is_lift, g⟩ := Hk.ba g
  obtain ⟨e_l_is_lift, g⟩ := Hk.ba g
  obtain ⟨e_c_is_lift, g⟩ := Hk.ba g
  obtain ⟨e_k_is_lift, g⟩ := Hk.ba g
  obtain ⟨e_a_is_row, g⟩ := Hk.ba g
  obtain ⟨e_l_is_row, g⟩ := Hk.ba g
  obtain ⟨e_c_is_row, g⟩ := Hk.ba g
  obtain ⟨e_k_is_row, g⟩ := Hk.ba g
  obtain ⟨e_a_want_word, g⟩ := Hk.ba g
  obtain ⟨e_l_want_word, g⟩ := Hk.ba g
  obtain ⟨e_c_want_word, g⟩ := Hk.ba g
  obtain ⟨e_k_want_word, g⟩ := Hk.ba g
  obtain ⟨e_a_are_holds, g⟩ := Hk.ba g
  obtain ⟨e_l_are_holds, g⟩ := Hk.ba g
  obtain ⟨e_c_are_holds, g⟩ := Hk.ba g
  clear g
  obtain ⟨g, c0⟩ := Hk.ba c0
  unfold Rn.bs2 at g
  obtain ⟨e_k_are_holds, g⟩ := Hk.ba g
  obtain ⟨e_a_holds_in_sequence, g⟩ := Hk.ba g
  obtain ⟨e_l_holds_in_sequence, g⟩ := Hk.ba g
  obtain ⟨e_c_holds_in_sequence, g⟩ := Hk.ba g
  obtain ⟨e_k_holds_in_sequence, g⟩ := Hk.ba g
  obtain ⟨e_a_is_integer, g⟩ := Hk.ba g
  obtain ⟨e_l_is_integer, g⟩ := Hk.ba g
  obtain ⟨e_c_is_integer, g⟩ := Hk.ba g
  obtain ⟨e_k_is_integer, g⟩ := Hk.ba g
  obtain ⟨e_a_want_batch, g⟩ := Hk.ba g
  obtain ⟨e_l_want_batch, g⟩ := Hk.ba g
  obtain ⟨e_c_want_batch, g⟩ := Hk.ba g
  obtain ⟨e_k_want_batch, g⟩ := Hk.ba g
  obtain ⟨e_a_Book___init__, g⟩ := Hk.ba g
  obtain ⟨e_i_Book___init__, g⟩ := Hk.ba g
  obtain ⟨e_l_Book___init__, g⟩ := Hk.ba g
  obtain ⟨e_c_Book___init__, g⟩ := Hk.ba g
  obtain ⟨e_k_Book___init__, g⟩ := Hk.ba g
  obtain ⟨e_a__law_book, g⟩ := Hk.ba g
  obtain ⟨e_l__law_book, g⟩ := Hk.ba g
  obtain ⟨e_c__law_book, g⟩ := Hk.ba g
  obtain ⟨e_k__law_book, g⟩ := Hk.ba g
  obtain ⟨e_a_Book_others, g⟩ := Hk.ba g
  obtain ⟨e_i_Book_others, g⟩ := Hk.ba g
  obtain ⟨e_l_Book_others, g⟩ := Hk.ba g
  obtain ⟨e_c_Book_others, g⟩ := Hk.ba g
  obtain ⟨e_k_Book_others, g⟩ := Hk.ba g
  obtain ⟨e_a_Book_is_as_strict, g⟩ := Hk.ba g
  obtain ⟨e_i_Book_is_as_strict, g⟩ := Hk.ba g
  obtain ⟨e_l_Book_is_as_strict, g⟩ := Hk.ba g
  clear g
  obtain ⟨g, c0⟩ := Hk.ba c0
  unfold Rn.bs3 at g
  obtain ⟨e_c_Book_is_as_strict, g⟩ := Hk.ba g
  obtain ⟨e_k_Book_is_as_strict, g⟩ := Hk.ba g
  obtain ⟨e_a_Book___eq__, g⟩ := Hk.ba g
  obtain ⟨e_i_Book___eq__, g⟩ := Hk.ba g
  obtain ⟨e_l_Book___eq__, g⟩ := Hk.ba g
  obtain ⟨e_c_Book___eq__, g⟩ := Hk.ba g
  obtain ⟨e_k_Book___eq__, g⟩ := Hk.ba g
  obtain ⟨e_a__law_is_as_strict, g⟩ := Hk.ba g
  obtain ⟨e_l__law_is_as_strict, g⟩ := Hk.ba g
  obtain ⟨e_c__law_is_as_strict, g⟩ := Hk.ba g
  obtain ⟨e_k__law_is_as_strict, g⟩ := Hk.ba g
  obtain ⟨e_a__law_two_right, g⟩ := Hk.ba g
  obtain ⟨e_l__law_two_right, g⟩ := Hk.ba g
  obtain ⟨e_c__law_two_right, g⟩ := Hk.ba g
  obtain ⟨e_k__law_two_right, g⟩ := Hk.ba g
  obtain ⟨e_a__law_known_right, g⟩ := Hk.ba g
  obtain ⟨e_l__law_known_right, g⟩ := Hk.ba g
  obtain ⟨e_c__law_known_right, g⟩ := Hk.ba g
  obtain ⟨e_k__law_known_right, g⟩ := Hk.ba g
  obtain ⟨e_a__law_draw, g⟩ := Hk.ba g
  obtain ⟨e_l__law_draw, g⟩ := Hk.ba g
  obtain ⟨e_c__law_draw, g⟩ := Hk.ba g
  obtain ⟨e_k__law_draw, g⟩ := Hk.ba g
  obtain ⟨e_a__law_pick, g⟩ := Hk.ba g
  obtain ⟨e_l__law_pick, g⟩ := Hk.ba g
  obtain ⟨e_c__law_pick, g⟩ := Hk.ba g
  obtain ⟨e_k__law_pick, g⟩ := Hk.ba g
  obtain ⟨e_a__law_sequences, g⟩ := Hk.ba g
  obtain ⟨e_l__law_sequences, g⟩ := Hk.ba g
  obtain ⟨e_c__law_sequences, g⟩ := Hk.ba g
  clear g
  obtain ⟨g, c0⟩ := Hk.ba c0
  unfold Rn.bs4 at g
  obtain ⟨e_k__law_sequences, g⟩ := Hk.ba g
  obtain ⟨e_a__law_is_ahead, g⟩ := Hk.ba g
  obtain ⟨e_l__law_is_ahead, g⟩ := Hk.ba g
  obtain ⟨e_c__law_is_ahead, g⟩ := Hk.ba g
  obtain ⟨e_k__law_is_ahead, g⟩ := Hk.ba g
  obtain ⟨e_a__law_is_take, g⟩ := Hk.ba g
  obtain ⟨e_l__law_is_take, g⟩ := Hk.ba g
  obtain ⟨e_c__law_is_take, g⟩ := Hk.ba g
  obtain ⟨e_k__law_is_take, g⟩ := Hk.ba g
  obtain ⟨e_a__law_takes, g⟩ := Hk.ba g
  obtain ⟨e_l__law_takes, g⟩ := Hk.ba g
  obtain ⟨e_c__law_takes, g⟩ := Hk.ba g
  obtain ⟨e_k__law_takes, g⟩ := Hk.ba g
  obtain ⟨e_a__law_is_give, g⟩ := Hk.ba g
  obtain ⟨e_l__law_is_give, g⟩ := Hk.ba g
  obtain ⟨e_c__law_is_give, g⟩ := Hk.ba g
  obtain ⟨e_k__law_is_give, g⟩ := Hk.ba g
  obtain ⟨e_a__law_gives, g⟩ := Hk.ba g
  obtain ⟨e_l__law_gives, g⟩ := Hk.ba g
  obtain ⟨e_c__law_gives, g⟩ := Hk.ba g
  obtain ⟨e_k__law_gives, g⟩ := Hk.ba g
  obtain ⟨e_a__law_is_move, g⟩ := Hk.ba g
  obtain ⟨e_l__law_is_move, g⟩ := Hk.ba g
  obtain ⟨e_c__law_is_move, g⟩ := Hk.ba g
  obtain ⟨e_k__law_is_move, g⟩ := Hk.ba g
  obtain ⟨e_a__law_moves, g⟩ := Hk.ba g
  obtain ⟨e_l__law_moves, g⟩ := Hk.ba g
  obtain ⟨e_c__law_moves, g⟩ := Hk.ba g
  obtain ⟨e_k__law_moves, g⟩ := Hk.ba g
  obtain ⟨e_a__law_lifts, g⟩ := Hk.ba g
  clear g
  obtain ⟨g, c0⟩ := Hk.ba c0
  unfold Rn.bs5 at g
  obtain ⟨e_l__law_lifts, g⟩ := Hk.ba g
  obtain ⟨e_c__law_lifts, g⟩ := Hk.ba g
  obtain ⟨e_k__law_lifts, g⟩ := Hk.ba g
  obtain ⟨e_a__law_any, g⟩ := Hk.ba g
  obtain ⟨e_l__law_any, g⟩ := Hk.ba g
  obtain ⟨e_c__law_any, g⟩ := Hk.ba g
  obtain ⟨e_k__law_any, g⟩ := Hk.ba g
  obtain ⟨e_a__law_exchanged, g⟩ := Hk.ba g
  obtain ⟨e_l__law_exchanged, g⟩ := Hk.ba g
  obtain ⟨e_c__law_exchanged, g⟩ := Hk.ba g
  obtain ⟨e_k__law_exchanged, g⟩ := Hk.ba g
  obtain ⟨e_a__law_beside, g⟩ := Hk.ba g
  obtain ⟨e_l__law_beside, g⟩ := Hk.ba g
  obtain ⟨e_c__law_beside, g⟩ := Hk.ba g
  obtain ⟨e_k__law_beside, g⟩ := Hk.ba g
  obtain ⟨e_pa_Book_holds, g⟩ := Hk.ba g
  obtain ⟨e_pd_Book_holds, g⟩ := Hk.ba g
  obtain ⟨e_pb_Book_holds, g⟩ := Hk.ba g
  obtain ⟨e_pc_Book_holds, g⟩ := Hk.ba g
  obtain ⟨e_l_Book_holds, g⟩ := Hk.ba g
  obtain ⟨e_c_Book_holds, g⟩ := Hk.ba g
  obtain ⟨e_k_Book_holds, g⟩ := Hk.ba g
  obtain ⟨e_a_Book___repr__, g⟩ := Hk.ba g
  obtain ⟨e_i_Book___repr__, g⟩ := Hk.ba g
  obtain ⟨e_l_Book___repr__, g⟩ := Hk.ba g
  obtain ⟨e_c_Book___repr__, g⟩ := Hk.ba g
  obtain ⟨e_k_Book___repr__, g⟩ := Hk.ba g
  obtain ⟨e_a__law_alone_right, g⟩ := Hk.ba g
  obtain ⟨e_l__law_alone_right, g⟩ := Hk.ba g
  obtain ⟨e_c__law_alone_right, g⟩ := Hk.ba g
  clear g
  obtain ⟨g, c0⟩ := Hk.ba c0
  unfold Rn.bs6 at g
  obtain ⟨e_k__law_alone_right, g⟩ := Hk.ba g
  obtain ⟨e_a__law_right, g⟩ := Hk.ba g
  obtain ⟨e_l__law_right, g⟩ := Hk.ba g
  obtain ⟨e_c__law_right, g⟩ := Hk.ba g
  obtain ⟨e_k__law_right, g⟩ := Hk.ba g
  obtain ⟨e_a__law_pot, g⟩ := Hk.ba g
  obtain ⟨e_l__law_pot, g⟩ := Hk.ba g
  obtain ⟨e_c__law_pot, g⟩ := Hk.ba g
  obtain ⟨e_k__law_pot, g⟩ := Hk.ba g
  obtain ⟨e_a_law, g⟩ := Hk.ba g
  obtain ⟨e_l_law, g⟩ := Hk.ba g
  obtain ⟨e_c_law, g⟩ := Hk.ba g
  obtain ⟨e_k_law, g⟩ := Hk.ba g
  obtain ⟨e_z_abs, g⟩ := Hk.ba g
  obtain ⟨e_z_all, g⟩ := Hk.ba g
  obtain ⟨e_z_any, g⟩ := Hk.ba g
  obtain ⟨e_z_bool, g⟩ := Hk.ba g
  obtain ⟨e_z_dict, g⟩ := Hk.ba g
  obtain ⟨e_z_divmod, g⟩ := Hk.ba g
  obtain ⟨e_z_enumerate, g⟩ := Hk.ba g
  obtain ⟨e_z_int, g⟩ := Hk.ba g
  obtain ⟨e_z_isinstance, g⟩ := Hk.ba g
  obtain ⟨e_z_len, g⟩ := Hk.ba g
  obtain ⟨e_z_list, g⟩ := Hk.ba g
  obtain ⟨e_z_max, g⟩ := Hk.ba g
  obtain ⟨e_z_min, g⟩ := Hk.ba g
  obtain ⟨e_z_range, g⟩ := Hk.ba g
  obtain ⟨e_z_repr, g⟩ := Hk.ba g
  obtain ⟨e_z_str, g⟩ := Hk.ba g
  obtain ⟨e_z_tuple, g⟩ := Hk.ba g
  clear g
  obtain ⟨g, c0⟩ := Hk.ba c0
  unfold Rn.bs7 at g
  obtain ⟨e_z_zip, g⟩ := Hk.ba g
  obtain ⟨e_y_ADD, g⟩ := Hk.ba g
  obtain ⟨e_y_BOTH, g⟩ := Hk.ba g
  obtain ⟨e_y_END, g⟩ := Hk.ba g
  obtain ⟨e_y_FAILS, g⟩ := Hk.ba g
  obtain ⟨e_tt_FAILS, g⟩ := Hk.ba g
  obtain ⟨e_y_GIVE, g⟩ := Hk.ba g
  obtain ⟨e_y_GIVE_WORDS, g⟩ := Hk.ba g
  obtain ⟨e_tt_GIVE_WORDS, g⟩ := Hk.ba g
  obtain ⟨e_y_GREATEST_BATCH, g⟩ := Hk.ba g
  obtain ⟨e_y_HOLDING, g⟩ := Hk.ba g
  obtain ⟨e_tt_HOLDING, g⟩ := Hk.ba g
  obtain ⟨e_y_HOME, g⟩ := Hk.ba g
  obtain ⟨e_y_LIFT, g⟩ := Hk.ba g
  obtain ⟨e_y_LIFTS, g⟩ := Hk.ba g
  obtain ⟨e_tt_LIFTS, g⟩ := Hk.ba g
  obtain ⟨e_tt_LIFTS_0, g⟩ := Hk.ba g
  obtain ⟨e_tt_LIFTS_1, g⟩ := Hk.ba g
  obtain ⟨e_tt_LIFTS_2, g⟩ := Hk.ba g
  obtain ⟨e_tt_LIFTS_3, g⟩ := Hk.ba g
  obtain ⟨e_tt_LIFTS_4, g⟩ := Hk.ba g
  obtain ⟨e_tt_LIFTS_5, g⟩ := Hk.ba g
  obtain ⟨e_y_LIVE, g⟩ := Hk.ba g
  obtain ⟨e_y_LOOK, g⟩ := Hk.ba g
  obtain ⟨e_y_MOVE, g⟩ := Hk.ba g
  obtain ⟨e_y_MOVE_WORDS, g⟩ := Hk.ba g
  obtain ⟨e_tt_MOVE_WORDS, g⟩ := Hk.ba g
  obtain ⟨e_y_OFF, g⟩ := Hk.ba g
  obtain ⟨e_y_SET, g⟩ := Hk.ba g
  obtain ⟨e_y_TAKE, g⟩ := Hk.ba g
  clear g
  have g := c0
  unfold Rn.bs8 at g
  obtain ⟨e_y_TAKE_WORDS, g⟩ := Hk.ba g
  obtain ⟨e_tt_TAKE_WORDS, g⟩ := Hk.ba g
  obtain ⟨e_y_TESTS, g⟩ := Hk.ba g
  obtain ⟨e_tt_TESTS, g⟩ := Hk.ba g
  obtain ⟨e_y_TRY, g⟩ := Hk.ba g
  clear g
  have c2 := c
  unfold Rn.fnL Rn.fnR at c2
  obtain ⟨w0, c2⟩ := List.cons.inj c2
  obtain ⟨w1, c2⟩ := List.cons.inj c2
  obtain ⟨w2, c2⟩ := List.cons.inj c2
  obtain ⟨w3, c2⟩ := List.cons.inj c2
  obtain ⟨w4, c2⟩ := List.cons.inj c2
  obtain ⟨w5, c2⟩ := List.cons.inj c2
  obtain ⟨w6, c2⟩ := List.cons.inj c2
  obtain ⟨w7, c2⟩ := List.cons.inj c2
  obtain ⟨w8, c2⟩ := List.cons.inj c2
  obtain ⟨w9, c2⟩ := List.cons.inj c2
  obtain ⟨w10, c2⟩ := List.cons.inj c2
  obtain ⟨w11, c2⟩ := List.cons.inj c2
  obtain ⟨w12, c2⟩ := List.cons.inj c2
  obtain ⟨w13, c2⟩ := List.cons.inj c2
  obtain ⟨w14, c2⟩ := List.cons.inj c2
  obtain ⟨w15, c2⟩ := List.cons.inj c2
  obtain ⟨w16, c2⟩ := List.cons.inj c2
  obtain ⟨w17, c2⟩ := List.cons.inj c2
  obtain ⟨w18, c2⟩ := List.cons.inj c2
  obtain ⟨w19, c2⟩ := List.cons.inj c2
  obtain ⟨w20, c2⟩ := List.cons.inj c2
  obtain ⟨w21, c2⟩ := List.cons.inj c2
  obtain ⟨w22, c2⟩ := List.cons.inj c2
  obtain ⟨w23, c2⟩ := List.cons.inj c2
  obtain ⟨w24, c2⟩ := List.cons.inj c2
  obtain ⟨w25, c2⟩ := List.cons.inj c2
  obtain ⟨w26, c2⟩ := List.cons.inj c2
  obtain ⟨w27, c2⟩ := List.cons.inj c2
  obtain ⟨w28, c2⟩ := List.cons.inj c2
  obtain ⟨w29, c2⟩ := List.cons.inj c2
  obtain ⟨w30, c2⟩ := List.cons.inj c2
  obtain ⟨w31, c2⟩ := List.cons.inj c2
  obtain ⟨w32, c2⟩ := List.cons.inj c2
  obtain ⟨w33, c2⟩ := List.cons.inj c2
  obtain ⟨w34, c2⟩ := List.cons.inj c2
  obtain ⟨w35, c2⟩ := List.cons.inj c2
  obtain ⟨w36, c2⟩ := List.cons.inj c2
  obtain ⟨w37, c2⟩ := List.cons.inj c2
  obtain ⟨w38, c2⟩ := List.cons.inj c2
  obtain ⟨w39, c2⟩ := List.cons.inj c2
  obtain ⟨w40, c2⟩ := List.cons.inj c2
  obtain rfl : fa = Rn.v_fa K := by
    have z := PySem.W.mg_of KX G (Hk.de e_a_law)
    exact Value.ref.inj (Option.some.inj (hmg.symm.trans z))
  exact all_mk hT KX G hmg (Hk.de e_aC_Book) (Hk.de e_pg_Book) (Hk.de e_hd_Book) (Hk.de e_po_Book) (Hk.de e_sa_Book) (Hk.de e_mk_Book) (Hk.de e_kc_Book) (Hk.de e_ia_Book) (Hk.de e_ib_Book) (Hk.de e_ic_Book) (Hk.de e_id_Book) (Hk.de e_ie_Book) (Hk.de e_ig_Book) (Hk.de e_if_Book) (Hk.de e_sb_Book) (Hk.de e_na_own_rows) (Hk.de e_na_own_fails) (Hk.de e_na_own_shared) (Hk.de e_na_own_holds) (Hk.de e_na_own_batch) (Hk.de e_na_own_settles) (Hk.de e_a_are_words) (Hk.fn_of w0 (Hk.de e_l_are_words)) (Hk.de e_c_are_words) (Hk.de e_k_are_words) (Hk.de e_a_are_tests_ahead) (Hk.fn_of w1 (Hk.de e_l_are_tests_ahead)) (Hk.de e_c_are_tests_ahead) (Hk.de e_k_are_tests_ahead) (Hk.de e_a_is_take) (Hk.fn_of w2 (Hk.de e_l_is_take)) (Hk.de e_c_is_take) (Hk.de e_k_is_take) (Hk.de e_a_is_behind) (Hk.fn_of w3 (Hk.de e_l_is_behind)) (Hk.de e_c_is_behind) (Hk.de e_k_is_behind) (Hk.de e_a_is_give) (Hk.fn_of w4 (Hk.de e_l_is_give)) (Hk.de e_c_is_give) (Hk.de e_k_is_give) (Hk.de e_a_is_move) (Hk.fn_of w5 (Hk.de e_l_is_move)) (Hk.de e_c_is_move) (Hk.de e_k_is_move) (Hk.de e_a_is_lift) (Hk.fn_of w6 (Hk.de e_l_is_lift)) (Hk.de e_c_is_lift) (Hk.de e_k_is_lift) (Hk.de e_a_is_row) (Hk.fn_of w7 (Hk.de e_l_is_row)) (Hk.de e_c_is_row) (Hk.de e_k_is_row) (Hk.de e_a_want_word) (Hk.fn_of w8 (Hk.de e_l_want_word)) (Hk.de e_c_want_word) (Hk.de e_k_want_word) (Hk.de e_a_are_holds) (Hk.fn_of w9 (Hk.de e_l_are_holds)) (Hk.de e_c_are_holds) (Hk.de e_k_are_holds) (Hk.de e_a_holds_in_sequence) (Hk.fn_of w10 (Hk.de e_l_holds_in_sequence)) (Hk.de e_c_holds_in_sequence) (Hk.de e_k_holds_in_sequence) (Hk.de e_a_is_integer) (Hk.fn_of w11 (Hk.de e_l_is_integer)) (Hk.de e_c_is_integer) (Hk.de e_k_is_integer) (Hk.de e_a_want_batch) (Hk.fn_of w12 (Hk.de e_l_want_batch)) (Hk.de e_c_want_batch) (Hk.de e_k_want_batch) (Hk.de e_a_Book___init__) (Hk.de e_i_Book___init__) (Hk.fn_of w13 (Hk.de e_l_Book___init__)) (Hk.de e_c_Book___init__) (Hk.de e_k_Book___init__) (Hk.de e_a__law_book) (Hk.fn_of w14 (Hk.de e_l__law_book)) (Hk.de e_c__law_book) (Hk.de e_k__law_book) (Hk.de e_a_Book_others) (Hk.de e_i_Book_others) (Hk.fn_of w15 (Hk.de e_l_Book_others)) (Hk.de e_c_Book_others) (Hk.de e_k_Book_others) (Hk.de e_a_Book_is_as_strict) (Hk.de e_i_Book_is_as_strict) (Hk.fn_of w16 (Hk.de e_l_Book_is_as_strict)) (Hk.de e_c_Book_is_as_strict) (Hk.de e_k_Book_is_as_strict) (Hk.de e_a_Book___eq__) (Hk.de e_i_Book___eq__) (Hk.fn_of w17 (Hk.de e_l_Book___eq__)) (Hk.de e_c_Book___eq__) (Hk.de e_k_Book___eq__) (Hk.de e_a__law_is_as_strict) (Hk.fn_of w18 (Hk.de e_l__law_is_as_strict)) (Hk.de e_c__law_is_as_strict) (Hk.de e_k__law_is_as_strict) (Hk.de e_a__law_two_right) (Hk.fn_of w19 (Hk.de e_l__law_two_right)) (Hk.de e_c__law_two_right) (Hk.de e_k__law_two_right) (Hk.de e_a__law_known_right) (Hk.fn_of w20 (Hk.de e_l__law_known_right)) (Hk.de e_c__law_known_right) (Hk.de e_k__law_known_right) (Hk.de e_a__law_draw) (Hk.fn_of w21 (Hk.de e_l__law_draw)) (Hk.de e_c__law_draw) (Hk.de e_k__law_draw) (Hk.de e_a__law_pick) (Hk.fn_of w22 (Hk.de e_l__law_pick)) (Hk.de e_c__law_pick) (Hk.de e_k__law_pick) (Hk.de e_a__law_sequences) (Hk.fn_of w23 (Hk.de e_l__law_sequences)) (Hk.de e_c__law_sequences) (Hk.de e_k__law_sequences) (Hk.de e_a__law_is_ahead) (Hk.fn_of w24 (Hk.de e_l__law_is_ahead)) (Hk.de e_c__law_is_ahead) (Hk.de e_k__law_is_ahead) (Hk.de e_a__law_is_take) (Hk.fn_of w25 (Hk.de e_l__law_is_take)) (Hk.de e_c__law_is_take) (Hk.de e_k__law_is_take) (Hk.de e_a__law_takes) (Hk.fn_of w26 (Hk.de e_l__law_takes)) (Hk.de e_c__law_takes) (Hk.de e_k__law_takes) (Hk.de e_a__law_is_give) (Hk.fn_of w27 (Hk.de e_l__law_is_give)) (Hk.de e_c__law_is_give) (Hk.de e_k__law_is_give) (Hk.de e_a__law_gives) (Hk.fn_of w28 (Hk.de e_l__law_gives)) (Hk.de e_c__law_gives) (Hk.de e_k__law_gives) (Hk.de e_a__law_is_move) (Hk.fn_of w29 (Hk.de e_l__law_is_move)) (Hk.de e_c__law_is_move) (Hk.de e_k__law_is_move) (Hk.de e_a__law_moves) (Hk.fn_of w30 (Hk.de e_l__law_moves)) (Hk.de e_c__law_moves) (Hk.de e_k__law_moves) (Hk.de e_a__law_lifts) (Hk.fn_of w31 (Hk.de e_l__law_lifts)) (Hk.de e_c__law_lifts) (Hk.de e_k__law_lifts) (Hk.de e_a__law_any) (Hk.fn_of w32 (Hk.de e_l__law_any)) (Hk.de e_c__law_any) (Hk.de e_k__law_any) (Hk.de e_a__law_exchanged) (Hk.fn_of w33 (Hk.de e_l__law_exchanged)) (Hk.de e_c__law_exchanged) (Hk.de e_k__law_exchanged) (Hk.de e_a__law_beside) (Hk.fn_of w34 (Hk.de e_l__law_beside)) (Hk.de e_c__law_beside) (Hk.de e_k__law_beside) (Hk.de e_pa_Book_holds) (Hk.de e_pd_Book_holds) (Hk.de e_pb_Book_holds) (Hk.de e_pc_Book_holds) (Hk.fn_of w35 (Hk.de e_l_Book_holds)) (Hk.de e_c_Book_holds) (Hk.de e_k_Book_holds) (Hk.de e_a_Book___repr__) (Hk.de e_i_Book___repr__) (Hk.fn_of w36 (Hk.de e_l_Book___repr__)) (Hk.de e_c_Book___repr__) (Hk.de e_k_Book___repr__) (Hk.de e_a__law_alone_right) (Hk.fn_of w37 (Hk.de e_l__law_alone_right)) (Hk.de e_c__law_alone_right) (Hk.de e_k__law_alone_right) (Hk.de e_a__law_right) (Hk.fn_of w38 (Hk.de e_l__law_right)) (Hk.de e_c__law_right) (Hk.de e_k__law_right) (Hk.de e_a__law_pot) (Hk.fn_of w39 (Hk.de e_l__law_pot)) (Hk.de e_c__law_pot) (Hk.de e_k__law_pot) (Hk.de e_a_law) (Hk.fn_of w40 (Hk.de e_l_law)) (Hk.de e_c_law) (Hk.de e_k_law) (Hk.de e_z_abs) (Hk.de e_z_all) (Hk.de e_z_any) (Hk.de e_z_bool) (Hk.de e_z_dict) (Hk.de e_z_divmod) (Hk.de e_z_enumerate) (Hk.de e_z_int) (Hk.de e_z_isinstance) (Hk.de e_z_len) (Hk.de e_z_list) (Hk.de e_z_max) (Hk.de e_z_min) (Hk.de e_z_range) (Hk.de e_z_repr) (Hk.de e_z_str) (Hk.de e_z_tuple) (Hk.de e_z_zip) (Hk.de e_y_ADD) (Hk.de e_y_BOTH) (Hk.de e_y_END) (Hk.de e_y_FAILS) (Hk.tup_of e_tt_FAILS) (Hk.de e_y_GIVE) (Hk.de e_y_GIVE_WORDS) (Hk.tup_of e_tt_GIVE_WORDS) (Hk.de e_y_GREATEST_BATCH) (Hk.de e_y_HOLDING) (Hk.tup_of e_tt_HOLDING) (Hk.de e_y_HOME) (Hk.de e_y_LIFT) (Hk.de e_y_LIFTS) (Hk.tup_of e_tt_LIFTS) (Hk.tup_of e_tt_LIFTS_0) (Hk.tup_of e_tt_LIFTS_1) (Hk.tup_of e_tt_LIFTS_2) (Hk.tup_of e_tt_LIFTS_3) (Hk.tup_of e_tt_LIFTS_4) (Hk.tup_of e_tt_LIFTS_5) (Hk.de e_y_LIVE) (Hk.de e_y_LOOK) (Hk.de e_y_MOVE) (Hk.de e_y_MOVE_WORDS) (Hk.tup_of e_tt_MOVE_WORDS) (Hk.de e_y_OFF) (Hk.de e_y_SET) (Hk.de e_y_TAKE) (Hk.de e_y_TAKE_WORDS) (Hk.tup_of e_tt_TAKE_WORDS) (Hk.de e_y_TESTS) (Hk.tup_of e_tt_TESTS) (Hk.de e_y_TRY)
end Lw

set_option Elab.async false
set_option linter.all false
set_option maxRecDepth 100000
set_option maxHeartbeats 0
open PySem PySem.W PyProof.Rows in
set_option maxRecDepth 100000 in
set_option maxHeartbeats 0 in
theorem PySem.Challenge.cw_chargeways_k24_books_as_strict_and_equal_holds : PySem.Challenge.rw_chargeways_k24_books_as_strict_and_equal.Holds := by
  refine Rn.fin_pre Rn.run ?_
  refine Py.walk_h0 (l := PySem.Challenge.rw_chargeways_k24_books_as_strict_and_equal) (n := 63) (k := 9) (x := "_law_script") rfl (by decide) (by kernel_rfl) ⟨rfl, by decide, by decide⟩ ?F
  intro w mg fa h Y G hmg0
  obtain ⟨K, KX, c⟩ := Y
  have hmg : mg ("law" : PySem.Str) = some (.ref fa) := by
    have e : (HandSHeadRun.topDef (OpenLaw.row PySem.Challenge.rw_chargeways_k24_books_as_strict_and_equal).prog 71).name = ("law" : PySem.Str) := by kernel_rfl
    rw [← e]
    exact hmg0
  exact ⟨K, KX, Lw.all_h Lw.law_true Rn.qv KX G hmg c⟩
