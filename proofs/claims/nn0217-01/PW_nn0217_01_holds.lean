import PyProof.Rows.All
import Wide.All
import OpenK.AllK
import Wide.FinOn
import Lean
import PySem.Challenge.RW_nn0217_01
set_option Elab.async false
set_option maxRecDepth 100000
namespace Mine
section
set_option maxHeartbeats 0
open PySem PySem.W PyProof.Rows PySem.Calls

noncomputable def goF (st : SharedT → Thread → Option (SharedT × Thread)) (ok : Thread → Bool) : Nat → SharedT → Thread → Option SharedT
  | 0, _, _ => none
  | n + 1, s, t => match through t with
    | true => some s
    | false => match ok t with
      | false => none
      | true => match st s t with
        | some (s', t') => goF st ok n s' t'
        | none => none

theorem goF_spec {tb : String → Option Builtin} {p : Program} {w : World} {n₀ : Nat} {ann : Option Value} : ∀ {n : Nat} {s r : SharedT} {t : Thread},
    goF (stepT (denote tb) p w) (stepOk n₀ ann) n s t = some r → topRun tb p w n₀ ann n s.abs t = some r.abs
  | 0, _, _, _, h => by cases h
  | n + 1, s, r, t, h => by
    unfold goF at h
    unfold topRun
    cases ht : through t with
    | true => rw [ht] at h; cases h; rfl
    | false =>
      rw [ht] at h
      cases hk : stepOk n₀ ann t with
      | false => rw [hk] at h; cases h
      | true =>
        rw [hk] at h
        cases hs : stepT (denote tb) p w s t with
        | none => rw [hs] at h; cases h
        | some q => obtain ⟨s₂, t₂⟩ := q; rw [hs] at h; rw [stepT_spec hs]; exact goF_spec h

noncomputable def build : BT → Nat → List Obj → BT
  | t, _, [] => t
  | t, n, o :: l => build (t.ins n o) (n + 1) l
noncomputable def buildOk : BT → Nat → List Obj → Bool
  | _, _, [] => true
  | t, n, o :: l => match ((t.ins n o).get n).isSome with
    | true => buildOk (t.ins n o) (n + 1) l
    | false => false
theorem build_abs {life : Life} : ∀ (l : List Obj) (t : BT) (n : Nat) (x : List Obj), buildOk t n l = true → absHeap t n life = Heap.mk x.toArray life →
    absHeap (build t n l) (n + l.length) life = Heap.mk (x ++ l).toArray life
  | [], t, n, x, _, e => by simpa [build] using e
  | o :: l, t, n, x, h, e => by
    unfold buildOk at h
    cases hg : ((t.ins n o).get n).isSome with
    | false => rw [hg] at h; cases h
    | true =>
      rw [hg] at h
      have e1 : absHeap (t.ins n o) (n + 1) life = Heap.mk (x ++ [o]).toArray life := by
        rw [absHeap_ins hg, e]
        unfold Heap.push
        simp
      have := build_abs l (t.ins n o) (n + 1) (x ++ [o]) h e1
      rw [List.length_cons, show n + (l.length + 1) = n + 1 + l.length by omega]
      show absHeap (build (t.ins n o) (n + 1) l) (n + 1 + l.length) life = _
      rw [this, List.append_assoc]; rfl

noncomputable abbrev pq : Program := PySem.Challenge.pw_nn0217_01
noncomputable abbrev rq : OpenLaw := PySem.Challenge.rw_nn0217_01
noncomputable def clsBody : Option Stmt → List Stmt
  | some (.ClassDef _ _ _ b _ _ _ _ _ _ _) => b
  | _ => []
noncomputable def partsOf : Option Stmt → Option (Arguments × List Stmt × Scope)
  | some (.FunctionDef _ a b _ _ _ sc _ _ _) => some (a, b, sc)
  | _ => none
noncomputable abbrev st (i : Nat) : Option Stmt := pq.main.body[i]?
noncomputable abbrev mt (i j : Nat) : Option Stmt := (clsBody (st i))[j]?
noncomputable def mkFn {p : Arguments} {b : List Stmt} {sc : Scope} {s : Option Stmt} (name qual : Str) (_ : partsOf s = some (p, b, sc)) (dV kV doc pm : Value) (an : Option Addr) (cdv ct : Value) : FuncData :=
  fnOf name qual p b sc dV kV doc pm an cdv ct
noncomputable def fd__wall : FuncData := mkFn (s := (st 0)) (Str.ofString "_wall") (Str.ofString "_wall") rfl .none .none .none (.str (Str.ofString "__main__") 164) none (.ref 20) .none
noncomputable def fd_PaperError_init : FuncData := mkFn (s := (mt 2 0)) (Str.ofString "__init__") (Str.ofString "PaperError.__init__") rfl (.ref 29) .none .none (.str (Str.ofString "paperhold.errors") 194) none (.ref 35) .none
noncomputable def fd_PaperError_told : FuncData := mkFn (s := (mt 2 1)) (Str.ofString "told") (Str.ofString "PaperError.told") rfl .none .none .none (.str (Str.ofString "paperhold.errors") 194) none (.ref 42) .none
noncomputable def fd_Decimal_init : FuncData := mkFn (s := (mt 4 0)) (Str.ofString "__init__") (Str.ofString "Decimal.__init__") rfl .none .none .none (.str (Str.ofString "paperhold.decimals") 236) none (.ref 62) .none
noncomputable def fd_Decimal_plus : FuncData := mkFn (s := (mt 4 1)) (Str.ofString "plus") (Str.ofString "Decimal.plus") rfl .none .none .none (.str (Str.ofString "paperhold.decimals") 236) none (.ref 69) .none
noncomputable def fd_Decimal_minus : FuncData := mkFn (s := (mt 4 2)) (Str.ofString "minus") (Str.ofString "Decimal.minus") rfl .none .none .none (.str (Str.ofString "paperhold.decimals") 236) none (.ref 76) .none
noncomputable def fd_Decimal_times : FuncData := mkFn (s := (mt 4 3)) (Str.ofString "times") (Str.ofString "Decimal.times") rfl .none .none .none (.str (Str.ofString "paperhold.decimals") 236) none (.ref 83) .none
noncomputable def fd_Decimal_negated : FuncData := mkFn (s := (mt 4 4)) (Str.ofString "negated") (Str.ofString "Decimal.negated") rfl .none .none .none (.str (Str.ofString "paperhold.decimals") 236) none (.ref 90) .none
noncomputable def fd_Decimal_compared : FuncData := mkFn (s := (mt 4 5)) (Str.ofString "compared") (Str.ofString "Decimal.compared") rfl .none .none .none (.str (Str.ofString "paperhold.decimals") 236) none (.ref 97) .none
noncomputable def fd_Decimal_is_whole : FuncData := mkFn (s := (mt 4 6)) (Str.ofString "is_whole") (Str.ofString "Decimal.is_whole") rfl .none .none .none (.str (Str.ofString "paperhold.decimals") 236) none (.ref 104) .none
noncomputable def fd_Decimal_floor : FuncData := mkFn (s := (mt 4 7)) (Str.ofString "floor") (Str.ofString "Decimal.floor") rfl .none .none .none (.str (Str.ofString "paperhold.decimals") 236) none (.ref 111) .none
noncomputable def fd_Decimal_rounded : FuncData := mkFn (s := (mt 4 8)) (Str.ofString "rounded") (Str.ofString "Decimal.rounded") rfl .none .none .none (.str (Str.ofString "paperhold.decimals") 236) none (.ref 118) .none
noncomputable def fd_Decimal_told : FuncData := mkFn (s := (mt 4 9)) (Str.ofString "told") (Str.ofString "Decimal.told") rfl .none .none .none (.str (Str.ofString "paperhold.decimals") 236) none (.ref 125) .none
noncomputable def fd_Decimal_text : FuncData := mkFn (s := (mt 4 10)) (Str.ofString "text") (Str.ofString "Decimal.text") rfl .none .none .none (.str (Str.ofString "paperhold.decimals") 236) none (.ref 132) .none
noncomputable def fd_Decimal_least_text : FuncData := mkFn (s := (mt 4 11)) (Str.ofString "least_text") (Str.ofString "Decimal.least_text") rfl .none .none .none (.str (Str.ofString "paperhold.decimals") 236) none (.ref 139) .none
noncomputable def fd_sign_text : FuncData := mkFn (s := (st 5)) (Str.ofString "sign_text") (Str.ofString "sign_text") rfl .none .none .none (.str (Str.ofString "paperhold.decimals") 236) none (.ref 153) .none
noncomputable def fd_Name_init : FuncData := mkFn (s := (mt 7 0)) (Str.ofString "__init__") (Str.ofString "Name.__init__") rfl .none .none .none (.str (Str.ofString "paperhold.objects") 359) none (.ref 167) .none
noncomputable def fd_String_init : FuncData := mkFn (s := (mt 8 0)) (Str.ofString "__init__") (Str.ofString "String.__init__") rfl (.ref 183) .none .none (.str (Str.ofString "paperhold.objects") 359) none (.ref 189) .none
noncomputable def fd_Stream_init : FuncData := mkFn (s := (mt 9 0)) (Str.ofString "__init__") (Str.ofString "Stream.__init__") rfl .none .none .none (.str (Str.ofString "paperhold.objects") 359) none (.ref 210) .none
noncomputable def fd_Reference_init : FuncData := mkFn (s := (mt 10 0)) (Str.ofString "__init__") (Str.ofString "Reference.__init__") rfl .none .none .none (.str (Str.ofString "paperhold.objects") 359) none (.ref 231) .none
noncomputable def fd_Reference_pair : FuncData := mkFn (s := (mt 10 1)) (Str.ofString "pair") (Str.ofString "Reference.pair") rfl .none .none .none (.str (Str.ofString "paperhold.objects") 359) none (.ref 238) .none
noncomputable def fd_kind_of : FuncData := mkFn (s := (st 11)) (Str.ofString "kind_of") (Str.ofString "kind_of") rfl .none .none .none (.str (Str.ofString "paperhold.objects") 359) none (.ref 252) .none
noncomputable def fd_is_number : FuncData := mkFn (s := (st 12)) (Str.ofString "is_number") (Str.ofString "is_number") rfl .none .none .none (.str (Str.ofString "paperhold.objects") 359) none (.ref 259) .none
noncomputable def fd_told_plain : FuncData := mkFn (s := (st 13)) (Str.ofString "told_plain") (Str.ofString "told_plain") rfl .none .none .none (.str (Str.ofString "paperhold.objects") 359) none (.ref 266) .none
noncomputable def fd_told : FuncData := mkFn (s := (st 14)) (Str.ofString "told") (Str.ofString "told") rfl .none .none .none (.str (Str.ofString "paperhold.objects") 359) none (.ref 271) .none
noncomputable def fd_Operation_init : FuncData := mkFn (s := (mt 17 0)) (Str.ofString "__init__") (Str.ofString "Operation.__init__") rfl .none .none .none (.str (Str.ofString "paperhold.content") 519) none (.ref 285) .none
noncomputable def fd_Operation_told : FuncData := mkFn (s := (mt 17 1)) (Str.ofString "told") (Str.ofString "Operation.told") rfl .none .none .none (.str (Str.ofString "paperhold.content") 519) none (.ref 290) .none
noncomputable def fd_state_kinds : FuncData := mkFn (s := (st 18)) (Str.ofString "state_kinds") (Str.ofString "state_kinds") rfl .none .none .none (.str (Str.ofString "paperhold.content") 519) none (.ref 304) .none
noncomputable def fd_path_kinds : FuncData := mkFn (s := (st 19)) (Str.ofString "path_kinds") (Str.ofString "path_kinds") rfl .none .none .none (.str (Str.ofString "paperhold.content") 519) none (.ref 309) .none
noncomputable def fd_text_kinds : FuncData := mkFn (s := (st 20)) (Str.ofString "text_kinds") (Str.ofString "text_kinds") rfl .none .none .none (.str (Str.ofString "paperhold.content") 519) none (.ref 316) .none
noncomputable def fd_operand_kinds : FuncData := mkFn (s := (st 21)) (Str.ofString "operand_kinds") (Str.ofString "operand_kinds") rfl .none .none .none (.str (Str.ofString "paperhold.content") 519) none (.ref 323) .none
noncomputable def fd_fits_kind : FuncData := mkFn (s := (st 22)) (Str.ofString "fits_kind") (Str.ofString "fits_kind") rfl .none .none .none (.str (Str.ofString "paperhold.content") 519) none (.ref 328) .none
noncomputable def fd_row_fault : FuncData := mkFn (s := (st 23)) (Str.ofString "row_fault") (Str.ofString "row_fault") rfl .none .none .none (.str (Str.ofString "paperhold.content") 519) none (.ref 333) .none
noncomputable def fd_operation_fault : FuncData := mkFn (s := (st 24)) (Str.ofString "operation_fault") (Str.ofString "operation_fault") rfl .none .none .none (.str (Str.ofString "paperhold.content") 519) none (.ref 340) .none
noncomputable def fd_operand_faults : FuncData := mkFn (s := (st 25)) (Str.ofString "operand_faults") (Str.ofString "operand_faults") rfl .none .none .none (.str (Str.ofString "paperhold.content") 519) none (.ref 347) .none
noncomputable def fd__law_pen : FuncData := mkFn (s := (st 27)) (Str.ofString "_law_pen") (Str.ofString "_law_pen") rfl .none .none .none (.str (Str.ofString "law_nn0217_01") 624) none (.ref 354) .none
noncomputable def fd__law_draw : FuncData := mkFn (s := (st 28)) (Str.ofString "_law_draw") (Str.ofString "_law_draw") rfl .none .none .none (.str (Str.ofString "law_nn0217_01") 624) none (.ref 361) .none
noncomputable def fd__law_pick : FuncData := mkFn (s := (st 29)) (Str.ofString "_law_pick") (Str.ofString "_law_pick") rfl .none .none .none (.str (Str.ofString "law_nn0217_01") 624) none (.ref 368) .none
noncomputable def fd__law_words : FuncData := mkFn (s := (st 30)) (Str.ofString "_law_words") (Str.ofString "_law_words") rfl .none .none .none (.str (Str.ofString "law_nn0217_01") 624) none (.ref 373) .none
noncomputable def fd__law_any : FuncData := mkFn (s := (st 31)) (Str.ofString "_law_any") (Str.ofString "_law_any") rfl .none .none .none (.str (Str.ofString "law_nn0217_01") 624) none (.ref 380) .none
noncomputable def fd__law_good : FuncData := mkFn (s := (st 32)) (Str.ofString "_law_good") (Str.ofString "_law_good") rfl .none .none .none (.str (Str.ofString "law_nn0217_01") 624) none (.ref 385) .none
noncomputable def fd__law_fits : FuncData := mkFn (s := (st 33)) (Str.ofString "_law_fits") (Str.ofString "_law_fits") rfl .none .none .none (.str (Str.ofString "law_nn0217_01") 624) none (.ref 390) .none
noncomputable def fd__law_is_right : FuncData := mkFn (s := (st 34)) (Str.ofString "_law_is_right") (Str.ofString "_law_is_right") rfl .none .none .none (.str (Str.ofString "law_nn0217_01") 624) none (.ref 395) .none
noncomputable def fd__law_operation : FuncData := mkFn (s := (st 35)) (Str.ofString "_law_operation") (Str.ofString "_law_operation") rfl .none .none .none (.str (Str.ofString "law_nn0217_01") 624) none (.ref 402) .none
noncomputable def fd_law : FuncData := mkFn (s := (st 36)) (Str.ofString "law") (Str.ofString "law") rfl .none .none .none (.str (Str.ofString "law_nn0217_01") 624) none (.ref 407) .none
noncomputable def K : Params → Frag := fun P =>
  (nat_lit 2, ⟨.none, none, (.dict #[⟨PyData.keyHash P (Str.ofString "type.__subclasses__.Exception.0"), .str (Str.ofString "type.__subclasses__.Exception.0") 232, (.int (46) 0)⟩, ⟨PyData.keyHash P (Str.ofString "type.__subclasses__.Exception.n"), .str (Str.ofString "type.__subclasses__.Exception.n") 233, (.int (1) 0)⟩] 2), #[]⟩) ::
  (nat_lit 3, ⟨(.type "dict"), none, (.dict #[⟨PyData.keyHash P (Str.ofString "__name__"), .str (Str.ofString "__name__") 165, (.str (Str.ofString "law_nn0217_01") 624)⟩, ⟨PyData.keyHash P (Str.ofString "__doc__"), .str (Str.ofString "__doc__") 166, .none⟩, ⟨PyData.keyHash P (Str.ofString "__package__"), .str (Str.ofString "__package__") 167, .none⟩, ⟨PyData.keyHash P (Str.ofString "__loader__"), .str (Str.ofString "__loader__") 168, (.builtin "__main__.__loader__#opaque")⟩, ⟨PyData.keyHash P (Str.ofString "__spec__"), .str (Str.ofString "__spec__") 169, .none⟩, ⟨PyData.keyHash P (Str.ofString "__annotations__"), .str (Str.ofString "__annotations__") 170, (.ref 6)⟩, ⟨PyData.keyHash P (Str.ofString "__builtins__"), .str (Str.ofString "__builtins__") 171, (.ref 4)⟩, ⟨PyData.keyHash P (Str.ofString "__file__"), .str (Str.ofString "__file__") 173, (.str (Str.ofString "/claim/cut.py") 172)⟩, ⟨PyData.keyHash P (Str.ofString "__cached__"), .str (Str.ofString "__cached__") 174, .none⟩, ⟨PyData.keyHash P (Str.ofString "_wall"), .str (Str.ofString "_wall") 193, (.ref 21)⟩, ⟨PyData.keyHash P (Str.ofString "PaperError"), .str (Str.ofString "PaperError") 235, (.ref 46)⟩, ⟨PyData.keyHash P (Str.ofString "Decimal"), .str (Str.ofString "Decimal") 351, (.ref 143)⟩, ⟨PyData.keyHash P (Str.ofString "sign_text"), .str (Str.ofString "sign_text") 358, (.ref 154)⟩, ⟨PyData.keyHash P (Str.ofString "Name"), .str (Str.ofString "Name") 389, (.ref 171)⟩, ⟨PyData.keyHash P (Str.ofString "String"), .str (Str.ofString "String") 420, (.ref 193)⟩, ⟨PyData.keyHash P (Str.ofString "Stream"), .str (Str.ofString "Stream") 451, (.ref 214)⟩, ⟨PyData.keyHash P (Str.ofString "Reference"), .str (Str.ofString "Reference") 489, (.ref 242)⟩, ⟨PyData.keyHash P (Str.ofString "kind_of"), .str (Str.ofString "kind_of") 496, (.ref 253)⟩, ⟨PyData.keyHash P (Str.ofString "is_number"), .str (Str.ofString "is_number") 503, (.ref 260)⟩, ⟨PyData.keyHash P (Str.ofString "told_plain"), .str (Str.ofString "told_plain") 511, (.ref 267)⟩, ⟨PyData.keyHash P (Str.ofString "told"), .str (Str.ofString "told") 517, (.ref 272)⟩, ⟨PyData.keyHash P (Str.ofString "told_objects"), .str (Str.ofString "told_objects") 518, (.ref 272)⟩, ⟨PyData.keyHash P (Str.ofString "Operation"), .str (Str.ofString "Operation") 557, (.ref 294)⟩, ⟨PyData.keyHash P (Str.ofString "state_kinds"), .str (Str.ofString "state_kinds") 566, (.ref 305)⟩, ⟨PyData.keyHash P (Str.ofString "path_kinds"), .str (Str.ofString "path_kinds") 572, (.ref 310)⟩, ⟨PyData.keyHash P (Str.ofString "text_kinds"), .str (Str.ofString "text_kinds") 580, (.ref 317)⟩, ⟨PyData.keyHash P (Str.ofString "operand_kinds"), .str (Str.ofString "operand_kinds") 589, (.ref 324)⟩, ⟨PyData.keyHash P (Str.ofString "fits_kind"), .str (Str.ofString "fits_kind") 595, (.ref 329)⟩, ⟨PyData.keyHash P (Str.ofString "row_fault"), .str (Str.ofString "row_fault") 601, (.ref 334)⟩, ⟨PyData.keyHash P (Str.ofString "operation_fault"), .str (Str.ofString "operation_fault") 611, (.ref 341)⟩, ⟨PyData.keyHash P (Str.ofString "operand_faults"), .str (Str.ofString "operand_faults") 623, (.ref 348)⟩, ⟨PyData.keyHash P (Str.ofString "_law_pen"), .str (Str.ofString "_law_pen") 634, (.ref 355)⟩, ⟨PyData.keyHash P (Str.ofString "_law_draw"), .str (Str.ofString "_law_draw") 643, (.ref 362)⟩, ⟨PyData.keyHash P (Str.ofString "_law_pick"), .str (Str.ofString "_law_pick") 651, (.ref 369)⟩, ⟨PyData.keyHash P (Str.ofString "_law_words"), .str (Str.ofString "_law_words") 657, (.ref 374)⟩, ⟨PyData.keyHash P (Str.ofString "_law_any"), .str (Str.ofString "_law_any") 665, (.ref 381)⟩, ⟨PyData.keyHash P (Str.ofString "_law_good"), .str (Str.ofString "_law_good") 671, (.ref 386)⟩, ⟨PyData.keyHash P (Str.ofString "_law_fits"), .str (Str.ofString "_law_fits") 677, (.ref 391)⟩, ⟨PyData.keyHash P (Str.ofString "_law_is_right"), .str (Str.ofString "_law_is_right") 683, (.ref 396)⟩, ⟨PyData.keyHash P (Str.ofString "_law_operation"), .str (Str.ofString "_law_operation") 697, (.ref 403)⟩, ⟨PyData.keyHash P (Str.ofString "law"), .str (Str.ofString "law") 703, (.ref 408)⟩] 41), #[]⟩) ::
  (nat_lit 15, ⟨(.type "tuple"), none, (.seq #[] 0), #[]⟩) ::
  (nat_lit 17, ⟨(.type "tuple"), none, (.seq #[(.str (Str.ofString "k") 190)] 0), #[]⟩) ::
  (nat_lit 18, ⟨(.type "tuple"), none, (.seq #[] 0), #[]⟩) ::
  (nat_lit 20, ⟨(.type "code"), none, (.fields #[(.str (Str.ofString "_wall") 187), (.str (Str.ofString "_wall") 188), (.str (Str.ofString "/claim/cut.py") 189), (.int (1) 0), (.int (1) 0), (.int (0) 0), (.int (0) 0), (.int (3) 0), (.ref 15), (.bool true), (.int (181) 0), (.ref 16), .none, (.ref 17), (.ref 18), (.ref 19), (.int (191) 0), (.int (1) 0), (.str (Str.ofString "/claim/cut.py") 192)]), #[]⟩) ::
  (nat_lit 21, ⟨(.type "function"), none, (.func fd__wall), #[]⟩) ::
  (nat_lit 22, ⟨(.type "tuple"), none, (.seq #[(.type "Exception")] 0), #[]⟩) ::
  (nat_lit 29, ⟨(.type "tuple"), none, (.seq #[(.int (-1) 209)] 0), #[]⟩) ::
  (nat_lit 30, ⟨(.type "tuple"), none, (.seq #[] 0), #[]⟩) ::
  (nat_lit 32, ⟨(.type "tuple"), none, (.seq #[(.str (Str.ofString "self") 213), (.str (Str.ofString "what") 214), (.str (Str.ofString "at") 215)] 0), #[]⟩) ::
  (nat_lit 33, ⟨(.type "tuple"), none, (.seq #[] 0), #[]⟩) ::
  (nat_lit 35, ⟨(.type "code"), none, (.fields #[(.str (Str.ofString "__init__") 210), (.str (Str.ofString "PaperError.__init__") 211), (.str (Str.ofString "/claim/cut.py") 212), (.int (7) 0), (.int (3) 0), (.int (0) 0), (.int (0) 0), (.int (3) 0), (.ref 30), (.bool true), (.int (181) 0), (.ref 31), .none, (.ref 32), (.ref 33), (.ref 34), (.int (216) 0), (.int (7) 0), (.str (Str.ofString "/claim/cut.py") 217)]), #[]⟩) ::
  (nat_lit 36, ⟨(.type "function"), none, (.func fd_PaperError_init), #[]⟩) ::
  (nat_lit 37, ⟨(.type "tuple"), none, (.seq #[] 0), #[]⟩) ::
  (nat_lit 39, ⟨(.type "tuple"), none, (.seq #[(.str (Str.ofString "self") 222)] 0), #[]⟩) ::
  (nat_lit 40, ⟨(.type "tuple"), none, (.seq #[] 0), #[]⟩) ::
  (nat_lit 42, ⟨(.type "code"), none, (.fields #[(.str (Str.ofString "told") 219), (.str (Str.ofString "PaperError.told") 220), (.str (Str.ofString "/claim/cut.py") 221), (.int (12) 0), (.int (1) 0), (.int (0) 0), (.int (0) 0), (.int (3) 0), (.ref 37), (.bool true), (.int (181) 0), (.ref 38), .none, (.ref 39), (.ref 40), (.ref 41), (.int (223) 0), (.int (12) 0), (.str (Str.ofString "/claim/cut.py") 224)]), #[]⟩) ::
  (nat_lit 43, ⟨(.type "function"), none, (.func fd_PaperError_told), #[]⟩) ::
  (nat_lit 44, ⟨(.type "tuple"), none, (.seq #[(.str (Str.ofString "at") 226), (.str (Str.ofString "what") 227)] 0), #[]⟩) ::
  (nat_lit 45, ⟨(.type "dict"), none, (.dict #[⟨PyData.keyHash P (Str.ofString "__module__"), .str (Str.ofString "__module__") 203, (.str (Str.ofString "paperhold.errors") 194)⟩, ⟨PyData.keyHash P (Str.ofString "__firstlineno__"), .str (Str.ofString "__firstlineno__") 207, (.int (5) 206)⟩, ⟨PyData.keyHash P (Str.ofString "__init__"), .str (Str.ofString "__init__") 218, (.ref 36)⟩, ⟨PyData.keyHash P (Str.ofString "told"), .str (Str.ofString "told") 225, (.ref 43)⟩, ⟨PyData.keyHash P (Str.ofString "__static_attributes__"), .str (Str.ofString "__static_attributes__") 228, (.ref 44)⟩, ⟨PyData.keyHash P (Str.ofString "__weakref__"), .str (Str.ofString "__weakref__") 230, (.ref 47)⟩, ⟨PyData.keyHash P (Str.ofString "__doc__"), .str (Str.ofString "__doc__") 231, .none⟩] 3), #[]⟩) ::
  (nat_lit 46, ⟨(.type "type"), none, (.cls ⟨(Str.ofString "PaperError"), [(.type "Exception")], [(.ref 46), (.type "Exception"), (.type "BaseException"), (.type "object")], 45, (Str.ofString "PaperError"), true, [], [], false, none, false⟩), #[(some (.ref 22)), none, (some (.str (Str.ofString "PaperError") 196)), (some (.str (Str.ofString "PaperError") 204)), (some (.builtin "Exception.__new__")), (some (.bool true))]⟩) ::
  (nat_lit 47, ⟨(.type "getset_descriptor"), none, (.fields #[(.str (Str.ofString "__weakref__") 229), (.ref 46), (.builtin "ExceptionGroup.__weakref__"), .none]), #[]⟩) ::
  (nat_lit 57, ⟨(.type "tuple"), none, (.seq #[] 0), #[]⟩) ::
  (nat_lit 59, ⟨(.type "tuple"), none, (.seq #[(.str (Str.ofString "self") 253), (.str (Str.ofString "top") 254), (.str (Str.ofString "places") 255)] 0), #[]⟩) ::
  (nat_lit 60, ⟨(.type "tuple"), none, (.seq #[] 0), #[]⟩) ::
  (nat_lit 62, ⟨(.type "code"), none, (.fields #[(.str (Str.ofString "__init__") 250), (.str (Str.ofString "Decimal.__init__") 251), (.str (Str.ofString "/claim/cut.py") 252), (.int (17) 0), (.int (3) 0), (.int (0) 0), (.int (0) 0), (.int (3) 0), (.ref 57), (.bool true), (.int (181) 0), (.ref 58), .none, (.ref 59), (.ref 60), (.ref 61), (.int (256) 0), (.int (17) 0), (.str (Str.ofString "/claim/cut.py") 257)]), #[]⟩) ::
  (nat_lit 63, ⟨(.type "function"), none, (.func fd_Decimal_init), #[]⟩) ::
  (nat_lit 64, ⟨(.type "tuple"), none, (.seq #[] 0), #[]⟩) ::
  (nat_lit 66, ⟨(.type "tuple"), none, (.seq #[(.str (Str.ofString "self") 262), (.str (Str.ofString "other") 263)] 0), #[]⟩) ::
  (nat_lit 67, ⟨(.type "tuple"), none, (.seq #[] 0), #[]⟩) ::
  (nat_lit 69, ⟨(.type "code"), none, (.fields #[(.str (Str.ofString "plus") 259), (.str (Str.ofString "Decimal.plus") 260), (.str (Str.ofString "/claim/cut.py") 261), (.int (24) 0), (.int (2) 0), (.int (0) 0), (.int (0) 0), (.int (3) 0), (.ref 64), (.bool true), (.int (181) 0), (.ref 65), .none, (.ref 66), (.ref 67), (.ref 68), (.int (264) 0), (.int (24) 0), (.str (Str.ofString "/claim/cut.py") 265)]), #[]⟩) ::
  (nat_lit 70, ⟨(.type "function"), none, (.func fd_Decimal_plus), #[]⟩) ::
  (nat_lit 71, ⟨(.type "tuple"), none, (.seq #[] 0), #[]⟩) ::
  (nat_lit 73, ⟨(.type "tuple"), none, (.seq #[(.str (Str.ofString "self") 270), (.str (Str.ofString "other") 271)] 0), #[]⟩) ::
  (nat_lit 74, ⟨(.type "tuple"), none, (.seq #[] 0), #[]⟩) ::
  (nat_lit 76, ⟨(.type "code"), none, (.fields #[(.str (Str.ofString "minus") 267), (.str (Str.ofString "Decimal.minus") 268), (.str (Str.ofString "/claim/cut.py") 269), (.int (27) 0), (.int (2) 0), (.int (0) 0), (.int (0) 0), (.int (3) 0), (.ref 71), (.bool true), (.int (181) 0), (.ref 72), .none, (.ref 73), (.ref 74), (.ref 75), (.int (272) 0), (.int (27) 0), (.str (Str.ofString "/claim/cut.py") 273)]), #[]⟩) ::
  (nat_lit 77, ⟨(.type "function"), none, (.func fd_Decimal_minus), #[]⟩) ::
  (nat_lit 78, ⟨(.type "tuple"), none, (.seq #[] 0), #[]⟩) ::
  (nat_lit 80, ⟨(.type "tuple"), none, (.seq #[(.str (Str.ofString "self") 278), (.str (Str.ofString "other") 279)] 0), #[]⟩) ::
  (nat_lit 81, ⟨(.type "tuple"), none, (.seq #[] 0), #[]⟩) ::
  (nat_lit 83, ⟨(.type "code"), none, (.fields #[(.str (Str.ofString "times") 275), (.str (Str.ofString "Decimal.times") 276), (.str (Str.ofString "/claim/cut.py") 277), (.int (30) 0), (.int (2) 0), (.int (0) 0), (.int (0) 0), (.int (3) 0), (.ref 78), (.bool true), (.int (181) 0), (.ref 79), .none, (.ref 80), (.ref 81), (.ref 82), (.int (280) 0), (.int (30) 0), (.str (Str.ofString "/claim/cut.py") 281)]), #[]⟩) ::
  (nat_lit 84, ⟨(.type "function"), none, (.func fd_Decimal_times), #[]⟩) ::
  (nat_lit 85, ⟨(.type "tuple"), none, (.seq #[] 0), #[]⟩) ::
  (nat_lit 87, ⟨(.type "tuple"), none, (.seq #[(.str (Str.ofString "self") 286)] 0), #[]⟩) ::
  (nat_lit 88, ⟨(.type "tuple"), none, (.seq #[] 0), #[]⟩) ::
  (nat_lit 90, ⟨(.type "code"), none, (.fields #[(.str (Str.ofString "negated") 283), (.str (Str.ofString "Decimal.negated") 284), (.str (Str.ofString "/claim/cut.py") 285), (.int (33) 0), (.int (1) 0), (.int (0) 0), (.int (0) 0), (.int (3) 0), (.ref 85), (.bool true), (.int (181) 0), (.ref 86), .none, (.ref 87), (.ref 88), (.ref 89), (.int (287) 0), (.int (33) 0), (.str (Str.ofString "/claim/cut.py") 288)]), #[]⟩) ::
  (nat_lit 91, ⟨(.type "function"), none, (.func fd_Decimal_negated), #[]⟩) ::
  (nat_lit 92, ⟨(.type "tuple"), none, (.seq #[] 0), #[]⟩) ::
  (nat_lit 94, ⟨(.type "tuple"), none, (.seq #[(.str (Str.ofString "self") 293), (.str (Str.ofString "other") 294)] 0), #[]⟩) ::
  (nat_lit 95, ⟨(.type "tuple"), none, (.seq #[] 0), #[]⟩) ::
  (nat_lit 97, ⟨(.type "code"), none, (.fields #[(.str (Str.ofString "compared") 290), (.str (Str.ofString "Decimal.compared") 291), (.str (Str.ofString "/claim/cut.py") 292), (.int (36) 0), (.int (2) 0), (.int (0) 0), (.int (0) 0), (.int (3) 0), (.ref 92), (.bool true), (.int (181) 0), (.ref 93), .none, (.ref 94), (.ref 95), (.ref 96), (.int (295) 0), (.int (36) 0), (.str (Str.ofString "/claim/cut.py") 296)]), #[]⟩) ::
  (nat_lit 98, ⟨(.type "function"), none, (.func fd_Decimal_compared), #[]⟩) ::
  (nat_lit 99, ⟨(.type "tuple"), none, (.seq #[] 0), #[]⟩) ::
  (nat_lit 101, ⟨(.type "tuple"), none, (.seq #[(.str (Str.ofString "self") 301)] 0), #[]⟩) ::
  (nat_lit 102, ⟨(.type "tuple"), none, (.seq #[] 0), #[]⟩) ::
  (nat_lit 104, ⟨(.type "code"), none, (.fields #[(.str (Str.ofString "is_whole") 298), (.str (Str.ofString "Decimal.is_whole") 299), (.str (Str.ofString "/claim/cut.py") 300), (.int (39) 0), (.int (1) 0), (.int (0) 0), (.int (0) 0), (.int (3) 0), (.ref 99), (.bool true), (.int (181) 0), (.ref 100), .none, (.ref 101), (.ref 102), (.ref 103), (.int (302) 0), (.int (39) 0), (.str (Str.ofString "/claim/cut.py") 303)]), #[]⟩) ::
  (nat_lit 105, ⟨(.type "function"), none, (.func fd_Decimal_is_whole), #[]⟩) ::
  (nat_lit 106, ⟨(.type "tuple"), none, (.seq #[] 0), #[]⟩) ::
  (nat_lit 108, ⟨(.type "tuple"), none, (.seq #[(.str (Str.ofString "self") 308)] 0), #[]⟩) ::
  (nat_lit 109, ⟨(.type "tuple"), none, (.seq #[] 0), #[]⟩) ::
  (nat_lit 111, ⟨(.type "code"), none, (.fields #[(.str (Str.ofString "floor") 305), (.str (Str.ofString "Decimal.floor") 306), (.str (Str.ofString "/claim/cut.py") 307), (.int (42) 0), (.int (1) 0), (.int (0) 0), (.int (0) 0), (.int (3) 0), (.ref 106), (.bool true), (.int (181) 0), (.ref 107), .none, (.ref 108), (.ref 109), (.ref 110), (.int (309) 0), (.int (42) 0), (.str (Str.ofString "/claim/cut.py") 310)]), #[]⟩) ::
  (nat_lit 112, ⟨(.type "function"), none, (.func fd_Decimal_floor), #[]⟩) ::
  (nat_lit 113, ⟨(.type "tuple"), none, (.seq #[] 0), #[]⟩) ::
  (nat_lit 115, ⟨(.type "tuple"), none, (.seq #[(.str (Str.ofString "self") 315), (.str (Str.ofString "places") 316)] 0), #[]⟩) ::
  (nat_lit 116, ⟨(.type "tuple"), none, (.seq #[] 0), #[]⟩) ::
  (nat_lit 118, ⟨(.type "code"), none, (.fields #[(.str (Str.ofString "rounded") 312), (.str (Str.ofString "Decimal.rounded") 313), (.str (Str.ofString "/claim/cut.py") 314), (.int (45) 0), (.int (2) 0), (.int (0) 0), (.int (0) 0), (.int (3) 0), (.ref 113), (.bool true), (.int (181) 0), (.ref 114), .none, (.ref 115), (.ref 116), (.ref 117), (.int (317) 0), (.int (45) 0), (.str (Str.ofString "/claim/cut.py") 318)]), #[]⟩) ::
  (nat_lit 119, ⟨(.type "function"), none, (.func fd_Decimal_rounded), #[]⟩) ::
  (nat_lit 120, ⟨(.type "tuple"), none, (.seq #[] 0), #[]⟩) ::
  (nat_lit 122, ⟨(.type "tuple"), none, (.seq #[(.str (Str.ofString "self") 323)] 0), #[]⟩) ::
  (nat_lit 123, ⟨(.type "tuple"), none, (.seq #[] 0), #[]⟩) ::
  (nat_lit 125, ⟨(.type "code"), none, (.fields #[(.str (Str.ofString "told") 320), (.str (Str.ofString "Decimal.told") 321), (.str (Str.ofString "/claim/cut.py") 322), (.int (48) 0), (.int (1) 0), (.int (0) 0), (.int (0) 0), (.int (3) 0), (.ref 120), (.bool true), (.int (181) 0), (.ref 121), .none, (.ref 122), (.ref 123), (.ref 124), (.int (324) 0), (.int (48) 0), (.str (Str.ofString "/claim/cut.py") 325)]), #[]⟩) ::
  (nat_lit 126, ⟨(.type "function"), none, (.func fd_Decimal_told), #[]⟩) ::
  (nat_lit 127, ⟨(.type "tuple"), none, (.seq #[] 0), #[]⟩) ::
  (nat_lit 129, ⟨(.type "tuple"), none, (.seq #[(.str (Str.ofString "self") 330), (.str (Str.ofString "numerals") 331)] 0), #[]⟩) ::
  (nat_lit 130, ⟨(.type "tuple"), none, (.seq #[] 0), #[]⟩) ::
  (nat_lit 132, ⟨(.type "code"), none, (.fields #[(.str (Str.ofString "text") 327), (.str (Str.ofString "Decimal.text") 328), (.str (Str.ofString "/claim/cut.py") 329), (.int (51) 0), (.int (1) 0), (.int (0) 0), (.int (0) 0), (.int (3) 0), (.ref 127), (.bool true), (.int (181) 0), (.ref 128), .none, (.ref 129), (.ref 130), (.ref 131), (.int (332) 0), (.int (51) 0), (.str (Str.ofString "/claim/cut.py") 333)]), #[]⟩) ::
  (nat_lit 133, ⟨(.type "function"), none, (.func fd_Decimal_text), #[]⟩) ::
  (nat_lit 134, ⟨(.type "tuple"), none, (.seq #[] 0), #[]⟩) ::
  (nat_lit 136, ⟨(.type "tuple"), none, (.seq #[(.str (Str.ofString "self") 338)] 0), #[]⟩) ::
  (nat_lit 137, ⟨(.type "tuple"), none, (.seq #[] 0), #[]⟩) ::
  (nat_lit 139, ⟨(.type "code"), none, (.fields #[(.str (Str.ofString "least_text") 335), (.str (Str.ofString "Decimal.least_text") 336), (.str (Str.ofString "/claim/cut.py") 337), (.int (58) 0), (.int (1) 0), (.int (0) 0), (.int (0) 0), (.int (3) 0), (.ref 134), (.bool true), (.int (181) 0), (.ref 135), .none, (.ref 136), (.ref 137), (.ref 138), (.int (339) 0), (.int (58) 0), (.str (Str.ofString "/claim/cut.py") 340)]), #[]⟩) ::
  (nat_lit 140, ⟨(.type "function"), none, (.func fd_Decimal_least_text), #[]⟩) ::
  (nat_lit 141, ⟨(.type "tuple"), none, (.seq #[(.str (Str.ofString "places") 342), (.str (Str.ofString "top") 343)] 0), #[]⟩) ::
  (nat_lit 142, ⟨(.type "dict"), none, (.dict #[⟨PyData.keyHash P (Str.ofString "__module__"), .str (Str.ofString "__module__") 245, (.str (Str.ofString "paperhold.decimals") 236)⟩, ⟨PyData.keyHash P (Str.ofString "__firstlineno__"), .str (Str.ofString "__firstlineno__") 249, (.int (15) 248)⟩, ⟨PyData.keyHash P (Str.ofString "__init__"), .str (Str.ofString "__init__") 258, (.ref 63)⟩, ⟨PyData.keyHash P (Str.ofString "plus"), .str (Str.ofString "plus") 266, (.ref 70)⟩, ⟨PyData.keyHash P (Str.ofString "minus"), .str (Str.ofString "minus") 274, (.ref 77)⟩, ⟨PyData.keyHash P (Str.ofString "times"), .str (Str.ofString "times") 282, (.ref 84)⟩, ⟨PyData.keyHash P (Str.ofString "negated"), .str (Str.ofString "negated") 289, (.ref 91)⟩, ⟨PyData.keyHash P (Str.ofString "compared"), .str (Str.ofString "compared") 297, (.ref 98)⟩, ⟨PyData.keyHash P (Str.ofString "is_whole"), .str (Str.ofString "is_whole") 304, (.ref 105)⟩, ⟨PyData.keyHash P (Str.ofString "floor"), .str (Str.ofString "floor") 311, (.ref 112)⟩, ⟨PyData.keyHash P (Str.ofString "rounded"), .str (Str.ofString "rounded") 319, (.ref 119)⟩, ⟨PyData.keyHash P (Str.ofString "told"), .str (Str.ofString "told") 326, (.ref 126)⟩, ⟨PyData.keyHash P (Str.ofString "text"), .str (Str.ofString "text") 334, (.ref 133)⟩, ⟨PyData.keyHash P (Str.ofString "least_text"), .str (Str.ofString "least_text") 341, (.ref 140)⟩, ⟨PyData.keyHash P (Str.ofString "__static_attributes__"), .str (Str.ofString "__static_attributes__") 344, (.ref 141)⟩, ⟨PyData.keyHash P (Str.ofString "__dict__"), .str (Str.ofString "__dict__") 346, (.ref 144)⟩, ⟨PyData.keyHash P (Str.ofString "__weakref__"), .str (Str.ofString "__weakref__") 348, (.ref 145)⟩, ⟨PyData.keyHash P (Str.ofString "__doc__"), .str (Str.ofString "__doc__") 349, .none⟩] 4), #[]⟩) ::
  (nat_lit 143, ⟨(.type "type"), none, (.cls ⟨(Str.ofString "Decimal"), [(.type "object")], [(.ref 143), (.type "object")], 142, (Str.ofString "Decimal"), true, [], [], false, none, false⟩), #[none, none, (some (.str (Str.ofString "Decimal") 238)), (some (.str (Str.ofString "Decimal") 246)), (some (.builtin "object.__new__")), (some (.bool true))]⟩) ::
  (nat_lit 144, ⟨(.type "getset_descriptor"), none, (.fields #[(.str (Str.ofString "__dict__") 345), (.ref 143), (.builtin "function.__dict__"), (.builtin "function.__dict__#set")]), #[]⟩) ::
  (nat_lit 145, ⟨(.type "getset_descriptor"), none, (.fields #[(.str (Str.ofString "__weakref__") 347), (.ref 143), (.builtin "ExceptionGroup.__weakref__"), .none]), #[]⟩) ::
  (nat_lit 148, ⟨(.type "tuple"), none, (.seq #[] 0), #[]⟩) ::
  (nat_lit 150, ⟨(.type "tuple"), none, (.seq #[(.str (Str.ofString "number") 355)] 0), #[]⟩) ::
  (nat_lit 151, ⟨(.type "tuple"), none, (.seq #[] 0), #[]⟩) ::
  (nat_lit 153, ⟨(.type "code"), none, (.fields #[(.str (Str.ofString "sign_text") 352), (.str (Str.ofString "sign_text") 353), (.str (Str.ofString "/claim/cut.py") 354), (.int (60) 0), (.int (1) 0), (.int (0) 0), (.int (0) 0), (.int (3) 0), (.ref 148), (.bool true), (.int (181) 0), (.ref 149), .none, (.ref 150), (.ref 151), (.ref 152), (.int (356) 0), (.int (60) 0), (.str (Str.ofString "/claim/cut.py") 357)]), #[]⟩) ::
  (nat_lit 154, ⟨(.type "function"), none, (.func fd_sign_text), #[]⟩) ::
  (nat_lit 162, ⟨(.type "tuple"), none, (.seq #[] 0), #[]⟩) ::
  (nat_lit 164, ⟨(.type "tuple"), none, (.seq #[(.str (Str.ofString "self") 376), (.str (Str.ofString "text") 377)] 0), #[]⟩) ::
  (nat_lit 165, ⟨(.type "tuple"), none, (.seq #[] 0), #[]⟩) ::
  (nat_lit 167, ⟨(.type "code"), none, (.fields #[(.str (Str.ofString "__init__") 373), (.str (Str.ofString "Name.__init__") 374), (.str (Str.ofString "/claim/cut.py") 375), (.int (65) 0), (.int (2) 0), (.int (0) 0), (.int (0) 0), (.int (3) 0), (.ref 162), (.bool true), (.int (181) 0), (.ref 163), .none, (.ref 164), (.ref 165), (.ref 166), (.int (378) 0), (.int (65) 0), (.str (Str.ofString "/claim/cut.py") 379)]), #[]⟩) ::
  (nat_lit 168, ⟨(.type "function"), none, (.func fd_Name_init), #[]⟩) ::
  (nat_lit 169, ⟨(.type "tuple"), none, (.seq #[(.str (Str.ofString "text") 381)] 0), #[]⟩) ::
  (nat_lit 170, ⟨(.type "dict"), none, (.dict #[⟨PyData.keyHash P (Str.ofString "__module__"), .str (Str.ofString "__module__") 368, (.str (Str.ofString "paperhold.objects") 359)⟩, ⟨PyData.keyHash P (Str.ofString "__firstlineno__"), .str (Str.ofString "__firstlineno__") 372, (.int (63) 371)⟩, ⟨PyData.keyHash P (Str.ofString "__init__"), .str (Str.ofString "__init__") 380, (.ref 168)⟩, ⟨PyData.keyHash P (Str.ofString "__static_attributes__"), .str (Str.ofString "__static_attributes__") 382, (.ref 169)⟩, ⟨PyData.keyHash P (Str.ofString "__dict__"), .str (Str.ofString "__dict__") 384, (.ref 172)⟩, ⟨PyData.keyHash P (Str.ofString "__weakref__"), .str (Str.ofString "__weakref__") 386, (.ref 173)⟩, ⟨PyData.keyHash P (Str.ofString "__doc__"), .str (Str.ofString "__doc__") 387, .none⟩] 4), #[]⟩) ::
  (nat_lit 171, ⟨(.type "type"), none, (.cls ⟨(Str.ofString "Name"), [(.type "object")], [(.ref 171), (.type "object")], 170, (Str.ofString "Name"), true, [], [], false, none, false⟩), #[none, none, (some (.str (Str.ofString "Name") 361)), (some (.str (Str.ofString "Name") 369)), (some (.builtin "object.__new__")), (some (.bool true))]⟩) ::
  (nat_lit 172, ⟨(.type "getset_descriptor"), none, (.fields #[(.str (Str.ofString "__dict__") 383), (.ref 171), (.builtin "function.__dict__"), (.builtin "function.__dict__#set")]), #[]⟩) ::
  (nat_lit 173, ⟨(.type "getset_descriptor"), none, (.fields #[(.str (Str.ofString "__weakref__") 385), (.ref 171), (.builtin "ExceptionGroup.__weakref__"), .none]), #[]⟩) ::
  (nat_lit 183, ⟨(.type "tuple"), none, (.seq #[(.bool false)] 0), #[]⟩) ::
  (nat_lit 184, ⟨(.type "tuple"), none, (.seq #[] 0), #[]⟩) ::
  (nat_lit 186, ⟨(.type "tuple"), none, (.seq #[(.str (Str.ofString "self") 405), (.str (Str.ofString "octets") 406), (.str (Str.ofString "is_hex") 407)] 0), #[]⟩) ::
  (nat_lit 187, ⟨(.type "tuple"), none, (.seq #[] 0), #[]⟩) ::
  (nat_lit 189, ⟨(.type "code"), none, (.fields #[(.str (Str.ofString "__init__") 402), (.str (Str.ofString "String.__init__") 403), (.str (Str.ofString "/claim/cut.py") 404), (.int (69) 0), (.int (3) 0), (.int (0) 0), (.int (0) 0), (.int (3) 0), (.ref 184), (.bool true), (.int (181) 0), (.ref 185), .none, (.ref 186), (.ref 187), (.ref 188), (.int (408) 0), (.int (69) 0), (.str (Str.ofString "/claim/cut.py") 409)]), #[]⟩) ::
  (nat_lit 190, ⟨(.type "function"), none, (.func fd_String_init), #[]⟩) ::
  (nat_lit 191, ⟨(.type "tuple"), none, (.seq #[(.str (Str.ofString "is_hex") 411), (.str (Str.ofString "octets") 412)] 0), #[]⟩) ::
  (nat_lit 192, ⟨(.type "dict"), none, (.dict #[⟨PyData.keyHash P (Str.ofString "__module__"), .str (Str.ofString "__module__") 397, (.str (Str.ofString "paperhold.objects") 359)⟩, ⟨PyData.keyHash P (Str.ofString "__firstlineno__"), .str (Str.ofString "__firstlineno__") 401, (.int (67) 400)⟩, ⟨PyData.keyHash P (Str.ofString "__init__"), .str (Str.ofString "__init__") 410, (.ref 190)⟩, ⟨PyData.keyHash P (Str.ofString "__static_attributes__"), .str (Str.ofString "__static_attributes__") 413, (.ref 191)⟩, ⟨PyData.keyHash P (Str.ofString "__dict__"), .str (Str.ofString "__dict__") 415, (.ref 194)⟩, ⟨PyData.keyHash P (Str.ofString "__weakref__"), .str (Str.ofString "__weakref__") 417, (.ref 195)⟩, ⟨PyData.keyHash P (Str.ofString "__doc__"), .str (Str.ofString "__doc__") 418, .none⟩] 4), #[]⟩) ::
  (nat_lit 193, ⟨(.type "type"), none, (.cls ⟨(Str.ofString "String"), [(.type "object")], [(.ref 193), (.type "object")], 192, (Str.ofString "String"), true, [], [], false, none, false⟩), #[none, none, (some (.str (Str.ofString "String") 390)), (some (.str (Str.ofString "String") 398)), (some (.builtin "object.__new__")), (some (.bool true))]⟩) ::
  (nat_lit 194, ⟨(.type "getset_descriptor"), none, (.fields #[(.str (Str.ofString "__dict__") 414), (.ref 193), (.builtin "function.__dict__"), (.builtin "function.__dict__#set")]), #[]⟩) ::
  (nat_lit 195, ⟨(.type "getset_descriptor"), none, (.fields #[(.str (Str.ofString "__weakref__") 416), (.ref 193), (.builtin "ExceptionGroup.__weakref__"), .none]), #[]⟩) ::
  (nat_lit 205, ⟨(.type "tuple"), none, (.seq #[] 0), #[]⟩) ::
  (nat_lit 207, ⟨(.type "tuple"), none, (.seq #[(.str (Str.ofString "self") 436), (.str (Str.ofString "head") 437), (.str (Str.ofString "octets") 438)] 0), #[]⟩) ::
  (nat_lit 208, ⟨(.type "tuple"), none, (.seq #[] 0), #[]⟩) ::
  (nat_lit 210, ⟨(.type "code"), none, (.fields #[(.str (Str.ofString "__init__") 433), (.str (Str.ofString "Stream.__init__") 434), (.str (Str.ofString "/claim/cut.py") 435), (.int (74) 0), (.int (3) 0), (.int (0) 0), (.int (0) 0), (.int (3) 0), (.ref 205), (.bool true), (.int (181) 0), (.ref 206), .none, (.ref 207), (.ref 208), (.ref 209), (.int (439) 0), (.int (74) 0), (.str (Str.ofString "/claim/cut.py") 440)]), #[]⟩) ::
  (nat_lit 211, ⟨(.type "function"), none, (.func fd_Stream_init), #[]⟩) ::
  (nat_lit 212, ⟨(.type "tuple"), none, (.seq #[(.str (Str.ofString "head") 442), (.str (Str.ofString "octets") 443)] 0), #[]⟩) ::
  (nat_lit 213, ⟨(.type "dict"), none, (.dict #[⟨PyData.keyHash P (Str.ofString "__module__"), .str (Str.ofString "__module__") 428, (.str (Str.ofString "paperhold.objects") 359)⟩, ⟨PyData.keyHash P (Str.ofString "__firstlineno__"), .str (Str.ofString "__firstlineno__") 432, (.int (72) 431)⟩, ⟨PyData.keyHash P (Str.ofString "__init__"), .str (Str.ofString "__init__") 441, (.ref 211)⟩, ⟨PyData.keyHash P (Str.ofString "__static_attributes__"), .str (Str.ofString "__static_attributes__") 444, (.ref 212)⟩, ⟨PyData.keyHash P (Str.ofString "__dict__"), .str (Str.ofString "__dict__") 446, (.ref 215)⟩, ⟨PyData.keyHash P (Str.ofString "__weakref__"), .str (Str.ofString "__weakref__") 448, (.ref 216)⟩, ⟨PyData.keyHash P (Str.ofString "__doc__"), .str (Str.ofString "__doc__") 449, .none⟩] 4), #[]⟩) ::
  (nat_lit 214, ⟨(.type "type"), none, (.cls ⟨(Str.ofString "Stream"), [(.type "object")], [(.ref 214), (.type "object")], 213, (Str.ofString "Stream"), true, [], [], false, none, false⟩), #[none, none, (some (.str (Str.ofString "Stream") 421)), (some (.str (Str.ofString "Stream") 429)), (some (.builtin "object.__new__")), (some (.bool true))]⟩) ::
  (nat_lit 215, ⟨(.type "getset_descriptor"), none, (.fields #[(.str (Str.ofString "__dict__") 445), (.ref 214), (.builtin "function.__dict__"), (.builtin "function.__dict__#set")]), #[]⟩) ::
  (nat_lit 216, ⟨(.type "getset_descriptor"), none, (.fields #[(.str (Str.ofString "__weakref__") 447), (.ref 214), (.builtin "ExceptionGroup.__weakref__"), .none]), #[]⟩) ::
  (nat_lit 226, ⟨(.type "tuple"), none, (.seq #[] 0), #[]⟩) ::
  (nat_lit 228, ⟨(.type "tuple"), none, (.seq #[(.str (Str.ofString "self") 467), (.str (Str.ofString "number") 468), (.str (Str.ofString "generation") 469)] 0), #[]⟩) ::
  (nat_lit 229, ⟨(.type "tuple"), none, (.seq #[] 0), #[]⟩) ::
  (nat_lit 231, ⟨(.type "code"), none, (.fields #[(.str (Str.ofString "__init__") 464), (.str (Str.ofString "Reference.__init__") 465), (.str (Str.ofString "/claim/cut.py") 466), (.int (79) 0), (.int (3) 0), (.int (0) 0), (.int (0) 0), (.int (3) 0), (.ref 226), (.bool true), (.int (181) 0), (.ref 227), .none, (.ref 228), (.ref 229), (.ref 230), (.int (470) 0), (.int (79) 0), (.str (Str.ofString "/claim/cut.py") 471)]), #[]⟩) ::
  (nat_lit 232, ⟨(.type "function"), none, (.func fd_Reference_init), #[]⟩) ::
  (nat_lit 233, ⟨(.type "tuple"), none, (.seq #[] 0), #[]⟩) ::
  (nat_lit 235, ⟨(.type "tuple"), none, (.seq #[(.str (Str.ofString "self") 476)] 0), #[]⟩) ::
  (nat_lit 236, ⟨(.type "tuple"), none, (.seq #[] 0), #[]⟩) ::
  (nat_lit 238, ⟨(.type "code"), none, (.fields #[(.str (Str.ofString "pair") 473), (.str (Str.ofString "Reference.pair") 474), (.str (Str.ofString "/claim/cut.py") 475), (.int (83) 0), (.int (1) 0), (.int (0) 0), (.int (0) 0), (.int (3) 0), (.ref 233), (.bool true), (.int (181) 0), (.ref 234), .none, (.ref 235), (.ref 236), (.ref 237), (.int (477) 0), (.int (83) 0), (.str (Str.ofString "/claim/cut.py") 478)]), #[]⟩) ::
  (nat_lit 239, ⟨(.type "function"), none, (.func fd_Reference_pair), #[]⟩) ::
  (nat_lit 240, ⟨(.type "tuple"), none, (.seq #[(.str (Str.ofString "generation") 480), (.str (Str.ofString "number") 481)] 0), #[]⟩) ::
  (nat_lit 241, ⟨(.type "dict"), none, (.dict #[⟨PyData.keyHash P (Str.ofString "__module__"), .str (Str.ofString "__module__") 459, (.str (Str.ofString "paperhold.objects") 359)⟩, ⟨PyData.keyHash P (Str.ofString "__firstlineno__"), .str (Str.ofString "__firstlineno__") 463, (.int (77) 462)⟩, ⟨PyData.keyHash P (Str.ofString "__init__"), .str (Str.ofString "__init__") 472, (.ref 232)⟩, ⟨PyData.keyHash P (Str.ofString "pair"), .str (Str.ofString "pair") 479, (.ref 239)⟩, ⟨PyData.keyHash P (Str.ofString "__static_attributes__"), .str (Str.ofString "__static_attributes__") 482, (.ref 240)⟩, ⟨PyData.keyHash P (Str.ofString "__dict__"), .str (Str.ofString "__dict__") 484, (.ref 243)⟩, ⟨PyData.keyHash P (Str.ofString "__weakref__"), .str (Str.ofString "__weakref__") 486, (.ref 244)⟩, ⟨PyData.keyHash P (Str.ofString "__doc__"), .str (Str.ofString "__doc__") 487, .none⟩] 4), #[]⟩) ::
  (nat_lit 242, ⟨(.type "type"), none, (.cls ⟨(Str.ofString "Reference"), [(.type "object")], [(.ref 242), (.type "object")], 241, (Str.ofString "Reference"), true, [], [], false, none, false⟩), #[none, none, (some (.str (Str.ofString "Reference") 452)), (some (.str (Str.ofString "Reference") 460)), (some (.builtin "object.__new__")), (some (.bool true))]⟩) ::
  (nat_lit 243, ⟨(.type "getset_descriptor"), none, (.fields #[(.str (Str.ofString "__dict__") 483), (.ref 242), (.builtin "function.__dict__"), (.builtin "function.__dict__#set")]), #[]⟩) ::
  (nat_lit 244, ⟨(.type "getset_descriptor"), none, (.fields #[(.str (Str.ofString "__weakref__") 485), (.ref 242), (.builtin "ExceptionGroup.__weakref__"), .none]), #[]⟩) ::
  (nat_lit 247, ⟨(.type "tuple"), none, (.seq #[] 0), #[]⟩) ::
  (nat_lit 249, ⟨(.type "tuple"), none, (.seq #[(.str (Str.ofString "value") 493)] 0), #[]⟩) ::
  (nat_lit 250, ⟨(.type "tuple"), none, (.seq #[] 0), #[]⟩) ::
  (nat_lit 252, ⟨(.type "code"), none, (.fields #[(.str (Str.ofString "kind_of") 490), (.str (Str.ofString "kind_of") 491), (.str (Str.ofString "/claim/cut.py") 492), (.int (85) 0), (.int (1) 0), (.int (0) 0), (.int (0) 0), (.int (3) 0), (.ref 247), (.bool true), (.int (181) 0), (.ref 248), .none, (.ref 249), (.ref 250), (.ref 251), (.int (494) 0), (.int (85) 0), (.str (Str.ofString "/claim/cut.py") 495)]), #[]⟩) ::
  (nat_lit 253, ⟨(.type "function"), none, (.func fd_kind_of), #[]⟩) ::
  (nat_lit 254, ⟨(.type "tuple"), none, (.seq #[] 0), #[]⟩) ::
  (nat_lit 256, ⟨(.type "tuple"), none, (.seq #[(.str (Str.ofString "value") 500)] 0), #[]⟩) ::
  (nat_lit 257, ⟨(.type "tuple"), none, (.seq #[] 0), #[]⟩) ::
  (nat_lit 259, ⟨(.type "code"), none, (.fields #[(.str (Str.ofString "is_number") 497), (.str (Str.ofString "is_number") 498), (.str (Str.ofString "/claim/cut.py") 499), (.int (107) 0), (.int (1) 0), (.int (0) 0), (.int (0) 0), (.int (3) 0), (.ref 254), (.bool true), (.int (181) 0), (.ref 255), .none, (.ref 256), (.ref 257), (.ref 258), (.int (501) 0), (.int (107) 0), (.str (Str.ofString "/claim/cut.py") 502)]), #[]⟩) ::
  (nat_lit 260, ⟨(.type "function"), none, (.func fd_is_number), #[]⟩) ::
  (nat_lit 261, ⟨(.type "tuple"), none, (.seq #[] 0), #[]⟩) ::
  (nat_lit 263, ⟨(.type "tuple"), none, (.seq #[(.str (Str.ofString "kind") 507), (.str (Str.ofString "value") 508)] 0), #[]⟩) ::
  (nat_lit 264, ⟨(.type "tuple"), none, (.seq #[] 0), #[]⟩) ::
  (nat_lit 266, ⟨(.type "code"), none, (.fields #[(.str (Str.ofString "told_plain") 504), (.str (Str.ofString "told_plain") 505), (.str (Str.ofString "/claim/cut.py") 506), (.int (109) 0), (.int (2) 0), (.int (0) 0), (.int (0) 0), (.int (3) 0), (.ref 261), (.bool true), (.int (181) 0), (.ref 262), .none, (.ref 263), (.ref 264), (.ref 265), (.int (509) 0), (.int (109) 0), (.str (Str.ofString "/claim/cut.py") 510)]), #[]⟩) ::
  (nat_lit 267, ⟨(.type "function"), none, (.func fd_told_plain), #[]⟩) ::
  (nat_lit 268, ⟨(.type "tuple"), none, (.seq #[] 0), #[]⟩) ::
  (nat_lit 271, ⟨(.type "code"), none, (.fields #[(.str (Str.ofString "told") 512), (.str (Str.ofString "told") 513), (.str (Str.ofString "/claim/cut.py") 514), (.int (123) 0), (.int (1) 0), (.int (0) 0), (.int (0) 0), (.int (3) 0), (.ref 268), (.bool true), (.int (181) 0), (.ref 269), .none, .none, .none, (.ref 270), (.int (515) 0), (.int (123) 0), (.str (Str.ofString "/claim/cut.py") 516)]), #[]⟩) ::
  (nat_lit 272, ⟨(.type "function"), none, (.func fd_told), #[]⟩) ::
  (nat_lit 280, ⟨(.type "tuple"), none, (.seq #[] 0), #[]⟩) ::
  (nat_lit 282, ⟨(.type "tuple"), none, (.seq #[(.str (Str.ofString "self") 536), (.str (Str.ofString "word") 537), (.str (Str.ofString "operands") 538)] 0), #[]⟩) ::
  (nat_lit 283, ⟨(.type "tuple"), none, (.seq #[] 0), #[]⟩) ::
  (nat_lit 285, ⟨(.type "code"), none, (.fields #[(.str (Str.ofString "__init__") 533), (.str (Str.ofString "Operation.__init__") 534), (.str (Str.ofString "/claim/cut.py") 535), (.int (136) 0), (.int (3) 0), (.int (0) 0), (.int (0) 0), (.int (3) 0), (.ref 280), (.bool true), (.int (181) 0), (.ref 281), .none, (.ref 282), (.ref 283), (.ref 284), (.int (539) 0), (.int (136) 0), (.str (Str.ofString "/claim/cut.py") 540)]), #[]⟩) ::
  (nat_lit 286, ⟨(.type "function"), none, (.func fd_Operation_init), #[]⟩) ::
  (nat_lit 287, ⟨(.type "tuple"), none, (.seq #[] 0), #[]⟩) ::
  (nat_lit 290, ⟨(.type "code"), none, (.fields #[(.str (Str.ofString "told") 542), (.str (Str.ofString "Operation.told") 543), (.str (Str.ofString "/claim/cut.py") 544), (.int (140) 0), (.int (1) 0), (.int (0) 0), (.int (0) 0), (.int (3) 0), (.ref 287), (.bool true), (.int (181) 0), (.ref 288), .none, .none, .none, (.ref 289), (.int (545) 0), (.int (140) 0), (.str (Str.ofString "/claim/cut.py") 546)]), #[]⟩) ::
  (nat_lit 291, ⟨(.type "function"), none, (.func fd_Operation_told), #[]⟩) ::
  (nat_lit 292, ⟨(.type "tuple"), none, (.seq #[(.str (Str.ofString "operands") 548), (.str (Str.ofString "word") 549)] 0), #[]⟩) ::
  (nat_lit 293, ⟨(.type "dict"), none, (.dict #[⟨PyData.keyHash P (Str.ofString "__module__"), .str (Str.ofString "__module__") 528, (.str (Str.ofString "paperhold.content") 519)⟩, ⟨PyData.keyHash P (Str.ofString "__firstlineno__"), .str (Str.ofString "__firstlineno__") 532, (.int (134) 531)⟩, ⟨PyData.keyHash P (Str.ofString "__init__"), .str (Str.ofString "__init__") 541, (.ref 286)⟩, ⟨PyData.keyHash P (Str.ofString "told"), .str (Str.ofString "told") 547, (.ref 291)⟩, ⟨PyData.keyHash P (Str.ofString "__static_attributes__"), .str (Str.ofString "__static_attributes__") 550, (.ref 292)⟩, ⟨PyData.keyHash P (Str.ofString "__dict__"), .str (Str.ofString "__dict__") 552, (.ref 295)⟩, ⟨PyData.keyHash P (Str.ofString "__weakref__"), .str (Str.ofString "__weakref__") 554, (.ref 296)⟩, ⟨PyData.keyHash P (Str.ofString "__doc__"), .str (Str.ofString "__doc__") 555, .none⟩] 4), #[]⟩) ::
  (nat_lit 294, ⟨(.type "type"), none, (.cls ⟨(Str.ofString "Operation"), [(.type "object")], [(.ref 294), (.type "object")], 293, (Str.ofString "Operation"), true, [], [], false, none, false⟩), #[none, none, (some (.str (Str.ofString "Operation") 521)), (some (.str (Str.ofString "Operation") 529)), (some (.builtin "object.__new__")), (some (.bool true))]⟩) ::
  (nat_lit 295, ⟨(.type "getset_descriptor"), none, (.fields #[(.str (Str.ofString "__dict__") 551), (.ref 294), (.builtin "function.__dict__"), (.builtin "function.__dict__#set")]), #[]⟩) ::
  (nat_lit 296, ⟨(.type "getset_descriptor"), none, (.fields #[(.str (Str.ofString "__weakref__") 553), (.ref 294), (.builtin "ExceptionGroup.__weakref__"), .none]), #[]⟩) ::
  (nat_lit 299, ⟨(.type "tuple"), none, (.seq #[] 0), #[]⟩) ::
  (nat_lit 301, ⟨(.type "tuple"), none, (.seq #[(.str (Str.ofString "one") 561), (.str (Str.ofString "found") 562), (.str (Str.ofString "word") 563)] 0), #[]⟩) ::
  (nat_lit 302, ⟨(.type "tuple"), none, (.seq #[] 0), #[]⟩) ::
  (nat_lit 304, ⟨(.type "code"), none, (.fields #[(.str (Str.ofString "state_kinds") 558), (.str (Str.ofString "state_kinds") 559), (.str (Str.ofString "/claim/cut.py") 560), (.int (142) 0), (.int (0) 0), (.int (0) 0), (.int (0) 0), (.int (3) 0), (.ref 299), (.bool true), (.int (181) 0), (.ref 300), .none, (.ref 301), (.ref 302), (.ref 303), (.int (564) 0), (.int (142) 0), (.str (Str.ofString "/claim/cut.py") 565)]), #[]⟩) ::
  (nat_lit 305, ⟨(.type "function"), none, (.func fd_state_kinds), #[]⟩) ::
  (nat_lit 306, ⟨(.type "tuple"), none, (.seq #[] 0), #[]⟩) ::
  (nat_lit 309, ⟨(.type "code"), none, (.fields #[(.str (Str.ofString "path_kinds") 567), (.str (Str.ofString "path_kinds") 568), (.str (Str.ofString "/claim/cut.py") 569), (.int (163) 0), (.int (0) 0), (.int (0) 0), (.int (0) 0), (.int (3) 0), (.ref 306), (.bool true), (.int (181) 0), (.ref 307), .none, .none, .none, (.ref 308), (.int (570) 0), (.int (163) 0), (.str (Str.ofString "/claim/cut.py") 571)]), #[]⟩) ::
  (nat_lit 310, ⟨(.type "function"), none, (.func fd_path_kinds), #[]⟩) ::
  (nat_lit 311, ⟨(.type "tuple"), none, (.seq #[] 0), #[]⟩) ::
  (nat_lit 313, ⟨(.type "tuple"), none, (.seq #[(.str (Str.ofString "found") 576), (.str (Str.ofString "word") 577)] 0), #[]⟩) ::
  (nat_lit 314, ⟨(.type "tuple"), none, (.seq #[] 0), #[]⟩) ::
  (nat_lit 316, ⟨(.type "code"), none, (.fields #[(.str (Str.ofString "text_kinds") 573), (.str (Str.ofString "text_kinds") 574), (.str (Str.ofString "/claim/cut.py") 575), (.int (168) 0), (.int (0) 0), (.int (0) 0), (.int (0) 0), (.int (3) 0), (.ref 311), (.bool true), (.int (181) 0), (.ref 312), .none, (.ref 313), (.ref 314), (.ref 315), (.int (578) 0), (.int (168) 0), (.str (Str.ofString "/claim/cut.py") 579)]), #[]⟩) ::
  (nat_lit 317, ⟨(.type "function"), none, (.func fd_text_kinds), #[]⟩) ::
  (nat_lit 318, ⟨(.type "tuple"), none, (.seq #[] 0), #[]⟩) ::
  (nat_lit 320, ⟨(.type "tuple"), none, (.seq #[(.str (Str.ofString "found") 584), (.str (Str.ofString "kinds") 585), (.str (Str.ofString "word") 586)] 0), #[]⟩) ::
  (nat_lit 321, ⟨(.type "tuple"), none, (.seq #[] 0), #[]⟩) ::
  (nat_lit 323, ⟨(.type "code"), none, (.fields #[(.str (Str.ofString "operand_kinds") 581), (.str (Str.ofString "operand_kinds") 582), (.str (Str.ofString "/claim/cut.py") 583), (.int (179) 0), (.int (0) 0), (.int (0) 0), (.int (0) 0), (.int (3) 0), (.ref 318), (.bool true), (.int (181) 0), (.ref 319), .none, (.ref 320), (.ref 321), (.ref 322), (.int (587) 0), (.int (179) 0), (.str (Str.ofString "/claim/cut.py") 588)]), #[]⟩) ::
  (nat_lit 324, ⟨(.type "function"), none, (.func fd_operand_kinds), #[]⟩) ::
  (nat_lit 325, ⟨(.type "tuple"), none, (.seq #[] 0), #[]⟩) ::
  (nat_lit 328, ⟨(.type "code"), none, (.fields #[(.str (Str.ofString "fits_kind") 590), (.str (Str.ofString "fits_kind") 591), (.str (Str.ofString "/claim/cut.py") 592), (.int (185) 0), (.int (2) 0), (.int (0) 0), (.int (0) 0), (.int (3) 0), (.ref 325), (.bool true), (.int (181) 0), (.ref 326), .none, .none, .none, (.ref 327), (.int (593) 0), (.int (185) 0), (.str (Str.ofString "/claim/cut.py") 594)]), #[]⟩) ::
  (nat_lit 329, ⟨(.type "function"), none, (.func fd_fits_kind), #[]⟩) ::
  (nat_lit 330, ⟨(.type "tuple"), none, (.seq #[] 0), #[]⟩) ::
  (nat_lit 333, ⟨(.type "code"), none, (.fields #[(.str (Str.ofString "row_fault") 596), (.str (Str.ofString "row_fault") 597), (.str (Str.ofString "/claim/cut.py") 598), (.int (193) 0), (.int (2) 0), (.int (0) 0), (.int (0) 0), (.int (3) 0), (.ref 330), (.bool true), (.int (181) 0), (.ref 331), .none, .none, .none, (.ref 332), (.int (599) 0), (.int (193) 0), (.str (Str.ofString "/claim/cut.py") 600)]), #[]⟩) ::
  (nat_lit 334, ⟨(.type "function"), none, (.func fd_row_fault), #[]⟩) ::
  (nat_lit 335, ⟨(.type "tuple"), none, (.seq #[] 0), #[]⟩) ::
  (nat_lit 337, ⟨(.type "tuple"), none, (.seq #[(.str (Str.ofString "operation") 605), (.str (Str.ofString "kinds") 606), (.str (Str.ofString "value") 607), (.str (Str.ofString "kind") 608)] 0), #[]⟩) ::
  (nat_lit 338, ⟨(.type "tuple"), none, (.seq #[] 0), #[]⟩) ::
  (nat_lit 340, ⟨(.type "code"), none, (.fields #[(.str (Str.ofString "operation_fault") 602), (.str (Str.ofString "operation_fault") 603), (.str (Str.ofString "/claim/cut.py") 604), (.int (200) 0), (.int (1) 0), (.int (0) 0), (.int (0) 0), (.int (3) 0), (.ref 335), (.bool true), (.int (181) 0), (.ref 336), .none, (.ref 337), (.ref 338), (.ref 339), (.int (609) 0), (.int (200) 0), (.str (Str.ofString "/claim/cut.py") 610)]), #[]⟩) ::
  (nat_lit 341, ⟨(.type "function"), none, (.func fd_operation_fault), #[]⟩) ::
  (nat_lit 342, ⟨(.type "tuple"), none, (.seq #[] 0), #[]⟩) ::
  (nat_lit 344, ⟨(.type "tuple"), none, (.seq #[(.str (Str.ofString "operations") 615), (.str (Str.ofString "found") 616), (.str (Str.ofString "open_count") 617), (.str (Str.ofString "index") 618), (.str (Str.ofString "word") 619), (.str (Str.ofString "text") 620)] 0), #[]⟩) ::
  (nat_lit 345, ⟨(.type "tuple"), none, (.seq #[] 0), #[]⟩) ::
  (nat_lit 347, ⟨(.type "code"), none, (.fields #[(.str (Str.ofString "operand_faults") 612), (.str (Str.ofString "operand_faults") 613), (.str (Str.ofString "/claim/cut.py") 614), (.int (212) 0), (.int (1) 0), (.int (0) 0), (.int (0) 0), (.int (3) 0), (.ref 342), (.bool true), (.int (181) 0), (.ref 343), .none, (.ref 344), (.ref 345), (.ref 346), (.int (621) 0), (.int (212) 0), (.str (Str.ofString "/claim/cut.py") 622)]), #[]⟩) ::
  (nat_lit 348, ⟨(.type "function"), none, (.func fd_operand_faults), #[]⟩) ::
  (nat_lit 349, ⟨(.type "tuple"), none, (.seq #[] 0), #[]⟩) ::
  (nat_lit 351, ⟨(.type "tuple"), none, (.seq #[(.str (Str.ofString "script") 629), (.str (Str.ofString "number") 630), (.str (Str.ofString "cell") 631)] 0), #[]⟩) ::
  (nat_lit 352, ⟨(.type "tuple"), none, (.seq #[] 0), #[]⟩) ::
  (nat_lit 354, ⟨(.type "code"), none, (.fields #[(.str (Str.ofString "_law_pen") 626), (.str (Str.ofString "_law_pen") 627), (.str (Str.ofString "/claim/cut.py") 628), (.int (226) 0), (.int (1) 0), (.int (0) 0), (.int (0) 0), (.int (3) 0), (.ref 349), (.bool true), (.int (181) 0), (.ref 350), .none, (.ref 351), (.ref 352), (.ref 353), (.int (632) 0), (.int (226) 0), (.str (Str.ofString "/claim/cut.py") 633)]), #[]⟩) ::
  (nat_lit 355, ⟨(.type "function"), none, (.func fd__law_pen), #[]⟩) ::
  (nat_lit 356, ⟨(.type "tuple"), none, (.seq #[] 0), #[]⟩) ::
  (nat_lit 358, ⟨(.type "tuple"), none, (.seq #[(.str (Str.ofString "pen") 638), (.str (Str.ofString "many") 639), (.str (Str.ofString "digit") 640)] 0), #[]⟩) ::
  (nat_lit 359, ⟨(.type "tuple"), none, (.seq #[] 0), #[]⟩) ::
  (nat_lit 361, ⟨(.type "code"), none, (.fields #[(.str (Str.ofString "_law_draw") 635), (.str (Str.ofString "_law_draw") 636), (.str (Str.ofString "/claim/cut.py") 637), (.int (231) 0), (.int (2) 0), (.int (0) 0), (.int (0) 0), (.int (3) 0), (.ref 356), (.bool true), (.int (181) 0), (.ref 357), .none, (.ref 358), (.ref 359), (.ref 360), (.int (641) 0), (.int (231) 0), (.str (Str.ofString "/claim/cut.py") 642)]), #[]⟩) ::
  (nat_lit 362, ⟨(.type "function"), none, (.func fd__law_draw), #[]⟩) ::
  (nat_lit 363, ⟨(.type "tuple"), none, (.seq #[] 0), #[]⟩) ::
  (nat_lit 365, ⟨(.type "tuple"), none, (.seq #[(.str (Str.ofString "pen") 647), (.str (Str.ofString "some") 648)] 0), #[]⟩) ::
  (nat_lit 366, ⟨(.type "tuple"), none, (.seq #[] 0), #[]⟩) ::
  (nat_lit 368, ⟨(.type "code"), none, (.fields #[(.str (Str.ofString "_law_pick") 644), (.str (Str.ofString "_law_pick") 645), (.str (Str.ofString "/claim/cut.py") 646), (.int (238) 0), (.int (2) 0), (.int (0) 0), (.int (0) 0), (.int (3) 0), (.ref 363), (.bool true), (.int (181) 0), (.ref 364), .none, (.ref 365), (.ref 366), (.ref 367), (.int (649) 0), (.int (238) 0), (.str (Str.ofString "/claim/cut.py") 650)]), #[]⟩) ::
  (nat_lit 369, ⟨(.type "function"), none, (.func fd__law_pick), #[]⟩) ::
  (nat_lit 370, ⟨(.type "tuple"), none, (.seq #[] 0), #[]⟩) ::
  (nat_lit 373, ⟨(.type "code"), none, (.fields #[(.str (Str.ofString "_law_words") 652), (.str (Str.ofString "_law_words") 653), (.str (Str.ofString "/claim/cut.py") 654), (.int (240) 0), (.int (0) 0), (.int (0) 0), (.int (0) 0), (.int (3) 0), (.ref 370), (.bool true), (.int (181) 0), (.ref 371), .none, .none, .none, (.ref 372), (.int (655) 0), (.int (240) 0), (.str (Str.ofString "/claim/cut.py") 656)]), #[]⟩) ::
  (nat_lit 374, ⟨(.type "function"), none, (.func fd__law_words), #[]⟩) ::
  (nat_lit 375, ⟨(.type "tuple"), none, (.seq #[] 0), #[]⟩) ::
  (nat_lit 377, ⟨(.type "tuple"), none, (.seq #[(.str (Str.ofString "pen") 661), (.str (Str.ofString "some") 662)] 0), #[]⟩) ::
  (nat_lit 378, ⟨(.type "tuple"), none, (.seq #[] 0), #[]⟩) ::
  (nat_lit 380, ⟨(.type "code"), none, (.fields #[(.str (Str.ofString "_law_any") 658), (.str (Str.ofString "_law_any") 659), (.str (Str.ofString "/claim/cut.py") 660), (.int (245) 0), (.int (1) 0), (.int (0) 0), (.int (0) 0), (.int (3) 0), (.ref 375), (.bool true), (.int (181) 0), (.ref 376), .none, (.ref 377), (.ref 378), (.ref 379), (.int (663) 0), (.int (245) 0), (.str (Str.ofString "/claim/cut.py") 664)]), #[]⟩) ::
  (nat_lit 381, ⟨(.type "function"), none, (.func fd__law_any), #[]⟩) ::
  (nat_lit 382, ⟨(.type "tuple"), none, (.seq #[] 0), #[]⟩) ::
  (nat_lit 385, ⟨(.type "code"), none, (.fields #[(.str (Str.ofString "_law_good") 666), (.str (Str.ofString "_law_good") 667), (.str (Str.ofString "/claim/cut.py") 668), (.int (248) 0), (.int (2) 0), (.int (0) 0), (.int (0) 0), (.int (3) 0), (.ref 382), (.bool true), (.int (181) 0), (.ref 383), .none, .none, .none, (.ref 384), (.int (669) 0), (.int (248) 0), (.str (Str.ofString "/claim/cut.py") 670)]), #[]⟩) ::
  (nat_lit 386, ⟨(.type "function"), none, (.func fd__law_good), #[]⟩) ::
  (nat_lit 387, ⟨(.type "tuple"), none, (.seq #[] 0), #[]⟩) ::
  (nat_lit 390, ⟨(.type "code"), none, (.fields #[(.str (Str.ofString "_law_fits") 672), (.str (Str.ofString "_law_fits") 673), (.str (Str.ofString "/claim/cut.py") 674), (.int (257) 0), (.int (2) 0), (.int (0) 0), (.int (0) 0), (.int (3) 0), (.ref 387), (.bool true), (.int (181) 0), (.ref 388), .none, .none, .none, (.ref 389), (.int (675) 0), (.int (257) 0), (.str (Str.ofString "/claim/cut.py") 676)]), #[]⟩) ::
  (nat_lit 391, ⟨(.type "function"), none, (.func fd__law_fits), #[]⟩) ::
  (nat_lit 392, ⟨(.type "tuple"), none, (.seq #[] 0), #[]⟩) ::
  (nat_lit 395, ⟨(.type "code"), none, (.fields #[(.str (Str.ofString "_law_is_right") 678), (.str (Str.ofString "_law_is_right") 679), (.str (Str.ofString "/claim/cut.py") 680), (.int (266) 0), (.int (1) 0), (.int (0) 0), (.int (0) 0), (.int (3) 0), (.ref 392), (.bool true), (.int (181) 0), (.ref 393), .none, .none, .none, (.ref 394), (.int (681) 0), (.int (266) 0), (.str (Str.ofString "/claim/cut.py") 682)]), #[]⟩) ::
  (nat_lit 396, ⟨(.type "function"), none, (.func fd__law_is_right), #[]⟩) ::
  (nat_lit 397, ⟨(.type "tuple"), none, (.seq #[] 0), #[]⟩) ::
  (nat_lit 399, ⟨(.type "tuple"), none, (.seq #[(.str (Str.ofString "pen") 687), (.str (Str.ofString "words") 688), (.str (Str.ofString "word") 689), (.str (Str.ofString "row") 690), (.str (Str.ofString "sign") 691), (.str (Str.ofString "way") 692), (.str (Str.ofString "spot") 693), (.str (Str.ofString "other") 694)] 0), #[]⟩) ::
  (nat_lit 400, ⟨(.type "tuple"), none, (.seq #[] 0), #[]⟩) ::
  (nat_lit 402, ⟨(.type "code"), none, (.fields #[(.str (Str.ofString "_law_operation") 684), (.str (Str.ofString "_law_operation") 685), (.str (Str.ofString "/claim/cut.py") 686), (.int (274) 0), (.int (1) 0), (.int (0) 0), (.int (0) 0), (.int (3) 0), (.ref 397), (.bool true), (.int (181) 0), (.ref 398), .none, (.ref 399), (.ref 400), (.ref 401), (.int (695) 0), (.int (274) 0), (.str (Str.ofString "/claim/cut.py") 696)]), #[]⟩) ::
  (nat_lit 403, ⟨(.type "function"), none, (.func fd__law_operation), #[]⟩) ::
  (nat_lit 404, ⟨(.type "tuple"), none, (.seq #[] 0), #[]⟩) ::
  (nat_lit 407, ⟨(.type "code"), none, (.fields #[(.str (Str.ofString "law") 698), (.str (Str.ofString "law") 699), (.str (Str.ofString "/claim/cut.py") 700), (.int (288) 0), (.int (1) 0), (.int (0) 0), (.int (0) 0), (.int (3) 0), (.ref 404), (.bool true), (.int (181) 0), (.ref 405), .none, .none, .none, (.ref 406), (.int (701) 0), (.int (288) 0), (.str (Str.ofString "/claim/cut.py") 702)]), #[]⟩) ::
  (nat_lit 408, ⟨(.type "function"), none, (.func fd_law), #[]⟩) :: []
noncomputable def as : List Addr := [2, 3, 15, 17, 18, 20, 21, 22, 29, 30, 32, 33, 35, 36, 37, 39, 40, 42, 43, 44, 45, 46, 47, 57, 59, 60, 62, 63, 64, 66, 67, 69, 70, 71, 73, 74, 76, 77, 78, 80, 81, 83, 84, 85, 87, 88, 90, 91, 92, 94, 95, 97, 98, 99, 101, 102, 104, 105, 106, 108, 109, 111, 112, 113, 115, 116, 118, 119, 120, 122, 123, 125, 126, 127, 129, 130, 132, 133, 134, 136, 137, 139, 140, 141, 142, 143, 144, 145, 148, 150, 151, 153, 154, 162, 164, 165, 167, 168, 169, 170, 171, 172, 173, 183, 184, 186, 187, 189, 190, 191, 192, 193, 194, 195, 205, 207, 208, 210, 211, 212, 213, 214, 215, 216, 226, 228, 229, 231, 232, 233, 235, 236, 238, 239, 240, 241, 242, 243, 244, 247, 249, 250, 252, 253, 254, 256, 257, 259, 260, 261, 263, 264, 266, 267, 268, 271, 272, 280, 282, 283, 285, 286, 287, 290, 291, 292, 293, 294, 295, 296, 299, 301, 302, 304, 305, 306, 309, 310, 311, 313, 314, 316, 317, 318, 320, 321, 323, 324, 325, 328, 329, 330, 333, 334, 335, 337, 338, 340, 341, 342, 344, 345, 347, 348, 349, 351, 352, 354, 355, 356, 358, 359, 361, 362, 363, 365, 366, 368, 369, 370, 373, 374, 375, 377, 378, 380, 381, 382, 385, 386, 387, 390, 391, 392, 395, 396, 397, 399, 400, 402, 403, 404, 407, 408]
noncomputable def vq : Program := { pq with main := { pq.main with body := [0, 2, 4, 5, 7, 8, 9, 10, 11, 12, 13, 14, 15, 17, 18, 19, 20, 21, 22, 23, 24, 25, 27, 28, 29, 30, 31, 32, 33, 34, 35, 36].filterMap fun i => pq.main.body[i]? } }
noncomputable abbrev lo : List Str := [Str.ofString "PaperError", Str.ofString "told_objects"]
theorem as_K (P : Params) : as = (K P).map (·.1) := by kernel_rfl
noncomputable abbrev hk : Hook := kHook K as as_K

noncomputable def s0 (H : Params → Heap) (w : World) (os : OsState) : SharedT := ⟨build .nil 0 (H w.params).objs.toList, (H w.params).objs.size, (H w.params).life, Array.mk [], {}, 181, os⟩
theorem drawn0 : boot_drawn = {} := rfl
theorem toks0 : boot_toks = 181 := rfl
theorem s0_abs (w : World) (os : OsState) (h : buildOk .nil 0 (boot_heap w.params).objs.toList = true) : (s0 boot_heap w os).abs = ⟨boot_heap w.params, Array.mk [], {}, 181, os⟩ := by
  have := build_abs (life := (boot_heap w.params).life) (boot_heap w.params).objs.toList .nil 0 [] h (by unfold absHeap BT.list; rfl)
  unfold s0 SharedT.abs
  rw [Nat.zero_add] at this
  dsimp only
  rw [Array.length_toList] at this
  rw [this, List.nil_append]

noncomputable abbrev Xt (s : Shared) : Bool := xlAt vq [] s && recOk (RowW.records rq.row.toRowW) s

theorem left_of {p q : Program} {loose : List Str} {Xt : Shared → Bool} {α : Type} {Yf : Shared → α} {Ya : World → α} {N : Nat} {g0 : Bool} {H₀ : Params → Heap} {gs₀ : Array GenState} {d₀ : Drawn} {k₀ : Nat}
    (open_ : ∀ w : World, (fencedOpening treeTable p w N).map (fun s => (s.heap, s.gens, s.drawn, s.toks)) = some (H₀ w.params, gs₀, d₀, k₀))
    (size : ∀ w : World, ((H₀ w.params).isNs mainGlobals && gs₀.size == 0) = true)
    (run : ∀ (w : World) (os : OsState), ∃ r, topRun treeTable p w (H₀ w.params).objs.size ((H₀ w.params).nsMap mainGlobals "__annotations__") N ⟨H₀ w.params, gs₀, d₀, k₀, os⟩ (topStub p) = some r ∧
      (staticsOk (importedModules p.main.body) (H₀ w.params) r.heap && namesBound p r.heap && gensDone r && laidKept (H₀ w.params) r.heap) = true ∧
      openSeen q loose (importedModules p.main.body) Xt g0 r = openGood q loose ∧ Yf r = Ya w) : LeftO p q loose Xt Yf Ya N g0 := fun w => by
  obtain ⟨⟨h, gs, d, k, os⟩, e, e'⟩ := Option.map_eq_some_iff.mp (open_ w)
  obtain ⟨rfl, rfl, rfl, rfl⟩ : h = H₀ w.params ∧ gs = gs₀ ∧ d = d₀ ∧ k = k₀ := by simpa using e'
  obtain ⟨r, r1, l1, l2, l3⟩ := run w os
  have t : topFrom treeTable p w N ⟨H₀ w.params, gs, d, k, os⟩ = some r := by
    unfold topFrom
    dsimp only
    rw [size w, r1]
    show (match staticsOk (importedModules p.main.body) (H₀ w.params) r.heap && namesBound p r.heap && gensDone r && laidKept (H₀ w.params) r.heap with | true => _ | false => _) = _
    rw [l1]
  unfold openEnds
  rw [e]
  show (topFrom treeTable p w N _).map _ = _
  rw [t]
  exact congrArg some (Prod.ext l2 l3)

noncomputable def runOf (w : World) (os : OsState) : Option SharedT := (goF (PySem.W.Fast.tw10156331382660048174 (PySem.W.Fast.tw11892475500146522536 PySem.W.Fast.tw14364793385576792824) pq w) (PySem.W.Fast.tw6613529449190102663 (boot_heap w.params).objs.size ((boot_heap w.params).nsMap mainGlobals "__annotations__")) 5662 (s0 boot_heap w os) (topStub pq))
noncomputable def getT (s : SharedT) (a : Nat) : Option Obj := match Nat.blt a s.n with
  | true => alive ((s.tree.get a).getD default)
  | false => none
theorem getT_eq (s : SharedT) (a : Nat) : s.abs.heap.get? a = getT s a := by
  unfold getT
  show (absHeap s.tree s.n s.life).get? a = _
  cases h : Nat.blt a s.n with
  | true =>
    have h' : a < s.n := Nat.le_of_ble_eq_true h
    unfold Heap.get?
    rw [absHeap_at, if_pos h']
    generalize (s.tree.get a).getD default = o
    obtain ⟨c, d, dt, sl⟩ := o
    cases dt <;> rfl
  | false => exact abs_get_none (fun h' => by rw [show Nat.blt a s.n = true from Nat.ble_eq_true_of_le h'] at h; cases h)
theorem check1 (w : World) (os : OsState) : (runOf w os).map (fun r => (staticsOk (importedModules pq.main.body) (boot_heap w.params) r.abs.heap && namesBound pq r.abs.heap && gensDone r.abs && laidKept (boot_heap w.params) r.abs.heap, as.map (getT r))) = some (true, hk.val w) := by kernel_rfl
theorem check2 (w : World) (os : OsState) : (runOf w os).map (fun r => PySem.W.Fast.tw4187177175401517315 vq lo (importedModules pq.main.body) Xt true r.abs) = some (openGood vq lo) := by kernel_rfl
theorem check (w : World) (os : OsState) : (goF (PySem.W.Fast.tw10156331382660048174 (PySem.W.Fast.tw11892475500146522536 PySem.W.Fast.tw14364793385576792824) pq w) (PySem.W.Fast.tw6613529449190102663 (boot_heap w.params).objs.size ((boot_heap w.params).nsMap mainGlobals "__annotations__")) 5662 (s0 boot_heap w os) (topStub pq)).map
    (fun r => (staticsOk (importedModules pq.main.body) (boot_heap w.params) r.abs.heap && namesBound pq r.abs.heap && gensDone r.abs && laidKept (boot_heap w.params) r.abs.heap, PySem.W.Fast.tw4187177175401517315 vq lo (importedModules pq.main.body) Xt true r.abs, hk.obs r.abs))
    = some (true, openGood vq lo, hk.val w) := by
  show (runOf w os).map _ = _
  have c1 := check1 w os
  have c2 := check2 w os
  generalize runOf w os = x at c1 c2 ⊢
  cases x with
  | none => cases c2
  | some r =>
    have d := Option.some.inj c1
    have e : hk.obs r.abs = as.map (getT r) := List.map_congr_left fun a _ => getT_eq r a
    have d1 := congrArg Prod.fst d
    have d2 := congrArg Prod.snd d
    exact congrArg some (Prod.ext d1 (Prod.ext (Option.some.inj c2) (e.trans d2)))
theorem okb (w : World) : buildOk .nil 0 (boot_heap w.params).objs.toList = true := by kernel_rfl
theorem sizeb (w : World) : ((boot_heap w.params).isNs mainGlobals && (Array.mk [] : Array GenState).size == 0) = true := by kernel_rfl
theorem open0 : opening pq = plainProg pq.main.scope.names := by kernel_rfl
theorem fence0 (s : Shared) : fenceModules? pq s = some s := by kernel_rfl

theorem left : LeftO rq.row.prog vq lo Xt hk.obs hk.val 5662 := by
  refine left_of (p := pq) (H₀ := boot_heap) (gs₀ := Array.mk []) (d₀ := boot_drawn) (k₀ := boot_toks) (boot_open open0 (by decide) fence0) sizeb fun w os => ?_
  have c := check w os
  rw [← PySem.W.Fast.te10156331382660048174, ← PySem.W.Fast.te11892475500146522536, ← PySem.W.Fast.te14364793385576792824, ← PySem.W.Fast.te6613529449190102663, ← PySem.W.Fast.te4187177175401517315] at c
  obtain ⟨r, h1, h2⟩ := Option.map_eq_some_iff.mp c
  have h3 := goF_spec h1
  rw [s0_abs w os (okb w)] at h3
  exact ⟨r.abs, h3, congrArg Prod.fst h2, congrArg (fun x => x.2.1) h2, congrArg (fun x => x.2.2) h2⟩

theorem said : rq.wellSaid = true := by
  rw [PySem.W.Fast.te9446332074065402090]
  kernel_rfl
end

section
set_option maxHeartbeats 200000
open PySem PySem.W PyProof.Rows PySem.Calls
theorem rm0 {d b l : Nat} (h : d + b < l) : d < l := Nat.lt_of_le_of_lt (Nat.le_add_right ..) h
theorem rmk (k : Nat) {d a b l : Nat} (h : d + b < l) (e : Nat.ble (k + a) b = true) : d + k + a < l := Nat.lt_of_le_of_lt (by rw [Nat.add_assoc]; exact Nat.add_le_add_left (Nat.le_of_ble_eq_true e) d) h
theorem ne_s {a b : Nat} (h : a < b) : a ≠ b := Nat.ne_of_lt h
theorem ne_z {a b : Nat} (h : a < b) : b ≠ a := Nat.ne_of_gt h
theorem ne_ss {a b c : Nat} (h : b < c) (h' : a < b) : a ≠ c := Nat.ne_of_lt (Nat.lt_trans h' h)
theorem ne_zz {a b c : Nat} (h : b < c) (h' : a < b) : c ≠ a := Nat.ne_of_gt (Nat.lt_trans h' h)
theorem lt_0 {a b : Nat} {o : Obj} {r : List (Addr × Obj)} (h : AllLt b ((a, o) :: r)) : a < b := h.1
theorem lt_1 {q0 : Addr × Obj} {a b : Nat} {o : Obj} {r : List (Addr × Obj)} (h : AllLt b (q0 :: (a, o) :: r)) : a < b := h.2.1
theorem lt_2 {q0 q1 : Addr × Obj} {a b : Nat} {o : Obj} {r : List (Addr × Obj)} (h : AllLt b (q0 :: q1 :: (a, o) :: r)) : a < b := h.2.2.1
theorem lt_3 {q0 q1 q2 : Addr × Obj} {a b : Nat} {o : Obj} {r : List (Addr × Obj)} (h : AllLt b (q0 :: q1 :: q2 :: (a, o) :: r)) : a < b := h.2.2.2.1
theorem lt_4 {q0 q1 q2 q3 : Addr × Obj} {a b : Nat} {o : Obj} {r : List (Addr × Obj)} (h : AllLt b (q0 :: q1 :: q2 :: q3 :: (a, o) :: r)) : a < b := h.2.2.2.2.1
theorem lt_5 {q0 q1 q2 q3 q4 : Addr × Obj} {a b : Nat} {o : Obj} {r : List (Addr × Obj)} (h : AllLt b (q0 :: q1 :: q2 :: q3 :: q4 :: (a, o) :: r)) : a < b := h.2.2.2.2.2.1
theorem lt_6 {q0 q1 q2 q3 q4 q5 : Addr × Obj} {a b : Nat} {o : Obj} {r : List (Addr × Obj)} (h : AllLt b (q0 :: q1 :: q2 :: q3 :: q4 :: q5 :: (a, o) :: r)) : a < b := h.2.2.2.2.2.2.1
theorem lt_7 {q0 q1 q2 q3 q4 q5 q6 : Addr × Obj} {a b : Nat} {o : Obj} {r : List (Addr × Obj)} (h : AllLt b (q0 :: q1 :: q2 :: q3 :: q4 :: q5 :: q6 :: (a, o) :: r)) : a < b := h.2.2.2.2.2.2.2.1
theorem dr8 {q0 q1 q2 q3 q4 q5 q6 q7 : Addr × Obj} {b : Nat} {r : List (Addr × Obj)} (h : AllLt b (q0 :: q1 :: q2 :: q3 :: q4 :: q5 :: q6 :: q7 :: r)) : AllLt b r := h.2.2.2.2.2.2.2.2
theorem nd_0 {P Q R S : Prop} (h : (P ∧ Q ∧ R) ∧ S) : P := h.1.1
theorem nd_1 {P Q R S : Prop} (h : (Q ∧ P ∧ R) ∧ S) : P := h.1.2.1
theorem nd_2 {P Q R S : Prop} (h : (Q ∧ R ∧ P) ∧ S) : P := h.1.2.2
theorem nd_3 {P Q R S T : Prop} (h : S ∧ (P ∧ Q ∧ R) ∧ T) : P := h.2.1.1
theorem nd_4 {P Q R S T : Prop} (h : S ∧ (Q ∧ P ∧ R) ∧ T) : P := h.2.1.2.1
theorem nd_5 {P Q R S T : Prop} (h : S ∧ (Q ∧ R ∧ P) ∧ T) : P := h.2.1.2.2
theorem nd_6 {P Q R S T : Prop} (h : S ∧ T ∧ P ∧ Q ∧ R) : P := h.2.2.1
theorem nd_7 {P Q R S T : Prop} (h : S ∧ T ∧ Q ∧ P ∧ R) : P := h.2.2.2.1
theorem nd_8 {P Q R S T : Prop} (h : S ∧ T ∧ Q ∧ R ∧ P) : P := h.2.2.2.2
theorem range_len {n : Int} (h : 0 ≤ n) : Builtin.Range.rangeSize 0 n 1 = n := by
  unfold Builtin.Range.rangeSize
  rw [if_pos (by decide)]
  split
  · rw [Int.sub_zero, Int.ediv_one, Int.sub_add_cancel]
  · rename_i h'; exact Int.le_antisymm h (Int.not_lt.mp h')
theorem range_lenN (n : Nat) : Builtin.Range.rangeSize 0 (n : Int) 1 = (n : Int) := range_len (Int.natCast_nonneg n)
theorem range_sm {n : Int} (h : 0 ≤ n) (h' : n ≤ 16384) : Builtin.Range.small 0 n 1 = true := small_one (by omega) (by omega) (by omega) (by omega)
theorem range_smN {n : Nat} (h : n ≤ 16384) : Builtin.Range.small 0 (n : Int) 1 = true := range_sm (Int.natCast_nonneg n) (Int.ofNat_le.mpr h)
theorem neg1_toNat {n : Nat} (h : 0 < n) : (-1 + (n : Int)).toNat = n - 1 := by
  cases n with
  | zero => exact absurd h (Nat.lt_irrefl 0)
  | succ m =>
    have e : (-1 + ((m + 1 : Nat) : Int)) = (m : Int) := by rw [Int.natCast_succ, Int.add_comm (m : Int) 1, Int.neg_add_cancel_left]
    rw [e]; rfl
theorem len16 {n : Nat} (h : n ≤ 1000) : n ≤ 16384 := Nat.le_trans h (by decide)
theorem a_fold {M : Model} {A : Around} {tree : Sem Flow} {Q : Flow → Shared → Prop} {E : Value → Shared → Prop} {s : Shared} (h : let A' := A; wpAny M A' tree Q E s) : wpAny M A tree Q E s := h
theorem e_fold {M : Model} {A : Around} {b : List Stmt} {e : Env} {Q : Flow → Shared → Prop} {E : Value → Shared → Prop} {s : Shared} (h : let A' := A; let e' := e; wpAny M A' (execs b e') Q E s) : wpAny M A (execs b e) Q E s := h
end

open PySem PySem.W PyProof.Rows PySem.Calls
local macro_rules | `(tactic| walk_at $s:str) => `(tactic| k_extra $s)
local macro_rules | `(tactic| k_ne) => `(tactic| k_extra "ne")
set_option hygiene false in
local macro_rules | `(tactic| ktr_room) => `(tactic| first | exact rmk 1 hd rfl | exact rm0 hd)
set_option hygiene false in
local macro_rules | `(tactic| ktr_units) => `(tactic| exact rmk 3 hu rfl)
local macro_rules | `(tactic| k_lt $h:ident) => `(tactic| (replace $h := allLt_of $h))

section
set_option maxHeartbeats 4000000
open PySem PySem.W PyProof.Rows PySem.Calls PySem.Spec PySem.Builtin
noncomputable abbrev tupOf (vs : List Value) : Obj := { cls := .type "tuple", data := .seq vs.toArray }

theorem noFill_tuple_mul : fillsNumberSlot (.type "tuple") "mul" = pure false :=
  PySem.fillsNumberSlot_seq (id := "tuple.__mul__") (r := some (.builtin "tuple.__rmul__")) F.slot_tuple_mul.lookup (by decide +kernel) F.slot_tuple_rmul.lookup (by decide +kernel)
theorem repeat_tuple : seqRepeat? (.type "tuple") = pure (some (.builtin "tuple.__mul__")) := by
  unfold seqRepeat?
  rw [PySem.seqSlot_of (T := "tuple") (name := "__mul__") (id := "tuple.__mul__") F.slot_tuple_mul.lookup (by decide +kernel), PySem.seqSlot_of (T := "tuple") (name := "__rmul__") (id := "tuple.__rmul__") F.slot_tuple_rmul.lookup (by decide +kernel)]
  rfl
theorem int_rmul_tuple (a : Int) (t : Tok) (l : Addr) (items : Array Value) (n : Nat) :
    Meets (Builtin.«int.__rmul__» ⟨[.int a t, .ref l], []⟩) (fun _ R s => s.heap.get? l = some { cls := .type "tuple", dict := none, data := .seq items n, slots := #[] } ∧ R (.ok (.ret Value.notImplemented)) s) :=
  .of_wp fun prog w A R s h => by obtain ⟨hp, g, d, tk, os⟩ := s; obtain ⟨hl, h⟩ := h; wp_walk; exact ⟨_, rfl, h⟩
theorem flat_rep (k : Nat) (items : List Value) : (List.foldl (fun x1 x2 => x1 ++ x2) #[] (List.replicate k items.toArray)) = (List.replicate k items).flatten.toArray := by
  have h : ∀ (k : Nat) (a : List Value), List.foldl (fun x1 x2 => x1 ++ x2) a.toArray (List.replicate k items.toArray) = (a ++ (List.replicate k items).flatten).toArray := by
    intro k
    induction k with
    | zero => intro a; simp
    | succ k ih => intro a; rw [List.replicate_succ, List.foldl_cons, List.replicate_succ, List.flatten_cons]; have := ih (a ++ items); simp at this ⊢; rw [this]
  simpa using h k []
theorem tuple_mul (l : Addr) (items : List Value) (n : Nat) (x : Int) (u : Tok) (h1 : x ≠ 1) (h2 : 0 ≤ x) (h3 : x < 1000) (h4 : items.length ≤ 1000) (h5 : 0 < items.length) :
    Meets (Builtin.«tuple.__mul__» ⟨[.ref l, .int x u], []⟩) (fun _ R s => s.heap.get? l = some { cls := .type "tuple", dict := none, data := .seq items.toArray n, slots := #[] } ∧ R (.ok (.ret (Value.ref s.heap.objs.size))) { s with heap := s.heap.push (tupOf (List.replicate x.toNat items).flatten), toks := s.toks }) :=
  .of_wp fun prog w A R s h => by
    obtain ⟨hp, g, d, tk, os⟩ := s; obtain ⟨hl, h⟩ := h
    have hp' : (items.length : Int) * x ≤ 1000 * 1000 := Int.mul_le_mul (by omega) (by omega) (by omega) (by omega)
    have hne : items.isEmpty = false := by cases items with | nil => simp at h5 | cons => rfl
    have hz : (List.foldl (fun x1 x2 => x1 ++ x2) #[] (List.replicate x.toNat items.toArray)).size ≤ sizeLine := by
      rw [flat_rep, List.size_toArray, List.length_flatten, List.map_replicate, List.sum_replicate_nat, sizeLine_eq]
      have h7 : ((x.toNat * items.length : Nat) : Int) = x.toNat * items.length := by simp
      have : (x.toNat : Int) * items.length ≤ 1000 * 1000 := Int.mul_le_mul (by omega) (by omega) (by omega) (by omega)
      omega
    by_cases h0 : x = 0
    · subst h0
      wp_walk
      exact ⟨_, rfl, by simpa using h⟩
    · wp_walk
      refine wpAny_ite_false (by simp; omega) ?_
      wp_walk
      refine wpAny_ite_false (by simp [hne]; omega) ?_
      wp_walk
      refine wpAny_ite_false (by simp; omega) ?_
      wp_walk
      refine wpAny_ite_false (by simp [Tuple.tupleTooMany, sizeLine]; omega) ?_
      wp_walk
      refine ⟨_, rfl, ?_⟩
      rw [flat_rep]
      exact h
section
variable {prog : Program} {w : World} {A : Around} {E : Value → Shared → Prop} {s : Shared} {h₀ : Heap} {L : Addr} {m : Str → Option Value} {news : List (Addr × Obj)} {l : Addr} {vs ws : List Value} {x : Int} {u : Tok} {Q : Value → Shared → Prop} {n : Nat}
theorem tup_mul_K (Fm : Fr h₀ L s.heap m) (N : News h₀ L s.heap news) (hl : (l, ({ cls := .type "tuple", data := .seq vs.toArray n } : Obj)) ∈ news) (h1 : x ≠ 1) (h2 : 0 ≤ x) (h3 : x < 1000) (h4 : vs.length ≤ 1000) (h5 : 0 < vs.length) (e : (List.replicate x.toNat vs).flatten = ws)
    (h : ∀ D h', Fr h₀ L h' m → News h₀ L h' ((D, tupOf ws) :: news) → (∀ p ∈ news, p.1 < D) → Q (.ref D) { s with heap := h' }) : wpAny (model prog w) A (binaryOp .Mult (.ref l) (.int x u)) Q E s := by
  subst e
  have ho := (N _ hl).1
  refine wpAny_binaryOp_repeat_ref (T := "tuple") (U := "int") (by decide) ⟨_, ho, rfl⟩ (fun s' => typeIs_int s' x u) noFill_tuple_mul F.fills_int_mul F.slot_int_rmul repeat_tuple F.slot_int_index.lookup
    (call_meets F.slot_int_rmul (typeIs_int s x u) F.entry_int_rmul (F.args_int_rmul_2 _ _) (int_rmul_tuple x u l vs.toArray n)
      ⟨ho, rfl, ⟨_, ho, rfl⟩, call_meets F.slot_tuple_mul ⟨_, ho, rfl⟩ F.entry_tuple_mul (F.args_tuple_mul_2 _ _) (tuple_mul l vs n x u h1 h2 h3 h4 h5) ⟨ho, ?_⟩⟩)
  exact h _ _ (Fm.push _) (News.push Fm N _) (fun p hp => Heap.lt_size (N p hp).1)
end
end

section
set_option maxHeartbeats 4000000
open PySem PySem.W PyProof.Rows PySem.Calls PySem.Spec
noncomputable abbrev Ext (h h' : Heap) : Prop := ∀ b o, h.get? b = some o → h'.get? b = some o
theorem fr_ext {h₀ h h' : Heap} {L : Addr} {m : Str → Option Value} (F : Fr h₀ L h m) (e : Ext h h') : Fr h₀ L h' m := ⟨F.ns.keeps e, fun b o q => e b o (F.keep b o q), F.above⟩
theorem news_ext {h₀ h h' : Heap} {L : Addr} {news : List (Addr × Obj)} (N : News h₀ L h news) (e : Ext h h') : News h₀ L h' news := fun p hp => ⟨e _ _ (N p hp).1, (N p hp).2⟩

section
variable {prog : Program} {w : World} {A A₀ : Around} {E : Value → Shared → Prop} {s : Shared} {K : Frag} {C L : Addr} {h₀ base : Heap} {m mg mb : Str → Option Value} {led : List (Addr × Obj)} {p : Program} {loose : List Str} {mean : ExcName → Option Value} {Q : Value → Shared → Prop}

theorem code_defE {env : Env} {outer : List Env} {R : Result → Shared → Prop} {name qual : Str} {params : Arguments} {body : List Stmt} {scope : Scope} {dV kV doc pm cdv ct oc : Value} {an od : Option Addr} {osl : Array (Option Value)} {f : Addr} {args : Args} {binds : List (Str × Value)}
    (B : Below A₀ base outer h₀) (F : Fr h₀ L s.heap m) (X₀ : K.In h₀) (N : News h₀ L s.heap led) (T : Top p loose mean mg mb h₀) (hA : A.frames = some (env :: outer)) (hf : env.frame = some L) (hke : env.scope.kind = .function)
    (ho : K.lookup f = some ⟨oc, od, .func (fnOf name qual params body scope dV kV doc pm an cdv ct), osl⟩) (hcd : codeIn K cdv qual = true) (hroom : A.depth < recursionLimit)
    (hbind : BindsTo s (fnOf name qual params body scope dV kV doc pm an cdv ct) args binds) (hloc : ∀ y ∈ binds, scope.names.lookup y.1 = some .local)
    (h : ∀ g L' h₁, (∀ b o, s.heap.get? b = some o → b ∉ led.map (·.1) → g.get? b = some o) → Fr g L' h₁ (fun y => binds.reverse.lookup y) → News g L' h₁ led → Below A base (env :: outer) g → K.In g → Top p loose mean mg mb g →
      wpAny (model prog w) (A.deeper (envOf qual scope L' f cdv)) (execs body (envOf qual scope L' f cdv))
        (fun fl s' => LeaveK h₀ L m g R (match fl with | .ret v => v | _ => .none) s')
        (fun e s' => wpAny (model prog w) (A.deeper (envOf qual scope L' f cdv)) (leaving (envOf qual scope L' f cdv) e) (fun _ s'' => R (.error e) s'') (fun e' s'' => R (.error e') s'') s')
        { s with heap := h₁, toks := s.toks + binds.length })
    (hco : scope.isCoroutine = false) (hgen : scope.isGenerator = false) (hk : scope.kind = .function)
    (hcell : ∀ x ∈ scope.names, x.2 ≠ .cell) : codeAny (model prog w) A (.call (.ref f) args) R s := by
  obtain ⟨FG, BG, st, lv⟩ := groundX (R := R) B F N hA hf hke
  refine codeAny_call_def (fd := fnX name qual params body scope [] dV kV doc pm an cdv ct) (body := body) (binds := binds) hroom ((X₀.keeps F.keep) _ _ ho) rfl (T.nolimit.keeps F.keep) (codeRec_of (X₀.keeps F.keep) hcd) rfl hbind hcell hloc (fun h₁ hns hk₁ => ?_) hco hgen hk
  exact wpAny_mono (h _ s.heap.objs.size h₁ (fun b o e n => hideAll_get _ e n) ⟨hns, fun b o e => hk₁ b o (of_hideAll _ e), Nat.le_of_eq (hideAll_size _ _)⟩
    (fun p hp => ⟨hk₁ _ _ (N p hp).1, Nat.ne_of_lt (Heap.lt_size (N p hp).1), hideAll_none _ (List.mem_map_of_mem hp)⟩) BG (X₀.keeps st) (T.keeps st)) (fun fl s' hl => lv _ _ hl) fun _ _ y => y

theorem code_def0 {env : Env} {outer : List Env} {R : Result → Shared → Prop} {name qual : Str} {params : Arguments} {body : List Stmt} {scope : Scope} {dV kV doc pm cdv ct oc : Value} {an od : Option Addr} {osl : Array (Option Value)} {f : Addr} {args : Args} {binds : List (Str × Value)}
    (B : Below A₀ base outer h₀) (F : Fr h₀ L s.heap m) (X₀ : K.In h₀) (T : Top p loose mean mg mb h₀) (hA : A.frames = some (env :: outer)) (hf : env.frame = some L) (hke : env.scope.kind = .function)
    (ho : K.lookup f = some ⟨oc, od, .func (fnOf name qual params body scope dV kV doc pm an cdv ct), osl⟩) (hcd : codeIn K cdv qual = true) (hroom : A.depth < recursionLimit)
    (hbind : BindsTo s (fnOf name qual params body scope dV kV doc pm an cdv ct) args binds) (hloc : ∀ y ∈ binds, scope.names.lookup y.1 = some .local)
    (h : ∀ g L' h₁, Ext s.heap g → Fr g L' h₁ (fun y => binds.reverse.lookup y) → News g L' h₁ [] → Below A base (env :: outer) g → K.In g → Top p loose mean mg mb g →
      wpAny (model prog w) (A.deeper (envOf qual scope L' f cdv)) (execs body (envOf qual scope L' f cdv))
        (fun fl s' => LeaveK h₀ L m g R (match fl with | .ret v => v | _ => .none) s')
        (fun e s' => wpAny (model prog w) (A.deeper (envOf qual scope L' f cdv)) (leaving (envOf qual scope L' f cdv) e) (fun _ s'' => R (.error e) s'') (fun e' s'' => R (.error e') s'') s')
        { s with heap := h₁, toks := s.toks + binds.length })
    (hco : scope.isCoroutine = false) (hgen : scope.isGenerator = false) (hk : scope.kind = .function)
    (hcell : ∀ x ∈ scope.names, x.2 ≠ .cell) : codeAny (model prog w) A (.call (.ref f) args) R s :=
  code_defE (led := []) B F X₀ News.nil T hA hf hke ho hcd hroom hbind hloc (fun g L' h₁ hG => h g L' h₁ (fun b o e => hG b o e (fun hm => nomatch hm))) hco hgen hk hcell
end

/-- a pure call: what stood stands; `pre` of the heap ahead, `post` of the heap behind and the value -/
noncomputable def PureC (w : World) (f dep un8 : Nat) (args : List Value) (pre : Heap → Prop) (post : Heap → Value → Prop) : Prop :=
  ∀ {loose : List Str} {mean : ExcName → Option Value} {mg mb : Str → Option Value} {dp un : Nat} {gd : Option (List Code)} {cn : Str} {cs : Scope} {a : Addr} {ccd : Value} {cl : List (Str × Addr)} {outer : List Env} {A₀ : Around} {base h₀ : Heap} {L : Addr} {m : Str → Option Value} {s : Shared}
    {Q E : Value → Shared → Prop}, Below A₀ base outer h₀ → Fr h₀ L s.heap m → (Mine.K w.params).In h₀ → Top Mine.vq loose mean mg mb h₀ → cs.kind = .function →
    pre s.heap → dp + dep < recursionLimit → un + un8 < cLine →
    (∀ v h' tk', Ext s.heap h' → post h' v → Q v { s with heap := h', toks := tk' }) →
    wpAny (model PySem.Challenge.rw_nn0217_01.row.prog w) (ktrTop dp un gd cn cs L a ccd cl outer) (call (.ref f) args) Q E s

/-- the kinds of the program's objects -/
inductive Kd where
  | null | truth | int | real | name | string | array | dict | stream | ref
  deriving DecidableEq

noncomputable def Kd.text : Kd → Str
  | .null => Str.ofString "null" | .truth => Str.ofString "truth" | .int => Str.ofString "int" | .real => Str.ofString "real"
  | .name => Str.ofString "name" | .string => Str.ofString "string" | .array => Str.ofString "array" | .dict => Str.ofString "dict"
  | .stream => Str.ofString "stream" | .ref => Str.ofString "ref"
noncomputable def Kd.cls : Kd → Value
  | .null => .type "NoneType" | .truth => .type "bool" | .int => .type "int" | .real => .ref 143
  | .name => .ref 171 | .string => .ref 193 | .array => .type "list" | .dict => .type "dict"
  | .stream => .ref 214 | .ref => .ref 242

inductive KAt (h : Heap) : Value → Kd → Prop where
  | null : KAt h .none .null
  | truth {b : Bool} : KAt h (.bool b) .truth
  | int {i : Int} {t : Tok} : KAt h (.int i t) .int
  | inst {a dx C : Addr} {k : Kd} {od : Obj} : k.cls = .ref C → h.get? a = some (instObj C dx) → h.get? dx = some od → KAt h (.ref a) k
  | array {a : Addr} {o : Obj} : h.get? a = some o → o.cls = .type "list" → KAt h (.ref a) .array
  | dict {a : Addr} {o : Obj} : h.get? a = some o → o.cls = .type "dict" → KAt h (.ref a) .dict
theorem KAt.ext {h h' : Heap} {v : Value} {k : Kd} (x : KAt h v k) (e : Ext h h') : KAt h' v k := by
  cases x with
  | null => exact .null
  | truth => exact .truth
  | int => exact .int
  | inst a b c => exact .inst a (e _ _ b) (e _ _ c)
  | array a b => exact .array (e _ _ a) b
  | dict a b => exact .dict (e _ _ a) b

noncomputable def Kd.isa (P : Params) (k : Kd) (c : Value) : Option Bool := kitOne (K P) k.cls c

theorem isi_kind {prog : Program} {w : World} {A : Around} {E : Value → Shared → Prop} {s : Shared} {v c : Value} {k : Kd} {b : Bool} {Q : Value → Shared → Prop} (X : (K w.params).In s.heap) (hv : KAt s.heap v k) (e : k.isa w.params c = some b)
    (h : ∀ tk, Q (.bool b) { s with toks := tk }) : wpAny (model prog w) A (call (.builtin "isinstance") [v, c]) Q E s := by
  cases hv with
  | null => exact kia_one kitx_none X trivial e (fun q => by cases q) h
  | truth => exact kia_one kitx_bool X trivial e (fun q => by cases q) h
  | int => exact kia_one kitx_int X trivial e (fun q => by cases q) h
  | array a q => exact kia_one kitx_list X ⟨_, a, q⟩ e (fun q => by cases q) h
  | dict a q => exact kia_one kitx_dict X ⟨_, a, q⟩ e (fun q => by cases q) h
  | inst hc a d =>
    rename_i a' dx C od
    have I : W.InstAt s.heap a' (instObj C dx) C (some od) := ⟨a, rfl, rfl, d⟩
    unfold Kd.isa at e
    rw [hc] at e
    cases k <;> (first | (cases hc; done) | (cases hc; exact kia_one (kitx_own (by kernel_rfl) (by kernel_rfl) (by kernel_rfl) (by kernel_rfl) (by kernel_rfl) (by kernel_rfl)) X I e (fun q => by cases q) h))

theorem isa_bool (P : Params) (k : Kd) : k.isa P (.type "bool") = some (k == .truth) := by cases k <;> kernel_rfl
theorem isa_int (P : Params) (k : Kd) : k.isa P (.type "int") = some (k == .int || k == .truth) := by cases k <;> kernel_rfl
theorem isa_list (P : Params) (k : Kd) : k.isa P (.type "list") = some (k == .array) := by cases k <;> kernel_rfl
theorem isa_dict (P : Params) (k : Kd) : k.isa P (.type "dict") = some (k == .dict) := by cases k <;> kernel_rfl
theorem isa_143 (P : Params) (k : Kd) : k.isa P (.ref 143) = some (k == .real) := by cases k <;> kernel_rfl
theorem isa_171 (P : Params) (k : Kd) : k.isa P (.ref 171) = some (k == .name) := by cases k <;> kernel_rfl
theorem isa_193 (P : Params) (k : Kd) : k.isa P (.ref 193) = some (k == .string) := by cases k <;> kernel_rfl
theorem isa_214 (P : Params) (k : Kd) : k.isa P (.ref 214) = some (k == .stream) := by cases k <;> kernel_rfl
theorem isa_242 (P : Params) (k : Kd) : k.isa P (.ref 242) = some (k == .ref) := by cases k <;> kernel_rfl
theorem is_none_kind {M : Model} {A : Around} {E : Value → Shared → Prop} {s : Shared} {v : Value} {k : Kd} {Q : Value → Shared → Prop} (hv : KAt s.heap v k) (h : Q (.bool (k == .null)) s) : wpAny M A (compareOp .Is v .none) Q E s := by
  refine is_none_gen ?_
  have e : (v == Value.none) = (k == .null) := by
    cases hv with
    | inst hc => cases k <;> first | rfl | cases hc
    | _ => rfl
  rw [e]; exact h
theorem kt_null {k : Kd} (h : (k == .null) = true) : Str.ofString "null" = k.text := by cases k <;> first | rfl | cases h
theorem kt_truth {k : Kd} (h : (k == .truth) = true) : Str.ofString "truth" = k.text := by cases k <;> first | rfl | cases h
theorem kt_real {k : Kd} (h : (k == .real) = true) : Str.ofString "real" = k.text := by cases k <;> first | rfl | cases h
theorem kt_name {k : Kd} (h : (k == .name) = true) : Str.ofString "name" = k.text := by cases k <;> first | rfl | cases h
theorem kt_string {k : Kd} (h : (k == .string) = true) : Str.ofString "string" = k.text := by cases k <;> first | rfl | cases h
theorem kt_array {k : Kd} (h : (k == .array) = true) : Str.ofString "array" = k.text := by cases k <;> first | rfl | cases h
theorem kt_dict {k : Kd} (h : (k == .dict) = true) : Str.ofString "dict" = k.text := by cases k <;> first | rfl | cases h
theorem kt_stream {k : Kd} (h : (k == .stream) = true) : Str.ofString "stream" = k.text := by cases k <;> first | rfl | cases h
theorem kt_ref {k : Kd} (h : (k == .ref) = true) : Str.ofString "ref" = k.text := by cases k <;> first | rfl | cases h
theorem kt_int {k : Kd} (h : (k == .int || k == .truth) = true) (n : (k == .truth) = false) : Str.ofString "int" = k.text := by
  cases k <;> first | rfl | exact absurd h (by decide) | exact absurd n (by decide)
theorem kt_not {k : Kd} (h1 : (k == .null) = false) (h3 : (k == .int || k == .truth) = false) (h4 : (k == .real) = false) (h5 : (k == .name) = false) (h6 : (k == .string) = false) (h7 : (k == .array) = false) (h8 : (k == .dict) = false) (h9 : (k == .stream) = false) (h10 : (k == .ref) = false) : False := by
  cases k <;> first | exact absurd h1 (by decide) | exact absurd h3 (by decide) | exact absurd h4 (by decide) | exact absurd h5 (by decide) | exact absurd h6 (by decide) | exact absurd h7 (by decide) | exact absurd h8 (by decide) | exact absurd h9 (by decide) | exact absurd h10 (by decide)
end

section
set_option maxHeartbeats 8000000
open PySem PySem.W PyProof.Rows PySem.Calls PySem.Spec

theorem kind_c (w : World) (v : Value) (k : Kd) : PureC w 253 2 16 [v] (fun h => KAt h v k) (fun _ r => ∃ tk, r = .str k.text tk) := by
  k_with_none
  k_with "lt" => first | with_reducible assumption | exact lt_0 (by with_reducible assumption) | exact lt_1 (by with_reducible assumption) | exact lt_2 (by with_reducible assumption) | exact lt_3 (by with_reducible assumption) | exact lt_4 (by with_reducible assumption) | exact lt_5 (by with_reducible assumption) | exact lt_6 (by with_reducible assumption) | exact lt_7 (by with_reducible assumption) | exact lt_0 (dr8 (by with_reducible assumption)) | exact lt_1 (dr8 (by with_reducible assumption)) | exact lt_2 (dr8 (by with_reducible assumption)) | exact lt_3 (dr8 (by with_reducible assumption)) | exact lt_4 (dr8 (by with_reducible assumption)) | exact lt_5 (dr8 (by with_reducible assumption)) | exact lt_6 (dr8 (by with_reducible assumption)) | exact lt_7 (dr8 (by with_reducible assumption)) | exact lt_0 (dr8 (dr8 (by with_reducible assumption))) | exact lt_1 (dr8 (dr8 (by with_reducible assumption))) | exact lt_2 (dr8 (dr8 (by with_reducible assumption))) | exact lt_3 (dr8 (dr8 (by with_reducible assumption))) | exact lt_4 (dr8 (dr8 (by with_reducible assumption))) | exact lt_5 (dr8 (dr8 (by with_reducible assumption))) | exact lt_6 (dr8 (dr8 (by with_reducible assumption))) | exact lt_7 (dr8 (dr8 (by with_reducible assumption))) | exact lt_0 (dr8 (dr8 (dr8 (by with_reducible assumption)))) | exact lt_1 (dr8 (dr8 (dr8 (by with_reducible assumption)))) | exact lt_2 (dr8 (dr8 (dr8 (by with_reducible assumption)))) | exact lt_3 (dr8 (dr8 (dr8 (by with_reducible assumption)))) | exact lt_4 (dr8 (dr8 (dr8 (by with_reducible assumption)))) | exact lt_5 (dr8 (dr8 (dr8 (by with_reducible assumption)))) | exact lt_6 (dr8 (dr8 (dr8 (by with_reducible assumption)))) | exact lt_7 (dr8 (dr8 (dr8 (by with_reducible assumption)))) | exact lt_0 (dr8 (dr8 (dr8 (dr8 (by with_reducible assumption))))) | exact lt_1 (dr8 (dr8 (dr8 (dr8 (by with_reducible assumption))))) | exact lt_2 (dr8 (dr8 (dr8 (dr8 (by with_reducible assumption))))) | exact lt_3 (dr8 (dr8 (dr8 (dr8 (by with_reducible assumption))))) | exact lt_4 (dr8 (dr8 (dr8 (dr8 (by with_reducible assumption))))) | exact lt_5 (dr8 (dr8 (dr8 (dr8 (by with_reducible assumption))))) | exact lt_6 (dr8 (dr8 (dr8 (dr8 (by with_reducible assumption))))) | exact lt_7 (dr8 (dr8 (dr8 (dr8 (by with_reducible assumption)))))
  k_with "nd" => first | exact nd_0 (by with_reducible assumption) | exact nd_1 (by with_reducible assumption) | exact nd_2 (by with_reducible assumption) | exact nd_3 (by with_reducible assumption) | exact nd_4 (by with_reducible assumption) | exact nd_5 (by with_reducible assumption) | exact nd_6 (by with_reducible assumption) | exact nd_7 (by with_reducible assumption) | exact nd_8 (by with_reducible assumption)
  k_with "ne" => (refine neN ?_; (try dsimp only); first | with_reducible assumption | exact Ne.symm (by with_reducible assumption) | (refine ne_z ?_; k_extra "lt") | (refine ne_s ?_; k_extra "lt") | (refine ne_zz (by with_reducible assumption) ?_; k_extra "lt") | (refine ne_ss (by with_reducible assumption) ?_; k_extra "lt") | k_extra "nd" | (dsimp only [AllLt] at *; omega))
  k_with "call builtin:isinstance" => (k_here; k_dflt (refine' isi_kind ?zzX ?zzV ?zze ?_; (case zzX => k_in); (case zzV => exact KAt.ext (by assumption) (Fr.keep (by k_asm))); (case zze => first | exact isa_bool _ _ | exact isa_int _ _ | exact isa_list _ _ | exact isa_dict _ _ | exact isa_143 _ _ | exact isa_171 _ _ | exact isa_193 _ _ | exact isa_214 _ _ | exact isa_242 _ _); k_whole); intro tk')
  k_with "compareOp Is" => (k_here; k_dflt (refine' is_none_kind ?zzV ?_; (case zzV => exact KAt.ext (by assumption) (Fr.keep (by k_asm))); k_whole))
  unfold PureC
  k_fill
  intro loose mean mg mb dp un gd cn cs a ccd cl outer A₀ base h₀ L m s Q E B F X T hk hv hd hu hret
  refine wpAny_call ?_
  k_dflt (refine' code_def0 ?k1 ?k2 ?k3 ?k5 ?kA ?kF ?kK ?k6 ?k7 ?k8 ?k9 ?kB ?_ ?c2 ?c3 ?c4 ?c5; (case kA => exact rfl); (case kF => exact rfl); (case kK => assumption); (case k1 => k_asm); (case k2 => k_asm); (case k3 => k_asm); (case k5 => k_asm); (case k6 => k_is); (case k7 => k_is); (case k8 => ktr_room); (case k9 => exact BindsTo.of_eq rfl); (case c5 => decide); (case kB => exact locs rfl); (case c2 => exact rfl); (case c3 => exact rfl); (case c4 => exact rfl); k_whole; intro g' L' h' HE' F' N' B' X' T'; (try dsimp only); (try k_fold))
  have hv' := hv.ext HE'
  clear hv
  k_steps
  all_goals first
    | exact hret _ _ _ (fun b o e => Fr.keep (by assumption) b o (HE' b o e)) ⟨_, congrArg (Value.str · _) (by first | exact kt_null (by assumption) | exact kt_truth (by assumption) | exact kt_int (by assumption) (by assumption) | exact kt_real (by assumption) | exact kt_name (by assumption) | exact kt_string (by assumption) | exact kt_array (by assumption) | exact kt_dict (by assumption) | exact kt_stream (by assumption) | exact kt_ref (by assumption))⟩
    | exact (kt_not (by assumption) (by assumption) (by assumption) (by assumption) (by assumption) (by assumption) (by assumption) (by assumption) (by assumption)).elim
    | trace_state
end

section
set_option maxHeartbeats 8000000
open PySem PySem.W PyProof.Rows PySem.Calls PySem.Spec

theorem number_c (w : World) (v : Value) (k : Kd) : PureC w 260 4 32 [v] (fun h => KAt h v k) (fun _ r => r = .bool (k == .int || k == .real)) := by
  k_with_none
  k_with "lt" => first | with_reducible assumption | exact lt_0 (by with_reducible assumption) | exact lt_1 (by with_reducible assumption) | exact lt_2 (by with_reducible assumption) | exact lt_3 (by with_reducible assumption) | exact lt_4 (by with_reducible assumption) | exact lt_5 (by with_reducible assumption) | exact lt_6 (by with_reducible assumption) | exact lt_7 (by with_reducible assumption) | exact lt_0 (dr8 (by with_reducible assumption)) | exact lt_1 (dr8 (by with_reducible assumption)) | exact lt_2 (dr8 (by with_reducible assumption)) | exact lt_3 (dr8 (by with_reducible assumption)) | exact lt_4 (dr8 (by with_reducible assumption)) | exact lt_5 (dr8 (by with_reducible assumption)) | exact lt_6 (dr8 (by with_reducible assumption)) | exact lt_7 (dr8 (by with_reducible assumption)) | exact lt_0 (dr8 (dr8 (by with_reducible assumption))) | exact lt_1 (dr8 (dr8 (by with_reducible assumption))) | exact lt_2 (dr8 (dr8 (by with_reducible assumption))) | exact lt_3 (dr8 (dr8 (by with_reducible assumption))) | exact lt_4 (dr8 (dr8 (by with_reducible assumption))) | exact lt_5 (dr8 (dr8 (by with_reducible assumption))) | exact lt_6 (dr8 (dr8 (by with_reducible assumption))) | exact lt_7 (dr8 (dr8 (by with_reducible assumption))) | exact lt_0 (dr8 (dr8 (dr8 (by with_reducible assumption)))) | exact lt_1 (dr8 (dr8 (dr8 (by with_reducible assumption)))) | exact lt_2 (dr8 (dr8 (dr8 (by with_reducible assumption)))) | exact lt_3 (dr8 (dr8 (dr8 (by with_reducible assumption)))) | exact lt_4 (dr8 (dr8 (dr8 (by with_reducible assumption)))) | exact lt_5 (dr8 (dr8 (dr8 (by with_reducible assumption)))) | exact lt_6 (dr8 (dr8 (dr8 (by with_reducible assumption)))) | exact lt_7 (dr8 (dr8 (dr8 (by with_reducible assumption)))) | exact lt_0 (dr8 (dr8 (dr8 (dr8 (by with_reducible assumption))))) | exact lt_1 (dr8 (dr8 (dr8 (dr8 (by with_reducible assumption))))) | exact lt_2 (dr8 (dr8 (dr8 (dr8 (by with_reducible assumption))))) | exact lt_3 (dr8 (dr8 (dr8 (dr8 (by with_reducible assumption))))) | exact lt_4 (dr8 (dr8 (dr8 (dr8 (by with_reducible assumption))))) | exact lt_5 (dr8 (dr8 (dr8 (dr8 (by with_reducible assumption))))) | exact lt_6 (dr8 (dr8 (dr8 (dr8 (by with_reducible assumption))))) | exact lt_7 (dr8 (dr8 (dr8 (dr8 (by with_reducible assumption)))))
  k_with "nd" => first | exact nd_0 (by with_reducible assumption) | exact nd_1 (by with_reducible assumption) | exact nd_2 (by with_reducible assumption) | exact nd_3 (by with_reducible assumption) | exact nd_4 (by with_reducible assumption) | exact nd_5 (by with_reducible assumption) | exact nd_6 (by with_reducible assumption) | exact nd_7 (by with_reducible assumption) | exact nd_8 (by with_reducible assumption)
  k_with "ne" => (refine neN ?_; (try dsimp only); first | with_reducible assumption | exact Ne.symm (by with_reducible assumption) | (refine ne_z ?_; k_extra "lt") | (refine ne_s ?_; k_extra "lt") | (refine ne_zz (by with_reducible assumption) ?_; k_extra "lt") | (refine ne_ss (by with_reducible assumption) ?_; k_extra "lt") | k_extra "nd" | (dsimp only [AllLt] at *; omega))
  k_with "call ref" => (k_here; (with_reducible show wpAny _ _ (call (Value.ref 253) [_]) _ _ _); k_dflt (refine' kind_c _ _ _ ?zzB ?zzF ?zzX ?zzT ?zzhk ?zzpre ?zzdd ?zzuu ?_; (case zzB => k_asm); (case zzF => k_asm); (case zzX => k_asm); (case zzT => k_asm); (case zzhk => first | exact rfl | assumption); (case zzpre => exact KAt.ext (by assumption) (Fr.keep (by k_asm))); (case zzdd => ktr_room); (case zzuu => ktr_units)); intro v' h' tk' e' p'; (have F' := fr_ext (by k_asm) e'); (have N' := news_ext (by k_asm) e'); (try dsimp only at p'); (try k_sweep); obtain ⟨tk'', e''⟩ := p'; subst e'')
  unfold PureC
  k_fill
  intro loose mean mg mb dp un gd cn cs a ccd cl outer A₀ base h₀ L m s Q E B F X T hk hpre hd hu hret
  refine wpAny_call ?_
  k_dflt (refine' code_def0 ?k1 ?k2 ?k3 ?k5 ?kA ?kF ?kK ?k6 ?k7 ?k8 ?k9 ?kB ?_ ?c2 ?c3 ?c4 ?c5; (case kA => exact rfl); (case kF => exact rfl); (case kK => first | assumption | exact rfl); (case k1 => k_asm); (case k2 => k_asm); (case k3 => k_asm); (case k5 => k_asm); (case k6 => k_is); (case k7 => k_is); (case k8 => ktr_room); (case k9 => first | exact BindsTo.of_eq rfl | exact binds_K (by k_in) rfl (by k_is) rfl rfl rfl); (case c5 => decide); (case kB => exact locs rfl); (case c2 => exact rfl); (case c3 => exact rfl); (case c4 => exact rfl); k_whole; intro g' L' h' HE' F' N' B' X' T'; (try dsimp only); (try k_fold); (first | (refine e_fold ?_; intro A9 e9) | (refine a_fold ?_; intro A9) | skip))
  have hv' := hpre.ext HE'
  clear hpre
  k_steps
  exact hret _ _ _ (fun b o e => Fr.keep (by assumption) b o (HE' b o e)) (congrArg Value.bool (by cases k <;> decide +kernel))
end

section
set_option maxHeartbeats 4000000
open PySem PySem.W PyProof.Rows PySem.Calls PySem.Spec
section
variable {prog : Program} {w : World} {A : Around} {E : Value → Shared → Prop} {s : Shared} {l b : Addr} {vs : List Value} {Q : Value → Shared → Prop}
theorem lst_ne_nil (hl : s.heap.IsList l vs.toArray) (hb : s.heap.IsList b #[]) (hu : A.units < cLine) (h : Q (.bool (!vs.isEmpty)) s) : wpAny (model prog w) A (compareOp .NotEq (.ref l) (.ref b)) Q E s := by
  show wpAny (model prog w) A (richCompare .NotEq (.ref l) (.ref b)) Q E s
  cases vs with
  | nil => exact (SeqAt.RcNeAt.lists (e := fun _ => true) hl hb rfl hu (fun j h1 => absurd h1 (Nat.not_lt_zero _))) prog w E Q h
  | cons v r => exact (SeqAt.RcNeAt.lists_lengths hl hb (by simp) hu) prog w E Q h
theorem lst_eq_nil (hl : s.heap.IsList l vs.toArray) (hb : s.heap.IsList b #[]) (hu : A.units < cLine) (h : Q (.bool vs.isEmpty) s) : wpAny (model prog w) A (compareOp .Eq (.ref l) (.ref b)) Q E s := by
  show wpAny (model prog w) A (richCompare .Eq (.ref l) (.ref b)) Q E s
  cases vs with
  | nil => exact (SeqAt.RcAt.lists (e := fun _ => true) hl hb rfl hu (fun j h1 => absurd h1 (Nat.not_lt_zero _))) prog w E Q h
  | cons v r => exact (SeqAt.RcAt.lists_lengths hl hb (by simp) hu) prog w E Q h
end
/-- lists of values of kinds -/
inductive KsAt (h : Heap) : List Value → List Kd → Prop where
  | nil : KsAt h [] []
  | cons {v : Value} {k : Kd} {vs : List Value} {ks : List Kd} : KAt h v k → KsAt h vs ks → KsAt h (v :: vs) (k :: ks)
theorem KsAt.ext {h h' : Heap} {vs : List Value} {ks : List Kd} (x : KsAt h vs ks) (e : Ext h h') : KsAt h' vs ks := by
  induction x with
  | nil => exact .nil
  | cons a _ ih => exact .cons (a.ext e) ih
theorem KsAt.length {h : Heap} {vs : List Value} {ks : List Kd} (x : KsAt h vs ks) : vs.length = ks.length := by
  induction x with
  | nil => rfl
  | cons a _ ih => simp [ih]
theorem KsAt.get {h : Heap} {vs : List Value} {ks : List Kd} (x : KsAt h vs ks) : ∀ (i : Nat) (v : Value), vs[i]? = some v → ∃ k, ks[i]? = some k ∧ KAt h v k := by
  induction x with
  | nil => intro i v e; simp at e
  | cons a _ ih =>
    intro i v e
    cases i with
    | zero => simp at e; subst e; exact ⟨_, rfl, a⟩
    | succ i => simpa using ih i v (by simpa using e)
theorem KsAt.dropLast {h : Heap} {vs : List Value} {ks : List Kd} (x : KsAt h vs ks) : KsAt h vs.dropLast ks.dropLast := by
  induction x with
  | nil => exact .nil
  | cons a b ih =>
    cases b with
    | nil => exact .nil
    | cons c d => exact .cons a ih
theorem KsAt.last {h : Heap} {vs : List Value} {ks : List Kd} (x : KsAt h vs ks) (hne : vs.isEmpty = false) : KAt h (vs.getLastD .none) (ks.getLastD .null) := by
  induction x with
  | nil => cases hne
  | cons a b ih =>
    cases b with
    | nil => exact a
    | cons c d => simpa [List.getLastD] using ih rfl
section
variable {prog : Program} {w : World} {A : Around} {E : Value → Shared → Prop} {s : Shared} {l b : Addr} {vs : List Value} {Q : Value → Shared → Prop}
theorem item_last {value slice : PySem.Expr} {u : Tok} (hl : s.heap.IsList l vs.toArray) (hne : vs.isEmpty = false) (hz : vs.length ≤ 1000) (h : Q (vs.getLastD .none) s)
    (hs : subscripted slice false (.ref l) (.int (-1) u) = operate [.ref l, .int (-1) u] (getItem (.ref l) (.int (-1) u)) := by with_unfolding_all rfl) :
    wpAny (model prog w) A (subscriptTail value slice (.ref l) (.int (-1) u)) Q E s := by
  have hn : vs ≠ [] := by intro e; subst e; cases hne
  have hp : 0 < vs.length := List.length_pos_iff.mpr hn
  refine kde_neg (j := vs.length - 1) (v := vs.getLastD .none) hl (by decide) (by decide) ?_ ?_ h hs
  · unfold seqIndex?
    have e1 : (-1 : Int) < 0 := by decide
    simp only [e1, if_true]
    have e2 : (decide (0 ≤ -1 + (vs.length : Int)) && decide (-1 + (vs.length : Int) < vs.length)) = true := by simp; omega
    rw [if_pos e2]
    rw [neg1_toNat hp]
  · rw [← List.getLast?_eq_getElem?, List.getLast?_eq_some_getLast hn, List.getLastD_eq_getLast?, List.getLast?_eq_some_getLast hn]
    rfl
end
theorem pick_init (vs : List Value) : kms_pick vs.toArray.toList none (some (-1)) = vs.dropLast := by
  show (vs.drop 0).take (kms_hi (some (-1)) vs.length - 0) = _
  have : kms_hi (some (-1)) vs.length = vs.length - 1 := by simp [kms_hi]
  rw [this, List.drop_zero, Nat.sub_zero, List.dropLast_eq_take]
end

section
set_option maxHeartbeats 4000000
open PySem PySem.W PyProof.Rows PySem.Calls PySem.Spec
open LCg LCt
section
variable {prog : Program} {w : World} {A : Around} {E : Value → Shared → Prop} {s : Shared} {h₀ : Heap} {L : Addr} {m : Str → Option Value} {env : Env}
theorem compEnd_mono {s₁ : Shared} {I C D : Addr} {oI oC oD : Obj} {S : List (Addr × Obj) → Prop} {r r' : Value → List (Addr × Obj) → Prop} {y : Value} {s₂ : Shared} (h : CompEnd h₀ L m s₁ I oI C oC D oD S r y s₂) (k : ∀ n, r y n → r' y n) :
    CompEnd h₀ L m s₁ I oI C oC D oD S r' y s₂ := by
  obtain ⟨h', tk, n, a, b, c, d, e, f⟩ := h
  exact ⟨h', tk, n, a, b, c, d, e, k n f⟩

theorem rest_indT {ct elt : Expr} {x : Str} {scope : Scope} {cl : List (Str × Addr)} {S : List (Addr × Obj) → Prop} {P : Nat → Value → Prop} {Fin : List Value → List (Addr × Obj) → Prop} {n : Nat} {news : List (Addr × Obj)}
    (J : Nat → List Value → List (Addr × Obj) → Prop) (h0 : J 0 [] news) (fin : ∀ ys nw, J n ys nw → Fin ys nw)
    (turn : ∀ i ys nw, i < n → J i ys nw → ∀ v I oI C oC D m₂ h tk (E' : Value → Shared → Prop), P i v → NsObj oC m₂ → m₂ x = some v → Fr h₀ L h m → News h₀ L h ((I, oI) :: (C, oC) :: (D, lst ys) :: nw) → Off3 I C D nw → ((@Ne Nat I C) ∧ (@Ne Nat I D) ∧ (@Ne Nat C D)) →
      wpAny (model prog w) A (isTrue ct (compEnvC scope cl C env) (eval ct (compEnvC scope cl C env))) (fun ok s' => if ok = true then
        wpAny (model prog w) A (eval elt (compEnvC scope cl C env)) (CompEnd h₀ L m { s with heap := h, toks := tk } I oI C oC D (lst ys) S (fun y nw' => J (i + 1) (ys ++ [y]) nw')) E' s'
        else CompEnd h₀ L m { s with heap := h, toks := tk } I oI C oC D (lst ys) S (fun _ nw' => J (i + 1) ys nw') Value.none s') E' { s with heap := h, toks := tk }) :
    CompRestT prog w A h₀ L m env ct elt x scope cl s S P Fin n 0 [] news := by
  have go : ∀ k i ys nw, i + k = n → J i ys nw → CompRestT prog w A h₀ L m env ct elt x scope cl s S P Fin k i ys nw := by
    intro k
    induction k with
    | zero => intro i ys nw hi hj; obtain rfl : i = n := by omega
              exact CompRestT.zero (fin ys nw hj)
    | succ k ih =>
      intro i ys nw hi hj
      refine CompRestT.succ fun v I oI C oC D m₂ h tk E' a b c d e f g => ?_
      refine wpAny_mono (turn i ys nw (by omega) hj v I oI C oC D m₂ h tk E' a b c d e f g) (fun ok s' q => ?_) fun _ _ q => q
      cases ok with
      | true =>
        simp only [if_true] at q ⊢
        exact wpAny_mono q (fun y s'' q => compEnd_mono q fun nw' q => ih _ _ _ (by omega) q) fun _ _ q => q
      | false =>
        simp only [Bool.false_eq_true, if_false] at q ⊢
        exact compEnd_mono q fun nw' q => ih _ _ _ (by omega) q
  exact go n 0 [] news (by omega) h0

theorem rest_ind {elt : Expr} {x : Str} {scope : Scope} {cl : List (Str × Addr)} {S : List (Addr × Obj) → Prop} {P : Nat → Value → Prop} {Fin : List Value → List (Addr × Obj) → Prop} {n : Nat} {news : List (Addr × Obj)}
    (J : Nat → List Value → List (Addr × Obj) → Prop) (h0 : J 0 [] news) (fin : ∀ ys nw, J n ys nw → Fin ys nw)
    (turn : ∀ i ys nw, i < n → J i ys nw → ∀ v I oI C oC D m₂ h tk (E' : Value → Shared → Prop), P i v → NsObj oC m₂ → m₂ x = some v → Fr h₀ L h m → News h₀ L h ((I, oI) :: (C, oC) :: (D, lst ys) :: nw) → Off3 I C D nw → ((@Ne Nat I C) ∧ (@Ne Nat I D) ∧ (@Ne Nat C D)) →
      wpAny (model prog w) A (eval elt (compEnvC scope cl C env)) (CompEnd h₀ L m { s with heap := h, toks := tk } I oI C oC D (lst ys) S (fun y nw' => J (i + 1) (ys ++ [y]) nw')) E' { s with heap := h, toks := tk }) :
    CompRest prog w A h₀ L m env elt x scope cl s S P Fin n 0 [] news := by
  have go : ∀ k i ys nw, i + k = n → J i ys nw → CompRest prog w A h₀ L m env elt x scope cl s S P Fin k i ys nw := by
    intro k
    induction k with
    | zero => intro i ys nw hi hj; obtain rfl : i = n := by omega
              exact CompRest.zero (fin ys nw hj)
    | succ k ih =>
      intro i ys nw hi hj
      refine CompRest.succ fun v I oI C oC D m₂ h tk E' a b c d e f g => ?_
      exact wpAny_mono (turn i ys nw (by omega) hj v I oI C oC D m₂ h tk E' a b c d e f g) (fun y s' q => compEnd_mono q fun nw' q => ih _ _ _ (by omega) q) fun _ _ q => q
  exact go n 0 [] news (by omega) h0
end
/-- what a test keeps of a list, as far as i -/
noncomputable def keptTo (vs : List Value) (p : Nat → Bool) : Nat → List Value
  | 0 => []
  | i + 1 => keptTo vs p i ++ (if p i then (vs[i]?).toList else [])
end

section
set_option maxHeartbeats 4000000
open PySem PySem.W PyProof.Rows PySem.Calls PySem.Spec
/-- is the kind a number's -/
noncomputable def Kd.num (k : Kd) : Bool := k == .int || k == .real
theorem num_eq (k : Kd) : (k == .int || k == .real) = k.num := rfl
theorem kept_empty {vs : List Value} {p : Nat → Bool} : ∀ {n : Nat}, n ≤ vs.length → ((keptTo vs p n).isEmpty = true ↔ ∀ i, i < n → p i = false)
  | 0, _ => by simp [keptTo]
  | n + 1, h => by
    have ih := kept_empty (vs := vs) (p := p) (n := n) (by omega)
    have hn : vs[n]? = some (vs[n]'(by omega)) := List.getElem?_eq_getElem (by omega)
    simp only [keptTo, List.isEmpty_iff, List.append_eq_nil_iff] at ih ⊢
    rw [ih, hn]
    constructor
    · rintro ⟨a, b⟩ i hi
      rcases Nat.lt_succ_iff_lt_or_eq.mp hi with h1 | rfl
      · exact a i h1
      · cases hp : p i with
        | false => rfl
        | true => rw [hp] at b; simp at b
    · intro a
      exact ⟨fun i hi => a i (by omega), by rw [a n (by omega)]; simp⟩
theorem kept_nums {vs : List Value} {ks : List Kd} (hl : vs.length = ks.length) : (keptTo vs (fun i => !(ks.getD i .null).num) vs.length).isEmpty = ks.all Kd.num := by
  rw [Bool.eq_iff_iff, kept_empty (Nat.le_refl _), List.all_eq_true]
  constructor
  · intro h k hk
    obtain ⟨i, hi, rfl⟩ := List.getElem_of_mem hk
    have := h i (by omega)
    rw [List.getD_eq_getElem?_getD, List.getElem?_eq_getElem hi] at this
    simpa using this
  · intro h i hi
    rw [List.getD_eq_getElem?_getD, List.getElem?_eq_getElem (by omega)]
    simpa using h _ (List.getElem_mem (by omega))
theorem KsAt.at {h : Heap} {vs : List Value} {ks : List Kd} (x : KsAt h vs ks) {i : Nat} {v : Value} (e : vs[i]? = some v) : KAt h v (ks.getD i .null) := by
  obtain ⟨k, a, b⟩ := x.get i v e
  rw [List.getD_eq_getElem?_getD, a]; exact b
theorem kept_succ {vs : List Value} {p : Nat → Bool} {i : Nat} {v : Value} (e : vs[i]? = some v) (hp : p i = true) : keptTo vs p i ++ [v] = keptTo vs p (i + 1) := by
  simp [keptTo, hp, e]
theorem kept_skip {vs : List Value} {p : Nat → Bool} {i : Nat} (hp : p i = false) : keptTo vs p i = keptTo vs p (i + 1) := by
  simp [keptTo, hp]
theorem kept_len {vs : List Value} {p : Nat → Bool} : ∀ {i : Nat}, (keptTo vs p i).length ≤ i
  | 0 => Nat.le_refl _
  | i + 1 => by
    have := kept_len (vs := vs) (p := p) (i := i)
    simp only [keptTo, List.length_append]
    split
    · cases vs[i]? <;> simp <;> omega
    · simp; omega
end

section
set_option maxHeartbeats 4000000
open PySem PySem.W PyProof.Rows PySem.Calls PySem.Spec
open LCg LCt
section
variable {prog : Program} {w : World} {A : Around} {E : Value → Shared → Prop} {s : Shared} {h₀ : Heap} {L : Addr} {m : Str → Option Value} {env : Env}
/-- a comprehension with a test over a list of objects of kinds: what is kept -/
theorem restT_ks {ct elt : Expr} {x : Str} {scope : Scope} {cl : List (Str × Addr)} {S : List (Addr × Obj) → Prop} {Fin : List Value → List (Addr × Obj) → Prop} {vs : List Value} {ks : List Kd} {news : List (Addr × Obj)}
    (hv : KsAt h₀ vs ks) (p : Kd → Bool) (hS : S news) (fin : Fin (keptTo vs (fun i => p (ks.getD i .null)) vs.length) news)
    (turn : ∀ i ys v k, ys.length ≤ i → vs[i]? = some v → KAt h₀ v k → ∀ I oI C oC D m₂ h tk (E' : Value → Shared → Prop), NsObj oC m₂ → m₂ x = some v → Fr h₀ L h m → News h₀ L h ((I, oI) :: (C, oC) :: (D, lst ys) :: news) → Off3 I C D news → ((@Ne Nat I C) ∧ (@Ne Nat I D) ∧ (@Ne Nat C D)) →
      wpAny (model prog w) A (isTrue ct (compEnvC scope cl C env) (eval ct (compEnvC scope cl C env))) (fun ok s' => if ok = true then
        wpAny (model prog w) A (eval elt (compEnvC scope cl C env)) (CompEnd h₀ L m { s with heap := h, toks := tk } I oI C oC D (lst ys) S (fun y nw' => nw' = news ∧ y = v ∧ p k = true)) E' s'
        else CompEnd h₀ L m { s with heap := h, toks := tk } I oI C oC D (lst ys) S (fun _ nw' => nw' = news ∧ p k = false) Value.none s') E' { s with heap := h, toks := tk }) :
    CompRestT prog w A h₀ L m env ct elt x scope cl s S (fun i v => vs.toArray[i]? = some v) Fin vs.toArray.size 0 [] news := by
  refine rest_indT (fun i ys nw => nw = news ∧ ys = keptTo vs (fun i => p (ks.getD i .null)) i ∧ i ≤ vs.length) ⟨rfl, rfl, Nat.zero_le _⟩ (fun ys nw h => ?_) fun i ys nw hi hj v I oI C oC D m₂ h tk E' a b c d e f g => ?_
  · obtain ⟨rfl, rfl, _⟩ := h
    exact fin
  · obtain ⟨rfl, hys, hle⟩ := hj
    have a' : vs[i]? = some v := by simpa using a
    have hi' : i < vs.length := by simpa using hi
    refine wpAny_mono (turn i ys v _ (by rw [hys]; exact kept_len) a' (hv.at a') I oI C oC D m₂ h tk E' b c d e f g) (fun ok s' q => ?_) fun _ _ q => q
    cases ok with
    | true =>
      simp only [if_true] at q ⊢
      exact wpAny_mono q (fun y s'' q => compEnd_mono q fun nw' q => ⟨q.1, by rw [q.2.1, hys]; exact kept_succ (p := fun i => p (ks.getD i .null)) a' q.2.2, hi'⟩) fun _ _ q => q
    | false =>
      simp only [Bool.false_eq_true, if_false] at q ⊢
      exact compEnd_mono q fun nw' q => ⟨q.1, by rw [hys]; exact kept_skip (p := fun i => p (ks.getD i .null)) q.2, hi'⟩
end
end

section
set_option maxHeartbeats 4000000
open PySem PySem.W PyProof.Rows PySem.Calls PySem.Spec
noncomputable def rowOk (colour : Bool) (ks : List Kd) : Bool := !ks.isEmpty && (if colour && ks.getLastD .null == .name then ks.dropLast else ks).all Kd.num
noncomputable def rowTx (colour : Bool) (ks : List Kd) : Str := if rowOk colour ks then Str.ofString "" else Str.ofString "operands are no " ++ Str.ofString (if colour then "colour" else "numbers")
section
variable {g : Heap} {vs : List Value} {ks : List Kd} {c b : Bool}
theorem KsAt.empty (hv : KsAt g vs ks) : ks.isEmpty = vs.isEmpty := by cases hv <;> rfl
theorem row_e (hv : KsAt g vs ks) (h : vs.isEmpty = true) : rowOk c ks = false := by unfold rowOk; rw [hv.empty, h]; rfl
theorem name_text (k : Kd) : (k.text == Str.ofString "name") = (k == .name) := by cases k <;> decide +kernel
theorem row_a (hv : KsAt g vs ks) (h1 : vs.isEmpty = false) (h2 : ((ks.getLastD .null).text == Str.ofString "name") = true) (h3 : (keptTo vs.dropLast (fun i => !(ks.dropLast.getD i .null).num) vs.dropLast.length).isEmpty = b) : rowOk true ks = b := by
  rw [kept_nums hv.dropLast.length] at h3
  rw [name_text] at h2
  unfold rowOk; rw [hv.empty, h1, h2, ← h3]; rfl
theorem row_b (hv : KsAt g vs ks) (h1 : vs.isEmpty = false) (h2 : ((ks.getLastD .null).text == Str.ofString "name") = false) (h3 : (keptTo vs (fun i => !(ks.getD i .null).num) vs.length).isEmpty = b) : rowOk true ks = b := by
  rw [kept_nums hv.length] at h3
  rw [name_text] at h2
  unfold rowOk; rw [hv.empty, h1, h2, ← h3]; rfl
theorem row_n (hv : KsAt g vs ks) (h1 : vs.isEmpty = false) (h3 : (keptTo vs (fun i => !(ks.getD i .null).num) vs.length).isEmpty = b) : rowOk false ks = b := by
  rw [kept_nums hv.length] at h3
  unfold rowOk; rw [hv.empty, h1, ← h3]; rfl
theorem row_no {t : Tok} (h : rowOk true ks = false) : ∃ tk, Value.str (Str.ofString "operands are no " ++ Str.ofString "colour") t = .str (rowTx true ks) tk := ⟨t, by unfold rowTx; rw [h]; rfl⟩
theorem row_no' {t : Tok} (h : rowOk false ks = false) : ∃ tk, Value.str (Str.ofString "operands are no " ++ Str.ofString "numbers") t = .str (rowTx false ks) tk := ⟨t, by unfold rowTx; rw [h]; rfl⟩
theorem row_ok {t : Tok} (h : rowOk c ks = true) : ∃ tk, Value.str (Str.ofString "") t = .str (rowTx c ks) tk := ⟨t, by unfold rowTx; rw [h]; rfl⟩
end
theorem not_num_f {k : Kd} (h : (k == .int || k == .real) = true) : (!k.num) = false := by unfold Kd.num; rw [h]; rfl
theorem not_num_t {k : Kd} (h : (k == .int || k == .real) = false) : (!k.num) = true := by unfold Kd.num; rw [h]; rfl
theorem kept_all {vs : List Value} {ks : List Kd} (p : Kd → Bool) (hl : vs.length = ks.length) : (keptTo vs (fun i => p (ks.getD i .null)) vs.length).isEmpty = ks.all (fun k => !p k) := by
  rw [Bool.eq_iff_iff, kept_empty (Nat.le_refl _), List.all_eq_true]
  constructor
  · intro h k hk
    obtain ⟨i, hi, rfl⟩ := List.getElem_of_mem hk
    have := h i (by omega)
    rw [List.getD_eq_getElem?_getD, List.getElem?_eq_getElem hi] at this
    simpa using this
  · intro h i hi
    rw [List.getD_eq_getElem?_getD, List.getElem?_eq_getElem (by omega)]
    simpa using h _ (List.getElem_mem (by omega))
/-- what is told of an object: its kind, and the kinds of an array's items -/
structure Ob where
  k : Kd
  its : List Kd
noncomputable def itemOk (k : Kd) : Bool := !(!k.num && !(k.text == Str.ofString "string"))
noncomputable def fitsB (kd : Str) (ob : Ob) : Bool :=
  if kd == Str.ofString "number" then ob.k.num
  else if kd == Str.ofString "property" then [Str.ofString "name", Str.ofString "dict"].any fun x => x == ob.k.text
  else if kd == Str.ofString "shown" then ob.k == .array && ob.its.all itemOk
  else ob.k.text == kd
section
variable {kd : Str} {k : Kd} {its : List Kd} {b : Bool}
theorem fb_num (h : (kd == Str.ofString "number") = true) : Value.bool (k == .int || k == .real) = .bool (fitsB kd ⟨k, its⟩) := by unfold fitsB; rw [if_pos h]; rfl
theorem fb_prop (h1 : (kd == Str.ofString "number") = false) (h : (kd == Str.ofString "property") = true) : Value.bool ([Str.ofString "name", Str.ofString "dict"].any fun x => x == k.text) = .bool (fitsB kd ⟨k, its⟩) := by
  unfold fitsB; rw [if_neg (by rw [h1]; decide), if_pos h]
theorem fb_shown {vs : List Value} (hl : vs.length = its.length) (h1 : (kd == Str.ofString "number") = false) (h2 : (kd == Str.ofString "property") = false) (h : (kd == Str.ofString "shown") = true) :
    Value.bool (keptTo vs (fun i => !(its.getD i .null).num && !((its.getD i .null).text == Str.ofString "string")) vs.length).isEmpty = .bool (fitsB kd ⟨.array, its⟩) := by
  refine (congrArg Value.bool (kept_all (fun k => !k.num && !(k.text == Str.ofString "string")) hl)).trans ?_
  unfold fitsB; rw [if_neg (by rw [h1]; decide), if_neg (by rw [h2]; decide), if_pos h]; rfl
theorem fb_no (hk : (k == .array) = false) (h1 : (kd == Str.ofString "number") = false) (h2 : (kd == Str.ofString "property") = false) (h : (kd == Str.ofString "shown") = true) : Value.bool (k == .array) = .bool (fitsB kd ⟨k, its⟩) := by
  unfold fitsB; rw [if_neg (by rw [h1]; decide), if_neg (by rw [h2]; decide), if_pos h]; simp only [hk]; rfl
theorem fb_false (hk : (k == .array) = false) (h1 : (kd == Str.ofString "number") = false) (h2 : (kd == Str.ofString "property") = false) (h : (kd == Str.ofString "shown") = true) : Value.bool false = .bool (fitsB kd ⟨k, its⟩) := by
  unfold fitsB; rw [if_neg (by rw [h1]; decide), if_neg (by rw [h2]; decide), if_pos h]; simp only [hk]; rfl
theorem fb_else (h1 : (kd == Str.ofString "number") = false) (h2 : (kd == Str.ofString "property") = false) (h : (kd == Str.ofString "shown") = false) : Value.bool (k.text == kd) = .bool (fitsB kd ⟨k, its⟩) := by
  unfold fitsB; rw [if_neg (by rw [h1]; decide), if_neg (by rw [h2]; decide), if_neg (by rw [h]; decide)]
theorem sh_f1 (h : (k == .int || k == .real) = true) : (!k.num && !(k.text == Str.ofString "string")) = false := by unfold Kd.num; rw [h]; rfl
theorem sh_f2 (h : (k.text != Str.ofString "string") = false) : (!k.num && !(k.text == Str.ofString "string")) = false := by rw [bne_eq_false_iff_eq] at h; rw [h]; simp
theorem sh_t (h : (k == .int || k == .real) = false) (h' : (k.text != Str.ofString "string") = true) : (!k.num && !(k.text == Str.ofString "string")) = true := by
  unfold Kd.num; rw [h]; simpa using h'
end
end

section
set_option maxHeartbeats 8000000
open PySem PySem.W PyProof.Rows PySem.Calls PySem.Spec



theorem row_colour (w : World) (l : Addr) (t : Tok) (vs : List Value) (ks : List Kd) : PureC w 334 8 64 [.ref l, .str (Str.ofString "colour") t] (fun h => h.IsList l vs.toArray ∧ KsAt h vs ks ∧ vs.length ≤ 1000) (fun _ r => ∃ tk, r = .str (rowTx true ks) tk) := by
  k_with_none
  k_with "lt" => first | with_reducible assumption | exact lt_0 (by with_reducible assumption) | exact lt_1 (by with_reducible assumption) | exact lt_2 (by with_reducible assumption) | exact lt_3 (by with_reducible assumption) | exact lt_4 (by with_reducible assumption) | exact lt_5 (by with_reducible assumption) | exact lt_6 (by with_reducible assumption) | exact lt_7 (by with_reducible assumption) | exact lt_0 (dr8 (by with_reducible assumption)) | exact lt_1 (dr8 (by with_reducible assumption)) | exact lt_2 (dr8 (by with_reducible assumption)) | exact lt_3 (dr8 (by with_reducible assumption)) | exact lt_4 (dr8 (by with_reducible assumption)) | exact lt_5 (dr8 (by with_reducible assumption)) | exact lt_6 (dr8 (by with_reducible assumption)) | exact lt_7 (dr8 (by with_reducible assumption)) | exact lt_0 (dr8 (dr8 (by with_reducible assumption))) | exact lt_1 (dr8 (dr8 (by with_reducible assumption))) | exact lt_2 (dr8 (dr8 (by with_reducible assumption))) | exact lt_3 (dr8 (dr8 (by with_reducible assumption))) | exact lt_4 (dr8 (dr8 (by with_reducible assumption))) | exact lt_5 (dr8 (dr8 (by with_reducible assumption))) | exact lt_6 (dr8 (dr8 (by with_reducible assumption))) | exact lt_7 (dr8 (dr8 (by with_reducible assumption))) | exact lt_0 (dr8 (dr8 (dr8 (by with_reducible assumption)))) | exact lt_1 (dr8 (dr8 (dr8 (by with_reducible assumption)))) | exact lt_2 (dr8 (dr8 (dr8 (by with_reducible assumption)))) | exact lt_3 (dr8 (dr8 (dr8 (by with_reducible assumption)))) | exact lt_4 (dr8 (dr8 (dr8 (by with_reducible assumption)))) | exact lt_5 (dr8 (dr8 (dr8 (by with_reducible assumption)))) | exact lt_6 (dr8 (dr8 (dr8 (by with_reducible assumption)))) | exact lt_7 (dr8 (dr8 (dr8 (by with_reducible assumption)))) | exact lt_0 (dr8 (dr8 (dr8 (dr8 (by with_reducible assumption))))) | exact lt_1 (dr8 (dr8 (dr8 (dr8 (by with_reducible assumption))))) | exact lt_2 (dr8 (dr8 (dr8 (dr8 (by with_reducible assumption))))) | exact lt_3 (dr8 (dr8 (dr8 (dr8 (by with_reducible assumption))))) | exact lt_4 (dr8 (dr8 (dr8 (dr8 (by with_reducible assumption))))) | exact lt_5 (dr8 (dr8 (dr8 (dr8 (by with_reducible assumption))))) | exact lt_6 (dr8 (dr8 (dr8 (dr8 (by with_reducible assumption))))) | exact lt_7 (dr8 (dr8 (dr8 (dr8 (by with_reducible assumption)))))
  k_with "nd" => first | exact nd_0 (by with_reducible assumption) | exact nd_1 (by with_reducible assumption) | exact nd_2 (by with_reducible assumption) | exact nd_3 (by with_reducible assumption) | exact nd_4 (by with_reducible assumption) | exact nd_5 (by with_reducible assumption) | exact nd_6 (by with_reducible assumption) | exact nd_7 (by with_reducible assumption) | exact nd_8 (by with_reducible assumption)
  k_with "ne" => (refine neN ?_; (try dsimp only); first | with_reducible assumption | exact Ne.symm (by with_reducible assumption) | (refine ne_z ?_; k_extra "lt") | (refine ne_s ?_; k_extra "lt") | (refine ne_zz (by with_reducible assumption) ?_; k_extra "lt") | (refine ne_ss (by with_reducible assumption) ?_; k_extra "lt") | k_extra "nd" | (dsimp only [AllLt] at *; omega))
  k_with "call ref" => (k_here; (with_reducible show wpAny _ _ (call (Value.ref 253) [_]) _ _ _); k_dflt (refine' kind_c _ _ _ ?zzB ?zzF ?zzX ?zzT ?zzhk ?zzpre ?zzdd ?zzuu ?_; (case zzB => k_asm); (case zzF => k_asm); (case zzX => k_asm); (case zzT => k_asm); (case zzhk => first | exact rfl | assumption); (case zzpre => first | exact KAt.ext (by assumption) (Fr.keep (by k_asm)) | ((have hla := KsAt.last (by assumption) (by assumption)); exact KAt.ext (by assumption) (Fr.keep (by k_asm)))); (case zzdd => ktr_room); (case zzuu => ktr_units)); intro v' h' tk' e' p'; (have F' := fr_ext (by k_asm) e'); (have N' := news_ext (by k_asm) e'); (try dsimp only at p'); (try k_sweep); obtain ⟨tk'', e''⟩ := p'; subst e'')
  k_with "call ref" => (k_here; (with_reducible show wpAny _ _ (call (Value.ref 260) [_]) _ _ _); k_dflt (refine' number_c _ _ _ ?zzB ?zzF ?zzX ?zzT ?zzhk ?zzpre ?zzdd ?zzuu ?_; (case zzB => k_asm); (case zzF => k_asm); (case zzX => k_asm); (case zzT => k_asm); (case zzhk => first | exact rfl | assumption); (case zzpre => exact KAt.ext (by assumption) (Fr.keep (by k_asm))); (case zzdd => ktr_room); (case zzuu => ktr_units)); intro v' h' tk' e' p'; (have F' := fr_ext (by k_asm) e'); (have N' := news_ext (by k_asm) e'); (try dsimp only at p'); (try k_sweep); subst p')
  k_with "compareOp NotEq ref ref" => (k_here; (with_reducible show wpAny _ _ (compareOp CmpOp.NotEq (Value.ref _) (Value.ref _)) _ _ _); k_dflt (refine' lst_ne_nil ?zzl ?zzb ?zzu ?_; (case zzb => exact ⟨_, (News.get (by k_asm) (by k_mem)), rfl, _, rfl⟩); (case zzl => is_list); (case zzu => ktr_units); k_whole))
  k_with "compareOp Eq ref ref" => (k_here; (with_reducible show wpAny _ _ (compareOp CmpOp.Eq (Value.ref _) (Value.ref _)) _ _ _); k_dflt (refine' lst_eq_nil ?zzl ?zzb ?zzu ?_; (case zzb => exact ⟨_, (News.get (by k_asm) (by k_mem)), rfl, _, rfl⟩); (case zzl => is_list); (case zzu => ktr_units); k_whole))
  k_with "subscriptTail Name UnaryOp ref int" => (k_here; (with_reducible show wpAny _ _ (subscriptTail _ _ (Value.ref _) (Value.int _ _)) _ _ _); (with_unfolding_all refine' item_last ?zzk1 ?zzk2 ?zzk3 ?_ ?zzk6; (case zzk1 => is_list); (case zzk2 => assumption); (case zzk3 => first | assumption | omega); (case zzk6 => with_unfolding_all rfl); k_whole))
  k_with "subscriptTail Name Slice ref ref" => (k_here; (with_reducible show wpAny _ _ (subscriptTail _ (PySem.Expr.Slice _ _ none _) (Value.ref _) (Value.ref _)) _ _ _); k_dflt (refine' kms_slice_lit ?zzF ?zzN ?zzl ?zzp ?zzq ?zze ?_ ?zzs ?zzt ?zzz; (case zzF => k_asm); (case zzN => k_asm); (case zzl => is_list); (case zzp => kmk_part); (case zzq => kmk_part); (case zze => exact pick_init _); (case zzs => with_unfolding_all rfl); (case zzt => kmk_pure); (case zzz => (simp only [List.size_toArray, sizeLine_eq]; omega))); intro D' h' F' N' l1; (try k_lt l1); (try k_sweep))
  k_with "eval ListComp" => (k_here; k_dflt (refine LCt.ListComp_T (F₀ := by k_asm) (by with_unfolding_all rfl) (by decide) (by rfl) (by decide) (by rfl) ?_); k_dflt lct_toSrc)
  k_with "CompEnd" => (refine' LCg.CompEnd.intro ?zzF ?zzN _ ?zzsub ?zzoff ?zzsrc ⟨rfl, ?_⟩; (case zzF => assumption); (case zzN => assumption); (case zzsub => lcg_sub); (case zzoff => first | assumption | lcg_off | (simp only [LCg.Off3, and_true]; assumption)); (case zzsrc => k_dflt (first | exact Or.inl (by assumption) | lcg_src)); (first | assumption | (refine ⟨rfl, ?_⟩; assumption) | skip))
  k_with "CompSrcT" => (k_here; k_dflt (first
  | refine LCt.CompSrcT.ledger (by rfl) (by k_asm) (by k_asm) (by k_mem) (by simp only [List.size_toArray, sizeLine_eq]; omega) ?_
  | refine LCt.CompSrcT.base (by rfl) (by k_asm) (by k_asm) (by assumption) (by simp only [List.size_toArray, sizeLine_eq]; omega) ?_); k_dflt (intro g'; refine restT_ks (by first | assumption | exact KsAt.dropLast (by assumption)) (fun k => !k.num) (by lcg_src) ?_ ?_))
  unfold PureC
  k_fill
  intro loose mean mg mb dp un gd cn cs a ccd cl outer A₀ base h₀ L m s Q E B F X T hk hpre hd hu hret
  refine wpAny_call ?_
  k_dflt (refine' code_def0 ?k1 ?k2 ?k3 ?k5 ?kA ?kF ?kK ?k6 ?k7 ?k8 ?k9 ?kB ?_ ?c2 ?c3 ?c4 ?c5; (case kA => exact rfl); (case kF => exact rfl); (case kK => first | assumption | exact rfl); (case k1 => k_asm); (case k2 => k_asm); (case k3 => k_asm); (case k5 => k_asm); (case k6 => k_is); (case k7 => k_is); (case k8 => ktr_room); (case k9 => first | exact BindsTo.of_eq rfl | exact binds_K (by k_in) rfl (by k_is) rfl rfl rfl); (case c5 => decide); (case kB => exact locs rfl); (case c2 => exact rfl); (case c3 => exact rfl); (case c4 => exact rfl); k_whole; intro g' L' h' HE' F' N' B' X' T'; (try dsimp only); (try k_fold); skip)
  have hl' := Heap.IsList.at hpre.1 (fun o e => HE' l o e)
  have hv' := hpre.2.1.ext HE'
  have hz' := hpre.2.2
  have hz'' : vs.dropLast.length ≤ 1000 := by rw [List.length_dropLast]; omega
  clear hpre
  k_steps
  all_goals try first | exact not_num_f (by assumption) | exact not_num_t (by assumption)
  all_goals exact hret _ _ _ (fun b o e => Fr.keep (by assumption) b o (HE' b o e)) (by first | exact row_no (row_e (by assumption) (by assumption)) | exact row_no (row_a (by assumption) (by assumption) (by assumption) (by assumption)) | exact row_no (row_b (by assumption) (by assumption) (by assumption) (by assumption)) | exact row_ok (row_a (by assumption) (by assumption) (by assumption) (by assumption)) | exact row_ok (row_b (by assumption) (by assumption) (by assumption) (by assumption)))
theorem row_numbers (w : World) (l : Addr) (t : Tok) (vs : List Value) (ks : List Kd) : PureC w 334 8 64 [.ref l, .str (Str.ofString "numbers") t] (fun h => h.IsList l vs.toArray ∧ KsAt h vs ks ∧ vs.length ≤ 1000) (fun _ r => ∃ tk, r = .str (rowTx false ks) tk) := by
  k_with_none
  k_with "lt" => first | with_reducible assumption | exact lt_0 (by with_reducible assumption) | exact lt_1 (by with_reducible assumption) | exact lt_2 (by with_reducible assumption) | exact lt_3 (by with_reducible assumption) | exact lt_4 (by with_reducible assumption) | exact lt_5 (by with_reducible assumption) | exact lt_6 (by with_reducible assumption) | exact lt_7 (by with_reducible assumption) | exact lt_0 (dr8 (by with_reducible assumption)) | exact lt_1 (dr8 (by with_reducible assumption)) | exact lt_2 (dr8 (by with_reducible assumption)) | exact lt_3 (dr8 (by with_reducible assumption)) | exact lt_4 (dr8 (by with_reducible assumption)) | exact lt_5 (dr8 (by with_reducible assumption)) | exact lt_6 (dr8 (by with_reducible assumption)) | exact lt_7 (dr8 (by with_reducible assumption)) | exact lt_0 (dr8 (dr8 (by with_reducible assumption))) | exact lt_1 (dr8 (dr8 (by with_reducible assumption))) | exact lt_2 (dr8 (dr8 (by with_reducible assumption))) | exact lt_3 (dr8 (dr8 (by with_reducible assumption))) | exact lt_4 (dr8 (dr8 (by with_reducible assumption))) | exact lt_5 (dr8 (dr8 (by with_reducible assumption))) | exact lt_6 (dr8 (dr8 (by with_reducible assumption))) | exact lt_7 (dr8 (dr8 (by with_reducible assumption))) | exact lt_0 (dr8 (dr8 (dr8 (by with_reducible assumption)))) | exact lt_1 (dr8 (dr8 (dr8 (by with_reducible assumption)))) | exact lt_2 (dr8 (dr8 (dr8 (by with_reducible assumption)))) | exact lt_3 (dr8 (dr8 (dr8 (by with_reducible assumption)))) | exact lt_4 (dr8 (dr8 (dr8 (by with_reducible assumption)))) | exact lt_5 (dr8 (dr8 (dr8 (by with_reducible assumption)))) | exact lt_6 (dr8 (dr8 (dr8 (by with_reducible assumption)))) | exact lt_7 (dr8 (dr8 (dr8 (by with_reducible assumption)))) | exact lt_0 (dr8 (dr8 (dr8 (dr8 (by with_reducible assumption))))) | exact lt_1 (dr8 (dr8 (dr8 (dr8 (by with_reducible assumption))))) | exact lt_2 (dr8 (dr8 (dr8 (dr8 (by with_reducible assumption))))) | exact lt_3 (dr8 (dr8 (dr8 (dr8 (by with_reducible assumption))))) | exact lt_4 (dr8 (dr8 (dr8 (dr8 (by with_reducible assumption))))) | exact lt_5 (dr8 (dr8 (dr8 (dr8 (by with_reducible assumption))))) | exact lt_6 (dr8 (dr8 (dr8 (dr8 (by with_reducible assumption))))) | exact lt_7 (dr8 (dr8 (dr8 (dr8 (by with_reducible assumption)))))
  k_with "nd" => first | exact nd_0 (by with_reducible assumption) | exact nd_1 (by with_reducible assumption) | exact nd_2 (by with_reducible assumption) | exact nd_3 (by with_reducible assumption) | exact nd_4 (by with_reducible assumption) | exact nd_5 (by with_reducible assumption) | exact nd_6 (by with_reducible assumption) | exact nd_7 (by with_reducible assumption) | exact nd_8 (by with_reducible assumption)
  k_with "ne" => (refine neN ?_; (try dsimp only); first | with_reducible assumption | exact Ne.symm (by with_reducible assumption) | (refine ne_z ?_; k_extra "lt") | (refine ne_s ?_; k_extra "lt") | (refine ne_zz (by with_reducible assumption) ?_; k_extra "lt") | (refine ne_ss (by with_reducible assumption) ?_; k_extra "lt") | k_extra "nd" | (dsimp only [AllLt] at *; omega))
  k_with "call ref" => (k_here; (with_reducible show wpAny _ _ (call (Value.ref 253) [_]) _ _ _); k_dflt (refine' kind_c _ _ _ ?zzB ?zzF ?zzX ?zzT ?zzhk ?zzpre ?zzdd ?zzuu ?_; (case zzB => k_asm); (case zzF => k_asm); (case zzX => k_asm); (case zzT => k_asm); (case zzhk => first | exact rfl | assumption); (case zzpre => first | exact KAt.ext (by assumption) (Fr.keep (by k_asm)) | ((have hla := KsAt.last (by assumption) (by assumption)); exact KAt.ext (by assumption) (Fr.keep (by k_asm)))); (case zzdd => ktr_room); (case zzuu => ktr_units)); intro v' h' tk' e' p'; (have F' := fr_ext (by k_asm) e'); (have N' := news_ext (by k_asm) e'); (try dsimp only at p'); (try k_sweep); obtain ⟨tk'', e''⟩ := p'; subst e'')
  k_with "call ref" => (k_here; (with_reducible show wpAny _ _ (call (Value.ref 260) [_]) _ _ _); k_dflt (refine' number_c _ _ _ ?zzB ?zzF ?zzX ?zzT ?zzhk ?zzpre ?zzdd ?zzuu ?_; (case zzB => k_asm); (case zzF => k_asm); (case zzX => k_asm); (case zzT => k_asm); (case zzhk => first | exact rfl | assumption); (case zzpre => exact KAt.ext (by assumption) (Fr.keep (by k_asm))); (case zzdd => ktr_room); (case zzuu => ktr_units)); intro v' h' tk' e' p'; (have F' := fr_ext (by k_asm) e'); (have N' := news_ext (by k_asm) e'); (try dsimp only at p'); (try k_sweep); subst p')
  k_with "compareOp NotEq ref ref" => (k_here; (with_reducible show wpAny _ _ (compareOp CmpOp.NotEq (Value.ref _) (Value.ref _)) _ _ _); k_dflt (refine' lst_ne_nil ?zzl ?zzb ?zzu ?_; (case zzb => exact ⟨_, (News.get (by k_asm) (by k_mem)), rfl, _, rfl⟩); (case zzl => is_list); (case zzu => ktr_units); k_whole))
  k_with "compareOp Eq ref ref" => (k_here; (with_reducible show wpAny _ _ (compareOp CmpOp.Eq (Value.ref _) (Value.ref _)) _ _ _); k_dflt (refine' lst_eq_nil ?zzl ?zzb ?zzu ?_; (case zzb => exact ⟨_, (News.get (by k_asm) (by k_mem)), rfl, _, rfl⟩); (case zzl => is_list); (case zzu => ktr_units); k_whole))
  k_with "subscriptTail Name UnaryOp ref int" => (k_here; (with_reducible show wpAny _ _ (subscriptTail _ _ (Value.ref _) (Value.int _ _)) _ _ _); (with_unfolding_all refine' item_last ?zzk1 ?zzk2 ?zzk3 ?_ ?zzk6; (case zzk1 => is_list); (case zzk2 => assumption); (case zzk3 => first | assumption | omega); (case zzk6 => with_unfolding_all rfl); k_whole))
  k_with "subscriptTail Name Slice ref ref" => (k_here; (with_reducible show wpAny _ _ (subscriptTail _ (PySem.Expr.Slice _ _ none _) (Value.ref _) (Value.ref _)) _ _ _); k_dflt (refine' kms_slice_lit ?zzF ?zzN ?zzl ?zzp ?zzq ?zze ?_ ?zzs ?zzt ?zzz; (case zzF => k_asm); (case zzN => k_asm); (case zzl => is_list); (case zzp => kmk_part); (case zzq => kmk_part); (case zze => exact pick_init _); (case zzs => with_unfolding_all rfl); (case zzt => kmk_pure); (case zzz => (simp only [List.size_toArray, sizeLine_eq]; omega))); intro D' h' F' N' l1; (try k_lt l1); (try k_sweep))
  k_with "eval ListComp" => (k_here; k_dflt (refine LCt.ListComp_T (F₀ := by k_asm) (by with_unfolding_all rfl) (by decide) (by rfl) (by decide) (by rfl) ?_); k_dflt lct_toSrc)
  k_with "CompEnd" => (refine' LCg.CompEnd.intro ?zzF ?zzN _ ?zzsub ?zzoff ?zzsrc ⟨rfl, ?_⟩; (case zzF => assumption); (case zzN => assumption); (case zzsub => lcg_sub); (case zzoff => first | assumption | lcg_off | (simp only [LCg.Off3, and_true]; assumption)); (case zzsrc => k_dflt (first | exact Or.inl (by assumption) | lcg_src)); (first | assumption | (refine ⟨rfl, ?_⟩; assumption) | skip))
  k_with "CompSrcT" => (k_here; k_dflt (first
  | refine LCt.CompSrcT.ledger (by rfl) (by k_asm) (by k_asm) (by k_mem) (by simp only [List.size_toArray, sizeLine_eq]; omega) ?_
  | refine LCt.CompSrcT.base (by rfl) (by k_asm) (by k_asm) (by assumption) (by simp only [List.size_toArray, sizeLine_eq]; omega) ?_); k_dflt (intro g'; refine restT_ks (by first | assumption | exact KsAt.dropLast (by assumption)) (fun k => !k.num) (by lcg_src) ?_ ?_))
  unfold PureC
  k_fill
  intro loose mean mg mb dp un gd cn cs a ccd cl outer A₀ base h₀ L m s Q E B F X T hk hpre hd hu hret
  refine wpAny_call ?_
  k_dflt (refine' code_def0 ?k1 ?k2 ?k3 ?k5 ?kA ?kF ?kK ?k6 ?k7 ?k8 ?k9 ?kB ?_ ?c2 ?c3 ?c4 ?c5; (case kA => exact rfl); (case kF => exact rfl); (case kK => first | assumption | exact rfl); (case k1 => k_asm); (case k2 => k_asm); (case k3 => k_asm); (case k5 => k_asm); (case k6 => k_is); (case k7 => k_is); (case k8 => ktr_room); (case k9 => first | exact BindsTo.of_eq rfl | exact binds_K (by k_in) rfl (by k_is) rfl rfl rfl); (case c5 => decide); (case kB => exact locs rfl); (case c2 => exact rfl); (case c3 => exact rfl); (case c4 => exact rfl); k_whole; intro g' L' h' HE' F' N' B' X' T'; (try dsimp only); (try k_fold); skip)
  have hl' := Heap.IsList.at hpre.1 (fun o e => HE' l o e)
  have hv' := hpre.2.1.ext HE'
  have hz' := hpre.2.2
  have hz'' : vs.dropLast.length ≤ 1000 := by rw [List.length_dropLast]; omega
  clear hpre
  k_steps
  all_goals try first | exact not_num_f (by assumption) | exact not_num_t (by assumption)
  all_goals exact hret _ _ _ (fun b o e => Fr.keep (by assumption) b o (HE' b o e)) (by first | exact row_no' (row_e (by assumption) (by assumption)) | exact row_no' (row_n (by assumption) (by assumption) (by assumption)) | exact row_ok (row_n (by assumption) (by assumption) (by assumption)))
end

section
set_option maxHeartbeats 4000000
open PySem PySem.W PyProof.Rows PySem.Calls PySem.Spec
/-- values that are the strings ks -/
inductive Strs : List Value → List Str → Prop where
  | nil : Strs [] []
  | cons {k : Str} {t : Tok} {vs : List Value} {ks : List Str} : Strs vs ks → Strs (.str k t :: vs) (k :: ks)
noncomputable def StrTup (ob : Obj) (ks : List Str) : Prop := ∃ vs, Strs vs ks ∧ ob = tupOf vs
/-- a dict's pairs: words, each with a tuple of strings out of the ledger's tail -/
inductive TabL (tl : List (Addr × Obj)) : List (Str × Value) → List (Str × List Str) → Prop where
  | nil : TabL tl [] []
  | cons {k : Str} {T : Addr} {ob : Obj} {ks : List Str} {kvs : List (Str × Value)} {tab : List (Str × List Str)} : (T, ob) ∈ tl → StrTup ob ks → TabL tl kvs tab → TabL tl ((k, .ref T) :: kvs) ((k, ks) :: tab)
theorem TabL.sub {tl tl' : List (Addr × Obj)} {kvs : List (Str × Value)} {tab : List (Str × List Str)} (x : TabL tl kvs tab) (h : ∀ p ∈ tl, p ∈ tl') : TabL tl' kvs tab := by
  induction x with
  | nil => exact .nil
  | cons a b _ ih => exact .cons (h _ a) b ih

theorem TabL.length {tl : List (Addr × Obj)} {kvs : List (Str × Value)} {tab : List (Str × List Str)} (x : TabL tl kvs tab) : kvs.length = tab.length := by
  induction x with
  | nil => rfl
  | cons _ _ _ ih => simp [ih]
theorem TabL.none {tl : List (Addr × Obj)} {kvs : List (Str × Value)} {tab : List (Str × List Str)} (x : TabL tl kvs tab) {k : Str} (h : tab.all (fun p => !decide (p.1 = k)) = true) : valueAt kvs k = none := by
  induction x with
  | nil => rfl
  | @cons k' T ob ks kvs tab a b _ ih =>
    simp only [List.all_cons, Bool.and_eq_true] at h
    have hk : decide (k' = k) = false := by simpa using h.1
    unfold valueAt
    rw [List.find?_cons_of_neg (by simpa using hk)]
    exact ih h.2
theorem TabL.snoc {tl : List (Addr × Obj)} {kvs : List (Str × Value)} {tab : List (Str × List Str)} (x : TabL tl kvs tab) {k : Str} {T : Addr} {ob : Obj} {ks : List Str} (hm : (T, ob) ∈ tl) (hs : StrTup ob ks) : TabL tl (kvs ++ [(k, .ref T)]) (tab ++ [(k, ks)]) := by
  induction x with
  | nil => exact .cons hm hs .nil
  | cons a b _ ih => exact .cons a b ih
noncomputable def AllTup (tl : List (Addr × Obj)) : Prop := ∀ p ∈ tl, ∃ vs, p.2 = tupOf vs
theorem AllTup.nil : AllTup [] := fun _ h => nomatch h
theorem AllTup.cons {T : Addr} {o : Obj} {ks : List Str} {tl : List (Addr × Obj)} (h : ∃ vs, o = tupOf vs) (x : AllTup tl) : AllTup ((T, o) :: tl) := fun p hp => by
  rcases List.mem_cons.mp hp with rfl | hp
  · exact h
  · exact x p hp
theorem StrTup.tup {o : Obj} {ks : List Str} (x : StrTup o ks) : ∃ vs, o = tupOf vs := let ⟨vs, _, e⟩ := x; ⟨vs, e⟩
inductive Put (d : Addr) (o : Obj) (tl : List (Addr × Obj)) : List (Addr × Obj) → (Obj → List (Addr × Obj) → List (Addr × Obj)) → Prop
  | head : Put d o tl ((d, o) :: tl) (fun o' tl' => (d, o') :: tl')
  | tail {p : Addr × Obj} {r g} : p.1 ≠ d → Put d o tl r g → Put d o tl (p :: r) (fun o' tl' => p :: g o' tl')
theorem Put.split {d : Addr} {o : Obj} {tl : List (Addr × Obj)} {l : List (Addr × Obj)} {g} (P : Put d o tl l g) : ∃ pre, l = pre ++ (d, o) :: tl ∧ (∀ o' tl', g o' tl' = pre ++ (d, o') :: tl') ∧ ∀ p ∈ pre, p.1 ≠ d := by
  induction P with
  | head => exact ⟨[], rfl, fun _ _ => rfl, fun _ h => nomatch h⟩
  | @tail p r g h _ ih =>
    obtain ⟨pre, e, f, n⟩ := ih
    exact ⟨p :: pre, by rw [e]; rfl, fun o' tl' => congrArg (p :: ·) (f o' tl'), fun q hq => by
      rcases List.mem_cons.mp hq with rfl | hq
      · exact h
      · exact n q hq⟩
section
variable {prog : Program} {w : World} {A : Around} {E : Value → Shared → Prop} {s : Shared} {h₀ : Heap} {L d T : Addr} {m : Str → Option Value} {o tup : Obj} {tl l : List (Addr × Obj)} {kvs : List (Str × Value)} {tab : List (Str × List Str)} {k : Str} {tk : Tok} {ks : List Str} {g : Obj → List (Addr × Obj) → List (Addr × Obj)}
/-- a store of a new tuple of strings under a new word -/
theorem tab_set {Q : Unit → Shared → Prop} (F : Fr h₀ L s.heap m) (N : News h₀ L s.heap ((T, tup) :: l)) (P : Put d o tl l g) (htl : ∀ p ∈ tl, p.1 ≠ d) (hd : o.IsDictOf (strKind prog w) kvs) (ht : TabL tl kvs tab) (hc : AllTup tl) (hs : StrTup tup ks) (hne : T ≠ d)
    (hk : tab.all (fun p => !decide (p.1 = k)) = true) (hz : tab.length ≤ 1000)
    (h : ∀ h' o' tl' kvs', Fr h₀ L h' m → News h₀ L h' (g o' tl') → (∀ p ∈ tl', p.1 ≠ d) → o'.IsDictOf (strKind prog w) kvs' → TabL tl' kvs' (tab ++ [(k, ks)]) → AllTup tl' → Q () { s with heap := h', toks := s.toks + 1 }) :
    wpAny (model prog w) A (setItem (.ref d) (.str k tk) (.ref T)) Q E s := by
  obtain ⟨pre, rfl, hg, hpre⟩ := P.split
  have N' : News h₀ L s.heap (pre ++ (d, o) :: ((T, tup) :: tl)) := fun p hp => N p (by simp only [List.mem_append, List.mem_cons] at hp ⊢; rcases hp with h | h | h | h <;> simp [h])
  have key : ∀ (pre : List (Addr × Obj)) (tl : List (Addr × Obj)), (∀ p ∈ pre, p.1 ≠ d) → (∀ p ∈ tl, p.1 ≠ d) → UpdF d o (pre ++ (d, o) :: tl) (fun o' => pre ++ (d, o') :: tl) := by
    intro pre
    induction pre with
    | nil => exact fun tl _ h => .head h
    | cons p r ih => exact fun tl a b => .tail (a p (List.mem_cons_self ..)) (ih tl (fun q hq => a q (List.mem_cons_of_mem _ hq)) b)
  have htl' : ∀ p ∈ (T, tup) :: tl, p.1 ≠ d := fun p hp => by
    rcases List.mem_cons.mp hp with rfl | hp
    · exact hne
    · exact htl p hp
  refine kda_set F N' (key pre _ hpre htl') hd (strKind_is _ _ _ _) (by rw [ht.length, sizeLine_eq]; omega) fun h' o' F' N' hd' => ?_
  refine h h' o' ((T, tup) :: tl) _ F' (by rw [hg]; exact N') htl' hd' ?_ (.cons (ks := ks) hs.tup hc)
  rw [stored_absent (ht.none hk)]
  exact (ht.sub fun p hp => List.mem_cons_of_mem _ hp).snoc (List.mem_cons_self ..) hs
end
end

section
set_option maxHeartbeats 4000000
open PySem PySem.W PyProof.Rows PySem.Calls PySem.Spec
section
variable {prog : Program} {w : World} {A : Around} {E : Value → Shared → Prop} {s : Shared} {h₀ : Heap} {name : Str} {scope : Scope} {L a : Addr} {cd : Value} {cl : List (Str × Addr)} {Q : Flow → Shared → Prop}
theorem allObj_mono : ∀ {ws : List (Addr × String)} {k k' : List (Addr × Obj) → Prop}, AllObj ws k → (∀ its, k its → k' its) → AllObj ws k'
  | [], _, _, x, h => h _ x
  | _ :: _, _, _, x, h => fun o e => allObj_mono (x o e) fun its q => h _ q
theorem unrPost_mono {h₁ h₂ : Heap} {t₁ t₂ : Nat} {its : List (Addr × Obj)} {r r' : (Str → Option Value) → List (Addr × Obj) → Prop} {f : Flow} {s₂ : Shared} (x : UnrPostW h₀ L { s with heap := h₁, toks := t₁ } its r Q f s₂) (h : ∀ m n, r m n → r' m n) : UnrPostW h₀ L { s with heap := h₂, toks := t₂ } its r' Q f s₂ := by
  have go : UnrEndW h₀ L { s with heap := h₁, toks := t₁ } its r s₂ → UnrEndW h₀ L { s with heap := h₂, toks := t₂ } its r' s₂ := by
    rintro ⟨h', tk, m', n', a, b, c, d, e⟩
    exact ⟨h', tk, m', n', a, b, c, d, h _ _ e⟩
  cases f with
  | ret v => exact x
  | brk => exact x
  | _ => exact go x
/-- a for loop's turns, by an invariant -/
theorem items_indG {σ : Type} {x : Str} {px : Pos} {body : List Stmt} {ws : List (Addr × String)} {keep : List (Addr × Obj)} {m₀ : Str → Option Value} {news₀ : List (Addr × Obj)} (xs : List Itm) (P : Nat → Value → Prop) (hP : ∀ i it v h, xs[i]? = some it → it.Is v h → P i v) (Mk : σ → Str → Option Value) (J : Nat → σ → List (Addr × Obj) → Prop) (st₀ : σ)
    (hk : scope.kind = .function) (hl : (envX name scope L a cd cl).kindOf x = some .local)
    (hm₀ : ∀ z, z ≠ x → m₀ z = Mk st₀ z) (hJ₀ : J 0 st₀ news₀)
    (turn : ∀ i v st nw h tk, i < xs.length → P i v → J i st nw → Fr h₀ L h (fun z => if z = x then some v else Mk st z) → AllObj ws (fun its => News h₀ L h (its ++ nw) →
      wpAny (model prog w) A (execs body (envX name scope L a cd cl)) (UnrPostW h₀ L { s with heap := h, toks := tk } its (fun m' n' => SubL keep n' ∧ ∃ st', (∀ z, z ≠ x → m' z = Mk st' z) ∧ J (i + 1) st' n') Q) E { s with heap := h, toks := tk }))
    (fin : ∀ ov st nw h tk, J xs.length st nw → Fr h₀ L h (fun z => if z = x then ov else Mk st z) → News h₀ L h nw → Q .next { s with heap := h, toks := tk }) :
    ItemsRest prog w A E h₀ (envX name scope L a cd cl) (.Name x px) body Q s ws keep xs m₀ news₀ := by
  have fr_of : ∀ {h : Heap} {m : Str → Option Value} {st : σ}, (∀ z, z ≠ x → m z = Mk st z) → m = (fun z => if z = x then m x else Mk st z) := by
    intro h m st hm
    funext z
    by_cases hz : z = x
    · subst hz; simp
    · simp [hz, hm z hz]
  have go : ∀ (r : List Itm) (i : Nat) (m : Str → Option Value) (st : σ) (nw : List (Addr × Obj)), i + r.length = xs.length → (∀ j, r[j]? = xs[i + j]?) → (∀ z, z ≠ x → m z = Mk st z) → J i st nw →
      ItemsRest prog w A E h₀ (envX name scope L a cd cl) (.Name x px) body Q s ws keep r m nw := by
    intro r
    induction r with
    | nil =>
      intro i m st nw hi _ hm hJ
      refine ItemsRest.zero fun h tk F N => fin (m x) st nw h tk (by rw [← hi]; exact hJ) ?_ N
      rw [← fr_of (h := h) hm]; exact F
    | cons it r ih =>
      intro i m st nw hi hr hm hJ
      have hit : xs[i]? = some it := by simpa using (hr 0).symm
      intro v h tk hIs F
      have hv : P i v := hP i it v h hit hIs
      have hil : i < xs.length := (List.getElem?_eq_some_iff.mp hit).1
      have key : ∀ h', Fr h₀ L h' (fun y => if y = x then some v else m y) → Fr h₀ L h' (fun z => if z = x then some v else Mk st z) := fun h' F' => by
        have e : (fun y => if y = x then some v else m y) = (fun z => if z = x then some v else Mk st z) := by
          funext z
          by_cases hz : z = x
          · simp [hz]
          · simp [hz, hm z hz]
        rw [← e]; exact F'
      have all : AllObj ws (fun its => ∀ h tk, Fr h₀ L h (fun z => if z = x then some v else Mk st z) → News h₀ L h (its ++ nw) →
          wpAny (model prog w) A (execs body (envX name scope L a cd cl)) (UnrPostW h₀ L { s with heap := h, toks := tk } its (fun m' n' => SubL keep n' ∧ ∃ st', (∀ z, z ≠ x → m' z = Mk st' z) ∧ J (i + 1) st' n') Q) E { s with heap := h, toks := tk }) := by
        have swap : ∀ (ws : List (Addr × String)) (k : List (Addr × Obj) → Heap → Nat → Prop), (∀ h tk, Fr h₀ L h (fun z => if z = x then some v else Mk st z) → AllObj ws (fun its => k its h tk)) → AllObj ws (fun its => ∀ h tk, Fr h₀ L h (fun z => if z = x then some v else Mk st z) → k its h tk) := by
          intro ws
          induction ws with
          | nil => exact fun k q h tk F => q h tk F
          | cons p r ih => exact fun k q o e => ih (fun its h tk => k ((p.1, o) :: its) h tk) fun h tk F => q h tk F o e
        exact allObj_mono (swap ws _ fun h tk F => turn i v st nw h tk hil hv hJ F) fun its q h tk F N => q h tk F N
      refine allObj_mono all fun its q N => ?_
      refine assign_Name ?_
      refine storeX_L F N (fun h' F' N' => ?_) hk hl
      refine wpAny_mono (q h' (tk + 1) (key h' F') N') (fun f s₂ u => ?_) fun _ _ u => u
      refine unrPost_mono (s := s) u (fun m' n' y => ?_)
      obtain ⟨a, st', hm', hJ'⟩ := y
      exact ⟨a, ih (i + 1) m' st' n' (by simp at hi; omega) (fun j => by have := hr (j + 1); simpa [Nat.add_assoc, Nat.add_comm 1 j] using this) hm' hJ'⟩
  exact go xs 0 m₀ st₀ news₀ (by simp) (fun j => by simp) hm₀ hJ₀
/-- a for loop's turns over written values, by an invariant -/
theorem items_ind {σ : Type} {x : Str} {px : Pos} {body : List Stmt} {ws : List (Addr × String)} {keep : List (Addr × Obj)} {m₀ : Str → Option Value} {news₀ : List (Addr × Obj)} (vs : List Value) (Mk : σ → Str → Option Value) (J : Nat → σ → List (Addr × Obj) → Prop) (st₀ : σ)
    (hk : scope.kind = .function) (hl : (envX name scope L a cd cl).kindOf x = some .local)
    (hm₀ : ∀ z, z ≠ x → m₀ z = Mk st₀ z) (hJ₀ : J 0 st₀ news₀)
    (turn : ∀ i v st nw h tk, vs[i]? = some v → J i st nw → Fr h₀ L h (fun z => if z = x then some v else Mk st z) → AllObj ws (fun its => News h₀ L h (its ++ nw) →
      wpAny (model prog w) A (execs body (envX name scope L a cd cl)) (UnrPostW h₀ L { s with heap := h, toks := tk } its (fun m' n' => SubL keep n' ∧ ∃ st', (∀ z, z ≠ x → m' z = Mk st' z) ∧ J (i + 1) st' n') Q) E { s with heap := h, toks := tk }))
    (fin : ∀ ov st nw h tk, J vs.length st nw → Fr h₀ L h (fun z => if z = x then ov else Mk st z) → News h₀ L h nw → Q .next { s with heap := h, toks := tk }) :
    ItemsRest prog w A E h₀ (envX name scope L a cd cl) (.Name x px) body Q s ws keep (vs.map .val) m₀ news₀ :=
  items_indG (vs.map .val) (fun i v => vs[i]? = some v) (fun i it v h e q => by
    rw [List.getElem?_map] at e
    cases hv : vs[i]? with
    | none => rw [hv] at e; cases e
    | some u =>
      rw [hv] at e
      cases e
      have : v = u := q
      rw [this]) Mk J st₀ hk hl hm₀ hJ₀ (fun i v st nw h tk _ hv hJ F => turn i v st nw h tk hv hJ F) (fun ov st nw h tk hJ F N => fin ov st nw h tk (by rw [List.length_map] at hJ; exact hJ) F N)
end
end

section
set_option maxHeartbeats 4000000
open PySem PySem.W PyProof.Rows PySem.Calls PySem.Spec
inductive Rem (d : Addr) (o : Obj) : List (Addr × Obj) → List (Addr × Obj) → Prop
  | here {r} : (∀ p ∈ r, p.1 ≠ d) → Rem d o ((d, o) :: r) r
  | there {p : Addr × Obj} {l r} : p.1 ≠ d → Rem d o l r → Rem d o (p :: l) (p :: r)
theorem Rem.off {d : Addr} {o : Obj} {l r : List (Addr × Obj)} (x : Rem d o l r) : (∀ p ∈ r, p.1 ≠ d) ∧ (d, o) ∈ l ∧ ∀ p ∈ r, p ∈ l := by
  induction x with
  | here h => exact ⟨h, List.mem_cons_self .., fun p hp => List.mem_cons_of_mem _ hp⟩
  | there a _ ih =>
    refine ⟨fun p hp => ?_, List.mem_cons_of_mem _ ih.2.1, fun p hp => ?_⟩
    · rcases List.mem_cons.mp hp with rfl | hp
      · exact a
      · exact ih.1 p hp
    · rcases List.mem_cons.mp hp with rfl | hp
      · exact List.mem_cons_self ..
      · exact List.mem_cons_of_mem _ (ih.2.2 p hp)
theorem tab_init {prog : Program} {w : World} {h₀ h : Heap} {L d : Addr} {o : Obj} {all rest : List (Addr × Obj)} {kvs : List (Str × Value)} {tab : List (Str × List Str)} (N : News h₀ L h all) (hd : o.IsDictOf (strKind prog w) kvs) (R : Rem d o all rest) (ht : TabL rest kvs tab) (hc : AllTup rest) :
    ∃ tl kvs', o.IsDictOf (strKind prog w) kvs' ∧ News h₀ L h ((d, o) :: tl) ∧ (∀ p ∈ tl, p.1 ≠ d) ∧ TabL tl kvs' tab ∧ AllTup tl := ⟨rest, kvs, hd, fun p hp => by
  rcases List.mem_cons.mp hp with rfl | hp
  · exact N _ R.off.2.1
  · exact N _ (R.off.2.2 p hp), R.off.1, ht, hc⟩
/-- the table with the first words of a list put in, each with ks -/
noncomputable def tabw (tab : List (Str × List Str)) (words : List Str) (ks : List Str) (i : Nat) : List (Str × List Str) := tab ++ (words.take i).map fun k => (k, ks)
theorem Strs.at {vs : List Value} {ks : List Str} (x : Strs vs ks) : ∀ {i : Nat} {v : Value}, vs[i]? = some v → ∃ k t, ks[i]? = some k ∧ v = .str k t := by
  induction x with
  | nil => intro i v e; simp at e
  | cons _ ih =>
    intro i v e
    cases i with
    | zero => simp at e; exact ⟨_, _, rfl, e.symm⟩
    | succ i => simpa using ih (by simpa using e)
theorem Strs.length {vs : List Value} {ks : List Str} (x : Strs vs ks) : vs.length = ks.length := by
  induction x with
  | nil => rfl
  | cons _ ih => simp [ih]
theorem tabw_succ {tab : List (Str × List Str)} {words ks : List Str} {i : Nat} {k : Str} (h : words[i]? = some k) : tabw tab words ks i ++ [(k, ks)] = tabw tab words ks (i + 1) := by
  unfold tabw
  rw [List.take_add_one, h]
  simp
noncomputable def TabEnd (prog : Program) (w : World) (h₀ : Heap) (L : Addr) (m : Str → Option Value) (I : Addr) (oI : Obj) (C : Addr) (oC : Obj) (d : Addr) (tab : List (Str × List Str)) (s : Shared) (fl : Flow) (s₂ : Shared) : Prop :=
  fl = .next ∧ ∃ h' tk' o' kvs' tl', s₂ = { s with heap := h', toks := tk' } ∧ Fr h₀ L h' m ∧ News h₀ L h' ((I, oI) :: (C, oC) :: (d, o') :: tl') ∧ (∀ p ∈ tl', p.1 ≠ d) ∧ o'.IsDictOf (strKind prog w) kvs' ∧ TabL tl' kvs' tab ∧ AllTup tl'
theorem news_tab {h₀ h : Heap} {L C d : Addr} {o oC : Obj} {tl all : List (Addr × Obj)} {g} (N : News h₀ L h all) (P : Put d o tl all g) (hC : (C, oC) ∈ all) : News h₀ L h ((C, oC) :: (d, o) :: tl) := by
  obtain ⟨pre, rfl, _, _⟩ := P.split
  intro p hp
  rcases List.mem_cons.mp hp with rfl | hp
  · exact N _ hC
  · exact N _ (List.mem_append_right _ hp)
theorem news_tab1 {h₀ h : Heap} {L d : Addr} {o : Obj} {tl all : List (Addr × Obj)} {g} (N : News h₀ L h all) (P : Put d o tl all g) : News h₀ L h ((d, o) :: tl) := by
  obtain ⟨pre, rfl, _, _⟩ := P.split
  intro p hp
  exact N _ (List.mem_append_right _ hp)
theorem tab_end {prog : Program} {w : World} {h₀ h' : Heap} {L I C d : Addr} {m : Str → Option Value} {oI oC o' : Obj} {tl' all : List (Addr × Obj)} {kvs' : List (Str × Value)} {tab : List (Str × List Str)} {s : Shared} {tk' : Nat} {g} (ht : TabL tl' kvs' tab) (hd : o'.IsDictOf (strKind prog w) kvs') (hoff : ∀ p ∈ tl', p.1 ≠ d) (hc : AllTup tl')
    (F : Fr h₀ L h' m) (N : News h₀ L h' all) (P : Put d o' tl' all g) (hC : (C, oC) ∈ all) (hI : (I, oI) ∈ all) : TabEnd prog w h₀ L m I oI C oC d tab s .next { s with heap := h', toks := tk' } :=
  ⟨rfl, h', tk', o', kvs', tl', rfl, F, fun p hp => by
    rcases List.mem_cons.mp hp with rfl | hp
    · exact N _ hI
    · exact news_tab N P hC p hp, hoff, hd, ht, hc⟩
section
variable {prog : Program} {w : World} {A : Around} {E : Value → Shared → Prop} {s : Shared} {h₀ : Heap} {name : Str} {scope : Scope} {L a : Addr} {cd : Value} {Q : Flow → Shared → Prop}
theorem for_tab {x : Str} {px : Pos} {body : List Stmt} {C d : Addr} {o oC : Obj} {tl : List (Addr × Obj)} {kvs : List (Str × Value)} {tab : List (Str × List Str)} {m₀ : Str → Option Value} (xs : List Value) (words : List Str) (ks : List Str)
    (hk : scope.kind = .function) (hl : (envOf name scope L a cd).kindOf x = some .local) (hh : A.handled = none)
    (F : Fr h₀ L s.heap m₀) (N : News h₀ L s.heap ((C, oC) :: (d, o) :: tl)) (hoC : oC = tupOf xs) (hx : Strs xs words) (hoff : ∀ p ∈ tl, p.1 ≠ d) (hd : o.IsDictOf (strKind prog w) kvs) (ht : TabL tl kvs tab) (hc : AllTup tl)
    (hCd : @Ne Nat C d) (hfresh : ((List.range words.length).all fun i => (tabw tab words ks i).all (fun p => !decide (p.1 = words.getD i (Str.ofString "")))) = true) (hz : tab.length + words.length ≤ 1000)
    (turn : ∀ word t o kvs tl tb h tk I oI, oI.cls = .type "tuple_iterator" → o.IsDictOf (strKind prog w) kvs → TabL tl kvs tb → (∀ p ∈ tl, p.1 ≠ d) → AllTup tl → tb.all (fun p => !decide (p.1 = word)) = true → tb.length ≤ 1000 → (@Ne Nat C d) → (@LT.lt Nat _ d I) →
      Fr h₀ L h (fun z => if z = x then some (.str word t) else m₀ z) → News h₀ L h ((I, oI) :: (C, oC) :: (d, o) :: tl) →
      wpAny (model prog w) A (execs body (envOf name scope L a cd)) (TabEnd prog w h₀ L (fun z => if z = x then some (.str word t) else m₀ z) I oI C oC d (tb ++ [(word, ks)]) { s with heap := h, toks := tk }) E { s with heap := h, toks := tk })
    (fin : ∀ ov o kvs tl h tk, o.IsDictOf (strKind prog w) kvs → TabL tl kvs (tabw tab words ks words.length) → (∀ p ∈ tl, p.1 ≠ d) → AllTup tl → Fr h₀ L h (fun z => if z = x then ov else m₀ z) → News h₀ L h ((d, o) :: tl) → Q .next { s with heap := h, toks := tk }) :
    wpAny (model prog w) A (pyIter (.ref C)) (fun it s₂ => TurnsAt prog w A h₀ (envOf name scope L a cd) (.Name x px) body Q E it s₂) E s := by
  subst hoC
  refine iter_tupTurns (lo := tupOf xs) (vs := xs) hh F N (List.mem_cons_self ..) rfl rfl fun I hI => ?_
  have hCI : C < I := hI _ (List.mem_cons_self ..)
  have hdI : d < I := hI (d, o) (List.mem_cons_of_mem _ (List.mem_cons_self ..))
  have hlen := hx.length
  refine items_ind (cl := []) xs (fun (_ : Unit) => m₀) (fun i _ nw => ∃ o tl kvs, nw = (C, tupOf xs) :: (d, o) :: tl ∧ o.IsDictOf (strKind prog w) kvs ∧ TabL tl kvs (tabw tab words ks i) ∧ (∀ p ∈ tl, p.1 ≠ d) ∧ AllTup tl) () hk hl (fun _ _ => rfl) ⟨o, tl, kvs, rfl, hd, by simpa [tabw] using ht, hoff, hc⟩ ?_ ?_
  · intro i v st nw h tk hv hJ F
    obtain ⟨o, tl, kvs, rfl, hd, ht, hoff, hc⟩ := hJ
    obtain ⟨word, t, hw, rfl⟩ := hx.at hv
    have hi : i < words.length := (List.getElem?_eq_some_iff.mp hw).1
    refine AllObj.cons fun oI hoI => AllObj.nil fun N => ?_
    have hfr := List.all_eq_true.mp hfresh i (List.mem_range.mpr hi)
    have hwd : words.getD i (Str.ofString "") = word := by rw [List.getD_eq_getElem?_getD, hw]; rfl
    rw [hwd] at hfr
    have hsz : (tabw tab words ks i).length ≤ 1000 := by
      unfold tabw
      simp only [List.length_append, List.length_map, List.length_take]
      omega
    refine wpAny_mono (turn word t o kvs tl _ h tk I oI hoI hd ht hoff hc hfr hsz hCd hdI F N) (fun fl s₂ q => ?_) fun _ _ q => q
    obtain ⟨rfl, h', tk', o', kvs', tl', rfl, F', N', hoff', hd', ht', hc'⟩ := q
    refine ⟨h', tk', _, (C, tupOf xs) :: (d, o') :: tl', rfl, F', N', ?_, ⟨List.mem_cons_self .., trivial⟩, (), fun z hz => if_neg hz, o', tl', kvs', rfl, hd', ?_, hoff', hc'⟩
    · intro p hp q hq
      obtain rfl := List.mem_singleton.mp hq
      rcases List.mem_cons.mp hp with rfl | hp
      · exact Nat.ne_of_lt hCI
      rcases List.mem_cons.mp hp with rfl | hp
      · exact Nat.ne_of_lt hdI
      intro e
      obtain ⟨vs, hvs⟩ := hc' p hp
      have h1 := (N' (I, oI) (List.mem_cons_self ..)).1
      have h2 := (N' p (List.mem_cons_of_mem _ (List.mem_cons_of_mem _ (List.mem_cons_of_mem _ hp)))).1
      simp only at h1
      rw [show p.1 = I from e, h1] at h2
      have := Option.some.inj h2
      rw [this, hvs] at hoI
      exact absurd (show Value.type "tuple" = Value.type "tuple_iterator" from hoI) (by decide)
    · rw [← tabw_succ hw]; exact ht'
  · intro ov st nw h tk hJ F N
    obtain ⟨o, tl, kvs, rfl, hd, ht, hoff, hc⟩ := hJ
    exact fin ov o kvs tl h tk hd (by rw [← hlen]; exact ht) hoff hc F fun p hp => N p (List.mem_cons_of_mem _ hp)
end
end

section
set_option maxHeartbeats 4000000
open PySem PySem.W PyProof.Rows PySem.Calls PySem.Spec
/-- a pure call; `post` of the heap ahead, the heap behind and the value -/
noncomputable def PureN (w : World) (f dep un8 : Nat) (args : List Value) (pre : Heap → Prop) (post : Heap → Heap → Value → Prop) : Prop :=
  ∀ {loose : List Str} {mean : ExcName → Option Value} {mg mb : Str → Option Value} {dp un : Nat} {gd : Option (List Code)} {cn : Str} {cs : Scope} {a : Addr} {ccd : Value} {cl : List (Str × Addr)} {outer : List Env} {A₀ : Around} {base h₀ : Heap} {L : Addr} {m : Str → Option Value} {s : Shared}
    {Q E : Value → Shared → Prop}, Below A₀ base outer h₀ → Fr h₀ L s.heap m → (Mine.K w.params).In h₀ → Top Mine.vq loose mean mg mb h₀ → cs.kind = .function →
    pre s.heap → dp + dep < recursionLimit → un + un8 < cLine →
    (∀ v h' tk', Ext s.heap h' → post s.heap h' v → Q v { s with heap := h', toks := tk' }) →
    wpAny (model PySem.Challenge.rw_nn0217_01.row.prog w) (ktrTop dp un gd cn cs L a ccd cl outer) (call (.ref f) args) Q E s
noncomputable def TabRet (w : World) (tab : List (Str × List Str)) (h₀ h' : Heap) (v : Value) : Prop :=
  ∃ d o tl kvs, v = .ref d ∧ (∀ p ∈ (d, o) :: tl, h'.get? p.1 = some p.2 ∧ h₀.get? p.1 = none) ∧ (∀ p ∈ tl, p.1 ≠ d) ∧ o.IsDictOf (strKind PySem.Challenge.rw_nn0217_01.row.prog w) kvs ∧ TabL tl kvs tab ∧ (d == sysModules) = false
theorem tab_ret {w : World} {h₀ g h' : Heap} {L d : Addr} {o : Obj} {tl : List (Addr × Obj)} {kvs : List (Str × Value)} {tab tab' : List (Str × List Str)} (e : Ext h₀ g) (N : News g L h' ((d, o) :: tl)) (hoff : ∀ p ∈ tl, p.1 ≠ d) (hd : o.IsDictOf (strKind PySem.Challenge.rw_nn0217_01.row.prog w) kvs)
    (ht : TabL tl kvs tab) (_hc : AllTup tl) (lo : (d == sysModules) = false) (he : tab = tab') : TabRet w tab' h₀ h' (.ref d) := by
  refine ⟨d, o, tl, kvs, rfl, fun p hp => ⟨(N p hp).1, ?_⟩, hoff, hd, he ▸ ht, lo⟩
  have n := (N p hp).2.2
  cases q : h₀.get? p.1 with
  | none => rfl
  | some o' => rw [e _ _ q] at n; cases n
theorem tab_ret2 {w : World} {h₀ g h' : Heap} {L d : Addr} {o : Obj} {tl : List (Addr × Obj)} {kvs : List (Str × Value)} {tab tab' : List (Str × List Str)} (e : Ext h₀ g) (N : News g L h' ((d, o) :: tl)) (hoff : ∀ p ∈ tl, p.1 ≠ d) (hd : o.IsDictOf (strKind PySem.Challenge.rw_nn0217_01.row.prog w) kvs)
    (ht : TabL tl kvs tab) (lo : (d == sysModules) = false) (he : tab = tab') : TabRet w tab' h₀ h' (.ref d) := by
  refine ⟨d, o, tl, kvs, rfl, fun p hp => ⟨(N p hp).1, ?_⟩, hoff, hd, he ▸ ht, lo⟩
  have n := (N p hp).2.2
  cases q : h₀.get? p.1 with
  | none => rfl
  | some o' => rw [e _ _ q] at n; cases n
noncomputable def stateTab : List (Str × List Str) :=
  let n := Str.ofString "number"
  let one := [n]
  let nm := Str.ofString "name"
  (["w", "J", "j", "M", "i", "g", "G"].map fun x => (Str.ofString x, one)) ++ [(Str.ofString "ri", [nm]), (Str.ofString "gs", [nm]), (Str.ofString "d", [Str.ofString "array", n]), (Str.ofString "cm", [n, n, n, n, n, n])]
  ++ (["RG", "rg"].map fun x => (Str.ofString x, [n, n, n])) ++ (["K", "k"].map fun x => (Str.ofString x, [n, n, n, n])) ++ (["q", "Q", "EMC", "BX", "EX"].map fun x => (Str.ofString x, []))
  ++ (["CS", "cs", "sh", "Do", "MP", "BMC"].map fun x => (Str.ofString x, [nm])) ++ (["DP", "BDC"].map fun x => (Str.ofString x, [nm, Str.ofString "property"]))
  ++ (["SC", "sc"].map fun x => (Str.ofString x, [Str.ofString "numbers"])) ++ (["SCN", "scn"].map fun x => (Str.ofString x, [Str.ofString "colour"])) ++ [(Str.ofString "BI", [Str.ofString "dict", Str.ofString "string"])]
noncomputable def pathTab : List (Str × List Str) :=
  let n := Str.ofString "number"
  [("m", 2), ("l", 2), ("c", 6), ("v", 4), ("y", 4), ("re", 4), ("h", 0), ("W", 0), ("W*", 0), ("S", 0), ("s", 0), ("f", 0), ("F", 0), ("f*", 0), ("B", 0), ("B*", 0), ("b", 0), ("b*", 0), ("n", 0)].map fun (x, k) => (Str.ofString x, List.replicate k n)
noncomputable def textTab : List (Str × List Str) :=
  let n := Str.ofString "number"
  let st := Str.ofString "string"
  [(Str.ofString "BT", []), (Str.ofString "ET", []), (Str.ofString "T*", []), (Str.ofString "Tf", [Str.ofString "name", n]), (Str.ofString "Tm", [n, n, n, n, n, n]), (Str.ofString "TJ", [Str.ofString "shown"])]
  ++ (["Tc", "Tw", "Tz", "TL", "Tr", "Ts"].map fun x => (Str.ofString x, [n])) ++ (["Td", "TD", "d0"].map fun x => (Str.ofString x, [n, n])) ++ [(Str.ofString "d1", [n, n, n, n, n, n])]
  ++ (["Tj", "'"].map fun x => (Str.ofString x, [st])) ++ [(Str.ofString "\"", [n, n, st])]
end

section
set_option maxHeartbeats 4000000
open PySem PySem.W PyProof.Rows PySem.Calls PySem.Spec
section
variable {prog : Program} {w : World} {A A₀ : Around} {E : Value → Shared → Prop} {s : Shared} {K : Frag} {C L : Addr} {h₀ base : Heap} {m mg mb : Str → Option Value} {led : List (Addr × Obj)} {p : Program} {loose : List Str} {mean : ExcName → Option Value}
/-- into a function with cells, from a ledger that is given over; what else stands at the call stands in the base -/
theorem code_cellE {env : Env} {outer : List Env} {R : Result → Shared → Prop} {name qual : Str} {params : Arguments} {body : List Stmt} {scope : Scope} {dV kV doc pm cdv ct oc : Value} {an od : Option Addr} {osl : Array (Option Value)} {f : Addr} {args : Args} {binds : List (Str × Value)}
    (B : Below A₀ base outer h₀) (F : Fr h₀ L s.heap m) (X₀ : K.In h₀) (N : News h₀ L s.heap led) (T : Top p loose mean mg mb h₀) (hA : A.frames = some (env :: outer)) (hf : env.frame = some L) (hke : env.scope.kind = .function)
    (ho : K.lookup f = some ⟨oc, od, .func (fnOf name qual params body scope dV kV doc pm an cdv ct), osl⟩) (hcd : codeIn K cdv qual = true) (hroom : A.depth < recursionLimit)
    (hbind : BindsTo s (fnOf name qual params body scope dV kV doc pm an cdv ct) args binds) (hkind : (binds.all fun y => scope.names.lookup y.1 == some .local || scope.names.lookup y.1 == some .cell) = true)
    (hnd : ((cellsFrom 0 scope.names []).map (·.1)).Nodup)
    (h : ∀ g L' h₁ tk cells, (∀ b o, s.heap.get? b = some o → b ∉ led.map (·.1) → g.get? b = some o) → Fr g L' h₁ (bindL (envOfC qual scope L' f cdv).kindOf binds fun _ => none) → News g L' h₁ (cells ++ led) →
      CellsAre (bindC (envOfC qual scope L' f cdv).kindOf binds fun _ => none) (cellsFrom (L' + 1) scope.names []) cells → Below A base (env :: outer) g → K.In g → Top p loose mean mg mb g → (∀ p ∈ led, p.1 < L') →
      wpAny (model prog w) (A.deeper (envOfC qual scope L' f cdv)) (execs body (envOfC qual scope L' f cdv))
        (fun fl s' => LeaveK h₀ L m g R (match fl with | .ret v => v | _ => .none) s')
        (fun e s' => wpAny (model prog w) (A.deeper (envOfC qual scope L' f cdv)) (leaving (envOfC qual scope L' f cdv) e) (fun _ s'' => R (.error e) s'') (fun e' s'' => R (.error e') s'') s')
        { s with heap := h₁, toks := tk })
    (hco : scope.isCoroutine = false) (hgen : scope.isGenerator = false) (hk : scope.kind = .function) : codeAny (model prog w) A (.call (.ref f) args) R s := by
  have G := groundX (R := R) B F N hA hf hke
  refine codeAny_call_function hroom ((X₀.keeps F.keep) _ _ ho) rfl hco hgen rfl (codeRec_of (X₀.keeps F.keep) hcd) (hbind _ _ _ _ ?_)
  refine wpAny_newFunctionEnv_cells hk (kindsX hkind _) fun env' he s' x => ?_
  subst he
  refine ⟨(T.nolimit.keeps F.keep).keeps x.toInCall.keep, codeAny_func ?_⟩
  obtain ⟨h₁, tk, rfl, _⟩ := x.done
  have up := x.toInCall.keep
  obtain ⟨cells, NC, Y⟩ := Cl.news (h₀ := s.heap) (Nat.le_refl _) fun n c hm => ⟨x.cell n c (lookup_of_mem_nodup (cellsFrom_names scope.names 0 (s.heap.objs.size + 1) [] [] rfl ▸ hnd) hm), x.above n c hm⟩
  have none_of : ∀ b, s.heap.get? b = none → (hideAll s.heap (led.map (·.1))).get? b = none := fun b e => by
    cases q : (hideAll s.heap (led.map (·.1))).get? b with
    | none => rfl
    | some o => rw [of_hideAll _ q] at e; cases e
  refine wpAny_mono (h _ s.heap.objs.size h₁ tk cells (fun b o e n => hideAll_get _ e n) ⟨x.toInCall.ns, fun b o e => up b o (of_hideAll _ e), Nat.le_of_eq (hideAll_size _ _)⟩ (fun p hp => ?_) Y G.2.1 (X₀.keeps G.2.2.1) (T.keeps G.2.2.1) (fun p hp => Heap.lt_size (N p hp).1)) (fun fl s' hl => G.2.2.2 _ _ hl) fun _ _ y => y
  rcases List.mem_append.mp hp with hp | hp
  · exact ⟨(NC p hp).1, (NC p hp).2.1, none_of _ (NC p hp).2.2⟩
  · exact ⟨up _ _ (N p hp).1, Nat.ne_of_lt (Heap.lt_size (N p hp).1), hideAll_none _ (List.mem_map_of_mem hp)⟩
end
end

section
set_option maxHeartbeats 4000000
open PySem PySem.W PyProof.Rows PySem.Calls PySem.Spec
open LCg
section
variable {prog : Program} {w : World} {A : Around} {E : Value → Shared → Prop} {s : Shared} {h₀ : Heap} {L : Addr} {m : Str → Option Value} {env : Env}
noncomputable def DKeep (prog : Program) (w : World) (h₀ : Heap) (L : Addr) (m : Str → Option Value) (s₁ : Shared) (I : Addr) (oI : Obj) (C : Addr) (oC : Obj) (D : Addr) (oD : Obj) (Rl : Str → Value → List (Addr × Obj) → Prop) (kv vv : Value) (s₅ : Shared) : Prop :=
  ∃ h' tk' k' nw', s₅ = { s₁ with heap := h', toks := tk' } ∧ (strKind prog w).is k' kv = true ∧ Fr h₀ L h' m ∧ News h₀ L h' ((I, oI) :: (C, oC) :: (D, oD) :: nw') ∧ Off3 I C D nw' ∧ Rl k' vv nw'
theorem DKeep.intro {s₁ : Shared} {I : Addr} {oI : Obj} {C : Addr} {oC : Obj} {D : Addr} {oD : Obj} {Rl : Str → Value → List (Addr × Obj) → Prop} {kv vv : Value} {h' : Heap} {tk' : Nat} {all : List (Addr × Obj)} {k' : Str} (F : Fr h₀ L h' m) (N : News h₀ L h' all) (nw' : List (Addr × Obj)) (sub : ∀ p ∈ (I, oI) :: (C, oC) :: (D, oD) :: nw', p ∈ all)
    (off : Off3 I C D nw') (hk : (strKind prog w).is k' kv = true) (r : Rl k' vv nw') : DKeep prog w h₀ L m s₁ I oI C oC D oD Rl kv vv { s₁ with heap := h', toks := tk' } := ⟨h', tk', k', nw', rfl, hk, F, fun p hp => N p (sub p hp), off, r⟩
noncomputable def DTurn (prog : Program) (w : World) (A : Around) (h₀ : Heap) (L : Addr) (m : Str → Option Value) (env : Env) (kx vx : Expr) (x : Str) (scope : Scope) (cl : List (Str × Addr)) (s₁ : Shared) (kvs₀ : List (Str × Value)) (J : Nat → List (Str × Value) → List (Addr × Obj) → Prop) : Prop :=
  ∀ i kvs nw, i < kvs₀.length → J i kvs nw → ∀ k x₀ v I oI C oC D oD m₂ h tk (E' : Value → Shared → Prop), kvs₀[i]? = some (k, x₀) → (strKind prog w).is k v = true → NsObj oC m₂ → m₂ x = some v → oD.IsDictOf (strKind prog w) kvs →
    Fr h₀ L h m → News h₀ L h ((I, oI) :: (C, oC) :: (D, oD) :: nw) → Off3 I C D nw → ((@Ne Nat I C) ∧ (@Ne Nat I D) ∧ (@Ne Nat C D)) →
    wpAny (model prog w) A (eval kx (compEnvC scope cl C env)) (fun kv s₄ => wpAny (model prog w) A (eval vx (compEnvC scope cl C env)) (fun vv s₅ =>
      DKeep prog w h₀ L m s₁ I oI C oC D oD (fun k' vv nw' => J (i + 1) (stored kvs k' vv) nw') kv vv s₅) E' s₄) E' { s₁ with heap := h, toks := tk }
noncomputable def DSrc (prog : Program) (w : World) (A : Around) (h₀ : Heap) (L : Addr) (m : Str → Option Value) (env : Env) (kx vx : Expr) (x : Str) (scope : Scope) (cl : List (Str × Addr)) (Q : Value → Shared → Prop) (xv : Value) (s₁ : Shared) : Prop :=
  ∃ d od kvs₀ news, xv = .ref d ∧ A.handled = none ∧ (d == sysModules) = false ∧ Fr h₀ L s₁.heap m ∧ News h₀ L s₁.heap news ∧ (d, od) ∈ news ∧ od.IsDictOf (strKind prog w) kvs₀ ∧ kvs₀.length ≤ 1000 ∧
      ∃ J : Nat → List (Str × Value) → List (Addr × Obj) → Prop, J 0 [] news ∧ (∀ i kvs nw, J i kvs nw → (d, od) ∈ nw) ∧ DTurn prog w A h₀ L m env kx vx x scope cl s₁ kvs₀ J ∧
      ∀ kvs nw D oD h tk, J kvs₀.length kvs nw → oD.IsDictOf (strKind prog w) kvs → Fr h₀ L h m → News h₀ L h ((D, oD) :: nw) → Off1 D nw → (D == sysModules) = false → Q (.ref D) { s₁ with heap := h, toks := tk }
theorem DSrc.intro {kx vx : Expr} {x : Str} {scope : Scope} {cl : List (Str × Addr)} {Q : Value → Shared → Prop} {d : Addr} {od : Obj} {kvs₀ : List (Str × Value)} {news : List (Addr × Obj)} {s₁ : Shared} (J : Nat → List (Str × Value) → List (Addr × Obj) → Prop) (hh : A.handled = none) (F : Fr h₀ L s₁.heap m) (N : News h₀ L s₁.heap news) (hm : (d, od) ∈ news) (hd : od.IsDictOf (strKind prog w) kvs₀) (hs : (d == sysModules) = false) (hz : kvs₀.length ≤ 1000)
    (J₀ : J 0 [] news) (Jd : ∀ i kvs nw, J i kvs nw → (d, od) ∈ nw) (turn : DTurn prog w A h₀ L m env kx vx x scope cl s₁ kvs₀ J)
    (fin : ∀ kvs nw D oD h tk, J kvs₀.length kvs nw → oD.IsDictOf (strKind prog w) kvs → Fr h₀ L h m → News h₀ L h ((D, oD) :: nw) → Off1 D nw → (D == sysModules) = false → Q (.ref D) { s₁ with heap := h, toks := tk }) :
    DSrc prog w A h₀ L m env kx vx x scope cl Q (.ref d) s₁ := ⟨d, od, kvs₀, news, rfl, hh, hs, F, N, hm, hd, hz, J, J₀, Jd, turn, fin⟩
/-- a dict comprehension over a dict's keys, by an invariant -/
theorem DictComp_J {kx vx iter : Expr} {x : Str} {px : Pos} {scope : Scope} {cl : List (Str × Addr)} {pos : Pos} {Q : Value → Shared → Prop} (_F₀ : Fr h₀ L s.heap m)
    (hclos : closureFor scope env = pure cl) (hcell : ∀ y ∈ scope.names, y.2 ≠ .cell) (hkind : scope.kind = .function)
    (hnames : ∀ y ∈ scope.names, y.2 = .local → scope.names.lookup y.1 = some .local) (hx : scope.names.lookup x = some .local)
    (h : wpAny (model prog w) A (eval iter env) (DSrc prog w A h₀ L m env kx vx x scope cl Q) E s)
    (hs : ∀ x, foldedSetIterable iter env x = pure x := by intro _; rfl) :
    wpAny (model prog w) A (eval (.DictComp kx vx [⟨.Name x px, iter, [], 0⟩] scope pos) env) Q E s := by
  rw [arm_eval_DictComp]
  refine wpAny_comprehension_free (use := none) rfl hs hclos hkind hnames (wpAny_mono h (fun xv s₁ h₁ => ?_) fun _ _ e => e)
  obtain ⟨d, od, kvs₀, news, rfl, hh, hsys, F₁, N₁, hmem, hod, hn, J, J₀, Jd, turn, fin⟩ := h₁
  obtain ⟨ep, hat⟩ := KdkAt.of hod
  have hdlt : d < s₁.heap.objs.size := Heap.lt_size (N₁ _ hmem).1
  refine wpAny_pyIter_dict hsys (hat.dictAt (N₁ _ hmem).1) ?_
  generalize hI : s₁.heap.objs.size = I at hdlt ⊢
  have hfr : ({ cls := .type "dict_keyiterator", data := .fields #[.ref d, .int 0 0, .int kvs₀.length 0, .int ep 0] } : Obj).isFreed = false := rfl
  generalize hoI₀ : ({ cls := .type "dict_keyiterator", data := .fields #[.ref d, .int 0 0, .int kvs₀.length 0, .int ep 0] } : Obj) = oI₀ at hfr ⊢
  generalize hH1 : s₁.heap.push oI₀ = H1
  have hI1 : H1.objs.size = I + 1 := by rw [← hH1, Heap.size_push, hI]
  have up1 : ∀ b o, s₁.heap.get? b = some o → H1.get? b = some o := fun b o e => hH1 ▸ Heap.get?_push_of_some _ e
  have gI : H1.get? I = some oI₀ := hH1 ▸ hI ▸ Heap.get?_push_size _ hfr
  have W := Walks.dictKeys (prog := prog) (w := w) (knd := strKind prog w) (A := A) hh I d (Nat.ne_of_lt hdlt) kvs₀ ep
  refine wpAny_newObj_type (wpAny_newFunctionEnv hcell (by intro y hy; simp at hy) (fun h₁ hns₁ hsb₁ => ?_) hkind)
  dsimp only at hns₁ hsb₁ ⊢
  have hnew : (H1.push { cls := .type "dict", dict := none, data := .dict #[] }).DictOf (strKind prog w) H1.objs.size [] := Heap.DictOf.new H1
  generalize hH2 : H1.push { cls := .type "dict", dict := none, data := .dict #[] } = H2 at hns₁ hsb₁ hnew ⊢
  have hC : H2.objs.size = I + 2 := by rw [← hH2, Heap.size_push, hI1]
  rw [hI1] at hnew ⊢
  rw [hC] at hns₁ hsb₁ ⊢
  have fresh : ∀ a, I ≤ a → h₀.get? a = none := fun a ha => by
    cases e : h₀.get? a with
    | none => rfl
    | some o' => have := Heap.lt_size (F₁.keep a o' e); rw [hI] at this; exact absurd this (Nat.not_lt.mpr ha)
  have hLlt : L < I := hI ▸ F₁.ns.lt
  have old2 : ∀ b o, b < I + 2 → H2.get? b = some o → h₁.get? b = some o := fun b o hb e => hsb₁.extBut b o (Nat.ne_of_lt hb) (Heap.get?_push_of_some _ e)
  have up2 : ∀ b o, H1.get? b = some o → H2.get? b = some o := fun b o e => hH2 ▸ Heap.get?_push_of_some _ e
  have old : ∀ b o, s₁.heap.get? b = some o → h₁.get? b = some o := fun b o e => old2 b o (Nat.lt_of_lt_of_le (hI ▸ Heap.lt_size e) (Nat.le_add_right I 2)) (up2 _ _ (up1 _ _ e))
  have hacc : h₁.DictOf (strKind prog w) (I + 1) [] := hnew.at fun o e => old2 _ o (Nat.lt_succ_self _) e
  have gI1 : h₁.get? I = some oI₀ := old2 _ _ (Nat.lt_of_lt_of_le (Nat.lt_succ_self _) (Nat.le_succ _)) (up2 _ _ gI)
  have lts : ∀ p ∈ news, p.1 < I := fun p hp => hI ▸ Heap.lt_size (N₁ p hp).1
  have stOf : ∀ i (h h' : Heap) o nw, (h.IsKeyIter I d i kvs₀.length ep ∧ h.DictAt (strKind prog w) d kvs₀ ep) → h.get? I = some o → h'.get? I = some o → News h₀ L h' nw → (d, od) ∈ nw → (h'.IsKeyIter I d i kvs₀.length ep ∧ h'.DictAt (strKind prog w) d kvs₀ ep) := by
    rintro i h h' o nw ⟨a, _⟩ e e' N hm
    exact ⟨a.at fun o' q => by rw [e] at q; cases q; exact e', hat.dictAt (N _ hm).1⟩
  have hst₁ : h₁.IsKeyIter I d 0 kvs₀.length ep ∧ h₁.DictAt (strKind prog w) d kvs₀ ep :=
    ⟨⟨oI₀, gI1, by rw [← hoI₀], by rw [← hoI₀]; rfl⟩, hat.dictAt (old _ _ (N₁ _ hmem).1)⟩
  have hCL : (I + 2 : Addr) ≠ L := Ne.symm (Nat.ne_of_lt (Nat.lt_of_lt_of_le hLlt (Nat.le_add_right I 2)))
  have hDL : (I + 1 : Addr) ≠ L := Ne.symm (Nat.ne_of_lt (Nat.lt_of_lt_of_le hLlt (Nat.le_add_right I 1)))
  have hIL : I ≠ L := Ne.symm (Nat.ne_of_lt hLlt)
  have hCD : (I + 2 : Addr) ≠ I + 1 := fun q => Nat.succ_ne_self (I + 1) q
  have hCI : I ≠ (I + 2 : Addr) := Nat.ne_of_lt (Nat.lt_add_of_pos_right (Nat.succ_pos 1))
  have hDI : I ≠ (I + 1 : Addr) := Nat.ne_of_lt (Nat.lt_succ_self I)
  have hD1 : ((I + 1 : Addr) == sysModules) = false := by
    have h9 : @LT.lt Nat _ L I := hLlt
    show ((I + 1 : Nat) == 1) = false
    exact beq_eq_false_iff_ne.mpr fun e => absurd (Nat.succ.inj e) (Nat.ne_of_gt (Nat.lt_of_le_of_lt (Nat.zero_le _) h9))
  have loop : ∀ s₃ : Shared, s₃ = { s₁ with heap := h₁, toks := s₁.toks + ([] : List (Str × Value)).length } →
      codeAny (model prog w) A (.compLoop (.DictComp kx vx [⟨.Name x px, iter, [], 0⟩] scope pos) 0 (.ref I) (.ref (I + 1)) (compEnvC scope cl (I + 2) env))
        (compPost (model prog w) A E none Q (.ref (I + 1)) (I + 2)) s₃ := by
    rintro s₃ rfl
    refine codeAny_compLoop_testsD
      (fun k s' => ∃ h' tk i kvs oD m' nw, s' = { s₁ with heap := h', toks := tk } ∧ i ≤ kvs₀.length ∧ k = kvs₀.length + 1 - i ∧ kvs.length ≤ i ∧ (h'.IsKeyIter I d i kvs₀.length ep ∧ h'.DictAt (strKind prog w) d kvs₀ ep) ∧ Fr h₀ L h' m ∧ h'.Ns (I + 2) m' ∧
        oD.IsDictOf (strKind prog w) kvs ∧ News h₀ L h' ((I + 1, oD) :: nw) ∧ Off3 I (I + 2) (I + 1) nw ∧ J i kvs nw) ?_ (kvs₀.length + 1) ?_
    · rintro k s' ⟨h', tk, i, kvs, oD, m', nw, rfl, hi, rfl, hkl, hst', F', hn', hoD, N', off', hJ⟩
      by_cases hlt : i < kvs₀.length
      · refine W.item i _ _ _ hlt hst' fun v h₂ tk₂ hPv hst₂ hk₂ => ?_
        obtain ⟨k, x₀, hkx, hkv⟩ := hPv
        refine wpAny_assign_Name (wpAny_storeName_local (lookup_relabel_local hx) (hn'.at' fun o e => hk₂ _ o (by simpa using Ne.symm hCI) e) (fun h₃ hn₃ hs₃ => ?_) (by simp [compEnvC, relabel, hkind]))
        refine wpAny_tests_nil ?_
        simp only [if_true]
        have off3 := off'.mem
        have hdC : d ≠ (I + 2 : Addr) := by exact Nat.ne_of_lt (Nat.lt_of_lt_of_le hdlt (Nat.le_add_right I 2))
        have hst₃ : h₃.IsKeyIter I d (i + 1) kvs₀.length ep ∧ h₃.DictAt (strKind prog w) d kvs₀ ep := W.frame _ _ _ hst₂ fun b hb o e => hs₃.extBut b o (fun q => by
          simp only [List.mem_cons, List.not_mem_nil, or_false] at hb
          rcases hb with rfl | rfl
          · exact hCI q
          · exact hdC q) e
        obtain ⟨oI, heI, hIc⟩ := id hst₃.1
        obtain ⟨oC, heC, hoC⟩ := ns_obj hn₃
        have F₃ : Fr h₀ L h₃ m := (fr_but F' hk₂ (Ne.symm hIL) (fresh I (Nat.le_refl _))).change hs₃ hCL (fresh _ (Nat.le_add_right I 2))
        have N₂ : News h₀ L h₂ ((I + 1, oD) :: nw) := news_but N' hk₂ fun p hp => by
          rcases List.mem_cons.mp hp with rfl | hp
          · exact Ne.symm hDI
          · exact (off3 p hp).1
        have N₃ : News h₀ L h₃ ((I, oI) :: (I + 2, oC) :: (I + 1, oD) :: nw) := fun p hp => by
          rcases List.mem_cons.mp hp with rfl | hp
          · exact ⟨heI, hIL, fresh I (Nat.le_refl _)⟩
          · rcases List.mem_cons.mp hp with rfl | hp
            · exact ⟨heC, hCL, fresh _ (Nat.le_add_right I 2)⟩
            · have z := N₂ p hp
              refine ⟨hs₃.extBut _ _ ?_ z.1, z.2⟩
              rcases List.mem_cons.mp hp with rfl | hp
              · exact Ne.symm hCD
              · exact (off3 p hp).2.1
        refine wpAny_mono (turn i kvs nw hlt hJ k x₀ v I oI (I + 2) oC (I + 1) oD _ h₃ _ _ hkx hkv hoC (by simp) hoD F₃ N₃ off' ⟨hCI, hDI, hCD⟩) (fun kv s₄ h₄ => ?_) fun _ _ e => e
        refine wpAny_mono h₄ (fun vv s₅ h₅ => ?_) fun _ _ e => e
        obtain ⟨h₅, tk₅, k', nw', rfl, hkk, F₅, N₅, off₅, hJ₅⟩ := h₅
        have zI := (N₅ (I, oI) List.mem_cons_self).1
        have zC := (N₅ (I + 2, oC) (List.mem_cons_of_mem _ List.mem_cons_self)).1
        have zD := (N₅ (I + 1, oD) (List.mem_cons_of_mem _ (List.mem_cons_of_mem _ List.mem_cons_self))).1
        have N₅' : News h₀ L h₅ nw' := fun p hp => N₅ p (List.mem_cons_of_mem _ (List.mem_cons_of_mem _ (List.mem_cons_of_mem _ hp)))
        have hst₅ := stOf _ _ _ _ _ hst₃ heI zI N₅' (Jd _ _ _ hJ₅)
        have hk1 : kvs.length ≤ sizeLine := by rw [sizeLine_eq]; omega
        refine wpAny_dictSet_pairs (hsz := hk1) hkk (Heap.dictOf_iff.mpr ⟨oD, zD, hoD⟩) fun h₆ hl₆ hs₆ => ?_
        obtain ⟨oD', zD', hoD'⟩ := Heap.dictOf_iff.mp hl₆
        have off5 := off₅.mem
        refine ⟨kvs₀.length + 1 - (i + 1), Nat.sub_lt_sub_left (Nat.lt_succ_of_lt hlt) (Nat.lt_succ_self i), h₆, _, i + 1, _, oD', _, nw', rfl, hlt, rfl, ?_, ?_, F₅.change hs₆ hDL (fresh _ (Nat.le_add_right I 1)), (hoC.ns zC).sameBut hs₆ hCD, hoD', fun p hp => ?_, off₅, hJ₅⟩
        · have := stored_length_le kvs k' vv; omega
        · refine W.frame _ _ _ hst₅ fun b hb o e => hs₆.extBut b o (fun q => ?_) e
          simp only [List.mem_cons, List.not_mem_nil, or_false] at hb
          rcases hb with rfl | rfl
          · exact hDI q
          · exact Nat.ne_of_lt (Nat.lt_of_lt_of_le hdlt (Nat.le_add_right I 1)) q
        · rcases List.mem_cons.mp hp with rfl | hp
          · exact ⟨zD', hDL, fresh _ (Nat.le_add_right I 1)⟩
          · exact ⟨hs₆.extBut _ _ (off5 p hp).2.2 (N₅' p hp).1, (N₅' p hp).2⟩
      · obtain rfl : i = kvs₀.length := Nat.le_antisymm hi (Nat.not_lt.mp hlt)
        refine W.done _ _ _ hst' fun h₂ tk₂ hk₂ => ?_
        have off3 := off'.mem
        have F₂ : Fr h₀ L h₂ m := fr_but F' hk₂ (Ne.symm hIL) (fresh I (Nat.le_refl _))
        have N₂ : News h₀ L h₂ ((I + 1, oD) :: nw) := news_but N' hk₂ fun p hp => by
          rcases List.mem_cons.mp hp with rfl | hp
          · exact Ne.symm hDI
          · exact (off3 p hp).1
        refine ⟨m', hn'.at' fun o e => hk₂ _ o (by simpa using Ne.symm hCI) e, fun h'' hs'' => fin kvs nw (I + 1) oD h'' _ hJ hoD (F₂.change hs'' hCL (fresh _ (Nat.le_add_right I 2))) (fun p hp => ?_) off'.one hD1⟩
        refine ⟨hs''.extBut _ _ ?_ (N₂ p hp).1, (N₂ p hp).2⟩
        rcases List.mem_cons.mp hp with rfl | hp
        · exact Ne.symm hCD
        · exact (off3 p hp).2.1
    · obtain ⟨oD, zD, hoD⟩ := Heap.dictOf_iff.mp hacc
      refine ⟨h₁, _, 0, [], oD, _, news, rfl, Nat.zero_le _, rfl, Nat.le_refl _, hst₁, F₁.keeps old, hns₁, hoD, fun p hp => ?_, Off3.of fun p hp => ?_, J₀⟩
      · rcases List.mem_cons.mp hp with rfl | hp
        · exact ⟨zD, hDL, fresh _ (Nat.le_add_right I 1)⟩
        · exact ⟨old _ _ (N₁ p hp).1, (N₁ p hp).2⟩
      · have h9 : (p.1 : Nat) < I := lts p hp
        refine ⟨Nat.ne_of_lt h9, fun q => ?_, fun q => ?_⟩
        · exact Nat.ne_of_lt (Nat.lt_of_lt_of_le h9 (Nat.le_add_right I 2)) q
        · exact Nat.ne_of_lt (Nat.lt_of_lt_of_le h9 (Nat.le_add_right I 1)) q
  exact codeAny_compStart_dict (loop _ rfl) (W.self 0 _ _ _ hst₁ (loop _ rfl))
end
end

section
set_option maxHeartbeats 4000000
open PySem PySem.W PyProof.Rows PySem.Calls PySem.Spec
noncomputable def DEnd (prog : Program) (w : World) (h₀ : Heap) (L : Addr) (m : Str → Option Value) (I : Addr) (oI : Obj) (C : Addr) (oC : Obj) (d : Addr) (r : List (Addr × Obj)) (Rl : List (Str × Value) → Prop) (s : Shared) (fl : Flow) (s₂ : Shared) : Prop :=
  fl = .next ∧ ∃ h' tk' o' kvs', s₂ = { s with heap := h', toks := tk' } ∧ Fr h₀ L h' m ∧ News h₀ L h' ((I, oI) :: (C, oC) :: (d, o') :: r) ∧ o'.IsDictOf (strKind prog w) kvs' ∧ Rl kvs'
section
variable {prog : Program} {w : World} {A : Around} {E : Value → Shared → Prop} {s : Shared} {h₀ : Heap} {name : Str} {scope : Scope} {L a : Addr} {cd : Value} {cl : List (Str × Addr)} {Q : Flow → Shared → Prop}
theorem for_dict {x : Str} {px : Pos} {body : List Stmt} {C d : Addr} {o oC : Obj} {r : List (Addr × Obj)} {kvs : List (Str × Value)} {m₀ : Str → Option Value} (xs : List Value) (words : List Str) (Rl : Nat → List (Str × Value) → Prop)
    (hk : scope.kind = .function) (hl : (envX name scope L a cd cl).kindOf x = some .local) (hh : A.handled = none)
    (F : Fr h₀ L s.heap m₀) (N : News h₀ L s.heap ((C, oC) :: (d, o) :: r)) (hoC : oC = tupOf xs) (hx : Strs xs words) (hd : o.IsDictOf (strKind prog w) kvs) (hR : Rl 0 kvs) (hCd : @Ne Nat C d)
    (turn : ∀ i word t o kvs h tk I oI, words[i]? = some word → oI.cls = .type "tuple_iterator" → o.IsDictOf (strKind prog w) kvs → Rl i kvs → (@Ne Nat C d) → (@LT.lt Nat _ d I) → (∀ p ∈ r, p.1 < I) →
      Fr h₀ L h (fun z => if z = x then some (.str word t) else m₀ z) → News h₀ L h ((I, oI) :: (C, oC) :: (d, o) :: r) →
      wpAny (model prog w) A (execs body (envX name scope L a cd cl)) (DEnd prog w h₀ L (fun z => if z = x then some (.str word t) else m₀ z) I oI C oC d r (Rl (i + 1)) { s with heap := h, toks := tk }) E { s with heap := h, toks := tk })
    (fin : ∀ ov o kvs h tk, o.IsDictOf (strKind prog w) kvs → Rl words.length kvs → Fr h₀ L h (fun z => if z = x then ov else m₀ z) → News h₀ L h ((d, o) :: r) → Q .next { s with heap := h, toks := tk }) :
    wpAny (model prog w) A (pyIter (.ref C)) (fun it s₂ => TurnsAt prog w A h₀ (envX name scope L a cd cl) (.Name x px) body Q E it s₂) E s := by
  subst hoC
  refine iter_tupTurns (lo := tupOf xs) (vs := xs) hh F N (List.mem_cons_self ..) rfl rfl fun I hI => ?_
  have hCI : C < I := hI _ (List.mem_cons_self ..)
  have hdI : d < I := hI (d, o) (List.mem_cons_of_mem _ (List.mem_cons_self ..))
  have hrI : ∀ p ∈ r, p.1 < I := fun p hp => hI p (List.mem_cons_of_mem _ (List.mem_cons_of_mem _ hp))
  have hlen := hx.length
  refine items_ind xs (fun (_ : Unit) => m₀) (fun i _ nw => ∃ o kvs, nw = (C, tupOf xs) :: (d, o) :: r ∧ o.IsDictOf (strKind prog w) kvs ∧ Rl i kvs) () hk hl (fun _ _ => rfl) ⟨o, kvs, rfl, hd, hR⟩ ?_ ?_
  · intro i v st nw h tk hv hJ F
    obtain ⟨o, kvs, rfl, hd, hR⟩ := hJ
    obtain ⟨word, t, hw, rfl⟩ := hx.at hv
    refine AllObj.cons fun oI hoI => AllObj.nil fun N => ?_
    refine wpAny_mono (turn i word t o kvs h tk I oI hw hoI hd hR hCd hdI hrI F N) (fun fl s₂ q => ?_) fun _ _ q => q
    obtain ⟨rfl, h', tk', o', kvs', rfl, F', N', hd', hR'⟩ := q
    refine ⟨h', tk', _, (C, tupOf xs) :: (d, o') :: r, rfl, F', N', ?_, ⟨List.mem_cons_self .., trivial⟩, (), fun z hz => if_neg hz, o', kvs', rfl, hd', hR'⟩
    intro p hp q hq
    obtain rfl := List.mem_singleton.mp hq
    rcases List.mem_cons.mp hp with rfl | hp
    · exact Nat.ne_of_lt hCI
    rcases List.mem_cons.mp hp with rfl | hp
    · exact Nat.ne_of_lt hdI
    exact Nat.ne_of_lt (hrI p hp)
  · intro ov st nw h tk hJ F N
    obtain ⟨o, kvs, rfl, hd, hR⟩ := hJ
    exact fin ov o kvs h tk hd (by rw [← hlen]; exact hR) F fun p hp => N p (List.mem_cons_of_mem _ hp)
end
/-- a dict's pairs: words, each with an int -/
inductive IntL : List (Str × Value) → List (Str × Int) → Prop where
  | nil : IntL [] []
  | cons {k : Str} {n : Int} {t : Tok} {kvs : List (Str × Value)} {tab : List (Str × Int)} : IntL kvs tab → IntL ((k, .int n t) :: kvs) ((k, n) :: tab)
theorem IntL.length {kvs : List (Str × Value)} {tab : List (Str × Int)} (x : IntL kvs tab) : kvs.length = tab.length := by
  induction x with
  | nil => rfl
  | cons _ ih => simp [ih]
theorem IntL.none {kvs : List (Str × Value)} {tab : List (Str × Int)} (x : IntL kvs tab) {k : Str} (h : tab.all (fun p => !decide (p.1 = k)) = true) : valueAt kvs k = none := by
  induction x with
  | nil => rfl
  | @cons k' n t kvs tab _ ih =>
    simp only [List.all_cons, Bool.and_eq_true] at h
    have hk : decide (k' = k) = false := by simpa using h.1
    unfold valueAt
    rw [List.find?_cons_of_neg (by simpa using hk)]
    exact ih h.2
theorem IntL.snoc {kvs : List (Str × Value)} {tab : List (Str × Int)} (x : IntL kvs tab) {k : Str} {n : Int} {t : Tok} : IntL (kvs ++ [(k, .int n t)]) (tab ++ [(k, n)]) := by
  induction x with
  | nil => exact .cons .nil
  | cons _ ih => exact .cons ih
theorem IntL.stored {kvs : List (Str × Value)} {tab : List (Str × Int)} (x : IntL kvs tab) {k : Str} {n : Int} {t : Tok} (h : tab.all (fun p => !decide (p.1 = k)) = true) : IntL (PySem.stored kvs k (.int n t)) (tab ++ [(k, n)]) := by
  rw [stored_absent (x.none h)]; exact x.snoc
theorem IntL.at {kvs : List (Str × Value)} {tab : List (Str × Int)} (x : IntL kvs tab) : ∀ {i : Nat} {k : Str} {v : Value}, kvs[i]? = some (k, v) → ∃ n t, tab[i]? = some (k, n) ∧ v = .int n t := by
  induction x with
  | nil => intro i k v e; simp at e
  | cons _ ih =>
    intro i k v e
    cases i with
    | zero => simp at e; obtain ⟨rfl, rfl⟩ := e; exact ⟨_, _, rfl, rfl⟩
    | succ i => simpa using ih (by simpa using e)
/-- the table with the first words of a list put in, each with z -/
noncomputable def itabw (tab : List (Str × Int)) (words : List Str) (z : Int) (i : Nat) : List (Str × Int) := tab ++ (words.take i).map fun k => (k, z)
theorem itabw_succ {tab : List (Str × Int)} {words : List Str} {z : Int} {i : Nat} {k : Str} (h : words[i]? = some k) : itabw tab words z i ++ [(k, z)] = itabw tab words z (i + 1) := by
  unfold itabw
  rw [List.take_add_one, h]
  simp
theorem valueAt_at {kvs : List (Str × Value)} (hn : (kvs.map (·.1)).Nodup) : ∀ {i : Nat} {k : Str} {v : Value}, kvs[i]? = some (k, v) → valueAt kvs k = some v := by
  induction kvs with
  | nil => intro i k v e; simp at e
  | cons p r ih =>
    intro i k v e
    simp only [List.map_cons, List.nodup_cons] at hn
    cases i with
    | zero =>
      simp at e; subst e
      unfold valueAt; simp
    | succ i =>
      have e' : r[i]? = some (k, v) := by simpa using e
      have hne : p.1 ≠ k := fun q => hn.1 (by rw [q]; exact List.mem_map.mpr ⟨(k, v), List.mem_of_getElem? e', rfl⟩)
      unfold valueAt
      rw [List.find?_cons_of_neg (by simpa using hne)]
      exact ih hn.2 e'
theorem strKey_inv {prog : Program} {w : World} {k : Str} {v : Value} (h : (strKind prog w).is k v = true) : ∃ t, v = .str k t := by
  cases v with
  | str x t => simp [PySem.strKind, Value.isStrOf] at h; exact ⟨t, by rw [h]⟩
  | _ => simp [PySem.strKind, Value.isStrOf] at h
theorem itabw_zero {tab : List (Str × Int)} {words : List Str} {z : Int} : itabw tab words z 0 = tab := by unfold itabw; simp
theorem intl_size {kvs : List (Str × Value)} {tab : List (Str × Int)} {words : List Str} {z : Int} {i : Nat} (x : IntL kvs (itabw tab words z i)) (h : tab.length + words.length ≤ 1000) : kvs.length ≤ sizeLine := by
  rw [x.length, sizeLine_eq]; unfold itabw
  simp only [List.length_append, List.length_map, List.length_take]
  omega
theorem intl_next {kvs : List (Str × Value)} {tab : List (Str × Int)} {words : List Str} {z : Int} {i : Nat} {word : Str} {t : Tok} (hw : words[i]? = some word) (x : IntL kvs (itabw tab words z i))
    (hf : ((List.range words.length).all fun i => (itabw tab words z i).all (fun p => !decide (p.1 = words.getD i (Str.ofString "")))) = true) : IntL (PySem.stored kvs word (.int z t)) (itabw tab words z (i + 1)) := by
  have hi : i < words.length := (List.getElem?_eq_some_iff.mp hw).1
  have hfr := List.all_eq_true.mp hf i (List.mem_range.mpr hi)
  have hwd : words.getD i (Str.ofString "") = word := by rw [List.getD_eq_getElem?_getD, hw]; rfl
  rw [hwd] at hfr
  rw [← itabw_succ hw]
  exact x.stored hfr
end

section
set_option maxHeartbeats 4000000
open PySem PySem.W PyProof.Rows PySem.Calls PySem.Spec
noncomputable def numTab (l : List (Str × Int)) : List (Str × List Str) := l.map fun p => (p.1, List.replicate p.2.toNat (Str.ofString "number"))
theorem numTab_succ {itab : List (Str × Int)} {i : Nat} {k : Str} {n : Int} (h : itab[i]? = some (k, n)) : numTab (itab.take i) ++ [(k, List.replicate n.toNat (Str.ofString "number"))] = numTab (itab.take (i + 1)) := by
  unfold numTab
  rw [List.take_add_one, h]
  simp
theorem strs_repl {k : Str} {t : Tok} : ∀ {n : Nat}, Strs (List.replicate n [Value.str k t]).flatten (List.replicate n k)
  | 0 => .nil
  | n + 1 => by
    rw [List.replicate_succ, List.replicate_succ]
    exact .cons strs_repl
noncomputable def PathJ (itab : List (Str × Int)) (d : Addr) (od : Obj) (c : Addr) (oc : Obj) (i : Nat) (kvs : List (Str × Value)) (nw : List (Addr × Obj)) : Prop :=
  ∃ tl, nw = (d, od) :: (c, oc) :: tl ∧ TabL tl kvs (numTab (itab.take i)) ∧ AllTup tl
theorem PathJ.next {itab : List (Str × Int)} {d c T : Addr} {od oc : Obj} {i : Nat} {kvs : List (Str × Value)} {tl : List (Addr × Obj)} {k : Str} {t : Tok} {n : Int} (ht : TabL tl kvs (numTab (itab.take i))) (hc : AllTup tl) (h : itab[i]? = some (k, n))
    (hf : ((List.range itab.length).all fun i => (numTab (itab.take i)).all (fun p => !decide (p.1 = (itab.getD i (Str.ofString "", 0)).1))) = true) :
    PathJ itab d od c oc (i + 1) (PySem.stored kvs k (.ref T)) ((d, od) :: (c, oc) :: (T, tupOf (List.replicate n.toNat [Value.str (Str.ofString "number") t]).flatten) :: tl) := by
  refine ⟨_, rfl, ?_, .cons (ks := []) ⟨_, rfl⟩ hc⟩
  have hi : i < itab.length := (List.getElem?_eq_some_iff.mp h).1
  have hfr := List.all_eq_true.mp hf i (List.mem_range.mpr hi)
  have hwd : (itab.getD i (Str.ofString "", 0)).1 = k := by rw [List.getD_eq_getElem?_getD, h]; rfl
  rw [hwd] at hfr
  rw [stored_absent (ht.none hfr), ← numTab_succ h]
  exact (ht.sub fun p hp => List.mem_cons_of_mem _ hp).snoc (List.mem_cons_self ..) ⟨_, strs_repl, rfl⟩
theorem sub_path {a b c d e f : Addr × Obj} {tl : List (Addr × Obj)} {T0 : Addr × Obj} : ∀ p ∈ a :: b :: c :: d :: e :: f :: tl, p ∈ f :: T0 :: a :: b :: c :: d :: e :: tl := by
  intro p hp
  simp only [List.mem_cons] at hp ⊢
  rcases hp with h | h | h | h | h | h | h <;> simp [h]
theorem path_src {prog : Program} {w : World} {A : Around} {h₀ : Heap} {L : Addr} {m : Str → Option Value} {env : Env} {kx vx : Expr} {x : Str} {scope : Scope} {cl : List (Str × Addr)} {Q : Value → Shared → Prop} {d c : Addr} {od oc : Obj} {kvs₀ : List (Str × Value)} {s₁ : Shared} (itab : List (Str × Int)) (hh : A.handled = none) (F : Fr h₀ L s₁.heap m) (N : News h₀ L s₁.heap [(d, od), (c, oc)]) (hd : od.IsDictOf (strKind prog w) kvs₀) (hs : (d == sysModules) = false)
    (hI : IntL kvs₀ itab) (hz : itab.length ≤ 1000) (turn : DTurn prog w A h₀ L m env kx vx x scope cl s₁ kvs₀ (PathJ itab d od c oc))
    (fin : ∀ kvs tl D oD h tk, TabL tl kvs (numTab itab) → AllTup tl → oD.IsDictOf (strKind prog w) kvs → Fr h₀ L h m → News h₀ L h ((D, oD) :: tl) → (∀ p ∈ tl, p.1 ≠ D) → (D == sysModules) = false → Q (.ref D) { s₁ with heap := h, toks := tk }) :
    DSrc prog w A h₀ L m env kx vx x scope cl Q (.ref d) s₁ := by
  refine DSrc.intro (PathJ itab d od c oc) hh F N (List.mem_cons_self ..) hd hs (by rw [hI.length]; exact hz) ⟨[], rfl, .nil, .nil⟩ (fun i kvs nw ⟨tl, e, _⟩ => e ▸ List.mem_cons_self ..) turn fun kvs nw D oD h tk hJ hD F N o1 lo => ?_
  obtain ⟨tl, rfl, ht, hc⟩ := hJ
  rw [hI.length, List.take_length] at ht
  exact fin kvs tl D oD h tk ht hc hD F (fun p hp => N p (by
    rcases List.mem_cons.mp hp with rfl | hp
    · exact List.mem_cons_self ..
    · exact List.mem_cons_of_mem _ (List.mem_cons_of_mem _ (List.mem_cons_of_mem _ hp)))) (fun p hp e => by
    obtain ⟨vs, hvs⟩ := hc p hp
    have h1 := (N (D, oD) (List.mem_cons_self ..)).1
    have h2 := (N p (List.mem_cons_of_mem _ (List.mem_cons_of_mem _ (List.mem_cons_of_mem _ hp)))).1
    rw [e] at h2
    have e3 : oD = p.2 := Option.some.inj (h1.symm.trans h2)
    obtain ⟨es, ep, hx, hdat, _⟩ := hD
    rw [e3, hvs] at hdat
    cases hdat) lo
theorem path_get {itab : List (Str × Int)} {kvs₀ : List (Str × Value)} {prog : Program} {w : World} {od : Obj} {i : Nat} {k : Str} {x : Value} (hI : IntL kvs₀ itab) (hd : od.IsDictOf (strKind prog w) kvs₀) (h : kvs₀[i]? = some (k, x))
    (hb : itab.all (fun p => decide (p.2 ≠ 1) && decide (0 ≤ p.2) && decide (p.2 < 1000)) = true) : ∃ n t, x = .int n t ∧ itab[i]? = some (k, n) ∧ valueAt kvs₀ k = some (.int n t) ∧ n ≠ 1 ∧ 0 ≤ n ∧ n < 1000 := by
  obtain ⟨n, t, h1, rfl⟩ := hI.at h
  obtain ⟨es, ep, _, _, _, _, hn⟩ := hd
  have h2 := List.all_eq_true.mp hb (k, n) (List.mem_of_getElem? h1)
  simp only [Bool.and_eq_true, decide_eq_true_eq] at h2
  exact ⟨n, t, rfl, h1, valueAt_at hn h, h2.1.1, h2.1.2, h2.2⟩
theorem off3_hd1 {I C D : Addr} {a b : Addr × Obj} {tl : List (Addr × Obj)} (x : LCg.Off3 I C D (a :: b :: tl)) : a.1 ≠ I ∧ a.1 ≠ C ∧ a.1 ≠ D := x.1
theorem off3_hd2 {I C D : Addr} {a b : Addr × Obj} {tl : List (Addr × Obj)} (x : LCg.Off3 I C D (a :: b :: tl)) : b.1 ≠ I ∧ b.1 ≠ C ∧ b.1 ≠ D := x.2.1
theorem off3_hd3 {I C D : Addr} {a b : Addr × Obj} {tl : List (Addr × Obj)} (x : LCg.Off3 I C D (a :: b :: tl)) : LCg.Off3 I C D tl := x.2.2
theorem path_end {prog : Program} {w : World} {h₀ : Heap} {L : Addr} {m : Str → Option Value} {s₁ : Shared} {I : Addr} {oI : Obj} {C : Addr} {oC : Obj} {D : Addr} {oD : Obj} {itab : List (Str × Int)} {d c T : Addr} {od oc : Obj} {i : Nat} {kvs : List (Str × Value)} {tl : List (Addr × Obj)} {k : Str} {t t' : Tok} {n : Int} {T0 : Addr × Obj} {h' : Heap} {tk' : Nat}
    (N : News h₀ L h' ((T, tupOf (List.replicate n.toNat [Value.str (Str.ofString "number") t]).flatten) :: T0 :: (I, oI) :: (C, oC) :: (D, oD) :: (d, od) :: (c, oc) :: tl)) (ht : TabL tl kvs (numTab (itab.take i))) (hc : AllTup tl) (h : itab[i]? = some (k, n))
    (F : Fr h₀ L h' m) (hf : ((List.range itab.length).all fun i => (numTab (itab.take i)).all (fun p => !decide (p.1 = (itab.getD i (Str.ofString "", 0)).1))) = true) (off : LCg.Off3 I C D ((d, od) :: (c, oc) :: tl)) (hTI : @Ne Nat T I) (hTC : @Ne Nat T C) (hTD : @Ne Nat T D) :
    DKeep prog w h₀ L m s₁ I oI C oC D oD (fun k' vv nw' => PathJ itab d od c oc (i + 1) (PySem.stored kvs k' vv) nw') (.str k t') (.ref T) { s₁ with heap := h', toks := tk' } :=
  DKeep.intro F N _ sub_path ⟨off.1, off.2.1, ⟨hTI, hTC, hTD⟩, off.2.2⟩ (strKind_is _ _ _ _) (PathJ.next ht hc h hf)
end

section
set_option maxHeartbeats 4000000
open PySem PySem.W PyProof.Rows PySem.Calls PySem.Spec
noncomputable def MEnd (prog : Program) (w : World) (h₀ : Heap) (L : Addr) (m : Str → Option Value) (I : Addr) (oI : Obj) (f d : Addr) (od : Obj) (r : List (Addr × Obj)) (Rl : List (Str × Value) → Prop) (s : Shared) (fl : Flow) (s₂ : Shared) : Prop :=
  fl = .next ∧ ∃ h' tk' o' kvs', s₂ = { s with heap := h', toks := tk' } ∧ Fr h₀ L h' m ∧ News h₀ L h' ((I, oI) :: (f, o') :: (d, od) :: r) ∧ o'.IsDictOf (strKind prog w) kvs' ∧ Rl kvs'
section
variable {prog : Program} {w : World} {A : Around} {E : Value → Shared → Prop} {s : Shared} {h₀ : Heap} {name : Str} {scope : Scope} {L a : Addr} {cd : Value} {cl : List (Str × Addr)} {Q : Flow → Shared → Prop}
/-- a loop over a dict's keys that changes one other dict -/
theorem for_keys {x : Str} {px : Pos} {body : List Stmt} {f d : Addr} {of od : Obj} {r : List (Addr × Obj)} {kvs₀ kvs₁ : List (Str × Value)} {m₀ : Str → Option Value} (Rl : Nat → List (Str × Value) → Prop)
    (hk : scope.kind = .function) (hl : (envX name scope L a cd cl).kindOf x = some .local) (hh : A.handled = none)
    (F : Fr h₀ L s.heap m₀) (N : News h₀ L s.heap ((f, of) :: (d, od) :: r)) (hf : of.IsDictOf (strKind prog w) kvs₀) (hd : od.IsDictOf (strKind prog w) kvs₁) (lo : (d == sysModules) = false) (hR : Rl 0 kvs₀)
    (turn : ∀ i k v t of kvs h tk I oI, kvs₁[i]? = some (k, v) → of.IsDictOf (strKind prog w) kvs → Rl i kvs → oI.cls = .type "dict_keyiterator" → (@LT.lt Nat _ f I) → (@LT.lt Nat _ d I) → (∀ p ∈ r, p.1 < I) →
      Fr h₀ L h (fun z => if z = x then some (.str k t) else m₀ z) → News h₀ L h ((I, oI) :: (f, of) :: (d, od) :: r) →
      wpAny (model prog w) A (execs body (envX name scope L a cd cl)) (MEnd prog w h₀ L (fun z => if z = x then some (.str k t) else m₀ z) I oI f d od r (Rl (i + 1)) { s with heap := h, toks := tk }) E { s with heap := h, toks := tk })
    (fin : ∀ ov of kvs h tk, of.IsDictOf (strKind prog w) kvs → Rl kvs₁.length kvs → Fr h₀ L h (fun z => if z = x then ov else m₀ z) → News h₀ L h ((f, of) :: (d, od) :: r) → Q .next { s with heap := h, toks := tk }) :
    wpAny (model prog w) A (pyIter (.ref d)) (fun it s₂ => TurnsAt prog w A h₀ (envX name scope L a cd cl) (.Name x px) body Q E it s₂) E s := by
  refine kta_keys (enc := PyData.str) hh F N (List.mem_cons_of_mem _ (List.mem_cons_self ..)) hd lo (fun k v h => by obtain ⟨t, rfl⟩ := strKey_inv h; exact ⟨t, rfl⟩) rfl fun I hI => ?_
  have hfI : f < I := hI _ (List.mem_cons_self ..)
  have hdI : d < I := hI (d, od) (List.mem_cons_of_mem _ (List.mem_cons_self ..))
  have hrI : ∀ p ∈ r, p.1 < I := fun p hp => hI p (List.mem_cons_of_mem _ (List.mem_cons_of_mem _ hp))
  refine items_indG _ (fun i v => ∃ k x t, kvs₁[i]? = some (k, x) ∧ v = .str k t) ?_ (fun (_ : Unit) => m₀) (fun i _ nw => ∃ of kvs, nw = (f, of) :: (d, od) :: r ∧ of.IsDictOf (strKind prog w) kvs ∧ Rl i kvs) () hk hl (fun _ _ => rfl) ⟨of, kvs₀, rfl, hf, hR⟩ ?_ ?_
  · intro i it v h e q
    rw [List.getElem?_map] at e
    cases hv : kvs₁[i]? with
    | none => rw [hv] at e; cases e
    | some p =>
      rw [hv] at e
      cases e
      obtain ⟨t, rfl⟩ := q
      exact ⟨p.1, p.2, t, rfl, rfl⟩
  · rintro i v st nw h tk _ ⟨k, x, t, hkx, rfl⟩ ⟨of, kvs, rfl, hof, hR⟩ F
    refine AllObj.cons fun oI hoI => AllObj.nil fun N => ?_
    refine wpAny_mono (turn i k x t of kvs h tk I oI hkx hof hR hoI hfI hdI hrI F N) (fun fl s₂ q => ?_) fun _ _ q => q
    obtain ⟨rfl, h', tk', o', kvs', rfl, F', N', hd', hR'⟩ := q
    refine ⟨h', tk', _, (f, o') :: (d, od) :: r, rfl, F', N', ?_, ⟨List.mem_cons_of_mem _ (List.mem_cons_self ..), trivial⟩, (), fun z hz => if_neg hz, o', kvs', rfl, hd', hR'⟩
    intro p hp q hq
    obtain rfl := List.mem_singleton.mp hq
    rcases List.mem_cons.mp hp with rfl | hp
    · exact Nat.ne_of_lt hfI
    rcases List.mem_cons.mp hp with rfl | hp
    · exact Nat.ne_of_lt hdI
    exact Nat.ne_of_lt (hrI p hp)
  · rintro ov st nw h tk ⟨of, kvs, rfl, hof, hR⟩ F N
    exact fin ov of kvs h tk hof (by rw [List.length_map] at hR; exact hR) F N
end
/-- what a pure call has made comes into the ledger -/
theorem news_fresh {h₀ h h' : Heap} {L : Addr} {m : Str → Option Value} {all l : List (Addr × Obj)} (F : Fr h₀ L h m) (N : News h₀ L h' all) (hf : ∀ p ∈ l, h'.get? p.1 = some p.2 ∧ h.get? p.1 = none) : News h₀ L h' (l ++ all) := fun p hp => by
  rcases List.mem_append.mp hp with hp | hp
  · refine ⟨(hf p hp).1, fun e => ?_, ?_⟩
    · obtain ⟨oL, _, _, hL, _⟩ := F.ns
      have := (hf p hp).2
      rw [e, hL] at this; cases this
    · cases q : h₀.get? p.1 with
      | none => rfl
      | some o => have := (hf p hp).2; rw [F.keep _ _ q] at this; cases this
  · exact N p hp
theorem fresh_ne {h₀ h h' : Heap} {L a : Addr} {o : Obj} {all l : List (Addr × Obj)} (N : News h₀ L h all) (hm : (a, o) ∈ all) (hf : ∀ p ∈ l, h'.get? p.1 = some p.2 ∧ h.get? p.1 = none) : ∀ p ∈ l, @Ne Nat p.1 a := fun p hp e => by
  have e' : p.1 = a := e
  have := (hf p hp).2
  rw [e', (N _ hm).1] at this; cases this
theorem TabL.at {tl : List (Addr × Obj)} {kvs : List (Str × Value)} {tab : List (Str × List Str)} (x : TabL tl kvs tab) : ∀ {i : Nat} {k : Str} {v : Value}, kvs[i]? = some (k, v) → ∃ T ob ks, v = .ref T ∧ tab[i]? = some (k, ks) ∧ (T, ob) ∈ tl ∧ StrTup ob ks := by
  induction x with
  | nil => intro i k v e; simp at e
  | cons a b _ ih =>
    intro i k v e
    cases i with
    | zero => simp at e; obtain ⟨rfl, rfl⟩ := e; exact ⟨_, _, _, rfl, rfl, a, b⟩
    | succ i => simpa using ih (by simpa using e)
end

section
set_option maxHeartbeats 4000000
open PySem PySem.W PyProof.Rows PySem.Calls PySem.Spec
theorem nodup_fresh {pre tab : List (Str × List Str)} {i : Nat} {k : Str} {ks : List Str} (h : ((pre ++ tab).map (·.1)).Nodup) (e : tab[i]? = some (k, ks)) : (pre ++ tab.take i).all (fun p => !decide (p.1 = k)) = true := by
  rw [List.all_eq_true]
  intro p hp
  simp only [Bool.not_eq_true', decide_eq_false_iff_not]
  intro q
  have hi : i < tab.length := (List.getElem?_eq_some_iff.mp e).1
  have hk : (k, ks) ∈ tab.drop i := by
    rw [List.mem_iff_getElem?]
    exact ⟨0, by rw [List.getElem?_drop]; simpa using e⟩
  have h2 : ((pre ++ tab.take i) ++ tab.drop i).map (·.1) = (pre ++ tab).map (·.1) := by rw [List.append_assoc, List.take_append_drop]
  rw [← h2, List.map_append, List.nodup_append] at h
  exact h.2.2 _ (List.mem_map.mpr ⟨p, hp, rfl⟩) _ (List.mem_map.mpr ⟨(k, ks), hk, rfl⟩) q
inductive DictsIn (prog : Program) (w : World) (f : Addr) (rr : List (Addr × Obj)) : List Value → List (List (Str × List Str)) → Prop where
  | nil : DictsIn prog w f rr [] []
  | cons {d : Addr} {od : Obj} {kvs : List (Str × Value)} {tab : List (Str × List Str)} {vs : List Value} {tabs : List (List (Str × List Str))} : (d, od) ∈ rr → od.IsDictOf (strKind prog w) kvs → TabL rr kvs tab → (d == sysModules) = false → (@Ne Nat d f) → DictsIn prog w f rr vs tabs → DictsIn prog w f rr (.ref d :: vs) (tab :: tabs)
theorem DictsIn.at {prog : Program} {w : World} {f : Addr} {rr : List (Addr × Obj)} {vs : List Value} {tabs : List (List (Str × List Str))} (x : DictsIn prog w f rr vs tabs) : ∀ {i : Nat} {v : Value}, vs[i]? = some v → ∃ d od kvs tab, v = .ref d ∧ tabs[i]? = some tab ∧ (d, od) ∈ rr ∧ od.IsDictOf (strKind prog w) kvs ∧ TabL rr kvs tab ∧ (d == sysModules) = false ∧ (@Ne Nat d f) := by
  induction x with
  | nil => intro i v e; simp at e
  | cons a b c d e _ ih =>
    intro i v q
    cases i with
    | zero => simp at q; subst q; exact ⟨_, _, _, _, rfl, rfl, a, b, c, d, e⟩
    | succ i => simpa using ih (by simpa using q)
theorem DictsIn.length {prog : Program} {w : World} {f : Addr} {rr : List (Addr × Obj)} {vs : List Value} {tabs : List (List (Str × List Str))} (x : DictsIn prog w f rr vs tabs) : vs.length = tabs.length := by
  induction x with
  | nil => rfl
  | cons _ _ _ _ _ _ ih => simp [ih]
noncomputable def OEnd (prog : Program) (w : World) (h₀ : Heap) (L : Addr) (x y : Str) (m₀ : Str → Option Value) (I : Addr) (oI : Obj) (C : Addr) (oC : Obj) (f : Addr) (rr : List (Addr × Obj)) (tab : List (Str × List Str)) (s : Shared) (fl : Flow) (s₂ : Shared) : Prop :=
  fl = .next ∧ ∃ h' tk' o' kvs' ov' m', s₂ = { s with heap := h', toks := tk' } ∧ Fr h₀ L h' m' ∧ (∀ z, z ≠ x → m' z = if z = y then ov' else m₀ z) ∧ News h₀ L h' ((I, oI) :: (C, oC) :: (f, o') :: rr) ∧ o'.IsDictOf (strKind prog w) kvs' ∧ TabL rr kvs' tab
section
variable {prog : Program} {w : World} {A : Around} {E : Value → Shared → Prop} {s : Shared} {h₀ : Heap} {name : Str} {scope : Scope} {L a : Addr} {cd : Value} {cl : List (Str × Addr)} {Q : Flow → Shared → Prop}
theorem for_dicts {x y : Str} {px : Pos} {body : List Stmt} {C f : Addr} {of oC : Obj} {rr : List (Addr × Obj)} {m₀ : Str → Option Value} (vs : List Value) (tabs : List (List (Str × List Str)))
    (hk : scope.kind = .function) (hl : (envX name scope L a cd cl).kindOf x = some .local) (hh : A.handled = none)
    (F : Fr h₀ L s.heap m₀) (hy : m₀ y = none) (N : News h₀ L s.heap ((C, oC) :: (f, of) :: rr)) (hoC : oC = tupOf vs) (hf : of.IsDictOf (strKind prog w) []) (hD : DictsIn prog w f rr vs tabs) (hrr : ∀ p ∈ rr, @Ne Nat p.1 f) (hCf : @Ne Nat C f)
    (turn : ∀ i d od kvs₁ tab₁ ov of kvs h tk I oI, tabs[i]? = some tab₁ → (d, od) ∈ rr → od.IsDictOf (strKind prog w) kvs₁ → TabL rr kvs₁ tab₁ → (d == sysModules) = false → (@Ne Nat d f) →
      of.IsDictOf (strKind prog w) kvs → TabL rr kvs ((tabs.take i).flatten) → oI.cls = .type "tuple_iterator" → (@LT.lt Nat _ f I) → (@Ne Nat C f) → (∀ p ∈ rr, @Ne Nat p.1 f) →
      Fr h₀ L h (fun z => if z = x then some (.ref d) else if z = y then ov else m₀ z) → News h₀ L h ((I, oI) :: (C, oC) :: (f, of) :: rr) →
      wpAny (model prog w) A (execs body (envX name scope L a cd cl)) (OEnd prog w h₀ L x y m₀ I oI C oC f rr ((tabs.take i).flatten ++ tab₁) { s with heap := h, toks := tk }) E { s with heap := h, toks := tk })
    (fin : ∀ ox oy of kvs h tk, of.IsDictOf (strKind prog w) kvs → TabL rr kvs tabs.flatten → Fr h₀ L h (fun z => if z = x then ox else if z = y then oy else m₀ z) → News h₀ L h ((f, of) :: rr) → Q .next { s with heap := h, toks := tk }) :
    wpAny (model prog w) A (pyIter (.ref C)) (fun it s₂ => TurnsAt prog w A h₀ (envX name scope L a cd cl) (.Name x px) body Q E it s₂) E s := by
  subst hoC
  refine iter_tupTurns (lo := tupOf vs) (vs := vs) hh F N (List.mem_cons_self ..) rfl rfl fun I hI => ?_
  have hCI : C < I := hI _ (List.mem_cons_self ..)
  have hfI : f < I := hI (f, of) (List.mem_cons_of_mem _ (List.mem_cons_self ..))
  have hrI : ∀ p ∈ rr, p.1 < I := fun p hp => hI p (List.mem_cons_of_mem _ (List.mem_cons_of_mem _ hp))
  have hlen := hD.length
  refine items_ind vs (fun (ov : Option Value) z => if z = y then ov else m₀ z) (fun i _ nw => ∃ of kvs, nw = (C, tupOf vs) :: (f, of) :: rr ∧ of.IsDictOf (strKind prog w) kvs ∧ TabL rr kvs ((tabs.take i).flatten)) none hk hl (fun z hz => ?_) ⟨of, [], rfl, hf, .nil⟩ ?_ ?_
  · by_cases e : z = y
    · subst e; simp [hy]
    · simp [e]
  · rintro i v ov nw h tk hv ⟨of, kvs, rfl, hof, hR⟩ F
    obtain ⟨d, od, kvs₁, tab₁, rfl, ht, hm, hod, hT, lo, hdf⟩ := hD.at hv
    refine AllObj.cons fun oI hoI => AllObj.nil fun N => ?_
    refine wpAny_mono (turn i d od kvs₁ tab₁ ov of kvs h tk I oI ht hm hod hT lo hdf hof hR hoI hfI hCf hrr F N) (fun fl s₂ q => ?_) fun _ _ q => q
    obtain ⟨rfl, h', tk', o', kvs', ov', m', rfl, F', hm', N', hd', hR'⟩ := q
    refine ⟨h', tk', m', (C, tupOf vs) :: (f, o') :: rr, rfl, F', N', ?_, ⟨List.mem_cons_self .., trivial⟩, ov', hm', o', kvs', rfl, hd', ?_⟩
    · intro p hp q hq
      obtain rfl := List.mem_singleton.mp hq
      rcases List.mem_cons.mp hp with rfl | hp
      · exact Nat.ne_of_lt hCI
      rcases List.mem_cons.mp hp with rfl | hp
      · exact Nat.ne_of_lt hfI
      exact Nat.ne_of_lt (hrI p hp)
    · rw [List.take_add_one, ht]
      simpa using hR'
  · rintro ox oy nw h tk ⟨of, kvs, rfl, hof, hR⟩ F N
    rw [hlen, List.take_length] at hR
    exact fin ox oy of kvs h tk hof hR F fun p hp => N p (List.mem_cons_of_mem _ hp)
end
end

section
set_option maxHeartbeats 4000000
open PySem PySem.W PyProof.Rows PySem.Calls PySem.Spec
section
variable {h₀ h h' : Heap} {L d : Addr} {o : Obj} {m : Str → Option Value} {a b c : Addr × Obj} {tl TL : List (Addr × Obj)}
theorem call_fold1 (F : Fr h₀ L h m) (N : News h₀ L h (a :: TL)) (e : Ext h h') (hfr : ∀ p ∈ (d, o) :: tl, h'.get? p.1 = some p.2 ∧ h.get? p.1 = none) (hn : ∀ p ∈ TL, @Ne Nat p.1 a.1) :
    ∃ TL', News h₀ L h' ((d, o) :: a :: TL') ∧ (∀ p ∈ tl, p ∈ TL') ∧ (∀ p ∈ TL, p ∈ TL') ∧ (∀ p ∈ TL', @Ne Nat p.1 a.1) ∧ @Ne Nat d a.1 := by
  have N' := news_fresh F (news_ext N e) hfr
  have hne := fresh_ne (a := a.1) (o := a.2) N (List.mem_cons_self ..) hfr
  refine ⟨tl ++ TL, fun p hp => N' p ?_, fun p hp => List.mem_append_left _ hp, fun p hp => List.mem_append_right _ hp, fun p hp => ?_, hne _ (List.mem_cons_self ..)⟩
  · simp only [List.mem_cons, List.mem_append] at hp ⊢
    rcases hp with h | h | h | h <;> simp [h]
  · rcases List.mem_append.mp hp with hp | hp
    · exact hne p (List.mem_cons_of_mem _ hp)
    · exact hn p hp
theorem call_fold2 (F : Fr h₀ L h m) (N : News h₀ L h (b :: a :: TL)) (e : Ext h h') (hfr : ∀ p ∈ (d, o) :: tl, h'.get? p.1 = some p.2 ∧ h.get? p.1 = none) (hn : ∀ p ∈ TL, @Ne Nat p.1 a.1) :
    ∃ TL', News h₀ L h' ((d, o) :: b :: a :: TL') ∧ (∀ p ∈ tl, p ∈ TL') ∧ (∀ p ∈ TL, p ∈ TL') ∧ (∀ p ∈ TL', @Ne Nat p.1 a.1) ∧ @Ne Nat d a.1 := by
  have N' := news_fresh F (news_ext N e) hfr
  have hne := fresh_ne (a := a.1) (o := a.2) N (List.mem_cons_of_mem _ (List.mem_cons_self ..)) hfr
  refine ⟨tl ++ TL, fun p hp => N' p ?_, fun p hp => List.mem_append_left _ hp, fun p hp => List.mem_append_right _ hp, fun p hp => ?_, hne _ (List.mem_cons_self ..)⟩
  · simp only [List.mem_cons, List.mem_append] at hp ⊢
    rcases hp with h | h | h | h | h <;> simp [h]
  · rcases List.mem_append.mp hp with hp | hp
    · exact hne p (List.mem_cons_of_mem _ hp)
    · exact hn p hp
theorem call_fold3 (F : Fr h₀ L h m) (N : News h₀ L h (c :: b :: a :: TL)) (e : Ext h h') (hfr : ∀ p ∈ (d, o) :: tl, h'.get? p.1 = some p.2 ∧ h.get? p.1 = none) (hn : ∀ p ∈ TL, @Ne Nat p.1 a.1) :
    ∃ TL', News h₀ L h' ((d, o) :: c :: b :: a :: TL') ∧ (∀ p ∈ tl, p ∈ TL') ∧ (∀ p ∈ TL, p ∈ TL') ∧ (∀ p ∈ TL', @Ne Nat p.1 a.1) ∧ @Ne Nat d a.1 := by
  have N' := news_fresh F (news_ext N e) hfr
  have hne := fresh_ne (a := a.1) (o := a.2) N (List.mem_cons_of_mem _ (List.mem_cons_of_mem _ (List.mem_cons_self ..))) hfr
  refine ⟨tl ++ TL, fun p hp => N' p ?_, fun p hp => List.mem_append_left _ hp, fun p hp => List.mem_append_right _ hp, fun p hp => ?_, hne _ (List.mem_cons_self ..)⟩
  · simp only [List.mem_cons, List.mem_append] at hp ⊢
    rcases hp with h | h | h | h | h | h <;> simp [h]
  · rcases List.mem_append.mp hp with hp | hp
    · exact hne p (List.mem_cons_of_mem _ hp)
    · exact hn p hp
end
noncomputable def allTab : List (Str × List Str) := stateTab ++ pathTab ++ textTab
theorem allTab_nodup : (allTab.map (·.1)).Nodup := by decide +kernel
noncomputable def tabs3 : List (List (Str × List Str)) := [stateTab, pathTab, textTab]
theorem tabs3_ok {i : Nat} {tab : List (Str × List Str)} (h : tabs3[i]? = some tab) : (((tabs3.take i).flatten ++ tab).map (·.1)).Nodup ∧ ((tabs3.take i).flatten ++ tab).length ≤ 1000 := by
  match i, h with
  | 0, h => cases h; exact ⟨by decide +kernel, by decide +kernel⟩
  | 1, h => cases h; exact ⟨by decide +kernel, by decide +kernel⟩
  | 2, h => cases h; exact ⟨by decide +kernel, by decide +kernel⟩
  | n + 3, h => exact absurd h (by simp [tabs3])
theorem reord4 {h₀ h : Heap} {L : Addr} {C d b a f : Addr × Obj} {TL : List (Addr × Obj)} (N : News h₀ L h (C :: d :: b :: a :: f :: TL)) : News h₀ L h (C :: f :: d :: b :: a :: TL) := fun p hp => N p (by
  simp only [List.mem_cons] at hp ⊢
  rcases hp with h | h | h | h | h | h <;> simp [h])
theorem inner_news {h₀ h : Heap} {L d : Addr} {od : Obj} {I C f : Addr × Obj} {rr : List (Addr × Obj)} (N : News h₀ L h (I :: C :: f :: rr)) (hm : (d, od) ∈ rr) : News h₀ L h (f :: (d, od) :: I :: C :: rr) := fun p hp => N p (by
  simp only [List.mem_cons] at hp ⊢
  rcases hp with h | h | h | h | h <;> simp [h, hm])
theorem outer_news {h₀ h : Heap} {L : Addr} {d I C f : Addr × Obj} {rr : List (Addr × Obj)} (N : News h₀ L h (f :: d :: I :: C :: rr)) : News h₀ L h (I :: C :: f :: rr) := fun p hp => N p (by
  simp only [List.mem_cons] at hp ⊢
  rcases hp with h | h | h | h <;> simp [h])
/-- the store found[word] = kinds[word] -/
theorem merge_set {prog : Program} {w : World} {A : Around} {E : Value → Shared → Prop} {s : Shared} {h₀ : Heap} {L f : Addr} {m : Str → Option Value} {of : Obj} {kvs kvs₁ : List (Str × Value)} {pre tab₁ : List (Str × List Str)} {rr r : List (Addr × Obj)} {I : Addr × Obj} {i : Nat} {k : Str} {v : Value} {t : Tok} {Q : Unit → Shared → Prop}
    (F : Fr h₀ L s.heap m) (N : News h₀ L s.heap (I :: (f, of) :: r)) (hI : @Ne Nat I.1 f) (hr : ∀ p ∈ r, @Ne Nat p.1 f) (hof : of.IsDictOf (strKind prog w) kvs) (hR : TabL rr kvs (pre ++ tab₁.take i)) (h₁ : TabL rr kvs₁ tab₁) (hk : kvs₁[i]? = some (k, v)) (hn : ((pre ++ tab₁).map (·.1)).Nodup) (hz : (pre ++ tab₁).length ≤ 1000)
    (h : ∀ h' o' kvs', Fr h₀ L h' m → News h₀ L h' (I :: (f, o') :: r) → o'.IsDictOf (strKind prog w) kvs' → TabL rr kvs' (pre ++ tab₁.take (i + 1)) → Q () { s with heap := h', toks := s.toks + 1 }) :
    wpAny (model prog w) A (setItem (.ref f) (.str k t) v) Q E s := by
  obtain ⟨T, ob, ks, rfl, ht, hm, hs⟩ := h₁.at hk
  refine kda_set F N (UpdF.tail (fun e => hI e) (UpdF.head fun p hp e => hr p hp e)) hof (strKind_is _ _ _ _) ?_ fun h' o' F' N' hd' => h h' o' _ F' N' hd' ?_
  · rw [hR.length, sizeLine_eq]
    simp only [List.length_append, List.length_take] at hz ⊢
    omega
  · rw [stored_absent (hR.none (nodup_fresh hn ht)), List.take_add_one, ht]
    have := hR.snoc (k := k) hm hs
    simpa using this
theorem TabL.get {prog : Program} {w : World} {od : Obj} {kvs : List (Str × Value)} {i : Nat} {k : Str} {v : Value} (hd : od.IsDictOf (strKind prog w) kvs) (h : kvs[i]? = some (k, v)) : valueAt kvs k = some v := by
  obtain ⟨es, ep, _, _, _, _, hn⟩ := hd
  exact valueAt_at hn h
theorem rr_of {f d3 d2 d1 : Addr} {o3 o2 o1 : Obj} {TL : List (Addr × Obj)} (h1 : @Ne Nat d1 f) (h2 : @Ne Nat d2 f) (h3 : @Ne Nat d3 f) (h : ∀ p ∈ TL, @Ne Nat p.1 f) : ∀ p ∈ (d3, o3) :: (d2, o2) :: (d1, o1) :: TL, @Ne Nat p.1 f := by
  intro p hp
  simp only [List.mem_cons] at hp
  rcases hp with rfl | rfl | rfl | hp
  · exact h3
  · exact h2
  · exact h1
  · exact h p hp
theorem inner_off {f d I : Addr} {od oI : Obj} {C : Addr × Obj} {rr : List (Addr × Obj)} (h1 : @Ne Nat d f) (h2 : @LT.lt Nat _ f I) (h3 : @Ne Nat C.1 f) (h : ∀ p ∈ rr, @Ne Nat p.1 f) : ∀ p ∈ (d, od) :: (I, oI) :: C :: rr, @Ne Nat p.1 f := by
  intro p hp
  simp only [List.mem_cons] at hp
  rcases hp with rfl | rfl | rfl | hp
  · exact h1
  · exact Nat.ne_of_gt h2
  · exact h3
  · exact h p hp
theorem two_ifs {x y : Str} {a b c : Option Value} {m₀ : Str → Option Value} : ∀ z, z ≠ x → (if z = y then a else if z = x then b else if z = y then c else m₀ z) = if z = y then a else m₀ z := by
  intro z hz
  by_cases h : z = y
  · simp [h]
  · simp [h, hz]
end

section
set_option maxHeartbeats 4000000
open PySem PySem.W PyProof.Rows PySem.Calls PySem.Spec
/-! zip of a list and of a tuple of the same length -/
section
variable {prog : Program} {w : World} {A : Around} {E : Value → Shared → Prop} {s : Shared}
theorem next_of_tuple {it t : Addr} {i : Nat} {items : Array Value} {x : Value} {Q : Value → Shared → Prop} (hit : s.heap.IsTupleIter it t i) (ht : s.heap.IsTuple t items) (hx : items[i]? = some x)
    (hQ : ∀ h', h'.IsTupleIter it t (i + 1) → Heap.SameBut it s.heap h' → Q x { s with heap := h' }) : wpAny (model prog w) A (Builtin.SmallTypes.nextOf (.ref it)) Q E s := by
  obtain ⟨oi, hoi, hci, hdi⟩ := id hit
  obtain ⟨ot, hot, _, nt, hdt⟩ := ht
  unfold Builtin.SmallTypes.nextOf
  refine wpAny_bind (wpAny_callSpecial?_slot (name := Str.ofString "__next__") hit.typeIs PySem.F.slot_tuple_iterator_next (wpAny_call_entry PySem.F.slot_tuple_iterator_next hit.typeIs PySem.F.entry_tuple_iterator_next ?_ (PySem.F.args_tuple_iterator_next_1 _)))
  show wpAny _ _ (field (.ref it) 0 >>= _) _ _ s
  refine wpAny_bind (wpAny_field hoi hdi (x := .ref t) rfl ?_)
  show wpAny _ _ (if (Value.ref t == Value.none) = true then _ else _) _ _ s
  rw [if_neg (show ¬ ((Value.ref t == Value.none) = true) from Bool.false_ne_true)]
  show wpAny _ _ (field (.ref it) 1 >>= _) _ _ s
  refine wpAny_bind (wpAny_field hoi hdi (x := .int i 0) rfl ?_)
  show wpAny _ _ (seqItems? (.ref t) >>= _) _ _ s
  refine wpAny_bind (wpAny_seqItems hot hdt ?_)
  simp only [Int.toNat_natCast, hx]
  refine wpAny_bind (wpAny_setField hoi hdi (by simp) (wpAny_pure ⟨x, rfl, wpAny_pure (hQ _ ?_ (Heap.SameBut.update ..))⟩))
  exact ⟨_, Heap.get?_update_self _ hoi (Obj.isFreed_of_fields (Obj.data_mapFields hdi _)), (Obj.cls_mapFields ..).trans hci, by rw [Obj.data_mapFields hdi]; simp [rawInt]⟩

/-- what stands while the zip goes: the zip, its two tuples, the two iterators, the list, the tuple -/
structure ZAt (h : Heap) (z i1 i2 l t : Addr) (f0 : Value) (k : Nat) (xs ys : Array Value) : Prop where
  zip : IsZip h z (z - 2) (z - 1) f0
  ti : IsPair h (z - 2) (.ref i1) (.ref i2)
  out : ∃ a b, IsPair h (z - 1) a b
  a1 : h.IsListIter i1 l k
  a2 : h.IsTupleIter i2 t k
  li : h.IsList l xs
  tu : h.IsTuple t ys
/-- the addresses -/
structure ZNew (I z i1 i2 l t : Addr) : Prop where
  ez : z = I + 4
  e1 : i1 = I
  e2 : i2 = I + 1
  ll : @LT.lt Nat _ l I
  lt : @LT.lt Nat _ t I
theorem ZNew.apart {I z i1 i2 l t : Addr} (D : ZNew I z i1 i2 l t) : ZipApart z (z - 2) (z - 1) i1 i2 l t := by
  obtain ⟨rfl, rfl, rfl, h1, h2⟩ := D
  exact ktu_apart i1 l t h1 h2
theorem zlt_next {I z i1 i2 l t : Addr} {k : Nat} {xs ys : Array Value} {x y : Value} {Q : Value → Shared → Prop} (D : ZNew I z i1 i2 l t) (Z : ZAt s.heap z i1 i2 l t .none k xs ys) (hx : xs[k]? = some x) (hy : ys[k]? = some y)
    (hQ : ∀ h', ZAt h' z i1 i2 l t (rawInt s.heap.objs.size) (k + 1) xs ys → IsPair h' s.heap.objs.size x y →
      (∀ c o, c ≠ z → c ≠ z - 1 → c ≠ i1 → c ≠ i2 → s.heap.get? c = some o → h'.get? c = some o) → Q (.ref s.heap.objs.size) { s with heap := h' }) :
    wpAny (model prog w) A (Builtin.«zip.__next__» ⟨[.ref z], []⟩) (fun fin s' => ∃ v, fin = .done (.ret v) ∧ Q v s') E s := by
  have P := D.apart
  obtain ⟨hz, hTI, ⟨a, b, hTO⟩, h1, h2, hl, ht⟩ := Z
  show wpAny _ _ (field (.ref z) 2 >>= _) _ _ _
  refine wpAny_bind (wpAny_field hz rfl (x := .bool false) rfl ?_)
  show wpAny _ _ (field (.ref z) 3 >>= _) _ _ _
  refine wpAny_bind (wpAny_field hz rfl (x := .ref (z - 2)) rfl ?_)
  refine wpAny_bind (wpAny_seqItems hTI rfl ?_)
  show wpAny _ _ (Builtin.SmallTypes.ownedTupleIsFree (.ref z) >>= _) _ _ _
  refine wpAny_bind ?_
  unfold Builtin.SmallTypes.ownedTupleIsFree
  refine wpAny_bind (wpAny_field hz rfl (x := .none) rfl (wpAny_pure ?_))
  simp only [if_true]
  refine wpAny_bind (wpAny_rule ?_)
  refine wpAny_bind (wpAny_field hz rfl (x := .ref (z - 1)) rfl ?_)
  refine wpAny_bind (wpAny_setField_rec hz (by simp) fun g₁ hz₁ c₁ => ?_)
  replace hz₁ : IsZip g₁ z (z - 2) (z - 1) .ellipsis := hz₁
  refine wpAny_bind ?_
  simp only [List.zipIdx_cons, List.zipIdx_nil, List.forIn_cons, List.forIn_nil]
  refine wpAny_bind (wpAny_bind (wpAny_onRaise ?_))
  show wpAny _ _ (Builtin.SmallTypes.nextOf (.ref i1) >>= _) _ _ _
  refine wpAny_bind (wpAny_nextOf_list_item (h1.extBut c₁.extBut P.i1z) (hl.extBut c₁.extBut P.l1z) hx fun g₂ p1 c₂ => wpAny_pure ?_)
  have q₂ : IsPair g₂ (z - 1) a b := c₂.extBut _ _ P.TOi1 (c₁.extBut _ _ P.TOz hTO)
  refine wpAny_bind (wpAny_seqItems q₂ rfl ?_)
  refine wpAny_bind (wpAny_updateSeq_pair q₂ fun g₃ q₃ c₃ => ?_)
  replace q₃ : IsPair g₃ (z - 1) x b := q₃
  refine wpAny_bind (wpAny_letGo (wpAny_pure ?_))
  refine wpAny_bind (wpAny_bind (wpAny_onRaise ?_))
  show wpAny _ _ (Builtin.SmallTypes.nextOf (.ref i2) >>= _) _ _ _
  have up3 : ∀ c o, c ≠ z → c ≠ i1 → c ≠ z - 1 → s.heap.get? c = some o → g₃.get? c = some o := fun c o n1 n2 n3 e => c₃.extBut _ _ n3 (c₂.extBut _ _ n2 (c₁.extBut _ _ n1 e))
  refine wpAny_bind (next_of_tuple (h2.at fun o e => up3 _ o P.i2z P.i12.symm P.TOi2.symm e) (ht.at fun o e => up3 _ o P.l2z P.l2i1 P.l2TO e) hy fun g₄ p2 c₄ => wpAny_pure ?_)
  have q₄ : IsPair g₄ (z - 1) x b := c₄.extBut _ _ P.TOi2 q₃
  refine wpAny_bind (wpAny_seqItems q₄ rfl ?_)
  refine wpAny_bind (wpAny_updateSeq_pair q₄ fun g₅ q₅ c₅ => ?_)
  replace q₅ : IsPair g₅ (z - 1) x y := q₅
  refine wpAny_bind (wpAny_letGo (wpAny_pure (wpAny_pure ?_)))
  refine wpAny_bind (wpAny_seqItems q₅ rfl ?_)
  refine wpAny_bind (wpAny_newTuple ?_)
  have hsz : g₅.objs.size = s.heap.objs.size := by rw [c₅.1, c₄.1, c₃.1, c₂.1, c₁.1]
  have up5 : ∀ c o, c ≠ z → c ≠ z - 1 → c ≠ i1 → c ≠ i2 → s.heap.get? c = some o → g₅.get? c = some o := fun c o n1 n2 n3 n4 e => c₅.extBut _ _ n2 (c₄.extBut _ _ n4 (up3 c o n1 n3 n2 e))
  have hz₅ : IsZip g₅ z (z - 2) (z - 1) .ellipsis := c₅.extBut _ _ P.TOz.symm (c₄.extBut _ _ P.i2z.symm (c₃.extBut _ _ P.TOz.symm (c₂.extBut _ _ P.i1z.symm hz₁)))
  have p1₅ : g₅.IsListIter i1 l (k + 1) := p1.at fun o e => c₅.extBut _ _ P.TOi1.symm (c₄.extBut _ _ P.i12 (c₃.extBut _ _ P.TOi1.symm e))
  have p2₅ : g₅.IsTupleIter i2 t (k + 1) := p2.at fun o e => c₅.extBut _ _ P.TOi2.symm e
  have hzlt : z < g₅.objs.size := Heap.lt_size hz₅
  show wpAny _ _ (Builtin.SmallTypes.ownedTupleHandOut (.ref z) (.ref g₅.objs.size) >>= _) _ _ _
  refine wpAny_bind ?_
  unfold Builtin.SmallTypes.ownedTupleHandOut
  have hz₆ : IsZip (g₅.push { cls := .type "tuple", data := .seq #[x, y] }) z (z - 2) (z - 1) .ellipsis := Heap.get?_push_of_some _ hz₅
  refine wpAny_bind (wpAny_setField_rec hz₆ (by simp) fun g₇ hz₇ c₇ => ?_)
  replace hz₇ : IsZip g₇ z (z - 2) (z - 1) (rawInt g₅.objs.size) := hz₇
  refine wpAny_setField_rec hz₇ (by simp) fun g₈ hz₈ c₈ => ?_
  replace hz₈ : IsZip g₈ z (z - 2) (z - 1) (rawInt g₅.objs.size) := hz₈
  have up8 : ∀ c o, c ≠ z → g₅.get? c = some o → g₈.get? c = some o := fun c o n1 e => c₈.extBut _ _ n1 (c₇.extBut _ _ n1 (Heap.get?_push_of_some _ e))
  have hT₈ : IsPair g₈ g₅.objs.size x y := c₈.extBut _ _ (Nat.ne_of_gt hzlt) (c₇.extBut _ _ (Nat.ne_of_gt hzlt) (Heap.get?_push_size _ rfl))
  rw [hsz] at hz₈ hT₈
  refine wpAny_pure ⟨_, rfl, ?_⟩
  show Q (.ref g₅.objs.size) _
  rw [hsz]
  refine hQ g₈ ⟨hz₈, up8 _ _ P.TIz (up5 _ _ P.TIz P.TITO P.TIi1 P.TIi2 hTI), ⟨x, y, up8 _ _ P.TOz q₅⟩, p1₅.at fun o e => up8 _ o P.i1z e, p2₅.at fun o e => up8 _ o P.i2z e,
    hl.at fun o e => up8 _ o P.l1z (up5 _ o P.l1z P.l1TO P.l1i1 P.l1i2 e), ht.at fun o e => up8 _ o P.l2z (up5 _ o P.l2z P.l2TO P.l2i1 P.l2i2 e)⟩ hT₈ fun c o n1 n2 n3 n4 e => up8 c o n1 (up5 c o n1 n2 n3 n4 e)
end
end

section
set_option maxHeartbeats 4000000
open PySem PySem.W PyProof.Rows PySem.Calls PySem.Spec
section
variable {prog : Program} {w : World} {A : Around} {E : Value → Shared → Prop} {s : Shared}
theorem zlt_stop {I z i1 i2 l t : Addr} {k : Nat} {xs ys : Array Value} {Q : Fin → Shared → Prop} (hh : A.handled = none) (D : ZNew I z i1 i2 l t) (Z : ZAt s.heap z i1 i2 l t .none k xs ys) (hx : xs[k]? = none)
    (hE : ∀ h' e, (∀ c o, c ≠ z → c ≠ i1 → s.heap.get? c = some o → h'.get? c = some o) → (∃ o, h'.get? e = some o ∧ o.cls = .type "StopIteration") → E (.ref e) { s with heap := h' }) :
    wpAny (model prog w) A (Builtin.«zip.__next__» ⟨[.ref z], []⟩) Q E s := by
  have P := D.apart
  obtain ⟨hz, hTI, ⟨a, b, hTO⟩, h1, h2, hl, ht⟩ := Z
  show wpAny _ _ (field (.ref z) 2 >>= _) _ _ _
  refine wpAny_bind (wpAny_field hz rfl (x := .bool false) rfl ?_)
  show wpAny _ _ (field (.ref z) 3 >>= _) _ _ _
  refine wpAny_bind (wpAny_field hz rfl (x := .ref (z - 2)) rfl ?_)
  refine wpAny_bind (wpAny_seqItems hTI rfl ?_)
  show wpAny _ _ (Builtin.SmallTypes.ownedTupleIsFree (.ref z) >>= _) _ _ _
  refine wpAny_bind ?_
  unfold Builtin.SmallTypes.ownedTupleIsFree
  refine wpAny_bind (wpAny_field hz rfl (x := .none) rfl (wpAny_pure ?_))
  simp only [if_true]
  refine wpAny_bind (wpAny_rule ?_)
  refine wpAny_bind (wpAny_field hz rfl (x := .ref (z - 1)) rfl ?_)
  refine wpAny_bind (wpAny_setField_rec hz (by simp) fun g₁ hz₁ c₁ => ?_)
  replace hz₁ : IsZip g₁ z (z - 2) (z - 1) .ellipsis := hz₁
  refine wpAny_bind ?_
  simp only [List.zipIdx_cons, List.zipIdx_nil, List.forIn_cons, List.forIn_nil]
  refine wpAny_bind (wpAny_bind (wpAny_onRaise ?_))
  show wpAny _ _ (Builtin.SmallTypes.nextOf (.ref i1) >>= _) _ _ _
  refine wpAny_bind (wpAny_nextOf_list_end hh (h1.extBut c₁.extBut P.i1z) (hl.extBut c₁.extBut P.l1z) hx fun g₂ e c₂ he => ?_)
  obtain ⟨oe, hoe, hce⟩ := he
  have hz₂ : IsZip g₂ z (z - 2) (z - 1) .ellipsis := c₂ _ _ P.i1z.symm hz₁
  have hez : e ≠ z := fun q => by rw [q, hz₂] at hoe; cases hoe; simp at hce
  exact wpAny_setField_rec hz₂ (by simp) fun g₃ _ c₃ => hE g₃ e (fun c o n1 n3 q => c₃.extBut _ _ n1 (c₂ _ _ n3 (c₁.extBut _ _ n1 q))) ⟨oe, c₃.extBut _ _ hez hoe, hce⟩
theorem zlt_pyNext {I z i1 i2 l t : Addr} {k : Nat} {xs ys : Array Value} {x y : Value} {Q : Option Value → Shared → Prop} (D : ZNew I z i1 i2 l t) (Z : ZAt s.heap z i1 i2 l t .none k xs ys) (hx : xs[k]? = some x) (hy : ys[k]? = some y)
    (hQ : ∀ h', ZAt h' z i1 i2 l t (rawInt s.heap.objs.size) (k + 1) xs ys → IsPair h' s.heap.objs.size x y →
      (∀ c o, c ≠ z → c ≠ z - 1 → c ≠ i1 → c ≠ i2 → s.heap.get? c = some o → h'.get? c = some o) → Q (some (.ref s.heap.objs.size)) { s with heap := h' }) :
    wpAny (model prog w) A (pyNext (.ref z)) Q E s := by
  have hT : s.TypeIs (.ref z) "zip" := ⟨_, Z.zip, rfl⟩
  unfold pyNext
  exact wpAny_bind (wpAny_attempt (wpAny_callSpecial?_slot (name := Str.ofString "__next__") hT PySem.F.slot_zip_next
    (wpAny_call_entry PySem.F.slot_zip_next hT PySem.F.entry_zip_next (zlt_next D Z hx hy fun h' a1 a2 a3 => wpAny_pure (hQ h' a1 a2 a3)) (PySem.F.args_zip_next_1 _))))
theorem zlt_pyEnd {I z i1 i2 l t : Addr} {k : Nat} {xs ys : Array Value} {Q : Option Value → Shared → Prop} (hh : A.handled = none) (D : ZNew I z i1 i2 l t) (Z : ZAt s.heap z i1 i2 l t .none k xs ys) (hx : xs[k]? = none)
    (hQ : ∀ h', (∀ c o, c ≠ z → c ≠ i1 → s.heap.get? c = some o → h'.get? c = some o) → Q none { s with heap := h' }) : wpAny (model prog w) A (pyNext (.ref z)) Q E s := by
  have hT : s.TypeIs (.ref z) "zip" := ⟨_, Z.zip, rfl⟩
  unfold pyNext
  refine wpAny_bind (wpAny_attempt (wpAny_callSpecial?_slot (name := Str.ofString "__next__") hT PySem.F.slot_zip_next
    (wpAny_call_entry PySem.F.slot_zip_next hT PySem.F.entry_zip_next (zlt_stop hh D Z hx fun h' e hk he => ?_) (PySem.F.args_zip_next_1 _))))
  obtain ⟨o, ho, hc⟩ := he
  exact wpAny_bind (wpAny_isInstance (T := "StopIteration") (b := true) ⟨o, ho, hc⟩ isSubtype_stop (wpAny_pure (hQ _ hk)))
theorem ZAt.keep {h h' : Heap} {z i1 i2 l t : Addr} {f0 : Value} {k : Nat} {xs ys : Array Value} (Z : ZAt h z i1 i2 l t f0 k xs ys) (up : ∀ b ∈ [z, z - 2, z - 1, i1, i2, l, t], ∀ o, h.get? b = some o → h'.get? b = some o) : ZAt h' z i1 i2 l t f0 k xs ys := by
  obtain ⟨hz, hTI, ⟨a, b, hTO⟩, h1, h2, hl, ht⟩ := Z
  exact ⟨up z (by simp) _ hz, up _ (by simp) _ hTI, ⟨a, b, up _ (by simp) _ hTO⟩, h1.at fun o e => up i1 (by simp) o e, h2.at fun o e => up i2 (by simp) o e, hl.at fun o e => up l (by simp) o e, ht.at fun o e => up t (by simp) o e⟩
theorem zlt_walks {I z i1 i2 l t : Addr} (hh : A.handled = none) (D : ZNew I z i1 i2 l t) (xs ys : Array Value) (hlen : xs.size = ys.size) :
    WalksT prog w A z [z, z - 2, z - 1, i1, i2, l, t] [z, z - 1, i1, i2] xs.size (fun i vals => ∃ x y, xs[i]? = some x ∧ ys[i]? = some y ∧ vals = #[x, y])
      (fun i h => ZAt h z i1 i2 l t .none i xs ys) (fun i T h => ZAt h z i1 i2 l t (rawInt T) (i + 1) xs ys ∧ T ≠ z ∧ T ≠ z - 1 ∧ T ≠ i1 ∧ T ≠ i2) where
  sub := fun c hc => by simp at hc ⊢; rcases hc with rfl | rfl | rfl | rfl <;> simp
  frame := fun i h h' Z hk => Z.keep hk
  item := fun i s Q E hi Z hQ => by
    have hy : i < ys.size := hlen ▸ hi
    refine zlt_pyNext D Z (Array.getElem?_eq_getElem hi) (Array.getElem?_eq_getElem hy) fun h' Z' hp hk => ?_
    have lt : ∀ {c o}, s.heap.get? c = some o → s.heap.objs.size ≠ c := fun e => Nat.ne_of_gt (Heap.lt_size e)
    obtain ⟨hz, hTI, ⟨a, b, hTO⟩, ⟨o1, e1, _⟩, ⟨o2, e2, _⟩, hl, ht⟩ := Z
    exact hQ s.heap.objs.size #[xs[i], ys[i]] h' s.toks ⟨_, _, Array.getElem?_eq_getElem hi, Array.getElem?_eq_getElem hy, rfl⟩ (Nat.le_refl _) ⟨_, hp, rfl, _, rfl⟩ ⟨Z', lt hz, lt hTO, lt e1, lt e2⟩
      fun c o hc e => hk c o (fun x => hc (by simp [x])) (fun x => hc (by simp [x])) (fun x => hc (by simp [x])) (fun x => hc (by simp [x])) e
  go := fun elts k pos i T s Q E hm hQ => by
    obtain ⟨Z, _⟩ := hm
    have P := D.apart
    refine wpAny_letOwnedTupleGo_zip Z.zip fun h' hz' c' => hQ h' ⟨hz', c'.extBut _ _ P.TIz Z.ti, ?_, Z.a1.extBut c'.extBut P.i1z, Z.a2.at fun o e => c'.extBut _ o P.i2z e, Z.li.extBut c'.extBut P.l1z, Z.tu.at fun o e => c'.extBut _ o P.l2z e⟩
      fun c o hc e => c'.extBut _ _ (fun x => hc (by simp [x])) e
    obtain ⟨a, b, hTO⟩ := Z.out
    exact ⟨a, b, c'.extBut _ _ P.TOz hTO⟩
  apart := fun i T h hm hT => by
    obtain ⟨_, t1, t2, t3, t4⟩ := hm
    simp at hT
    rcases hT with rfl | rfl | rfl | rfl
    · exact t1 rfl
    · exact t2 rfl
    · exact t3 rfl
    · exact t4 rfl
  done := fun s Q E Z hQ => zlt_pyEnd hh D Z (Array.getElem?_eq_none (Nat.le_refl _)) fun h' hk => hQ h' s.toks fun c o hc e => hk c o (fun x => hc (by simp [x])) (fun x => hc (by simp [x])) e
  self := fun i s Q E Z hQ => wpAny_pyIter_zip Z.zip hQ
end
noncomputable abbrev zl1 (h : Heap) (l : Addr) : Heap := h.push { cls := .type "list_iterator", data := .fields #[.ref l, .int 0 0] }
noncomputable abbrev zl2 (h : Heap) (l t : Addr) : Heap := (zl1 h l).push { cls := .type "tuple_iterator", data := .fields #[.ref t, .int 0 0] }
noncomputable abbrev zl3 (h : Heap) (l t : Addr) : Heap := (zl2 h l t).push { cls := .type "tuple", data := .seq #[.ref h.objs.size, .ref (zl1 h l).objs.size] }
noncomputable abbrev zl4 (h : Heap) (l t : Addr) : Heap := (zl3 h l t).push { cls := .type "tuple", data := .seq #[.none, .none] }
noncomputable abbrev zl5 (h : Heap) (l t : Addr) : Heap := (zl4 h l t).push { cls := .type "zip", data := .fields #[.none, .bool false, .bool false, .ref (zl2 h l t).objs.size, .ref (zl3 h l t).objs.size] }
theorem zlt_new (l t : Addr) (xs ys : Array Value) :
    Meets (Builtin.«zip.__new__» ⟨[.type "zip", .ref l, .ref t], []⟩) (fun _ R s => s.heap.IsList l xs ∧ s.heap.IsTuple t ys ∧ R (.ok (.ret (.ref (zl4 s.heap l t).objs.size))) { s with heap := zl5 s.heap l t }) :=
  .of_wp fun prog w A R s h => by
    obtain ⟨hp, g, d, tk, os⟩ := s; obtain ⟨hl, ht, h⟩ := h
    have hsub := PySem.sub_zip
    have hL : Heap.IsList (Shared.heap ⟨hp, g, d, tk, os⟩) l xs := hl
    have hT : Heap.IsTuple (Shared.heap ⟨hp.push { cls := .type "list_iterator", data := .fields #[.ref l, .int 0 0] }, g, d, tk, os⟩) t ys := ht.at fun o e => Heap.get?_push_of_some _ e
    wp_walk using wpAny_pyIter_list hL, wpAny_pyIter_tuple hT
    exact ⟨_, rfl, h⟩
section
variable {prog : Program} {w : World} {A : Around} {E : Value → Shared → Prop} {s : Shared}
theorem zlt_call {l t : Addr} {xs ys : Array Value} {Q : Value → Shared → Prop} (hl : s.heap.IsList l xs) (ht : s.heap.IsTuple t ys)
    (h : ∀ h' I, I = s.heap.objs.size → ZNew I (I + 4) I (I + 1) l t → ZAt h' (I + 4) I (I + 1) l t .none 0 xs ys → (∀ c o, s.heap.get? c = some o → h'.get? c = some o) → Q (.ref (I + 4)) { s with heap := h' }) :
    wpAny (model prog w) A (call (.type "zip") [.ref l, .ref t]) Q E s := by
  refine callType_new PySem.F.called_zip (by decide) (PySem.F.typeCall_zip_2 _ _) (PySem.F.newCall_zip_2 _ _) (fun obj => PySem.F.args_object_init_3 obj _ _) PySem.F.entry_zip_new (zlt_new l t xs ys) ⟨hl, ht, ?_⟩
  have z1 : (zl1 s.heap l).objs.size = s.heap.objs.size + 1 := Heap.size_push ..
  have z2 : (zl2 s.heap l t).objs.size = s.heap.objs.size + 2 := by rw [Heap.size_push, z1]
  have z3 : (zl3 s.heap l t).objs.size = s.heap.objs.size + 3 := by rw [Heap.size_push, z2]
  have z4 : (zl4 s.heap l t).objs.size = s.heap.objs.size + 4 := by rw [Heap.size_push, z3]
  have g5 : (zl5 s.heap l t).get? (zl4 s.heap l t).objs.size = some _ := Heap.get?_push_size _ rfl
  have g4 : (zl5 s.heap l t).get? (zl3 s.heap l t).objs.size = some _ := Heap.get?_push_of_some _ (Heap.get?_push_size _ rfl)
  have g3 : (zl5 s.heap l t).get? (zl2 s.heap l t).objs.size = some _ := Heap.get?_push_of_some _ (Heap.get?_push_of_some _ (Heap.get?_push_size _ rfl))
  have g2 : (zl5 s.heap l t).get? (zl1 s.heap l).objs.size = some _ := Heap.get?_push_of_some _ (Heap.get?_push_of_some _ (Heap.get?_push_of_some _ (Heap.get?_push_size _ rfl)))
  have g1 : (zl5 s.heap l t).get? s.heap.objs.size = some _ := Heap.get?_push_of_some _ (Heap.get?_push_of_some _ (Heap.get?_push_of_some _ (Heap.get?_push_of_some _ (Heap.get?_push_size _ rfl))))
  have up : ∀ c o, s.heap.get? c = some o → (zl5 s.heap l t).get? c = some o := fun c o x =>
    Heap.get?_push_of_some _ (Heap.get?_push_of_some _ (Heap.get?_push_of_some _ (Heap.get?_push_of_some _ (Heap.get?_push_of_some _ x))))
  show _ ∧ _
  rw [z2, z3, z4] at g5
  rw [z1, z2] at g3
  rw [z3] at g4
  rw [z1] at g2
  rw [z4]
  have ltl : l < s.heap.objs.size := by obtain ⟨_, e, _⟩ := hl; exact Heap.lt_size e
  have ltt : t < s.heap.objs.size := by obtain ⟨_, e, _⟩ := ht; exact Heap.lt_size e
  exact ⟨⟨_, g5, rfl⟩, h _ _ rfl ⟨rfl, rfl, rfl, ltl, ltt⟩ ⟨g5, g3, ⟨_, _, g4⟩, ⟨_, g1, rfl, rfl⟩, ⟨_, g2, rfl, rfl⟩, hl.at fun o e => up _ _ e, ht.at fun o e => up _ _ e⟩ up⟩
end
end

section
set_option maxHeartbeats 4000000
open PySem PySem.W PyProof.Rows PySem.Calls PySem.Spec
noncomputable def ZEnd (h₀ : Heap) (L : Addr) (m : Str → Option Value) (nw : List (Addr × Obj)) (K : Prop) (Q : Flow → Shared → Prop) (s : Shared) (fl : Flow) (s₂ : Shared) : Prop :=
  (∃ v, fl = .ret v ∧ Q (.ret v) s₂) ∨ (fl = .next ∧ ∃ h' tk', s₂ = { s with heap := h', toks := tk' } ∧ Fr h₀ L h' m ∧ News h₀ L h' nw ∧ K)
section
variable {prog : Program} {w : World} {A : Around} {E : Value → Shared → Prop} {s : Shared} {h₀ : Heap} {name : Str} {scope : Scope} {L a : Addr} {cd : Value} {cl : List (Str × Addr)} {Q : Flow → Shared → Prop}
/-- for x, y in zip(list, tuple) of the same length: the body changes no other name and no object of the ledger -/
theorem for_zip {x y : Str} {px py pt : Pos} {kt : Nat} {body : List Stmt} {l t : Addr} {vs us : List Value} {m₀ : Str → Option Value} {r : List (Addr × Obj)} (K : Nat → Prop)
    (hk : scope.kind = .function) (hlx : (envX name scope L a cd cl).kindOf x = some .local) (hly : (envX name scope L a cd cl).kindOf y = some .local) (hh : A.handled = none)
    (F : Fr h₀ L s.heap m₀) (N : News h₀ L s.heap r) (hl : s.heap.IsList l vs.toArray) (ht : s.heap.IsTuple t us.toArray) (hlen : vs.length = us.length) (hK : K 0)
    (turn : ∀ i v u h tk nw, vs[i]? = some v → us[i]? = some u → K i → Fr h₀ L h (fun z => if z = y then some u else if z = x then some v else m₀ z) → News h₀ L h nw →
      wpAny (model prog w) A (execs body (envX name scope L a cd cl)) (ZEnd h₀ L (fun z => if z = y then some u else if z = x then some v else m₀ z) nw (K (i + 1)) Q { s with heap := h, toks := tk }) E { s with heap := h, toks := tk })
    (fin : ∀ ox oy h tk, K vs.length → Fr h₀ L h (fun z => if z = y then oy else if z = x then ox else m₀ z) → News h₀ L h r → Q .next { s with heap := h, toks := tk }) :
    wpAny (model prog w) A (call (.type "zip") [.ref l, .ref t]) (fun xv s₁ => wpAny (model prog w) A (pyIter xv) (fun it s₂ => TurnsAt prog w A h₀ (envX name scope L a cd cl) (.Tuple [.Name x px, .Name y py] kt pt) body Q E it s₂) E s₁) E s := by
  refine zlt_call hl ht fun h' I hI D Z up => ?_
  refine wpAny_pyIter_zip Z.zip ?_
  have F' : Fr h₀ L h' m₀ := F.keeps up
  have N' : News h₀ L h' r := N.grown up
  have hLI : L < I := hI ▸ F.ns.lt
  have new : ∀ b, I ≤ b → h₀.get? b = none := fun b hb => by
    cases e : h₀.get? b with
    | none => rfl
    | some o => have := Heap.lt_size (F.keep b o e); rw [← hI] at this; exact absurd this (Nat.not_lt.mpr hb)
  have lt : ∀ p ∈ r, p.1 < I := fun p hp => hI ▸ Heap.lt_size (N p hp).1
  have noL : ∀ {c : Addr}, I ≤ c → L ≠ c := fun hc => Nat.ne_of_lt (Nat.lt_of_lt_of_le hLI hc)
  have hlL : L ≠ l := fun e => by
    obtain ⟨oL, es, ep, hL, hdL, _⟩ := F.ns
    obtain ⟨ol, hol, hcl, nl, hdl⟩ := hl
    rw [← e, hL] at hol
    cases hol
    rw [hdL] at hdl
    cases hdl
  have htL : L ≠ t := fun e => by
    obtain ⟨oL, es, ep, hL, hdL, _⟩ := F.ns
    obtain ⟨ol, hol, hcl, nl, hdl⟩ := ht
    rw [← e, hL] at hol
    cases hol
    rw [hdL] at hdl
    cases hdl
  have hsz : vs.toArray.size = us.toArray.size := by simpa using hlen
  refine ⟨I + 4, _, _, _, _, _, _, m₀, r, fun i m₁ nw => nw = r ∧ K i ∧ ∃ ox oy, m₁ = fun z => if z = y then oy else if z = x then ox else m₀ z, rfl, KTurns.ofWalksU (zlt_walks hh D vs.toArray us.toArray hsz).toU, ?_, ?_, ?_, Z, F', N', ⟨rfl, hK, m₀ x, m₀ y, ?_⟩, ?_, ?_⟩
  · intro hm
    simp only [List.mem_cons, List.not_mem_nil, or_false] at hm
    rcases hm with e | e | e | e | e | e | e
    · exact noL (Nat.le_add_right I 4) e
    · exact noL (show I ≤ I + 4 - 2 from Nat.le_add_right I 2) e
    · exact noL (show I ≤ I + 4 - 1 from Nat.le_add_right I 3) e
    · exact noL (Nat.le_refl I) e
    · exact noL (Nat.le_add_right I 1) e
    · exact hlL e
    · exact htL e
  · intro b hb
    simp only [List.mem_cons, List.not_mem_nil, or_false] at hb
    rcases hb with rfl | rfl | rfl | rfl
    · exact new _ (Nat.le_add_right I 4)
    · exact new _ (show I ≤ I + 4 - 1 from Nat.le_add_right I 3)
    · exact new _ (Nat.le_refl _)
    · exact new _ (Nat.le_add_right _ 1)
  · intro p hp hb
    have h9 : @LT.lt Nat _ p.1 I := lt p hp
    simp only [List.mem_cons, List.not_mem_nil, or_false] at hb
    rcases hb with e | e | e | e
    · exact Nat.ne_of_lt (Nat.lt_of_lt_of_le h9 (Nat.le_add_right I 4)) e
    · exact Nat.ne_of_lt (Nat.lt_of_lt_of_le h9 (show I ≤ I + 4 - 1 from Nat.le_add_right I 3)) e
    · exact Nat.ne_of_lt h9 e
    · exact Nat.ne_of_lt (Nat.lt_of_lt_of_le h9 (Nat.le_add_right I 1)) e
  · funext z
    by_cases h1 : z = y
    · subst h1; simp
    · by_cases h2 : z = x
      · subst h2; simp [h1]
      · simp [h1, h2]
  · rintro i v m₁ nw h₁ tk₁ own hi ⟨T, vals, rfl, ⟨v, u, hv, hu, rfl⟩, hT⟩ ⟨rfl, hKi, ox, oy, rfl⟩ hnw hown hat hall hst F₁ N₁
    have hv' : vs[i]? = some v := by simpa using hv
    have hu' : us[i]? = some u := by simpa using hu
    have hT' : IsTup h₁ T #[v, u] := by obtain ⟨o, e, hc, n, hd⟩ := hT; exact ⟨o, e, hc, n, hd⟩
    refine unpackN_ F₁ N₁ hT' hh rfl rfl fun h₂ F₂ N₂ => ?_
    show wpAny _ _ (assignInOrder [assign (.Name x px) (envX name scope L a cd cl), assign (.Name y py) (envX name scope L a cd cl)] [v, u]) _ _ _
    refine assignInOrder_cons ?_
    refine assign_Name ?_
    refine storeX_L F₂ N₂ (fun h₃ F₃ N₃ => ?_) hk hlx
    refine assignInOrder_cons ?_
    refine assign_Name ?_
    refine storeX_L F₃ N₃ (fun h₄ F₄ N₄ => ?_) hk hly
    refine assignInOrder_nil ?_
    have F₅ : Fr h₀ L h₄ (fun z => if z = y then some u else if z = x then some v else m₀ z) := by
      have e : (fun z => if z = y then some u else if z = x then some v else if z = y then oy else if z = x then ox else m₀ z) = (fun z => if z = y then some u else if z = x then some v else m₀ z) := by
        funext z
        by_cases h1 : z = y
        · simp [h1]
        · by_cases h2 : z = x
          · simp [h1, h2]
          · simp [h1, h2]
      rw [← e]; exact F₄
    refine wpAny_mono (turn i v u h₄ _ _ hv' hu' hKi F₅ N₄) (fun fl s₂ q => ?_) fun _ _ q => q
    rcases q with ⟨vr, rfl, q⟩ | ⟨rfl, h', tk', rfl, F', N', hK'⟩
    · exact q
    · exact ⟨rfl, h', tk', _, nw, rfl, F', N', hnw, rfl, hK', some v, some u, rfl⟩
  · rintro h₁ tk m' nw F₁ N₁ _ ⟨rfl, hKn, ox, oy, rfl⟩
    exact fin ox oy h₁ tk (by simpa using hKn) F₁ N₁
end
end

section
set_option maxHeartbeats 4000000
open PySem PySem.W PyProof.Rows PySem.Calls PySem.Spec
section
variable {prog : Program} {w : World} {A : Around} {E : Value → Shared → Prop} {s : Shared}
theorem eq_one {X T : Addr} {p : Str} {t1 : Tok} {vs : List Value} {ks : List Str} (hX : s.heap.IsTuple X #[.str p t1]) (hT : s.heap.IsTuple T vs.toArray) (hs : Strs vs ks) (hne : X ≠ T) (hu : A.units < cLine) : SeqAt.EqAt A s (.ref X) (.ref T) (ks == [p]) := by
  refine SeqAt.EqAt.of_refs hne ?_
  have h := SeqAt.RcAt.tuples (A := A) (e := fun j => some p == ks[j]?) hX hT hu fun j h1 h2 => ?_
  · cases hs with
    | nil => exact h
    | @cons k t vs ks hs =>
      cases hs with
      | nil =>
        have e : ((k :: []) == [p]) = ((List.range (min (#[Value.str p t1] : Array Value).size ([Value.str k t].toArray).size)).all (fun j => some p == (k :: [])[j]?) && (#[Value.str p t1] : Array Value).size == ([Value.str k t].toArray).size) := by
          simp
          exact BEq.comm
        rw [e]; exact h
      | @cons k2 t2 vs ks hs =>
        have e : ((k :: k2 :: ks) == [p]) = ((List.range (min (#[Value.str p t1] : Array Value).size ((Value.str k t :: Value.str k2 t2 :: vs).toArray).size)).all (fun j => some p == (k :: k2 :: ks)[j]?) && (#[Value.str p t1] : Array Value).size == ((Value.str k t :: Value.str k2 t2 :: vs).toArray).size) := by
          simp
        rw [e]; exact h
  · have h1' : j = 0 := by simpa using h1
    subst h1'
    cases hs with
    | nil => exact absurd h2 (by simp)
    | @cons k t vs ks hs =>
      show SeqAt.EqAt A.in1 s (.str p t1) (.str k t) (some p == some k)
      have e : (some p == some k) = (p == k) := rfl
      rw [e]; exact SeqAt.EqAt.str_str p t1 k t
/-- `T in ((p,), (q,))` -/
theorem in_pair {T U X Y : Addr} {p q : Str} {t1 t2 : Tok} {vs : List Value} {ks : List Str} {Q : Value → Shared → Prop} (hU : s.heap.IsTuple U #[.ref X, .ref Y]) (hX : s.heap.IsTuple X #[.str p t1]) (hY : s.heap.IsTuple Y #[.str q t2]) (hT : s.heap.IsTuple T vs.toArray) (hs : Strs vs ks)
    (h1 : @Ne Nat X T) (h2 : @Ne Nat Y T) (h3 : @Ne Nat X Y) (hu : A.in1.units < cLine) (h : Q (.bool (ks == [p] || ks == [q])) s) : wpAny (model prog w) A (compareOp .In (.ref T) (.ref U)) Q E s := by
  refine SeqAt.in_tupleAt (fun y => match y with | .ref a => if a = X then ks == [p] else ks == [q] | _ => false) hU (fun y hy => ?_) ?_
  · simp only [List.mem_toArray, List.mem_cons, List.not_mem_nil, or_false] at hy
    rcases hy with rfl | rfl
    · simpa using eq_one (A := A.in1) hX hT hs h1 hu
    · have : (Y = X) = False := by simpa using fun e => h3 e.symm
      simpa [this] using eq_one (A := A.in1) hY hT hs h2 hu
  · have : (Y = X) = False := by simpa using fun e => h3 e.symm
    simpa [this] using h
end
end

section
set_option maxHeartbeats 4000000
open PySem PySem.W PyProof.Rows PySem.Calls PySem.Spec
/-- what an object of the law's is -/
noncomputable def OAt (h : Heap) (v : Value) (ob : Ob) : Prop := KAt h v ob.k ∧ (ob.k = .array → ∃ l vs, v = .ref l ∧ h.IsList l vs.toArray ∧ KsAt h vs ob.its ∧ vs.length ≤ 1000)
theorem OAt.ext {h h' : Heap} {v : Value} {ob : Ob} (x : OAt h v ob) (e : Ext h h') : OAt h' v ob := ⟨x.1.ext e, fun q => by
  obtain ⟨l, vs, a, b, c, d⟩ := x.2 q
  exact ⟨l, vs, a, Heap.IsList.at b (fun o q => e l o q), c.ext e, d⟩⟩
inductive OsAt (h : Heap) : List Value → List Ob → Prop where
  | nil : OsAt h [] []
  | cons {v : Value} {ob : Ob} {vs : List Value} {obs : List Ob} : OAt h v ob → OsAt h vs obs → OsAt h (v :: vs) (ob :: obs)
theorem OsAt.ext {h h' : Heap} {vs : List Value} {obs : List Ob} (x : OsAt h vs obs) (e : Ext h h') : OsAt h' vs obs := by
  induction x with
  | nil => exact .nil
  | cons a _ ih => exact .cons (a.ext e) ih
theorem OsAt.ks {h : Heap} {vs : List Value} {obs : List Ob} (x : OsAt h vs obs) : KsAt h vs (obs.map (·.k)) := by
  induction x with
  | nil => exact .nil
  | cons a _ ih => exact .cons a.1 ih
theorem OsAt.length {h : Heap} {vs : List Value} {obs : List Ob} (x : OsAt h vs obs) : vs.length = obs.length := by
  induction x with
  | nil => rfl
  | cons _ _ ih => simp [ih]
theorem OsAt.at {h : Heap} {vs : List Value} {obs : List Ob} (x : OsAt h vs obs) : ∀ {i : Nat} {v : Value}, vs[i]? = some v → ∃ ob, obs[i]? = some ob ∧ OAt h v ob := by
  induction x with
  | nil => intro i v e; simp at e
  | cons a _ ih =>
    intro i v e
    cases i with
    | zero => simp at e; subst e; exact ⟨_, rfl, a⟩
    | succ i => simpa using ih (by simpa using e)
/-- an operation -/
noncomputable def OpAt (h : Heap) (a : Addr) (word : Str) (obs : List Ob) : Prop :=
  ∃ dx es n t l vs, h.get? a = some (instObj 294 dx) ∧ h.get? dx = some (dictOf es n) ∧ getL (Str.ofString "word") es = some (some (.str word t)) ∧ getL (Str.ofString "operands") es = some (some (.ref l)) ∧ h.IsList l vs.toArray ∧ OsAt h vs obs ∧ vs.length ≤ 1000
theorem OpAt.ext {h h' : Heap} {a : Addr} {word : Str} {obs : List Ob} (x : OpAt h a word obs) (e : Ext h h') : OpAt h' a word obs := by
  obtain ⟨dx, es, n, t, l, vs, h1, h2, h3, h4, h5, h6, h7⟩ := x
  exact ⟨dx, es, n, t, l, vs, e _ _ h1, e _ _ h2, h3, h4, Heap.IsList.at h5 (fun o q => e l o q), h6.ext e, h7⟩
theorem op_inst {h g : Heap} {a dx C : Addr} {es : List DictEntry} {n : Nat} (h1 : g.get? a = some (instObj C dx)) (h2 : g.get? dx = some (dictOf es n)) (e : ∀ b o, g.get? b = some o → h.get? b = some o) : W.InstAt h a (instObj C dx) C (some (dictOf es n)) := ⟨e _ _ h1, rfl, rfl, e _ _ h2⟩
noncomputable def tabGet (tab : List (Str × List Str)) (word : Str) : Option (List Str) := (tab.find? fun p => p.1 = word).map (·.2)
theorem tab_cases {tl : List (Addr × Obj)} {kvs : List (Str × Value)} {tab : List (Str × List Str)} (x : TabL tl kvs tab) (word : Str) :
    (valueAt kvs word = none ∧ tabGet tab word = none) ∨ ∃ T us ks, valueAt kvs word = some (.ref T) ∧ tabGet tab word = some ks ∧ (T, tupOf us) ∈ tl ∧ Strs us ks := by
  induction x with
  | nil => exact .inl ⟨rfl, rfl⟩
  | @cons k T ob ks kvs tab a b _ ih =>
    by_cases hk : k = word
    · obtain ⟨us, hs, rfl⟩ := b
      exact .inr ⟨T, us, ks, by unfold valueAt; simp [hk], by unfold tabGet; simp [hk], a, hs⟩
    · rcases ih with ⟨h1, h2⟩ | ⟨T', us, ks', h1, h2, h3, h4⟩
      · refine .inl ⟨?_, ?_⟩
        · unfold valueAt at h1 ⊢; rw [List.find?_cons_of_neg (by simpa using hk)]; exact h1
        · unfold tabGet at h2 ⊢; rw [List.find?_cons_of_neg (by simpa using hk)]; exact h2
      · refine .inr ⟨T', us, ks', ?_, ?_, h3, h4⟩
        · unfold valueAt at h1 ⊢; rw [List.find?_cons_of_neg (by simpa using hk)]; exact h1
        · unfold tabGet at h2 ⊢; rw [List.find?_cons_of_neg (by simpa using hk)]; exact h2
theorem news_tuple {h₀ h : Heap} {L T : Addr} {news : List (Addr × Obj)} {us : List Value} (N : News h₀ L h news) (hm : (T, tupOf us) ∈ news) : h.IsTuple T us.toArray := ⟨_, (N _ hm).1, rfl, _, rfl⟩
theorem pick1 {h₀ h : Heap} {L : Addr} {a : Addr × Obj} {tl : List (Addr × Obj)} (N : News h₀ L h (a :: tl)) : News h₀ L h [a] := fun p hp => N p (by rw [List.mem_singleton.mp hp]; exact List.mem_cons_self ..)
theorem pick2 {h₀ h : Heap} {L : Addr} {a b : Addr × Obj} {tl : List (Addr × Obj)} (N : News h₀ L h (a :: tl)) (hm : b ∈ tl) : News h₀ L h [a, b] := fun p hp => N p (by
  simp only [List.mem_cons, List.not_mem_nil, or_false] at hp ⊢
  rcases hp with rfl | rfl
  · exact .inl rfl
  · exact .inr hm)
theorem news_tupA {h₀ h : Heap} {L T : Addr} {news : List (Addr × Obj)} {items : Array Value} {n : Nat} (N : News h₀ L h news) (hm : (T, ({ cls := .type "tuple", data := .seq items n } : Obj)) ∈ news) : h.IsTuple T items := ⟨_, (N _ hm).1, rfl, _, rfl⟩
theorem one_or {ks p q : List Str} (h : (ks == p || ks == q) = true) : ks = p ∨ ks = q := by simpa using h
theorem tabGet_len {word : Str} {ks : List Str} (h : tabGet allTab word = some ks) : ks.length ≤ 6 := by
  have key : allTab.all (fun p => decide (p.2.length ≤ 6)) = true := by decide +kernel
  unfold tabGet at h
  cases hf : allTab.find? (fun p => p.1 = word) with
  | none => rw [hf] at h; cases h
  | some p =>
    rw [hf] at h
    cases h
    simpa using List.all_eq_true.mp key p (List.mem_of_find?_eq_some hf)
theorem small_log {n : Nat} (h : n ≤ 6) : ((n : Int).natAbs).log2 < 1920 := by
  have key : ∀ m : Fin 7, ((m.val : Int).natAbs).log2 < 1920 := by decide
  exact key ⟨n, Nat.lt_succ_of_le h⟩
/-- the first kind that an operand does not fit -/
noncomputable def misfit : List Ob → List Str → Option Str
  | ob :: obs, k :: ks => if fitsB k ob then misfit obs ks else some k
  | _, _ => none
noncomputable def opFault (word : Str) (obs : List Ob) : Str := match tabGet allTab word with
  | none => Str.ofString "unknown operator"
  | some ks => if ks = [Str.ofString "numbers"] then rowTx false (obs.map (·.k)) else if ks = [Str.ofString "colour"] then rowTx true (obs.map (·.k))
    else if obs.length ≠ ks.length then Str.ofString (toString (ks.length : Int)) ++ Str.ofString " operands are due"
    else match misfit obs ks with
      | none => Str.ofString ""
      | some k => Str.ofString "an operand is no " ++ k
end

section
set_option maxHeartbeats 8000000
open PySem PySem.W PyProof.Rows PySem.Calls PySem.Spec



theorem fits_arr (w : World) (l : Addr) (kd : Str) (t : Tok) (vs : List Value) (ks : List Kd) : PureC w 329 8 64 [.ref l, .str kd t] (fun h => KAt h (.ref l) .array ∧ h.IsList l vs.toArray ∧ KsAt h vs ks ∧ vs.length ≤ 1000) (fun _ r => r = .bool (fitsB kd ⟨.array, ks⟩)) := by
  k_with_none
  k_with "lt" => first | with_reducible assumption | exact lt_0 (by with_reducible assumption) | exact lt_1 (by with_reducible assumption) | exact lt_2 (by with_reducible assumption) | exact lt_3 (by with_reducible assumption) | exact lt_4 (by with_reducible assumption) | exact lt_5 (by with_reducible assumption) | exact lt_6 (by with_reducible assumption) | exact lt_7 (by with_reducible assumption) | exact lt_0 (dr8 (by with_reducible assumption)) | exact lt_1 (dr8 (by with_reducible assumption)) | exact lt_2 (dr8 (by with_reducible assumption)) | exact lt_3 (dr8 (by with_reducible assumption)) | exact lt_4 (dr8 (by with_reducible assumption)) | exact lt_5 (dr8 (by with_reducible assumption)) | exact lt_6 (dr8 (by with_reducible assumption)) | exact lt_7 (dr8 (by with_reducible assumption)) | exact lt_0 (dr8 (dr8 (by with_reducible assumption))) | exact lt_1 (dr8 (dr8 (by with_reducible assumption))) | exact lt_2 (dr8 (dr8 (by with_reducible assumption))) | exact lt_3 (dr8 (dr8 (by with_reducible assumption))) | exact lt_4 (dr8 (dr8 (by with_reducible assumption))) | exact lt_5 (dr8 (dr8 (by with_reducible assumption))) | exact lt_6 (dr8 (dr8 (by with_reducible assumption))) | exact lt_7 (dr8 (dr8 (by with_reducible assumption))) | exact lt_0 (dr8 (dr8 (dr8 (by with_reducible assumption)))) | exact lt_1 (dr8 (dr8 (dr8 (by with_reducible assumption)))) | exact lt_2 (dr8 (dr8 (dr8 (by with_reducible assumption)))) | exact lt_3 (dr8 (dr8 (dr8 (by with_reducible assumption)))) | exact lt_4 (dr8 (dr8 (dr8 (by with_reducible assumption)))) | exact lt_5 (dr8 (dr8 (dr8 (by with_reducible assumption)))) | exact lt_6 (dr8 (dr8 (dr8 (by with_reducible assumption)))) | exact lt_7 (dr8 (dr8 (dr8 (by with_reducible assumption)))) | exact lt_0 (dr8 (dr8 (dr8 (dr8 (by with_reducible assumption))))) | exact lt_1 (dr8 (dr8 (dr8 (dr8 (by with_reducible assumption))))) | exact lt_2 (dr8 (dr8 (dr8 (dr8 (by with_reducible assumption))))) | exact lt_3 (dr8 (dr8 (dr8 (dr8 (by with_reducible assumption))))) | exact lt_4 (dr8 (dr8 (dr8 (dr8 (by with_reducible assumption))))) | exact lt_5 (dr8 (dr8 (dr8 (dr8 (by with_reducible assumption))))) | exact lt_6 (dr8 (dr8 (dr8 (dr8 (by with_reducible assumption))))) | exact lt_7 (dr8 (dr8 (dr8 (dr8 (by with_reducible assumption)))))
  k_with "nd" => first | exact nd_0 (by with_reducible assumption) | exact nd_1 (by with_reducible assumption) | exact nd_2 (by with_reducible assumption) | exact nd_3 (by with_reducible assumption) | exact nd_4 (by with_reducible assumption) | exact nd_5 (by with_reducible assumption) | exact nd_6 (by with_reducible assumption) | exact nd_7 (by with_reducible assumption) | exact nd_8 (by with_reducible assumption)
  k_with "ne" => (refine neN ?_; (try dsimp only); first | with_reducible assumption | exact Ne.symm (by with_reducible assumption) | (refine ne_z ?_; k_extra "lt") | (refine ne_s ?_; k_extra "lt") | (refine ne_zz (by with_reducible assumption) ?_; k_extra "lt") | (refine ne_ss (by with_reducible assumption) ?_; k_extra "lt") | k_extra "nd" | (dsimp only [AllLt] at *; omega))
  k_with "call builtin:isinstance" => (k_here; k_dflt (refine' isi_kind ?zzX ?zzV ?zze ?_; (case zzX => k_in); (case zzV => exact KAt.ext (by assumption) (Fr.keep (by k_asm))); (case zze => first | exact isa_bool _ _ | exact isa_int _ _ | exact isa_list _ _ | exact isa_dict _ _ | exact isa_143 _ _ | exact isa_171 _ _ | exact isa_193 _ _ | exact isa_214 _ _ | exact isa_242 _ _); k_whole); intro tk')
  k_with "call ref" => (k_here; (with_reducible show wpAny _ _ (call (Value.ref 253) [_]) _ _ _); k_dflt (refine' kind_c _ _ _ ?zzB ?zzF ?zzX ?zzT ?zzhk ?zzpre ?zzdd ?zzuu ?_; (case zzB => k_asm); (case zzF => k_asm); (case zzX => k_asm); (case zzT => k_asm); (case zzhk => first | exact rfl | assumption); (case zzpre => exact KAt.ext (by assumption) (Fr.keep (by k_asm))); (case zzdd => ktr_room); (case zzuu => ktr_units)); intro v' h' tk' e' p'; (have F' := fr_ext (by k_asm) e'); (have N' := news_ext (by k_asm) e'); (try dsimp only at p'); (try k_sweep); obtain ⟨tk'', e''⟩ := p'; subst e'')
  k_with "call ref" => (k_here; (with_reducible show wpAny _ _ (call (Value.ref 260) [_]) _ _ _); k_dflt (refine' number_c _ _ _ ?zzB ?zzF ?zzX ?zzT ?zzhk ?zzpre ?zzdd ?zzuu ?_; (case zzB => k_asm); (case zzF => k_asm); (case zzX => k_asm); (case zzT => k_asm); (case zzhk => first | exact rfl | assumption); (case zzpre => exact KAt.ext (by assumption) (Fr.keep (by k_asm))); (case zzdd => ktr_room); (case zzuu => ktr_units)); intro v' h' tk' e' p'; (have F' := fr_ext (by k_asm) e'); (have N' := news_ext (by k_asm) e'); (try dsimp only at p'); (try k_sweep); subst p')
  k_with "compareOp NotEq ref ref" => (k_here; (with_reducible show wpAny _ _ (compareOp CmpOp.NotEq (Value.ref _) (Value.ref _)) _ _ _); k_dflt (refine' lst_ne_nil ?zzl ?zzb ?zzu ?_; (case zzb => exact ⟨_, (News.get (by k_asm) (by k_mem)), rfl, _, rfl⟩); (case zzl => is_list); (case zzu => ktr_units); k_whole))
  k_with "compareOp Eq ref ref" => (k_here; (with_reducible show wpAny _ _ (compareOp CmpOp.Eq (Value.ref _) (Value.ref _)) _ _ _); k_dflt (refine' lst_eq_nil ?zzl ?zzb ?zzu ?_; (case zzb => exact ⟨_, (News.get (by k_asm) (by k_mem)), rfl, _, rfl⟩); (case zzl => is_list); (case zzu => ktr_units); k_whole))
  k_with "subscriptTail Name UnaryOp ref int" => (k_here; (with_reducible show wpAny _ _ (subscriptTail _ _ (Value.ref _) (Value.int _ _)) _ _ _); (with_unfolding_all refine' item_last ?zzk1 ?zzk2 ?zzk3 ?_ ?zzk6; (case zzk1 => is_list); (case zzk2 => assumption); (case zzk3 => first | assumption | omega); (case zzk6 => with_unfolding_all rfl); k_whole))
  k_with "subscriptTail Name Slice ref ref" => (k_here; (with_reducible show wpAny _ _ (subscriptTail _ (PySem.Expr.Slice _ _ none _) (Value.ref _) (Value.ref _)) _ _ _); k_dflt (refine' kms_slice_lit ?zzF ?zzN ?zzl ?zzp ?zzq ?zze ?_ ?zzs ?zzt ?zzz; (case zzF => k_asm); (case zzN => k_asm); (case zzl => is_list); (case zzp => kmk_part); (case zzq => kmk_part); (case zze => exact pick_init _); (case zzs => with_unfolding_all rfl); (case zzt => kmk_pure); (case zzz => (simp only [List.size_toArray, sizeLine_eq]; omega))); intro D' h' F' N' l1; (try k_lt l1); (try k_sweep))
  k_with "eval ListComp" => (k_here; k_dflt (refine LCt.ListComp_T (F₀ := by k_asm) (by with_unfolding_all rfl) (by decide) (by rfl) (by decide) (by rfl) ?_); k_dflt lct_toSrc)
  k_with "CompEnd" => (refine' LCg.CompEnd.intro ?zzF ?zzN _ ?zzsub ?zzoff ?zzsrc ⟨rfl, ?_⟩; (case zzF => assumption); (case zzN => assumption); (case zzsub => lcg_sub); (case zzoff => first | assumption | lcg_off | (simp only [LCg.Off3, and_true]; assumption)); (case zzsrc => k_dflt (first | exact Or.inl (by assumption) | lcg_src)); (first | assumption | (refine ⟨rfl, ?_⟩; assumption) | skip))
  k_with "CompSrcT" => (k_here; k_dflt (first
  | refine LCt.CompSrcT.ledger (by rfl) (by k_asm) (by k_asm) (by k_mem) (by simp only [List.size_toArray, sizeLine_eq]; omega) ?_
  | refine LCt.CompSrcT.base (by rfl) (by k_asm) (by k_asm) (by assumption) (by simp only [List.size_toArray, sizeLine_eq]; omega) ?_); k_dflt (intro g'; refine restT_ks (by assumption) (fun k => !k.num && !(k.text == Str.ofString "string")) (by lcg_src) ?_ ?_))
  unfold PureC
  k_fill
  intro loose mean mg mb dp un gd cn cs a ccd cl outer A₀ base h₀ L m s Q E B F X T hk hpre hd hu hret
  refine wpAny_call ?_
  k_dflt (refine' code_def0 ?k1 ?k2 ?k3 ?k5 ?kA ?kF ?kK ?k6 ?k7 ?k8 ?k9 ?kB ?_ ?c2 ?c3 ?c4 ?c5; (case kA => exact rfl); (case kF => exact rfl); (case kK => first | assumption | exact rfl); (case k1 => k_asm); (case k2 => k_asm); (case k3 => k_asm); (case k5 => k_asm); (case k6 => k_is); (case k7 => k_is); (case k8 => ktr_room); (case k9 => first | exact BindsTo.of_eq rfl | exact binds_K (by k_in) rfl (by k_is) rfl rfl rfl); (case c5 => decide); (case kB => exact locs rfl); (case c2 => exact rfl); (case c3 => exact rfl); (case c4 => exact rfl); k_whole; intro g' L' h' HE' F' N' B' X' T'; (try dsimp only); (try k_fold); skip)
  have hl' := Heap.IsList.at hpre.2.1 (fun o e => HE' l o e)
  have hv' := hpre.2.2.1.ext HE'
  have hlen' := hpre.2.2.1.length
  have ha' := hpre.1.ext HE'
  have hz' := hpre.2.2.2
  clear hpre
  k_steps
  all_goals try first | exact sh_f1 (by assumption) | exact sh_f2 (by assumption) | exact sh_t (by assumption) (by assumption)
  all_goals exact hret _ _ _ (fun b o e => Fr.keep (by assumption) b o (HE' b o e)) (by first | exact fb_num (by assumption) | exact fb_prop (by assumption) (by assumption) | exact fb_shown (by assumption) (by assumption) (by assumption) (by assumption) | exact fb_else (by assumption) (by assumption) (by assumption))
theorem fits_oth (w : World) (v : Value) (kd : Str) (t : Tok) (k : Kd) (its : List Kd) : PureC w 329 8 64 [v, .str kd t] (fun h => KAt h v k ∧ (k == .array) = false) (fun _ r => r = .bool (fitsB kd ⟨k, its⟩)) := by
  k_with_none
  k_with "lt" => first | with_reducible assumption | exact lt_0 (by with_reducible assumption) | exact lt_1 (by with_reducible assumption) | exact lt_2 (by with_reducible assumption) | exact lt_3 (by with_reducible assumption) | exact lt_4 (by with_reducible assumption) | exact lt_5 (by with_reducible assumption) | exact lt_6 (by with_reducible assumption) | exact lt_7 (by with_reducible assumption) | exact lt_0 (dr8 (by with_reducible assumption)) | exact lt_1 (dr8 (by with_reducible assumption)) | exact lt_2 (dr8 (by with_reducible assumption)) | exact lt_3 (dr8 (by with_reducible assumption)) | exact lt_4 (dr8 (by with_reducible assumption)) | exact lt_5 (dr8 (by with_reducible assumption)) | exact lt_6 (dr8 (by with_reducible assumption)) | exact lt_7 (dr8 (by with_reducible assumption)) | exact lt_0 (dr8 (dr8 (by with_reducible assumption))) | exact lt_1 (dr8 (dr8 (by with_reducible assumption))) | exact lt_2 (dr8 (dr8 (by with_reducible assumption))) | exact lt_3 (dr8 (dr8 (by with_reducible assumption))) | exact lt_4 (dr8 (dr8 (by with_reducible assumption))) | exact lt_5 (dr8 (dr8 (by with_reducible assumption))) | exact lt_6 (dr8 (dr8 (by with_reducible assumption))) | exact lt_7 (dr8 (dr8 (by with_reducible assumption))) | exact lt_0 (dr8 (dr8 (dr8 (by with_reducible assumption)))) | exact lt_1 (dr8 (dr8 (dr8 (by with_reducible assumption)))) | exact lt_2 (dr8 (dr8 (dr8 (by with_reducible assumption)))) | exact lt_3 (dr8 (dr8 (dr8 (by with_reducible assumption)))) | exact lt_4 (dr8 (dr8 (dr8 (by with_reducible assumption)))) | exact lt_5 (dr8 (dr8 (dr8 (by with_reducible assumption)))) | exact lt_6 (dr8 (dr8 (dr8 (by with_reducible assumption)))) | exact lt_7 (dr8 (dr8 (dr8 (by with_reducible assumption)))) | exact lt_0 (dr8 (dr8 (dr8 (dr8 (by with_reducible assumption))))) | exact lt_1 (dr8 (dr8 (dr8 (dr8 (by with_reducible assumption))))) | exact lt_2 (dr8 (dr8 (dr8 (dr8 (by with_reducible assumption))))) | exact lt_3 (dr8 (dr8 (dr8 (dr8 (by with_reducible assumption))))) | exact lt_4 (dr8 (dr8 (dr8 (dr8 (by with_reducible assumption))))) | exact lt_5 (dr8 (dr8 (dr8 (dr8 (by with_reducible assumption))))) | exact lt_6 (dr8 (dr8 (dr8 (dr8 (by with_reducible assumption))))) | exact lt_7 (dr8 (dr8 (dr8 (dr8 (by with_reducible assumption)))))
  k_with "nd" => first | exact nd_0 (by with_reducible assumption) | exact nd_1 (by with_reducible assumption) | exact nd_2 (by with_reducible assumption) | exact nd_3 (by with_reducible assumption) | exact nd_4 (by with_reducible assumption) | exact nd_5 (by with_reducible assumption) | exact nd_6 (by with_reducible assumption) | exact nd_7 (by with_reducible assumption) | exact nd_8 (by with_reducible assumption)
  k_with "ne" => (refine neN ?_; (try dsimp only); first | with_reducible assumption | exact Ne.symm (by with_reducible assumption) | (refine ne_z ?_; k_extra "lt") | (refine ne_s ?_; k_extra "lt") | (refine ne_zz (by with_reducible assumption) ?_; k_extra "lt") | (refine ne_ss (by with_reducible assumption) ?_; k_extra "lt") | k_extra "nd" | (dsimp only [AllLt] at *; omega))
  k_with "call builtin:isinstance" => (k_here; k_dflt (refine' isi_kind ?zzX ?zzV ?zze ?_; (case zzX => k_in); (case zzV => exact KAt.ext (by assumption) (Fr.keep (by k_asm))); (case zze => first | exact isa_bool _ _ | exact isa_int _ _ | exact isa_list _ _ | exact isa_dict _ _ | exact isa_143 _ _ | exact isa_171 _ _ | exact isa_193 _ _ | exact isa_214 _ _ | exact isa_242 _ _); k_whole); intro tk')
  k_with "call ref" => (k_here; (with_reducible show wpAny _ _ (call (Value.ref 253) [_]) _ _ _); k_dflt (refine' kind_c _ _ _ ?zzB ?zzF ?zzX ?zzT ?zzhk ?zzpre ?zzdd ?zzuu ?_; (case zzB => k_asm); (case zzF => k_asm); (case zzX => k_asm); (case zzT => k_asm); (case zzhk => first | exact rfl | assumption); (case zzpre => exact KAt.ext (by assumption) (Fr.keep (by k_asm))); (case zzdd => ktr_room); (case zzuu => ktr_units)); intro v' h' tk' e' p'; (have F' := fr_ext (by k_asm) e'); (have N' := news_ext (by k_asm) e'); (try dsimp only at p'); (try k_sweep); obtain ⟨tk'', e''⟩ := p'; subst e'')
  k_with "call ref" => (k_here; (with_reducible show wpAny _ _ (call (Value.ref 260) [_]) _ _ _); k_dflt (refine' number_c _ _ _ ?zzB ?zzF ?zzX ?zzT ?zzhk ?zzpre ?zzdd ?zzuu ?_; (case zzB => k_asm); (case zzF => k_asm); (case zzX => k_asm); (case zzT => k_asm); (case zzhk => first | exact rfl | assumption); (case zzpre => exact KAt.ext (by assumption) (Fr.keep (by k_asm))); (case zzdd => ktr_room); (case zzuu => ktr_units)); intro v' h' tk' e' p'; (have F' := fr_ext (by k_asm) e'); (have N' := news_ext (by k_asm) e'); (try dsimp only at p'); (try k_sweep); subst p')
  k_with "compareOp NotEq ref ref" => (k_here; (with_reducible show wpAny _ _ (compareOp CmpOp.NotEq (Value.ref _) (Value.ref _)) _ _ _); k_dflt (refine' lst_ne_nil ?zzl ?zzb ?zzu ?_; (case zzb => exact ⟨_, (News.get (by k_asm) (by k_mem)), rfl, _, rfl⟩); (case zzl => is_list); (case zzu => ktr_units); k_whole))
  k_with "compareOp Eq ref ref" => (k_here; (with_reducible show wpAny _ _ (compareOp CmpOp.Eq (Value.ref _) (Value.ref _)) _ _ _); k_dflt (refine' lst_eq_nil ?zzl ?zzb ?zzu ?_; (case zzb => exact ⟨_, (News.get (by k_asm) (by k_mem)), rfl, _, rfl⟩); (case zzl => is_list); (case zzu => ktr_units); k_whole))
  k_with "subscriptTail Name UnaryOp ref int" => (k_here; (with_reducible show wpAny _ _ (subscriptTail _ _ (Value.ref _) (Value.int _ _)) _ _ _); (with_unfolding_all refine' item_last ?zzk1 ?zzk2 ?zzk3 ?_ ?zzk6; (case zzk1 => is_list); (case zzk2 => assumption); (case zzk3 => first | assumption | omega); (case zzk6 => with_unfolding_all rfl); k_whole))
  k_with "subscriptTail Name Slice ref ref" => (k_here; (with_reducible show wpAny _ _ (subscriptTail _ (PySem.Expr.Slice _ _ none _) (Value.ref _) (Value.ref _)) _ _ _); k_dflt (refine' kms_slice_lit ?zzF ?zzN ?zzl ?zzp ?zzq ?zze ?_ ?zzs ?zzt ?zzz; (case zzF => k_asm); (case zzN => k_asm); (case zzl => is_list); (case zzp => kmk_part); (case zzq => kmk_part); (case zze => exact pick_init _); (case zzs => with_unfolding_all rfl); (case zzt => kmk_pure); (case zzz => (simp only [List.size_toArray, sizeLine_eq]; omega))); intro D' h' F' N' l1; (try k_lt l1); (try k_sweep))
  k_with "eval ListComp" => (k_here; k_dflt (refine LCt.ListComp_T (F₀ := by k_asm) (by with_unfolding_all rfl) (by decide) (by rfl) (by decide) (by rfl) ?_); k_dflt lct_toSrc)
  k_with "CompEnd" => (refine' LCg.CompEnd.intro ?zzF ?zzN _ ?zzsub ?zzoff ?zzsrc ⟨rfl, ?_⟩; (case zzF => assumption); (case zzN => assumption); (case zzsub => lcg_sub); (case zzoff => first | assumption | lcg_off | (simp only [LCg.Off3, and_true]; assumption)); (case zzsrc => k_dflt (first | exact Or.inl (by assumption) | lcg_src)); (first | assumption | (refine ⟨rfl, ?_⟩; assumption) | skip))
  k_with "CompSrcT" => (k_here; k_dflt (first
  | refine LCt.CompSrcT.ledger (by rfl) (by k_asm) (by k_asm) (by k_mem) (by simp only [List.size_toArray, sizeLine_eq]; omega) ?_
  | refine LCt.CompSrcT.base (by rfl) (by k_asm) (by k_asm) (by assumption) (by simp only [List.size_toArray, sizeLine_eq]; omega) ?_); k_dflt (intro g'; refine restT_ks (by assumption) (fun k => !k.num && !(k.text == Str.ofString "string")) (by lcg_src) ?_ ?_))
  unfold PureC
  k_fill
  intro loose mean mg mb dp un gd cn cs a ccd cl outer A₀ base h₀ L m s Q E B F X T hk hpre hd hu hret
  refine wpAny_call ?_
  k_dflt (refine' code_def0 ?k1 ?k2 ?k3 ?k5 ?kA ?kF ?kK ?k6 ?k7 ?k8 ?k9 ?kB ?_ ?c2 ?c3 ?c4 ?c5; (case kA => exact rfl); (case kF => exact rfl); (case kK => first | assumption | exact rfl); (case k1 => k_asm); (case k2 => k_asm); (case k3 => k_asm); (case k5 => k_asm); (case k6 => k_is); (case k7 => k_is); (case k8 => ktr_room); (case k9 => first | exact BindsTo.of_eq rfl | exact binds_K (by k_in) rfl (by k_is) rfl rfl rfl); (case c5 => decide); (case kB => exact locs rfl); (case c2 => exact rfl); (case c3 => exact rfl); (case c4 => exact rfl); k_whole; intro g' L' h' HE' F' N' B' X' T'; (try dsimp only); (try k_fold); skip)
  have ha' := hpre.1.ext HE'
  have hz' := hpre.2
  clear hpre
  k_steps
  all_goals first
    | exact absurd (show (k == .array) = true by assumption) (by rw [hz']; decide)
    | exact hret _ _ _ (fun b o e => Fr.keep (by assumption) b o (HE' b o e)) (by first | exact fb_num (by assumption) | exact fb_prop (by assumption) (by assumption) | exact fb_no (by assumption) (by assumption) (by assumption) (by assumption) | exact fb_false (by assumption) (by assumption) (by assumption) (by assumption) | exact fb_else (by assumption) (by assumption) (by assumption))
    | trace_state
theorem fits_c (w : World) (v : Value) (kd : Str) (t : Tok) (ob : Ob) : PureC w 329 8 64 [v, .str kd t] (fun h => OAt h v ob) (fun _ r => r = .bool (fitsB kd ob)) := by
  intro loose mean mg mb dp un gd cn cs a ccd cl outer A₀ base h₀ L m s Q E B F X T hk hpre hd hu hret
  obtain ⟨k, its⟩ := ob
  by_cases hq : k = .array
  · subst hq
    obtain ⟨l, vs, rfl, b, c, d⟩ := hpre.2 rfl
    exact fits_arr w l kd t vs its B F X T hk ⟨hpre.1, b, c, d⟩ hd hu hret
  · exact fits_oth w v kd t k its B F X T hk ⟨hpre.1, by simpa using hq⟩ hd hu hret
end

section
set_option maxHeartbeats 40000000
open PySem PySem.W PyProof.Rows PySem.Calls PySem.Spec

theorem state_c (w : World) : PureN w 305 8 64 [] (fun h => True) (TabRet w stateTab) := by
  k_with_none
  k_with "lt" => first | with_reducible assumption | exact lt_0 (by with_reducible assumption) | exact lt_1 (by with_reducible assumption) | exact lt_2 (by with_reducible assumption) | exact lt_3 (by with_reducible assumption) | exact lt_4 (by with_reducible assumption) | exact lt_5 (by with_reducible assumption) | exact lt_6 (by with_reducible assumption) | exact lt_7 (by with_reducible assumption) | exact lt_0 (dr8 (by with_reducible assumption)) | exact lt_1 (dr8 (by with_reducible assumption)) | exact lt_2 (dr8 (by with_reducible assumption)) | exact lt_3 (dr8 (by with_reducible assumption)) | exact lt_4 (dr8 (by with_reducible assumption)) | exact lt_5 (dr8 (by with_reducible assumption)) | exact lt_6 (dr8 (by with_reducible assumption)) | exact lt_7 (dr8 (by with_reducible assumption)) | exact lt_0 (dr8 (dr8 (by with_reducible assumption))) | exact lt_1 (dr8 (dr8 (by with_reducible assumption))) | exact lt_2 (dr8 (dr8 (by with_reducible assumption))) | exact lt_3 (dr8 (dr8 (by with_reducible assumption))) | exact lt_4 (dr8 (dr8 (by with_reducible assumption))) | exact lt_5 (dr8 (dr8 (by with_reducible assumption))) | exact lt_6 (dr8 (dr8 (by with_reducible assumption))) | exact lt_7 (dr8 (dr8 (by with_reducible assumption))) | exact lt_0 (dr8 (dr8 (dr8 (by with_reducible assumption)))) | exact lt_1 (dr8 (dr8 (dr8 (by with_reducible assumption)))) | exact lt_2 (dr8 (dr8 (dr8 (by with_reducible assumption)))) | exact lt_3 (dr8 (dr8 (dr8 (by with_reducible assumption)))) | exact lt_4 (dr8 (dr8 (dr8 (by with_reducible assumption)))) | exact lt_5 (dr8 (dr8 (dr8 (by with_reducible assumption)))) | exact lt_6 (dr8 (dr8 (dr8 (by with_reducible assumption)))) | exact lt_7 (dr8 (dr8 (dr8 (by with_reducible assumption)))) | exact lt_0 (dr8 (dr8 (dr8 (dr8 (by with_reducible assumption))))) | exact lt_1 (dr8 (dr8 (dr8 (dr8 (by with_reducible assumption))))) | exact lt_2 (dr8 (dr8 (dr8 (dr8 (by with_reducible assumption))))) | exact lt_3 (dr8 (dr8 (dr8 (dr8 (by with_reducible assumption))))) | exact lt_4 (dr8 (dr8 (dr8 (dr8 (by with_reducible assumption))))) | exact lt_5 (dr8 (dr8 (dr8 (dr8 (by with_reducible assumption))))) | exact lt_6 (dr8 (dr8 (dr8 (dr8 (by with_reducible assumption))))) | exact lt_7 (dr8 (dr8 (dr8 (dr8 (by with_reducible assumption)))))
  k_with "nd" => first | exact nd_0 (by with_reducible assumption) | exact nd_1 (by with_reducible assumption) | exact nd_2 (by with_reducible assumption) | exact nd_3 (by with_reducible assumption) | exact nd_4 (by with_reducible assumption) | exact nd_5 (by with_reducible assumption) | exact nd_6 (by with_reducible assumption) | exact nd_7 (by with_reducible assumption) | exact nd_8 (by with_reducible assumption)
  k_with "ne" => (refine neN ?_; (try dsimp only); first | with_reducible assumption | exact Ne.symm (by with_reducible assumption) | (refine ne_z ?_; k_extra "lt") | (refine ne_s ?_; k_extra "lt") | (refine ne_zz (by with_reducible assumption) ?_; k_extra "lt") | (refine ne_ss (by with_reducible assumption) ?_; k_extra "lt") | k_extra "nd" | (dsimp only [AllLt] at *; omega))
  k_with "strs_tac" => (first | exact Strs.nil | (refine' Strs.cons ?zza; (case zza => k_extra "strs_tac")))
  k_with "strtup_tac" => (refine' Exists.intro _ (And.intro ?zza rfl); (case zza => k_extra "strs_tac"))
  k_with "tabl_tac" => (first | exact TabL.nil | (refine' TabL.cons ?zza ?zzb ?zzc; (case zza => k_mem); (case zzb => k_extra "strtup_tac"); (case zzc => k_extra "tabl_tac")))
  k_with "alltup_tac" => (first | exact AllTup.nil | (refine' AllTup.cons (ks := []) (Exists.intro _ rfl) ?zza; (case zza => k_extra "alltup_tac")))
  k_with "put_tac" => (first | exact Put.head | (refine' Put.tail ?zza ?zzb; (case zza => k_ne); (case zzb => k_extra "put_tac")))
  k_with "rem_tac" => (first | (refine' Rem.here ?zza; (case zza => k_all)) | (refine' Rem.there ?zza ?zzb; (case zza => k_ne); (case zzb => k_extra "rem_tac")))
  k_with "intl_tac" => (first | exact IntL.nil | (refine' IntL.cons ?zza; (case zza => k_extra "intl_tac")))
  k_with "eval Dict" => (k_here; k_dflt (
  (refine' kdn_str ?zzq ?zzF ?zzN ?zzb ?zza ?zzl ?zze ?zzn ?_; (case zzq => rfl); (case zzF => k_asm); (case zzN => first | k_asm | exact News.nil); (case zzb => exact Top.nolimit (by k_asm)); (case zza => rfl); (case zzl => rfl); (case zze => exact List.cons_ne_nil _ _); (case zzn => exact Nat.le_of_ble_eq_true rfl))); intro d' h' o' F' N' l1 lo' hd'; (try k_lt l1))
  k_with "binaryOp Mult ref int" => (k_here; (with_reducible show wpAny _ _ (binaryOp Operator.Mult (Value.ref _) (Value.int _ _)) _ _ _); k_dflt (
  (refine' tup_mul_K ?zzF ?zzN ?zzl ?zza ?zzb ?zzc ?zzd ?zze ?zzz ?_; (case zzF => k_asm); (case zzN => k_asm); (case zzl => k_mem); (case zza => decide); (case zzb => decide); (case zzc => decide); (case zzd => (simp only [List.length_cons, List.length_nil]; decide)); (case zze => (simp only [List.length_cons, List.length_nil]; decide)); (case zzz => (simp only [Int.reduceToNat, List.replicate_succ, List.replicate_zero, List.flatten_cons, List.flatten_nil, List.cons_append, List.nil_append, List.append_nil]; first | done | exact rfl)); k_whole)); intro D' h' F' N' l1; (try k_lt l1); (try k_sweep))
  k_with "setItem ref str" => (k_here; (with_reducible show wpAny _ _ (setItem (Value.ref _) (Value.str _ _) (Value.ref _)) _ _ _); k_dflt (refine' tab_set ?zzF ?zzN ?zzP ?zzhtl ?zzhd ?zzht ?zzhc ?zzhs ?zzne ?zzhk ?zzhz ?_; (case zzF => k_asm); (case zzht => assumption); (case zzhtl => assumption); (case zzhc => assumption); (case zzhd => assumption); (case zzN => assumption); (case zzP => k_extra "put_tac"); (case zzhs => k_extra "strtup_tac"); (case zzne => k_ne); (case zzhk => first | assumption | decide +kernel); (case zzhz => first | assumption | decide +kernel)); intro h' o' tl' kvs' F' N' hoff' hd' ht' hc'; (try dsimp only at N'))
  k_with "KdnMade" => (k_here; k_dflt (refine' kdn_made_str ?zzF ?zzN ?zzU ?zzd ?zzk ?zzn ?_; (case zzF => k_asm); (case zzN => k_asm); (case zzU => k_updF); (case zzd => k_asm); (case zzk => rfl); (case zzn => exact of_decide_eq_true (by first | rfl | kernel_rfl!)); intro h' o' F' N' hd'); (try dsimp only at N'); (simp only [strPairs] at hd'); (obtain ⟨tl', kvs', hd', N', hoff', ht', hc'⟩ := tab_init (d := d') N' hd' (by k_extra "rem_tac") (by k_dflt k_extra "tabl_tac") (by k_extra "alltup_tac")))
  unfold PureN
  k_fill
  intro loose mean mg mb dp un gd cn cs a ccd cl outer A₀ base h₀ L m s Q E B F X T hk hpre hd hu hret
  refine wpAny_call ?_
  k_dflt (refine' code_def0 ?k1 ?k2 ?k3 ?k5 ?kA ?kF ?kK ?k6 ?k7 ?k8 ?k9 ?kB ?_ ?c2 ?c3 ?c4 ?c5; (case kA => exact rfl); (case kF => exact rfl); (case kK => first | assumption | exact rfl); (case k1 => k_asm); (case k2 => k_asm); (case k3 => k_asm); (case k5 => k_asm); (case k6 => k_is); (case k7 => k_is); (case k8 => ktr_room); (case k9 => first | exact BindsTo.of_eq rfl | exact binds_K (by k_in) rfl (by k_is) rfl rfl rfl); (case c5 => decide); (case kB => exact locs rfl); (case c2 => exact rfl); (case c3 => exact rfl); (case c4 => exact rfl); k_whole; intro g' L' h' HE' F' N' B' X' T'; (try dsimp only); (try k_fold); (first | (refine e_fold ?_; intro A9 e9) | (refine a_fold ?_; intro A9) | skip))
  clear hpre
  k_steps
  (k_dflt (refine' for_tab ?y1xs ?y1words [Str.ofString "number", Str.ofString "number", Str.ofString "number"] ?y1hk ?y1hl ?y1hh ?y1F ?y1N ?y1hoC ?y1hx ?y1hoff ?y1hd ?y1ht ?y1hc ?y1ne ?y1fr ?y1hz ?y1turn ?y1fin; (case y1ht => assumption); (case y1hoff => assumption); (case y1hc => assumption); (case y1hd => assumption); (case y1F => k_asm); (case y1N => exact news_tab (by assumption) (by k_extra "put_tac") (by k_mem)); (case y1hoC => exact rfl); (case y1hx => k_extra "strs_tac"); (case y1hk => rfl); (case y1hl => rfl); (case y1hh => rfl); (case y1ne => k_ne); (case y1fr => decide +kernel); (case y1hz => decide +kernel)); (case y1turn => (intro word' t' o' kvs' tl' tb' h' tk' I' oI' hoI' hd' ht' hoff' hc' hfr' hz' hCd' hdI' F' N'; k_steps; (refine' tab_end ?y1ht ?y1hd ?y1hoff ?y1hc ?y1F ?y1N ?y1P ?y1hC ?y1hI; (case y1ht => assumption); (case y1hd => assumption); (case y1hoff => assumption); (case y1hc => assumption); (case y1F => assumption); (case y1N => assumption); (case y1P => k_extra "put_tac"); (case y1hC => k_mem); (case y1hI => k_mem)))); intro ov' o' kvs' tl' h' tk' hd' ht' hoff' hc' F' N'; k_steps)
  (k_dflt (refine' for_tab ?y2xs ?y2words [Str.ofString "number", Str.ofString "number", Str.ofString "number", Str.ofString "number"] ?y2hk ?y2hl ?y2hh ?y2F ?y2N ?y2hoC ?y2hx ?y2hoff ?y2hd ?y2ht ?y2hc ?y2ne ?y2fr ?y2hz ?y2turn ?y2fin; (case y2ht => assumption); (case y2hoff => assumption); (case y2hc => assumption); (case y2hd => assumption); (case y2F => k_asm); (case y2N => exact news_tab (by assumption) (by k_extra "put_tac") (by k_mem)); (case y2hoC => exact rfl); (case y2hx => k_extra "strs_tac"); (case y2hk => rfl); (case y2hl => rfl); (case y2hh => rfl); (case y2ne => k_ne); (case y2fr => decide +kernel); (case y2hz => decide +kernel)); (case y2turn => (intro word' t' o' kvs' tl' tb' h' tk' I' oI' hoI' hd' ht' hoff' hc' hfr' hz' hCd' hdI' F' N'; k_steps; (refine' tab_end ?y2ht ?y2hd ?y2hoff ?y2hc ?y2F ?y2N ?y2P ?y2hC ?y2hI; (case y2ht => assumption); (case y2hd => assumption); (case y2hoff => assumption); (case y2hc => assumption); (case y2F => assumption); (case y2N => assumption); (case y2P => k_extra "put_tac"); (case y2hC => k_mem); (case y2hI => k_mem)))); intro ov' o' kvs' tl' h' tk' hd' ht' hoff' hc' F' N'; k_steps)
  (k_dflt (refine' for_tab ?y3xs ?y3words [] ?y3hk ?y3hl ?y3hh ?y3F ?y3N ?y3hoC ?y3hx ?y3hoff ?y3hd ?y3ht ?y3hc ?y3ne ?y3fr ?y3hz ?y3turn ?y3fin; (case y3ht => assumption); (case y3hoff => assumption); (case y3hc => assumption); (case y3hd => assumption); (case y3F => k_asm); (case y3N => exact news_tab (by assumption) (by k_extra "put_tac") (by k_mem)); (case y3hoC => exact rfl); (case y3hx => k_extra "strs_tac"); (case y3hk => rfl); (case y3hl => rfl); (case y3hh => rfl); (case y3ne => k_ne); (case y3fr => decide +kernel); (case y3hz => decide +kernel)); (case y3turn => (intro word' t' o' kvs' tl' tb' h' tk' I' oI' hoI' hd' ht' hoff' hc' hfr' hz' hCd' hdI' F' N'; k_steps; (refine' tab_end ?y3ht ?y3hd ?y3hoff ?y3hc ?y3F ?y3N ?y3P ?y3hC ?y3hI; (case y3ht => assumption); (case y3hd => assumption); (case y3hoff => assumption); (case y3hc => assumption); (case y3F => assumption); (case y3N => assumption); (case y3P => k_extra "put_tac"); (case y3hC => k_mem); (case y3hI => k_mem)))); intro ov' o' kvs' tl' h' tk' hd' ht' hoff' hc' F' N'; k_steps)
  (k_dflt (refine' for_tab ?y4xs ?y4words [Str.ofString "name"] ?y4hk ?y4hl ?y4hh ?y4F ?y4N ?y4hoC ?y4hx ?y4hoff ?y4hd ?y4ht ?y4hc ?y4ne ?y4fr ?y4hz ?y4turn ?y4fin; (case y4ht => assumption); (case y4hoff => assumption); (case y4hc => assumption); (case y4hd => assumption); (case y4F => k_asm); (case y4N => exact news_tab (by assumption) (by k_extra "put_tac") (by k_mem)); (case y4hoC => exact rfl); (case y4hx => k_extra "strs_tac"); (case y4hk => rfl); (case y4hl => rfl); (case y4hh => rfl); (case y4ne => k_ne); (case y4fr => decide +kernel); (case y4hz => decide +kernel)); (case y4turn => (intro word' t' o' kvs' tl' tb' h' tk' I' oI' hoI' hd' ht' hoff' hc' hfr' hz' hCd' hdI' F' N'; k_steps; (refine' tab_end ?y4ht ?y4hd ?y4hoff ?y4hc ?y4F ?y4N ?y4P ?y4hC ?y4hI; (case y4ht => assumption); (case y4hd => assumption); (case y4hoff => assumption); (case y4hc => assumption); (case y4F => assumption); (case y4N => assumption); (case y4P => k_extra "put_tac"); (case y4hC => k_mem); (case y4hI => k_mem)))); intro ov' o' kvs' tl' h' tk' hd' ht' hoff' hc' F' N'; k_steps)
  (k_dflt (refine' for_tab ?y5xs ?y5words [Str.ofString "name", Str.ofString "property"] ?y5hk ?y5hl ?y5hh ?y5F ?y5N ?y5hoC ?y5hx ?y5hoff ?y5hd ?y5ht ?y5hc ?y5ne ?y5fr ?y5hz ?y5turn ?y5fin; (case y5ht => assumption); (case y5hoff => assumption); (case y5hc => assumption); (case y5hd => assumption); (case y5F => k_asm); (case y5N => exact news_tab (by assumption) (by k_extra "put_tac") (by k_mem)); (case y5hoC => exact rfl); (case y5hx => k_extra "strs_tac"); (case y5hk => rfl); (case y5hl => rfl); (case y5hh => rfl); (case y5ne => k_ne); (case y5fr => decide +kernel); (case y5hz => decide +kernel)); (case y5turn => (intro word' t' o' kvs' tl' tb' h' tk' I' oI' hoI' hd' ht' hoff' hc' hfr' hz' hCd' hdI' F' N'; k_steps; (refine' tab_end ?y5ht ?y5hd ?y5hoff ?y5hc ?y5F ?y5N ?y5P ?y5hC ?y5hI; (case y5ht => assumption); (case y5hd => assumption); (case y5hoff => assumption); (case y5hc => assumption); (case y5F => assumption); (case y5N => assumption); (case y5P => k_extra "put_tac"); (case y5hC => k_mem); (case y5hI => k_mem)))); intro ov' o' kvs' tl' h' tk' hd' ht' hoff' hc' F' N'; k_steps)
  (k_dflt (refine' for_tab ?y6xs ?y6words [Str.ofString "numbers"] ?y6hk ?y6hl ?y6hh ?y6F ?y6N ?y6hoC ?y6hx ?y6hoff ?y6hd ?y6ht ?y6hc ?y6ne ?y6fr ?y6hz ?y6turn ?y6fin; (case y6ht => assumption); (case y6hoff => assumption); (case y6hc => assumption); (case y6hd => assumption); (case y6F => k_asm); (case y6N => exact news_tab (by assumption) (by k_extra "put_tac") (by k_mem)); (case y6hoC => exact rfl); (case y6hx => k_extra "strs_tac"); (case y6hk => rfl); (case y6hl => rfl); (case y6hh => rfl); (case y6ne => k_ne); (case y6fr => decide +kernel); (case y6hz => decide +kernel)); (case y6turn => (intro word' t' o' kvs' tl' tb' h' tk' I' oI' hoI' hd' ht' hoff' hc' hfr' hz' hCd' hdI' F' N'; k_steps; (refine' tab_end ?y6ht ?y6hd ?y6hoff ?y6hc ?y6F ?y6N ?y6P ?y6hC ?y6hI; (case y6ht => assumption); (case y6hd => assumption); (case y6hoff => assumption); (case y6hc => assumption); (case y6F => assumption); (case y6N => assumption); (case y6P => k_extra "put_tac"); (case y6hC => k_mem); (case y6hI => k_mem)))); intro ov' o' kvs' tl' h' tk' hd' ht' hoff' hc' F' N'; k_steps)
  (k_dflt (refine' for_tab ?y7xs ?y7words [Str.ofString "colour"] ?y7hk ?y7hl ?y7hh ?y7F ?y7N ?y7hoC ?y7hx ?y7hoff ?y7hd ?y7ht ?y7hc ?y7ne ?y7fr ?y7hz ?y7turn ?y7fin; (case y7ht => assumption); (case y7hoff => assumption); (case y7hc => assumption); (case y7hd => assumption); (case y7F => k_asm); (case y7N => exact news_tab (by assumption) (by k_extra "put_tac") (by k_mem)); (case y7hoC => exact rfl); (case y7hx => k_extra "strs_tac"); (case y7hk => rfl); (case y7hl => rfl); (case y7hh => rfl); (case y7ne => k_ne); (case y7fr => decide +kernel); (case y7hz => decide +kernel)); (case y7turn => (intro word' t' o' kvs' tl' tb' h' tk' I' oI' hoI' hd' ht' hoff' hc' hfr' hz' hCd' hdI' F' N'; k_steps; (refine' tab_end ?y7ht ?y7hd ?y7hoff ?y7hc ?y7F ?y7N ?y7P ?y7hC ?y7hI; (case y7ht => assumption); (case y7hd => assumption); (case y7hoff => assumption); (case y7hc => assumption); (case y7F => assumption); (case y7N => assumption); (case y7P => k_extra "put_tac"); (case y7hC => k_mem); (case y7hI => k_mem)))); intro ov' o' kvs' tl' h' tk' hd' ht' hoff' hc' F' N'; k_steps)
  refine' hret _ _ _ ?qe ?qp
  case qe => exact fun b o e => Fr.keep (by assumption) b o (HE' b o e)
  case qp =>
    refine' tab_ret HE' ?qN ?qhoff ?qhd ?qht ?qhc ?qlo ?qhe
    case qht => assumption
    case qhd => assumption
    case qhoff => assumption
    case qhc => assumption
    case qlo => assumption
    case qN =>
      refine' news_tab1 ?qn ?qq
      case qn => assumption
      case qq => k_extra "put_tac"
    case qhe => decide +kernel
end

section
set_option maxHeartbeats 40000000
open PySem PySem.W PyProof.Rows PySem.Calls PySem.Spec

theorem text_c (w : World) : PureN w 317 8 64 [] (fun h => True) (TabRet w textTab) := by
  k_with_none
  k_with "lt" => first | with_reducible assumption | exact lt_0 (by with_reducible assumption) | exact lt_1 (by with_reducible assumption) | exact lt_2 (by with_reducible assumption) | exact lt_3 (by with_reducible assumption) | exact lt_4 (by with_reducible assumption) | exact lt_5 (by with_reducible assumption) | exact lt_6 (by with_reducible assumption) | exact lt_7 (by with_reducible assumption) | exact lt_0 (dr8 (by with_reducible assumption)) | exact lt_1 (dr8 (by with_reducible assumption)) | exact lt_2 (dr8 (by with_reducible assumption)) | exact lt_3 (dr8 (by with_reducible assumption)) | exact lt_4 (dr8 (by with_reducible assumption)) | exact lt_5 (dr8 (by with_reducible assumption)) | exact lt_6 (dr8 (by with_reducible assumption)) | exact lt_7 (dr8 (by with_reducible assumption)) | exact lt_0 (dr8 (dr8 (by with_reducible assumption))) | exact lt_1 (dr8 (dr8 (by with_reducible assumption))) | exact lt_2 (dr8 (dr8 (by with_reducible assumption))) | exact lt_3 (dr8 (dr8 (by with_reducible assumption))) | exact lt_4 (dr8 (dr8 (by with_reducible assumption))) | exact lt_5 (dr8 (dr8 (by with_reducible assumption))) | exact lt_6 (dr8 (dr8 (by with_reducible assumption))) | exact lt_7 (dr8 (dr8 (by with_reducible assumption))) | exact lt_0 (dr8 (dr8 (dr8 (by with_reducible assumption)))) | exact lt_1 (dr8 (dr8 (dr8 (by with_reducible assumption)))) | exact lt_2 (dr8 (dr8 (dr8 (by with_reducible assumption)))) | exact lt_3 (dr8 (dr8 (dr8 (by with_reducible assumption)))) | exact lt_4 (dr8 (dr8 (dr8 (by with_reducible assumption)))) | exact lt_5 (dr8 (dr8 (dr8 (by with_reducible assumption)))) | exact lt_6 (dr8 (dr8 (dr8 (by with_reducible assumption)))) | exact lt_7 (dr8 (dr8 (dr8 (by with_reducible assumption)))) | exact lt_0 (dr8 (dr8 (dr8 (dr8 (by with_reducible assumption))))) | exact lt_1 (dr8 (dr8 (dr8 (dr8 (by with_reducible assumption))))) | exact lt_2 (dr8 (dr8 (dr8 (dr8 (by with_reducible assumption))))) | exact lt_3 (dr8 (dr8 (dr8 (dr8 (by with_reducible assumption))))) | exact lt_4 (dr8 (dr8 (dr8 (dr8 (by with_reducible assumption))))) | exact lt_5 (dr8 (dr8 (dr8 (dr8 (by with_reducible assumption))))) | exact lt_6 (dr8 (dr8 (dr8 (dr8 (by with_reducible assumption))))) | exact lt_7 (dr8 (dr8 (dr8 (dr8 (by with_reducible assumption)))))
  k_with "nd" => first | exact nd_0 (by with_reducible assumption) | exact nd_1 (by with_reducible assumption) | exact nd_2 (by with_reducible assumption) | exact nd_3 (by with_reducible assumption) | exact nd_4 (by with_reducible assumption) | exact nd_5 (by with_reducible assumption) | exact nd_6 (by with_reducible assumption) | exact nd_7 (by with_reducible assumption) | exact nd_8 (by with_reducible assumption)
  k_with "ne" => (refine neN ?_; (try dsimp only); first | with_reducible assumption | exact Ne.symm (by with_reducible assumption) | (refine ne_z ?_; k_extra "lt") | (refine ne_s ?_; k_extra "lt") | (refine ne_zz (by with_reducible assumption) ?_; k_extra "lt") | (refine ne_ss (by with_reducible assumption) ?_; k_extra "lt") | k_extra "nd" | (dsimp only [AllLt] at *; omega))
  k_with "strs_tac" => (first | exact Strs.nil | (refine' Strs.cons ?zza; (case zza => k_extra "strs_tac")))
  k_with "strtup_tac" => (refine' Exists.intro _ (And.intro ?zza rfl); (case zza => k_extra "strs_tac"))
  k_with "tabl_tac" => (first | exact TabL.nil | (refine' TabL.cons ?zza ?zzb ?zzc; (case zza => k_mem); (case zzb => k_extra "strtup_tac"); (case zzc => k_extra "tabl_tac")))
  k_with "alltup_tac" => (first | exact AllTup.nil | (refine' AllTup.cons (ks := []) (Exists.intro _ rfl) ?zza; (case zza => k_extra "alltup_tac")))
  k_with "put_tac" => (first | exact Put.head | (refine' Put.tail ?zza ?zzb; (case zza => k_ne); (case zzb => k_extra "put_tac")))
  k_with "rem_tac" => (first | (refine' Rem.here ?zza; (case zza => k_all)) | (refine' Rem.there ?zza ?zzb; (case zza => k_ne); (case zzb => k_extra "rem_tac")))
  k_with "intl_tac" => (first | exact IntL.nil | (refine' IntL.cons ?zza; (case zza => k_extra "intl_tac")))
  k_with "eval Dict" => (k_here; k_dflt (
  (refine' kdn_str ?zzq ?zzF ?zzN ?zzb ?zza ?zzl ?zze ?zzn ?_; (case zzq => rfl); (case zzF => k_asm); (case zzN => first | k_asm | exact News.nil); (case zzb => exact Top.nolimit (by k_asm)); (case zza => rfl); (case zzl => rfl); (case zze => exact List.cons_ne_nil _ _); (case zzn => exact Nat.le_of_ble_eq_true rfl))); intro d' h' o' F' N' l1 lo' hd'; (try k_lt l1))
  k_with "binaryOp Mult ref int" => (k_here; (with_reducible show wpAny _ _ (binaryOp Operator.Mult (Value.ref _) (Value.int _ _)) _ _ _); k_dflt (
  (refine' tup_mul_K ?zzF ?zzN ?zzl ?zza ?zzb ?zzc ?zzd ?zze ?zzz ?_; (case zzF => k_asm); (case zzN => k_asm); (case zzl => k_mem); (case zza => decide); (case zzb => decide); (case zzc => decide); (case zzd => (simp only [List.length_cons, List.length_nil]; decide)); (case zze => (simp only [List.length_cons, List.length_nil]; decide)); (case zzz => (simp only [Int.reduceToNat, List.replicate_succ, List.replicate_zero, List.flatten_cons, List.flatten_nil, List.cons_append, List.nil_append, List.append_nil]; first | done | exact rfl)); k_whole)); intro D' h' F' N' l1; (try k_lt l1); (try k_sweep))
  k_with "setItem ref str" => (k_here; (with_reducible show wpAny _ _ (setItem (Value.ref _) (Value.str _ _) (Value.ref _)) _ _ _); k_dflt (refine' tab_set ?zzF ?zzN ?zzP ?zzhtl ?zzhd ?zzht ?zzhc ?zzhs ?zzne ?zzhk ?zzhz ?_; (case zzF => k_asm); (case zzht => assumption); (case zzhtl => assumption); (case zzhc => assumption); (case zzhd => assumption); (case zzN => assumption); (case zzP => k_extra "put_tac"); (case zzhs => k_extra "strtup_tac"); (case zzne => k_ne); (case zzhk => first | assumption | decide +kernel); (case zzhz => first | assumption | decide +kernel)); intro h' o' tl' kvs' F' N' hoff' hd' ht' hc'; (try dsimp only at N'))
  k_with "KdnMade" => (k_here; k_dflt (refine' kdn_made_str ?zzF ?zzN ?zzU ?zzd ?zzk ?zzn ?_; (case zzF => k_asm); (case zzN => k_asm); (case zzU => k_updF); (case zzd => k_asm); (case zzk => rfl); (case zzn => exact of_decide_eq_true (by first | rfl | kernel_rfl!)); intro h' o' F' N' hd'); (try dsimp only at N'); (simp only [strPairs] at hd'); (obtain ⟨tl', kvs', hd', N', hoff', ht', hc'⟩ := tab_init (d := d') N' hd' (by k_extra "rem_tac") (by k_dflt k_extra "tabl_tac") (by k_extra "alltup_tac")))
  unfold PureN
  k_fill
  intro loose mean mg mb dp un gd cn cs a ccd cl outer A₀ base h₀ L m s Q E B F X T hk hpre hd hu hret
  refine wpAny_call ?_
  k_dflt (refine' code_def0 ?k1 ?k2 ?k3 ?k5 ?kA ?kF ?kK ?k6 ?k7 ?k8 ?k9 ?kB ?_ ?c2 ?c3 ?c4 ?c5; (case kA => exact rfl); (case kF => exact rfl); (case kK => first | assumption | exact rfl); (case k1 => k_asm); (case k2 => k_asm); (case k3 => k_asm); (case k5 => k_asm); (case k6 => k_is); (case k7 => k_is); (case k8 => ktr_room); (case k9 => first | exact BindsTo.of_eq rfl | exact binds_K (by k_in) rfl (by k_is) rfl rfl rfl); (case c5 => decide); (case kB => exact locs rfl); (case c2 => exact rfl); (case c3 => exact rfl); (case c4 => exact rfl); k_whole; intro g' L' h' HE' F' N' B' X' T'; (try dsimp only); (try k_fold); (first | (refine e_fold ?_; intro A9 e9) | (refine a_fold ?_; intro A9) | skip))
  clear hpre
  k_steps
  (k_dflt (refine' for_tab ?y1xs ?y1words [Str.ofString "number"] ?y1hk ?y1hl ?y1hh ?y1F ?y1N ?y1hoC ?y1hx ?y1hoff ?y1hd ?y1ht ?y1hc ?y1ne ?y1fr ?y1hz ?y1turn ?y1fin; (case y1ht => assumption); (case y1hoff => assumption); (case y1hc => assumption); (case y1hd => assumption); (case y1F => k_asm); (case y1N => exact news_tab (by assumption) (by k_extra "put_tac") (by k_mem)); (case y1hoC => exact rfl); (case y1hx => k_extra "strs_tac"); (case y1hk => rfl); (case y1hl => rfl); (case y1hh => rfl); (case y1ne => k_ne); (case y1fr => decide +kernel); (case y1hz => decide +kernel)); (case y1turn => (intro word' t' o' kvs' tl' tb' h' tk' I' oI' hoI' hd' ht' hoff' hc' hfr' hz' hCd' hdI' F' N'; k_steps; (refine' tab_end ?y1ht ?y1hd ?y1hoff ?y1hc ?y1F ?y1N ?y1P ?y1hC ?y1hI; (case y1ht => assumption); (case y1hd => assumption); (case y1hoff => assumption); (case y1hc => assumption); (case y1F => assumption); (case y1N => assumption); (case y1P => k_extra "put_tac"); (case y1hC => k_mem); (case y1hI => k_mem)))); intro ov' o' kvs' tl' h' tk' hd' ht' hoff' hc' F' N'; k_steps)
  (k_dflt (refine' for_tab ?y2xs ?y2words [Str.ofString "number", Str.ofString "number"] ?y2hk ?y2hl ?y2hh ?y2F ?y2N ?y2hoC ?y2hx ?y2hoff ?y2hd ?y2ht ?y2hc ?y2ne ?y2fr ?y2hz ?y2turn ?y2fin; (case y2ht => assumption); (case y2hoff => assumption); (case y2hc => assumption); (case y2hd => assumption); (case y2F => k_asm); (case y2N => exact news_tab (by assumption) (by k_extra "put_tac") (by k_mem)); (case y2hoC => exact rfl); (case y2hx => k_extra "strs_tac"); (case y2hk => rfl); (case y2hl => rfl); (case y2hh => rfl); (case y2ne => k_ne); (case y2fr => decide +kernel); (case y2hz => decide +kernel)); (case y2turn => (intro word' t' o' kvs' tl' tb' h' tk' I' oI' hoI' hd' ht' hoff' hc' hfr' hz' hCd' hdI' F' N'; k_steps; (refine' tab_end ?y2ht ?y2hd ?y2hoff ?y2hc ?y2F ?y2N ?y2P ?y2hC ?y2hI; (case y2ht => assumption); (case y2hd => assumption); (case y2hoff => assumption); (case y2hc => assumption); (case y2F => assumption); (case y2N => assumption); (case y2P => k_extra "put_tac"); (case y2hC => k_mem); (case y2hI => k_mem)))); intro ov' o' kvs' tl' h' tk' hd' ht' hoff' hc' F' N'; k_steps)
  (k_dflt (refine' for_tab ?y3xs ?y3words [Str.ofString "string"] ?y3hk ?y3hl ?y3hh ?y3F ?y3N ?y3hoC ?y3hx ?y3hoff ?y3hd ?y3ht ?y3hc ?y3ne ?y3fr ?y3hz ?y3turn ?y3fin; (case y3ht => assumption); (case y3hoff => assumption); (case y3hc => assumption); (case y3hd => assumption); (case y3F => k_asm); (case y3N => exact news_tab (by assumption) (by k_extra "put_tac") (by k_mem)); (case y3hoC => exact rfl); (case y3hx => k_extra "strs_tac"); (case y3hk => rfl); (case y3hl => rfl); (case y3hh => rfl); (case y3ne => k_ne); (case y3fr => decide +kernel); (case y3hz => decide +kernel)); (case y3turn => (intro word' t' o' kvs' tl' tb' h' tk' I' oI' hoI' hd' ht' hoff' hc' hfr' hz' hCd' hdI' F' N'; k_steps; (refine' tab_end ?y3ht ?y3hd ?y3hoff ?y3hc ?y3F ?y3N ?y3P ?y3hC ?y3hI; (case y3ht => assumption); (case y3hd => assumption); (case y3hoff => assumption); (case y3hc => assumption); (case y3F => assumption); (case y3N => assumption); (case y3P => k_extra "put_tac"); (case y3hC => k_mem); (case y3hI => k_mem)))); intro ov' o' kvs' tl' h' tk' hd' ht' hoff' hc' F' N'; k_steps)
  refine' hret _ _ _ ?qe ?qp
  case qe => exact fun b o e => Fr.keep (by assumption) b o (HE' b o e)
  case qp =>
    refine' tab_ret HE' ?qN ?qhoff ?qhd ?qht ?qhc ?qlo ?qhe
    case qht => assumption
    case qhd => assumption
    case qhoff => assumption
    case qhc => assumption
    case qlo => assumption
    case qN =>
      refine' news_tab1 ?qn ?qq
      case qn => assumption
      case qq => k_extra "put_tac"
    case qhe => decide +kernel
end

section
set_option maxHeartbeats 40000000
open PySem PySem.W PyProof.Rows PySem.Calls PySem.Spec

noncomputable def pW : List Str := [Str.ofString "S", Str.ofString "s", Str.ofString "f", Str.ofString "F", Str.ofString "f*", Str.ofString "B", Str.ofString "B*", Str.ofString "b", Str.ofString "b*", Str.ofString "n"]
noncomputable def pI : List (Str × Int) := [(Str.ofString "m", (2 : Int)), (Str.ofString "l", (2 : Int)), (Str.ofString "c", (6 : Int)), (Str.ofString "v", (4 : Int)), (Str.ofString "y", (4 : Int)), (Str.ofString "re", (4 : Int)), (Str.ofString "h", (0 : Int)), (Str.ofString "W", (0 : Int)), (Str.ofString "W*", (0 : Int))]

theorem path_c (w : World) : PureN w 310 8 64 [] (fun h => True) (TabRet w pathTab) := by
  k_with_none
  k_with "lt" => first | with_reducible assumption | exact lt_0 (by with_reducible assumption) | exact lt_1 (by with_reducible assumption) | exact lt_2 (by with_reducible assumption) | exact lt_3 (by with_reducible assumption) | exact lt_4 (by with_reducible assumption) | exact lt_5 (by with_reducible assumption) | exact lt_6 (by with_reducible assumption) | exact lt_7 (by with_reducible assumption) | exact lt_0 (dr8 (by with_reducible assumption)) | exact lt_1 (dr8 (by with_reducible assumption)) | exact lt_2 (dr8 (by with_reducible assumption)) | exact lt_3 (dr8 (by with_reducible assumption)) | exact lt_4 (dr8 (by with_reducible assumption)) | exact lt_5 (dr8 (by with_reducible assumption)) | exact lt_6 (dr8 (by with_reducible assumption)) | exact lt_7 (dr8 (by with_reducible assumption)) | exact lt_0 (dr8 (dr8 (by with_reducible assumption))) | exact lt_1 (dr8 (dr8 (by with_reducible assumption))) | exact lt_2 (dr8 (dr8 (by with_reducible assumption))) | exact lt_3 (dr8 (dr8 (by with_reducible assumption))) | exact lt_4 (dr8 (dr8 (by with_reducible assumption))) | exact lt_5 (dr8 (dr8 (by with_reducible assumption))) | exact lt_6 (dr8 (dr8 (by with_reducible assumption))) | exact lt_7 (dr8 (dr8 (by with_reducible assumption))) | exact lt_0 (dr8 (dr8 (dr8 (by with_reducible assumption)))) | exact lt_1 (dr8 (dr8 (dr8 (by with_reducible assumption)))) | exact lt_2 (dr8 (dr8 (dr8 (by with_reducible assumption)))) | exact lt_3 (dr8 (dr8 (dr8 (by with_reducible assumption)))) | exact lt_4 (dr8 (dr8 (dr8 (by with_reducible assumption)))) | exact lt_5 (dr8 (dr8 (dr8 (by with_reducible assumption)))) | exact lt_6 (dr8 (dr8 (dr8 (by with_reducible assumption)))) | exact lt_7 (dr8 (dr8 (dr8 (by with_reducible assumption)))) | exact lt_0 (dr8 (dr8 (dr8 (dr8 (by with_reducible assumption))))) | exact lt_1 (dr8 (dr8 (dr8 (dr8 (by with_reducible assumption))))) | exact lt_2 (dr8 (dr8 (dr8 (dr8 (by with_reducible assumption))))) | exact lt_3 (dr8 (dr8 (dr8 (dr8 (by with_reducible assumption))))) | exact lt_4 (dr8 (dr8 (dr8 (dr8 (by with_reducible assumption))))) | exact lt_5 (dr8 (dr8 (dr8 (dr8 (by with_reducible assumption))))) | exact lt_6 (dr8 (dr8 (dr8 (dr8 (by with_reducible assumption))))) | exact lt_7 (dr8 (dr8 (dr8 (dr8 (by with_reducible assumption)))))
  k_with "nd" => first | exact nd_0 (by with_reducible assumption) | exact nd_1 (by with_reducible assumption) | exact nd_2 (by with_reducible assumption) | exact nd_3 (by with_reducible assumption) | exact nd_4 (by with_reducible assumption) | exact nd_5 (by with_reducible assumption) | exact nd_6 (by with_reducible assumption) | exact nd_7 (by with_reducible assumption) | exact nd_8 (by with_reducible assumption)
  k_with "ne" => (refine neN ?_; (try dsimp only); first | with_reducible assumption | exact Ne.symm (by with_reducible assumption) | (refine ne_z ?_; k_extra "lt") | (refine ne_s ?_; k_extra "lt") | (refine ne_zz (by with_reducible assumption) ?_; k_extra "lt") | (refine ne_ss (by with_reducible assumption) ?_; k_extra "lt") | k_extra "nd" | (dsimp only [AllLt] at *; omega))
  k_with "strs_tac" => (first | exact Strs.nil | (refine' Strs.cons ?zza; (case zza => k_extra "strs_tac")))
  k_with "strtup_tac" => (refine' Exists.intro _ (And.intro ?zza rfl); (case zza => k_extra "strs_tac"))
  k_with "tabl_tac" => (first | exact TabL.nil | (refine' TabL.cons ?zza ?zzb ?zzc; (case zza => k_mem); (case zzb => k_extra "strtup_tac"); (case zzc => k_extra "tabl_tac")))
  k_with "alltup_tac" => (first | exact AllTup.nil | (refine' AllTup.cons (ks := []) (Exists.intro _ rfl) ?zza; (case zza => k_extra "alltup_tac")))
  k_with "put_tac" => (first | exact Put.head | (refine' Put.tail ?zza ?zzb; (case zza => k_ne); (case zzb => k_extra "put_tac")))
  k_with "rem_tac" => (first | (refine' Rem.here ?zza; (case zza => k_all)) | (refine' Rem.there ?zza ?zzb; (case zza => k_ne); (case zzb => k_extra "rem_tac")))
  k_with "intl_tac" => (first | exact IntL.nil | (refine' IntL.cons ?zza; (case zza => k_extra "intl_tac")))
  k_with "eval Dict" => (k_here; k_dflt (
  (refine' kdn_str ?zzq ?zzF ?zzN ?zzb ?zza ?zzl ?zze ?zzn ?_; (case zzq => rfl); (case zzF => k_asm); (case zzN => first | k_asm | exact News.nil); (case zzb => exact Top.nolimit (by k_asm)); (case zza => rfl); (case zzl => rfl); (case zze => exact List.cons_ne_nil _ _); (case zzn => exact Nat.le_of_ble_eq_true rfl))); intro d' h' o' F' N' l1 lo' hd'; (try k_lt l1))
  k_with "KdnMade" => (k_here; k_dflt (refine' kdn_made_str ?zzF ?zzN ?zzU ?zzd ?zzk ?zzn ?_; (case zzF => k_asm); (case zzN => k_asm); (case zzU => k_updF); (case zzd => k_asm); (case zzk => rfl); (case zzn => exact of_decide_eq_true (by first | rfl | kernel_rfl!)); intro h' o' F' N' hd'); (try dsimp only at N'); (simp only [strPairs] at hd'))
  k_with "exec For Name Tuple" => (k_here; (rename Fr _ _ _ _ => lF'); (with_unfolding_all refine' For_turns lF' ?_; k_whole))
  k_with "exec For Name Tuple cons nil" => (k_here; (rename Fr _ _ _ _ => lF'); (with_unfolding_all refine' For_turns lF' ?_; k_whole))
  k_with "pyIter ref" => (k_here; k_dflt (refine' for_dict ?zzxs pW (fun i kvs => IntL kvs (itabw pI pW 0 i)) ?zzhk ?zzhl ?zzhh ?zzF ?zzN ?zzhoC ?zzhx ?zzhd ?zzhR ?zzne ?zzturn ?zzfin; (case zzhd => assumption); (case zzF => k_asm); (case zzN => assumption); (case zzhoC => exact rfl); (case zzhx => with_unfolding_all k_extra "strs_tac"); (case zzhk => rfl); (case zzhl => rfl); (case zzhh => rfl); (case zzhR => (rw [itabw_zero]; with_unfolding_all k_extra "intl_tac")); (case zzne => k_ne); (case zzturn => (intro i' word' t' o' kvs' h' tk' I' oI' hw' hoI' hd' hR' hCd' hdI' hrI' F' N'; (try k_lt hrI'); k_steps)); (intro ov' o' kvs' h' tk' hd' hR' F' N')))
  k_with "setItem ref str" => (k_here; k_dflt (refine' kda_set (knd := PySem.strKind _ _) ?zzF ?zzN ?zzU ?zzd (strKind_is _ _ _ _) ?zzz ?_; (case zzF => k_asm); (case zzd => assumption); (case zzN => k_asm); (case zzU => k_updF); (case zzz => exact intl_size (by assumption) (by decide +kernel))); intro h' o' F' N' hd'; (try dsimp only at N'))
  k_with "DEnd" => k_dflt (refine' And.intro rfl (Exists.intro _ (Exists.intro _ (Exists.intro _ (Exists.intro _ (And.intro rfl (And.intro ?zzF (And.intro ?zzN (And.intro ?zzd ?zzR)))))))); (case zzF => assumption); (case zzN => assumption); (case zzd => assumption); (case zzR => exact intl_next (by assumption) (by assumption) (by decide +kernel)))
  k_with "eval DictComp" => (k_here; k_dflt (refine DictComp_J (by k_asm) (by with_unfolding_all rfl) (by decide) (by rfl) (by decide) (by rfl) ?_))
  k_with "subscriptTail" => (k_here; (with_reducible show wpAny _ _ (subscriptTail _ _ (Value.ref _) (Value.str _ _)) _ _ _); k_dflt (refine' kda_item (knd := PySem.strKind _ _) ?zzN ?zzp ?zzd (strKind_is _ _ _ _) ?zzl ?_ ?zzs1 ?zzs2; (case zzl => assumption); (case zzd => assumption); (case zzN => assumption); (case zzp => k_mem); (case zzs1 => with_unfolding_all rfl); (case zzs2 => intro _; with_unfolding_all rfl)))
  k_with "binaryOp Mult ref int" => (k_here; (with_reducible show wpAny _ _ (binaryOp Operator.Mult (Value.ref _) (Value.int _ _)) _ _ _); k_dflt (
  (refine' tup_mul_K ?zzF ?zzN ?zzl ?zza ?zzb ?zzc ?zzd ?zze ?zzz ?_; (case zzF => k_asm); (case zzN => k_asm); (case zzl => k_mem); (case zza => assumption); (case zzb => assumption); (case zzc => assumption); (case zzd => (simp only [List.length_cons, List.length_nil]; decide)); (case zze => (simp only [List.length_cons, List.length_nil]; decide)); (case zzz => exact rfl); k_whole)); intro D' h' F' N' l1; (try k_lt l1); (try k_sweep))
  k_with "DKeep" => k_dflt (refine' path_end ?zzN ?zzht ?zzhc ?zzh ?zzF ?zzhf ?zzoff ?zzn1 ?zzn2 ?zzn3; (case zzN => assumption); (case zzh => assumption); (case zzht => assumption); (case zzhc => assumption); (case zzF => assumption); (case zzhf => decide +kernel); (case zzoff => assumption); (case zzn1 => k_ne); (case zzn2 => k_ne); (case zzn3 => k_ne))
  unfold PureN
  k_fill
  intro loose mean mg mb dp un gd cn cs a ccd cl outer A₀ base h₀ L m s Q E B F X T hk hpre hd hu hret
  refine wpAny_call ?_
  k_dflt (refine' code_cellE (led := []) ?k1 ?k2 ?k3 ?k4 ?k5 ?kA ?kF ?kK ?k6 ?k7 ?k8 ?k9 ?kB ?kD ?_ ?c2 ?c3 ?c4; (case kA => exact rfl); (case kF => exact rfl); (case kK => first | assumption | exact rfl); (case k1 => k_asm); (case k2 => k_asm); (case k3 => k_asm); (case k4 => exact News.nil); (case k5 => k_asm); (case k6 => k_is); (case k7 => k_is); (case k8 => ktr_room); (case k9 => first | exact BindsTo.of_eq rfl | exact binds_K (by k_in) rfl (by k_is) rfl rfl rfl); (case kB => exact rfl); (case kD => decide +kernel); (case c2 => exact rfl); (case c3 => exact rfl); (case c4 => exact rfl); k_whole; intro g' L' h' tk' cells' HG' F' N' Y' B' X' T' l1; k_cells Y'; (try simp only [List.cons_append, List.nil_append, List.append_nil] at N'); (try dsimp only); (try with_reducible show wpAny _ _ _ _ _ _); (try k_fold); (first | (refine e_fold ?_; intro A9 e9) | (refine a_fold ?_; intro A9) | skip))
  have HE' : Ext _ g' := fun b o e => HG' b o e (fun hm => nomatch hm)
  clear HG'
  clear hpre
  k_steps
  refine' path_src (itabw pI pW 0 pW.length) ?hh ?F ?N ?hd ?hs ?hI ?hz ?turn ?fin9
  case N => assumption
  case hh => rfl
  case F => assumption
  case hd => assumption
  case hs => assumption
  case hI => assumption
  case hz => decide +kernel
  case turn =>
    intro i9 kvs9 nw9 hi9 hJ9 k9 x9 v9 I9 oI9 C9 oC9 D9 oD9 m9 h9 tk9 E9 hkx9 hkv9 hC9 hx9 hD9 F9 N9 off9 ne9
    obtain ⟨tl9, rfl, ht9, hc9⟩ := hJ9
    obtain ⟨t9, rfl⟩ := strKey_inv hkv9
    obtain ⟨n9, u9, rfl, hi9, hva9, h19, h29, h39⟩ := path_get (by assumption) (by assumption) hkx9 (by decide +kernel)
    k_steps
  case fin9 =>
    intro kvs9 tl9 D9 oD9 h9 tk9 ht9 hc9 hD9 F9 N9 off9 lo9
    k_steps
    refine' hret _ _ _ ?qe ?qp
    case qe => exact fun b o e => Fr.keep (by assumption) b o (HE' b o e)
    case qp => exact tab_ret HE' N9 off9 hD9 ht9 hc9 lo9 (by decide +kernel)
end

section
set_option maxHeartbeats 40000000
open PySem PySem.W PyProof.Rows PySem.Calls PySem.Spec
theorem operand_c (w : World) : PureN w 324 16 128 [] (fun h => True) (TabRet w allTab) := by
  k_with_none
  k_with "lt" => first | with_reducible assumption | exact lt_0 (by with_reducible assumption) | exact lt_1 (by with_reducible assumption) | exact lt_2 (by with_reducible assumption) | exact lt_3 (by with_reducible assumption) | exact lt_4 (by with_reducible assumption) | exact lt_5 (by with_reducible assumption) | exact lt_6 (by with_reducible assumption) | exact lt_7 (by with_reducible assumption) | exact lt_0 (dr8 (by with_reducible assumption)) | exact lt_1 (dr8 (by with_reducible assumption)) | exact lt_2 (dr8 (by with_reducible assumption)) | exact lt_3 (dr8 (by with_reducible assumption)) | exact lt_4 (dr8 (by with_reducible assumption)) | exact lt_5 (dr8 (by with_reducible assumption)) | exact lt_6 (dr8 (by with_reducible assumption)) | exact lt_7 (dr8 (by with_reducible assumption)) | exact lt_0 (dr8 (dr8 (by with_reducible assumption))) | exact lt_1 (dr8 (dr8 (by with_reducible assumption))) | exact lt_2 (dr8 (dr8 (by with_reducible assumption))) | exact lt_3 (dr8 (dr8 (by with_reducible assumption))) | exact lt_4 (dr8 (dr8 (by with_reducible assumption))) | exact lt_5 (dr8 (dr8 (by with_reducible assumption))) | exact lt_6 (dr8 (dr8 (by with_reducible assumption))) | exact lt_7 (dr8 (dr8 (by with_reducible assumption))) | exact lt_0 (dr8 (dr8 (dr8 (by with_reducible assumption)))) | exact lt_1 (dr8 (dr8 (dr8 (by with_reducible assumption)))) | exact lt_2 (dr8 (dr8 (dr8 (by with_reducible assumption)))) | exact lt_3 (dr8 (dr8 (dr8 (by with_reducible assumption)))) | exact lt_4 (dr8 (dr8 (dr8 (by with_reducible assumption)))) | exact lt_5 (dr8 (dr8 (dr8 (by with_reducible assumption)))) | exact lt_6 (dr8 (dr8 (dr8 (by with_reducible assumption)))) | exact lt_7 (dr8 (dr8 (dr8 (by with_reducible assumption)))) | exact lt_0 (dr8 (dr8 (dr8 (dr8 (by with_reducible assumption))))) | exact lt_1 (dr8 (dr8 (dr8 (dr8 (by with_reducible assumption))))) | exact lt_2 (dr8 (dr8 (dr8 (dr8 (by with_reducible assumption))))) | exact lt_3 (dr8 (dr8 (dr8 (dr8 (by with_reducible assumption))))) | exact lt_4 (dr8 (dr8 (dr8 (dr8 (by with_reducible assumption))))) | exact lt_5 (dr8 (dr8 (dr8 (dr8 (by with_reducible assumption))))) | exact lt_6 (dr8 (dr8 (dr8 (dr8 (by with_reducible assumption))))) | exact lt_7 (dr8 (dr8 (dr8 (dr8 (by with_reducible assumption)))))
  k_with "nd" => first | exact nd_0 (by with_reducible assumption) | exact nd_1 (by with_reducible assumption) | exact nd_2 (by with_reducible assumption) | exact nd_3 (by with_reducible assumption) | exact nd_4 (by with_reducible assumption) | exact nd_5 (by with_reducible assumption) | exact nd_6 (by with_reducible assumption) | exact nd_7 (by with_reducible assumption) | exact nd_8 (by with_reducible assumption)
  k_with "ne" => (refine neN ?_; (try dsimp only); first | with_reducible assumption | exact Ne.symm (by with_reducible assumption) | (refine ne_z ?_; k_extra "lt") | (refine ne_s ?_; k_extra "lt") | (refine ne_zz (by with_reducible assumption) ?_; k_extra "lt") | (refine ne_ss (by with_reducible assumption) ?_; k_extra "lt") | k_extra "nd" | (dsimp only [AllLt] at *; omega))
  k_with "call ref" => (k_here; k_dflt (refine' state_c _ ?zzB ?zzF ?zzX ?zzT ?zzhk trivial ?zzdd ?zzuu ?_; (case zzB => k_asm); (case zzF => k_asm); (case zzX => k_asm); (case zzT => k_asm); (case zzhk => first | exact rfl | assumption); (case zzdd => ktr_room); (case zzuu => ktr_units)); intro v1 h1 tk1 e1 p1; (obtain ⟨d1, o1, tl1, kvs1, rfl, hfr1, hoff1, hd1, ht1, lo1⟩ := p1); (have G1 := call_fold1 (TL := []) (by k_asm) (by assumption) e1 hfr1 (fun _ h => nomatch h)); (obtain ⟨TL1, NN1, s1, _, ne1, df1⟩ := G1); (have FF1 := fr_ext (by k_asm) e1); (try dsimp only))
  k_with "call ref" => (k_here; k_dflt (refine' path_c _ ?zzB ?zzF ?zzX ?zzT ?zzhk trivial ?zzdd ?zzuu ?_; (case zzB => k_asm); (case zzF => k_asm); (case zzX => k_asm); (case zzT => k_asm); (case zzhk => first | exact rfl | assumption); (case zzdd => ktr_room); (case zzuu => ktr_units)); intro v2 h2 tk2 e2 p2; (obtain ⟨d2, o2, tl2, kvs2, rfl, hfr2, hoff2, hd2, ht2, lo2⟩ := p2); (have G2 := call_fold2 FF1 NN1 e2 hfr2 ne1); (obtain ⟨TL2, NN2, s2, u2, ne2, df2⟩ := G2); (have FF2 := fr_ext FF1 e2); (try dsimp only))
  k_with "call ref" => (k_here; k_dflt (refine' text_c _ ?zzB ?zzF ?zzX ?zzT ?zzhk trivial ?zzdd ?zzuu ?_; (case zzB => k_asm); (case zzF => k_asm); (case zzX => k_asm); (case zzT => k_asm); (case zzhk => first | exact rfl | assumption); (case zzdd => ktr_room); (case zzuu => ktr_units)); intro v3 h3 tk3 e3 p3; (obtain ⟨d3, o3, tl3, kvs3, rfl, hfr3, hoff3, hd3, ht3, lo3⟩ := p3); (have G3 := call_fold3 FF2 NN2 e3 hfr3 ne2); (obtain ⟨TL3, NN3, s3, u3, ne3, df3⟩ := G3); (have FF3 := fr_ext FF2 e3); (try dsimp only))
  k_with "exec For Name Tuple" => (k_here; (rename Fr _ _ _ _ => lF'); (with_unfolding_all refine' For_turns lF' ?_; k_whole))
  k_with "exec For Name Tuple cons nil" => (k_here; (rename Fr _ _ _ _ => lF'); (with_unfolding_all refine' For_turns lF' ?_; k_whole))
  k_with "exec For Name Name" => (k_here; (rename Fr _ _ _ _ => lF'); (with_unfolding_all refine' For_turns lF' ?_; k_whole))
  k_with "exec For Name Name cons nil" => (k_here; (rename Fr _ _ _ _ => lF'); (with_unfolding_all refine' For_turns lF' ?_; k_whole))
  k_with "subscriptTail" => (k_here; (with_reducible show wpAny _ _ (subscriptTail _ _ (Value.ref _) (Value.str _ _)) _ _ _); k_dflt (refine' kda_item (knd := PySem.strKind _ _) ?zzN ?zzp ?zzd (strKind_is _ _ _ _) ?zzl ?_ ?zzs1 ?zzs2; (case zzl => assumption); (case zzd => assumption); (case zzN => assumption); (case zzp => k_mem); (case zzs1 => with_unfolding_all rfl); (case zzs2 => intro _; with_unfolding_all rfl)))
  unfold PureN
  k_fill
  intro loose mean mg mb dp un gd cn cs a ccd cl outer A₀ base h₀ L m s Q E B F X T hk hpre hd hu hret
  refine wpAny_call ?_
  k_dflt (refine' code_def0 ?k1 ?k2 ?k3 ?k5 ?kA ?kF ?kK ?k6 ?k7 ?k8 ?k9 ?kB ?_ ?c2 ?c3 ?c4 ?c5; (case kA => exact rfl); (case kF => exact rfl); (case kK => first | assumption | exact rfl); (case k1 => k_asm); (case k2 => k_asm); (case k3 => k_asm); (case k5 => k_asm); (case k6 => k_is); (case k7 => k_is); (case k8 => ktr_room); (case k9 => first | exact BindsTo.of_eq rfl | exact binds_K (by k_in) rfl (by k_is) rfl rfl rfl); (case c5 => decide); (case kB => exact locs rfl); (case c2 => exact rfl); (case c3 => exact rfl); (case c4 => exact rfl); k_whole; intro g' L' h' HE' F' N' B' X' T'; (try dsimp only); (try k_fold); (first | (refine e_fold ?_; intro A9 e9) | (refine a_fold ?_; intro A9) | skip))
  clear hpre
  k_steps
  have N8 := reord4 (TL := TL3) (d := (d3, o3)) (by assumption)
  have rr8 := rr_of (o3 := o3) (o2 := o2) (o1 := o1) df1 df2 df3 ne3
  refine' for_dicts (y := Str.ofString "word") [.ref d1, .ref d2, .ref d3] tabs3 rfl rfl rfl (by k_asm) rfl N8 rfl (by assumption) ?D8 rr8 (by k_ne) ?turn8 ?fin8
  case D8 =>
    exact .cons (by k_mem) hd1 (ht1.sub fun p hp => List.mem_cons_of_mem _ (List.mem_cons_of_mem _ (List.mem_cons_of_mem _ (u3 p (u2 p (s1 p hp)))))) lo1 df1
      (.cons (by k_mem) hd2 (ht2.sub fun p hp => List.mem_cons_of_mem _ (List.mem_cons_of_mem _ (List.mem_cons_of_mem _ (u3 p (s2 p hp))))) lo2 df2
      (.cons (by k_mem) hd3 (ht3.sub fun p hp => List.mem_cons_of_mem _ (List.mem_cons_of_mem _ (List.mem_cons_of_mem _ (s3 p hp)))) lo3 df3 .nil))
  case turn8 =>
    intro i7 d7 od7 kvs7 tab7 ov7 of7 kvf7 h7 tk7 I7 oI7 ht7 hm7 hod7 hT7 lo7 hdf7 hof7 hR7 hoI7 hfI7 hCf7 hrr7 F7 N7
    have N6 := inner_news N7 hm7
    k_steps
    obtain ⟨hnd7, hz7⟩ := tabs3_ok ht7
    refine' for_keys (x := Str.ofString "word") (fun i kvs => TabL _ kvs ((tabs3.take i7).flatten ++ tab7.take i)) rfl rfl rfl (by k_asm) N6 hof7 hod7 lo7 (by simpa using hR7) ?turn6 ?fin6
    case turn6 =>
      intro i5 k5 v5 t5 of5 kvs5 h5 tk5 I5 oI5 hk5 hof5 hR5 hoI5 hfI5 hdI5 hrI5 F5 N5
      have hva5 := TabL.get hod7 hk5
      k_steps
      refine merge_set (by k_asm) N5 (Nat.ne_of_gt hfI5) (inner_off hdf7 hfI7 hCf7 hrr7) hof5 hR5 hT7 hk5 hnd7 hz7 ?_
      intro h4 o4 kvs4 F4 N4 hd4 hR4
      k_steps
      exact ⟨rfl, _, _, _, _, rfl, F4, N4, hd4, hR4⟩
    case fin6 =>
      intro ov5 of5 kvs5 h5 tk5 hof5 hR5 F5 N5
      k_steps
      exact ⟨rfl, _, _, _, _, _, _, rfl, F5, two_ifs, outer_news N5, hof5, by rw [hT7.length, List.take_length] at hR5; exact hR5⟩
  case fin8 =>
    intro ox7 oy7 of7 kvf7 h7 tk7 hof7 hT7 F7 N7
    k_steps
    refine' hret _ _ _ ?qe ?qp
    case qe => exact fun b o e => Fr.keep (by assumption) b o (HE' b o e)
    case qp => exact tab_ret2 HE' N7 rr8 hof7 hT7 (by assumption) (by decide +kernel)
end

section
set_option maxHeartbeats 4000000
open PySem PySem.W PyProof.Rows PySem.Calls PySem.Spec
noncomputable def okTo (obs : List Ob) (ks : List Str) (i : Nat) : Prop := ∀ (j : Nat) (ob : Ob) (k : Str), j < i → obs[j]? = some ob → ks[j]? = some k → fitsB k ob = true
theorem okTo.zero {obs : List Ob} {ks : List Str} : okTo obs ks 0 := fun _ _ _ h => absurd h (Nat.not_lt_zero _)
theorem okTo.next {obs : List Ob} {ks : List Str} {i : Nat} {ob : Ob} {k : Str} (x : okTo obs ks i) (h1 : obs[i]? = some ob) (h2 : ks[i]? = some k) (h : fitsB k ob = true) : okTo obs ks (i + 1) := by
  intro j ob' k' hj e1 e2
  rcases Nat.lt_succ_iff_lt_or_eq.mp hj with hj | rfl
  · exact x j ob' k' hj e1 e2
  · rw [h1] at e1; rw [h2] at e2; cases e1; cases e2; exact h
theorem okTo.bad : ∀ {obs : List Ob} {ks : List Str} {i : Nat} {ob : Ob} {k : Str}, okTo obs ks i → obs[i]? = some ob → ks[i]? = some k → fitsB k ob = false → misfit obs ks = some k
  | [], _, _, _, _, _, h, _, _ => by simp at h
  | _ :: _, [], _, _, _, _, _, h, _ => by simp at h
  | o :: obs, q :: ks, 0, ob, k, _, h1, h2, h => by
    simp at h1 h2; subst h1 h2
    simp [misfit, h]
  | o :: obs, q :: ks, i + 1, ob, k, x, h1, h2, h => by
    have h0 : fitsB q o = true := x 0 o q (Nat.succ_pos _) rfl rfl
    simp only [misfit, h0, if_true]
    exact okTo.bad (i := i) (ob := ob) (fun j ob' k' hj e1 e2 => x (j + 1) ob' k' (Nat.succ_lt_succ hj) (by simpa using e1) (by simpa using e2)) (by simpa using h1) (by simpa using h2) h
theorem okTo.all : ∀ {obs : List Ob} {ks : List Str}, okTo obs ks obs.length → misfit obs ks = none
  | [], _, _ => by unfold misfit; rfl
  | _ :: _, [], _ => by unfold misfit; rfl
  | o :: obs, q :: ks, x => by
    have h0 : fitsB q o = true := x 0 o q (Nat.succ_pos _) rfl rfl
    simp only [misfit, h0, if_true]
    exact okTo.all fun j ob' k' hj e1 e2 => x (j + 1) ob' k' (Nat.succ_lt_succ hj) (by simpa using e1) (by simpa using e2)
section
variable {word : Str} {obs : List Ob} {ks : List Str} {t : Tok} {k : Str}
theorem opf_none (h : tabGet allTab word = none) : ∃ tk, Value.str (Str.ofString "unknown operator") t = .str (opFault word obs) tk := ⟨t, by unfold opFault; rw [h]⟩
theorem opf_num (h : tabGet allTab word = some [Str.ofString "numbers"]) : ∃ tk, Value.str (rowTx false (obs.map (·.k))) t = .str (opFault word obs) tk := ⟨t, by
  unfold opFault; rw [h]; dsimp only; rw [if_pos rfl]⟩
theorem opf_col (h : tabGet allTab word = some [Str.ofString "colour"]) : ∃ tk, Value.str (rowTx true (obs.map (·.k))) t = .str (opFault word obs) tk := ⟨t, by
  unfold opFault; rw [h]; dsimp only; rw [if_neg (by decide +kernel), if_pos rfl]⟩
theorem opf_neither (h1 : (ks == [Str.ofString "numbers"] || ks == [Str.ofString "colour"]) = false) : ¬ ks = [Str.ofString "numbers"] ∧ ¬ ks = [Str.ofString "colour"] := by simpa using h1
theorem opf_len (h : tabGet allTab word = some ks) (h1 : (ks == [Str.ofString "numbers"] || ks == [Str.ofString "colour"]) = false) (h2 : obs.length ≠ ks.length) :
    ∃ tk, Value.str (Str.ofString (toString (ks.length : Int)) ++ Str.ofString " operands are due") t = .str (opFault word obs) tk := ⟨t, by
  unfold opFault; rw [h]; dsimp only; rw [if_neg (opf_neither h1).1, if_neg (opf_neither h1).2, if_pos h2]⟩
theorem opf_bad (h : tabGet allTab word = some ks) (h1 : (ks == [Str.ofString "numbers"] || ks == [Str.ofString "colour"]) = false) (h2 : obs.length = ks.length) (h3 : misfit obs ks = some k) :
    ∃ tk, Value.str (Str.ofString "an operand is no " ++ k) t = .str (opFault word obs) tk := ⟨t, by
  unfold opFault; rw [h]; dsimp only; rw [if_neg (opf_neither h1).1, if_neg (opf_neither h1).2, if_neg (by simpa using h2), h3]⟩
theorem opf_ok (h : tabGet allTab word = some ks) (h1 : (ks == [Str.ofString "numbers"] || ks == [Str.ofString "colour"]) = false) (h2 : obs.length = ks.length) (h3 : misfit obs ks = none) :
    ∃ tk, Value.str (Str.ofString "") t = .str (opFault word obs) tk := ⟨t, by
  unfold opFault; rw [h]; dsimp only; rw [if_neg (opf_neither h1).1, if_neg (opf_neither h1).2, if_neg (by simpa using h2), h3]⟩
end
theorem len_ne {a b : Nat} (h : ((a : Int) != (b : Int)) = true) : a ≠ b := by
  intro e; subst e; simp at h
theorem len_eq {a b : Nat} (h : ((a : Int) != (b : Int)) = false) : a = b := by
  have h2 : (a : Int) = (b : Int) := by simpa using h
  omega
end

section
set_option maxHeartbeats 40000000
open PySem PySem.W PyProof.Rows PySem.Calls PySem.Spec
theorem kd_short {word : Str} {ks : List Str} {i : Nat} {k : Str} (h : tabGet allTab word = some ks) (e : ks[i]? = some k) : (Str.ofString "an operand is no ").length + k.length ≤ sizeLine := by
  have key : allTab.all (fun p => p.2.all fun k => decide ((Str.ofString "an operand is no ").length + k.length ≤ 1000)) = true := by decide +kernel
  unfold tabGet at h
  cases hf : allTab.find? (fun p => p.1 = word) with
  | none => rw [hf] at h; cases h
  | some p =>
    rw [hf] at h
    cases h
    have := List.all_eq_true.mp (List.all_eq_true.mp key p (List.mem_of_find?_eq_some hf)) k (List.mem_of_getElem? e)
    rw [sizeLine_eq]
    have := of_decide_eq_true this
    omega
theorem opfault_c (w : World) (a0 : Addr) (word : Str) (obs : List Ob) : PureC w 341 24 256 [.ref a0] (fun h => OpAt h a0 word obs) (fun _ r => ∃ tk, r = .str (opFault word obs) tk) := by
  k_with_none
  k_with "lt" => first | with_reducible assumption | exact lt_0 (by with_reducible assumption) | exact lt_1 (by with_reducible assumption) | exact lt_2 (by with_reducible assumption) | exact lt_3 (by with_reducible assumption) | exact lt_4 (by with_reducible assumption) | exact lt_5 (by with_reducible assumption) | exact lt_6 (by with_reducible assumption) | exact lt_7 (by with_reducible assumption) | exact lt_0 (dr8 (by with_reducible assumption)) | exact lt_1 (dr8 (by with_reducible assumption)) | exact lt_2 (dr8 (by with_reducible assumption)) | exact lt_3 (dr8 (by with_reducible assumption)) | exact lt_4 (dr8 (by with_reducible assumption)) | exact lt_5 (dr8 (by with_reducible assumption)) | exact lt_6 (dr8 (by with_reducible assumption)) | exact lt_7 (dr8 (by with_reducible assumption)) | exact lt_0 (dr8 (dr8 (by with_reducible assumption))) | exact lt_1 (dr8 (dr8 (by with_reducible assumption))) | exact lt_2 (dr8 (dr8 (by with_reducible assumption))) | exact lt_3 (dr8 (dr8 (by with_reducible assumption))) | exact lt_4 (dr8 (dr8 (by with_reducible assumption))) | exact lt_5 (dr8 (dr8 (by with_reducible assumption))) | exact lt_6 (dr8 (dr8 (by with_reducible assumption))) | exact lt_7 (dr8 (dr8 (by with_reducible assumption))) | exact lt_0 (dr8 (dr8 (dr8 (by with_reducible assumption)))) | exact lt_1 (dr8 (dr8 (dr8 (by with_reducible assumption)))) | exact lt_2 (dr8 (dr8 (dr8 (by with_reducible assumption)))) | exact lt_3 (dr8 (dr8 (dr8 (by with_reducible assumption)))) | exact lt_4 (dr8 (dr8 (dr8 (by with_reducible assumption)))) | exact lt_5 (dr8 (dr8 (dr8 (by with_reducible assumption)))) | exact lt_6 (dr8 (dr8 (dr8 (by with_reducible assumption)))) | exact lt_7 (dr8 (dr8 (dr8 (by with_reducible assumption)))) | exact lt_0 (dr8 (dr8 (dr8 (dr8 (by with_reducible assumption))))) | exact lt_1 (dr8 (dr8 (dr8 (dr8 (by with_reducible assumption))))) | exact lt_2 (dr8 (dr8 (dr8 (dr8 (by with_reducible assumption))))) | exact lt_3 (dr8 (dr8 (dr8 (dr8 (by with_reducible assumption))))) | exact lt_4 (dr8 (dr8 (dr8 (dr8 (by with_reducible assumption))))) | exact lt_5 (dr8 (dr8 (dr8 (dr8 (by with_reducible assumption))))) | exact lt_6 (dr8 (dr8 (dr8 (dr8 (by with_reducible assumption))))) | exact lt_7 (dr8 (dr8 (dr8 (dr8 (by with_reducible assumption)))))
  k_with "nd" => first | exact nd_0 (by with_reducible assumption) | exact nd_1 (by with_reducible assumption) | exact nd_2 (by with_reducible assumption) | exact nd_3 (by with_reducible assumption) | exact nd_4 (by with_reducible assumption) | exact nd_5 (by with_reducible assumption) | exact nd_6 (by with_reducible assumption) | exact nd_7 (by with_reducible assumption) | exact nd_8 (by with_reducible assumption)
  k_with "ne" => (refine neN ?_; (try dsimp only); first | with_reducible assumption | exact Ne.symm (by with_reducible assumption) | (refine ne_z ?_; k_extra "lt") | (refine ne_s ?_; k_extra "lt") | (refine ne_zz (by with_reducible assumption) ?_; k_extra "lt") | (refine ne_ss (by with_reducible assumption) ?_; k_extra "lt") | k_extra "nd" | (dsimp only [AllLt] at *; omega))
  k_with "call ref" => (k_here; (with_reducible show wpAny _ _ (call (Value.ref 329) [_, _]) _ _ _); k_dflt (refine' fits_c _ _ _ _ _ ?zzB ?zzF ?zzX ?zzT ?zzhk ?zzpre ?zzdd ?zzuu ?_; (case zzB => k_asm); (case zzF => k_asm); (case zzX => k_asm); (case zzT => k_asm); (case zzhk => first | exact rfl | assumption); (case zzpre => exact OAt.ext (by assumption) (Fr.keep (by k_asm))); (case zzdd => ktr_room); (case zzuu => ktr_units)); intro v' h' tk' e' p'; (have F' := fr_ext (by k_asm) e'); (have N' := news_ext (by k_asm) e'); (try dsimp only at p'); (try k_sweep); subst p')
  k_with "call ref" => (k_here; k_dflt (first | refine' row_numbers _ _ _ vs0 (obs.map (·.k)) ?zzB ?zzF ?zzX ?zzT ?zzhk ⟨?zzp1, ?zzp2, ?zzp3⟩ ?zzdd ?zzuu ?_ | refine' row_colour _ _ _ vs0 (obs.map (·.k)) ?zzB ?zzF ?zzX ?zzT ?zzhk ⟨?zzp1, ?zzp2, ?zzp3⟩ ?zzdd ?zzuu ?_); (case zzB => k_asm); (case zzF => k_asm); (case zzX => k_asm); (case zzT => k_asm); (case zzhk => first | exact rfl | assumption); (case zzp1 => is_list); (case zzp2 => exact hop6.ks.ext (Fr.keep (by k_asm))); (case zzp3 => exact hop7); (case zzdd => ktr_room); (case zzuu => ktr_units); intro v1 h1 tk1 e1 p1; (have FF1 := fr_ext (by k_asm) e1); (have NN9 := news_ext (by k_asm) e1); (try dsimp only); (obtain ⟨tk9, e9⟩ := p1); subst e9)
  k_with "call ref" => (k_here; k_dflt (refine' operand_c _ ?zzB ?zzF ?zzX ?zzT ?zzhk trivial ?zzdd ?zzuu ?_; (case zzB => k_asm); (case zzF => k_asm); (case zzX => k_asm); (case zzT => k_asm); (case zzhk => first | exact rfl | assumption); (case zzdd => ktr_room); (case zzuu => ktr_units)); intro v1 h1 tk1 e1 p1; (obtain ⟨d1, o1, tl1, kvs1, rfl, hfr1, hoff1, hd1, ht1, lo1⟩ := p1); (have NN1 := news_fresh (by k_asm) News.nil hfr1); (rw [List.append_nil] at NN1); (have FF1 := fr_ext (by k_asm) e1); (try dsimp only); (rcases tab_cases ht1 word with ⟨hva1, hno1⟩ | ⟨T1, us1, ks1, hva1, hso1, hm1, hs1⟩); (all_goals (first | (replace NN1 := pick2 NN1 hm1; have hk1 := tabGet_len hso1; have hus1 := hs1.length) | (replace NN1 := pick1 NN1))))
  k_with "getAttr ref" => (k_here; k_dflt (refine' get_own ?zzk1 ?zzk2 ?zzk3 ?zzk4 ?zzk5 ?zzk6 ?zzk7 ?zzk8 ?zzk9 ?_; (case zzk3 => exact op_inst hop1 hop2 (Fr.keep (by k_asm))); (case zzk1 => k_asm); (case zzk2 => k_asm); (case zzk4 => k_is); (case zzk5 => k_is); (case zzk6 => k_is); (case zzk7 => k_is); (case zzk8 => assumption); (case zzk9 => k_handed); k_whole))
  k_with "call builtin:dict.get" => (k_here; (with_reducible show wpAny _ _ (call (Value.builtin "dict.get") [Value.ref _, Value.str _ _]) _ _ _); k_dflt (refine' kdg_get1 (knd := PySem.strKind _ _) ?zzN ?zzp ?zzd ?zzlo (strKind_is _ _ _ _) _ ?zzl ?_; (case zzl => assumption); (case zzd => assumption); (case zzN => assumption); (case zzp => k_mem); (case zzlo => assumption); (try dsimp only [Option.getD])))
  k_with "compareOp In ref ref" => (k_here; k_dflt (refine' in_pair ?zzhU ?zzhX ?zzhY ?zzhT ?zzhs ?zzn1 ?zzn2 ?zzn3 ?zzhu ?_; (case zzhs => assumption); (case zzhU => exact news_tupA (by assumption) (by k_mem)); (case zzhX => exact news_tupA (by assumption) (by k_mem)); (case zzhY => exact news_tupA (by assumption) (by k_mem)); (case zzhT => exact news_tuple (by assumption) (by k_mem)); (case zzn1 => k_ne); (case zzn2 => k_ne); (case zzn3 => k_ne); (case zzhu => ktr_units)))
  k_with "subscriptTail" => (k_here; (with_reducible show wpAny _ _ (subscriptTail _ _ (Value.ref _) (Value.int 0 _)) _ _ _); k_dflt (rcases one_or (by assumption) with e9 | e9); all_goals (subst e9; (rename Strs _ _ => hs9); cases hs9; (rename Strs _ [] => hs8); cases hs8; k_dflt (refine' item_tuple (j := 0) (News.isTup (by k_asm) (by k_mem)) ?zzq1 ?zzq1b ?zzq2 ?zzq3 ?_ ?zzq4 ?zzq5; (case zzq1 => decide); (case zzq1b => decide); (case zzq2 => rfl); (case zzq3 => rfl); (case zzq4 => with_unfolding_all rfl); (case zzq5 => intro _; with_unfolding_all rfl))))
  k_with "call builtin:len" => (k_here; (with_reducible show wpAny _ _ (call (Value.builtin "len") [Value.ref _]) _ _ _); k_dflt (first
  | (refine' kun_lenL (k := (obs.length : Int)) (l := l0) (items := vs0.toArray) ?zzq0 ?zzq1 ?zzq2 ?_; (case zzq0 => is_list); (case zzq1 => (rw [List.size_toArray, hop6.length])); (case zzq2 => (have := hop6.length; omega)))
  | (refine' kun_lenT (k := (ks1.length : Int)) (l := T1) (items := us1.toArray) ?zzq0 ?zzq1 ?zzq2 ?_; (case zzq0 => exact News.isTup (by k_asm) (by k_mem)); (case zzq1 => (rw [List.size_toArray, hus1])); (case zzq2 => omega))))
  k_with "call type:str" => (k_here; (with_reducible show wpAny _ _ (call (Value.type "str") [Value.int _ _]) _ _ _); k_dflt (refine' str_of_int ?zzq1 ?_; (case zzq1 => exact small_log hk1)))
  k_with "exec For Tuple Call" => (k_here; (rename Fr _ _ _ _ => lF'); (with_unfolding_all refine' For_turns lF' ?_; k_whole))
  k_with "exec For Tuple Call cons nil" => (k_here; (rename Fr _ _ _ _ => lF'); (with_unfolding_all refine' For_turns lF' ?_; k_whole))
  k_with "binaryOp Add str str" => (k_here; (with_reducible show wpAny _ _ (binaryOp Operator.Add (Value.str _ _) (Value.str _ _)) _ _ _); (refine' PyProof.Rows.add_str (hsz := ?zzhsz) ?_; (case zzhsz => first | exact kd_short (by assumption) (by assumption) | size_fits)); intro _ _)
  unfold PureC
  k_fill
  intro loose mean mg mb dp un gd cn cs a ccd cl outer A₀ base h₀ L m s Q E B F X T hk hpre hd hu hret
  refine wpAny_call ?_
  k_dflt (refine' code_def0 ?k1 ?k2 ?k3 ?k5 ?kA ?kF ?kK ?k6 ?k7 ?k8 ?k9 ?kB ?_ ?c2 ?c3 ?c4 ?c5; (case kA => exact rfl); (case kF => exact rfl); (case kK => first | assumption | exact rfl); (case k1 => k_asm); (case k2 => k_asm); (case k3 => k_asm); (case k5 => k_asm); (case k6 => k_is); (case k7 => k_is); (case k8 => ktr_room); (case k9 => first | exact BindsTo.of_eq rfl | exact binds_K (by k_in) rfl (by k_is) rfl rfl rfl); (case c5 => decide); (case kB => exact locs rfl); (case c2 => exact rfl); (case c3 => exact rfl); (case c4 => exact rfl); k_whole; intro g' L' h' HE' F' N' B' X' T'; (try dsimp only); (try k_fold); (first | (refine e_fold ?_; intro A9 e9) | (refine a_fold ?_; intro A9) | skip))
  obtain ⟨dx0, es0, n0, t0, l0, vs0, hop1, hop2, hop3, hop4, hop5, hop6, hop7⟩ := OpAt.ext hpre HE'
  clear hpre
  k_steps
  all_goals try (refine' hret _ _ _ ?qe ?qp; (case qe => exact fun b o e => Fr.keep (by assumption) b o (HE' b o e)); (case qp => first
    | with_reducible exact opf_none hno1
    | with_reducible exact opf_num hso1
    | with_reducible exact opf_col hso1
    | with_reducible exact opf_len hso1 (by assumption) (by omega)))
  have hle9 : obs.length = ks1.length := by omega
  have hn9 : (ks1 == [Str.ofString "numbers"] || ks1 == [Str.ofString "colour"]) = false := by assumption
  refine' for_zip (vs := vs0) (us := us1) (fun i => okTo obs ks1 i) rfl rfl rfl rfl (by k_asm) (by assumption) ?hl9 ?ht9 ?hlen9 okTo.zero ?turn9 ?fin9
  case hl9 => is_list
  case ht9 => exact news_tuple (by assumption) (by k_mem)
  case hlen9 => rw [hop6.length, hus1]; exact hle9
  case turn9 =>
    intro i8 v8 u8 h8 tk8 nw8 hv8 hu8 hK8 F8 N8
    obtain ⟨ob8, hob8, hO8⟩ := hop6.at hv8
    obtain ⟨kd8, t8, hkd8, rfl⟩ := hs1.at hu8
    k_steps
    all_goals first
      | exact .inr ⟨rfl, _, _, rfl, by assumption, by assumption, okTo.next hK8 hob8 hkd8 (by assumption)⟩
      | (refine' .inl ⟨_, rfl, ?_⟩; k_steps; (refine' hret _ _ _ ?qe ?qp; (case qe => exact fun b o e => Fr.keep (by assumption) b o (HE' b o e)); (case qp => exact opf_bad hso1 hn9 hle9 (okTo.bad hK8 hob8 hkd8 (by assumption)))))
      | trace_state
  case fin9 =>
    intro ox8 oy8 h8 tk8 hK8 F8 N8
    k_steps
    refine' hret _ _ _ ?qe ?qp
    case qe => exact fun b o e => Fr.keep (by assumption) b o (HE' b o e)
    case qp => exact opf_ok hso1 hn9 hle9 (okTo.all (by rw [← hop6.length]; exact hK8))
end

section
set_option maxHeartbeats 4000000
open PySem PySem.W PyProof.Rows PySem.Calls PySem.Spec
section
variable {prog : Program} {w : World} {A : Around} {E : Value → Shared → Prop} {s : Shared} {h₀ : Heap} {env : Env} {Q : Flow → Shared → Prop} {target : Expr} {body : List Stmt}
theorem letGo_rangeiter {I : Addr} {x left st : Int} {v : Value} {Q' : Unit → Shared → Prop} {s' : Shared} (hit : IsRangeIter s'.heap I x left st) (h : Q' () s') :
    wpAny (model prog w) A (letOwnedTupleGo target (.ref I) v) Q' E s' := by
  unfold letOwnedTupleGo
  cases target <;> first
    | exact wpAny_pure h
    | (cases v <;> first
        | exact wpAny_pure h
        | (refine wpAny_bind (wpAny_load hit ?_)
           exact wpAny_pure h))
noncomputable def idxItems (n : Nat) : List Itm := (List.range n).map fun (i : Nat) => .tok (fun t => .int ((i : Nat) : Int) t)
theorem iter_rangeTurns {n : Nat} {t : Tok} {m₀ : Str → Option Value} {news : List (Addr × Obj)}
    (hh : A.handled = none) (hn : n ≤ 1000) (F : Fr h₀ env.locals s.heap m₀) (N : News h₀ env.locals s.heap news)
    (rest₀ : ∀ I : Addr, (∀ p ∈ news, p.1 < I) → ItemsRest prog w A E h₀ env target body Q s [(I, "range_iterator")] [] (idxItems n) m₀ news) :
    wpAny (model prog w) A (call (.type "range") [.int (n : Int) t]) (fun xv s₁ => wpAny (model prog w) A (pyIter xv) (fun it s₂ => TurnsAt prog w A h₀ env target body Q E it s₂) E s₁) E s := by
  refine call_range_1 ?_
  have hsz : Builtin.Range.rangeSize 0 (n : Int) 1 = (n : Int) := range_lenN n
  have F1 := F.push { cls := .type "range", data := .fields #[.int 0 s.toks, .int (n : Int) t, .int 1 (s.toks + 1)] }
  have N1 : News h₀ env.locals (s.heap.push { cls := .type "range", data := .fields #[.int 0 s.toks, .int (n : Int) t, .int 1 (s.toks + 1)] }) news := fun p hp => ⟨Heap.get?_push_of_some _ (N p hp).1, (N p hp).2⟩
  have hr : IsRange (s.heap.push { cls := .type "range", data := .fields #[.int 0 s.toks, .int (n : Int) t, .int 1 (s.toks + 1)] }) s.heap.objs.size 0 (n : Int) 1 s.toks t (s.toks + 1) := Heap.get?_push_size _ rfl
  generalize s.heap.push { cls := .type "range", data := .fields #[.int 0 s.toks, .int (n : Int) t, .int 1 (s.toks + 1)] } = h1 at F1 N1 hr ⊢
  have hsm : Builtin.Range.small 0 (n : Int) 1 = true := range_smN (len16 hn)
  refine wpAny_pyIter_range hr hsm ?_
  have W : Walks prog w A h1.objs.size [h1.objs.size] [h1.objs.size] n (fun i v => i < n ∧ ∃ t, v = .int (0 + i * 1) t)
      (fun i h => IsRangeIter h h1.objs.size (0 + (i : Nat) * 1) ((n : Int) - (i : Nat)) 1) := (Walks.range hh _ 0 1 n).bound
  refine ktu_core (s := s) (tk0 := s.toks + 1 + 1) (keep := []) (xs := idxItems n) (ws := [(h1.objs.size, "range_iterator")]) (KTurns.ofWalks W fun i v s Q E st q => letGo_rangeiter st q) (by simp [idxItems]) (fun i v h hp => ?_) (fun i h st => ?_) (fun b hb => ?_) (fun b hb => by simpa using hb) (fun b hb => .inl (by simpa using hb)) ?_ (fun p hp hI => ?_) ?_ (F1.push _) (fun p hp => ⟨Heap.get?_push_of_some _ (N1 p hp).1, (N1 p hp).2⟩) trivial (rest₀ _ fun p hp => Heap.lt_size (N1 p hp).1)
  · obtain ⟨hi, t, rfl⟩ := hp
    refine ⟨.tok (fun t => .int (i : Int) t), ?_, t, ?_⟩
    · simp [idxItems, hi]
    · simp
  · exact ⟨[(h1.objs.size, _)], ⟨⟨rfl, rfl⟩, trivial⟩, fun p hp => by rw [List.mem_singleton.mp hp]; exact st⟩
  · have hb' : b = h1.objs.size := by simpa using hb
    rw [hb']
    exact ⟨List.mem_cons_self .., next_is_new F1⟩
  · intro hI
    rcases List.mem_cons.mp hI with e | hI
    · exact absurd F1.ns.lt (e ▸ Nat.lt_irrefl _)
    · exact nomatch hI
  · exact absurd (Heap.lt_size (N1 p hp).1) ((List.mem_singleton.mp hI) ▸ Nat.lt_irrefl _)
  · show IsRangeIter _ _ _ _ _
    rw [hsz]
    simpa using Heap.get?_push_size _ rfl
end
/-- a loop's turn that grows one list: what was made stands on the tail -/
noncomputable def GEnd (h₀ : Heap) (L : Addr) (own : List (Addr × Obj)) (d : Addr) (tl : List (Addr × Obj)) (R : (Str → Option Value) → List Value → List (Addr × Obj) → Prop) (s : Shared) (fl : Flow) (s₂ : Shared) : Prop :=
  fl = .next ∧ ∃ h' tk' m' us n new, s₂ = { s with heap := h', toks := tk' } ∧ Fr h₀ L h' m' ∧ News h₀ L h' (own ++ (d, listOf (List.toArray us) n) :: (new ++ tl)) ∧ (∀ p ∈ new, @Ne Nat p.1 d ∧ ∀ q ∈ own, @Ne Nat p.1 q.1) ∧ R m' us (new ++ tl)
section
variable {prog : Program} {w : World} {A : Around} {E : Value → Shared → Prop} {s : Shared} {h₀ : Heap} {name : Str} {scope : Scope} {L a : Addr} {cd : Value} {cl : List (Str × Addr)} {Q : Flow → Shared → Prop}
/-- for x in range(n), the body grows one list d and sets names -/
theorem for_range {σ : Type} {x : Str} {px : Pos} {body : List Stmt} {d : Addr} {us : List Value} {n k : Nat} {t : Tok} {tl : List (Addr × Obj)} {m₀ : Str → Option Value} (Mk : σ → Str → Option Value) (J : Nat → σ → List Value → List (Addr × Obj) → Prop)
    (hk : scope.kind = .function) (hl : (envX name scope L a cd cl).kindOf x = some .local) (hh : A.handled = none) (hn : n ≤ 1000)
    (F : Fr h₀ L s.heap m₀) (N : News h₀ L s.heap ((d, listOf (List.toArray us) k) :: tl)) (hoff : ∀ p ∈ tl, @Ne Nat p.1 d) (h0 : ∃ st₀, (∀ z, z ≠ x → m₀ z = Mk st₀ z) ∧ J 0 st₀ us tl)
    (turn : ∀ i st us k tl t h tk I oI, i < n → J i st us tl → oI.cls = .type "range_iterator" → (@LT.lt Nat _ d I) → (∀ p ∈ tl, @Ne Nat p.1 d) →
      Fr h₀ L h (fun z => if z = x then some (.int (i : Int) t) else Mk st z) → News h₀ L h ((I, oI) :: (d, listOf (List.toArray us) k) :: tl) →
      wpAny (model prog w) A (execs body (envX name scope L a cd cl)) (GEnd h₀ L [(I, oI)] d tl (fun m' us' tl' => ∃ st', (∀ z, z ≠ x → m' z = Mk st' z) ∧ J (i + 1) st' us' tl') { s with heap := h, toks := tk }) E { s with heap := h, toks := tk })
    (fin : ∀ ov st us k tl h tk, J n st us tl → (∀ p ∈ tl, @Ne Nat p.1 d) → Fr h₀ L h (fun z => if z = x then ov else Mk st z) → News h₀ L h ((d, listOf (List.toArray us) k) :: tl) → Q .next { s with heap := h, toks := tk }) :
    wpAny (model prog w) A (call (.type "range") [.int (n : Int) t]) (fun xv s₁ => wpAny (model prog w) A (pyIter xv) (fun it s₂ => TurnsAt prog w A h₀ (envX name scope L a cd cl) (.Name x px) body Q E it s₂) E s₁) E s := by
  obtain ⟨st₀, hm₀, hJ₀⟩ := h0
  refine iter_rangeTurns hh hn F N fun I hI => ?_
  have hdI : d < I := hI _ (List.mem_cons_self ..)
  have hlen : (idxItems n).length = n := by simp [idxItems]
  refine items_indG (idxItems n) (fun i v => ∃ t, v = .int (i : Int) t) ?_ Mk (fun i st nw => ∃ us k tl, nw = (d, listOf (List.toArray us) k) :: tl ∧ (∀ p ∈ tl, @Ne Nat p.1 d) ∧ (∀ p ∈ tl, @Ne Nat p.1 I) ∧ J i st us tl) st₀ hk hl hm₀ ⟨us, k, tl, rfl, hoff, fun p hp => Nat.ne_of_lt (hI p (List.mem_cons_of_mem _ hp)), hJ₀⟩ ?_ ?_
  · intro i it v h e q
    unfold idxItems at e
    rw [List.getElem?_map] at e
    cases hv : (List.range n)[i]? with
    | none => rw [hv] at e; cases e
    | some j =>
      rw [hv] at e
      cases e
      obtain ⟨t, rfl⟩ := q
      have : j = i := by
        have := (List.getElem?_eq_some_iff.mp hv).2
        simpa using this.symm
      exact ⟨t, by rw [this]⟩
  · rintro i v st nw h tk hi ⟨t', rfl⟩ ⟨us, k, tl, rfl, hoff, hoI, hJ⟩ F
    refine AllObj.cons fun oI hoI' => AllObj.nil fun N => ?_
    refine wpAny_mono (turn i st us k tl t' h tk I oI (hlen ▸ hi) hJ hoI' hdI hoff F N) (fun fl s₂ q => ?_) fun _ _ q => q
    obtain ⟨rfl, h', tk', m', us', n', new, rfl, F', N', hnew, st', hm', hJ'⟩ := q
    have o1 : ∀ p ∈ new ++ tl, @Ne Nat p.1 d := fun p hp => by
      rcases List.mem_append.mp hp with hp | hp
      · exact (hnew p hp).1
      · exact hoff p hp
    have o2 : ∀ p ∈ new ++ tl, @Ne Nat p.1 I := fun p hp => by
      rcases List.mem_append.mp hp with hp | hp
      · exact (hnew p hp).2 _ (List.mem_cons_self ..)
      · exact hoI p hp
    refine ⟨h', tk', m', (d, listOf (List.toArray us') n') :: (new ++ tl), rfl, F', N', ?_, trivial, st', hm', us', n', new ++ tl, rfl, o1, o2, hJ'⟩
    intro p hp q hq
    obtain rfl := List.mem_singleton.mp hq
    rcases List.mem_cons.mp hp with rfl | hp
    · exact Nat.ne_of_lt hdI
    exact o2 p hp
  · rintro ov st nw h tk ⟨us, k, tl, rfl, hoff, hoI, hJ⟩ F N
    rw [hlen] at hJ
    exact fin ov st us k tl h tk hJ hoff F N
end
end

section
set_option maxHeartbeats 4000000
open PySem PySem.W PyProof.Rows PySem.Calls PySem.Spec
/-- operations in the heap -/
inductive OpsAt (h : Heap) : List Value → List (Str × List Ob) → Prop where
  | nil : OpsAt h [] []
  | cons {a : Addr} {word : Str} {obs : List Ob} {vs : List Value} {ops : List (Str × List Ob)} : OpAt h a word obs → OpsAt h vs ops → OpsAt h (.ref a :: vs) ((word, obs) :: ops)
theorem OpsAt.ext {h h' : Heap} {vs : List Value} {ops : List (Str × List Ob)} (x : OpsAt h vs ops) (e : Ext h h') : OpsAt h' vs ops := by
  induction x with
  | nil => exact .nil
  | cons a _ ih => exact .cons (a.ext e) ih
theorem OpsAt.length {h : Heap} {vs : List Value} {ops : List (Str × List Ob)} (x : OpsAt h vs ops) : vs.length = ops.length := by
  induction x with
  | nil => rfl
  | cons _ _ ih => simp [ih]
theorem OpsAt.at {h : Heap} {vs : List Value} {ops : List (Str × List Ob)} (x : OpsAt h vs ops) : ∀ {i : Nat}, i < vs.length → ∃ a word obs, vs[i]? = some (.ref a) ∧ ops[i]? = some (word, obs) ∧ OpAt h a word obs := by
  induction x with
  | nil => intro i e; simp at e
  | cons a _ ih =>
    intro i e
    cases i with
    | zero => exact ⟨_, _, _, rfl, rfl, a⟩
    | succ i => simpa using ih (by simpa using e)
/-- where the walk is to stop -/
noncomputable def Stop (p : Prop) : Prop := p
theorem Stop.out {p : Prop} (h : Stop p) : p := h
/-- the names of operand_faults' loop -/
noncomputable def fMk (m : Str → Option Value) (st : Int × Tok × Option Value × Option Value) : Str → Option Value := fun z => if z = Str.ofString "open_count" then some (.int st.1 st.2.1) else if z = Str.ofString "word" then st.2.2.1 else if z = Str.ofString "text" then st.2.2.2 else m z
theorem fMk_zero {m : Str → Option Value} {oc : Int} {t : Tok} (h1 : m (Str.ofString "open_count") = some (.int oc t)) (h2 : m (Str.ofString "word") = none) (h3 : m (Str.ofString "text") = none) (z : Str) : m z = fMk m (oc, t, none, none) z := by
  unfold fMk
  by_cases e1 : z = Str.ofString "open_count"
  · rw [if_pos e1, e1, h1]
  · rw [if_neg e1]
    by_cases e2 : z = Str.ofString "word"
    · rw [if_pos e2, e2, h2]
    · rw [if_neg e2]
      by_cases e3 : z = Str.ofString "text"
      · rw [if_pos e3, e3, h3]
      · rw [if_neg e3]
theorem ext_none {h g : Heap} {a : Addr} (e : Ext h g) (n : g.get? a = none) : h.get? a = none := by
  cases q : h.get? a with
  | none => rfl
  | some o => rw [e _ _ q] at n; cases n
noncomputable def sBX : Str := Str.ofString "BX"
noncomputable def sEX : Str := Str.ofString "EX"
noncomputable def sUnk : Str := Str.ofString "unknown operator"
noncomputable def fUp (oc : Int) (word : Str) : Int := if word == Str.ofString "BX" then oc + 1 else oc
noncomputable def fDown (oc : Int) (word : Str) : Int := if word == Str.ofString "EX" && decide (0 < oc) then oc - 1 else oc
noncomputable def fCount (oc : Int) (word : Str) : Int := fDown (fUp oc word) word
noncomputable def fTold (oc : Int) (tx : Str) : Bool := !(tx == Str.ofString "") && (oc == 0 || !(tx == Str.ofString "unknown operator"))
noncomputable def fTo (ops : List (Str × List Ob)) : Nat → Int × List (Int × Str)
  | 0 => (0, [])
  | i + 1 => match ops[i]? with
    | none => fTo ops i
    | some (word, obs) => (fCount (fTo ops i).1 word, (fTo ops i).2 ++ if fTold (fCount (fTo ops i).1 word) (opFault word obs) then [((i : Int), opFault word obs)] else [])
/-- pairs of an int and a text, in tuples of a ledger -/
inductive FAt (tl : List (Addr × Obj)) : List Value → List (Int × Str) → Prop where
  | nil : FAt tl [] []
  | cons {T : Addr} {i : Int} {t u : Tok} {x : Str} {n : Nat} {vs : List Value} {l : List (Int × Str)} : (T, ({ cls := .type "tuple", data := .seq #[.int i t, .str x u] n } : Obj)) ∈ tl → FAt tl vs l → FAt tl (.ref T :: vs) ((i, x) :: l)
theorem FAt.sub {tl tl' : List (Addr × Obj)} {vs : List Value} {l : List (Int × Str)} (x : FAt tl vs l) (h : ∀ p ∈ tl, p ∈ tl') : FAt tl' vs l := by
  induction x with
  | nil => exact .nil
  | cons a _ ih => exact .cons (h _ a) ih
theorem FAt.snoc {tl : List (Addr × Obj)} {vs : List Value} {l : List (Int × Str)} (x : FAt tl vs l) {T : Addr} {i : Int} {t u : Tok} {y : Str} {n : Nat} (h : (T, ({ cls := .type "tuple", data := .seq #[.int i t, .str y u] n } : Obj)) ∈ tl) : FAt tl (vs ++ [.ref T]) (l ++ [(i, y)]) := by
  induction x with
  | nil => exact .cons h .nil
  | cons a _ ih => exact .cons a ih
theorem FAt.length {tl : List (Addr × Obj)} {vs : List Value} {l : List (Int × Str)} (x : FAt tl vs l) : vs.length = l.length := by
  induction x with
  | nil => rfl
  | cons _ _ ih => simp [ih]
theorem fTo_len {ops : List (Str × List Ob)} : ∀ {i : Nat}, (fTo ops i).2.length ≤ i
  | 0 => Nat.le_refl _
  | i + 1 => by
    have := fTo_len (ops := ops) (i := i)
    unfold fTo
    split
    · omega
    · simp only [List.length_append]
      split <;> simp <;> omega
theorem fstart {ops : List (Str × List Ob)} {h₀ h : Heap} {L : Addr} {m : Str → Option Value} {tl : List (Addr × Obj)} {x : Str} (_F : Fr h₀ L h m) (h1 : ∃ t, m (Str.ofString "open_count") = some (.int 0 t)) (h2 : m (Str.ofString "word") = none) (h3 : m (Str.ofString "text") = none) :
    ∃ st₀, (∀ z, z ≠ x → m z = fMk m st₀ z) ∧ (st₀.1 = (fTo ops 0).1 ∧ FAt tl [] (fTo ops 0).2) := by
  obtain ⟨t, h1⟩ := h1
  exact ⟨(0, t, none, none), fun z _ => fMk_zero h1 h2 h3 z, rfl, .nil⟩
section
variable {prog : Program} {w : World} {A : Around} {E : Value → Shared → Prop} {s : Shared} {l : Addr} {vs : List Value} {Q : Value → Shared → Prop}
theorem item_at {value slice : PySem.Expr} {u : Tok} {i : Nat} {v : Value} (hl : s.heap.IsList l vs.toArray) (hi : vs[i]? = some v) (hz : i ≤ 1000) (h : Q v s)
    (hs : subscripted slice false (.ref l) (.int (i : Int) u) = operate [.ref l, .int (i : Int) u] (getItem (.ref l) (.int (i : Int) u)) := by with_unfolding_all rfl) :
    wpAny (model prog w) A (subscriptTail value slice (.ref l) (.int (i : Int) u)) Q E s :=
  tail_any hl.typeIs slot_list_getitem.lookup (wpAny_getItem_list hl (by omega) (by omega) (by simpa using hi) h) hs
end
/-- the ways of an if that sets one int name, joined -/
noncomputable def JoinQ (k : Str) (v : Int) (g : Heap) (L : Addr) (m : Str → Option Value) (nw : List (Addr × Obj)) (s : Shared) (fl : Flow) (s₂ : Shared) : Prop :=
  fl = .next ∧ ∃ h' tk' t, s₂ = { s with heap := h', toks := tk' } ∧ Fr g L h' (fun z => if z = k then some (.int v t) else m z) ∧ News g L h' nw
theorem join_cut {M : Model} {A : Around} {tree : Sem Flow} {Q : Flow → Shared → Prop} {E : Value → Shared → Prop} {s : Shared} {g : Heap} {L : Addr} {m : Str → Option Value} {nw : List (Addr × Obj)} (k : Str) (v : Int) (_F : Fr g L s.heap m) (_N : News g L s.heap nw)
    (h1 : wpAny M A tree (JoinQ k v g L m nw s) E s) (h2 : ∀ h' tk' t, Fr g L h' (fun z => if z = k then some (.int v t) else m z) → News g L h' nw → Q .next { s with heap := h', toks := tk' }) : wpAny M A tree Q E s :=
  wpAny_mono h1 (fun fl s' q => by obtain ⟨e, h', tk', t, e', F', N'⟩ := q; subst e e'; exact h2 h' tk' t F' N') fun _ _ q => q
/-- the walk goes on to the end of one statement -/
noncomputable def GoQ (Q : Flow → Shared → Prop) (fl : Flow) (s : Shared) : Prop := Q fl s
theorem go_in {M : Model} {A : Around} {tree : Sem Flow} {Q : Flow → Shared → Prop} {E : Value → Shared → Prop} {s : Shared} (h : wpAny M A tree (GoQ Q) E s) : wpAny M A tree Q E s := h
theorem fr_same {g h : Heap} {L : Addr} {m : Str → Option Value} {k : Str} {v : Value} (F : Fr g L h m) (e : m k = some v) : Fr g L h (fun z => if z = k then some v else m z) := by
  have : (fun z => if z = k then some v else m z) = m := by
    funext z
    by_cases hz : z = k
    · rw [if_pos hz, hz, e]
    · rw [if_neg hz]
  rw [this]; exact F
theorem join_set {g h' : Heap} {L : Addr} {m : Str → Option Value} {nw : List (Addr × Obj)} {k : Str} {v u : Int} {t : Tok} {s : Shared} {tk' : Nat} (F : Fr g L h' (fun z => if z = k then some (.int u t) else m z)) (N : News g L h' nw) (e : u = v) : JoinQ k v g L m nw s .next { s with heap := h', toks := tk' } := by
  subst e; exact ⟨rfl, h', tk', t, rfl, F, N⟩
theorem join_same {g h' : Heap} {L : Addr} {m : Str → Option Value} {nw : List (Addr × Obj)} {k : Str} {v u : Int} {t : Tok} {s : Shared} {tk' : Nat} (F : Fr g L h' m) (N : News g L h' nw) (hm : m k = some (.int u t)) (e : u = v) : JoinQ k v g L m nw s .next { s with heap := h', toks := tk' } := by
  subst e; exact ⟨rfl, h', tk', t, rfl, fr_same F hm, N⟩
section
variable {oc : Int} {word : Str}
theorem fUp_t (h : (word == Str.ofString "BX") = true) : oc + 1 = fUp oc word := by unfold fUp; rw [h]; rfl
theorem fUp_f (h : (word == Str.ofString "BX") = false) : oc = fUp oc word := by unfold fUp; rw [h]; rfl
theorem fDown_t (h : (word == Str.ofString "EX") = true) (h' : 0 < oc) : oc - 1 = fDown oc word := by unfold fDown; rw [h, decide_eq_true h']; rfl
theorem fDown_f1 (h : (word == Str.ofString "EX") = false) : oc = fDown oc word := by unfold fDown; rw [h]; rfl
theorem fDown_f2 (h' : ¬ 0 < oc) : oc = fDown oc word := by unfold fDown; rw [decide_eq_false h']; simp
end
theorem fMk_turn {m : Str → Option Value} {a b c ow ox W T : Option Value} {v : Int} {t : Tok} (z : Str) (hz : z ≠ Str.ofString "index") :
    (if z = Str.ofString "open_count" then some (.int v t) else if z = Str.ofString "open_count" then a else if z = Str.ofString "text" then T else if z = Str.ofString "word" then W else if z = Str.ofString "index" then b else if z = Str.ofString "open_count" then c else if z = Str.ofString "word" then ow else if z = Str.ofString "text" then ox else m z) = fMk m (v, t, W, T) z := by
  unfold fMk
  by_cases h1 : z = Str.ofString "open_count"
  · simp only [if_pos h1]
  · simp only [if_neg h1, if_neg hz]
    by_cases h2 : z = Str.ofString "word"
    · have h3 : ¬ z = Str.ofString "text" := by rw [h2]; decide +kernel
      simp only [if_neg h3, if_pos h2]
    · simp only [if_neg h2]
      by_cases h3 : z = Str.ofString "text"
      · simp only [if_pos h3]
      · simp only [if_neg h3]
section
variable {ops : List (Str × List Ob)} {i : Nat} {word : Str} {obs : List Ob}
theorem fTo_1 (h : ops[i]? = some (word, obs)) : fCount (fTo ops i).1 word = (fTo ops (i + 1)).1 := by
  show _ = (match ops[i]? with | none => fTo ops i | some (word, obs) => _).1
  rw [h]
theorem fTo_add (h : ops[i]? = some (word, obs)) (e : fTold (fCount (fTo ops i).1 word) (opFault word obs) = true) : (fTo ops i).2 ++ [((i : Int), opFault word obs)] = (fTo ops (i + 1)).2 := by
  show _ = (match ops[i]? with | none => fTo ops i | some (word, obs) => _).2
  rw [h]
  simp only [e, if_true]
theorem fTo_not (h : ops[i]? = some (word, obs)) (e : fTold (fCount (fTo ops i).1 word) (opFault word obs) = false) : (fTo ops i).2 = (fTo ops (i + 1)).2 := by
  show _ = (match ops[i]? with | none => fTo ops i | some (word, obs) => _).2
  rw [h]
  simp only [e, Bool.false_eq_true, if_false, List.append_nil]
variable {oc : Int} {tx : Str}
theorem fTold_1 (h1 : (tx != Str.ofString "") = true) (h2 : oc = 0) : fTold oc tx = true := by unfold fTold; subst h2; simpa using h1
theorem fTold_2 (h1 : (tx != Str.ofString "") = true) (h2 : (tx != Str.ofString "unknown operator") = true) : fTold oc tx = true := by
  unfold fTold
  have a1 : (tx == Str.ofString "") = false := by simpa using h1
  have a2 : (tx == Str.ofString "unknown operator") = false := by simpa using h2
  rw [a1, a2]; simp
theorem fTold_3 (h1 : oc ≠ 0) (h2 : (tx != Str.ofString "unknown operator") = false) : fTold oc tx = false := by
  unfold fTold
  have a2 : (tx == Str.ofString "unknown operator") = true := by simpa using h2
  have a1 : (oc == 0) = false := by simpa using h1
  rw [a1, a2]; simp
theorem fTold_4 (h1 : (tx != Str.ofString "") = false) : fTold oc tx = false := by
  unfold fTold
  have a1 : (tx == Str.ofString "") = true := by simpa using h1
  rw [a1]; rfl
end
theorem f_add {g h' : Heap} {L I d D : Addr} {oI : Obj} {m m' : Str → Option Value} {ops : List (Str × List Ob)} {i k n : Nat} {word : Str} {obs : List Ob} {us : List Value} {tl : List (Addr × Obj)} {t t1 t2 : Tok} {W T : Option Value} {s : Shared} {tk' : Nat} {x : Str}
    (hJ : FAt tl us (fTo ops i).2) (h : ops[i]? = some (word, obs)) (e : fTold (fCount (fTo ops i).1 word) (opFault word obs) = true)
    (F : Fr g L h' m') (N : News g L h' ((D, ({ cls := .type "tuple", data := .seq #[.int (i : Int) t1, .str (opFault word obs) t2] n } : Obj)) :: (I, oI) :: (d, listOf (us.toArray.push (.ref D)) k) :: tl)) (hm : ∀ z, z ≠ x → m' z = fMk m (fCount (fTo ops i).1 word, t, W, T) z) (h1 : @Ne Nat D d) (h2 : @Ne Nat D I) :
    GEnd g L [(I, oI)] d tl (fun m' us' tl' => ∃ st', (∀ z, z ≠ x → m' z = fMk m st' z) ∧ st'.1 = (fTo ops (i + 1)).1 ∧ FAt tl' us' (fTo ops (i + 1)).2) s .next { s with heap := h', toks := tk' } := by
  refine ⟨rfl, h', tk', m', us ++ [.ref D], k, [(D, ({ cls := .type "tuple", data := .seq #[.int (i : Int) t1, .str (opFault word obs) t2] n } : Obj))], rfl, F, fun p hp => N p ?_, fun p hp => ?_, _, hm, fTo_1 h, ?_⟩
  · have e : us.toArray.push (Value.ref D) = (us ++ [Value.ref D]).toArray := by simp
    rw [e]
    rcases List.mem_append.mp hp with hp | hp
    · exact List.mem_cons_of_mem _ (List.mem_singleton.mp hp ▸ List.mem_cons_self ..)
    · rcases List.mem_cons.mp hp with rfl | hp
      · exact List.mem_cons_of_mem _ (List.mem_cons_of_mem _ (List.mem_cons_self ..))
      · rcases List.mem_append.mp hp with hp | hp
        · exact List.mem_singleton.mp hp ▸ List.mem_cons_self ..
        · exact List.mem_cons_of_mem _ (List.mem_cons_of_mem _ (List.mem_cons_of_mem _ hp))
  · obtain rfl := List.mem_singleton.mp hp
    exact ⟨h1, fun q hq => by obtain rfl := List.mem_singleton.mp hq; exact h2⟩
  · rw [← fTo_add h e]
    exact (hJ.sub fun p hp => List.mem_append_right _ hp).snoc (List.mem_append_left _ (List.mem_singleton.mpr rfl))
theorem f_not {g h' : Heap} {L I d : Addr} {oI : Obj} {m m' : Str → Option Value} {ops : List (Str × List Ob)} {i k : Nat} {word : Str} {obs : List Ob} {us : List Value} {tl : List (Addr × Obj)} {t : Tok} {W T : Option Value} {s : Shared} {tk' : Nat} {x : Str}
    (hJ : FAt tl us (fTo ops i).2) (h : ops[i]? = some (word, obs)) (e : fTold (fCount (fTo ops i).1 word) (opFault word obs) = false)
    (F : Fr g L h' m') (N : News g L h' ((I, oI) :: (d, listOf us.toArray k) :: tl)) (hm : ∀ z, z ≠ x → m' z = fMk m (fCount (fTo ops i).1 word, t, W, T) z) :
    GEnd g L [(I, oI)] d tl (fun m' us' tl' => ∃ st', (∀ z, z ≠ x → m' z = fMk m st' z) ∧ st'.1 = (fTo ops (i + 1)).1 ∧ FAt tl' us' (fTo ops (i + 1)).2) s .next { s with heap := h', toks := tk' } :=
  ⟨rfl, h', tk', m', us, k, [], rfl, F, N, (fun p hp => nomatch hp), _, hm, fTo_1 h, by rw [← fTo_not h e]; exact hJ⟩
end

section
set_option maxHeartbeats 40000000
open PySem PySem.W PyProof.Rows PySem.Calls PySem.Spec
theorem opfaults_c (w : World) (l0 : Addr) (vs0 : List Value) (ops : List (Str × List Ob)) : PureN w 348 28 320 [.ref l0] (fun h => h.IsList l0 vs0.toArray ∧ OpsAt h vs0 ops ∧ vs0.length ≤ 1000) (fun h₀ h' r => ∃ d us n tl, r = .ref d ∧ (∀ p ∈ (d, listOf (List.toArray us) n) :: tl, h'.get? p.1 = some p.2 ∧ h₀.get? p.1 = none) ∧ FAt tl us (fTo ops ops.length).2) := by
  k_with_none
  k_with "lt" => first | with_reducible assumption | exact lt_0 (by with_reducible assumption) | exact lt_1 (by with_reducible assumption) | exact lt_2 (by with_reducible assumption) | exact lt_3 (by with_reducible assumption) | exact lt_4 (by with_reducible assumption) | exact lt_5 (by with_reducible assumption) | exact lt_6 (by with_reducible assumption) | exact lt_7 (by with_reducible assumption) | exact lt_0 (dr8 (by with_reducible assumption)) | exact lt_1 (dr8 (by with_reducible assumption)) | exact lt_2 (dr8 (by with_reducible assumption)) | exact lt_3 (dr8 (by with_reducible assumption)) | exact lt_4 (dr8 (by with_reducible assumption)) | exact lt_5 (dr8 (by with_reducible assumption)) | exact lt_6 (dr8 (by with_reducible assumption)) | exact lt_7 (dr8 (by with_reducible assumption)) | exact lt_0 (dr8 (dr8 (by with_reducible assumption))) | exact lt_1 (dr8 (dr8 (by with_reducible assumption))) | exact lt_2 (dr8 (dr8 (by with_reducible assumption))) | exact lt_3 (dr8 (dr8 (by with_reducible assumption))) | exact lt_4 (dr8 (dr8 (by with_reducible assumption))) | exact lt_5 (dr8 (dr8 (by with_reducible assumption))) | exact lt_6 (dr8 (dr8 (by with_reducible assumption))) | exact lt_7 (dr8 (dr8 (by with_reducible assumption))) | exact lt_0 (dr8 (dr8 (dr8 (by with_reducible assumption)))) | exact lt_1 (dr8 (dr8 (dr8 (by with_reducible assumption)))) | exact lt_2 (dr8 (dr8 (dr8 (by with_reducible assumption)))) | exact lt_3 (dr8 (dr8 (dr8 (by with_reducible assumption)))) | exact lt_4 (dr8 (dr8 (dr8 (by with_reducible assumption)))) | exact lt_5 (dr8 (dr8 (dr8 (by with_reducible assumption)))) | exact lt_6 (dr8 (dr8 (dr8 (by with_reducible assumption)))) | exact lt_7 (dr8 (dr8 (dr8 (by with_reducible assumption)))) | exact lt_0 (dr8 (dr8 (dr8 (dr8 (by with_reducible assumption))))) | exact lt_1 (dr8 (dr8 (dr8 (dr8 (by with_reducible assumption))))) | exact lt_2 (dr8 (dr8 (dr8 (dr8 (by with_reducible assumption))))) | exact lt_3 (dr8 (dr8 (dr8 (dr8 (by with_reducible assumption))))) | exact lt_4 (dr8 (dr8 (dr8 (dr8 (by with_reducible assumption))))) | exact lt_5 (dr8 (dr8 (dr8 (dr8 (by with_reducible assumption))))) | exact lt_6 (dr8 (dr8 (dr8 (dr8 (by with_reducible assumption))))) | exact lt_7 (dr8 (dr8 (dr8 (dr8 (by with_reducible assumption)))))
  k_with "nd" => first | exact nd_0 (by with_reducible assumption) | exact nd_1 (by with_reducible assumption) | exact nd_2 (by with_reducible assumption) | exact nd_3 (by with_reducible assumption) | exact nd_4 (by with_reducible assumption) | exact nd_5 (by with_reducible assumption) | exact nd_6 (by with_reducible assumption) | exact nd_7 (by with_reducible assumption) | exact nd_8 (by with_reducible assumption)
  k_with "ne" => (refine neN ?_; (try dsimp only); first | with_reducible assumption | exact Ne.symm (by with_reducible assumption) | (refine ne_z ?_; k_extra "lt") | (refine ne_s ?_; k_extra "lt") | (refine ne_zz (by with_reducible assumption) ?_; k_extra "lt") | (refine ne_ss (by with_reducible assumption) ?_; k_extra "lt") | k_extra "nd" | (dsimp only [AllLt] at *; omega))
  k_with "call ref" => (k_here; (with_reducible show wpAny _ _ (call (Value.ref 341) [_]) _ _ _); k_dflt (refine' opfault_c _ _ _ _ ?zzB ?zzF ?zzX ?zzT ?zzhk ?zzpre ?zzdd ?zzuu ?_; (case zzB => k_asm); (case zzF => k_asm); (case zzX => k_asm); (case zzT => k_asm); (case zzhk => first | exact rfl | assumption); (case zzpre => exact OpAt.ext (by assumption) (Fr.keep (by k_asm))); (case zzdd => ktr_room); (case zzuu => ktr_units)); intro v' h' tk' e' p'; (have F' := fr_ext (by k_asm) e'); (have N' := news_ext (by k_asm) e'); (try dsimp only at p'); (try k_sweep); obtain ⟨tk9, e9⟩ := p'; subst e9)
  k_with "getAttr ref" => (k_here; k_dflt (refine' get_own ?zzk1 ?zzk2 ?zzk3 ?zzk4 ?zzk5 ?zzk6 ?zzk7 ?zzk8 ?zzk9 ?_; (case zzk3 => exact op_inst hop1 hop2 (Fr.keep (by k_asm))); (case zzk1 => k_asm); (case zzk2 => k_asm); (case zzk4 => k_is); (case zzk5 => k_is); (case zzk6 => k_is); (case zzk7 => k_is); (case zzk8 => assumption); (case zzk9 => k_handed); k_whole))
  k_with "call builtin:len" => (k_here; (with_reducible show wpAny _ _ (call (Value.builtin "len") [Value.ref _]) _ _ _); k_dflt (
  (refine' kun_lenL (k := (vs0.length : Int)) (l := l0) (items := vs0.toArray) ?zzq0 ?zzq1 ?zzq2 ?_; (case zzq0 => is_list); (case zzq1 => (rw [List.size_toArray])); (case zzq2 => omega))))
  k_with "subscriptTail" => (k_here; (with_reducible show wpAny _ _ (subscriptTail _ _ (Value.ref _) (Value.int _ _)) _ _ _); (with_unfolding_all refine' item_at ?zzk1 ?zzk2 ?zzk3 ?_ ?zzk6; (case zzk1 => is_list); (case zzk2 => assumption); (case zzk3 => omega); (case zzk6 => with_unfolding_all rfl); k_whole))
  k_with "exec For Name Call" => (k_here; (rename Fr _ _ _ _ => lF'); (with_unfolding_all refine' For_turns lF' ?_; k_whole))
  k_with "exec For Name Call cons nil" => (k_here; (rename Fr _ _ _ _ => lF'); (with_unfolding_all refine' For_turns lF' ?_; k_whole))
  k_with "call type:range" => (k_here; refine Stop.out ?_)
  k_with "call builtin:list.append" => (k_here; k_dflt (refine' append_K ?zzaF ?zzaN ?zzaU ?_ ?zzaz; (case zzaF => k_asm); (case zzaN => k_asm); (case zzaU => (repeat' (first | exact Upd.head off7 | refine' Upd.tail ?_ ?_ | k_ne))); (case zzaz => (have := hJ7b.length; have := fTo_len (ops := ops) (i := i7); simp only [List.size_toArray, sizeLine_eq]; omega))); intro h' F' N')
  k_with "exec If" => (k_here; (fail_if_success with_reducible show wpAny _ _ _ (JoinQ _ _ _ _ _ _ _) _ _); (fail_if_success with_reducible show wpAny _ _ _ (GoQ _) _ _); refine Stop.out ?_)
  unfold PureN
  k_fill
  intro loose mean mg mb dp un gd cn cs a ccd cl outer A₀ base h₀ L m s Q E B F X T hk hpre hd hu hret
  refine wpAny_call ?_
  k_dflt (refine' code_def0 ?k1 ?k2 ?k3 ?k5 ?kA ?kF ?kK ?k6 ?k7 ?k8 ?k9 ?kB ?_ ?c2 ?c3 ?c4 ?c5; (case kA => exact rfl); (case kF => exact rfl); (case kK => first | assumption | exact rfl); (case k1 => k_asm); (case k2 => k_asm); (case k3 => k_asm); (case k5 => k_asm); (case k6 => k_is); (case k7 => k_is); (case k8 => ktr_room); (case k9 => first | exact BindsTo.of_eq rfl | exact binds_K (by k_in) rfl (by k_is) rfl rfl rfl); (case c5 => decide); (case kB => exact locs rfl); (case c2 => exact rfl); (case c3 => exact rfl); (case c4 => exact rfl); k_whole; intro g' L' h' HE' F' N' B' X' T'; (try dsimp only); (try k_fold); (first | (refine e_fold ?_; intro A9 e9) | (refine a_fold ?_; intro A9) | skip))
  generalize s.toks + _ = tk0
  replace F' : Fr g' L' h' (fun y => List.lookup y ([(Str.ofString "operations", Value.ref l0)] : List (Str × Value))) := F'
  have hl' := Heap.IsList.at hpre.1 (fun o e => HE' l0 o e)
  have hv' := hpre.2.1.ext HE'
  have hz' := hpre.2.2
  clear hpre
  k_steps
  unfold Stop
  rename Fr _ _ _ _ => F5
  rename News _ _ _ _ => N5
  refine for_range (fMk _) (fun i st us tl => st.1 = (fTo ops i).1 ∧ FAt tl us (fTo ops i).2) rfl rfl rfl (by omega) F5 N5 (fun _ h => nomatch h) (fstart F5 ?s1 ?s2 ?s3) ?turn9 ?fin9
  case s1 => exact ⟨_, by with_unfolding_all rfl⟩
  case s2 => with_unfolding_all rfl
  case s3 => with_unfolding_all rfl
  case turn9 =>
    intro i7 st7 us7 k7 tl7 t7 h7 tk7 I7 oI7 hi7 hJ7 hI7 hdI7 off7 F7 N7
    obtain ⟨a0, word, obs, hvi, hoi, hop⟩ := hv'.at hi7
    obtain ⟨oc7, ot7, ow7, ox7⟩ := st7
    obtain ⟨hJ7a, hJ7b⟩ := hJ7
    subst hJ7a
    unfold fMk at F7
    dsimp only at F7
    obtain ⟨dx0, es0, n0, t0, l1, vs1, hop1, hop2, hop3, hop4, hop5, hop6, hop7⟩ := id hop
    k_steps
    unfold Stop
    rename Fr _ _ _ _ => F6
    rename News _ _ _ _ => N6
    refine join_cut (Str.ofString "open_count") (fUp (fTo ops i7).1 word) F6 N6 ?a1 ?b1
    case a1 =>
      k_steps
      all_goals first
        | (refine' join_set ?jF ?jN ?je; (case je => exact fUp_t (by assumption)); (case jF => assumption); (case jN => assumption))
        | (refine' join_same ?jF ?jN ?jm ?je; (case je => exact fUp_f (by assumption)); (case jF => assumption); (case jN => assumption); (case jm => with_unfolding_all rfl))
    case b1 =>
      clear F6 N6
      intro h6 tk6 t6 F6 N6
      k_steps
      unfold Stop
      refine join_cut (Str.ofString "open_count") (fCount (fTo ops i7).1 word) F6 N6 ?a2 ?b2
      case a2 =>
        k_steps
        all_goals first
          | (refine' join_set ?jF ?jN ?je; (case je => exact fDown_t (by assumption) (by omega)); (case jF => assumption); (case jN => assumption))
          | (refine' join_same ?jF ?jN ?jm ?je; (case je => exact fDown_f1 (by assumption)); (case jF => assumption); (case jN => assumption); (case jm => with_unfolding_all rfl))
          | (refine' join_same ?jF ?jN ?jm ?je; (case je => exact fDown_f2 (by omega)); (case jF => assumption); (case jN => assumption); (case jm => with_unfolding_all rfl))
          | trace_state
      case b2 =>
        clear F6 N6
        intro h6 tk6 t6 F6 N6
        k_steps
        unfold Stop
        refine go_in ?_
        k_steps
        all_goals (unfold GoQ; dsimp only; k_steps)
        all_goals first
          | (refine' f_add hJ7b hoi ?ge ?gF ?gN ?gm ?g1 ?g2; (case ge => first | exact fTold_1 (by assumption) (by assumption) | exact fTold_2 (by assumption) (by assumption)); (case gF => assumption); (case gN => assumption); (case gm => exact fMk_turn); (case g1 => k_ne); (case g2 => k_ne))
          | (refine' f_not hJ7b hoi ?ge ?gF ?gN ?gm; (case ge => first | exact fTold_4 (by assumption) | exact fTold_3 (by assumption) (by assumption)); (case gF => assumption); (case gN => assumption); (case gm => exact fMk_turn))
          | trace_state
  case fin9 =>
    intro ov8 st8 us8 k8 tl8 h8 tk8 hJ8 off8 F8 N8
    k_steps
    refine' hret _ _ _ ?qe ?qp
    case qe => exact fun b o e => Fr.keep (by assumption) b o (HE' b o e)
    case qp => exact ⟨_, us8, k8, tl8, rfl, fun p hp => ⟨(N8 p hp).1, ext_none HE' (N8 p hp).2.2⟩, by rw [← hv'.length]; exact hJ8.2⟩
end

section
set_option maxHeartbeats 4000000
open PySem PySem.W PyProof.Rows PySem.Calls PySem.Spec
/-- the pen: a list of two ints -/
noncomputable def PenO (o : Obj) : Prop := ∃ n t c u k, o = listOf #[.int n t, .int c u] k
/-- a call that changes the pen alone -/
noncomputable def PenC (w : World) (f dep un8 : Nat) (p : Addr) (args : List Value) (pre : Heap → Prop) (post : Heap → Heap → Value → Prop) : Prop :=
  ∀ {loose : List Str} {mean : ExcName → Option Value} {mg mb : Str → Option Value} {dp un : Nat} {gd : Option (List Code)} {cn : Str} {cs : Scope} {a : Addr} {ccd : Value} {cl : List (Str × Addr)} {outer : List Env} {A₀ : Around} {base h₀ : Heap} {L : Addr} {m : Str → Option Value} {s : Shared}
    {Q E : Value → Shared → Prop} {op : Obj}, Below A₀ base outer h₀ → Fr h₀ L s.heap m → (Mine.K w.params).In h₀ → Top Mine.vq loose mean mg mb h₀ → cs.kind = .function → News h₀ L s.heap [(p, op)] → PenO op →
    pre s.heap → dp + dep < recursionLimit → un + un8 < cLine →
    (∀ v h' tk' op', (∀ b o, @Ne Nat b p → s.heap.get? b = some o → h'.get? b = some o) → h'.get? p = some op' → PenO op' → post s.heap h' v → Q v { s with heap := h', toks := tk' }) →
    wpAny (model PySem.Challenge.rw_nn0217_01.row.prog w) (ktrTop dp un gd cn cs L a ccd cl outer) (call (.ref f) args) Q E s
theorem penO {n c : Int} {t u : Tok} {k : Nat} : PenO (listOf #[.int n t, .int c u] k) := ⟨n, t, c, u, k, rfl⟩
theorem fmod_dig {n m : Int} (h : 0 < m) : 0 ≤ n.fmod m ∧ n.fmod m < m := ⟨Int.fmod_nonneg_of_pos _ h, Int.fmod_lt_of_pos _ h⟩
section
variable {g h h' : Heap} {L p : Addr} {m : Str → Option Value} {o o' : Obj} {led : List (Addr × Obj)} {gg : Obj → List (Addr × Obj)}
theorem news1 (N : News g L h [(p, o)]) : h.get? p = some o := (N _ (List.mem_cons_self ..)).1
theorem news_mem (N : News g L h led) (hm : (p, o) ∈ led) : News g L h [(p, o)] := fun q hq => by rw [List.mem_singleton.mp hq]; exact N _ hm
theorem fr_pen (F : Fr g L h m) (N : News g L h led) (hm : (p, o) ∈ led) (hk : ∀ b o, @Ne Nat b p → h.get? b = some o → h'.get? b = some o) : Fr g L h' m := by
  have z := N _ hm
  exact ⟨F.ns.at' fun o e => hk _ o (Ne.symm z.2.1) e, fun b o e => hk b o (fun q => by
    have q' : b = p := q
    subst q'
    have z2 := z.2.2
    simp only at z2
    rw [z2] at e; cases e) (F.keep b o e), F.above⟩
theorem news_pen (N : News g L h led) (U : UpdF p o led gg) (hk : ∀ b o, @Ne Nat b p → h.get? b = some o → h'.get? b = some o) (hg : h'.get? p = some o') : News g L h' (gg o') := by
  obtain ⟨pre, post, rfl, e, h1, h2⟩ := U.split
  rw [e]
  intro q hq
  rcases List.mem_append.mp hq with hq | hq
  · have z := N q (List.mem_append_left _ hq)
    exact ⟨hk _ _ (h1 q hq) z.1, z.2⟩
  rcases List.mem_cons.mp hq with rfl | hq
  · have z := N (p, o) (List.mem_append_right _ (List.mem_cons_self ..))
    exact ⟨hg, z.2⟩
  · have z := N q (List.mem_append_right _ (List.mem_cons_of_mem _ hq))
    exact ⟨hk _ _ (h2 q hq) z.1, z.2⟩
end
end

section
set_option maxHeartbeats 40000000
open PySem PySem.W PyProof.Rows PySem.Calls PySem.Spec
theorem draw_c (w : World) (p : Addr) (many : Int) (u : Tok) (hm : 0 < many) (hm1 : many < 1000) : PenC w 362 2 16 p [.ref p, .int many u] (fun _ => True) (fun _ _ r => ∃ d t, r = .int d t ∧ 0 ≤ d ∧ d < many) := by
  k_with_none
  k_with "lt" => first | with_reducible assumption | exact lt_0 (by with_reducible assumption) | exact lt_1 (by with_reducible assumption) | exact lt_2 (by with_reducible assumption) | exact lt_3 (by with_reducible assumption) | exact lt_4 (by with_reducible assumption) | exact lt_5 (by with_reducible assumption) | exact lt_6 (by with_reducible assumption) | exact lt_7 (by with_reducible assumption) | exact lt_0 (dr8 (by with_reducible assumption)) | exact lt_1 (dr8 (by with_reducible assumption)) | exact lt_2 (dr8 (by with_reducible assumption)) | exact lt_3 (dr8 (by with_reducible assumption)) | exact lt_4 (dr8 (by with_reducible assumption)) | exact lt_5 (dr8 (by with_reducible assumption)) | exact lt_6 (dr8 (by with_reducible assumption)) | exact lt_7 (dr8 (by with_reducible assumption)) | exact lt_0 (dr8 (dr8 (by with_reducible assumption))) | exact lt_1 (dr8 (dr8 (by with_reducible assumption))) | exact lt_2 (dr8 (dr8 (by with_reducible assumption))) | exact lt_3 (dr8 (dr8 (by with_reducible assumption))) | exact lt_4 (dr8 (dr8 (by with_reducible assumption))) | exact lt_5 (dr8 (dr8 (by with_reducible assumption))) | exact lt_6 (dr8 (dr8 (by with_reducible assumption))) | exact lt_7 (dr8 (dr8 (by with_reducible assumption))) | exact lt_0 (dr8 (dr8 (dr8 (by with_reducible assumption)))) | exact lt_1 (dr8 (dr8 (dr8 (by with_reducible assumption)))) | exact lt_2 (dr8 (dr8 (dr8 (by with_reducible assumption)))) | exact lt_3 (dr8 (dr8 (dr8 (by with_reducible assumption)))) | exact lt_4 (dr8 (dr8 (dr8 (by with_reducible assumption)))) | exact lt_5 (dr8 (dr8 (dr8 (by with_reducible assumption)))) | exact lt_6 (dr8 (dr8 (dr8 (by with_reducible assumption)))) | exact lt_7 (dr8 (dr8 (dr8 (by with_reducible assumption)))) | exact lt_0 (dr8 (dr8 (dr8 (dr8 (by with_reducible assumption))))) | exact lt_1 (dr8 (dr8 (dr8 (dr8 (by with_reducible assumption))))) | exact lt_2 (dr8 (dr8 (dr8 (dr8 (by with_reducible assumption))))) | exact lt_3 (dr8 (dr8 (dr8 (dr8 (by with_reducible assumption))))) | exact lt_4 (dr8 (dr8 (dr8 (dr8 (by with_reducible assumption))))) | exact lt_5 (dr8 (dr8 (dr8 (dr8 (by with_reducible assumption))))) | exact lt_6 (dr8 (dr8 (dr8 (dr8 (by with_reducible assumption))))) | exact lt_7 (dr8 (dr8 (dr8 (dr8 (by with_reducible assumption)))))
  k_with "nd" => first | exact nd_0 (by with_reducible assumption) | exact nd_1 (by with_reducible assumption) | exact nd_2 (by with_reducible assumption) | exact nd_3 (by with_reducible assumption) | exact nd_4 (by with_reducible assumption) | exact nd_5 (by with_reducible assumption) | exact nd_6 (by with_reducible assumption) | exact nd_7 (by with_reducible assumption) | exact nd_8 (by with_reducible assumption)
  k_with "ne" => (refine neN ?_; (try dsimp only); first | with_reducible assumption | exact Ne.symm (by with_reducible assumption) | (refine ne_z ?_; k_extra "lt") | (refine ne_s ?_; k_extra "lt") | (refine ne_zz (by with_reducible assumption) ?_; k_extra "lt") | (refine ne_ss (by with_reducible assumption) ?_; k_extra "lt") | k_extra "nd" | (dsimp only [AllLt] at *; omega))
  unfold PenC
  k_fill
  intro loose mean mg mb dp un gd cn cs a ccd cl outer A₀ base h₀ L m s Q E op B F X T hk NP hpen hpre hd hu hret
  obtain ⟨pn, pt, pc, pu, pk, rfl⟩ := hpen
  refine wpAny_call ?_
  k_dflt (refine' code_defE (led := [(p, listOf #[.int pn pt, .int pc pu] pk)]) ?k1 ?k2 ?k3 ?k4 ?k5 ?kA ?kF ?kK ?k6 ?k7 ?k8 ?k9 ?kB ?_ ?c2 ?c3 ?c4 ?c5; (case kA => exact rfl); (case kF => exact rfl); (case kK => first | assumption | exact rfl); (case k1 => k_asm); (case k2 => k_asm); (case k3 => k_asm); (case k4 => assumption); (case k5 => k_asm); (case k6 => k_is); (case k7 => k_is); (case k8 => ktr_room); (case k9 => first | exact BindsTo.of_eq rfl | exact binds_K (by k_in) rfl (by k_is) rfl rfl rfl); (case c5 => decide); (case kB => exact locs rfl); (case c2 => exact rfl); (case c3 => exact rfl); (case c4 => exact rfl); k_whole; intro g' L' h' HG' F' N' B' X' T'; (try dsimp only); (try k_fold); (first | (refine e_fold ?_; intro A9 e9) | (refine a_fold ?_; intro A9) | skip))
  generalize s.toks + _ = tk0
  have HE' : ∀ b o, @Ne Nat b p → s.heap.get? b = some o → g'.get? b = some o := fun b o n e => HG' b o e (fun hm => n (List.mem_singleton.mp hm))
  clear HG' NP
  replace F' : Fr g' L' h' (fun y => List.lookup y ([(Str.ofString "many", Value.int many u), (Str.ofString "pen", Value.ref p)] : List (Str × Value))) := F'
  clear hpre
  have hm0 : many ≠ 0 := by omega
  k_steps
  all_goals (refine' hret _ _ _ _ ?qk ?qg ?qo ?qp; (case qk => exact fun b o n e => Fr.keep (by assumption) b o (HE' b o n e)); (case qg => exact news1 (by assumption)); (case qo => exact penO); (case qp => exact ⟨_, _, rfl, fmod_dig hm⟩))
end

section
set_option maxHeartbeats 40000000
open PySem PySem.W PyProof.Rows PySem.Calls PySem.Spec
theorem pick_c (w : World) (p l0 : Addr) (vs0 : List Value) : PenC w 369 6 48 p [.ref p, .ref l0] (fun h => h.IsList l0 vs0.toArray ∧ @Ne Nat l0 p ∧ 0 < vs0.length ∧ vs0.length < 1000) (fun _ _ r => ∃ i : Nat, vs0[i]? = some r) := by
  k_with_none
  k_with "lt" => first | with_reducible assumption | exact lt_0 (by with_reducible assumption) | exact lt_1 (by with_reducible assumption) | exact lt_2 (by with_reducible assumption) | exact lt_3 (by with_reducible assumption) | exact lt_4 (by with_reducible assumption) | exact lt_5 (by with_reducible assumption) | exact lt_6 (by with_reducible assumption) | exact lt_7 (by with_reducible assumption) | exact lt_0 (dr8 (by with_reducible assumption)) | exact lt_1 (dr8 (by with_reducible assumption)) | exact lt_2 (dr8 (by with_reducible assumption)) | exact lt_3 (dr8 (by with_reducible assumption)) | exact lt_4 (dr8 (by with_reducible assumption)) | exact lt_5 (dr8 (by with_reducible assumption)) | exact lt_6 (dr8 (by with_reducible assumption)) | exact lt_7 (dr8 (by with_reducible assumption)) | exact lt_0 (dr8 (dr8 (by with_reducible assumption))) | exact lt_1 (dr8 (dr8 (by with_reducible assumption))) | exact lt_2 (dr8 (dr8 (by with_reducible assumption))) | exact lt_3 (dr8 (dr8 (by with_reducible assumption))) | exact lt_4 (dr8 (dr8 (by with_reducible assumption))) | exact lt_5 (dr8 (dr8 (by with_reducible assumption))) | exact lt_6 (dr8 (dr8 (by with_reducible assumption))) | exact lt_7 (dr8 (dr8 (by with_reducible assumption))) | exact lt_0 (dr8 (dr8 (dr8 (by with_reducible assumption)))) | exact lt_1 (dr8 (dr8 (dr8 (by with_reducible assumption)))) | exact lt_2 (dr8 (dr8 (dr8 (by with_reducible assumption)))) | exact lt_3 (dr8 (dr8 (dr8 (by with_reducible assumption)))) | exact lt_4 (dr8 (dr8 (dr8 (by with_reducible assumption)))) | exact lt_5 (dr8 (dr8 (dr8 (by with_reducible assumption)))) | exact lt_6 (dr8 (dr8 (dr8 (by with_reducible assumption)))) | exact lt_7 (dr8 (dr8 (dr8 (by with_reducible assumption)))) | exact lt_0 (dr8 (dr8 (dr8 (dr8 (by with_reducible assumption))))) | exact lt_1 (dr8 (dr8 (dr8 (dr8 (by with_reducible assumption))))) | exact lt_2 (dr8 (dr8 (dr8 (dr8 (by with_reducible assumption))))) | exact lt_3 (dr8 (dr8 (dr8 (dr8 (by with_reducible assumption))))) | exact lt_4 (dr8 (dr8 (dr8 (dr8 (by with_reducible assumption))))) | exact lt_5 (dr8 (dr8 (dr8 (dr8 (by with_reducible assumption))))) | exact lt_6 (dr8 (dr8 (dr8 (dr8 (by with_reducible assumption))))) | exact lt_7 (dr8 (dr8 (dr8 (dr8 (by with_reducible assumption)))))
  k_with "nd" => first | exact nd_0 (by with_reducible assumption) | exact nd_1 (by with_reducible assumption) | exact nd_2 (by with_reducible assumption) | exact nd_3 (by with_reducible assumption) | exact nd_4 (by with_reducible assumption) | exact nd_5 (by with_reducible assumption) | exact nd_6 (by with_reducible assumption) | exact nd_7 (by with_reducible assumption) | exact nd_8 (by with_reducible assumption)
  k_with "ne" => (refine neN ?_; (try dsimp only); first | with_reducible assumption | exact Ne.symm (by with_reducible assumption) | (refine ne_z ?_; k_extra "lt") | (refine ne_s ?_; k_extra "lt") | (refine ne_zz (by with_reducible assumption) ?_; k_extra "lt") | (refine ne_ss (by with_reducible assumption) ?_; k_extra "lt") | k_extra "nd" | (dsimp only [AllLt] at *; omega))
  k_with "call ref" => (k_here; (with_reducible show wpAny _ _ (call (Value.ref 362) [_, _]) _ _ _); k_dflt (refine' draw_c _ _ _ _ (by omega) (by omega) ?zzB ?zzF ?zzX ?zzT ?zzhk ?zzN1 ?zzpn ?zzpre ?zzdd ?zzuu ?_; (case zzB => k_asm); (case zzF => k_asm); (case zzX => k_asm); (case zzT => k_asm); (case zzhk => first | exact rfl | assumption); (case zzN1 => exact news_mem (by k_asm) (by k_mem)); (case zzpn => first | assumption | exact penO); (case zzpre => exact trivial); (case zzdd => ktr_room); (case zzuu => ktr_units)); intro v' h' tk' op' hk' hg' hpn' p'; (have F' := fr_pen (by k_asm) (by k_asm) (by k_mem) hk'); (have N' := news_pen (by k_asm) (by first | k_updF | (repeat' (first | exact UpdF.head (by assumption) | refine' UpdF.tail ?_ ?_ | k_ne))) hk' hg'); (try dsimp only at p'); (try dsimp only at N'); (try k_sweep); obtain ⟨d9, t9, e9, hd9, hd9'⟩ := p'; subst e9)
  k_with "call builtin:len" => (k_here; (with_reducible show wpAny _ _ (call (Value.builtin "len") [Value.ref _]) _ _ _); k_dflt (
  (refine' kun_lenL (k := (vs0.length : Int)) (l := l0) (items := vs0.toArray) ?zzq0 ?zzq1 ?zzq2 ?_; (case zzq0 => is_list); (case zzq1 => (rw [List.size_toArray])); (case zzq2 => omega))))
  k_with "subscriptTail" => (k_here; (with_reducible show wpAny _ _ (subscriptTail _ _ (Value.ref _) (Value.int _ _)) _ _ _); refine Stop.out ?_)
  unfold PenC
  k_fill
  intro loose mean mg mb dp un gd cn cs a ccd cl outer A₀ base h₀ L m s Q E op B F X T hk NP hpen hpre hd hu hret
  obtain ⟨pn, pt, pc, pu, pk, rfl⟩ := hpen
  refine wpAny_call ?_
  k_dflt (refine' code_defE (led := [(p, listOf #[.int pn pt, .int pc pu] pk)]) ?k1 ?k2 ?k3 ?k4 ?k5 ?kA ?kF ?kK ?k6 ?k7 ?k8 ?k9 ?kB ?_ ?c2 ?c3 ?c4 ?c5; (case kA => exact rfl); (case kF => exact rfl); (case kK => first | assumption | exact rfl); (case k1 => k_asm); (case k2 => k_asm); (case k3 => k_asm); (case k4 => assumption); (case k5 => k_asm); (case k6 => k_is); (case k7 => k_is); (case k8 => ktr_room); (case k9 => first | exact BindsTo.of_eq rfl | exact binds_K (by k_in) rfl (by k_is) rfl rfl rfl); (case c5 => decide); (case kB => exact locs rfl); (case c2 => exact rfl); (case c3 => exact rfl); (case c4 => exact rfl); k_whole; intro g' L' h' HG' F' N' B' X' T'; (try dsimp only); (try k_fold); (first | (refine e_fold ?_; intro A9 e9) | (refine a_fold ?_; intro A9) | skip))
  generalize s.toks + _ = tk0
  have HE' : ∀ b o, @Ne Nat b p → s.heap.get? b = some o → g'.get? b = some o := fun b o n e => HG' b o e (fun hm => n (List.mem_singleton.mp hm))
  clear HG' NP
  replace F' : Fr g' L' h' (fun y => List.lookup y ([(Str.ofString "some", Value.ref l0), (Str.ofString "pen", Value.ref p)] : List (Str × Value))) := F'
  obtain ⟨hl0, hlp, hz1, hz2⟩ := hpre
  have hl' := Heap.IsList.at hl0 (fun o e => HE' l0 o hlp e)
  k_steps
  unfold Stop
  obtain ⟨i9, rfl⟩ : ∃ i : Nat, d9 = (i : Int) := ⟨d9.toNat, by omega⟩
  have hi9 : i9 < vs0.length := by omega
  refine' item_at (vs := vs0) (i := i9) ?k1 ?k2 ?k3 ?_ ?k6
  case k1 => is_list
  case k2 => exact List.getElem?_eq_getElem hi9
  case k3 => omega
  case k6 => with_unfolding_all rfl
  k_steps
  refine' hret _ _ _ _ ?qk ?qg ?qo ?qp
  case qk => exact fun b o n e => Fr.keep (by assumption) b o (HE' b o n e)
  case qg => exact news1 (by assumption)
  case qo => assumption
  case qp => exact ⟨i9, List.getElem?_eq_getElem hi9⟩
end

section
set_option maxHeartbeats 4000000
open PySem PySem.W PyProof.Rows PySem.Calls PySem.Spec
section
variable {prog : Program} {w : World} {A : Around} {E : Value → Shared → Prop} {s : Shared} {K : Frag} {C L : Addr} {h₀ : Heap} {m : Str → Option Value} {Q : Value → Shared → Prop}
theorem size_none {h : Heap} {a : Addr} (e : h.objs.size ≤ a) : h.get? a = none := by
  cases q : h.get? a with
  | none => rfl
  | some o => exact absurd (Heap.lt_size q) (Nat.not_lt.mpr e)
theorem call_cls' {pos : List Value} {fI : Addr} (F : Fr h₀ L s.heap m) (X₀ : K.In h₀) (hm : makesIn K C = true) (hi : findIn K (.ref C) "__init__" = some (some (.ref fI))) (hf : isFn K (.ref fI) = true)
    (h : ∀ x dx h', Ext s.heap h' → s.heap.get? x = none → s.heap.get? dx = none → @LE.le Nat _ s.heap.objs.size dx → Fr h₀ L h' m → News h₀ L h' [(x, instObj C dx), (dx, dictOf [] 0)] → dx < x →
      codeAny (model prog w) (A.under (.builtin "type.__call__" ⟨.ref C :: pos, []⟩)) (.call (.ref fI) ⟨.ref x :: pos, []⟩) (InitBack x fun r s' => match r with | .ok (.ret v) => Q v s' | .ok _ => False | .error e => E e s') { s with heap := h' }) :
    wpAny (model prog w) A (call (.ref C) pos []) Q E s := by
  refine wpAny_call ?_
  have X := X₀.keeps F.keep
  obtain ⟨hh, g, d, t, os⟩ := s
  refine make_core (makes_of X hm) (looks_findIn X hi) (fun self => bind_fn X self (beq_iff_eq.mp hf)) (.inl rfl) (h _ hh.objs.size _ (fun b o e => Heap.get?_push_of_some _ (Heap.get?_push_of_some _ e)) (size_none (Nat.le_succ _)) (size_none (Nat.le_refl _)) (Nat.le_refl _) ((F.push _).push _) ?_ (Nat.lt_succ_self _))
  have := ((News.nil (h₀ := h₀) (L := L) (h := hh)).push F emptyDict).push (F.push _) (instObj C hh.objs.size)
  rwa [Heap.size_push] at this
/-- the heap at which the init begins holds what stood -/
theorem init_ext {h hx g : Heap} {x dx : Addr} {ox odx : Obj} (e : Ext h hx) (hx1 : h.get? x = none) (hx2 : h.get? dx = none) (HG : ∀ b o, hx.get? b = some o → b ∉ [(x, ox), (dx, odx)].map (·.1) → g.get? b = some o) : Ext h g := fun b o q => HG b o (e b o q) (fun hm => by
  simp only [List.map_cons, List.map_nil, List.mem_cons, List.not_mem_nil, or_false] at hm
  rcases hm with rfl | rfl
  · rw [hx1] at q; cases q
  · rw [hx2] at q; cases q)
end
/-- what an init has made -/
theorem made_fresh {h g h' : Heap} {L x dx C : Addr} {es : List DictEntry} {n : Nat} (N : News g L h' [(x, instObj C dx), (dx, dictOf es n)]) (e : Ext h g) : ∀ p ∈ [(x, instObj C dx), (dx, dictOf es n)], h'.get? p.1 = some p.2 ∧ h.get? p.1 = none := fun p hp => ⟨(N p hp).1, ext_none e (N p hp).2.2⟩
end

section
set_option maxHeartbeats 40000000
open PySem PySem.W PyProof.Rows PySem.Calls PySem.Spec
theorem mk_name (w : World) (v : Value) : PureN w 171 4 32 [v] (fun _ => True) (fun h₀ h' r => ∃ x dx es n, r = .ref x ∧ (∀ p ∈ [(x, instObj 171 dx), (dx, dictOf es n)], h'.get? p.1 = some p.2 ∧ h₀.get? p.1 = none) ∧ (@LE.le Nat _ h₀.objs.size dx) ∧ (@LT.lt Nat _ dx x) ∧ getL (Str.ofString "text") es = some (some (v))) := by
  k_with_none
  k_with "lt" => first | with_reducible assumption | exact lt_0 (by with_reducible assumption) | exact lt_1 (by with_reducible assumption) | exact lt_2 (by with_reducible assumption) | exact lt_3 (by with_reducible assumption) | exact lt_4 (by with_reducible assumption) | exact lt_5 (by with_reducible assumption) | exact lt_6 (by with_reducible assumption) | exact lt_7 (by with_reducible assumption) | exact lt_0 (dr8 (by with_reducible assumption)) | exact lt_1 (dr8 (by with_reducible assumption)) | exact lt_2 (dr8 (by with_reducible assumption)) | exact lt_3 (dr8 (by with_reducible assumption)) | exact lt_4 (dr8 (by with_reducible assumption)) | exact lt_5 (dr8 (by with_reducible assumption)) | exact lt_6 (dr8 (by with_reducible assumption)) | exact lt_7 (dr8 (by with_reducible assumption)) | exact lt_0 (dr8 (dr8 (by with_reducible assumption))) | exact lt_1 (dr8 (dr8 (by with_reducible assumption))) | exact lt_2 (dr8 (dr8 (by with_reducible assumption))) | exact lt_3 (dr8 (dr8 (by with_reducible assumption))) | exact lt_4 (dr8 (dr8 (by with_reducible assumption))) | exact lt_5 (dr8 (dr8 (by with_reducible assumption))) | exact lt_6 (dr8 (dr8 (by with_reducible assumption))) | exact lt_7 (dr8 (dr8 (by with_reducible assumption))) | exact lt_0 (dr8 (dr8 (dr8 (by with_reducible assumption)))) | exact lt_1 (dr8 (dr8 (dr8 (by with_reducible assumption)))) | exact lt_2 (dr8 (dr8 (dr8 (by with_reducible assumption)))) | exact lt_3 (dr8 (dr8 (dr8 (by with_reducible assumption)))) | exact lt_4 (dr8 (dr8 (dr8 (by with_reducible assumption)))) | exact lt_5 (dr8 (dr8 (dr8 (by with_reducible assumption)))) | exact lt_6 (dr8 (dr8 (dr8 (by with_reducible assumption)))) | exact lt_7 (dr8 (dr8 (dr8 (by with_reducible assumption)))) | exact lt_0 (dr8 (dr8 (dr8 (dr8 (by with_reducible assumption))))) | exact lt_1 (dr8 (dr8 (dr8 (dr8 (by with_reducible assumption))))) | exact lt_2 (dr8 (dr8 (dr8 (dr8 (by with_reducible assumption))))) | exact lt_3 (dr8 (dr8 (dr8 (dr8 (by with_reducible assumption))))) | exact lt_4 (dr8 (dr8 (dr8 (dr8 (by with_reducible assumption))))) | exact lt_5 (dr8 (dr8 (dr8 (dr8 (by with_reducible assumption))))) | exact lt_6 (dr8 (dr8 (dr8 (dr8 (by with_reducible assumption))))) | exact lt_7 (dr8 (dr8 (dr8 (dr8 (by with_reducible assumption)))))
  k_with "nd" => first | exact nd_0 (by with_reducible assumption) | exact nd_1 (by with_reducible assumption) | exact nd_2 (by with_reducible assumption) | exact nd_3 (by with_reducible assumption) | exact nd_4 (by with_reducible assumption) | exact nd_5 (by with_reducible assumption) | exact nd_6 (by with_reducible assumption) | exact nd_7 (by with_reducible assumption) | exact nd_8 (by with_reducible assumption)
  k_with "ne" => (refine neN ?_; (try dsimp only); first | with_reducible assumption | exact Ne.symm (by with_reducible assumption) | (refine ne_z ?_; k_extra "lt") | (refine ne_s ?_; k_extra "lt") | (refine ne_zz (by with_reducible assumption) ?_; k_extra "lt") | (refine ne_ss (by with_reducible assumption) ?_; k_extra "lt") | k_extra "nd" | (dsimp only [AllLt] at *; omega))
  unfold PureN
  k_fill
  intro loose mean mg mb dp un gd cn cs a ccd cl outer A₀ base h₀ L m s Q E B F X T hk hpre hd hu hret
  clear hpre
  refine' call_cls' ?k1 ?k2 ?k4 ?k5 ?k6 ?_
  case k1 => k_asm
  case k2 => k_asm
  case k4 => k_is
  case k5 => k_is
  case k6 => k_is
  k_whole
  intro x dx hx ex fx fdx sdx Fx Nx l2
  (try k_lt2 l2)
  k_dflt (refine' code_defE (led := [(x, instObj 171 dx), (dx, dictOf [] 0)]) ?k1 ?k2 ?k3 ?k4 ?k5 ?kA ?kF ?kK ?k6 ?k7 ?k8 ?k9 ?kB ?_ ?c2 ?c3 ?c4 ?c5; (case kA => exact rfl); (case kF => exact rfl); (case kK => first | assumption | exact rfl); (case k1 => k_asm); (case k2 => k_asm); (case k3 => k_asm); (case k4 => assumption); (case k5 => k_asm); (case k6 => k_is); (case k7 => k_is); (case k8 => ktr_room); (case k9 => first | exact BindsTo.of_eq rfl | exact binds_K (by k_in) rfl (by k_is) rfl rfl rfl); (case c5 => decide); (case kB => exact locs rfl); (case c2 => exact rfl); (case c3 => exact rfl); (case c4 => exact rfl); k_whole; intro g' L' h' HG' F' N' B' X' T'; (try dsimp only); (try k_fold); (first | (refine e_fold ?_; intro A9 e9) | (refine a_fold ?_; intro A9) | skip))
  have HE' := init_ext ex fx fdx HG'
  clear HG' Nx ex fx fdx Fx
  replace F' : Fr g' L' h' (fun y => List.lookup y ([(Str.ofString "text", v), (Str.ofString "self", Value.ref x)] : List (Str × Value))) := F'
  k_steps
  refine' hret _ _ _ ?qe ?qp
  case qe => exact fun b o e => Fr.keep (by assumption) b o (HE' b o e)
  case qp => exact ⟨x, dx, _, _, rfl, made_fresh (by assumption) HE', sdx, l2, by with_unfolding_all rfl⟩
theorem mk_string (w : World) (v : Value) : PureN w 193 4 32 [v] (fun _ => True) (fun h₀ h' r => ∃ x dx es n, r = .ref x ∧ (∀ p ∈ [(x, instObj 193 dx), (dx, dictOf es n)], h'.get? p.1 = some p.2 ∧ h₀.get? p.1 = none) ∧ (@LE.le Nat _ h₀.objs.size dx) ∧ (@LT.lt Nat _ dx x) ∧ getL (Str.ofString "octets") es = some (some (v))) := by
  k_with_none
  k_with "lt" => first | with_reducible assumption | exact lt_0 (by with_reducible assumption) | exact lt_1 (by with_reducible assumption) | exact lt_2 (by with_reducible assumption) | exact lt_3 (by with_reducible assumption) | exact lt_4 (by with_reducible assumption) | exact lt_5 (by with_reducible assumption) | exact lt_6 (by with_reducible assumption) | exact lt_7 (by with_reducible assumption) | exact lt_0 (dr8 (by with_reducible assumption)) | exact lt_1 (dr8 (by with_reducible assumption)) | exact lt_2 (dr8 (by with_reducible assumption)) | exact lt_3 (dr8 (by with_reducible assumption)) | exact lt_4 (dr8 (by with_reducible assumption)) | exact lt_5 (dr8 (by with_reducible assumption)) | exact lt_6 (dr8 (by with_reducible assumption)) | exact lt_7 (dr8 (by with_reducible assumption)) | exact lt_0 (dr8 (dr8 (by with_reducible assumption))) | exact lt_1 (dr8 (dr8 (by with_reducible assumption))) | exact lt_2 (dr8 (dr8 (by with_reducible assumption))) | exact lt_3 (dr8 (dr8 (by with_reducible assumption))) | exact lt_4 (dr8 (dr8 (by with_reducible assumption))) | exact lt_5 (dr8 (dr8 (by with_reducible assumption))) | exact lt_6 (dr8 (dr8 (by with_reducible assumption))) | exact lt_7 (dr8 (dr8 (by with_reducible assumption))) | exact lt_0 (dr8 (dr8 (dr8 (by with_reducible assumption)))) | exact lt_1 (dr8 (dr8 (dr8 (by with_reducible assumption)))) | exact lt_2 (dr8 (dr8 (dr8 (by with_reducible assumption)))) | exact lt_3 (dr8 (dr8 (dr8 (by with_reducible assumption)))) | exact lt_4 (dr8 (dr8 (dr8 (by with_reducible assumption)))) | exact lt_5 (dr8 (dr8 (dr8 (by with_reducible assumption)))) | exact lt_6 (dr8 (dr8 (dr8 (by with_reducible assumption)))) | exact lt_7 (dr8 (dr8 (dr8 (by with_reducible assumption)))) | exact lt_0 (dr8 (dr8 (dr8 (dr8 (by with_reducible assumption))))) | exact lt_1 (dr8 (dr8 (dr8 (dr8 (by with_reducible assumption))))) | exact lt_2 (dr8 (dr8 (dr8 (dr8 (by with_reducible assumption))))) | exact lt_3 (dr8 (dr8 (dr8 (dr8 (by with_reducible assumption))))) | exact lt_4 (dr8 (dr8 (dr8 (dr8 (by with_reducible assumption))))) | exact lt_5 (dr8 (dr8 (dr8 (dr8 (by with_reducible assumption))))) | exact lt_6 (dr8 (dr8 (dr8 (dr8 (by with_reducible assumption))))) | exact lt_7 (dr8 (dr8 (dr8 (dr8 (by with_reducible assumption)))))
  k_with "nd" => first | exact nd_0 (by with_reducible assumption) | exact nd_1 (by with_reducible assumption) | exact nd_2 (by with_reducible assumption) | exact nd_3 (by with_reducible assumption) | exact nd_4 (by with_reducible assumption) | exact nd_5 (by with_reducible assumption) | exact nd_6 (by with_reducible assumption) | exact nd_7 (by with_reducible assumption) | exact nd_8 (by with_reducible assumption)
  k_with "ne" => (refine neN ?_; (try dsimp only); first | with_reducible assumption | exact Ne.symm (by with_reducible assumption) | (refine ne_z ?_; k_extra "lt") | (refine ne_s ?_; k_extra "lt") | (refine ne_zz (by with_reducible assumption) ?_; k_extra "lt") | (refine ne_ss (by with_reducible assumption) ?_; k_extra "lt") | k_extra "nd" | (dsimp only [AllLt] at *; omega))
  unfold PureN
  k_fill
  intro loose mean mg mb dp un gd cn cs a ccd cl outer A₀ base h₀ L m s Q E B F X T hk hpre hd hu hret
  clear hpre
  refine' call_cls' ?k1 ?k2 ?k4 ?k5 ?k6 ?_
  case k1 => k_asm
  case k2 => k_asm
  case k4 => k_is
  case k5 => k_is
  case k6 => k_is
  k_whole
  intro x dx hx ex fx fdx sdx Fx Nx l2
  (try k_lt2 l2)
  k_dflt (refine' code_defE (led := [(x, instObj 193 dx), (dx, dictOf [] 0)]) ?k1 ?k2 ?k3 ?k4 ?k5 ?kA ?kF ?kK ?k6 ?k7 ?k8 ?k9 ?kB ?_ ?c2 ?c3 ?c4 ?c5; (case kA => exact rfl); (case kF => exact rfl); (case kK => first | assumption | exact rfl); (case k1 => k_asm); (case k2 => k_asm); (case k3 => k_asm); (case k4 => assumption); (case k5 => k_asm); (case k6 => k_is); (case k7 => k_is); (case k8 => ktr_room); (case k9 => first | exact BindsTo.of_eq rfl | exact binds_K (by k_in) rfl (by k_is) rfl rfl rfl); (case c5 => decide); (case kB => exact locs rfl); (case c2 => exact rfl); (case c3 => exact rfl); (case c4 => exact rfl); k_whole; intro g' L' h' HG' F' N' B' X' T'; (try dsimp only); (try k_fold); (first | (refine e_fold ?_; intro A9 e9) | (refine a_fold ?_; intro A9) | skip))
  have HE' := init_ext ex fx fdx HG'
  clear HG' Nx ex fx fdx Fx
  replace F' : Fr g' L' h' (fun y => List.lookup y ([(Str.ofString "is_hex", Value.bool false), (Str.ofString "octets", v), (Str.ofString "self", Value.ref x)] : List (Str × Value))) := F'
  k_steps
  refine' hret _ _ _ ?qe ?qp
  case qe => exact fun b o e => Fr.keep (by assumption) b o (HE' b o e)
  case qp => exact ⟨x, dx, _, _, rfl, made_fresh (by assumption) HE', sdx, l2, by with_unfolding_all rfl⟩
theorem mk_stream (w : World) (v u : Value) : PureN w 214 4 32 [v, u] (fun _ => True) (fun h₀ h' r => ∃ x dx es n, r = .ref x ∧ (∀ p ∈ [(x, instObj 214 dx), (dx, dictOf es n)], h'.get? p.1 = some p.2 ∧ h₀.get? p.1 = none) ∧ (@LE.le Nat _ h₀.objs.size dx) ∧ (@LT.lt Nat _ dx x) ∧ getL (Str.ofString "head") es = some (some (v)) ∧ getL (Str.ofString "octets") es = some (some (u))) := by
  k_with_none
  k_with "lt" => first | with_reducible assumption | exact lt_0 (by with_reducible assumption) | exact lt_1 (by with_reducible assumption) | exact lt_2 (by with_reducible assumption) | exact lt_3 (by with_reducible assumption) | exact lt_4 (by with_reducible assumption) | exact lt_5 (by with_reducible assumption) | exact lt_6 (by with_reducible assumption) | exact lt_7 (by with_reducible assumption) | exact lt_0 (dr8 (by with_reducible assumption)) | exact lt_1 (dr8 (by with_reducible assumption)) | exact lt_2 (dr8 (by with_reducible assumption)) | exact lt_3 (dr8 (by with_reducible assumption)) | exact lt_4 (dr8 (by with_reducible assumption)) | exact lt_5 (dr8 (by with_reducible assumption)) | exact lt_6 (dr8 (by with_reducible assumption)) | exact lt_7 (dr8 (by with_reducible assumption)) | exact lt_0 (dr8 (dr8 (by with_reducible assumption))) | exact lt_1 (dr8 (dr8 (by with_reducible assumption))) | exact lt_2 (dr8 (dr8 (by with_reducible assumption))) | exact lt_3 (dr8 (dr8 (by with_reducible assumption))) | exact lt_4 (dr8 (dr8 (by with_reducible assumption))) | exact lt_5 (dr8 (dr8 (by with_reducible assumption))) | exact lt_6 (dr8 (dr8 (by with_reducible assumption))) | exact lt_7 (dr8 (dr8 (by with_reducible assumption))) | exact lt_0 (dr8 (dr8 (dr8 (by with_reducible assumption)))) | exact lt_1 (dr8 (dr8 (dr8 (by with_reducible assumption)))) | exact lt_2 (dr8 (dr8 (dr8 (by with_reducible assumption)))) | exact lt_3 (dr8 (dr8 (dr8 (by with_reducible assumption)))) | exact lt_4 (dr8 (dr8 (dr8 (by with_reducible assumption)))) | exact lt_5 (dr8 (dr8 (dr8 (by with_reducible assumption)))) | exact lt_6 (dr8 (dr8 (dr8 (by with_reducible assumption)))) | exact lt_7 (dr8 (dr8 (dr8 (by with_reducible assumption)))) | exact lt_0 (dr8 (dr8 (dr8 (dr8 (by with_reducible assumption))))) | exact lt_1 (dr8 (dr8 (dr8 (dr8 (by with_reducible assumption))))) | exact lt_2 (dr8 (dr8 (dr8 (dr8 (by with_reducible assumption))))) | exact lt_3 (dr8 (dr8 (dr8 (dr8 (by with_reducible assumption))))) | exact lt_4 (dr8 (dr8 (dr8 (dr8 (by with_reducible assumption))))) | exact lt_5 (dr8 (dr8 (dr8 (dr8 (by with_reducible assumption))))) | exact lt_6 (dr8 (dr8 (dr8 (dr8 (by with_reducible assumption))))) | exact lt_7 (dr8 (dr8 (dr8 (dr8 (by with_reducible assumption)))))
  k_with "nd" => first | exact nd_0 (by with_reducible assumption) | exact nd_1 (by with_reducible assumption) | exact nd_2 (by with_reducible assumption) | exact nd_3 (by with_reducible assumption) | exact nd_4 (by with_reducible assumption) | exact nd_5 (by with_reducible assumption) | exact nd_6 (by with_reducible assumption) | exact nd_7 (by with_reducible assumption) | exact nd_8 (by with_reducible assumption)
  k_with "ne" => (refine neN ?_; (try dsimp only); first | with_reducible assumption | exact Ne.symm (by with_reducible assumption) | (refine ne_z ?_; k_extra "lt") | (refine ne_s ?_; k_extra "lt") | (refine ne_zz (by with_reducible assumption) ?_; k_extra "lt") | (refine ne_ss (by with_reducible assumption) ?_; k_extra "lt") | k_extra "nd" | (dsimp only [AllLt] at *; omega))
  unfold PureN
  k_fill
  intro loose mean mg mb dp un gd cn cs a ccd cl outer A₀ base h₀ L m s Q E B F X T hk hpre hd hu hret
  clear hpre
  refine' call_cls' ?k1 ?k2 ?k4 ?k5 ?k6 ?_
  case k1 => k_asm
  case k2 => k_asm
  case k4 => k_is
  case k5 => k_is
  case k6 => k_is
  k_whole
  intro x dx hx ex fx fdx sdx Fx Nx l2
  (try k_lt2 l2)
  k_dflt (refine' code_defE (led := [(x, instObj 214 dx), (dx, dictOf [] 0)]) ?k1 ?k2 ?k3 ?k4 ?k5 ?kA ?kF ?kK ?k6 ?k7 ?k8 ?k9 ?kB ?_ ?c2 ?c3 ?c4 ?c5; (case kA => exact rfl); (case kF => exact rfl); (case kK => first | assumption | exact rfl); (case k1 => k_asm); (case k2 => k_asm); (case k3 => k_asm); (case k4 => assumption); (case k5 => k_asm); (case k6 => k_is); (case k7 => k_is); (case k8 => ktr_room); (case k9 => first | exact BindsTo.of_eq rfl | exact binds_K (by k_in) rfl (by k_is) rfl rfl rfl); (case c5 => decide); (case kB => exact locs rfl); (case c2 => exact rfl); (case c3 => exact rfl); (case c4 => exact rfl); k_whole; intro g' L' h' HG' F' N' B' X' T'; (try dsimp only); (try k_fold); (first | (refine e_fold ?_; intro A9 e9) | (refine a_fold ?_; intro A9) | skip))
  have HE' := init_ext ex fx fdx HG'
  clear HG' Nx ex fx fdx Fx
  replace F' : Fr g' L' h' (fun y => List.lookup y ([(Str.ofString "octets", u), (Str.ofString "head", v), (Str.ofString "self", Value.ref x)] : List (Str × Value))) := F'
  k_steps
  refine' hret _ _ _ ?qe ?qp
  case qe => exact fun b o e => Fr.keep (by assumption) b o (HE' b o e)
  case qp => exact ⟨x, dx, _, _, rfl, made_fresh (by assumption) HE', sdx, l2, by with_unfolding_all rfl, by with_unfolding_all rfl⟩
theorem mk_reference (w : World) (v u : Value) : PureN w 242 4 32 [v, u] (fun _ => True) (fun h₀ h' r => ∃ x dx es n, r = .ref x ∧ (∀ p ∈ [(x, instObj 242 dx), (dx, dictOf es n)], h'.get? p.1 = some p.2 ∧ h₀.get? p.1 = none) ∧ (@LE.le Nat _ h₀.objs.size dx) ∧ (@LT.lt Nat _ dx x) ∧ getL (Str.ofString "number") es = some (some (v)) ∧ getL (Str.ofString "generation") es = some (some (u))) := by
  k_with_none
  k_with "lt" => first | with_reducible assumption | exact lt_0 (by with_reducible assumption) | exact lt_1 (by with_reducible assumption) | exact lt_2 (by with_reducible assumption) | exact lt_3 (by with_reducible assumption) | exact lt_4 (by with_reducible assumption) | exact lt_5 (by with_reducible assumption) | exact lt_6 (by with_reducible assumption) | exact lt_7 (by with_reducible assumption) | exact lt_0 (dr8 (by with_reducible assumption)) | exact lt_1 (dr8 (by with_reducible assumption)) | exact lt_2 (dr8 (by with_reducible assumption)) | exact lt_3 (dr8 (by with_reducible assumption)) | exact lt_4 (dr8 (by with_reducible assumption)) | exact lt_5 (dr8 (by with_reducible assumption)) | exact lt_6 (dr8 (by with_reducible assumption)) | exact lt_7 (dr8 (by with_reducible assumption)) | exact lt_0 (dr8 (dr8 (by with_reducible assumption))) | exact lt_1 (dr8 (dr8 (by with_reducible assumption))) | exact lt_2 (dr8 (dr8 (by with_reducible assumption))) | exact lt_3 (dr8 (dr8 (by with_reducible assumption))) | exact lt_4 (dr8 (dr8 (by with_reducible assumption))) | exact lt_5 (dr8 (dr8 (by with_reducible assumption))) | exact lt_6 (dr8 (dr8 (by with_reducible assumption))) | exact lt_7 (dr8 (dr8 (by with_reducible assumption))) | exact lt_0 (dr8 (dr8 (dr8 (by with_reducible assumption)))) | exact lt_1 (dr8 (dr8 (dr8 (by with_reducible assumption)))) | exact lt_2 (dr8 (dr8 (dr8 (by with_reducible assumption)))) | exact lt_3 (dr8 (dr8 (dr8 (by with_reducible assumption)))) | exact lt_4 (dr8 (dr8 (dr8 (by with_reducible assumption)))) | exact lt_5 (dr8 (dr8 (dr8 (by with_reducible assumption)))) | exact lt_6 (dr8 (dr8 (dr8 (by with_reducible assumption)))) | exact lt_7 (dr8 (dr8 (dr8 (by with_reducible assumption)))) | exact lt_0 (dr8 (dr8 (dr8 (dr8 (by with_reducible assumption))))) | exact lt_1 (dr8 (dr8 (dr8 (dr8 (by with_reducible assumption))))) | exact lt_2 (dr8 (dr8 (dr8 (dr8 (by with_reducible assumption))))) | exact lt_3 (dr8 (dr8 (dr8 (dr8 (by with_reducible assumption))))) | exact lt_4 (dr8 (dr8 (dr8 (dr8 (by with_reducible assumption))))) | exact lt_5 (dr8 (dr8 (dr8 (dr8 (by with_reducible assumption))))) | exact lt_6 (dr8 (dr8 (dr8 (dr8 (by with_reducible assumption))))) | exact lt_7 (dr8 (dr8 (dr8 (dr8 (by with_reducible assumption)))))
  k_with "nd" => first | exact nd_0 (by with_reducible assumption) | exact nd_1 (by with_reducible assumption) | exact nd_2 (by with_reducible assumption) | exact nd_3 (by with_reducible assumption) | exact nd_4 (by with_reducible assumption) | exact nd_5 (by with_reducible assumption) | exact nd_6 (by with_reducible assumption) | exact nd_7 (by with_reducible assumption) | exact nd_8 (by with_reducible assumption)
  k_with "ne" => (refine neN ?_; (try dsimp only); first | with_reducible assumption | exact Ne.symm (by with_reducible assumption) | (refine ne_z ?_; k_extra "lt") | (refine ne_s ?_; k_extra "lt") | (refine ne_zz (by with_reducible assumption) ?_; k_extra "lt") | (refine ne_ss (by with_reducible assumption) ?_; k_extra "lt") | k_extra "nd" | (dsimp only [AllLt] at *; omega))
  unfold PureN
  k_fill
  intro loose mean mg mb dp un gd cn cs a ccd cl outer A₀ base h₀ L m s Q E B F X T hk hpre hd hu hret
  clear hpre
  refine' call_cls' ?k1 ?k2 ?k4 ?k5 ?k6 ?_
  case k1 => k_asm
  case k2 => k_asm
  case k4 => k_is
  case k5 => k_is
  case k6 => k_is
  k_whole
  intro x dx hx ex fx fdx sdx Fx Nx l2
  (try k_lt2 l2)
  k_dflt (refine' code_defE (led := [(x, instObj 242 dx), (dx, dictOf [] 0)]) ?k1 ?k2 ?k3 ?k4 ?k5 ?kA ?kF ?kK ?k6 ?k7 ?k8 ?k9 ?kB ?_ ?c2 ?c3 ?c4 ?c5; (case kA => exact rfl); (case kF => exact rfl); (case kK => first | assumption | exact rfl); (case k1 => k_asm); (case k2 => k_asm); (case k3 => k_asm); (case k4 => assumption); (case k5 => k_asm); (case k6 => k_is); (case k7 => k_is); (case k8 => ktr_room); (case k9 => first | exact BindsTo.of_eq rfl | exact binds_K (by k_in) rfl (by k_is) rfl rfl rfl); (case c5 => decide); (case kB => exact locs rfl); (case c2 => exact rfl); (case c3 => exact rfl); (case c4 => exact rfl); k_whole; intro g' L' h' HG' F' N' B' X' T'; (try dsimp only); (try k_fold); (first | (refine e_fold ?_; intro A9 e9) | (refine a_fold ?_; intro A9) | skip))
  have HE' := init_ext ex fx fdx HG'
  clear HG' Nx ex fx fdx Fx
  replace F' : Fr g' L' h' (fun y => List.lookup y ([(Str.ofString "generation", u), (Str.ofString "number", v), (Str.ofString "self", Value.ref x)] : List (Str × Value))) := F'
  k_steps
  refine' hret _ _ _ ?qe ?qp
  case qe => exact fun b o e => Fr.keep (by assumption) b o (HE' b o e)
  case qp => exact ⟨x, dx, _, _, rfl, made_fresh (by assumption) HE', sdx, l2, by with_unfolding_all rfl, by with_unfolding_all rfl⟩
theorem mk_operation (w : World) (v u : Value) : PureN w 294 4 32 [v, u] (fun _ => True) (fun h₀ h' r => ∃ x dx es n, r = .ref x ∧ (∀ p ∈ [(x, instObj 294 dx), (dx, dictOf es n)], h'.get? p.1 = some p.2 ∧ h₀.get? p.1 = none) ∧ (@LE.le Nat _ h₀.objs.size dx) ∧ (@LT.lt Nat _ dx x) ∧ getL (Str.ofString "word") es = some (some (v)) ∧ getL (Str.ofString "operands") es = some (some (u))) := by
  k_with_none
  k_with "lt" => first | with_reducible assumption | exact lt_0 (by with_reducible assumption) | exact lt_1 (by with_reducible assumption) | exact lt_2 (by with_reducible assumption) | exact lt_3 (by with_reducible assumption) | exact lt_4 (by with_reducible assumption) | exact lt_5 (by with_reducible assumption) | exact lt_6 (by with_reducible assumption) | exact lt_7 (by with_reducible assumption) | exact lt_0 (dr8 (by with_reducible assumption)) | exact lt_1 (dr8 (by with_reducible assumption)) | exact lt_2 (dr8 (by with_reducible assumption)) | exact lt_3 (dr8 (by with_reducible assumption)) | exact lt_4 (dr8 (by with_reducible assumption)) | exact lt_5 (dr8 (by with_reducible assumption)) | exact lt_6 (dr8 (by with_reducible assumption)) | exact lt_7 (dr8 (by with_reducible assumption)) | exact lt_0 (dr8 (dr8 (by with_reducible assumption))) | exact lt_1 (dr8 (dr8 (by with_reducible assumption))) | exact lt_2 (dr8 (dr8 (by with_reducible assumption))) | exact lt_3 (dr8 (dr8 (by with_reducible assumption))) | exact lt_4 (dr8 (dr8 (by with_reducible assumption))) | exact lt_5 (dr8 (dr8 (by with_reducible assumption))) | exact lt_6 (dr8 (dr8 (by with_reducible assumption))) | exact lt_7 (dr8 (dr8 (by with_reducible assumption))) | exact lt_0 (dr8 (dr8 (dr8 (by with_reducible assumption)))) | exact lt_1 (dr8 (dr8 (dr8 (by with_reducible assumption)))) | exact lt_2 (dr8 (dr8 (dr8 (by with_reducible assumption)))) | exact lt_3 (dr8 (dr8 (dr8 (by with_reducible assumption)))) | exact lt_4 (dr8 (dr8 (dr8 (by with_reducible assumption)))) | exact lt_5 (dr8 (dr8 (dr8 (by with_reducible assumption)))) | exact lt_6 (dr8 (dr8 (dr8 (by with_reducible assumption)))) | exact lt_7 (dr8 (dr8 (dr8 (by with_reducible assumption)))) | exact lt_0 (dr8 (dr8 (dr8 (dr8 (by with_reducible assumption))))) | exact lt_1 (dr8 (dr8 (dr8 (dr8 (by with_reducible assumption))))) | exact lt_2 (dr8 (dr8 (dr8 (dr8 (by with_reducible assumption))))) | exact lt_3 (dr8 (dr8 (dr8 (dr8 (by with_reducible assumption))))) | exact lt_4 (dr8 (dr8 (dr8 (dr8 (by with_reducible assumption))))) | exact lt_5 (dr8 (dr8 (dr8 (dr8 (by with_reducible assumption))))) | exact lt_6 (dr8 (dr8 (dr8 (dr8 (by with_reducible assumption))))) | exact lt_7 (dr8 (dr8 (dr8 (dr8 (by with_reducible assumption)))))
  k_with "nd" => first | exact nd_0 (by with_reducible assumption) | exact nd_1 (by with_reducible assumption) | exact nd_2 (by with_reducible assumption) | exact nd_3 (by with_reducible assumption) | exact nd_4 (by with_reducible assumption) | exact nd_5 (by with_reducible assumption) | exact nd_6 (by with_reducible assumption) | exact nd_7 (by with_reducible assumption) | exact nd_8 (by with_reducible assumption)
  k_with "ne" => (refine neN ?_; (try dsimp only); first | with_reducible assumption | exact Ne.symm (by with_reducible assumption) | (refine ne_z ?_; k_extra "lt") | (refine ne_s ?_; k_extra "lt") | (refine ne_zz (by with_reducible assumption) ?_; k_extra "lt") | (refine ne_ss (by with_reducible assumption) ?_; k_extra "lt") | k_extra "nd" | (dsimp only [AllLt] at *; omega))
  unfold PureN
  k_fill
  intro loose mean mg mb dp un gd cn cs a ccd cl outer A₀ base h₀ L m s Q E B F X T hk hpre hd hu hret
  clear hpre
  refine' call_cls' ?k1 ?k2 ?k4 ?k5 ?k6 ?_
  case k1 => k_asm
  case k2 => k_asm
  case k4 => k_is
  case k5 => k_is
  case k6 => k_is
  k_whole
  intro x dx hx ex fx fdx sdx Fx Nx l2
  (try k_lt2 l2)
  k_dflt (refine' code_defE (led := [(x, instObj 294 dx), (dx, dictOf [] 0)]) ?k1 ?k2 ?k3 ?k4 ?k5 ?kA ?kF ?kK ?k6 ?k7 ?k8 ?k9 ?kB ?_ ?c2 ?c3 ?c4 ?c5; (case kA => exact rfl); (case kF => exact rfl); (case kK => first | assumption | exact rfl); (case k1 => k_asm); (case k2 => k_asm); (case k3 => k_asm); (case k4 => assumption); (case k5 => k_asm); (case k6 => k_is); (case k7 => k_is); (case k8 => ktr_room); (case k9 => first | exact BindsTo.of_eq rfl | exact binds_K (by k_in) rfl (by k_is) rfl rfl rfl); (case c5 => decide); (case kB => exact locs rfl); (case c2 => exact rfl); (case c3 => exact rfl); (case c4 => exact rfl); k_whole; intro g' L' h' HG' F' N' B' X' T'; (try dsimp only); (try k_fold); (first | (refine e_fold ?_; intro A9 e9) | (refine a_fold ?_; intro A9) | skip))
  have HE' := init_ext ex fx fdx HG'
  clear HG' Nx ex fx fdx Fx
  replace F' : Fr g' L' h' (fun y => List.lookup y ([(Str.ofString "operands", u), (Str.ofString "word", v), (Str.ofString "self", Value.ref x)] : List (Str × Value))) := F'
  k_steps
  refine' hret _ _ _ ?qe ?qp
  case qe => exact fun b o e => Fr.keep (by assumption) b o (HE' b o e)
  case qp => exact ⟨x, dx, _, _, rfl, made_fresh (by assumption) HE', sdx, l2, by with_unfolding_all rfl, by with_unfolding_all rfl⟩
theorem mk_decimal5 (w : World) (t u : Tok) : PureN w 143 4 32 [.int 5 t, .int 1 u] (fun _ => True) (fun h₀ h' r => ∃ x dx es n, r = .ref x ∧ (∀ p ∈ [(x, instObj 143 dx), (dx, dictOf es n)], h'.get? p.1 = some p.2 ∧ h₀.get? p.1 = none) ∧ (@LE.le Nat _ h₀.objs.size dx) ∧ (@LT.lt Nat _ dx x) ∧ getL (Str.ofString "top") es = some (some (.int 5 t)) ∧ getL (Str.ofString "places") es = some (some (.int 1 u))) := by
  k_with_none
  k_with "lt" => first | with_reducible assumption | exact lt_0 (by with_reducible assumption) | exact lt_1 (by with_reducible assumption) | exact lt_2 (by with_reducible assumption) | exact lt_3 (by with_reducible assumption) | exact lt_4 (by with_reducible assumption) | exact lt_5 (by with_reducible assumption) | exact lt_6 (by with_reducible assumption) | exact lt_7 (by with_reducible assumption) | exact lt_0 (dr8 (by with_reducible assumption)) | exact lt_1 (dr8 (by with_reducible assumption)) | exact lt_2 (dr8 (by with_reducible assumption)) | exact lt_3 (dr8 (by with_reducible assumption)) | exact lt_4 (dr8 (by with_reducible assumption)) | exact lt_5 (dr8 (by with_reducible assumption)) | exact lt_6 (dr8 (by with_reducible assumption)) | exact lt_7 (dr8 (by with_reducible assumption)) | exact lt_0 (dr8 (dr8 (by with_reducible assumption))) | exact lt_1 (dr8 (dr8 (by with_reducible assumption))) | exact lt_2 (dr8 (dr8 (by with_reducible assumption))) | exact lt_3 (dr8 (dr8 (by with_reducible assumption))) | exact lt_4 (dr8 (dr8 (by with_reducible assumption))) | exact lt_5 (dr8 (dr8 (by with_reducible assumption))) | exact lt_6 (dr8 (dr8 (by with_reducible assumption))) | exact lt_7 (dr8 (dr8 (by with_reducible assumption))) | exact lt_0 (dr8 (dr8 (dr8 (by with_reducible assumption)))) | exact lt_1 (dr8 (dr8 (dr8 (by with_reducible assumption)))) | exact lt_2 (dr8 (dr8 (dr8 (by with_reducible assumption)))) | exact lt_3 (dr8 (dr8 (dr8 (by with_reducible assumption)))) | exact lt_4 (dr8 (dr8 (dr8 (by with_reducible assumption)))) | exact lt_5 (dr8 (dr8 (dr8 (by with_reducible assumption)))) | exact lt_6 (dr8 (dr8 (dr8 (by with_reducible assumption)))) | exact lt_7 (dr8 (dr8 (dr8 (by with_reducible assumption)))) | exact lt_0 (dr8 (dr8 (dr8 (dr8 (by with_reducible assumption))))) | exact lt_1 (dr8 (dr8 (dr8 (dr8 (by with_reducible assumption))))) | exact lt_2 (dr8 (dr8 (dr8 (dr8 (by with_reducible assumption))))) | exact lt_3 (dr8 (dr8 (dr8 (dr8 (by with_reducible assumption))))) | exact lt_4 (dr8 (dr8 (dr8 (dr8 (by with_reducible assumption))))) | exact lt_5 (dr8 (dr8 (dr8 (dr8 (by with_reducible assumption))))) | exact lt_6 (dr8 (dr8 (dr8 (dr8 (by with_reducible assumption))))) | exact lt_7 (dr8 (dr8 (dr8 (dr8 (by with_reducible assumption)))))
  k_with "nd" => first | exact nd_0 (by with_reducible assumption) | exact nd_1 (by with_reducible assumption) | exact nd_2 (by with_reducible assumption) | exact nd_3 (by with_reducible assumption) | exact nd_4 (by with_reducible assumption) | exact nd_5 (by with_reducible assumption) | exact nd_6 (by with_reducible assumption) | exact nd_7 (by with_reducible assumption) | exact nd_8 (by with_reducible assumption)
  k_with "ne" => (refine neN ?_; (try dsimp only); first | with_reducible assumption | exact Ne.symm (by with_reducible assumption) | (refine ne_z ?_; k_extra "lt") | (refine ne_s ?_; k_extra "lt") | (refine ne_zz (by with_reducible assumption) ?_; k_extra "lt") | (refine ne_ss (by with_reducible assumption) ?_; k_extra "lt") | k_extra "nd" | (dsimp only [AllLt] at *; omega))
  unfold PureN
  k_fill
  intro loose mean mg mb dp un gd cn cs a ccd cl outer A₀ base h₀ L m s Q E B F X T hk hpre hd hu hret
  clear hpre
  refine' call_cls' ?k1 ?k2 ?k4 ?k5 ?k6 ?_
  case k1 => k_asm
  case k2 => k_asm
  case k4 => k_is
  case k5 => k_is
  case k6 => k_is
  k_whole
  intro x dx hx ex fx fdx sdx Fx Nx l2
  (try k_lt2 l2)
  k_dflt (refine' code_defE (led := [(x, instObj 143 dx), (dx, dictOf [] 0)]) ?k1 ?k2 ?k3 ?k4 ?k5 ?kA ?kF ?kK ?k6 ?k7 ?k8 ?k9 ?kB ?_ ?c2 ?c3 ?c4 ?c5; (case kA => exact rfl); (case kF => exact rfl); (case kK => first | assumption | exact rfl); (case k1 => k_asm); (case k2 => k_asm); (case k3 => k_asm); (case k4 => assumption); (case k5 => k_asm); (case k6 => k_is); (case k7 => k_is); (case k8 => ktr_room); (case k9 => first | exact BindsTo.of_eq rfl | exact binds_K (by k_in) rfl (by k_is) rfl rfl rfl); (case c5 => decide); (case kB => exact locs rfl); (case c2 => exact rfl); (case c3 => exact rfl); (case c4 => exact rfl); k_whole; intro g' L' h' HG' F' N' B' X' T'; (try dsimp only); (try k_fold); (first | (refine e_fold ?_; intro A9 e9) | (refine a_fold ?_; intro A9) | skip))
  have HE' := init_ext ex fx fdx HG'
  clear HG' Nx ex fx fdx Fx
  replace F' : Fr g' L' h' (fun y => List.lookup y ([(Str.ofString "places", Value.int 1 u), (Str.ofString "top", Value.int 5 t), (Str.ofString "self", Value.ref x)] : List (Str × Value))) := F'
  k_steps
  refine' hret _ _ _ ?qe ?qp
  case qe => exact fun b o e => Fr.keep (by assumption) b o (HE' b o e)
  case qp => exact ⟨x, dx, _, _, rfl, made_fresh (by assumption) HE', sdx, l2, by with_unfolding_all rfl, by with_unfolding_all rfl⟩
theorem mk_decimal25 (w : World) (t u : Tok) : PureN w 143 4 32 [.int 25 t, .int 2 u] (fun _ => True) (fun h₀ h' r => ∃ x dx es n, r = .ref x ∧ (∀ p ∈ [(x, instObj 143 dx), (dx, dictOf es n)], h'.get? p.1 = some p.2 ∧ h₀.get? p.1 = none) ∧ (@LE.le Nat _ h₀.objs.size dx) ∧ (@LT.lt Nat _ dx x) ∧ getL (Str.ofString "top") es = some (some (.int 25 t)) ∧ getL (Str.ofString "places") es = some (some (.int 2 u))) := by
  k_with_none
  k_with "lt" => first | with_reducible assumption | exact lt_0 (by with_reducible assumption) | exact lt_1 (by with_reducible assumption) | exact lt_2 (by with_reducible assumption) | exact lt_3 (by with_reducible assumption) | exact lt_4 (by with_reducible assumption) | exact lt_5 (by with_reducible assumption) | exact lt_6 (by with_reducible assumption) | exact lt_7 (by with_reducible assumption) | exact lt_0 (dr8 (by with_reducible assumption)) | exact lt_1 (dr8 (by with_reducible assumption)) | exact lt_2 (dr8 (by with_reducible assumption)) | exact lt_3 (dr8 (by with_reducible assumption)) | exact lt_4 (dr8 (by with_reducible assumption)) | exact lt_5 (dr8 (by with_reducible assumption)) | exact lt_6 (dr8 (by with_reducible assumption)) | exact lt_7 (dr8 (by with_reducible assumption)) | exact lt_0 (dr8 (dr8 (by with_reducible assumption))) | exact lt_1 (dr8 (dr8 (by with_reducible assumption))) | exact lt_2 (dr8 (dr8 (by with_reducible assumption))) | exact lt_3 (dr8 (dr8 (by with_reducible assumption))) | exact lt_4 (dr8 (dr8 (by with_reducible assumption))) | exact lt_5 (dr8 (dr8 (by with_reducible assumption))) | exact lt_6 (dr8 (dr8 (by with_reducible assumption))) | exact lt_7 (dr8 (dr8 (by with_reducible assumption))) | exact lt_0 (dr8 (dr8 (dr8 (by with_reducible assumption)))) | exact lt_1 (dr8 (dr8 (dr8 (by with_reducible assumption)))) | exact lt_2 (dr8 (dr8 (dr8 (by with_reducible assumption)))) | exact lt_3 (dr8 (dr8 (dr8 (by with_reducible assumption)))) | exact lt_4 (dr8 (dr8 (dr8 (by with_reducible assumption)))) | exact lt_5 (dr8 (dr8 (dr8 (by with_reducible assumption)))) | exact lt_6 (dr8 (dr8 (dr8 (by with_reducible assumption)))) | exact lt_7 (dr8 (dr8 (dr8 (by with_reducible assumption)))) | exact lt_0 (dr8 (dr8 (dr8 (dr8 (by with_reducible assumption))))) | exact lt_1 (dr8 (dr8 (dr8 (dr8 (by with_reducible assumption))))) | exact lt_2 (dr8 (dr8 (dr8 (dr8 (by with_reducible assumption))))) | exact lt_3 (dr8 (dr8 (dr8 (dr8 (by with_reducible assumption))))) | exact lt_4 (dr8 (dr8 (dr8 (dr8 (by with_reducible assumption))))) | exact lt_5 (dr8 (dr8 (dr8 (dr8 (by with_reducible assumption))))) | exact lt_6 (dr8 (dr8 (dr8 (dr8 (by with_reducible assumption))))) | exact lt_7 (dr8 (dr8 (dr8 (dr8 (by with_reducible assumption)))))
  k_with "nd" => first | exact nd_0 (by with_reducible assumption) | exact nd_1 (by with_reducible assumption) | exact nd_2 (by with_reducible assumption) | exact nd_3 (by with_reducible assumption) | exact nd_4 (by with_reducible assumption) | exact nd_5 (by with_reducible assumption) | exact nd_6 (by with_reducible assumption) | exact nd_7 (by with_reducible assumption) | exact nd_8 (by with_reducible assumption)
  k_with "ne" => (refine neN ?_; (try dsimp only); first | with_reducible assumption | exact Ne.symm (by with_reducible assumption) | (refine ne_z ?_; k_extra "lt") | (refine ne_s ?_; k_extra "lt") | (refine ne_zz (by with_reducible assumption) ?_; k_extra "lt") | (refine ne_ss (by with_reducible assumption) ?_; k_extra "lt") | k_extra "nd" | (dsimp only [AllLt] at *; omega))
  unfold PureN
  k_fill
  intro loose mean mg mb dp un gd cn cs a ccd cl outer A₀ base h₀ L m s Q E B F X T hk hpre hd hu hret
  clear hpre
  refine' call_cls' ?k1 ?k2 ?k4 ?k5 ?k6 ?_
  case k1 => k_asm
  case k2 => k_asm
  case k4 => k_is
  case k5 => k_is
  case k6 => k_is
  k_whole
  intro x dx hx ex fx fdx sdx Fx Nx l2
  (try k_lt2 l2)
  k_dflt (refine' code_defE (led := [(x, instObj 143 dx), (dx, dictOf [] 0)]) ?k1 ?k2 ?k3 ?k4 ?k5 ?kA ?kF ?kK ?k6 ?k7 ?k8 ?k9 ?kB ?_ ?c2 ?c3 ?c4 ?c5; (case kA => exact rfl); (case kF => exact rfl); (case kK => first | assumption | exact rfl); (case k1 => k_asm); (case k2 => k_asm); (case k3 => k_asm); (case k4 => assumption); (case k5 => k_asm); (case k6 => k_is); (case k7 => k_is); (case k8 => ktr_room); (case k9 => first | exact BindsTo.of_eq rfl | exact binds_K (by k_in) rfl (by k_is) rfl rfl rfl); (case c5 => decide); (case kB => exact locs rfl); (case c2 => exact rfl); (case c3 => exact rfl); (case c4 => exact rfl); k_whole; intro g' L' h' HG' F' N' B' X' T'; (try dsimp only); (try k_fold); (first | (refine e_fold ?_; intro A9 e9) | (refine a_fold ?_; intro A9) | skip))
  have HE' := init_ext ex fx fdx HG'
  clear HG' Nx ex fx fdx Fx
  replace F' : Fr g' L' h' (fun y => List.lookup y ([(Str.ofString "places", Value.int 2 u), (Str.ofString "top", Value.int 25 t), (Str.ofString "self", Value.ref x)] : List (Str × Value))) := F'
  k_steps
  refine' hret _ _ _ ?qe ?qp
  case qe => exact fun b o e => Fr.keep (by assumption) b o (HE' b o e)
  case qp => exact ⟨x, dx, _, _, rfl, made_fresh (by assumption) HE', sdx, l2, by with_unfolding_all rfl, by with_unfolding_all rfl⟩
end

section
set_option maxHeartbeats 4000000
open PySem PySem.W PyProof.Rows PySem.Calls PySem.Spec
noncomputable abbrev Gr := Addr → Obj → Prop
noncomputable abbrev inH (h : Heap) : Gr := fun a o => h.get? a = some o
noncomputable abbrev inL (tl : List (Addr × Obj)) : Gr := fun a o => (a, o) ∈ tl
noncomputable abbrev kndW (w : World) := strKind PySem.Challenge.rw_nn0217_01.row.prog w
/-- plain objects of the program, with all that telling them reads -/
inductive PA (G : Gr) : Value → Kd → Prop where
  | null : PA G .none .null
  | truth {b : Bool} : PA G (.bool b) .truth
  | int {i : Int} {t : Tok} : PA G (.int i t) .int
  | real {a dx : Addr} {es : List DictEntry} {n : Nat} {i j : Int} {t u : Tok} : G a (instObj 143 dx) → G dx (dictOf es n) → getL (Str.ofString "top") es = some (some (.int i t)) → getL (Str.ofString "places") es = some (some (.int j u)) → PA G (.ref a) .real
  | name {a dx : Addr} {es : List DictEntry} {n : Nat} {x : Str} {t : Tok} : G a (instObj 171 dx) → G dx (dictOf es n) → getL (Str.ofString "text") es = some (some (.str x t)) → PA G (.ref a) .name
  | string {a dx : Addr} {es : List DictEntry} {n : Nat} {b : Array UInt8} {t : Tok} : G a (instObj 193 dx) → G dx (dictOf es n) → getL (Str.ofString "octets") es = some (some (.bytes b t)) → PA G (.ref a) .string
  | ref {a dx : Addr} {es : List DictEntry} {n : Nat} {i j : Int} {t u : Tok} : G a (instObj 242 dx) → G dx (dictOf es n) → getL (Str.ofString "number") es = some (some (.int i t)) → getL (Str.ofString "generation") es = some (some (.int j u)) → PA G (.ref a) .ref
inductive PsA (G : Gr) : List Value → List Kd → Prop where
  | nil : PsA G [] []
  | cons {v : Value} {k : Kd} {vs : List Value} {ks : List Kd} : PA G v k → PsA G vs ks → PsA G (v :: vs) (k :: ks)
/-- the law's objects -/
inductive TA (w : World) (G : Gr) : Value → Ob → Prop where
  | plain {v : Value} {k : Kd} : PA G v k → TA w G v ⟨k, []⟩
  | array {l : Addr} {vs : List Value} {n : Nat} {ks : List Kd} : G l (listOf vs.toArray n) → PsA G vs ks → vs.length ≤ 10 → TA w G (.ref l) ⟨.array, ks⟩
  | dict0 {d : Addr} {o : Obj} : G d o → o.IsDictOf (kndW w) [] → (d == sysModules) = false → TA w G (.ref d) ⟨.dict, []⟩
  | dict1 {d : Addr} {o : Obj} {i : Int} {t : Tok} : G d o → o.IsDictOf (kndW w) [(Str.ofString "K", .int i t)] → (d == sysModules) = false → TA w G (.ref d) ⟨.dict, []⟩
  | stream {a dx d : Addr} {es : List DictEntry} {n : Nat} {o : Obj} {b : Array UInt8} {t : Tok} : G a (instObj 214 dx) → G dx (dictOf es n) → getL (Str.ofString "head") es = some (some (.ref d)) → getL (Str.ofString "octets") es = some (some (.bytes b t)) →
      G d o → o.IsDictOf (kndW w) [] → (d == sysModules) = false → TA w G (.ref a) ⟨.stream, []⟩
inductive TsA (w : World) (G : Gr) : List Value → List Ob → Prop where
  | nil : TsA w G [] []
  | cons {v : Value} {ob : Ob} {vs : List Value} {obs : List Ob} : TA w G v ob → TsA w G vs obs → TsA w G (v :: vs) (ob :: obs)
noncomputable def OpA (w : World) (G : Gr) (a : Addr) (word : Str) (obs : List Ob) : Prop :=
  ∃ dx es n t l vs k, G a (instObj 294 dx) ∧ G dx (dictOf es n) ∧ getL (Str.ofString "word") es = some (some (.str word t)) ∧ getL (Str.ofString "operands") es = some (some (.ref l)) ∧ G l (listOf (List.toArray vs) k) ∧ TsA w G vs obs ∧ vs.length ≤ 100
section
variable {w : World} {G G' : Gr} {v : Value} {k : Kd} {vs : List Value} {ks : List Kd} {ob : Ob} {obs : List Ob} {a : Addr} {word : Str}
theorem PA.mono (x : PA G v k) (h : ∀ a o, G a o → G' a o) : PA G' v k := by
  cases x with
  | null => exact .null
  | truth => exact .truth
  | int => exact .int
  | real a b c d => exact .real (h _ _ a) (h _ _ b) c d
  | name a b c => exact .name (h _ _ a) (h _ _ b) c
  | string a b c => exact .string (h _ _ a) (h _ _ b) c
  | ref a b c d => exact .ref (h _ _ a) (h _ _ b) c d
theorem PsA.mono (x : PsA G vs ks) (h : ∀ a o, G a o → G' a o) : PsA G' vs ks := by
  induction x with
  | nil => exact .nil
  | cons a _ ih => exact .cons (a.mono h) ih
theorem TA.mono (x : TA w G v ob) (h : ∀ a o, G a o → G' a o) : TA w G' v ob := by
  cases x with
  | plain a => exact .plain (a.mono h)
  | array a b c => exact .array (h _ _ a) (b.mono h) c
  | dict0 a b c => exact .dict0 (h _ _ a) b c
  | dict1 a b c => exact .dict1 (h _ _ a) b c
  | stream a b c d e f i => exact .stream (h _ _ a) (h _ _ b) c d (h _ _ e) f i
theorem TsA.mono (x : TsA w G vs obs) (h : ∀ a o, G a o → G' a o) : TsA w G' vs obs := by
  induction x with
  | nil => exact .nil
  | cons a _ ih => exact .cons (a.mono h) ih
theorem OpA.mono (x : OpA w G a word obs) (h : ∀ a o, G a o → G' a o) : OpA w G' a word obs := by
  obtain ⟨dx, es, n, t, l, vs, k, h1, h2, h3, h4, h5, h6, h7⟩ := x
  exact ⟨dx, es, n, t, l, vs, k, h _ _ h1, h _ _ h2, h3, h4, h _ _ h5, h6.mono h, h7⟩
theorem PsA.length (x : PsA G vs ks) : vs.length = ks.length := by
  induction x with
  | nil => rfl
  | cons _ _ ih => simp [ih]
theorem TsA.length (x : TsA w G vs obs) : vs.length = obs.length := by
  induction x with
  | nil => rfl
  | cons _ _ ih => simp [ih]
theorem TsA.at (x : TsA w G vs obs) : ∀ {i : Nat} {v : Value}, vs[i]? = some v → ∃ ob, obs[i]? = some ob ∧ TA w G v ob := by
  induction x with
  | nil => intro i v e; simp at e
  | cons a _ ih =>
    intro i v e
    cases i with
    | zero => simp at e; subst e; exact ⟨_, rfl, a⟩
    | succ i => simpa using ih (by simpa using e)
theorem PsA.at (x : PsA G vs ks) : ∀ {i : Nat} {v : Value}, vs[i]? = some v → ∃ k, ks[i]? = some k ∧ PA G v k := by
  induction x with
  | nil => intro i v e; simp at e
  | cons a _ ih =>
    intro i v e
    cases i with
    | zero => simp at e; subst e; exact ⟨_, rfl, a⟩
    | succ i => simpa using ih (by simpa using e)
end
section
variable {w : World} {h : Heap} {v : Value} {k : Kd} {vs : List Value} {ks : List Kd} {ob : Ob} {obs : List Ob} {a : Addr} {word : Str}
theorem PA.kat (x : PA (inH h) v k) : KAt h v k := by
  cases x with
  | null => exact .null
  | truth => exact .truth
  | int => exact .int
  | real a b _ _ => exact .inst rfl a b
  | name a b _ => exact .inst rfl a b
  | string a b _ => exact .inst rfl a b
  | ref a b _ _ => exact .inst rfl a b
theorem PA.narr {G : Gr} (x : PA G v k) : k ≠ .array ∧ k ≠ .dict ∧ k ≠ .stream := by cases x <;> exact ⟨by decide, by decide, by decide⟩
theorem PsA.ksat (x : PsA (inH h) vs ks) : KsAt h vs ks := by
  induction x with
  | nil => exact .nil
  | cons a _ ih => exact .cons a.kat ih
theorem dict_cls {o : Obj} {kvs : List (Str × Value)} (x : o.IsDictOf (kndW w) kvs) : o.cls = .type "dict" := by
  obtain ⟨es, ep, hx, _⟩ := x
  exact hx.1
theorem TA.oat (x : TA w (inH h) v ob) : OAt h v ob := by
  cases x with
  | plain a => exact ⟨a.kat, fun e => absurd e a.narr.1⟩
  | array a b c => exact ⟨.array a rfl, fun _ => ⟨_, _, rfl, ⟨_, a, rfl, _, rfl⟩, b.ksat, by omega⟩⟩
  | dict0 a b c => exact ⟨.dict a (dict_cls b), fun e => nomatch e⟩
  | dict1 a b c => exact ⟨.dict a (dict_cls b), fun e => nomatch e⟩
  | stream a b c d e f i => exact ⟨.inst rfl a b, fun e => nomatch e⟩
theorem TsA.osat (x : TsA w (inH h) vs obs) : OsAt h vs obs := by
  induction x with
  | nil => exact .nil
  | cons a _ ih => exact .cons a.oat ih
theorem OpA.opat (x : OpA w (inH h) a word obs) : OpAt h a word obs := by
  obtain ⟨dx, es, n, t, l, vs, k, h1, h2, h3, h4, h5, h6, h7⟩ := x
  exact ⟨dx, es, n, t, l, vs, h1, h2, h3, h4, ⟨_, h5, rfl, _, rfl⟩, h6.osat, by omega⟩
end
/-- what a call has made: a list of objects, new -/
noncomputable def Fresh (h h' : Heap) (tl : List (Addr × Obj)) : Prop := ∀ p ∈ tl, h'.get? p.1 = some p.2 ∧ h.get? p.1 = none
section
variable {g h h' : Heap} {L p : Addr} {m : Str → Option Value} {op : Obj} {led tl : List (Addr × Obj)}
theorem mk_fold {a b : Addr × Obj} (F : Fr g L h m) (N : News g L h led) (e : Ext h h') (hf : ∀ q ∈ [a, b], h'.get? q.1 = some q.2 ∧ h.get? q.1 = none) (hs : @LE.le Nat _ h.objs.size b.1) : Fr g L h' m ∧ News g L h' (a :: b :: led) ∧ (∀ q ∈ led, q.1 < b.1) :=
  ⟨fr_ext F e, news_fresh F (news_ext N e) hf, fun q hq => Nat.lt_of_lt_of_le (Heap.lt_size (N q hq).1) hs⟩
/-- what a class's call made goes into the ledger; one copy of the goal -/
theorem mk_k1 {C : Addr} {k : Str} {u : Value} {G : Value → Heap → Nat → Prop} (F : Fr g L h m) (N : News g L h led)
    (c : ∀ x dx es n h' tk', Fr g L h' m → News g L h' ((x, instObj C dx) :: (dx, dictOf es n) :: led) → AllLt dx led → @LT.lt Nat _ dx x → getL k es = some (some u) → G (.ref x) h' tk') :
    ∀ v h' tk', Ext h h' → (∃ x dx es n, v = .ref x ∧ (∀ p ∈ [(x, instObj C dx), (dx, dictOf es n)], h'.get? p.1 = some p.2 ∧ h.get? p.1 = none) ∧ (@LE.le Nat _ h.objs.size dx) ∧ (@LT.lt Nat _ dx x) ∧ getL k es = some (some u)) → G v h' tk' := by
  rintro v h' tk' e ⟨x, dx, es, n, rfl, hf, hs, l2, h1⟩
  have z := mk_fold F N e hf hs
  exact c x dx es n h' tk' z.1 z.2.1 (allLt_of z.2.2) l2 h1
theorem mk_k2 {C : Addr} {k k2 : Str} {u u2 : Value} {G : Value → Heap → Nat → Prop} (F : Fr g L h m) (N : News g L h led)
    (c : ∀ x dx es n h' tk', Fr g L h' m → News g L h' ((x, instObj C dx) :: (dx, dictOf es n) :: led) → AllLt dx led → @LT.lt Nat _ dx x → getL k es = some (some u) → getL k2 es = some (some u2) → G (.ref x) h' tk') :
    ∀ v h' tk', Ext h h' → (∃ x dx es n, v = .ref x ∧ (∀ p ∈ [(x, instObj C dx), (dx, dictOf es n)], h'.get? p.1 = some p.2 ∧ h.get? p.1 = none) ∧ (@LE.le Nat _ h.objs.size dx) ∧ (@LT.lt Nat _ dx x) ∧ getL k es = some (some u) ∧ getL k2 es = some (some u2)) → G v h' tk' := by
  rintro v h' tk' e ⟨x, dx, es, n, rfl, hf, hs, l2, h1, h2⟩
  have z := mk_fold F N e hf hs
  exact c x dx es n h' tk' z.1 z.2.1 (allLt_of z.2.2) l2 h1 h2
end
theorem fresh_pen {s g h' : Heap} {L p : Addr} {led tl : List (Addr × Obj)} (N : News g L h' led) (e : ∀ b o, @Ne Nat b p → s.get? b = some o → g.get? b = some o) (hs : ∀ q ∈ tl, q ∈ led) (hn : ∀ q ∈ tl, @Ne Nat q.1 p) : Fresh s h' tl := fun q hq => ⟨(N q (hs q hq)).1, by
  cases r : s.get? q.1 with
  | none => rfl
  | some o =>
    have z := (N q (hs q hq)).2.2
    rw [e _ _ (hn q hq) r] at z; cases z⟩
theorem news_list {g h : Heap} {L l : Addr} {led : List (Addr × Obj)} {vs : List Value} {n : Nat} (N : News g L h led) (hm : (l, listOf vs.toArray n) ∈ led) : h.IsList l vs.toArray := ⟨_, (N _ hm).1, rfl, _, rfl⟩
noncomputable abbrev offP (p : Addr) (led : List (Addr × Obj)) : List (Addr × Obj) := led.filter fun q => decide (@Ne Nat q.1 p)
theorem inF {p a : Addr} {o : Obj} {led : List (Addr × Obj)} (hm : (a, o) ∈ led) (hn : @Ne Nat a p) : inL (offP p led) a o := List.mem_filter.mpr ⟨hm, decide_eq_true hn⟩
theorem any_fin {w : World} {s g h' : Heap} {L p : Addr} {led : List (Addr × Obj)} {vs : List Value} {obs : List Ob} {i : Nat} {v : Value} (N : News g L h' led) (e : ∀ b o, @Ne Nat b p → s.get? b = some o → g.get? b = some o) (T : TsA w (inL (offP p led)) vs obs) (hi : vs[i]? = some v) : ∃ ob tl, TA w (inL tl) v ob ∧ Fresh s h' tl := by
  obtain ⟨ob, _, ht⟩ := T.at hi
  refine ⟨ob, _, ht, fresh_pen N e (fun q hq => (List.mem_filter.mp hq).1) fun q hq => of_decide_eq_true (List.mem_filter.mp hq).2⟩
end

section
set_option maxHeartbeats 40000000
open PySem PySem.W PyProof.Rows PySem.Calls PySem.Spec







theorem pickN {g h : Heap} {L l0 : Addr} {vs0 : List Value} {n : Nat} {led : List (Addr × Obj)} (_N : News g L h ((l0, listOf (List.toArray vs0) n) :: led)) (w : World) (p : Addr) : PenC w 369 6 48 p [.ref p, .ref l0] (fun h => h.IsList l0 vs0.toArray ∧ @Ne Nat l0 p ∧ 0 < vs0.length ∧ vs0.length < 1000) (fun _ _ r => ∃ i : Nat, vs0[i]? = some r) := pick_c w p l0 vs0
theorem any_c (w : World) (p : Addr) : PenC w 381 10 96 p [.ref p] (fun h => True) (fun h h' r => ∃ ob tl, TA w (inL tl) r ob ∧ Fresh h h' tl) := by
  k_with_none
  k_with "lt" => first | with_reducible assumption | exact lt_0 (by with_reducible assumption) | exact lt_1 (by with_reducible assumption) | exact lt_2 (by with_reducible assumption) | exact lt_3 (by with_reducible assumption) | exact lt_4 (by with_reducible assumption) | exact lt_5 (by with_reducible assumption) | exact lt_6 (by with_reducible assumption) | exact lt_7 (by with_reducible assumption) | exact lt_0 (dr8 (by with_reducible assumption)) | exact lt_1 (dr8 (by with_reducible assumption)) | exact lt_2 (dr8 (by with_reducible assumption)) | exact lt_3 (dr8 (by with_reducible assumption)) | exact lt_4 (dr8 (by with_reducible assumption)) | exact lt_5 (dr8 (by with_reducible assumption)) | exact lt_6 (dr8 (by with_reducible assumption)) | exact lt_7 (dr8 (by with_reducible assumption)) | exact lt_0 (dr8 (dr8 (by with_reducible assumption))) | exact lt_1 (dr8 (dr8 (by with_reducible assumption))) | exact lt_2 (dr8 (dr8 (by with_reducible assumption))) | exact lt_3 (dr8 (dr8 (by with_reducible assumption))) | exact lt_4 (dr8 (dr8 (by with_reducible assumption))) | exact lt_5 (dr8 (dr8 (by with_reducible assumption))) | exact lt_6 (dr8 (dr8 (by with_reducible assumption))) | exact lt_7 (dr8 (dr8 (by with_reducible assumption))) | exact lt_0 (dr8 (dr8 (dr8 (by with_reducible assumption)))) | exact lt_1 (dr8 (dr8 (dr8 (by with_reducible assumption)))) | exact lt_2 (dr8 (dr8 (dr8 (by with_reducible assumption)))) | exact lt_3 (dr8 (dr8 (dr8 (by with_reducible assumption)))) | exact lt_4 (dr8 (dr8 (dr8 (by with_reducible assumption)))) | exact lt_5 (dr8 (dr8 (dr8 (by with_reducible assumption)))) | exact lt_6 (dr8 (dr8 (dr8 (by with_reducible assumption)))) | exact lt_7 (dr8 (dr8 (dr8 (by with_reducible assumption)))) | exact lt_0 (dr8 (dr8 (dr8 (dr8 (by with_reducible assumption))))) | exact lt_1 (dr8 (dr8 (dr8 (dr8 (by with_reducible assumption))))) | exact lt_2 (dr8 (dr8 (dr8 (dr8 (by with_reducible assumption))))) | exact lt_3 (dr8 (dr8 (dr8 (dr8 (by with_reducible assumption))))) | exact lt_4 (dr8 (dr8 (dr8 (dr8 (by with_reducible assumption))))) | exact lt_5 (dr8 (dr8 (dr8 (dr8 (by with_reducible assumption))))) | exact lt_6 (dr8 (dr8 (dr8 (dr8 (by with_reducible assumption))))) | exact lt_7 (dr8 (dr8 (dr8 (dr8 (by with_reducible assumption)))))
  k_with "nd" => first | exact nd_0 (by with_reducible assumption) | exact nd_1 (by with_reducible assumption) | exact nd_2 (by with_reducible assumption) | exact nd_3 (by with_reducible assumption) | exact nd_4 (by with_reducible assumption) | exact nd_5 (by with_reducible assumption) | exact nd_6 (by with_reducible assumption) | exact nd_7 (by with_reducible assumption) | exact nd_8 (by with_reducible assumption)
  k_with "ne" => (refine neN ?_; (try dsimp only); first | with_reducible assumption | exact Ne.symm (by with_reducible assumption) | (refine ne_z ?_; k_extra "lt") | (refine ne_s ?_; k_extra "lt") | (refine ne_zz (by with_reducible assumption) ?_; k_extra "lt") | (refine ne_ss (by with_reducible assumption) ?_; k_extra "lt") | k_extra "nd" | (dsimp only [AllLt] at *; omega))
  k_with "call ref" => (k_here; (with_reducible show wpAny _ _ (call (Value.ref 171) [_]) _ _ _); k_dflt (refine' mk_name _ _ ?zzB ?zzF ?zzX ?zzT ?zzhk trivial ?zzdd ?zzuu ?_; (case zzB => k_asm); (case zzF => k_asm); (case zzX => k_asm); (case zzT => k_asm); (case zzhk => first | exact rfl | assumption); (case zzdd => ktr_room); (case zzuu => ktr_units)); (refine mk_k1 (by k_asm) (by k_asm) ?_); intro x' d' es' n' h' tk' F' N' l1' l2' hf0'; (try dsimp only at N'); (k_lt2 l2'))
  k_with "call ref" => (k_here; (with_reducible show wpAny _ _ (call (Value.ref 193) [_]) _ _ _); k_dflt (refine' mk_string _ _ ?zzB ?zzF ?zzX ?zzT ?zzhk trivial ?zzdd ?zzuu ?_; (case zzB => k_asm); (case zzF => k_asm); (case zzX => k_asm); (case zzT => k_asm); (case zzhk => first | exact rfl | assumption); (case zzdd => ktr_room); (case zzuu => ktr_units)); (refine mk_k1 (by k_asm) (by k_asm) ?_); intro x' d' es' n' h' tk' F' N' l1' l2' hf0'; (try dsimp only at N'); (k_lt2 l2'))
  k_with "call ref" => (k_here; (with_reducible show wpAny _ _ (call (Value.ref 214) [_, _]) _ _ _); k_dflt (refine' mk_stream _ _ _ ?zzB ?zzF ?zzX ?zzT ?zzhk trivial ?zzdd ?zzuu ?_; (case zzB => k_asm); (case zzF => k_asm); (case zzX => k_asm); (case zzT => k_asm); (case zzhk => first | exact rfl | assumption); (case zzdd => ktr_room); (case zzuu => ktr_units)); (refine mk_k2 (by k_asm) (by k_asm) ?_); intro x' d' es' n' h' tk' F' N' l1' l2' hf0' hf1'; (try dsimp only at N'); (k_lt2 l2'))
  k_with "call ref" => (k_here; (with_reducible show wpAny _ _ (call (Value.ref 242) [_, _]) _ _ _); k_dflt (refine' mk_reference _ _ _ ?zzB ?zzF ?zzX ?zzT ?zzhk trivial ?zzdd ?zzuu ?_; (case zzB => k_asm); (case zzF => k_asm); (case zzX => k_asm); (case zzT => k_asm); (case zzhk => first | exact rfl | assumption); (case zzdd => ktr_room); (case zzuu => ktr_units)); (refine mk_k2 (by k_asm) (by k_asm) ?_); intro x' d' es' n' h' tk' F' N' l1' l2' hf0' hf1'; (try dsimp only at N'); (k_lt2 l2'))
  k_with "call ref" => (k_here; (with_reducible show wpAny _ _ (call (Value.ref 143) [Value.int 5 _, Value.int 1 _]) _ _ _); k_dflt (refine' mk_decimal5 _ _ _ ?zzB ?zzF ?zzX ?zzT ?zzhk trivial ?zzdd ?zzuu ?_; (case zzB => k_asm); (case zzF => k_asm); (case zzX => k_asm); (case zzT => k_asm); (case zzhk => first | exact rfl | assumption); (case zzdd => ktr_room); (case zzuu => ktr_units)); (refine mk_k2 (by k_asm) (by k_asm) ?_); intro x' d' es' n' h' tk' F' N' l1' l2' hf0' hf1'; (try dsimp only at N'); (k_lt2 l2'))
  k_with "call ref" => (k_here; (with_reducible show wpAny _ _ (call (Value.ref 143) [Value.int 25 _, Value.int 2 _]) _ _ _); k_dflt (refine' mk_decimal25 _ _ _ ?zzB ?zzF ?zzX ?zzT ?zzhk trivial ?zzdd ?zzuu ?_; (case zzB => k_asm); (case zzF => k_asm); (case zzX => k_asm); (case zzT => k_asm); (case zzhk => first | exact rfl | assumption); (case zzdd => ktr_room); (case zzuu => ktr_units)); (refine mk_k2 (by k_asm) (by k_asm) ?_); intro x' d' es' n' h' tk' F' N' l1' l2' hf0' hf1'; (try dsimp only at N'); (k_lt2 l2'))
  k_with "call ref" => (k_here; (with_reducible show wpAny _ _ (call (Value.ref 369) _) _ _ _); refine Stop.out ?_)
  unfold PenC
  k_fill
  intro loose mean mg mb dp un gd cn cs a ccd cl outer A₀ base h₀ L m s Q E op B F X T hk NP hpen hpre hd hu hret
  obtain ⟨pn, pt, pc, pu, pk, rfl⟩ := hpen
  refine wpAny_call ?_
  k_dflt (refine' code_defE (led := [(p, listOf #[.int pn pt, .int pc pu] pk)]) ?k1 ?k2 ?k3 ?k4 ?k5 ?kA ?kF ?kK ?k6 ?k7 ?k8 ?k9 ?kB ?_ ?c2 ?c3 ?c4 ?c5; (case kA => exact rfl); (case kF => exact rfl); (case kK => first | assumption | exact rfl); (case k1 => k_asm); (case k2 => k_asm); (case k3 => k_asm); (case k4 => assumption); (case k5 => k_asm); (case k6 => k_is); (case k7 => k_is); (case k8 => ktr_room); (case k9 => first | exact BindsTo.of_eq rfl | exact binds_K (by k_in) rfl (by k_is) rfl rfl rfl); (case c5 => decide); (case kB => exact locs rfl); (case c2 => exact rfl); (case c3 => exact rfl); (case c4 => exact rfl); k_whole; intro g' L' h' HG' F' N' B' X' T'; (try dsimp only); (try k_fold); (first | (refine e_fold ?_; intro A9 e9) | (refine a_fold ?_; intro A9) | skip))
  generalize s.toks + _ = tk0
  have HE' : ∀ b o, @Ne Nat b p → s.heap.get? b = some o → g'.get? b = some o := fun b o n e => HG' b o e (fun hm => n (List.mem_singleton.mp hm))
  clear HG' NP
  replace F' : Fr g' L' h' (fun y => List.lookup y ([(Str.ofString "pen", Value.ref p)] : List (Str × Value))) := F'
  clear hpre
  k_steps
  unfold Stop
  k_dflt (refine' (pickN (g := g') (L := L') (by assumption) w p) ?B ?F ?X ?T ?hk ?N1 ?pn ?pre ?dd ?uu ?_)
  case B => k_asm
  case F => k_asm
  case X => k_asm
  case T => k_asm
  case hk => exact rfl
  case N1 => exact news_mem (by k_asm) (by k_mem)
  case pn => exact penO
  case pre => exact ⟨news_list (by k_asm) (by k_mem), by k_ne, Nat.le_of_ble_eq_true rfl, Nat.le_of_ble_eq_true rfl⟩
  case dd => ktr_room
  case uu => ktr_units
  intro v9 h9 tk9 op9 hk9 hg9 hpn9 hp9
  have F9 := fr_pen (by k_asm) (by k_asm) (by k_mem) hk9
  have N9 := news_pen (by k_asm) (by k_updF) hk9 hg9
  try dsimp only at N9
  obtain ⟨i9, hi9⟩ := hp9
  k_steps
  refine' hret _ _ _ _ ?qk ?qg ?qo ?qp
  case qk => exact fun b o n e => Fr.keep (by assumption) b o (HE' b o n e)
  case qg => exact hg9
  case qo => assumption
  case qp =>
    exact any_fin N9 HE' (.cons (.plain .int) (.cons (.plain .int) (.cons (.plain (.real (inF (by k_mem) (by k_ne)) (inF (by k_mem) (by k_ne)) (by assumption) (by assumption))) (.cons (.plain (.name (inF (by k_mem) (by k_ne)) (inF (by k_mem) (by k_ne)) (by assumption))) (.cons (.plain (.string (inF (by k_mem) (by k_ne)) (inF (by k_mem) (by k_ne)) (by assumption))) (.cons (.array (inF (by k_mem) (by k_ne)) .nil (Nat.zero_le _)) (.cons (.array (inF (by k_mem) (by k_ne)) (.cons .int (.cons (.string (inF (by k_mem) (by k_ne)) (inF (by k_mem) (by k_ne)) (by assumption)) .nil)) (Nat.le_of_ble_eq_true rfl)) (.cons (.array (inF (by k_mem) (by k_ne)) (.cons (.name (inF (by k_mem) (by k_ne)) (inF (by k_mem) (by k_ne)) (by assumption)) .nil) (Nat.le_of_ble_eq_true rfl)) (.cons (.dict0 (inF (by k_mem) (by k_ne)) (by assumption) (by assumption)) (.cons (.dict1 (inF (by k_mem) (by k_ne)) (by assumption) (by assumption)) (.cons (.plain .truth) (.cons (.plain .null) (.cons (.stream (inF (by k_mem) (by k_ne)) (inF (by k_mem) (by k_ne)) (by assumption) (by assumption) (inF (by k_mem) (by k_ne)) (by assumption) (by assumption)) (.cons (.plain (.ref (inF (by k_mem) (by k_ne)) (inF (by k_mem) (by k_ne)) (by assumption) (by assumption))) (.nil))))))))))))))) hi9
end

section
set_option maxHeartbeats 4000000
open PySem PySem.W PyProof.Rows PySem.Calls PySem.Spec
theorem pick_from (vs : List Value) {k : Int} (h : 0 ≤ k) : kms_pick vs.toArray.toList (some k) none = vs.drop k.toNat := by
  show (vs.drop (kms_lo (some k) vs.length)).take (kms_hi none vs.length - kms_lo (some k) vs.length) = _
  have e1 : kms_lo (some k) vs.length = min k.toNat vs.length := by
    unfold kms_lo
    simp only [if_neg (show ¬ k < 0 by omega)]
  have e2 : kms_hi none vs.length = vs.length := rfl
  rw [e1, e2]
  by_cases hk : k.toNat ≤ vs.length
  · rw [Nat.min_eq_left hk]
    exact List.take_of_length_le (by rw [List.length_drop]; omega)
  · rw [Nat.min_eq_right (by omega), List.drop_eq_nil_of_le (Nat.le_refl _), List.drop_eq_nil_of_le (by omega)]
    simp
theorem pick_to (vs : List Value) {k : Int} (h : 0 ≤ k) : kms_pick vs.toArray.toList none (some k) = vs.take k.toNat := by
  show (vs.drop 0).take (kms_hi (some k) vs.length - 0) = _
  have e1 : kms_hi (some k) vs.length = min k.toNat vs.length := by
    unfold kms_hi
    simp only [if_neg (show ¬ k < 0 by omega)]
  rw [e1, List.drop_zero, Nat.sub_zero]
  by_cases hk : k.toNat ≤ vs.length
  · rw [Nat.min_eq_left hk]
  · rw [Nat.min_eq_right (by omega), List.take_of_length_le (Nat.le_refl _), List.take_of_length_le (by omega)]
theorem cat_eq (vs ws : List Value) : vs.toArray.toList ++ ws.toArray.toList = vs ++ ws := rfl
theorem TsA.snoc {w : World} {G : Gr} {vs : List Value} {obs : List Ob} (x : TsA w G vs obs) {v : Value} {ob : Ob} (y : TA w G v ob) : TsA w G (vs ++ [v]) (obs ++ [ob]) := by
  induction x with
  | nil => exact .cons y .nil
  | cons a _ ih => exact .cons a ih
theorem TsA.append {w : World} {G : Gr} {vs us : List Value} {obs ocs : List Ob} (x : TsA w G vs obs) (y : TsA w G us ocs) : TsA w G (vs ++ us) (obs ++ ocs) := by
  induction x with
  | nil => exact y
  | cons a _ ih => exact .cons a ih
theorem TsA.drop {w : World} {G : Gr} {vs : List Value} {obs : List Ob} (x : TsA w G vs obs) : ∀ (n : Nat), TsA w G (vs.drop n) (obs.drop n) := by
  induction x with
  | nil => intro n; simpa using TsA.nil
  | cons a b ih =>
    intro n
    cases n with
    | zero => exact .cons a b
    | succ n => exact ih n
theorem TsA.take {w : World} {G : Gr} {vs : List Value} {obs : List Ob} (x : TsA w G vs obs) : ∀ (n : Nat), TsA w G (vs.take n) (obs.take n) := by
  induction x with
  | nil => intro n; simpa using TsA.nil
  | cons a b ih =>
    intro n
    cases n with
    | zero => exact .nil
    | succ n => exact .cons a (ih n)
theorem pick_ta {w : World} {G : Gr} {vs : List Value} {obs : List Ob} {i : Nat} {v : Value} (T : TsA w G vs obs) (hi : vs[i]? = some v) : ∃ ob, TA w G v ob := by
  obtain ⟨ob, _, h⟩ := T.at hi
  exact ⟨ob, h⟩
end

section
set_option maxHeartbeats 40000000
open PySem PySem.W PyProof.Rows PySem.Calls PySem.Spec








theorem pen_range {d : Int} (h : 0 ≤ d) (h' : d < 1000) : Builtin.Range.small 0 (1 + d) 1 = true ∧ Builtin.Range.rangeSize 0 (1 + d) 1 = (((1 + d).toNat : Nat) : Int) := by
  have h0 : (0 : Int) ≤ 1 + d := Int.add_nonneg (by decide) h
  exact ⟨range_sm h0 (by omega), by rw [range_len h0, Int.toNat_of_nonneg h0]⟩
noncomputable def GoodJ (w : World) (c : Addr) (oc : Obj) (p : Addr) (i : Nat) (ys : List Value) (nw : List (Addr × Obj)) : Prop :=
  ∃ op tl obs, nw = (c, oc) :: (p, op) :: tl ∧ PenO op ∧ (∀ q ∈ tl, @Ne Nat q.1 p) ∧ TsA w (inL tl) ys obs ∧ ys.length ≤ i
theorem good_end {w : World} {h₀ h' : Heap} {L I C D c p l x d : Addr} {oI oC oD oc op op' ol ox od : Obj} {m : Str → Option Value} {s : Shared} {tl : List (Addr × Obj)} {ys : List Value} {obs : List Ob} {ob : Ob} {y : Value} {i tk' : Nat}
    (F : Fr h₀ L h' m) (N : News h₀ L h' ((l, ol) :: (x, ox) :: (d, od) :: (I, oI) :: (C, oC) :: (D, oD) :: (c, oc) :: (p, op) :: tl)) (hpo : PenO op) (hoff : ∀ q ∈ tl, @Ne Nat q.1 p) (hT : TsA w (inL tl) ys obs) (hlen : ys.length ≤ i) (hy : TA w (inL [(x, ox), (d, od)]) y ob)
    (off : LCg.Off3 I C D ((c, oc) :: (p, op') :: tl)) (a1 : @Ne Nat x I) (a2 : @Ne Nat x C) (a3 : @Ne Nat x D) (a4 : @Ne Nat x p) (b1 : @Ne Nat d I) (b2 : @Ne Nat d C) (b3 : @Ne Nat d D) (b4 : @Ne Nat d p) :
    LCg.CompEnd h₀ L m s I oI C oC D oD (fun _ => True) (fun y nw' => GoodJ w c oc p (i + 1) (ys ++ [y]) nw') y { s with heap := h', toks := tk' } := by
  refine LCg.CompEnd.intro F N ((c, oc) :: (p, op) :: (x, ox) :: (d, od) :: tl) (fun q hq => ?_) ⟨off.1, off.2.1, ⟨a1, a2, a3⟩, ⟨b1, b2, b3⟩, off.2.2⟩ trivial ⟨op, (x, ox) :: (d, od) :: tl, obs ++ [ob], rfl, hpo, fun q hq => ?_, ?_, by simp; omega⟩
  · simp only [List.mem_cons] at hq ⊢
    rcases hq with h | h | h | h | h | h | h | h <;> simp [h]
  · rcases List.mem_cons.mp hq with rfl | hq
    · exact a4
    rcases List.mem_cons.mp hq with rfl | hq
    · exact b4
    · exact hoff q hq
  · refine (hT.mono fun a o h => List.mem_cons_of_mem _ (List.mem_cons_of_mem _ h)).snoc (hy.mono fun a o h => ?_)
    have h' : (a, o) ∈ [(x, ox), (d, od)] := h
    simp only [List.mem_cons, List.not_mem_nil, or_false] at h'
    rcases h' with h | h
    · exact h ▸ List.mem_cons_self ..
    · exact h ▸ List.mem_cons_of_mem _ (List.mem_cons_self ..)
theorem sub_off {p : Addr} {tl led : List (Addr × Obj)} (hs : ∀ q ∈ tl, q ∈ led) (hoff : ∀ q ∈ tl, @Ne Nat q.1 p) : ∀ a o, inL tl a o → inL (offP p led) a o := fun a o h => inF (hs (a, o) h) (hoff (a, o) h)
theorem good_fin {w : World} {s g h' : Heap} {L p l : Addr} {led : List (Addr × Obj)} {vs : List Value} {obs : List Ob} {k : Nat} (N : News g L h' led) (hm : (l, listOf vs.toArray k) ∈ led) (e : ∀ b o, @Ne Nat b p → s.get? b = some o → g.get? b = some o) (hl : @Ne Nat l p) (T : TsA w (inL (offP p led)) vs obs) (hz : vs.length ≤ 4) :
    ∃ l' vs k obs tl, Value.ref l = Value.ref l' ∧ (l', listOf (List.toArray vs) k) ∈ tl ∧ TsA w (inL tl) vs obs ∧ vs.length ≤ 4 ∧ Fresh s h' tl :=
  ⟨l, vs, k, obs, _, rfl, inF hm hl, T, hz, fresh_pen N e (fun q hq => (List.mem_filter.mp hq).1) fun q hq => of_decide_eq_true (List.mem_filter.mp hq).2⟩
theorem off_cons {p a : Addr} {o : Obj} {q : Addr × Obj} {led : List (Addr × Obj)} (h : inL (offP p led) a o) : inL (offP p (q :: led)) a o := inF (List.mem_cons_of_mem _ (List.mem_filter.mp h).1) (of_decide_eq_true (List.mem_filter.mp h).2)
theorem pick_off {w : World} {g h : Heap} {L p : Addr} {led : List (Addr × Obj)} {vs : List Value} {obs : List Ob} {i : Nat} {v : Value} (_N : News g L h led) (T : TsA w (inL (offP p led)) vs obs) (hi : vs[i]? = some v) : ∃ ob, TA w (inL (offP p led)) v ob := pick_ta T hi
noncomputable def goodSigns : List Str := [Str.ofString "n", Str.ofString "N", Str.ofString "s", Str.ofString "a", Str.ofString "D", Str.ofString "P", Str.ofString "t", Str.ofString "+", Str.ofString "*"]
theorem good_dict {w : World} {g h : Heap} {L p : Addr} {led : List (Addr × Obj)} {sign : Str} {t : Tok} {v1 v2 v3 v4 v5 : Value} {o1 o2 o3 o4 o5 : Ob} {o : Obj} (_N : News g L h led) (_hd : o.IsDictOf (kndW w) [(Str.ofString "n", Value.int 4 t), (Str.ofString "N", v1), (Str.ofString "s", v2), (Str.ofString "a", v3), (Str.ofString "D", v4), (Str.ofString "t", v5)]) (hs : sign ∈ goodSigns) (h1 : ([Str.ofString "+", Str.ofString "*"].any fun x => x == sign) = false) (h2 : (sign == Str.ofString "P") = false)
    (T1 : TA w (inL (offP p led)) v1 o1) (T2 : TA w (inL (offP p led)) v2 o2) (T3 : TA w (inL (offP p led)) v3 o3) (T4 : TA w (inL (offP p led)) v4 o4) (T5 : TA w (inL (offP p led)) v5 o5) :
    ∃ v ob, valueAt [(Str.ofString "n", Value.int 4 t), (Str.ofString "N", v1), (Str.ofString "s", v2), (Str.ofString "a", v3), (Str.ofString "D", v4), (Str.ofString "t", v5)] sign = some v ∧ TA w (inL (offP p led)) v ob := by
  unfold goodSigns at hs
  simp only [List.mem_cons, List.not_mem_nil, or_false] at hs
  rcases hs with rfl | rfl | rfl | rfl | rfl | rfl | rfl | rfl | rfl
  · exact ⟨_, _, by with_unfolding_all rfl, .plain .int⟩
  · exact ⟨_, _, by with_unfolding_all rfl, T1⟩
  · exact ⟨_, _, by with_unfolding_all rfl, T2⟩
  · exact ⟨_, _, by with_unfolding_all rfl, T3⟩
  · exact ⟨_, _, by with_unfolding_all rfl, T4⟩
  · exact absurd h2 (by decide +kernel)
  · exact ⟨_, _, by with_unfolding_all rfl, T5⟩
  · exact absurd h1 (by decide +kernel)
  · exact absurd h1 (by decide +kernel)
theorem dict_get {w : World} {A : Around} {E : Value → Shared → Prop} {s : Shared} {h₀ : Heap} {L d : Addr} {news : List (Addr × Obj)} {o : Obj} {kvs : List (Str × Value)} {k : Str} {t : Tok} {v : Value} {Q : Value → Shared → Prop} (N : News h₀ L s.heap news) (hp : (d, o) ∈ news) (hd : o.IsDictOf (kndW w) kvs) (hl : valueAt kvs k = some v) (h : Q v { s with toks := s.toks + 1 }) :
    wpAny (model PySem.Challenge.rw_nn0217_01.row.prog w) A (getItem (.ref d) (.str k t)) Q E s := wpAny_getItem_of (strKind_is _ _ _ _) (kda_dict N hp hd).mapOf hl h
theorem good_c (w : World) (p : Addr) (sign : Str) (tq : Tok) (hsg : sign ∈ goodSigns) : PenC w 386 16 160 p [.ref p, .str sign tq] (fun h => True) (fun h h' r => ∃ l vs k obs tl, r = .ref l ∧ (l, listOf (List.toArray vs) k) ∈ tl ∧ TsA w (inL tl) vs obs ∧ vs.length ≤ 4 ∧ Fresh h h' tl) := by
  k_with_none
  k_with "lt" => first | with_reducible assumption | exact lt_0 (by with_reducible assumption) | exact lt_1 (by with_reducible assumption) | exact lt_2 (by with_reducible assumption) | exact lt_3 (by with_reducible assumption) | exact lt_4 (by with_reducible assumption) | exact lt_5 (by with_reducible assumption) | exact lt_6 (by with_reducible assumption) | exact lt_7 (by with_reducible assumption) | exact lt_0 (dr8 (by with_reducible assumption)) | exact lt_1 (dr8 (by with_reducible assumption)) | exact lt_2 (dr8 (by with_reducible assumption)) | exact lt_3 (dr8 (by with_reducible assumption)) | exact lt_4 (dr8 (by with_reducible assumption)) | exact lt_5 (dr8 (by with_reducible assumption)) | exact lt_6 (dr8 (by with_reducible assumption)) | exact lt_7 (dr8 (by with_reducible assumption)) | exact lt_0 (dr8 (dr8 (by with_reducible assumption))) | exact lt_1 (dr8 (dr8 (by with_reducible assumption))) | exact lt_2 (dr8 (dr8 (by with_reducible assumption))) | exact lt_3 (dr8 (dr8 (by with_reducible assumption))) | exact lt_4 (dr8 (dr8 (by with_reducible assumption))) | exact lt_5 (dr8 (dr8 (by with_reducible assumption))) | exact lt_6 (dr8 (dr8 (by with_reducible assumption))) | exact lt_7 (dr8 (dr8 (by with_reducible assumption))) | exact lt_0 (dr8 (dr8 (dr8 (by with_reducible assumption)))) | exact lt_1 (dr8 (dr8 (dr8 (by with_reducible assumption)))) | exact lt_2 (dr8 (dr8 (dr8 (by with_reducible assumption)))) | exact lt_3 (dr8 (dr8 (dr8 (by with_reducible assumption)))) | exact lt_4 (dr8 (dr8 (dr8 (by with_reducible assumption)))) | exact lt_5 (dr8 (dr8 (dr8 (by with_reducible assumption)))) | exact lt_6 (dr8 (dr8 (dr8 (by with_reducible assumption)))) | exact lt_7 (dr8 (dr8 (dr8 (by with_reducible assumption)))) | exact lt_0 (dr8 (dr8 (dr8 (dr8 (by with_reducible assumption))))) | exact lt_1 (dr8 (dr8 (dr8 (dr8 (by with_reducible assumption))))) | exact lt_2 (dr8 (dr8 (dr8 (dr8 (by with_reducible assumption))))) | exact lt_3 (dr8 (dr8 (dr8 (dr8 (by with_reducible assumption))))) | exact lt_4 (dr8 (dr8 (dr8 (dr8 (by with_reducible assumption))))) | exact lt_5 (dr8 (dr8 (dr8 (dr8 (by with_reducible assumption))))) | exact lt_6 (dr8 (dr8 (dr8 (dr8 (by with_reducible assumption))))) | exact lt_7 (dr8 (dr8 (dr8 (dr8 (by with_reducible assumption)))))
  k_with "nd" => first | exact nd_0 (by with_reducible assumption) | exact nd_1 (by with_reducible assumption) | exact nd_2 (by with_reducible assumption) | exact nd_3 (by with_reducible assumption) | exact nd_4 (by with_reducible assumption) | exact nd_5 (by with_reducible assumption) | exact nd_6 (by with_reducible assumption) | exact nd_7 (by with_reducible assumption) | exact nd_8 (by with_reducible assumption)
  k_with "ne" => (refine neN ?_; (try dsimp only); first | with_reducible assumption | exact Ne.symm (by with_reducible assumption) | (refine ne_z ?_; k_extra "lt") | (refine ne_s ?_; k_extra "lt") | (refine ne_zz (by with_reducible assumption) ?_; k_extra "lt") | (refine ne_ss (by with_reducible assumption) ?_; k_extra "lt") | k_extra "nd" | (dsimp only [AllLt] at *; omega))
  k_with "call ref" => (k_here; (with_reducible show wpAny _ _ (call (Value.ref 171) [_]) _ _ _); k_dflt (refine' mk_name _ _ ?zzB ?zzF ?zzX ?zzT ?zzhk trivial ?zzdd ?zzuu ?_; (case zzB => k_asm); (case zzF => k_asm); (case zzX => k_asm); (case zzT => k_asm); (case zzhk => first | exact rfl | assumption); (case zzdd => ktr_room); (case zzuu => ktr_units)); (refine mk_k1 (by k_asm) (by k_asm) ?_); intro x' d' es' n' h' tk' F' N' l1' l2' hf0'; (try dsimp only at N'); (k_lt2 l2'))
  k_with "call ref" => (k_here; (with_reducible show wpAny _ _ (call (Value.ref 193) [_]) _ _ _); k_dflt (refine' mk_string _ _ ?zzB ?zzF ?zzX ?zzT ?zzhk trivial ?zzdd ?zzuu ?_; (case zzB => k_asm); (case zzF => k_asm); (case zzX => k_asm); (case zzT => k_asm); (case zzhk => first | exact rfl | assumption); (case zzdd => ktr_room); (case zzuu => ktr_units)); (refine mk_k1 (by k_asm) (by k_asm) ?_); intro x' d' es' n' h' tk' F' N' l1' l2' hf0'; (try dsimp only at N'); (k_lt2 l2'))
  k_with "call ref" => (k_here; (with_reducible show wpAny _ _ (call (Value.ref 214) [_, _]) _ _ _); k_dflt (refine' mk_stream _ _ _ ?zzB ?zzF ?zzX ?zzT ?zzhk trivial ?zzdd ?zzuu ?_; (case zzB => k_asm); (case zzF => k_asm); (case zzX => k_asm); (case zzT => k_asm); (case zzhk => first | exact rfl | assumption); (case zzdd => ktr_room); (case zzuu => ktr_units)); (refine mk_k2 (by k_asm) (by k_asm) ?_); intro x' d' es' n' h' tk' F' N' l1' l2' hf0' hf1'; (try dsimp only at N'); (k_lt2 l2'))
  k_with "call ref" => (k_here; (with_reducible show wpAny _ _ (call (Value.ref 242) [_, _]) _ _ _); k_dflt (refine' mk_reference _ _ _ ?zzB ?zzF ?zzX ?zzT ?zzhk trivial ?zzdd ?zzuu ?_; (case zzB => k_asm); (case zzF => k_asm); (case zzX => k_asm); (case zzT => k_asm); (case zzhk => first | exact rfl | assumption); (case zzdd => ktr_room); (case zzuu => ktr_units)); (refine mk_k2 (by k_asm) (by k_asm) ?_); intro x' d' es' n' h' tk' F' N' l1' l2' hf0' hf1'; (try dsimp only at N'); (k_lt2 l2'))
  k_with "call ref" => (k_here; (with_reducible show wpAny _ _ (call (Value.ref 143) [Value.int 5 _, Value.int 1 _]) _ _ _); k_dflt (refine' mk_decimal5 _ _ _ ?zzB ?zzF ?zzX ?zzT ?zzhk trivial ?zzdd ?zzuu ?_; (case zzB => k_asm); (case zzF => k_asm); (case zzX => k_asm); (case zzT => k_asm); (case zzhk => first | exact rfl | assumption); (case zzdd => ktr_room); (case zzuu => ktr_units)); (refine mk_k2 (by k_asm) (by k_asm) ?_); intro x' d' es' n' h' tk' F' N' l1' l2' hf0' hf1'; (try dsimp only at N'); (k_lt2 l2'))
  k_with "call ref" => (k_here; (with_reducible show wpAny _ _ (call (Value.ref 143) [Value.int 25 _, Value.int 2 _]) _ _ _); k_dflt (refine' mk_decimal25 _ _ _ ?zzB ?zzF ?zzX ?zzT ?zzhk trivial ?zzdd ?zzuu ?_; (case zzB => k_asm); (case zzF => k_asm); (case zzX => k_asm); (case zzT => k_asm); (case zzhk => first | exact rfl | assumption); (case zzdd => ktr_room); (case zzuu => ktr_units)); (refine mk_k2 (by k_asm) (by k_asm) ?_); intro x' d' es' n' h' tk' F' N' l1' l2' hf0' hf1'; (try dsimp only at N'); (k_lt2 l2'))
  k_with "subscriptTail Name Slice ref ref" => (k_here; (with_reducible show wpAny _ _ (subscriptTail _ (PySem.Expr.Slice _ _ none _) (Value.ref _) (Value.ref _)) _ _ _); k_dflt (refine' kms_slice_lit ?zzF ?zzN ?zzl ?zzp ?zzq ?zze ?_ ?zzs ?zzt ?zzz; (case zzF => k_asm); (case zzN => k_asm); (case zzl => exact news_list (by k_asm) (by k_mem)); (case zzp => kmk_part); (case zzq => kmk_part); (case zze => first | exact pick_from _ (by omega) | exact pick_to _ (by omega)); (case zzs => with_unfolding_all rfl); (case zzt => kmk_pure); (case zzz => (simp only [List.size_toArray, sizeLine_eq]; omega))); intro D' h' F' N' l1; (try k_lt l1); (try k_sweep))
  k_with "binaryOp Add ref ref" => (k_here; (with_reducible show wpAny _ _ (binaryOp _ (Value.ref _) (Value.ref _)) _ _ _); k_dflt (refine' kmk_add_lit ?zzF ?zzN ?zza ?zzb ?zze ?_ ?zzz; (case zzF => k_asm); (case zzN => k_asm); (case zza => exact news_list (by k_asm) (by k_mem)); (case zzb => exact news_list (by k_asm) (by k_mem)); (case zze => exact cat_eq _ _); (case zzz => (simp only [sizeLine_eq, List.length_append, List.length_cons, List.length_nil, List.length_drop, List.length_take]; omega))); intro D' h' F' N' l1; (try k_lt l1); (try k_sweep))
  k_with "call ref" => (k_here; (with_reducible show wpAny _ _ (call (Value.ref 362) [_, _]) _ _ _); k_dflt (refine' draw_c _ _ _ _ (by omega) (by omega) ?zzB ?zzF ?zzX ?zzT ?zzhk ?zzN1 ?zzpn ?zzpre ?zzdd ?zzuu ?_; (case zzB => k_asm); (case zzF => k_asm); (case zzX => k_asm); (case zzT => k_asm); (case zzhk => first | exact rfl | assumption); (case zzN1 => exact news_mem (by k_asm) (by k_mem)); (case zzpn => first | assumption | exact penO); (case zzpre => exact trivial); (case zzdd => ktr_room); (case zzuu => ktr_units)); intro v' h' tk' op' hk' hg' hpn' p'; (have F' := fr_pen (by k_asm) (by k_asm) (by k_mem) hk'); (have N' := news_pen (by k_asm) (by first | k_updF | (repeat' (first | exact UpdF.head (by assumption) | refine' UpdF.tail ?_ ?_ | k_ne))) hk' hg'); (try dsimp only at p'); (try dsimp only at N'); (try k_sweep); obtain ⟨d9, t9, e9, hd9, hd9'⟩ := p'; subst e9)
  k_with "call ref" => (k_here; (with_reducible show wpAny _ _ (call (Value.ref 369) _) _ _ _); refine Stop.out ?_)
  k_with "CompSrc" => (k_here; refine Stop.out ?_)
  k_with "CompEnd" => (refine Stop.out ?_)
  k_with "KdnMade" => (k_here; k_dflt (refine' kdn_made_str ?zzF ?zzN ?zzU ?zzd ?zzk ?zzn ?_; (case zzF => k_asm); (case zzN => k_asm); (case zzU => k_updF); (case zzd => k_asm); (case zzk => rfl); (case zzn => exact of_decide_eq_true (by first | rfl | kernel_rfl!)); intro h' o' F' N' hd'); (try dsimp only at N'); (simp only [strPairs] at hd'))
  k_with "getItem ref str" => (k_here; (with_reducible show wpAny _ _ (getItem (Value.ref _) (Value.str _ _)) _ _ _); refine Stop.out ?_)
  unfold PenC
  k_fill
  intro loose mean mg mb dp un gd cn cs a ccd cl outer A₀ base h₀ L m s Q E op B F X T hk NP hpen hpre hd hu hret
  obtain ⟨pn, pt, pc, pu, pk, rfl⟩ := hpen
  refine wpAny_call ?_
  k_dflt (refine' code_cellE (led := [(p, listOf #[.int pn pt, .int pc pu] pk)]) ?k1 ?k2 ?k3 ?k4 ?k5 ?kA ?kF ?kK ?k6 ?k7 ?k8 ?k9 ?kB ?kD ?_ ?c2 ?c3 ?c4; (case kA => exact rfl); (case kF => exact rfl); (case kK => first | assumption | exact rfl); (case k1 => k_asm); (case k2 => k_asm); (case k3 => k_asm); (case k4 => assumption); (case k5 => k_asm); (case k6 => k_is); (case k7 => k_is); (case k8 => ktr_room); (case k9 => first | exact BindsTo.of_eq rfl | exact binds_K (by k_in) rfl (by k_is) rfl rfl rfl); (case kB => exact rfl); (case kD => decide +kernel); (case c2 => exact rfl); (case c3 => exact rfl); (case c4 => exact rfl); k_whole; intro g' L' h' tk' cells' HG' F' N' Y' B' X' T' l1; (have hY := CellsAre.one Y'; obtain ⟨oc9, hE', doc9⟩ := hY; subst hE'; clear Y'); (try simp only [List.cons_append, List.nil_append, List.append_nil] at N'); (try dsimp only); (try with_reducible show wpAny _ _ _ _ _ _); (try k_fold); (first | (refine e_fold ?_; intro A9 e9) | (refine a_fold ?_; intro A9) | skip))
  have HE' : ∀ b o, @Ne Nat b p → s.heap.get? b = some o → g'.get? b = some o := fun b o n e => HG' b o e (fun hm => n (List.mem_singleton.mp hm))
  clear HG' NP
  k_lt l1
  replace F' : Fr g' L' h' (fun y => if y = Str.ofString "sign" then some (Value.str sign tq) else none) := by with_unfolding_all exact F'
  clear hpre
  k_steps
  · unfold Stop
    rename IsRange _ _ _ _ _ _ _ _ => R9
    rename Fr _ _ _ _ => F9
    rename News _ _ _ _ => N9
    have N8 : News g' L' _ ((L' + 1, oc9) :: (p, _) :: []) := fun q hq => N9 q (List.mem_cons_of_mem _ hq)
    refine' LCg.CompSrc.range (n := (1 + d9).toNat) rfl F9 N8 R9 ?sm ?rs ?sz ?go
    case sm => exact (pen_range hd9 (by omega)).1
    case rs => exact (pen_range hd9 (by omega)).2
    case sz => rw [sizeLine_eq]; omega
    case go =>
      intro g9
      refine' rest_ind (GoodJ w (L' + 1) oc9 p) ?J0 ?fin ?turn
      case J0 => exact ⟨_, [], [], rfl, by assumption, (fun _ h => nomatch h), .nil, Nat.zero_le _⟩
      case turn =>
        intro i8 ys8 nw8 hi8 hJ8 v8 I9 oI9 C9 oC9 D9 m8 h8 tk8 E8 hv8 hC8 hx8 F8 N7 off8 ne8
        obtain ⟨op8, tl8, obs8, rfl, hpo8, hoff8, hT8, hlen8⟩ := hJ8
        have hp1 : @Ne Nat p I9 := off8.2.1.1
        have hp2 : @Ne Nat p C9 := off8.2.1.2.1
        have hp3 : @Ne Nat p D9 := off8.2.1.2.2
        k_steps
        unfold Stop
        k_dflt (refine' (pickN (g := g') (L := L') (by assumption) w p) ?B ?F ?X ?T ?hk ?N1 ?pn ?pre ?dd ?uu ?_)
        case B => k_asm
        case F => k_asm
        case X => k_asm
        case T => k_asm
        case hk => exact rfl
        case N1 => exact news_mem (by k_asm) (by k_mem)
        case pn => first | assumption | exact penO
        case pre => exact ⟨news_list (by k_asm) (by k_mem), by k_ne, Nat.le_of_ble_eq_true rfl, Nat.le_of_ble_eq_true rfl⟩
        case dd => ktr_room
        case uu => ktr_units
        intro v9 h9 tk9 op9 hk9 hg9 hpn9 hp9
        have F9 := fr_pen (by k_asm) (by k_asm) (by k_mem) hk9
        have N9 := news_pen (by k_asm) (by first | k_updF | (repeat' (first | exact UpdF.head (by assumption) | refine' UpdF.tail ?_ ?_ | k_ne))) hk9 hg9
        try dsimp only at N9
        obtain ⟨i9, hi9⟩ := hp9
        obtain ⟨ob9, hob9⟩ := pick_ta (w := w) (G := inL [(x', _), (d', _)]) (.cons (.plain .int) (.cons (.plain .int) (.cons (.plain (.real (List.mem_cons_self ..) (List.mem_cons_of_mem _ (List.mem_cons_self ..)) (by assumption) (by assumption))) .nil))) hi9
        k_steps
        unfold Stop
        exact good_end F9 N9 hpn9 hoff8 hT8 hlen8 hob9 off8 (by k_ne) (by k_ne) (by k_ne) (by k_ne) (by k_ne) (by k_ne) (by k_ne) (by k_ne)
      case fin =>
        intro ys8 nw8 hJ8
        obtain ⟨op8, tl8, obs8, rfl, hpo8, hoff8, hT8, hlen8⟩ := hJ8
        intro D8 h8 tk8 F8 N8 o8
        have hz8 : ys8.length ≤ 3 := by omega
        have hDp : @Ne Nat D8 p := fun e => o8.2.1 e.symm
        k_steps
        all_goals (refine' hret _ _ _ _ ?qk ?qg ?qo ?qp; (case qk => exact fun b o n e => Fr.keep (by assumption) b o (HE' b o n e)); (case qg => exact news1 (news_mem (by assumption) (by k_mem))); (case qo => first | assumption | exact penO); (case qp => first
          | exact good_fin (by assumption) (List.mem_cons_self ..) HE' hDp (hT8.mono (sub_off (fun q hq => by repeat (first | exact hq | refine List.mem_cons_of_mem _ ?_)) hoff8)) (by omega)
          | exact good_fin (by assumption) (List.mem_cons_self ..) HE' (by k_ne) (((hT8.mono (sub_off (fun q hq => by repeat (first | exact hq | refine List.mem_cons_of_mem _ ?_)) hoff8)).drop _).snoc (.plain (.name (inF (by k_mem) (by k_ne)) (inF (by k_mem) (by k_ne)) (by assumption)))) (by simp only [List.length_append, List.length_drop, List.length_cons, List.length_nil]; omega)))
  · unfold Stop
    k_dflt (refine' (pickN (g := g') (L := L') (by assumption) w p) ?B ?F ?X ?T ?hk ?N1 ?pn ?pre ?dd ?uu ?_)
    case B => k_asm
    case F => k_asm
    case X => k_asm
    case T => k_asm
    case hk => exact rfl
    case N1 => exact news_mem (by k_asm) (by k_mem)
    case pn => first | assumption | exact penO
    case pre => exact ⟨news_list (by k_asm) (by k_mem), by k_ne, Nat.le_of_ble_eq_true rfl, Nat.le_of_ble_eq_true rfl⟩
    case dd => ktr_room
    case uu => ktr_units
    intro v9 h9 tk9 op9 hk9 hg9 hpn9 hp9
    have F9 := fr_pen (by k_asm) (by k_asm) (by k_mem) hk9
    have N9 := news_pen (by k_asm) (by first | k_updF | (repeat' (first | exact UpdF.head (by assumption) | refine' UpdF.tail ?_ ?_ | k_ne))) hk9 hg9
    try dsimp only at N9
    obtain ⟨i9, hi9⟩ := hp9
    obtain ⟨ob9, hob9⟩ := pick_off (w := w) (p := p) N9 (.cons (.plain (.name (inF (by k_mem) (by k_ne)) (inF (by k_mem) (by k_ne)) (by assumption))) (.cons (.dict0 (inF (by k_mem) (by k_ne)) (by assumption) (by assumption)) .nil)) hi9
    k_steps
    (refine' hret _ _ _ _ ?qk ?qg ?qo ?qp; (case qk => exact fun b o n e => Fr.keep (by assumption) b o (HE' b o n e)); (case qg => exact news1 (news_mem (by assumption) (by k_mem))); (case qo => first | assumption | exact penO); (case qp => exact good_fin (by assumption) (List.mem_cons_self ..) HE' (by k_ne) (.cons (hob9.mono fun _ _ => off_cons) .nil) (Nat.le_of_ble_eq_true rfl)))
  · unfold Stop
    rename News _ _ _ _ => N9
    obtain ⟨v9, ob9, hva9, hob9⟩ := good_dict (w := w) (p := p) N9 (by assumption) hsg (by assumption) (by assumption) (.plain (.name (inF (by k_mem) (by k_ne)) (inF (by k_mem) (by k_ne)) (by assumption))) (.plain (.string (inF (by k_mem) (by k_ne)) (inF (by k_mem) (by k_ne)) (by assumption))) (.array (inF (by k_mem) (by k_ne)) (.cons .int .nil) (Nat.le_of_ble_eq_true rfl)) (.dict0 (inF (by k_mem) (by k_ne)) (by assumption) (by assumption)) (.array (inF (by k_mem) (by k_ne)) (.cons (.string (inF (by k_mem) (by k_ne)) (inF (by k_mem) (by k_ne)) (by assumption)) (.cons .int (.cons (.real (inF (by k_mem) (by k_ne)) (inF (by k_mem) (by k_ne)) (by assumption) (by assumption)) .nil))) (Nat.le_of_ble_eq_true rfl))
    refine dict_get N9 (by k_mem) (by assumption) hva9 ?_
    k_steps
    (refine' hret _ _ _ _ ?qk ?qg ?qo ?qp; (case qk => exact fun b o n e => Fr.keep (by assumption) b o (HE' b o n e)); (case qg => exact news1 (news_mem (by assumption) (by k_mem))); (case qo => first | assumption | exact penO); (case qp => exact good_fin (by assumption) (List.mem_cons_self ..) HE' (by k_ne) (.cons (hob9.mono fun _ _ => off_cons) .nil) (Nat.le_of_ble_eq_true rfl)))
end

section
set_option maxHeartbeats 4000000
open PySem PySem.W PyProof.Rows PySem.Calls PySem.Spec
noncomputable section
/-! the sort of 64 items and more: a pure twin, for texts -/
noncomputable def gallop' : Bool → Keyed → Array Keyed → Nat → Nat → Nat → StateT SortSt Sem (Option Nat) := sortPriv% PySem.Builtin.gallop
noncomputable def setMinGallop' : Nat → StateT SortSt Sem Unit := sortPriv% PySem.Builtin.setMinGallop
noncomputable def mergeLo' : Array Keyed → Array Keyed → StateT SortSt Sem (Array Keyed) := sortPriv% PySem.Builtin.mergeLo
noncomputable def mergeHi' : Array Keyed → Array Keyed → StateT SortSt Sem (Array Keyed) := sortPriv% PySem.Builtin.mergeHi
noncomputable abbrev setGallop (st : SortSt) (g : Nat) : SortSt := SortSt.mk' (kindOf st) (arrOf st) (pendingOf st) g (failedOf st)
theorem setMinGallop'_eq (g : Nat) : setMinGallop' g = modify fun s => setGallop s g := rfl
noncomputable def prule (_ : String) : StateT SortSt Option Unit := pure ()
noncomputable def pfail {α : Type} : StateT SortSt Option α := fun _ => none
noncomputable def p_elem (arr : Array Keyed) (i : Nat) : StateT SortSt Option Keyed := match arr[i]? with
  | some p => pure p
  | none => pfail
noncomputable def p_lt (x y : Keyed) : StateT SortSt Option (Option Bool) := match x.1, y.1 with
  | .str a _, .str b _ => pure (some (decide (a.cps.toList < b.cps.toList)))
  | _, _ => pfail
noncomputable def p_reverseSlice (i j : Nat) : StateT SortSt Option Unit := modify fun s => setArr s (mirror (arrOf s) i j ((j - i) / 2))
noncomputable def fbub {α : Type} (l : List α) (src d : Nat) : List α := l.take (src - d) ++ ((l.drop src).take 1 ++ ((l.drop (src - d)).take d ++ l.drop (src + 1)))
noncomputable def p_moveDown (src dst : Nat) : StateT SortSt Option Unit := fun s => match decide (src < (arrOf s).size) with
  | true => some ((), setArr s (fbub (arrOf s).toList src (src - dst)).toArray)
  | false => none
noncomputable def p_setMinGallop (g : Nat) : StateT SortSt Option Unit := modify fun s => setGallop s g
noncomputable def p_ltAt (i j : Nat) : StateT SortSt Option (Option Bool) := do
  let a := arrOf (← get)
  p_lt (← p_elem a i) (← p_elem a j)
noncomputable def p_countRun (lo nrem : Nat) : StateT SortSt Option (Option Nat) := do
  let mut n := 1
  for _ in List.range' (1) ((nrem) - (1)) do
    let some smaller ← p_ltAt (lo + n) (lo + n - 1) | return none
    if smaller then break
    n := n + 1
  if n == nrem then return some n
  if n > 1 then
    let some rose ← p_ltAt lo (lo + n - 1) | return none
    if rose then return some n
    p_reverseSlice lo (lo + n)
  prule "list.sort.descending-run"
  n := n + 1
  let mut neq := 0
  for _ in List.range' (n) ((nrem) - (n)) do
    let some smaller ← p_ltAt (lo + n) (lo + n - 1) | return none
    if smaller then
      if neq > 0 then p_reverseSlice (lo + n - (neq + 1)) (lo + n)
      neq := 0
    else
      let some larger ← p_ltAt (lo + n - 1) (lo + n) | return none
      if larger then break
      neq := neq + 1
    n := n + 1
  if neq > 0 then p_reverseSlice (lo + n - (neq + 1)) (lo + n)
  p_reverseSlice lo (lo + n)
  for _ in List.range' (n) ((nrem) - (n)) do
    let some smaller ← p_ltAt (lo + n) (lo + n - 1) | return none
    if smaller then break
    n := n + 1
  return some n
noncomputable def p_binarySort (lo n ok : Nat) : StateT SortSt Option (Bool) := do
  for k in List.range' (max ok 1) ((n) - (max ok 1)) do
    let mut l := 0
    let mut r := k
    for _ in List.range' (0) ((k) - (0)) do
      if l ≥ r then break
      let m := (l + r) / 2
      let some less ← p_ltAt (lo + k) (lo + m) | return false
      if less then r := m else l := m + 1
    p_moveDown (lo + k) (lo + l)
  return true
noncomputable def p_gallop (left : Bool) (key : Keyed) (arr : Array Keyed) (base n hint : Nat) : StateT SortSt Option (Option Nat) := do
  let beyond (i : Nat) : StateT SortSt Option (Option Bool) := do
    let x ← p_elem arr (base + i)
    if left then p_lt x key else return (← p_lt key x).map (!·)
  let mut lastofs := 0
  let mut ofs := 1
  let mut lo := 0
  let mut hi := 0
  let some right ← beyond hint | return none
  if right then
    let maxofs := n - hint
    for _ in List.range' (0) ((n) - (0)) do
      if ofs ≥ maxofs then break
      let some more ← beyond (hint + ofs) | return none
      if !more then break
      lastofs := ofs
      ofs := 2 * ofs + 1
    lo := hint + lastofs + 1
    hi := hint + min ofs maxofs
  else
    let maxofs := hint + 1
    for _ in List.range' (0) ((n) - (0)) do
      if ofs ≥ maxofs then break
      let some found ← beyond (hint - ofs) | return none
      if found then break
      lastofs := ofs
      ofs := 2 * ofs + 1
    lo := hint + 1 - min ofs maxofs
    hi := hint - lastofs
  for _ in List.range' (0) ((n) - (0)) do
    if lo ≥ hi then break
    let m := lo + (hi - lo) / 2
    let some more ← beyond m | return none
    if more then lo := m + 1 else hi := m
  return some hi
theorem gallop'_eqd (left : Bool) (key : Keyed) (arr : Array Keyed) (base n hint : Nat) : gallop' left key arr base n hint = (do
  let beyond (i : Nat) : StateT SortSt Sem (Option Bool) := do
    let x ← elem' arr (base + i)
    if left then lt' x key else return (← lt' key x).map (!·)
  let mut lastofs := 0
  let mut ofs := 1
  let mut lo := 0
  let mut hi := 0
  let some right ← beyond hint | return none
  if right then
    let maxofs := n - hint
    for _ in [0:n] do
      if ofs ≥ maxofs then break
      let some more ← beyond (hint + ofs) | return none
      if !more then break
      lastofs := ofs
      ofs := 2 * ofs + 1
    lo := hint + lastofs + 1
    hi := hint + min ofs maxofs
  else
    let maxofs := hint + 1
    for _ in [0:n] do
      if ofs ≥ maxofs then break
      let some found ← beyond (hint - ofs) | return none
      if found then break
      lastofs := ofs
      ofs := 2 * ofs + 1
    lo := hint + 1 - min ofs maxofs
    hi := hint - lastofs
  for _ in [0:n] do
    if lo ≥ hi then break
    let m := lo + (hi - lo) / 2
    let some more ← beyond m | return none
    if more then lo := m + 1 else hi := m
  return some hi) := rfl
noncomputable def p_mergeLo (a b : Array Keyed) : StateT SortSt Option (Array Keyed) := do
  prule "list.sort.merge-lo"
  let total := a.size + b.size
  let done (out : Array Keyed) (ia ib : Nat) := out ++ a.extract ia a.size ++ b.extract ib b.size
  let lastOfA (out : Array Keyed) (ia ib : Nat) := out ++ b.extract ib b.size ++ a.extract ia a.size
  let mut out : Array Keyed := #[← p_elem b 0]
  let mut ia := 0
  let mut ib := 1
  if ib == b.size then return done out ia ib
  if ia + 1 == a.size then return lastOfA out ia ib
  let mut minGallop := gallopOf (← get)
  for _ in List.range' (0) ((total) - (0)) do
    let mut acount := 0
    let mut bcount := 0
    for _ in List.range' (0) ((total) - (0)) do
      let some bWins ← p_lt (← p_elem b ib) (← p_elem a ia) | return done out ia ib
      if bWins then
        out := out.push (← p_elem b ib); ib := ib + 1; bcount := bcount + 1; acount := 0
        if ib == b.size then return done out ia ib
        if bcount ≥ minGallop then break
      else
        out := out.push (← p_elem a ia); ia := ia + 1; acount := acount + 1; bcount := 0
        if ia + 1 == a.size then return lastOfA out ia ib
        if acount ≥ minGallop then break
    prule "list.sort.gallop"
    minGallop := minGallop + 1
    for _ in List.range' (0) ((total) - (0)) do
      if minGallop > 1 then minGallop := minGallop - 1
      p_setMinGallop minGallop
      let some k ← p_gallop false (← p_elem b ib) a ia (a.size - ia) 0 | return done out ia ib
      acount := k
      if k > 0 then
        out := out ++ a.extract ia (ia + k); ia := ia + k
        if ia + 1 == a.size then return lastOfA out ia ib
        if ia == a.size then return done out ia ib
      out := out.push (← p_elem b ib); ib := ib + 1
      if ib == b.size then return done out ia ib
      let some k ← p_gallop true (← p_elem a ia) b ib (b.size - ib) 0 | return done out ia ib
      bcount := k
      if k > 0 then
        out := out ++ b.extract ib (ib + k); ib := ib + k
        if ib == b.size then return done out ia ib
      out := out.push (← p_elem a ia); ia := ia + 1
      if ia + 1 == a.size then return lastOfA out ia ib
      if acount < 7 && bcount < 7 then break
    minGallop := minGallop + 1
    p_setMinGallop minGallop
  pfail
theorem mergeLo'_eqd (a b : Array Keyed) : mergeLo' a b = (do
  rule "list.sort.merge-lo"
  let total := a.size + b.size
  let done (out : Array Keyed) (ia ib : Nat) := out ++ a.extract ia a.size ++ b.extract ib b.size
  let lastOfA (out : Array Keyed) (ia ib : Nat) := out ++ b.extract ib b.size ++ a.extract ia a.size
  let mut out : Array Keyed := #[← elem' b 0]
  let mut ia := 0
  let mut ib := 1
  if ib == b.size then return done out ia ib
  if ia + 1 == a.size then return lastOfA out ia ib
  let mut minGallop := gallopOf (← get)
  for _ in [0:total] do
    let mut acount := 0
    let mut bcount := 0
    for _ in [0:total] do
      let some bWins ← lt' (← elem' b ib) (← elem' a ia) | return done out ia ib
      if bWins then
        out := out.push (← elem' b ib); ib := ib + 1; bcount := bcount + 1; acount := 0
        if ib == b.size then return done out ia ib
        if bcount ≥ minGallop then break
      else
        out := out.push (← elem' a ia); ia := ia + 1; acount := acount + 1; bcount := 0
        if ia + 1 == a.size then return lastOfA out ia ib
        if acount ≥ minGallop then break
    rule "list.sort.gallop"
    minGallop := minGallop + 1
    for _ in [0:total] do
      if minGallop > 1 then minGallop := minGallop - 1
      setMinGallop' minGallop
      let some k ← gallop' false (← elem' b ib) a ia (a.size - ia) 0 | return done out ia ib
      acount := k
      if k > 0 then
        out := out ++ a.extract ia (ia + k); ia := ia + k
        if ia + 1 == a.size then return lastOfA out ia ib
        if ia == a.size then return done out ia ib
      out := out.push (← elem' b ib); ib := ib + 1
      if ib == b.size then return done out ia ib
      let some k ← gallop' true (← elem' a ia) b ib (b.size - ib) 0 | return done out ia ib
      bcount := k
      if k > 0 then
        out := out ++ b.extract ib (ib + k); ib := ib + k
        if ib == b.size then return done out ia ib
      out := out.push (← elem' a ia); ia := ia + 1
      if ia + 1 == a.size then return lastOfA out ia ib
      if acount < 7 && bcount < 7 then break
    minGallop := minGallop + 1
    setMinGallop' minGallop
  unsupported "internal:list.sort.merge-bound") := rfl
noncomputable def p_mergeHi (a b : Array Keyed) : StateT SortSt Option (Array Keyed) := do
  prule "list.sort.merge-hi"
  let total := a.size + b.size
  let done (out : Array Keyed) (na nb : Nat) := a.extract 0 na ++ b.extract 0 nb ++ out.reverse
  let firstOfB (out : Array Keyed) (na nb : Nat) := b.extract 0 nb ++ a.extract 0 na ++ out.reverse
  let mut na := a.size - 1
  let mut nb := b.size
  let mut out : Array Keyed := #[← p_elem a na]
  if na == 0 then return done out na nb
  if nb == 1 then return firstOfB out na nb
  let mut minGallop := gallopOf (← get)
  for _ in List.range' (0) ((total) - (0)) do
    let mut acount := 0
    let mut bcount := 0
    for _ in List.range' (0) ((total) - (0)) do
      let some aWins ← p_lt (← p_elem b (nb - 1)) (← p_elem a (na - 1)) | return done out na nb
      if aWins then
        na := na - 1; out := out.push (← p_elem a na); acount := acount + 1; bcount := 0
        if na == 0 then return done out na nb
        if acount ≥ minGallop then break
      else
        nb := nb - 1; out := out.push (← p_elem b nb); bcount := bcount + 1; acount := 0
        if nb == 1 then return firstOfB out na nb
        if bcount ≥ minGallop then break
    prule "list.sort.gallop"
    minGallop := minGallop + 1
    for _ in List.range' (0) ((total) - (0)) do
      if minGallop > 1 then minGallop := minGallop - 1
      p_setMinGallop minGallop
      let some at_ ← p_gallop false (← p_elem b (nb - 1)) a 0 na (na - 1) | return done out na nb
      let k := na - at_
      acount := k
      if k > 0 then
        out := out ++ (a.extract at_ na).reverse; na := at_
        if na == 0 then return done out na nb
      nb := nb - 1; out := out.push (← p_elem b nb)
      if nb == 1 then return firstOfB out na nb
      let some at_ ← p_gallop true (← p_elem a (na - 1)) b 0 nb (nb - 1) | return done out na nb
      let k := nb - at_
      bcount := k
      if k > 0 then
        out := out ++ (b.extract at_ nb).reverse; nb := at_
        if nb == 1 then return firstOfB out na nb
        if nb == 0 then return done out na nb
      na := na - 1; out := out.push (← p_elem a na)
      if na == 0 then return done out na nb
      if acount < 7 && bcount < 7 then break
    minGallop := minGallop + 1
    p_setMinGallop minGallop
  pfail
theorem mergeHi'_eqd (a b : Array Keyed) : mergeHi' a b = (do
  rule "list.sort.merge-hi"
  let total := a.size + b.size
  let done (out : Array Keyed) (na nb : Nat) := a.extract 0 na ++ b.extract 0 nb ++ out.reverse
  let firstOfB (out : Array Keyed) (na nb : Nat) := b.extract 0 nb ++ a.extract 0 na ++ out.reverse
  let mut na := a.size - 1
  let mut nb := b.size
  let mut out : Array Keyed := #[← elem' a na]
  if na == 0 then return done out na nb
  if nb == 1 then return firstOfB out na nb
  let mut minGallop := gallopOf (← get)
  for _ in [0:total] do
    let mut acount := 0
    let mut bcount := 0
    for _ in [0:total] do
      let some aWins ← lt' (← elem' b (nb - 1)) (← elem' a (na - 1)) | return done out na nb
      if aWins then
        na := na - 1; out := out.push (← elem' a na); acount := acount + 1; bcount := 0
        if na == 0 then return done out na nb
        if acount ≥ minGallop then break
      else
        nb := nb - 1; out := out.push (← elem' b nb); bcount := bcount + 1; acount := 0
        if nb == 1 then return firstOfB out na nb
        if bcount ≥ minGallop then break
    rule "list.sort.gallop"
    minGallop := minGallop + 1
    for _ in [0:total] do
      if minGallop > 1 then minGallop := minGallop - 1
      setMinGallop' minGallop
      let some at_ ← gallop' false (← elem' b (nb - 1)) a 0 na (na - 1) | return done out na nb
      let k := na - at_
      acount := k
      if k > 0 then
        out := out ++ (a.extract at_ na).reverse; na := at_
        if na == 0 then return done out na nb
      nb := nb - 1; out := out.push (← elem' b nb)
      if nb == 1 then return firstOfB out na nb
      let some at_ ← gallop' true (← elem' a (na - 1)) b 0 nb (nb - 1) | return done out na nb
      let k := nb - at_
      bcount := k
      if k > 0 then
        out := out ++ (b.extract at_ nb).reverse; nb := at_
        if nb == 1 then return firstOfB out na nb
        if nb == 0 then return done out na nb
      na := na - 1; out := out.push (← elem' a na)
      if na == 0 then return done out na nb
      if acount < 7 && bcount < 7 then break
    minGallop := minGallop + 1
    setMinGallop' minGallop
  unsupported "internal:list.sort.merge-bound") := rfl
noncomputable def p_mergeAt (i : Nat) : StateT SortSt Option (Bool) := do
  let s ← get
  let (some (sa, na, power), some (sb, nb, _)) := ((pendingOf s)[i]?, (pendingOf s)[i + 1]?) | pfail
  set (setPending s (((pendingOf s).setIfInBounds i (sa, na + nb, power)).eraseIdxIfInBounds (i + 1)))
  let some k ← p_gallop false (← p_elem (arrOf s) sb) (arrOf s) sa na 0 | return false
  let (sa, na) := (sa + k, na - k)
  if na == 0 then return true
  let some nb ← p_gallop true (← p_elem (arrOf s) (sa + na - 1)) (arrOf s) sb nb (nb - 1) | return false
  if nb == 0 then return true
  let x := (arrOf s).extract sa sb
  let y := (arrOf s).extract sb (sb + nb)
  let merged ← if na ≤ nb then p_mergeLo x y else p_mergeHi x y
  modify fun s => setArr s (merged.toList.zipIdx.foldl (fun a (p, j) => a.setIfInBounds (sa + j) p) (arrOf s))
  return (failedOf (← get)).isNone
theorem mergeAt'_eqd (i : Nat) : mergeAt' i = (do
  let s ← get
  let (some (sa, na, power), some (sb, nb, _)) := ((pendingOf s)[i]?, (pendingOf s)[i + 1]?) | unsupported "internal:list.sort.pending"
  set (setPending s (((pendingOf s).setIfInBounds i (sa, na + nb, power)).eraseIdxIfInBounds (i + 1)))
  let some k ← gallop' false (← elem' (arrOf s) sb) (arrOf s) sa na 0 | return false
  let (sa, na) := (sa + k, na - k)
  if na == 0 then return true
  let some nb ← gallop' true (← elem' (arrOf s) (sa + na - 1)) (arrOf s) sb nb (nb - 1) | return false
  if nb == 0 then return true
  let x := (arrOf s).extract sa sb
  let y := (arrOf s).extract sb (sb + nb)
  let merged ← if na ≤ nb then mergeLo' x y else mergeHi' x y
  modify fun s => setArr s (merged.toList.zipIdx.foldl (fun a (p, j) => a.setIfInBounds (sa + j) p) (arrOf s))
  return (failedOf (← get)).isNone) := rfl
noncomputable def p_sortRuns  : StateT SortSt Option (Unit) := do
  let size := (arrOf (← get)).size
  let minrun := minRun' size size 0
  let mut lo := 0
  for _ in List.range' (0) ((size) - (0)) do
    if lo ≥ size then break
    let some found ← p_countRun lo (size - lo) | return
    let mut n := found
    if n < minrun then
      prule "list.sort.binary-insertion"
      let force := min (size - lo) minrun
      if !(← p_binarySort lo force n) then return
      n := force
    if let some (s1, n1, _) := (pendingOf (← get)).back? then
      let pw := power' size (2 * s1 + n1) (2 * s1 + n1 + n1 + n) size
      for _ in List.range' (0) ((size) - (0)) do
        let p := pendingOf (← get)
        let some (_, _, older) := (if p.size > 1 then p[p.size - 2]? else none) | break
        if older ≤ pw then break
        if !(← p_mergeAt (p.size - 2)) then return
      modify fun s => setPending s ((pendingOf s).modify ((pendingOf s).size - 1) fun (st, len, _) => (st, len, pw))
    modify fun s => setPending s ((pendingOf s).push (lo, n, 0))
    lo := lo + n
  for _ in List.range' (0) ((size) - (0)) do
    let p := pendingOf (← get)
    if p.size ≤ 1 then break
    let i := p.size - 2
    let before := if i > 0 then p[i - 1]?.map (·.2.1) else none
    let i := if before.any (· < (p[i + 1]?.elim 0 (·.2.1))) then i - 1 else i
    if !(← p_mergeAt i) then return
end
end

section
set_option maxHeartbeats 4000000
open PySem PySem.W PyProof.Rows PySem.Calls PySem.Spec
section
variable {prog : Program} {w : World} {A : Around} {E : Value → Shared → Prop} {s : Shared}
/-- the twin tells what the sort does -/
noncomputable def Det (prog : Program) (w : World) (A : Around) (E : Value → Shared → Prop) (s : Shared) {α : Type} (m : StateT SortSt Sem α) (pm : StateT SortSt Option α) : Prop :=
  ∀ (st : SortSt) (a : α) (st' : SortSt), PyProof.Rows.kindOf st = oneType' → pm st = some (a, st') → PyProof.Rows.kindOf st' = oneType' ∧ ∀ Q : α → SortSt → Prop, Q a st' → wpS (model prog w) A E s m Q st
theorem Det.pure {α : Type} {a : α} : Det prog w A E s (pure a) (pure a) := fun st b st' hk e => by
  have e' : some (a, st) = some (b, st') := e
  cases e'
  exact ⟨hk, fun Q q => wpS_pure q⟩
theorem Det.bind {α β : Type} {m : StateT SortSt Sem α} {pm : StateT SortSt Option α} {f : α → StateT SortSt Sem β} {pf : α → StateT SortSt Option β} (h : Det prog w A E s m pm) (k : ∀ a, Det prog w A E s (f a) (pf a)) : Det prog w A E s (m >>= f) (pm >>= pf) := fun st b st' hk e => by
  have e' : ((pm st).bind fun r => pf r.1 r.2) = some (b, st') := e
  cases hp : pm st with
  | none => rw [hp] at e'; cases e'
  | some r =>
    obtain ⟨a, st1⟩ := r
    rw [hp] at e'
    obtain ⟨hk1, h1⟩ := h st a st1 hk hp
    obtain ⟨hk2, h2⟩ := k a st1 b st' hk1 e'
    exact ⟨hk2, fun Q q => wpS_bind (h1 _ (h2 Q q))⟩
theorem Det.get : Det prog w A E s get get := fun st a st' hk e => by
  have e' : some (st, st) = some (a, st') := e
  cases e'
  exact ⟨hk, fun Q q => wpS_get q⟩
theorem Det.modify {f : SortSt → SortSt} (hf : ∀ st, PyProof.Rows.kindOf (f st) = PyProof.Rows.kindOf st) : Det prog w A E s (modify f) (modify f) := fun st a st' hk e => by
  have e' : some ((), f st) = some (a, st') := e
  cases e'
  exact ⟨(hf st).trans hk, fun Q q => wpS_modify q⟩
theorem Det.set {x : SortSt} (hx : PyProof.Rows.kindOf x = oneType') : Det prog w A E s (set x) (set x) := fun st a st' hk e => by
  have e' : some (PUnit.unit, x) = some (a, st') := e
  cases e'
  exact ⟨hx, fun Q q => by unfold wpS; rw [StateT.run_set]; exact wpAny_pure ⟨rfl, q⟩⟩
theorem Det.rule {x : String} : Det prog w A E s (liftM (PySem.rule x)) (prule x) := fun st a st' hk e => by
  have e' : some ((), st) = some (a, st') := e
  cases e'
  exact ⟨hk, fun Q q => wpS_lift (wpAny_rule ⟨rfl, q⟩)⟩
theorem Det.fail {α : Type} {m : StateT SortSt Sem α} : Det prog w A E s m pfail := fun st a st' _ e => by cases e
theorem Det.elem {arr : Array Keyed} {i : Nat} : Det prog w A E s (elem' arr i) (p_elem arr i) := by
  rw [elem'_eq]
  unfold p_elem
  cases arr[i]? with
  | none => exact Det.fail
  | some p => exact Det.pure
theorem Det.lt {x y : Keyed} : Det prog w A E s (lt' x y) (p_lt x y) := fun st a st' hk e => by
  obtain ⟨x1, x2⟩ := x
  obtain ⟨y1, y2⟩ := y
  cases x1 <;> first | (cases e; done) | skip
  cases y1 <;> first | (cases e; done) | skip
  cases e
  refine ⟨hk, fun Q q => ?_⟩
  rw [lt'_eq]
  refine wpS_bind (wpS_get ?_)
  rw [hk, keyLt'_oneType]
  exact wpS_bind (wpS_lift (wpAny_attempt (oneLt_str ⟨rfl, wpS_pure q⟩)))
theorem Det.list {β : Type} {f : Nat → β → StateT SortSt Sem (ForInStep β)} {pf : Nat → β → StateT SortSt Option (ForInStep β)} (h : ∀ i c, Det prog w A E s (f i c) (pf i c)) : ∀ (l : List Nat) (c : β), Det prog w A E s (forIn l c f) (forIn l c pf)
  | [], c => by rw [List.forIn_nil, List.forIn_nil]; exact Det.pure
  | x :: l, c => by
    rw [List.forIn_cons, List.forIn_cons]
    refine Det.bind (h x c) fun r => ?_
    cases r with
    | done b => exact Det.pure
    | yield b => exact Det.list h l b
theorem Det.range {β : Type} {a b : Nat} {c : β} {f : Nat → β → StateT SortSt Sem (ForInStep β)} {pf : Nat → β → StateT SortSt Option (ForInStep β)} (h : ∀ i c, Det prog w A E s (f i c) (pf i c)) : Det prog w A E s (forIn [a:b] c f) (forIn (List.range' a (b - a)) c pf) := by
  rw [Std.Legacy.Range.forIn_eq_forIn_range']
  have hsz : ([a:b] : Std.Legacy.Range).size = b - a := by simp [Std.Legacy.Range.size]
  show Det _ _ _ _ _ (forIn (List.range' a ([a:b] : Std.Legacy.Range).size 1) c f) _
  rw [hsz]
  exact Det.list h _ _
theorem Det.ite {α : Type} {c : Prop} [Decidable c] {t e : StateT SortSt Sem α} {pt pe : StateT SortSt Option α} (h1 : Det prog w A E s t pt) (h2 : Det prog w A E s e pe) : Det prog w A E s (if c then t else e) (if c then pt else pe) := by
  by_cases hc : c
  · rw [if_pos hc, if_pos hc]; exact h1
  · rw [if_neg hc, if_neg hc]; exact h2
theorem fbub_at {l : List Keyed} {p d k : Nat} (hs : p + d < l.length) : (l.take p ++ ((l.drop (p + d)).take 1 ++ ((l.drop p).take d ++ l.drop (p + d + 1))))[k]? = if k = p then l[p + d]? else if p < k ∧ k ≤ p + d then l[k - 1]? else l[k]? := by
  have l1 : (l.take p).length = p := List.length_take_of_le (Nat.le_of_lt (Nat.lt_of_le_of_lt (Nat.le_add_right ..) hs))
  have l2 : ((l.drop (p + d)).take 1).length = 1 := List.length_take_of_le (by rw [List.length_drop]; exact Nat.sub_pos_of_lt hs)
  have l3 : ((l.drop p).take d).length = d := List.length_take_of_le (by rw [List.length_drop]; exact Nat.le_sub_of_add_le (Nat.add_comm p d ▸ Nat.le_of_lt hs))
  rcases Nat.lt_or_ge k p with h1 | h1
  · rw [List.getElem?_append_left (by rw [l1]; exact h1), List.getElem?_take_of_lt h1, if_neg (Nat.ne_of_lt h1), if_neg (fun h => Nat.lt_asymm h1 h.1)]
  · obtain ⟨j, rfl⟩ := Nat.exists_eq_add_of_le h1
    rw [List.getElem?_append_right (by rw [l1]; exact h1), l1, Nat.add_sub_cancel_left]
    cases j with
    | zero => rw [List.getElem?_append_left (by rw [l2]; exact Nat.one_pos), if_pos (Nat.add_zero p), List.getElem?_take_of_lt Nat.one_pos, List.getElem?_drop]; rfl
    | succ j =>
      rw [List.getElem?_append_right (by rw [l2]; exact Nat.le_add_left ..), l2, Nat.add_sub_cancel, if_neg (Nat.ne_of_gt (Nat.lt_add_of_pos_right (Nat.succ_pos j)))]
      rcases Nat.lt_or_ge j d with h3 | h3
      · rw [List.getElem?_append_left (by rw [l3]; exact h3), if_pos ⟨Nat.lt_add_of_pos_right (Nat.succ_pos j), Nat.add_le_add_left h3 p⟩, List.getElem?_take_of_lt h3, List.getElem?_drop]
        rfl
      · obtain ⟨i, rfl⟩ := Nat.exists_eq_add_of_le h3
        rw [List.getElem?_append_right (by rw [l3]; exact h3), l3, Nat.add_sub_cancel_left, if_neg (fun h => Nat.not_lt.mpr (Nat.le_of_add_le_add_left h.2) (Nat.lt_succ_of_le h3)), List.getElem?_drop]
        congr 1
        omega
theorem fbub_eq (xs : Array Keyed) (src d : Nat) (hs : src < xs.size) (hd : d ≤ src) : (fbub xs.toList src d).toArray = bubble xs src d := by
  obtain ⟨p, rfl⟩ := Nat.exists_eq_add_of_le' hd
  apply Array.ext_getElem?
  intro k
  rw [getElem?_bubble hs d hd k]
  have e0 : ∀ j : Nat, xs[j]? = xs.toList[j]? := fun j => by simp
  rw [e0, e0, e0, List.getElem?_toArray]
  unfold fbub
  rw [Nat.add_sub_cancel]
  exact fbub_at hs
theorem Det.moveDown {src dst : Nat} : Det prog w A E s (moveDown' src dst) (p_moveDown src dst) := fun st a st' hk e => by
  unfold p_moveDown at e
  cases hd : decide (src < (arrOf st).size) with
  | false => rw [hd] at e; cases e
  | true =>
    rw [hd] at e
    cases e
    have hs : src < (arrOf st).size := of_decide_eq_true hd
    refine ⟨hk, fun Q q => ?_⟩
    rw [moveDown'_eq]
    refine wpS_modify ?_
    rw [fbub_eq _ _ _ hs (Nat.sub_le _ _)] at q
    exact q
theorem Det.reverseSlice {i j : Nat} : Det prog w A E s (reverseSlice' i j) (p_reverseSlice i j) := by
  rw [reverseSlice'_eq]; exact Det.modify fun _ => rfl
theorem Det.setMinGallop {g : Nat} : Det prog w A E s (setMinGallop' g) (p_setMinGallop g) := by
  rw [setMinGallop'_eq]; exact Det.modify fun _ => rfl
theorem Det.ltAt {i j : Nat} : Det prog w A E s (ltAt' i j) (p_ltAt i j) := by
  rw [ltAt'_eq]
  unfold p_ltAt
  exact Det.bind Det.get fun _ => Det.bind Det.elem fun _ => Det.bind Det.elem fun _ => Det.lt
theorem det_binarySort (lo n ok : Nat) : Det prog w A E s (binarySort' lo n ok) (p_binarySort lo n ok) := by
  rw [binarySort'_eq]
  unfold p_binarySort
  repeat' first
    | (exfalso; rename ∀ x, some _ = some x → False => hx9; exact hx9 _ rfl)
    | exact Det.pure
    | exact Det.fail
    | exact Det.get
    | exact Det.ltAt
    | exact Det.lt
    | exact Det.elem
    | exact Det.rule
    | exact Det.moveDown
    | exact Det.reverseSlice
    | exact Det.setMinGallop
    | dsimp only
    | (refine Det.bind ?_ fun _ => ?_)
    | (refine Det.range fun _ _ => ?_)
    | (refine Det.ite ?_ ?_)
    | (exact Det.modify fun _ => rfl)
    | split
theorem det_countRun (lo nrem : Nat) : Det prog w A E s (countRun' lo nrem) (p_countRun lo nrem) := by
  rw [countRun'_eq]
  unfold p_countRun
  repeat' first
    | (exfalso; rename ∀ x, some _ = some x → False => hx9; exact hx9 _ rfl)
    | exact Det.pure
    | exact Det.fail
    | exact Det.get
    | exact Det.ltAt
    | exact Det.lt
    | exact Det.elem
    | exact Det.rule
    | exact Det.moveDown
    | exact Det.reverseSlice
    | exact Det.setMinGallop
    | dsimp only
    | (refine Det.bind ?_ fun _ => ?_)
    | (refine Det.range fun _ _ => ?_)
    | (refine Det.ite ?_ ?_)
    | (exact Det.modify fun _ => rfl)
    | split
theorem det_gallop (left : Bool) (key : Keyed) (arr : Array Keyed) (base n hint : Nat) : Det prog w A E s (gallop' left key arr base n hint) (p_gallop left key arr base n hint) := by
  rw [gallop'_eqd]
  unfold p_gallop
  repeat' first
    | (exfalso; rename ∀ x, some _ = some x → False => hx9; exact hx9 _ rfl)
    | exact Det.pure
    | exact Det.fail
    | exact Det.get
    | exact Det.ltAt
    | exact Det.lt
    | exact Det.elem
    | exact Det.rule
    | exact Det.moveDown
    | exact Det.reverseSlice
    | exact Det.setMinGallop
    | dsimp only
    | (refine Det.bind ?_ fun _ => ?_)
    | (refine Det.range fun _ _ => ?_)
    | (refine Det.ite ?_ ?_)
    | (exact Det.modify fun _ => rfl)
    | split
theorem det_mergeLo (a b : Array Keyed) : Det prog w A E s (mergeLo' a b) (p_mergeLo a b) := by
  rw [mergeLo'_eqd]
  unfold p_mergeLo
  repeat' first
    | (exfalso; rename ∀ x, some _ = some x → False => hx9; exact hx9 _ rfl)
    | exact Det.pure
    | exact Det.fail
    | exact Det.get
    | exact Det.ltAt
    | exact Det.lt
    | exact Det.elem
    | exact Det.rule
    | exact Det.moveDown
    | exact Det.reverseSlice
    | exact Det.setMinGallop
    | exact det_gallop _ _ _ _ _ _
    | dsimp only
    | (refine Det.bind ?_ fun _ => ?_)
    | (refine Det.range fun _ _ => ?_)
    | (refine Det.ite ?_ ?_)
    | (exact Det.modify fun _ => rfl)
    | split
theorem det_mergeHi (a b : Array Keyed) : Det prog w A E s (mergeHi' a b) (p_mergeHi a b) := by
  rw [mergeHi'_eqd]
  unfold p_mergeHi
  repeat' first
    | (exfalso; rename ∀ x, some _ = some x → False => hx9; exact hx9 _ rfl)
    | exact Det.pure
    | exact Det.fail
    | exact Det.get
    | exact Det.ltAt
    | exact Det.lt
    | exact Det.elem
    | exact Det.rule
    | exact Det.moveDown
    | exact Det.reverseSlice
    | exact Det.setMinGallop
    | exact det_gallop _ _ _ _ _ _
    | dsimp only
    | (refine Det.bind ?_ fun _ => ?_)
    | (refine Det.range fun _ _ => ?_)
    | (refine Det.ite ?_ ?_)
    | (exact Det.modify fun _ => rfl)
    | split
end
end

section
set_option maxHeartbeats 400000
open PySem PySem.W PyProof.Rows PySem.Calls PySem.Spec
section
variable {prog : Program} {w : World} {A : Around} {E : Value → Shared → Prop} {s : Shared}
theorem Det.getBind {β : Type} {f : SortSt → StateT SortSt Sem β} {pf : SortSt → StateT SortSt Option β} (k : ∀ a, PyProof.Rows.kindOf a = oneType' → Det prog w A E s (f a) (pf a)) : Det prog w A E s (MonadState.get >>= f) (MonadState.get >>= pf) := fun st b st' hk e => by
  have e' : pf st st = some (b, st') := e
  obtain ⟨hk2, h2⟩ := k st hk st b st' hk e'
  exact ⟨hk2, fun Q q => wpS_bind (wpS_get (h2 Q q))⟩
theorem Det.set' {x : SortSt} {β : Type} {f : PUnit → StateT SortSt Sem β} {pf : PUnit → StateT SortSt Option β} (hx : PyProof.Rows.kindOf x = oneType') (k : ∀ a, Det prog w A E s (f a) (pf a)) : Det prog w A E s (MonadStateOf.set x >>= f) (MonadStateOf.set x >>= pf) := Det.bind (Det.set hx) k
theorem det_mergeAt (i : Nat) : Det prog w A E s (mergeAt' i) (p_mergeAt i) := by
  rw [mergeAt'_eqd]
  unfold p_mergeAt
  refine Det.getBind fun st hk => ?_
  split
  · rename_i sa na power sb nb x heq
    refine Det.set' (by exact hk) fun _ => ?_
    refine Det.bind Det.elem fun _ => ?_
    refine Det.bind (det_gallop _ _ _ _ _ _) fun r => ?_
    cases r with
    | none => exact Det.pure
    | some k =>
      dsimp only
      refine Det.ite Det.pure ?_
      refine Det.bind Det.elem fun _ => ?_
      refine Det.bind (det_gallop _ _ _ _ _ _) fun r => ?_
      cases r with
      | none => exact Det.pure
      | some k =>
        dsimp only
        refine Det.ite Det.pure ?_
        refine Det.ite ?_ ?_
        · exact Det.bind (det_mergeLo _ _) fun _ => Det.bind (Det.modify fun _ => rfl) fun _ => Det.bind Det.get fun _ => Det.pure
        · exact Det.bind (det_mergeHi _ _) fun _ => Det.bind (Det.modify fun _ => rfl) fun _ => Det.bind Det.get fun _ => Det.pure
  · exact Det.fail
end
end

section
set_option maxHeartbeats 400000
open PySem PySem.W PyProof.Rows PySem.Calls PySem.Spec
section
variable {prog : Program} {w : World} {A : Around} {E : Value → Shared → Prop} {s : Shared}
theorem det_sortRuns : Det prog w A E s sortRuns' p_sortRuns := by
  rw [sortRuns'_eq]
  unfold p_sortRuns
  repeat' first
    | contradiction
    | (rename _ = some _ => q1; revert q1; rename _ = some _ => q2; intro q1; have q3 := q1.symm.trans q2; clear q1; cases q3)
    | (exfalso; rename ∀ x y z, _ = some _ → False => hx9; exact hx9 _ _ _ (by assumption))
    | (exfalso; rename _ = some _ => q1; rename _ = none => q2; exact nomatch (q1.symm.trans q2))
    | with_reducible exact Det.pure
    | with_reducible exact Det.fail
    | with_reducible exact Det.rule
    | with_reducible exact det_countRun _ _
    | with_reducible exact det_binarySort _ _ _
    | with_reducible exact det_mergeAt _
    | dsimp only
    | with_reducible (refine Det.getBind fun _ _ => ?_)
    | with_reducible (refine Det.bind ?_ fun _ => ?_)
    | with_reducible (refine Det.range fun _ _ => ?_)
    | with_reducible (refine Det.ite ?_ ?_)
    | with_reducible (refine Det.modify fun _ => ?_; with_unfolding_all rfl)
    | (exfalso; rename ∀ x, some _ = some x → False => hx9; exact hx9 _ rfl)
    | split
end
end

section
set_option maxHeartbeats 4000000
open PySem PySem.W PyProof.Rows PySem.Calls PySem.Spec
noncomputable def keyed0 (ss : List Str) (tk : Nat → Tok) : Array Keyed := (ss.zipIdx.map fun p => (Value.str p.1 (tk p.2), Value.str p.1 (tk p.2))).toArray
noncomputable def strOr (v : Value) : Str := match v with | .str k _ => k | _ => ⟨#[63]⟩
noncomputable def outOf (r : SortSt) : List Str := (arrOf r).toList.map fun p => strOr p.2
noncomputable def srtChk (ss srt : List Str) (tk : Nat → Tok) : Option Bool := (p_sortRuns (SortSt.mk' oneType' (keyed0 ss tk) #[] 7 none)).map fun r => (failedOf r.2).isNone && outOf r.2 == srt
noncomputable def ssA : List Str := [⟨#[119]⟩, ⟨#[74]⟩, ⟨#[106]⟩, ⟨#[77]⟩, ⟨#[105]⟩, ⟨#[103]⟩, ⟨#[71]⟩, ⟨#[114, 105]⟩, ⟨#[103, 115]⟩, ⟨#[100]⟩, ⟨#[99, 109]⟩, ⟨#[82, 71]⟩, ⟨#[114, 103]⟩, ⟨#[75]⟩, ⟨#[107]⟩, ⟨#[113]⟩, ⟨#[81]⟩, ⟨#[69, 77, 67]⟩, ⟨#[66, 88]⟩, ⟨#[69, 88]⟩, ⟨#[67, 83]⟩, ⟨#[99, 115]⟩, ⟨#[115, 104]⟩, ⟨#[68, 111]⟩, ⟨#[77, 80]⟩, ⟨#[66, 77, 67]⟩, ⟨#[68, 80]⟩, ⟨#[66, 68, 67]⟩, ⟨#[83, 67]⟩, ⟨#[115, 99]⟩, ⟨#[83, 67, 78]⟩, ⟨#[115, 99, 110]⟩, ⟨#[66, 73]⟩, ⟨#[109]⟩, ⟨#[108]⟩, ⟨#[99]⟩, ⟨#[118]⟩, ⟨#[121]⟩, ⟨#[114, 101]⟩, ⟨#[104]⟩, ⟨#[87]⟩, ⟨#[87, 42]⟩, ⟨#[83]⟩, ⟨#[115]⟩, ⟨#[102]⟩, ⟨#[70]⟩, ⟨#[102, 42]⟩, ⟨#[66]⟩, ⟨#[66, 42]⟩, ⟨#[98]⟩, ⟨#[98, 42]⟩, ⟨#[110]⟩, ⟨#[66, 84]⟩, ⟨#[69, 84]⟩, ⟨#[84, 42]⟩, ⟨#[84, 102]⟩, ⟨#[84, 109]⟩, ⟨#[84, 74]⟩, ⟨#[84, 99]⟩, ⟨#[84, 119]⟩, ⟨#[84, 122]⟩, ⟨#[84, 76]⟩, ⟨#[84, 114]⟩, ⟨#[84, 115]⟩, ⟨#[84, 100]⟩, ⟨#[84, 68]⟩, ⟨#[100, 48]⟩, ⟨#[100, 49]⟩, ⟨#[84, 106]⟩, ⟨#[39]⟩, ⟨#[34]⟩]
noncomputable def ssL : List Str := [⟨#[119]⟩, ⟨#[74]⟩, ⟨#[106]⟩, ⟨#[77]⟩, ⟨#[100]⟩, ⟨#[114, 105]⟩, ⟨#[105]⟩, ⟨#[103, 115]⟩, ⟨#[113]⟩, ⟨#[81]⟩, ⟨#[99, 109]⟩, ⟨#[109]⟩, ⟨#[108]⟩, ⟨#[99]⟩, ⟨#[118]⟩, ⟨#[121]⟩, ⟨#[104]⟩, ⟨#[114, 101]⟩, ⟨#[83]⟩, ⟨#[115]⟩, ⟨#[102]⟩, ⟨#[70]⟩, ⟨#[102, 42]⟩, ⟨#[66]⟩, ⟨#[66, 42]⟩, ⟨#[98]⟩, ⟨#[98, 42]⟩, ⟨#[110]⟩, ⟨#[87]⟩, ⟨#[87, 42]⟩, ⟨#[66, 84]⟩, ⟨#[69, 84]⟩, ⟨#[84, 99]⟩, ⟨#[84, 119]⟩, ⟨#[84, 122]⟩, ⟨#[84, 76]⟩, ⟨#[84, 102]⟩, ⟨#[84, 114]⟩, ⟨#[84, 115]⟩, ⟨#[84, 100]⟩, ⟨#[84, 68]⟩, ⟨#[84, 109]⟩, ⟨#[84, 42]⟩, ⟨#[84, 106]⟩, ⟨#[84, 74]⟩, ⟨#[39]⟩, ⟨#[34]⟩, ⟨#[100, 48]⟩, ⟨#[100, 49]⟩, ⟨#[67, 83]⟩, ⟨#[99, 115]⟩, ⟨#[83, 67]⟩, ⟨#[83, 67, 78]⟩, ⟨#[115, 99]⟩, ⟨#[115, 99, 110]⟩, ⟨#[71]⟩, ⟨#[103]⟩, ⟨#[82, 71]⟩, ⟨#[114, 103]⟩, ⟨#[75]⟩, ⟨#[107]⟩, ⟨#[115, 104]⟩, ⟨#[66, 73]⟩, ⟨#[68, 111]⟩, ⟨#[77, 80]⟩, ⟨#[68, 80]⟩, ⟨#[66, 77, 67]⟩, ⟨#[66, 68, 67]⟩, ⟨#[69, 77, 67]⟩, ⟨#[66, 88]⟩, ⟨#[69, 88]⟩]
noncomputable def srtW : List Str := [⟨#[34]⟩, ⟨#[39]⟩, ⟨#[66]⟩, ⟨#[66, 42]⟩, ⟨#[66, 68, 67]⟩, ⟨#[66, 73]⟩, ⟨#[66, 77, 67]⟩, ⟨#[66, 84]⟩, ⟨#[66, 88]⟩, ⟨#[67, 83]⟩, ⟨#[68, 80]⟩, ⟨#[68, 111]⟩, ⟨#[69, 77, 67]⟩, ⟨#[69, 84]⟩, ⟨#[69, 88]⟩, ⟨#[70]⟩, ⟨#[71]⟩, ⟨#[74]⟩, ⟨#[75]⟩, ⟨#[77]⟩, ⟨#[77, 80]⟩, ⟨#[81]⟩, ⟨#[82, 71]⟩, ⟨#[83]⟩, ⟨#[83, 67]⟩, ⟨#[83, 67, 78]⟩, ⟨#[84, 42]⟩, ⟨#[84, 68]⟩, ⟨#[84, 74]⟩, ⟨#[84, 76]⟩, ⟨#[84, 99]⟩, ⟨#[84, 100]⟩, ⟨#[84, 102]⟩, ⟨#[84, 106]⟩, ⟨#[84, 109]⟩, ⟨#[84, 114]⟩, ⟨#[84, 115]⟩, ⟨#[84, 119]⟩, ⟨#[84, 122]⟩, ⟨#[87]⟩, ⟨#[87, 42]⟩, ⟨#[98]⟩, ⟨#[98, 42]⟩, ⟨#[99]⟩, ⟨#[99, 109]⟩, ⟨#[99, 115]⟩, ⟨#[100]⟩, ⟨#[100, 48]⟩, ⟨#[100, 49]⟩, ⟨#[102]⟩, ⟨#[102, 42]⟩, ⟨#[103]⟩, ⟨#[103, 115]⟩, ⟨#[104]⟩, ⟨#[105]⟩, ⟨#[106]⟩, ⟨#[107]⟩, ⟨#[108]⟩, ⟨#[109]⟩, ⟨#[110]⟩, ⟨#[113]⟩, ⟨#[114, 101]⟩, ⟨#[114, 103]⟩, ⟨#[114, 105]⟩, ⟨#[115]⟩, ⟨#[115, 99]⟩, ⟨#[115, 99, 110]⟩, ⟨#[115, 104]⟩, ⟨#[118]⟩, ⟨#[119]⟩, ⟨#[121]⟩]
theorem chkA (tk : Nat → Tok) : srtChk ssA srtW tk = some true := by kernel_rfl
theorem chkL (tk : Nat → Tok) : srtChk ssL srtW tk = some true := by kernel_rfl
theorem strs_of : ∀ {vs : List Value} {ks : List Str}, vs.map strOr = ks → ks.all (fun k => k != ⟨#[63]⟩) = true → Strs vs ks
  | [], _, rfl, _ => .nil
  | v :: vs, _, rfl, h => by
    simp only [List.map_cons, List.all_cons, Bool.and_eq_true] at h
    cases v with
    | str k t => exact .cons (strs_of rfl h.2)
    | _ => exact absurd h.1 (by show ¬ (((⟨#[63]⟩ : Str) != ⟨#[63]⟩) = true); decide +kernel)
theorem Strs.toks {vs : List Value} {ks : List Str} (x : Strs vs ks) : ∀ n : Nat, ∃ tk : Nat → Tok, vs = (ks.zipIdx n).map fun p => Value.str p.1 (tk p.2) := by
  induction x with
  | nil => intro n; exact ⟨fun _ => 0, rfl⟩
  | @cons k t vs ks x ih =>
    intro n
    obtain ⟨tk, h⟩ := ih (n + 1)
    refine ⟨fun i => if i = n then t else tk i, ?_⟩
    rw [List.zipIdx_cons, List.map_cons]
    congr 1
    · simp
    · rw [h]
      refine List.map_congr_left fun p hp => ?_
      have : n + 1 ≤ p.2 := (List.mem_zipIdx hp).1
      show _ = Value.str p.fst (if p.2 = n then t else tk p.2)
      rw [if_neg (by omega)]
theorem pairs_keyed (ks : List Str) (tk : Nat → Tok) : pairsOf (ks.zipIdx.map fun p => Value.str p.1 (tk p.2)) = keyed0 ks tk := by
  unfold keyed0
  apply Array.ext'
  rw [pairsOf_toList]
  generalize ks.zipIdx = l
  induction l with
  | nil => rfl
  | cons a l ih => simpa using ih
theorem Strs.are {vs : List Value} {ks : List Str} (x : Strs vs ks) : StrsAre vs ks := by
  induction x with
  | nil => exact .nil
  | cons _ ih => exact .cons _ _ ih
section
variable {prog : Program} {w : World} {A : Around} {E : Value → Shared → Prop} {s : Shared}
theorem list_sortD {a : Addr} {vs : List Value} {n : Nat} {P : PySem.Fin → Shared → Prop} {st' : SortSt} (ho : s.heap.get? a = some (seqObj "list" vs.toArray n))
    (hkk : ∀ v₁ v₂ rest, vs = v₁ :: v₂ :: rest → keyKind' (v₁ :: v₂ :: rest).toArray = pure oneType') (h2 : 2 ≤ vs.length) (hv : vs.length ≤ 1000)
    (hp : p_sortRuns (SortSt.mk' oneType' (pairsOf vs) #[] 7 none) = some ((), st')) (hf : failedOf st' = none) (hz : (arrOf st').size ≤ 1000)
    (h : P (.done (.ret .none)) { s with heap := sortedHeap s.heap a vs ((arrOf st').map (·.2)) }) :
    wpAny (model prog w) A (Builtin.«list.sort» ⟨[.ref a], []⟩) P E s := by
  have hz0 : vs.toArray.size ≤ sizeLine := by rw [sizeLine_eq]; simp; omega
  have hz1 : vs.toArray.toList.length ≤ sizeLine := by rw [sizeLine_eq]; simp; omega
  have hz2 : vs.length ≤ sizeLine := by rw [sizeLine_eq]; omega
  rw [list_sort_plain]
  have ha : a < s.heap.objs.size := Heap.lt_size ho
  refine wpAny_bind (listItems_at ho rfl ?_)
  refine wpAny_bind (listUpdate_at ho rfl ?_)
  obtain ⟨e1, ho1⟩ : ∃ e1, (s.heap.update a (Obj.mapSeq fun _ => #[])).get? a = some (seqObj "list" #[] e1) := ⟨_, get?_update_seq ho (fun _ => #[])⟩
  refine wpAny_bind (seqEpoch_at ho1 rfl ?_)
  refine wpAny_bind (wpAny_newTuple ?_)
  refine wpAny_bind (wpAny_newList ?_)
  refine wpAny_holding ?_
  have ho6 : (((s.heap.update a (Obj.mapSeq fun _ => #[])).push (seqObj "tuple" vs.toArray 0)).push (seqObj "list" #[] 0)).get? a = some (seqObj "list" #[] e1) := by
    rw [Heap.get?_push_ne _ _ _ (by rw [size_push', Heap.size_update]; exact Nat.ne_of_lt (Nat.lt_succ_of_lt ha)), Heap.get?_push_ne _ _ _ (by rw [Heap.size_update]; exact Nat.ne_of_lt ha)]
    exact ho1
  show wpAny (model prog w) A _ P E { s with heap := ((s.heap.update a (Obj.mapSeq fun _ => #[])).push (seqObj "tuple" vs.toArray 0)).push (seqObj "list" #[] 0) }
  dsimp only
  have hsz : vs.toArray.size = vs.length := by simp
  rw [if_neg (by omega), if_neg (by omega)]
  obtain ⟨v₁, v₂, rest, rfl⟩ : ∃ v₁ v₂ rest, vs = v₁ :: v₂ :: rest := by
    cases vs with
    | nil => exact absurd h2 (Nat.not_succ_le_zero _)
    | cons v₁ r =>
      cases r with
      | nil => exact absurd (Nat.le_of_succ_le_succ h2) (Nat.not_succ_le_zero _)
      | cons v₂ rest => exact ⟨v₁, v₂, rest, rfl⟩
  rw [hkk _ _ _ rfl]
  refine wpAny_bind (wpAny_pure ?_)
  refine wpAny_bind (wpAny_mono ((det_sortRuns (SortSt.mk' oneType' ((v₁ :: v₂ :: rest).toArray.zip (v₁ :: v₂ :: rest).toArray) #[] 7 none) () st' rfl hp).2 (fun _ st => st = st') rfl) ?_ fun _ _ e => e)
  rintro ⟨⟨⟩, st''⟩ s' ⟨rfl, e⟩
  have e' : st'' = st' := e
  subst e'
  dsimp only
  refine wpAny_bind (seqEpoch_at ho6 rfl ?_)
  refine wpAny_bind (listUpdate_at ho6 rfl ?_ (hsz2 := by refine Nat.le_trans (Nat.le_of_eq (Array.size_map ..)) ?_; rw [sizeLine_eq]; omega))
  rw [hf]
  simp only [bne_self_eq_false, Bool.false_eq_true, if_false]
  exact wpAny_pure h
theorem sortedD {l : Addr} {vs : List Value} {Q : Value → Shared → Prop} {st' : SortSt} (hl : s.heap.IsList l vs.toArray) (hkk : ∀ v₁ v₂ rest, vs = v₁ :: v₂ :: rest → keyKind' (v₁ :: v₂ :: rest).toArray = pure oneType') (h2 : 2 ≤ vs.length) (hv : vs.length ≤ 1000)
    (hp : p_sortRuns (SortSt.mk' oneType' (pairsOf vs) #[] 7 none) = some ((), st')) (hf : failedOf st' = none) (hz : (arrOf st').size ≤ 1000)
    (h : Q (.ref (s.heap.objs.size + 1)) { s with heap := sortedAll s.heap vs ((arrOf st').map (·.2)) }) :
    wpAny (model prog w) A (call (.builtin "sorted") [.ref l]) Q E s := by
  have hz0 : vs.toArray.size ≤ sizeLine := by rw [sizeLine_eq]; simp; omega
  have hz2 : vs.length ≤ sizeLine := by rw [sizeLine_eq]; omega
  refine Calls.call_function_entry kind_sorted plain_sorted entry_sorted (args_sorted1 _) ?_
  unfold Builtin.«sorted»
  refine wpAny_bind (m := checkCount "sorted" 1 1 _) (wpAny_pure ?_)
  refine wpAny_bind (collect_list hl ?_)
  refine wpAny_bind (wpAny_newList ?_)
  have hsz : ((s.heap.push (seqObj "list" #[] 0)).update s.heap.objs.size (Obj.mapSeq (· ++ vs.toArray))).objs.size = s.heap.objs.size + 1 := by
    rw [Heap.size_update, size_push']
  have hoL : (((s.heap.push (seqObj "list" #[] 0)).update s.heap.objs.size (Obj.mapSeq (· ++ vs.toArray))).push (seqObj "list" vs.toArray 0)).get? (s.heap.objs.size + 1) = some (seqObj "list" vs.toArray 0) := by
    rw [← hsz]; exact Heap.get?_push_size _ rfl
  show wpAny _ _ _ _ _ { s with heap := ((s.heap.push (seqObj "list" #[] 0)).update s.heap.objs.size (Obj.mapSeq (· ++ vs.toArray))).push (seqObj "list" vs.toArray 0) }
  rw [hsz]
  refine wpAny_bind (wpAny_holding (wpAny_call_entry slot_list_sort ⟨_, hoL, rfl⟩ entry_list_sort (list_sortD hoL hkk h2 hv hp hf hz ⟨_, rfl, ?_⟩) (args_list_sort _)))
  exact wpAny_pure ⟨_, rfl, h⟩
theorem sort_words {ss srt : List Str} {h₀ : Heap} {L : Addr} {m : Str → Option Value} {news : List (Addr × Obj)} {l : Addr} {vs : List Value} {Q : Value → Shared → Prop} (chk : ∀ tk, srtChk ss srt tk = some true) (hq : srt.all (fun k => k != ⟨#[63]⟩) = true) (h2 : 2 ≤ ss.length) (hs : ss.length ≤ 1000) (hz : srt.length ≤ 1000)
    (F : Fr h₀ L s.heap m) (N : News h₀ L s.heap news) (hl : s.heap.IsList l vs.toArray) (hS : Strs vs ss)
    (h : ∀ (h' : Heap) (D : Addr) (vs' : List Value) (e : Nat), Fr h₀ L h' m → News h₀ L h' ((D, listOf vs'.toArray e) :: news) → (∀ p ∈ news, p.1 < D) → Strs vs' srt → Q (.ref D) { s with heap := h' }) :
    wpAny (model prog w) A (call (.builtin "sorted") [.ref l]) Q E s := by
  obtain ⟨tk, hvs⟩ := hS.toks 0
  have c := chk tk
  unfold srtChk at c
  obtain ⟨⟨⟨⟩, st'⟩, hp, hc⟩ := Option.map_eq_some_iff.mp c
  simp only [Bool.and_eq_true, Option.isNone_iff_eq_none, beq_iff_eq] at hc
  obtain ⟨hf, ho⟩ := hc
  rw [← pairs_keyed, ← hvs] at hp
  have hlen : (arrOf st').size ≤ 1000 := by
    have := congrArg List.length ho
    unfold outOf at this
    rw [List.length_map, Array.length_toList] at this
    omega
  refine sortedD hl (fun v₁ v₂ rest e => keyKind_strs (by rw [← e]; exact hS.are)) (by rw [hS.length]; exact h2) (by rw [hS.length]; exact hs) hp hf hlen ?_
  obtain ⟨e, he⟩ := sortedAll_at s.heap vs ((arrOf st').map (·.2))
  have hst : Strs ((arrOf st').map (·.2)).toList srt := by
    refine strs_of ?_ hq
    rw [Array.toList_map, List.map_map]
    exact ho
  have he' := he
  refine h _ (s.heap.objs.size + 1) ((arrOf st').map (·.2)).toList e (F.kept fun _ _ => sortedAll_old) (N.kept_cons F (fun _ _ => sortedAll_old) (Nat.le_succ _) ?_) (fun p hp => Nat.lt_succ_of_lt (Heap.lt_size (N p hp).1)) hst
  rw [Array.toArray_toList]
  exact he
end
end

section
set_option maxHeartbeats 4000000
open PySem PySem.W PyProof.Rows PySem.Calls PySem.Spec
theorem list_no_keys : typeLookup (.type "list") (Str.ofString "keys") = pure none := by rw [typeLookup_type, builtinLookup_eq_fast]; kernel_rfl
theorem keys_of_list {prog : Program} {w : World} {A : Around} {E : Value → Shared → Prop} {s : Shared} {a : Addr} {xs : Array Value} {k : Nat} {Q : Option Value → Shared → Prop}
    (hx : s.heap.get? a = some (listOf xs k)) (hA : A.handled = none) (h : ∀ h' tk, Ext s.heap h' → Q none { s with heap := h', toks := tk }) :
    wpAny (model prog w) A (getAttr? (.ref a) (Str.ofString "keys")) Q E s := by
  obtain ⟨hp, g, d, tk, os⟩ := s
  have hT : ∀ tk', (⟨hp, g, d, tk', os⟩ : Shared).TypeIs (.ref a) "list" := fun _ => ⟨_, hx, rfl⟩
  have f1 := sub_AttributeError
  have f3 := F.slot_list_getattribute.lookup
  have f4 := F.slot_list_getattribute.bind (.ref a)
  have f5 := am_list_getattr_none
  unfold getAttr? getAttrBy? getAttrBy
  repeat (any_goals (first | assumption | exact hT _ | ((with_reducible show wpAny _ _ (call (Value.builtin "list.__getattribute__") _ _) _ _ _); refine call_meets F.slot_list_getattribute (hT _) am_entry_list_getattribute (F.args_list_getattribute_2 _ _) (meets_getattribute_miss_list a xs k #[] (Str.ofString "keys") _ list_no_keys (by decide +kernel) (by rw [sizeLine_eq]; decide +kernel)) ⟨hx, hA, fun h' tk' e hx' => ?_⟩) | wp_step))
  obtain ⟨t', u', he⟩ := hx'.there
  show wpAny _ _ (getattributeRaised _ _ _ _ _ _ _) _ _ _
  unfold getattributeRaised
  repeat (any_goals (first | assumption | wp_step))
  all_goals first
    | exact h _ _ hx'.of.keeps
    | trace_state
/-- pairs of a text and a value, in tuples -/
inductive PrAt (h : Heap) : List Value → List (Str × Value) → Prop where
  | nil : PrAt h [] []
  | cons {T : Addr} {k : Str} {t : Tok} {v : Value} {vs : List Value} {l : List (Str × Value)} : h.IsTuple T #[.str k t, v] → PrAt h vs l → PrAt h (.ref T :: vs) ((k, v) :: l)
theorem PrAt.at {h : Heap} {vs : List Value} {l : List (Str × Value)} (x : PrAt h vs l) : ∀ {i : Nat} {u : Value}, vs[i]? = some u → ∃ T k t v, u = .ref T ∧ l[i]? = some (k, v) ∧ h.IsTuple T #[.str k t, v] := by
  induction x with
  | nil => intro i u e; simp at e
  | cons a _ ih =>
    intro i u e
    cases i with
    | zero => simp at e; subst e; exact ⟨_, _, _, _, rfl, rfl, a⟩
    | succ i => simpa using ih (by simpa using e)
theorem PrAt.length {h : Heap} {vs : List Value} {l : List (Str × Value)} (x : PrAt h vs l) : vs.length = l.length := by
  induction x with
  | nil => rfl
  | cons _ _ ih => simp [ih]
theorem entry_dul : entryFor table "dict.update.loop" = some Builtin.«dict.update.loop» := entryFor_of_tree (by kernel_rfl)
theorem plain_dul : plainId "dict.update.loop" = true := by decide +kernel
section
variable {prog : Program} {w : World} {A : Around} {E : Value → Shared → Prop} {s : Shared}
theorem pair_items {T : Addr} {a b : Value} {Q : List Value → Shared → Prop} (ht : s.heap.IsTuple T #[a, b]) (h : Q [a, b] s) : wpAny (model prog w) A (Builtin.Dict.pairItems (.ref T)) Q E s := by
  unfold Builtin.Dict.pairItems
  obtain ⟨o, ho, hc, n, hd⟩ := id ht
  refine wpAny_bind (wpAny_typeOf (T := "tuple") ⟨o, ho, hc⟩ ?_)
  have h1 : (Value.type "tuple" == Value.type "list" || Value.type "tuple" == Value.type "tuple") = true := by decide
  rw [if_pos h1]
  exact wpAny_bind (wpAny_seqItems ho hd (wpAny_pure h))
theorem dict_loop {h₀ : Heap} {d I l : Addr} {vs : List Value} {prs : List (Str × Value)} {R : Result → Shared → Prop} (hh : A.handled = none) (hP : PrAt h₀ vs prs) (hl : h₀.IsList l vs.toArray) (hn : (prs.map (·.1)).Nodup) (hz : prs.length ≤ 1000) (hd0 : h₀.get? d = none) (hI0 : h₀.get? I = none) (hdI : d ≠ I) (hlI : l ≠ I) (hld : l ≠ d)
    (hR : ∀ h' tk, Ext h₀ h' → h'.DictOf (strKind prog w) d prs → R (.ok (.ret .none)) { s with heap := h', toks := tk }) :
    ∀ (k i : Nat) (h : Heap) (tk : Nat), i + k = prs.length → Ext h₀ h → h.IsListIter I l i → h.DictOf (strKind prog w) d (prs.take i) →
      codeAny (model prog w) A (.builtin "dict.update.loop" ⟨[.ref d, .ref I, .int (i : Int) 0, .none], []⟩) R { s with heap := h, toks := tk } := by
  intro k
  induction k with
  | zero =>
    intro i h tk hi hk hit hD
    refine codeAny_builtin entry_dul ?_
    have hin : i = vs.toArray.size := by rw [List.size_toArray, hP.length]; omega
    subst hin
    have W := Walks.list (prog := prog) (w := w) (A := A.under (.builtin "dict.update.loop" ⟨[.ref d, .ref I, .int ((vs.toArray.size : Nat) : Int) 0, .none], []⟩)) hh I l hlI vs.toArray
    show wpAny _ _ (pyNext (.ref I) >>= _) _ _ _
    refine wpAny_bind (W.done _ _ _ ⟨hit, hl.at fun o e => hk _ _ e⟩ fun h' tk' hk' => ?_)
    have up : Ext h₀ h' := fun b o e => hk' b o (fun hm => by
      rw [List.mem_singleton.mp hm] at e
      rw [hI0] at e; cases e) (hk b o e)
    have hD' : h'.DictOf (strKind prog w) d prs := by
      have : prs.take vs.toArray.size = prs := List.take_of_length_le (by rw [List.size_toArray, hP.length]; exact Nat.le_refl _)
      rw [this] at hD
      exact hD.at fun o e => hk' _ o (fun hm => hdI (List.mem_singleton.mp hm)) e
    show wpAny _ _ (Builtin.Dict.addKeywords d [] >>= _) _ _ _
    exact wpAny_bind (wpAny_pure (wpAny_pure (hR h' tk' up hD')))
  | succ k ih =>
    intro i h tk hi hk hit hD
    refine codeAny_builtin entry_dul ?_
    have hlt : i < vs.toArray.size := by rw [List.size_toArray, hP.length]; omega
    have W := Walks.list (prog := prog) (w := w) (A := A.under (.builtin "dict.update.loop" ⟨[.ref d, .ref I, .int (i : Int) 0, .none], []⟩)) hh I l hlI vs.toArray
    show wpAny _ _ (pyNext (.ref I) >>= _) _ _ _
    refine wpAny_bind (W.item i _ _ _ hlt ⟨hit, hl.at fun o e => hk _ _ e⟩ fun v h' tk' hv st hk' => ?_)
    have hv' : vs[i]? = some v := by simpa using hv
    obtain ⟨T, ky, t, u, rfl, hp, hT⟩ := hP.at hv'
    have up : Ext h₀ h' := fun b o e => hk' b o (fun hm => by
      rw [List.mem_singleton.mp hm] at e
      rw [hI0] at e; cases e) (hk b o e)
    have hD' : h'.DictOf (strKind prog w) d (prs.take i) := hD.at fun o e => hk' _ o (fun hm => hdI (List.mem_singleton.mp hm)) e
    refine wpAny_bind (wpAny_holding ?_)
    refine wpAny_bind (wpAny_tryCatch (pair_items (hT.at fun o e => up _ _ e) ?_))
    show wpAny _ _ (holding _ _) _ _ _
    have hi' : i < prs.length := (List.getElem?_eq_some_iff.mp hp).1
    refine wpAny_holding (wpAny_dictSet_pairs (hsz := by rw [List.length_take, sizeLine_eq]; omega) (strKind_is _ _ _ _) hD' fun h'' hD'' hs => ?_)
    have up2 : Ext h₀ h'' := fun b o e => hs.extBut b o (fun q => by rw [q] at e; rw [hd0] at e; cases e) (up b o e)
    refine wpAny_pure ⟨plainId_quiet plain_dul _, ?_⟩
    refine ih (i + 1) h'' _ (by omega) up2 (st.1.at fun o e => hs.extBut _ o (Ne.symm hdI) e) ?_
    have hab : valueAt (prs.take i) ky = none := by
      unfold valueAt
      rw [Option.map_eq_none_iff, List.find?_eq_none]
      intro p hpm
      simp only [decide_eq_true_eq]
      intro q
      have e2 : prs = prs.take i ++ prs.drop i := (List.take_append_drop i prs).symm
      have hk2 : (ky, u) ∈ prs.drop i := by
        rw [List.mem_iff_getElem?]
        exact ⟨0, by rw [List.getElem?_drop]; simpa using hp⟩
      rw [e2, List.map_append, List.nodup_append] at hn
      exact hn.2.2 _ (List.mem_map.mpr ⟨p, hpm, rfl⟩) _ (List.mem_map.mpr ⟨(ky, u), hk2, rfl⟩) q
    rw [stored_absent hab] at hD''
    have e3 : prs.take (i + 1) = prs.take i ++ [(ky, u)] := by rw [List.take_add_one, hp]; rfl
    rw [e3]; exact hD''
theorem dict_of_list {l : Addr} {vs : List Value} {n : Nat} {prs : List (Str × Value)} {h₀ : Heap} {L : Addr} {m : Str → Option Value} {news : List (Addr × Obj)} {Q : Value → Shared → Prop} (hh : A.handled = none) (Fm : Fr h₀ L s.heap m) (N : News h₀ L s.heap news) (hbig : sysModules < h₀.objs.size) (hx : s.heap.get? l = some (listOf vs.toArray n)) (hP : PrAt s.heap vs prs) (hn : (prs.map (·.1)).Nodup) (hz : prs.length ≤ 1000)
    (h : ∀ h' tk d o, Fr h₀ L h' m → News h₀ L h' ((d, o) :: news) → (∀ p ∈ news, p.1 < d) → (d == sysModules) = false → o.IsDictOf (strKind prog w) prs → Q (.ref d) { s with heap := h', toks := tk }) :
    wpAny (model prog w) A (call (.type "dict") [.ref l]) Q E s := by
  refine callType_codes (Q₁ := fun obj s₁ => obj = .ref s.heap.objs.size ∧ s₁ = { s with heap := s.heap.push { cls := .type "dict", data := .dict #[] } }) F.kt_called_dict (F.kt_typeCall_dict_1 _) F.entry_dict_init (kt_code_dict_new _ ⟨rfl, rfl⟩) ?_
  rintro obj s₁ ⟨rfl, rfl⟩
  have hnew : (s.heap.push { cls := .type "dict", data := .dict #[] }).DictOf (strKind prog w) s.heap.objs.size [] := Heap.DictOf.new s.heap
  refine ⟨hnew.typeIs, F.args_dict_init_2 _ _, ?_⟩
  unfold Builtin.«dict.__init__»
  refine wpAny_bind ?_
  unfold Builtin.Dict.selfAndRest
  refine wpAny_bind (wpAny_notOrdered_dict hnew.typeIs ?_)
  show wpAny _ _ (pure (s.heap.objs.size, [Value.ref l])) _ _ _
  refine wpAny_pure ?_
  show wpAny _ _ (Builtin.Dict.updateFrom "dict.__init__" s.heap.objs.size (.ref l) [] .none) _ _ _
  unfold Builtin.Dict.updateFrom
  have hx1 : (s.heap.push { cls := .type "dict", data := .dict #[] }).get? l = some (listOf vs.toArray n) := Heap.get?_push_of_some _ hx
  refine wpAny_bind (wpAny_typeOf (T := "list") ⟨_, hx1, rfl⟩ ?_)
  rw [if_pos (by decide)]
  refine wpAny_bind (keys_of_list hx1 hh fun h1 tk1 e1 => ?_)
  rw [if_pos (by rfl)]
  refine wpAny_bind (wpAny_rule ?_)
  have hl1 : h1.IsList l vs.toArray := ⟨_, e1 _ _ hx1, rfl, _, rfl⟩
  refine wpAny_bind (wpAny_pyIter_list hl1 ?_)
  have up : Ext s.heap h1 := fun b o e => e1 _ _ (Heap.get?_push_of_some _ e)
  have hlt : l < s.heap.objs.size := Heap.lt_size hx
  have hsz1 : s.heap.objs.size < h1.objs.size := by
    obtain ⟨_, _, _, ho, _⟩ := hnew
    exact Heap.lt_size (e1 _ _ ho)
  have hD1 : (h1.push { cls := .type "list_iterator", data := .fields #[.ref l, .int 0 0] }).DictOf (strKind prog w) s.heap.objs.size [] := (hnew.at fun o e => e1 _ _ e).push _
  refine wpAny_pure ⟨plainId_quiet plain_dul _, ?_⟩
  refine dict_loop (A := A.in1) (s := s) (h₀ := s.heap) (R := wants (fun r s₂ => r = Value.none ∧ Q (Value.ref s.heap.objs.size) s₂) E) hh hP ⟨_, hx, rfl, _, rfl⟩ hn hz (size_none (Nat.le_refl _)) (size_none (Nat.le_of_lt hsz1)) (Nat.ne_of_lt hsz1) (Nat.ne_of_lt (Nat.lt_trans hlt hsz1)) (Nat.ne_of_lt hlt) (fun h' tk' ex hd => ?_) prs.length 0 _ _ (Nat.zero_add _) (fun b o e => Heap.get?_push_of_some _ (up b o e)) ⟨_, Heap.get?_push_size _ rfl, rfl, rfl⟩ (by simpa using hD1)
  obtain ⟨o', ho', hd'⟩ := Heap.dictOf_iff.mp hd
  refine ⟨rfl, h h' tk' s.heap.objs.size o' (fr_ext Fm ex) (fun p hp => ?_) (fun p hp => Heap.lt_size (N p hp).1) (Fm.notModules hbig) hd'⟩
  rcases List.mem_cons.mp hp with rfl | hp
  · exact ⟨ho', Ne.symm (Nat.ne_of_lt Fm.ns.lt), next_is_new Fm⟩
  · exact ⟨ex _ _ (N p hp).1, (N p hp).2⟩
end
end

section
set_option maxHeartbeats 4000000
open PySem PySem.W PyProof.Rows PySem.Calls PySem.Spec
noncomputable def rowsL : List Str := [⟨#[119, 32, 110]⟩, ⟨#[74, 32, 110]⟩, ⟨#[106, 32, 110]⟩, ⟨#[77, 32, 110]⟩, ⟨#[100, 32, 97, 110]⟩, ⟨#[114, 105, 32, 78]⟩, ⟨#[105, 32, 110]⟩, ⟨#[103, 115, 32, 78]⟩, ⟨#[113]⟩, ⟨#[81]⟩, ⟨#[99, 109, 32, 110, 110, 110, 110, 110, 110]⟩, ⟨#[109, 32, 110, 110]⟩, ⟨#[108, 32, 110, 110]⟩, ⟨#[99, 32, 110, 110, 110, 110, 110, 110]⟩, ⟨#[118, 32, 110, 110, 110, 110]⟩, ⟨#[121, 32, 110, 110, 110, 110]⟩, ⟨#[104]⟩, ⟨#[114, 101, 32, 110, 110, 110, 110]⟩, ⟨#[83]⟩, ⟨#[115]⟩, ⟨#[102]⟩, ⟨#[70]⟩, ⟨#[102, 42]⟩, ⟨#[66]⟩, ⟨#[66, 42]⟩, ⟨#[98]⟩, ⟨#[98, 42]⟩, ⟨#[110]⟩, ⟨#[87]⟩, ⟨#[87, 42]⟩, ⟨#[66, 84]⟩, ⟨#[69, 84]⟩, ⟨#[84, 99, 32, 110]⟩, ⟨#[84, 119, 32, 110]⟩, ⟨#[84, 122, 32, 110]⟩, ⟨#[84, 76, 32, 110]⟩, ⟨#[84, 102, 32, 78, 110]⟩, ⟨#[84, 114, 32, 110]⟩, ⟨#[84, 115, 32, 110]⟩, ⟨#[84, 100, 32, 110, 110]⟩, ⟨#[84, 68, 32, 110, 110]⟩, ⟨#[84, 109, 32, 110, 110, 110, 110, 110, 110]⟩, ⟨#[84, 42]⟩, ⟨#[84, 106, 32, 115]⟩, ⟨#[84, 74, 32, 116]⟩, ⟨#[39, 32, 115]⟩, ⟨#[34, 32, 110, 110, 115]⟩, ⟨#[100, 48, 32, 110, 110]⟩, ⟨#[100, 49, 32, 110, 110, 110, 110, 110, 110]⟩, ⟨#[67, 83, 32, 78]⟩, ⟨#[99, 115, 32, 78]⟩, ⟨#[83, 67, 32, 43]⟩, ⟨#[83, 67, 78, 32, 42]⟩, ⟨#[115, 99, 32, 43]⟩, ⟨#[115, 99, 110, 32, 42]⟩, ⟨#[71, 32, 110]⟩, ⟨#[103, 32, 110]⟩, ⟨#[82, 71, 32, 110, 110, 110]⟩, ⟨#[114, 103, 32, 110, 110, 110]⟩, ⟨#[75, 32, 110, 110, 110, 110]⟩, ⟨#[107, 32, 110, 110, 110, 110]⟩, ⟨#[115, 104, 32, 78]⟩, ⟨#[66, 73, 32, 68, 115]⟩, ⟨#[68, 111, 32, 78]⟩, ⟨#[77, 80, 32, 78]⟩, ⟨#[68, 80, 32, 78, 80]⟩, ⟨#[66, 77, 67, 32, 78]⟩, ⟨#[66, 68, 67, 32, 78, 80]⟩, ⟨#[69, 77, 67]⟩, ⟨#[66, 88]⟩, ⟨#[69, 88]⟩]
noncomputable def lawTab : List (Str × Str) := [(⟨#[119]⟩, ⟨#[110]⟩), (⟨#[74]⟩, ⟨#[110]⟩), (⟨#[106]⟩, ⟨#[110]⟩), (⟨#[77]⟩, ⟨#[110]⟩), (⟨#[100]⟩, ⟨#[97, 110]⟩), (⟨#[114, 105]⟩, ⟨#[78]⟩), (⟨#[105]⟩, ⟨#[110]⟩), (⟨#[103, 115]⟩, ⟨#[78]⟩), (⟨#[113]⟩, ⟨#[]⟩), (⟨#[81]⟩, ⟨#[]⟩), (⟨#[99, 109]⟩, ⟨#[110, 110, 110, 110, 110, 110]⟩), (⟨#[109]⟩, ⟨#[110, 110]⟩), (⟨#[108]⟩, ⟨#[110, 110]⟩), (⟨#[99]⟩, ⟨#[110, 110, 110, 110, 110, 110]⟩), (⟨#[118]⟩, ⟨#[110, 110, 110, 110]⟩), (⟨#[121]⟩, ⟨#[110, 110, 110, 110]⟩), (⟨#[104]⟩, ⟨#[]⟩), (⟨#[114, 101]⟩, ⟨#[110, 110, 110, 110]⟩), (⟨#[83]⟩, ⟨#[]⟩), (⟨#[115]⟩, ⟨#[]⟩), (⟨#[102]⟩, ⟨#[]⟩), (⟨#[70]⟩, ⟨#[]⟩), (⟨#[102, 42]⟩, ⟨#[]⟩), (⟨#[66]⟩, ⟨#[]⟩), (⟨#[66, 42]⟩, ⟨#[]⟩), (⟨#[98]⟩, ⟨#[]⟩), (⟨#[98, 42]⟩, ⟨#[]⟩), (⟨#[110]⟩, ⟨#[]⟩), (⟨#[87]⟩, ⟨#[]⟩), (⟨#[87, 42]⟩, ⟨#[]⟩), (⟨#[66, 84]⟩, ⟨#[]⟩), (⟨#[69, 84]⟩, ⟨#[]⟩), (⟨#[84, 99]⟩, ⟨#[110]⟩), (⟨#[84, 119]⟩, ⟨#[110]⟩), (⟨#[84, 122]⟩, ⟨#[110]⟩), (⟨#[84, 76]⟩, ⟨#[110]⟩), (⟨#[84, 102]⟩, ⟨#[78, 110]⟩), (⟨#[84, 114]⟩, ⟨#[110]⟩), (⟨#[84, 115]⟩, ⟨#[110]⟩), (⟨#[84, 100]⟩, ⟨#[110, 110]⟩), (⟨#[84, 68]⟩, ⟨#[110, 110]⟩), (⟨#[84, 109]⟩, ⟨#[110, 110, 110, 110, 110, 110]⟩), (⟨#[84, 42]⟩, ⟨#[]⟩), (⟨#[84, 106]⟩, ⟨#[115]⟩), (⟨#[84, 74]⟩, ⟨#[116]⟩), (⟨#[39]⟩, ⟨#[115]⟩), (⟨#[34]⟩, ⟨#[110, 110, 115]⟩), (⟨#[100, 48]⟩, ⟨#[110, 110]⟩), (⟨#[100, 49]⟩, ⟨#[110, 110, 110, 110, 110, 110]⟩), (⟨#[67, 83]⟩, ⟨#[78]⟩), (⟨#[99, 115]⟩, ⟨#[78]⟩), (⟨#[83, 67]⟩, ⟨#[43]⟩), (⟨#[83, 67, 78]⟩, ⟨#[42]⟩), (⟨#[115, 99]⟩, ⟨#[43]⟩), (⟨#[115, 99, 110]⟩, ⟨#[42]⟩), (⟨#[71]⟩, ⟨#[110]⟩), (⟨#[103]⟩, ⟨#[110]⟩), (⟨#[82, 71]⟩, ⟨#[110, 110, 110]⟩), (⟨#[114, 103]⟩, ⟨#[110, 110, 110]⟩), (⟨#[75]⟩, ⟨#[110, 110, 110, 110]⟩), (⟨#[107]⟩, ⟨#[110, 110, 110, 110]⟩), (⟨#[115, 104]⟩, ⟨#[78]⟩), (⟨#[66, 73]⟩, ⟨#[68, 115]⟩), (⟨#[68, 111]⟩, ⟨#[78]⟩), (⟨#[77, 80]⟩, ⟨#[78]⟩), (⟨#[68, 80]⟩, ⟨#[78, 80]⟩), (⟨#[66, 77, 67]⟩, ⟨#[78]⟩), (⟨#[66, 68, 67]⟩, ⟨#[78, 80]⟩), (⟨#[69, 77, 67]⟩, ⟨#[]⟩), (⟨#[66, 88]⟩, ⟨#[]⟩), (⟨#[69, 88]⟩, ⟨#[]⟩)]
theorem rows_ok : (rowsL.zip lawTab).all (fun p => (Txt.split p.1 (Str.ofString " ") == [p.2.1] && p.2.2 == Str.ofString "") || Txt.split p.1 (Str.ofString " ") == [p.2.1, p.2.2]) = true := by decide +kernel
theorem rows_len : rowsL.length = 71 ∧ lawTab.length = 71 := by decide +kernel
theorem row_at {i : Nat} {r wd sg : Str} (h1 : rowsL[i]? = some r) (h2 : lawTab[i]? = some (wd, sg)) : (Txt.split r (Str.ofString " ") = [wd] ∧ sg = Str.ofString "") ∨ Txt.split r (Str.ofString " ") = [wd, sg] := by
  have hm : (r, wd, sg) ∈ rowsL.zip lawTab := by
    rw [List.mem_iff_getElem?]
    exact ⟨i, by rw [List.getElem?_zip_eq_some]; exact ⟨h1, h2⟩⟩
  have := List.all_eq_true.mp rows_ok _ hm
  simpa using this
theorem split_0 {l : List (Str × Tok)} {r wd sg : Str} (e : l.map (·.1) = Txt.split r (Str.ofString " ")) (h : (Txt.split r (Str.ofString " ") = [wd] ∧ sg = Str.ofString "") ∨ Txt.split r (Str.ofString " ") = [wd, sg]) : ∃ t, (strValues l)[0]? = some (.str wd t) := by
  have e0 : (l.map (·.1))[0]? = some wd := by
    rw [e]
    rcases h with ⟨h, _⟩ | h <;> rw [h] <;> rfl
  cases l with
  | nil => cases e0
  | cons p l => obtain ⟨a, t⟩ := p; simp at e0; subst e0; exact ⟨t, rfl⟩
theorem split_1 {l : List (Str × Tok)} {r wd sg : Str} {u : Tok} (e : l.map (·.1) = Txt.split r (Str.ofString " ")) (h : (Txt.split r (Str.ofString " ") = [wd] ∧ sg = Str.ofString "") ∨ Txt.split r (Str.ofString " ") = [wd, sg]) : ∃ t, (strValues l ++ [Value.str (Str.ofString "") u])[1]? = some (.str sg t) := by
  rcases h with ⟨h, rfl⟩ | h
  · rw [h] at e
    cases l with
    | nil => cases e
    | cons p l =>
      cases l with
      | nil => exact ⟨u, rfl⟩
      | cons q l => simp at e
  · rw [h] at e
    cases l with
    | nil => cases e
    | cons p l =>
      cases l with
      | nil => simp at e
      | cons q l =>
        obtain ⟨a, t⟩ := q
        simp at e
        obtain ⟨_, rfl, _⟩ := e
        exact ⟨t, rfl⟩
theorem split_len {l : List (Str × Tok)} {r wd sg : Str} (e : l.map (·.1) = Txt.split r (Str.ofString " ")) (h : (Txt.split r (Str.ofString " ") = [wd] ∧ sg = Str.ofString "") ∨ Txt.split r (Str.ofString " ") = [wd, sg]) : (strValues l).length ≤ 2 := by
  have e1 := congrArg List.length e
  rw [List.length_map] at e1
  unfold strValues
  rw [List.length_map, e1]
  rcases h with ⟨h, _⟩ | h <;> rw [h] <;> simp
/-- pairs of two texts, in tuples of a ledger -/
inductive SgL (tl : List (Addr × Obj)) : List Value → List (Str × Str) → Prop where
  | nil : SgL tl [] []
  | cons {T : Addr} {k s : Str} {t u : Tok} {n : Nat} {vs : List Value} {l : List (Str × Str)} : (T, ({ cls := .type "tuple", data := .seq #[.str k t, .str s u] n } : Obj)) ∈ tl → SgL tl vs l → SgL tl (.ref T :: vs) ((k, s) :: l)
theorem SgL.sub {tl tl' : List (Addr × Obj)} {vs : List Value} {l : List (Str × Str)} (x : SgL tl vs l) (h : ∀ p ∈ tl, p ∈ tl') : SgL tl' vs l := by
  induction x with
  | nil => exact .nil
  | cons a _ ih => exact .cons (h _ a) ih
theorem SgL.snoc {tl : List (Addr × Obj)} {vs : List Value} {l : List (Str × Str)} (x : SgL tl vs l) {T : Addr} {k s : Str} {t u : Tok} {n : Nat} (h : (T, ({ cls := .type "tuple", data := .seq #[.str k t, .str s u] n } : Obj)) ∈ tl) : SgL tl (vs ++ [.ref T]) (l ++ [(k, s)]) := by
  induction x with
  | nil => exact .cons h .nil
  | cons a _ ih => exact .cons a ih
/-- a dict's pairs: words, each with its signs -/
inductive SgK : List (Str × Value) → List (Str × Str) → Prop where
  | nil : SgK [] []
  | cons {k s : Str} {t : Tok} {kvs : List (Str × Value)} {l : List (Str × Str)} : SgK kvs l → SgK ((k, .str s t) :: kvs) ((k, s) :: l)
theorem SgK.keys {kvs : List (Str × Value)} {l : List (Str × Str)} (x : SgK kvs l) : kvs.map (·.1) = l.map (·.1) := by
  induction x with
  | nil => rfl
  | cons _ ih => simp [ih]
theorem SgK.length {kvs : List (Str × Value)} {l : List (Str × Str)} (x : SgK kvs l) : kvs.length = l.length := by
  induction x with
  | nil => rfl
  | cons _ ih => simp [ih]
theorem SgL.prs {tl : List (Addr × Obj)} {vs : List Value} {l : List (Str × Str)} (x : SgL tl vs l) {h : Heap} (N : ∀ p ∈ tl, h.get? p.1 = some p.2) : ∃ kvs, PrAt h vs kvs ∧ SgK kvs l := by
  induction x with
  | nil => exact ⟨[], .nil, .nil⟩
  | cons a _ ih =>
    obtain ⟨kvs, h1, h2⟩ := ih
    exact ⟨_, .cons ⟨_, N _ a, rfl, _, rfl⟩ h1, .cons h2⟩
theorem lawTab_nodup : (lawTab.map (·.1)).Nodup := by decide +kernel
noncomputable def rowsT : Str := ⟨#[119, 32, 110, 124, 74, 32, 110, 124, 106, 32, 110, 124, 77, 32, 110, 124, 100, 32, 97, 110, 124, 114, 105, 32, 78, 124, 105, 32, 110, 124, 103, 115, 32, 78, 124, 113, 124, 81, 124, 99, 109, 32, 110, 110, 110, 110, 110, 110, 124, 109, 32, 110, 110, 124, 108, 32, 110, 110, 124, 99, 32, 110, 110, 110, 110, 110, 110, 124, 118, 32, 110, 110, 110, 110, 124, 121, 32, 110, 110, 110, 110, 124, 104, 124, 114, 101, 32, 110, 110, 110, 110, 124, 83, 124, 115, 124, 102, 124, 70, 124, 102, 42, 124, 66, 124, 66, 42, 124, 98, 124, 98, 42, 124, 110, 124, 87, 124, 87, 42, 124, 66, 84, 124, 69, 84, 124, 84, 99, 32, 110, 124, 84, 119, 32, 110, 124, 84, 122, 32, 110, 124, 84, 76, 32, 110, 124, 84, 102, 32, 78, 110, 124, 84, 114, 32, 110, 124, 84, 115, 32, 110, 124, 84, 100, 32, 110, 110, 124, 84, 68, 32, 110, 110, 124, 84, 109, 32, 110, 110, 110, 110, 110, 110, 124, 84, 42, 124, 84, 106, 32, 115, 124, 84, 74, 32, 116, 124, 39, 32, 115, 124, 34, 32, 110, 110, 115, 124, 100, 48, 32, 110, 110, 124, 100, 49, 32, 110, 110, 110, 110, 110, 110, 124, 67, 83, 32, 78, 124, 99, 115, 32, 78, 124, 83, 67, 32, 43, 124, 83, 67, 78, 32, 42, 124, 115, 99, 32, 43, 124, 115, 99, 110, 32, 42, 124, 71, 32, 110, 124, 103, 32, 110, 124, 82, 71, 32, 110, 110, 110, 124, 114, 103, 32, 110, 110, 110, 124, 75, 32, 110, 110, 110, 110, 124, 107, 32, 110, 110, 110, 110, 124, 115, 104, 32, 78, 124, 66, 73, 32, 68, 115, 124, 68, 111, 32, 78, 124, 77, 80, 32, 78, 124, 68, 80, 32, 78, 80, 124, 66, 77, 67, 32, 78, 124, 66, 68, 67, 32, 78, 80, 124, 69, 77, 67, 124, 66, 88, 124, 69, 88]⟩
theorem rt1 : (Str.ofString "w n|J n|j n|M n|d an|ri N|i n|gs N|q|Q|cm nnnnnn|m nn|l nn|c nnnnnn|v nnnn|y nnnn|h|re nnnn|S|s|f|F|f*|B|B*|b|b*|n|W|W*|BT|ET|Tc n|Tw n|Tz n|TL n|Tf Nn|Tr n|Ts n|Td nn|TD nn|Tm nnnnnn|T*|Tj s|TJ t|' s|\" nns|d0 nn|d1 nnnnnn" ++ Str.ofString "|CS N|cs N|SC +|SCN *|sc +|scn *|G n|g n|RG nnn|rg nnn|K nnnn|k nnnn|sh N|BI Ds|Do N|MP N|DP NP|BMC N|BDC NP|EMC|BX|EX") = rowsT := by kernel_rfl
theorem rt2 : Txt.split rowsT ⟨#[124]⟩ = rowsL := by kernel_rfl
theorem rt0 : Txt.split (Str.ofString "w n|J n|j n|M n|d an|ri N|i n|gs N|q|Q|cm nnnnnn|m nn|l nn|c nnnnnn|v nnnn|y nnnn|h|re nnnn|S|s|f|F|f*|B|B*|b|b*|n|W|W*|BT|ET|Tc n|Tw n|Tz n|TL n|Tf Nn|Tr n|Ts n|Td nn|TD nn|Tm nnnnnn|T*|Tj s|TJ t|' s|\" nns|d0 nn|d1 nnnnnn" ++ Str.ofString "|CS N|cs N|SC +|SCN *|sc +|scn *|G n|g n|RG nnn|rg nnn|K nnnn|k nnnn|sh N|BI Ds|Do N|MP N|DP NP|BMC N|BDC NP|EMC|BX|EX") (Str.ofString "|") = rowsL := by
  rw [rt1, show Str.ofString "|" = ⟨#[124]⟩ from by decide +kernel]
  exact rt2
end

section
set_option maxHeartbeats 40000000
open PySem PySem.W PyProof.Rows PySem.Calls PySem.Spec
theorem row_size {i : Nat} {r : Str} (h : rowsL[i]? = some r) : r.length + 2 ≤ sizeLine := by
  have key : rowsL.all (fun r => decide (r.length ≤ 100)) = true := by decide +kernel
  have := List.all_eq_true.mp key r (List.mem_of_getElem? h)
  rw [sizeLine_eq]
  have := of_decide_eq_true this
  omega
noncomputable def WordsJ (a : Addr) (o : Obj) (i : Nat) (ys : List Value) (nw : List (Addr × Obj)) : Prop := ∃ tl, nw = (a, o) :: tl ∧ SgL tl ys (lawTab.take i)
theorem words_end {h₀ h' : Heap} {L I C D a T : Addr} {oI oC oD o : Obj} {m : Str → Option Value} {s : Shared} {tl all : List (Addr × Obj)} {ys : List Value} {S : List (Addr × Obj) → Prop} {wd sg : Str} {t u : Tok} {n i tk' : Nat}
    (F : Fr h₀ L h' m) (N : News h₀ L h' all) (off : LCg.Off3 I C D ((a, o) :: tl)) (hT : (T, ({ cls := .type "tuple", data := .seq #[.str wd t, .str sg u] n } : Obj)) ∈ all) (hsub : ∀ q ∈ (I, oI) :: (C, oC) :: (D, oD) :: (a, o) :: tl, q ∈ all) (a1 : @Ne Nat T I) (a2 : @Ne Nat T C) (a3 : @Ne Nat T D)
    (hS : SgL tl ys (lawTab.take i)) (hp : lawTab[i]? = some (wd, sg)) (hsrc : ∀ nw, (a, o) ∈ nw → S nw) :
    LCg.CompEnd h₀ L m s I oI C oC D oD S (fun y nw' => WordsJ a o (i + 1) (ys ++ [y]) nw') (.ref T) { s with heap := h', toks := tk' } := by
  refine LCg.CompEnd.intro F N ((a, o) :: (T, ({ cls := .type "tuple", data := .seq #[.str wd t, .str sg u] n } : Obj)) :: tl) (fun q hq => ?_) ⟨off.1, ⟨a1, a2, a3⟩, off.2⟩ (hsrc _ (List.mem_cons_self ..)) ⟨_, rfl, ?_⟩
  · rcases List.mem_cons.mp hq with rfl | hq
    · exact hsub _ (List.mem_cons_self ..)
    rcases List.mem_cons.mp hq with rfl | hq
    · exact hsub _ (List.mem_cons_of_mem _ (List.mem_cons_self ..))
    rcases List.mem_cons.mp hq with rfl | hq
    · exact hsub _ (List.mem_cons_of_mem _ (List.mem_cons_of_mem _ (List.mem_cons_self ..)))
    rcases List.mem_cons.mp hq with rfl | hq
    · exact hsub _ (List.mem_cons_of_mem _ (List.mem_cons_of_mem _ (List.mem_cons_of_mem _ (List.mem_cons_self ..))))
    rcases List.mem_cons.mp hq with rfl | hq
    · exact hT
    · exact hsub _ (List.mem_cons_of_mem _ (List.mem_cons_of_mem _ (List.mem_cons_of_mem _ (List.mem_cons_of_mem _ hq))))
  · rw [List.take_add_one, hp]
    exact (hS.sub fun p hp => List.mem_cons_of_mem _ hp).snoc (List.mem_cons_self ..)
theorem words_c (w : World) : PureN w 374 8 64 [] (fun h => True) (fun h h' r => ∃ d o kvs, r = .ref d ∧ Fresh h h' [(d, o)] ∧ o.IsDictOf (kndW w) kvs ∧ SgK kvs lawTab ∧ (d == sysModules) = false) := by
  k_with_none
  k_with "lt" => first | with_reducible assumption | exact lt_0 (by with_reducible assumption) | exact lt_1 (by with_reducible assumption) | exact lt_2 (by with_reducible assumption) | exact lt_3 (by with_reducible assumption) | exact lt_4 (by with_reducible assumption) | exact lt_5 (by with_reducible assumption) | exact lt_6 (by with_reducible assumption) | exact lt_7 (by with_reducible assumption) | exact lt_0 (dr8 (by with_reducible assumption)) | exact lt_1 (dr8 (by with_reducible assumption)) | exact lt_2 (dr8 (by with_reducible assumption)) | exact lt_3 (dr8 (by with_reducible assumption)) | exact lt_4 (dr8 (by with_reducible assumption)) | exact lt_5 (dr8 (by with_reducible assumption)) | exact lt_6 (dr8 (by with_reducible assumption)) | exact lt_7 (dr8 (by with_reducible assumption)) | exact lt_0 (dr8 (dr8 (by with_reducible assumption))) | exact lt_1 (dr8 (dr8 (by with_reducible assumption))) | exact lt_2 (dr8 (dr8 (by with_reducible assumption))) | exact lt_3 (dr8 (dr8 (by with_reducible assumption))) | exact lt_4 (dr8 (dr8 (by with_reducible assumption))) | exact lt_5 (dr8 (dr8 (by with_reducible assumption))) | exact lt_6 (dr8 (dr8 (by with_reducible assumption))) | exact lt_7 (dr8 (dr8 (by with_reducible assumption))) | exact lt_0 (dr8 (dr8 (dr8 (by with_reducible assumption)))) | exact lt_1 (dr8 (dr8 (dr8 (by with_reducible assumption)))) | exact lt_2 (dr8 (dr8 (dr8 (by with_reducible assumption)))) | exact lt_3 (dr8 (dr8 (dr8 (by with_reducible assumption)))) | exact lt_4 (dr8 (dr8 (dr8 (by with_reducible assumption)))) | exact lt_5 (dr8 (dr8 (dr8 (by with_reducible assumption)))) | exact lt_6 (dr8 (dr8 (dr8 (by with_reducible assumption)))) | exact lt_7 (dr8 (dr8 (dr8 (by with_reducible assumption)))) | exact lt_0 (dr8 (dr8 (dr8 (dr8 (by with_reducible assumption))))) | exact lt_1 (dr8 (dr8 (dr8 (dr8 (by with_reducible assumption))))) | exact lt_2 (dr8 (dr8 (dr8 (dr8 (by with_reducible assumption))))) | exact lt_3 (dr8 (dr8 (dr8 (dr8 (by with_reducible assumption))))) | exact lt_4 (dr8 (dr8 (dr8 (dr8 (by with_reducible assumption))))) | exact lt_5 (dr8 (dr8 (dr8 (dr8 (by with_reducible assumption))))) | exact lt_6 (dr8 (dr8 (dr8 (dr8 (by with_reducible assumption))))) | exact lt_7 (dr8 (dr8 (dr8 (dr8 (by with_reducible assumption)))))
  k_with "nd" => first | exact nd_0 (by with_reducible assumption) | exact nd_1 (by with_reducible assumption) | exact nd_2 (by with_reducible assumption) | exact nd_3 (by with_reducible assumption) | exact nd_4 (by with_reducible assumption) | exact nd_5 (by with_reducible assumption) | exact nd_6 (by with_reducible assumption) | exact nd_7 (by with_reducible assumption) | exact nd_8 (by with_reducible assumption)
  k_with "ne" => (refine neN ?_; (try dsimp only); first | with_reducible assumption | exact Ne.symm (by with_reducible assumption) | (refine ne_z ?_; k_extra "lt") | (refine ne_s ?_; k_extra "lt") | (refine ne_zz (by with_reducible assumption) ?_; k_extra "lt") | (refine ne_ss (by with_reducible assumption) ?_; k_extra "lt") | k_extra "nd" | (dsimp only [AllLt] at *; omega))
  k_with "CompSrc" => (k_here; refine Stop.out ?_)
  k_with "CompEnd" => (refine Stop.out ?_)
  k_with "call type:dict" => (k_here; refine Stop.out ?_)
  k_with "call builtin:str.split" => (k_here; (with_reducible show wpAny _ _ (call (Value.builtin "str.split") _) _ _ _); (refine KSpl.split1 (by k_asm) (by k_asm) (by decide) ?_ (by first | exact row_size (by assumption) | exact Nat.le_of_ble_eq_true rfl)); (intro D9 l9 h9 k9 e9 a9 F9 N9 l19); (k_lt l19))
  k_with "subscriptTail" => (k_here; (with_reducible show wpAny _ _ (subscriptTail _ _ (Value.ref _) (Value.int _ _)) _ _ _); k_dflt (first
  | ((with_reducible show wpAny _ _ (subscriptTail _ _ (Value.ref _) (Value.int 0 _)) _ _ _); (obtain ⟨t0, q0⟩ := split_0 e9 hrow8); (refine' item_at (i := 0) ?zzk1 q0 (Nat.zero_le _) ?_ ?zzk6; (case zzk1 => exact news_list (by k_asm) (by k_mem)); (case zzk6 => with_unfolding_all rfl)))
  | ((with_reducible show wpAny _ _ (subscriptTail _ _ (Value.ref _) (Value.int 1 _)) _ _ _); (obtain ⟨t1, q1⟩ := split_1 (u := _) e9 hrow8); (refine' item_at (i := 1) ?zzk1 q1 (Nat.le_of_ble_eq_true rfl) ?_ ?zzk6; (case zzk1 => exact news_list (by k_asm) (by k_mem)); (case zzk6 => with_unfolding_all rfl)))))
  k_with "subscriptTail Call Attribute cons nil Constant ref int" => (k_here; (with_reducible show wpAny _ _ (subscriptTail _ _ (Value.ref _) (Value.int _ _)) _ _ _); k_dflt (first
  | ((with_reducible show wpAny _ _ (subscriptTail _ _ (Value.ref _) (Value.int 0 _)) _ _ _); (obtain ⟨t0, q0⟩ := split_0 e9 hrow8); (refine' item_at (i := 0) ?zzk1 q0 (Nat.zero_le _) ?_ ?zzk6; (case zzk1 => exact news_list (by k_asm) (by k_mem)); (case zzk6 => with_unfolding_all rfl)))
  | ((with_reducible show wpAny _ _ (subscriptTail _ _ (Value.ref _) (Value.int 1 _)) _ _ _); (obtain ⟨t1, q1⟩ := split_1 (u := _) e9 hrow8); (refine' item_at (i := 1) ?zzk1 q1 (Nat.le_of_ble_eq_true rfl) ?_ ?zzk6; (case zzk1 => exact news_list (by k_asm) (by k_mem)); (case zzk6 => with_unfolding_all rfl)))))
  k_with "binaryOp Add ref ref" => (k_here; (with_reducible show wpAny _ _ (binaryOp _ (Value.ref _) (Value.ref _)) _ _ _); k_dflt (refine' kmk_add_lit ?zzF ?zzN ?zza ?zzb ?zze ?_ ?zzz; (case zzF => k_asm); (case zzN => k_asm); (case zza => exact news_list (by k_asm) (by k_mem)); (case zzb => exact news_list (by k_asm) (by k_mem)); (case zze => exact cat_eq _ _); (case zzz => ((have hl9 := split_len e9 hrow8); simp only [sizeLine_eq, List.length_append, List.length_cons, List.length_nil]; omega))); intro D' h' F' N' l1; (try k_lt l1); (try k_sweep))
  unfold PureN
  k_fill
  intro loose mean mg mb dp un gd cn cs a ccd cl outer A₀ base h₀ L m s Q E B F X T hk hpre hd hu hret
  refine wpAny_call ?_
  k_dflt (refine' code_def0 ?k1 ?k2 ?k3 ?k5 ?kA ?kF ?kK ?k6 ?k7 ?k8 ?k9 ?kB ?_ ?c2 ?c3 ?c4 ?c5; (case kA => exact rfl); (case kF => exact rfl); (case kK => first | assumption | exact rfl); (case k1 => k_asm); (case k2 => k_asm); (case k3 => k_asm); (case k5 => k_asm); (case k6 => k_is); (case k7 => k_is); (case k8 => ktr_room); (case k9 => first | exact BindsTo.of_eq rfl | exact binds_K (by k_in) rfl (by k_is) rfl rfl rfl); (case c5 => decide); (case kB => exact locs rfl); (case c2 => exact rfl); (case c3 => exact rfl); (case c4 => exact rfl); k_whole; intro g' L' h' HE' F' N' B' X' T'; (try dsimp only); (try k_fold); (first | (refine e_fold ?_; intro A9 e9) | (refine a_fold ?_; intro A9) | skip))
  clear hpre
  k_steps
  unfold Stop
  rename Fr _ _ _ _ => F8
  rename News _ _ _ _ => N8
  have e8 : l9.map (·.1) = rowsL := e9.trans rt0
  have hlen8 : (strValues l9).length = 71 := by
    have := congrArg List.length e8
    unfold strValues
    rw [List.length_map] at this ⊢
    rw [this]; exact rows_len.1
  refine' LCg.CompSrc.ledger rfl F8 N8 (List.mem_cons_self ..) (by rw [List.size_toArray, hlen8, sizeLine_eq]; decide) ?go
  intro g8
  refine' rest_ind (WordsJ D9 (listOf (strValues l9).toArray 0)) ?J0 ?fin ?turn
  case J0 => exact ⟨[], rfl, .nil⟩
  case turn =>
    intro i7 ys7 nw7 hi7 hJ7 v7 I7 oI7 C7 oC7 D7 m7 h7 tk7 E7 hv7 hC7 hx7 F7 N7 off7 ne7
    obtain ⟨tl7, rfl, hS7⟩ := hJ7
    have hi8 : i7 < 71 := by rw [List.size_toArray, hlen8] at hi7; exact hi7
    obtain ⟨p7, hp7⟩ : ∃ p, lawTab[i7]? = some p := ⟨_, List.getElem?_eq_getElem (by rw [rows_len.2]; exact hi8)⟩
    obtain ⟨wd7, sg7⟩ := p7
    obtain ⟨r7, t7, hr7, rfl⟩ : ∃ r t, rowsL[i7]? = some r ∧ v7 = Value.str r t := by
      have hv : (strValues l9)[i7]? = some v7 := by simpa using hv7
      unfold strValues at hv
      rw [List.getElem?_map] at hv
      cases hq : l9[i7]? with
      | none => rw [hq] at hv; cases hv
      | some q =>
        rw [hq] at hv
        cases hv
        exact ⟨q.1, q.2, by rw [← e8, List.getElem?_map, hq]; rfl, rfl⟩
    have hrow8 := row_at hr7 hp7
    k_steps
    unfold Stop
    show LCg.CompEnd _ _ _ _ _ _ _ _ _ _ _ _ _ _
    exact words_end (by assumption) (by assumption) off7 (List.mem_cons_self ..) (List.forall_mem_cons.mpr ⟨by k_mem, List.forall_mem_cons.mpr ⟨by k_mem, List.forall_mem_cons.mpr ⟨by k_mem, List.forall_mem_cons.mpr ⟨by k_mem, fun q hq => by repeat (first | exact hq | refine List.mem_cons_of_mem _ ?_)⟩⟩⟩⟩) (by k_ne) (by k_ne) (by k_ne) hS7 hp7 (fun nw hm => .inr ⟨_, hm, rfl, _, rfl⟩)
  case fin =>
    intro ys7 nw7 hJ7
    obtain ⟨tl7, rfl, hS7⟩ := hJ7
    intro D6 h6 tk6 F6 N6 o6
    k_steps
    unfold Stop
    have hS6 : SgL tl7 ys7 lawTab := by
      have e : lawTab.take (strValues l9).toArray.size = lawTab := List.take_of_length_le (by rw [List.size_toArray, hlen8, rows_len.2]; exact Nat.le_refl _)
      rw [e] at hS7; exact hS7
    obtain ⟨kvs6, hP6, hK6⟩ := hS6.prs (h := h6) fun p hp => (N6 p (List.mem_cons_of_mem _ (List.mem_cons_of_mem _ hp))).1
    refine dict_of_list rfl F6 N6 (modules_low (Top.nolimit (by k_asm))) (N6 _ (List.mem_cons_self ..)).1 hP6 (by rw [hK6.keys]; exact lawTab_nodup) (by rw [hK6.length, rows_len.2]; decide) fun h5 tk5 d5 o5 F5 N5 l5 lo5 hd5 => ?_
    k_steps
    refine' hret _ _ _ ?qe ?qp
    case qe => exact fun b o e => Fr.keep F5 b o (HE' b o e)
    case qp => exact ⟨d5, o5, kvs6, rfl, fun p hp => by rw [List.mem_singleton.mp hp]; exact ⟨(N5 _ (List.mem_cons_self ..)).1, ext_none HE' (N5 _ (List.mem_cons_self ..)).2.2⟩, hd5, hK6, lo5⟩
end

section
set_option maxHeartbeats 4000000
open PySem PySem.W PyProof.Rows PySem.Calls PySem.Spec
theorem strs_keys : ∀ {vs : List Value} {kvs : List (Str × Value)}, vs.length = kvs.length → (∀ (j : Nat) (v : Value), vs[j]? = some v → ∃ (k : Str) (x : Value), kvs[j]? = some (k, x) ∧ ∃ t : Tok, v = Value.str k t) → Strs vs (kvs.map (·.1))
  | [], [], _, _ => .nil
  | [], _ :: _, h, _ => by simp at h
  | _ :: _, [], h, _ => by simp at h
  | v :: vs, p :: kvs, h, hv => by
    obtain ⟨k, x, e, t, rfl⟩ := hv 0 v rfl
    simp at e
    subst e
    exact .cons (strs_keys (by simpa using h) fun j u hu => by simpa using hv (j + 1) u (by simpa using hu))
section
variable {prog : Program} {w : World} {A : Around} {E : Value → Shared → Prop} {s : Shared} {h₀ : Heap} {L : Addr} {m : Str → Option Value} {news : List (Addr × Obj)}
theorem list_words {d : Addr} {o : Obj} {kvs : List (Str × Value)} {Q : Value → Shared → Prop} (hh : A.handled = none) (F : Fr h₀ L s.heap m) (N : News h₀ L s.heap news) (hp : (d, o) ∈ news) (hd : o.IsDictOf (strKind prog w) kvs) (lo : (d == sysModules) = false) (hn : kvs.length ≤ 1000)
    (h : ∀ (B : Addr) c h' tk vs, Fr h₀ L h' m → News h₀ L h' ((B, listOf (List.toArray vs) c) :: news) → (∀ q ∈ news, q.1 < B) → Strs vs (kvs.map (·.1)) → Q (.ref B) { s with heap := h', toks := tk }) :
    wpAny (model prog w) A (call (.type "list") [.ref d]) Q E s := by
  obtain ⟨ep, hat⟩ := (kda_dict N hp hd).dictAt
  refine kdl_N (kdl_dict (knd := PySem.strKind prog w) (kvs := kvs) (ep := ep) lo) hh F N hat (by rw [sizeLine_eq]; omega) fun B c h' tk vs F' N' l1 hl hv => ?_
  refine h B c h' tk vs F' N' l1 (strs_keys hl fun j u hu => ?_)
  obtain ⟨k, x, hx, hk⟩ := hv j u hu
  exact ⟨k, x, hx, Value.isStrOf_shape hk⟩
end
noncomputable def lawGet (word : Str) : Option Str := (lawTab.find? fun p => p.1 = word).map (·.2)
theorem SgK.get : ∀ {kvs : List (Str × Value)} {l : List (Str × Str)}, SgK kvs l → ∀ word, (valueAt kvs word = none ∧ (l.find? fun p => p.1 = word) = none) ∨ ∃ sg t, valueAt kvs word = some (.str sg t) ∧ ((l.find? fun p => p.1 = word).map (·.2)) = some sg := by
  intro kvs l x word
  induction x with
  | nil => exact .inl ⟨rfl, rfl⟩
  | @cons k s t kvs l x ih =>
    by_cases hk : k = word
    · exact .inr ⟨s, t, by unfold valueAt; simp [hk], by simp [hk]⟩
    · rcases ih with ⟨h1, h2⟩ | ⟨sg, t', h1, h2⟩
      · refine .inl ⟨?_, ?_⟩
        · unfold valueAt at h1 ⊢; rw [List.find?_cons_of_neg (by simpa using hk)]; exact h1
        · rw [List.find?_cons_of_neg (by simpa using hk)]; exact h2
      · refine .inr ⟨sg, t', ?_, ?_⟩
        · unfold valueAt at h1 ⊢; rw [List.find?_cons_of_neg (by simpa using hk)]; exact h1
        · rw [List.find?_cons_of_neg (by simpa using hk)]; exact h2
/-- signs that the law knows -/
noncomputable def SgOk (sg : Str) : Prop := sg.cps.all (· < 128) = true ∧ sg.cps.size ≤ 6 ∧ ∀ (i c : Nat), sg.cps[i]? = some c → (⟨#[c]⟩ : Str) ∈ goodS
where goodS : List Str := [Str.ofString "n", Str.ofString "N", Str.ofString "s", Str.ofString "a", Str.ofString "D", Str.ofString "P", Str.ofString "t", Str.ofString "+", Str.ofString "*"]
noncomputable def sgB (sg : Str) : Bool := sg.cps.all (· < 128) && decide (sg.cps.size ≤ 6) && sg.cps.toList.all fun c => SgOk.goodS.contains ⟨#[c]⟩
theorem sgOk_of {sg : Str} (h : sgB sg = true) : SgOk sg := by
  unfold sgB at h
  simp only [Bool.and_eq_true, decide_eq_true_eq] at h
  refine ⟨h.1.1, h.1.2, fun i c e => ?_⟩
  have hm : c ∈ sg.cps.toList := by
    rw [List.mem_iff_getElem?]
    exact ⟨i, by simpa using e⟩
  have := List.all_eq_true.mp h.2 c hm
  simpa using this
theorem lawTab_ok : lawTab.all (fun p => sgB p.2) = true := by decide +kernel
theorem sgOk_get {word sg : Str} (h : (lawTab.find? fun p => p.1 = word).map (·.2) = some sg) : SgOk sg := by
  cases hf : lawTab.find? (fun p => p.1 = word) with
  | none => rw [hf] at h; cases h
  | some p =>
    rw [hf] at h
    cases h
    exact sgOk_of (List.all_eq_true.mp lawTab_ok p (List.mem_of_find?_eq_some hf))
theorem sgOk_n : SgOk (Str.ofString "n") := sgOk_of (by decide +kernel)
theorem law_get {kvs : List (Str × Value)} (x : SgK kvs lawTab) (word : Str) (t : Tok) : ∃ sg t', (valueAt kvs word).getD (.str (Str.ofString "n") t) = .str sg t' ∧ SgOk sg := by
  rcases x.get word with ⟨h, _⟩ | ⟨sg, t', h1, h2⟩
  · exact ⟨_, t, by rw [h]; rfl, sgOk_n⟩
  · exact ⟨sg, t', by rw [h1]; rfl, sgOk_get h2⟩
section
variable {g h h' : Heap} {L p I : Addr} {m : Str → Option Value} {op op' oI : Obj} {tl tl9 : List (Addr × Obj)}
theorem pen_fold0 (F : Fr g L h m) (N : News g L h ((p, op) :: tl)) (hoff : ∀ q ∈ tl, @Ne Nat q.1 p) (hk : ∀ b o, @Ne Nat b p → h.get? b = some o → h'.get? b = some o) (hg : h'.get? p = some op') (hf : Fresh h h' tl9) :
    Fr g L h' m ∧ ∃ TL, News g L h' ((p, op') :: TL) ∧ (∀ q ∈ TL, @Ne Nat q.1 p) ∧ (∀ q ∈ tl, q ∈ TL) ∧ (∀ q ∈ tl9, q ∈ TL) := by
  have N1 := news_pen N (UpdF.head hoff) hk hg
  refine ⟨fr_pen F N (List.mem_cons_self ..) hk, tl9 ++ tl, fun q hq => ?_, fun q hq => ?_, fun q hq => List.mem_append_right _ hq, fun q hq => List.mem_append_left _ hq⟩
  · have N2 := news_fresh F N1 hf
    refine N2 q ?_
    rcases List.mem_cons.mp hq with rfl | hq
    · exact List.mem_append_right _ (List.mem_cons_self ..)
    rcases List.mem_append.mp hq with hq | hq
    · exact List.mem_append_left _ hq
    · exact List.mem_append_right _ (List.mem_cons_of_mem _ hq)
  · rcases List.mem_append.mp hq with hq | hq
    · exact fresh_ne N (List.mem_cons_self ..) hf q hq
    · exact hoff q hq
theorem pen_fold1 (F : Fr g L h m) (N : News g L h ((I, oI) :: (p, op) :: tl)) (hIp : @Ne Nat I p) (hoff : ∀ q ∈ tl, @Ne Nat q.1 p) (hoI : ∀ q ∈ tl, @Ne Nat q.1 I) (hk : ∀ b o, @Ne Nat b p → h.get? b = some o → h'.get? b = some o) (hg : h'.get? p = some op') (hf : Fresh h h' tl9) :
    Fr g L h' m ∧ ∃ TL, News g L h' ((I, oI) :: (p, op') :: TL) ∧ (∀ q ∈ TL, @Ne Nat q.1 p) ∧ (∀ q ∈ TL, @Ne Nat q.1 I) ∧ (∀ q ∈ tl, q ∈ TL) ∧ (∀ q ∈ tl9, q ∈ TL) := by
  have N1 := news_pen N (UpdF.tail hIp (UpdF.head hoff)) hk hg
  have hm : (p, op) ∈ (I, oI) :: (p, op) :: tl := List.mem_cons_of_mem _ (List.mem_cons_self ..)
  refine ⟨fr_pen F N hm hk, tl9 ++ tl, fun q hq => ?_, fun q hq => ?_, fun q hq => ?_, fun q hq => List.mem_append_right _ hq, fun q hq => List.mem_append_left _ hq⟩
  · have N2 := news_fresh F N1 hf
    refine N2 q ?_
    rcases List.mem_cons.mp hq with rfl | hq
    · exact List.mem_append_right _ (List.mem_cons_self ..)
    rcases List.mem_cons.mp hq with rfl | hq
    · exact List.mem_append_right _ (List.mem_cons_of_mem _ (List.mem_cons_self ..))
    rcases List.mem_append.mp hq with hq | hq
    · exact List.mem_append_left _ hq
    · exact List.mem_append_right _ (List.mem_cons_of_mem _ (List.mem_cons_of_mem _ hq))
  · rcases List.mem_append.mp hq with hq | hq
    · exact fresh_ne N hm hf q hq
    · exact hoff q hq
  · rcases List.mem_append.mp hq with hq | hq
    · exact fresh_ne N (List.mem_cons_self ..) hf q hq
    · exact hoI q hq
end
section
variable {prog : Program} {w : World} {A : Around} {E : Value → Shared → Prop} {s : Shared} {h₀ : Heap} {env : Env} {Q : Flow → Shared → Prop} {target : Expr} {body : List Stmt}
theorem letGo_striter {I : Addr} {x : Str} {t : Tok} {i : Nat} {v : Value} {Q' : Unit → Shared → Prop} {s' : Shared} (hit : s'.heap.IsStrIter I "str_ascii_iterator" x t i) (h : Q' () s') :
    wpAny (model prog w) A (letOwnedTupleGo target (.ref I) v) Q' E s' := by
  obtain ⟨o, ho, hc, hd⟩ := hit
  unfold letOwnedTupleGo
  cases target <;> first
    | exact wpAny_pure h
    | (cases v <;> first
        | exact wpAny_pure h
        | (refine wpAny_bind (wpAny_load ho ?_)
           rw [hc, hd]
           exact wpAny_pure h))
noncomputable def signItems (x : Str) : List Itm := (List.range x.cps.size).map fun (i : Nat) => .tok (fun t => .str ⟨#[x.cps.getD i 0]⟩ t)
theorem iter_strTurns {x : Str} {t : Tok} {m₀ : Str → Option Value} {news : List (Addr × Obj)}
    (hh : A.handled = none) (ha : x.cps.all (· < 128) = true) (F : Fr h₀ env.locals s.heap m₀) (N : News h₀ env.locals s.heap news)
    (rest₀ : ∀ I : Addr, (∀ p ∈ news, p.1 < I) → ItemsRest prog w A E h₀ env target body Q s [(I, "str_ascii_iterator")] [] (signItems x) m₀ news) :
    wpAny (model prog w) A (pyIter (.str x t)) (fun it s₂ => TurnsAt prog w A h₀ env target body Q E it s₂) E s := by
  refine wpAny_pyIter_ascii ha ?_
  have W := Walks.strAscii (prog := prog) (w := w) hh s.heap.objs.size x t
  refine ktu_core (s := s) (tk0 := s.toks) (keep := []) (xs := signItems x) (ws := [(s.heap.objs.size, "str_ascii_iterator")]) (KTurns.ofWalks W fun i v s Q E st q => letGo_striter st q) (by simp [signItems]) (fun i v h hp => ?_) (fun i h st => ?_) (fun b hb => ?_) (fun b hb => by simpa using hb) (fun b hb => .inl (by simpa using hb)) ?_ (fun p hp hI => ?_) ?_ (F.push _) (fun p hp => ⟨Heap.get?_push_of_some _ (N p hp).1, (N p hp).2⟩) trivial (rest₀ _ fun p hp => Heap.lt_size (N p hp).1)
  · obtain ⟨c, u, hc, rfl⟩ := hp
    have hi : i < x.cps.size := (Array.getElem?_eq_some_iff.mp hc).1
    refine ⟨.tok (fun t => .str ⟨#[x.cps.getD i 0]⟩ t), ?_, u, ?_⟩
    · simp [signItems, hi]
    · have : x.cps.getD i 0 = c := by simp [Array.getD_eq_getD_getElem?, hc]
      rw [this]
  · obtain ⟨o, ho, hc, _⟩ := st
    exact ⟨[(s.heap.objs.size, o)], ⟨⟨rfl, hc⟩, trivial⟩, fun p hp => by rw [List.mem_singleton.mp hp]; exact ho⟩
  · have hb' : b = s.heap.objs.size := by simpa using hb
    rw [hb']
    exact ⟨List.mem_cons_self .., next_is_new F⟩
  · intro hI
    rcases List.mem_cons.mp hI with e | hI
    · exact absurd F.ns.lt (e ▸ Nat.lt_irrefl _)
    · exact nomatch hI
  · exact absurd (Heap.lt_size (N p hp).1) ((List.mem_singleton.mp hI) ▸ Nat.lt_irrefl _)
  · exact ⟨_, Heap.get?_push_size _ rfl, rfl, rfl⟩
end
end

section
set_option maxHeartbeats 4000000
open PySem PySem.W PyProof.Rows PySem.Calls PySem.Spec
noncomputable def rowMk (m : Str → Option Value) (l : Addr) : Str → Option Value := fun z => if z = Str.ofString "row" then some (.ref l) else m z
/-- what the row's loop keeps -/
noncomputable def RowJ (w : World) (p : Addr) (i : Nat) (l : Addr) (op : Obj) (tl : List (Addr × Obj)) : Prop :=
  PenO op ∧ (∀ q ∈ tl, @Ne Nat q.1 p) ∧ ∃ vs k obs, (l, listOf (List.toArray vs) k) ∈ tl ∧ TsA w (inL tl) vs obs ∧ vs.length ≤ 4 * i
noncomputable def PEnd (w : World) (h₀ : Heap) (L I : Addr) (oI : Obj) (p : Addr) (m : Str → Option Value) (x : Str) (i : Nat) (s : Shared) (fl : Flow) (s₂ : Shared) : Prop :=
  fl = .next ∧ ∃ h' tk' m' op' TL l', s₂ = { s with heap := h', toks := tk' } ∧ Fr h₀ L h' m' ∧ News h₀ L h' ((I, oI) :: (p, op') :: TL) ∧ (∀ q ∈ TL, @Ne Nat q.1 I) ∧ RowJ w p i l' op' TL ∧ ∀ z, z ≠ x → m' z = rowMk m l' z
section
variable {prog : Program} {w : World} {A : Around} {E : Value → Shared → Prop} {s : Shared} {h₀ : Heap} {name : Str} {scope : Scope} {L a : Addr} {cd : Value} {cl : List (Str × Addr)} {Q : Flow → Shared → Prop}
theorem for_signs {x : Str} {px : Pos} {body : List Stmt} {sg : Str} {tg : Tok} {p l : Addr} {op : Obj} {tl : List (Addr × Obj)} {m₀ m : Str → Option Value}
    (hk : scope.kind = .function) (hl : (envX name scope L a cd cl).kindOf x = some .local) (hh : A.handled = none) (hs : SgOk sg) (F : Fr h₀ L s.heap m₀) (N : News h₀ L s.heap ((p, op) :: tl)) (hm : ∀ z, z ≠ x → m₀ z = rowMk m l z) (hJ : RowJ w p 0 l op tl)
    (turn : ∀ i l sign t op tl h tk I oI, sign ∈ SgOk.goodS → i < 6 → RowJ w p i l op tl → (∀ q ∈ tl, @Ne Nat q.1 I) → oI.cls = .type "str_ascii_iterator" → (@Ne Nat I p) →
      Fr h₀ L h (fun z => if z = x then some (.str sign t) else rowMk m l z) → News h₀ L h ((I, oI) :: (p, op) :: tl) →
      wpAny (model prog w) A (execs body (envX name scope L a cd cl)) (PEnd w h₀ L I oI p m x (i + 1) { s with heap := h, toks := tk }) E { s with heap := h, toks := tk })
    (fin : ∀ ov i l op tl h tk, i ≤ 6 → RowJ w p i l op tl → Fr h₀ L h (fun z => if z = x then ov else rowMk m l z) → News h₀ L h ((p, op) :: tl) → Q .next { s with heap := h, toks := tk }) :
    wpAny (model prog w) A (pyIter (.str sg tg)) (fun it s₂ => TurnsAt prog w A h₀ (envX name scope L a cd cl) (.Name x px) body Q E it s₂) E s := by
  refine iter_strTurns hh hs.1 F N fun I hI => ?_
  have hIp : @Ne Nat I p := Ne.symm (Nat.ne_of_lt (hI (p, op) (List.mem_cons_self ..)))
  have hlen : (signItems sg).length = sg.cps.size := by simp [signItems]
  refine items_indG (signItems sg) (fun i v => ∃ c t, sg.cps[i]? = some c ∧ v = .str ⟨#[c]⟩ t) ?_ (rowMk m) (fun i l nw => ∃ op tl, nw = (p, op) :: tl ∧ (∀ q ∈ tl, @Ne Nat q.1 I) ∧ RowJ w p i l op tl) l hk hl hm ⟨op, tl, rfl, fun q hq => Nat.ne_of_lt (hI q (List.mem_cons_of_mem _ hq)), hJ⟩ ?_ ?_
  · intro i it v h e q
    unfold signItems at e
    rw [List.getElem?_map] at e
    cases hv : (List.range sg.cps.size)[i]? with
    | none => rw [hv] at e; cases e
    | some j =>
      rw [hv] at e
      cases e
      obtain ⟨t, rfl⟩ := q
      obtain ⟨hi, hj⟩ := List.getElem?_eq_some_iff.mp hv
      have hji : j = i := by simpa using hj.symm
      subst hji
      have hi' : j < sg.cps.size := by simpa using hi
      exact ⟨sg.cps.getD j 0, t, by simp [hi', Array.getD_eq_getD_getElem?], rfl⟩
  · rintro i v l nw h tk hi ⟨c, t, hc, rfl⟩ ⟨op, tl, rfl, hoI, hJ⟩ F
    refine AllObj.cons fun oI hoI' => AllObj.nil fun N => ?_
    have hi6 : i < 6 := by rw [hlen] at hi; exact Nat.lt_of_lt_of_le hi hs.2.1
    refine wpAny_mono (turn i l _ t op tl h tk I oI (hs.2.2 i c hc) hi6 hJ hoI hoI' hIp F N) (fun fl s₂ q => ?_) fun _ _ q => q
    obtain ⟨rfl, h', tk', m', op', TL, l', rfl, F', N', hoI2, hJ', hm'⟩ := q
    refine ⟨h', tk', m', (p, op') :: TL, rfl, F', N', ?_, trivial, l', hm', op', TL, rfl, hoI2, hJ'⟩
    intro q hq r hr
    obtain rfl := List.mem_singleton.mp hr
    rcases List.mem_cons.mp hq with rfl | hq
    · exact Ne.symm hIp
    · exact hoI2 q hq
  · rintro ov l nw h tk ⟨op, tl, rfl, _, hJ⟩ F N
    rw [hlen] at hJ
    exact fin ov _ l op tl h tk hs.2.1 hJ F N
end
end

section
set_option maxHeartbeats 40000000
open PySem PySem.W PyProof.Rows PySem.Calls PySem.Spec

theorem Strs.append {vs us : List Value} {ks js : List Str} (x : Strs vs ks) (y : Strs us js) : Strs (vs ++ us) (ks ++ js) := by
  induction x with
  | nil => exact y
  | cons _ ih => exact .cons ih
theorem rowMk_same {m : Str → Option Value} {l : Addr} (h : m (Str.ofString "row") = some (.ref l)) (z : Str) : m z = rowMk m l z := by
  unfold rowMk
  by_cases hz : z = Str.ofString "row"
  · rw [if_pos hz, hz, h]
  · rw [if_neg hz]
theorem rowStart {g h : Heap} {L p l : Addr} {op o : Obj} {m : Str → Option Value} {x : Str} (_F : Fr g L h m) (_N : News g L h [(p, op), (l, o)]) (e : m (Str.ofString "row") = some (.ref l)) : ∀ z, z ≠ x → m z = rowMk m l z := fun z _ => rowMk_same e z
theorem row_turn {m : Str → Option Value} {D : Addr} {b c : Option Value} (z : Str) (hz : z ≠ Str.ofString "sign") : (if z = Str.ofString "row" then some (Value.ref D) else if z = Str.ofString "sign" then b else if z = Str.ofString "row" then c else m z) = rowMk m D z := by
  unfold rowMk
  by_cases h : z = Str.ofString "row"
  · simp only [if_pos h]
  · simp only [if_neg h, if_neg hz]
theorem row_end {w : World} {h₀ h' : Heap} {L I D p : Addr} {oI op' : Obj} {m m' : Str → Option Value} {x : Str} {i k tk' : Nat} {s : Shared} {TL tl tlg : List (Addr × Obj)} {vs us : List Value} {obs og : List Ob}
    (F : Fr h₀ L h' m') (N : News h₀ L h' ((D, listOf (vs ++ us).toArray k) :: (I, oI) :: (p, op') :: TL)) (hpo : PenO op') (offp : ∀ q ∈ TL, @Ne Nat q.1 p) (offI : ∀ q ∈ TL, @Ne Nat q.1 I) (hT : TsA w (inL tl) vs obs) (sub : ∀ q ∈ tl, q ∈ TL) (hTg : TsA w (inL tlg) us og) (subg : ∀ q ∈ tlg, q ∈ TL)
    (hz : vs.length ≤ 4 * i) (hzg : us.length ≤ 4) (hDp : @Ne Nat D p) (hDI : @Ne Nat D I) (hm : ∀ z, z ≠ x → m' z = rowMk m D z) : PEnd w h₀ L I oI p m x (i + 1) s .next { s with heap := h', toks := tk' } := by
  refine ⟨rfl, h', tk', m', op', (D, _) :: TL, D, rfl, F, fun q hq => N q ?_, fun q hq => ?_, ⟨hpo, fun q hq => ?_, vs ++ us, k, obs ++ og, List.mem_cons_self .., (hT.mono fun a o h => List.mem_cons_of_mem _ (sub _ h)).append (hTg.mono fun a o h => List.mem_cons_of_mem _ (subg _ h)), by rw [List.length_append]; omega⟩, hm⟩
  · simp only [List.mem_cons] at hq ⊢
    rcases hq with h | h | h | h <;> simp [h]
  · rcases List.mem_cons.mp hq with rfl | hq
    · exact hDI
    · exact offI q hq
  · rcases List.mem_cons.mp hq with rfl | hq
    · exact hDp
    · exact offp q hq
theorem oper_fin {w : World} {s g h' : Heap} {L p a dx l : Addr} {led : List (Addr × Obj)} {es : List DictEntry} {n k : Nat} {word : Str} {t : Tok} {vs : List Value} {obs : List Ob} (N : News g L h' led) (e : ∀ b o, @Ne Nat b p → s.get? b = some o → g.get? b = some o)
    (h1 : (a, instObj 294 dx) ∈ led) (h2 : (dx, dictOf es n) ∈ led) (f1 : getL (Str.ofString "word") es = some (some (.str word t))) (f2 : getL (Str.ofString "operands") es = some (some (.ref l))) (h3 : (l, listOf (List.toArray vs) k) ∈ led) (a1 : @Ne Nat a p) (a2 : @Ne Nat dx p) (a3 : @Ne Nat l p) (T : TsA w (inL (offP p led)) vs obs) (hz : vs.length ≤ 100) :
    ∃ a' word obs tl, Value.ref a = Value.ref a' ∧ OpA w (inL tl) a' word obs ∧ Fresh s h' tl :=
  ⟨a, word, obs, _, rfl, ⟨dx, es, n, t, l, vs, k, inF h1 a1, inF h2 a2, f1, f2, inF h3 a3, T, hz⟩, fresh_pen N e (fun q hq => (List.mem_filter.mp hq).1) fun q hq => of_decide_eq_true (List.mem_filter.mp hq).2⟩
noncomputable def EA (w : World) (G : Gr) (vs : List Value) : Prop := ∃ obs, TsA w G vs obs
theorem EA.append {w : World} {G : Gr} {vs us : List Value} : EA w G vs → EA w G us → EA w G (vs ++ us) := fun ⟨_, x⟩ ⟨_, y⟩ => ⟨_, x.append y⟩
theorem EA.take {w : World} {G : Gr} {vs : List Value} {n : Nat} : EA w G vs → EA w G (vs.take n) := fun ⟨_, x⟩ => ⟨_, x.take n⟩
theorem EA.drop {w : World} {G : Gr} {vs : List Value} {n : Nat} : EA w G vs → EA w G (vs.drop n) := fun ⟨_, x⟩ => ⟨_, x.drop n⟩
noncomputable def RowR (w : World) (p : Addr) (vo : Value) (n : Nat) (l : Addr) (TL : List (Addr × Obj)) : Prop := (∀ q ∈ TL, @Ne Nat q.1 p) ∧ EA w (inL TL) [vo] ∧ ∃ vs k, (l, listOf (List.toArray vs) k) ∈ TL ∧ EA w (inL TL) vs ∧ vs.length ≤ n
/-- the ways of an if that sets the row, joined -/
noncomputable def RowQ (w : World) (g : Heap) (L p : Addr) (op : Obj) (m : Str → Option Value) (vo : Value) (n : Nat) (s : Shared) (fl : Flow) (s₂ : Shared) : Prop :=
  fl = .next ∧ ∃ h' tk' TL l, s₂ = { s with heap := h', toks := tk' } ∧ Fr g L h' (rowMk m l) ∧ News g L h' ((p, op) :: TL) ∧ RowR w p vo n l TL
theorem sh_take {vs : List Value} {n i : Nat} (h : vs.length ≤ n) : (vs.take i).length ≤ n := Nat.le_trans (List.length_take_le' ..) h
theorem sh_drop {vs : List Value} {n i : Nat} (h : vs.length ≤ n) : (vs.drop i).length ≤ n := by rw [List.length_drop]; exact Nat.le_trans (Nat.sub_le ..) h
theorem sh_one {v : Value} : [v].length ≤ 1 := Nat.le_refl 1
theorem sh_app {a b : List Value} {n m : Nat} (h : a.length ≤ n) (h' : b.length ≤ m) : (a ++ b).length ≤ n + m := by rw [List.length_append]; exact Nat.add_le_add h h'
theorem sz_add {a b : List Value} {n m : Nat} (h : a.length ≤ n) (h' : b.length ≤ m) (e : n + m ≤ 16777216) : a.toArray.toList.length + b.toArray.toList.length ≤ sizeLine := by rw [sizeLine_eq]; exact Nat.le_trans (Nat.add_le_add h h') e
theorem sz_one {a : List Value} {n : Nat} (h : a.length ≤ n) (e : n ≤ 16777216) : a.toArray.size ≤ sizeLine := by rw [sizeLine_eq]; exact Nat.le_trans h e
theorem td_le {vs : List Value} {a b n : Nat} (h : a ≤ b) (hz : vs.length ≤ n) : (vs.take a ++ vs.drop b).length ≤ n := by
  rw [List.length_append, List.length_take, List.length_drop]; omega
theorem tod_le {vs : List Value} {o : Value} {a b n : Nat} (h : a ≤ b) (hz : vs.length ≤ n) : ((vs.take a ++ [o]) ++ vs.drop b).length ≤ n + 1 := by
  have q := td_le h hz
  rw [List.length_append] at q
  rw [List.length_append, List.length_append]
  show _ + 1 + _ ≤ _
  rw [Nat.add_right_comm]
  exact Nat.succ_le_succ q
theorem tn_le {d : Int} : d.toNat ≤ (d + 1).toNat := Int.toNat_le_toNat (Int.le_add_of_nonneg_right (by decide))
theorem news_swap {g h : Heap} {L : Addr} {a b : Addr × Obj} {tl : List (Addr × Obj)} (N : News g L h (a :: b :: tl)) : News g L h (b :: a :: tl) := fun q hq => N q (by
  simp only [List.mem_cons] at hq ⊢
  rcases hq with h | h | h <;> simp [h])
theorem EA.cons {w : World} {vs : List Value} {q : Addr × Obj} {tl : List (Addr × Obj)} : EA w (inL tl) vs → EA w (inL (q :: tl)) vs := fun ⟨_, x⟩ => ⟨_, x.mono fun _ _ h => List.mem_cons_of_mem _ h⟩
theorem off_head {p : Addr} {q : Addr × Obj} {tl : List (Addr × Obj)} (h : @Ne Nat q.1 p) (t : ∀ x ∈ tl, @Ne Nat x.1 p) : ∀ x ∈ q :: tl, @Ne Nat x.1 p := List.forall_mem_cons.mpr ⟨h, t⟩
theorem row_cut {M : Model} {A : Around} {tree : Sem Flow} {Q : Flow → Shared → Prop} {E : Value → Shared → Prop} {s : Shared} {g : Heap} {L p l : Addr} {op : Obj} {m : Str → Option Value} {TL : List (Addr × Obj)} {vo : Value} (w : World) (n : Nat) (_F : Fr g L s.heap (rowMk m l)) (_N : News g L s.heap ((p, op) :: TL)) (_o : EA w (inL TL) [vo])
    (h1 : wpAny M A tree (RowQ w g L p op m vo n s) E s) (h2 : ∀ h' tk' TL l vs k, Fr g L h' (rowMk m l) → News g L h' ((p, op) :: TL) → (∀ q ∈ TL, @Ne Nat q.1 p) → EA w (inL TL) [vo] → (l, listOf (List.toArray vs) k) ∈ TL → EA w (inL TL) vs → vs.length ≤ n → Q .next { s with heap := h', toks := tk' }) : wpAny M A tree Q E s :=
  wpAny_mono h1 (fun fl s' q => by obtain ⟨e, h', tk', TL, l, e', F', N', a, b, vs, k, c, d, z⟩ := q; subst e e'; exact h2 h' tk' TL l vs k F' N' a b c d z) fun _ _ q => q
theorem row_keep {w : World} {g h' : Heap} {L p l : Addr} {op : Obj} {m : Str → Option Value} {TL : List (Addr × Obj)} {vo : Value} {n k tk' : Nat} {vs : List Value} {s : Shared} (F : Fr g L h' (rowMk m l)) (N : News g L h' ((p, op) :: TL)) (off : ∀ q ∈ TL, @Ne Nat q.1 p) (ho : EA w (inL TL) [vo]) (hm : (l, listOf (List.toArray vs) k) ∈ TL) (hT : EA w (inL TL) vs) (hz : vs.length ≤ n) :
    RowQ w g L p op m vo n s .next { s with heap := h', toks := tk' } := ⟨rfl, h', tk', TL, l, rfl, F, N, off, ho, vs, k, hm, hT, hz⟩
theorem row_new {w : World} {g h' : Heap} {L p l D : Addr} {op : Obj} {m : Str → Option Value} {TL : List (Addr × Obj)} {vo : Value} {n k tk' : Nat} {vs vs' : List Value} {s : Shared} (led : List (Addr × Obj)) (F : Fr g L h' (fun z => if z = Str.ofString "row" then some (.ref D) else rowMk m l z)) (N : News g L h' ((D, listOf (List.toArray vs') k) :: (led ++ ((p, op) :: TL)))) (hD : @Ne Nat D p) (hl : ∀ q ∈ led, @Ne Nat q.1 p) (off : ∀ q ∈ TL, @Ne Nat q.1 p) (ho : EA w (inL TL) [vo]) (hT : EA w (inL TL) vs) (T : ∀ G : Gr, EA w G vs → EA w G [vo] → EA w G vs') (hz : vs'.length ≤ n) :
    RowQ w g L p op m vo n s .next { s with heap := h', toks := tk' } := by
  have mono : ∀ {us : List Value}, EA w (inL TL) us → EA w (inL ((D, listOf (List.toArray vs') k) :: (led ++ TL))) us := fun ⟨o, x⟩ => ⟨o, x.mono fun a o h => List.mem_cons_of_mem _ (List.mem_append_right _ h)⟩
  refine ⟨rfl, h', tk', (D, _) :: (led ++ TL), D, rfl, ?_, fun q hq => N q ?_, fun q hq => ?_, mono ho, vs', k, List.mem_cons_self .., T _ (mono hT) (mono ho), hz⟩
  · have e : (fun z => if z = Str.ofString "row" then some (Value.ref D) else rowMk m l z) = rowMk m D := by
      funext z
      unfold rowMk
      by_cases hz : z = Str.ofString "row"
      · simp only [if_pos hz]
      · simp only [if_neg hz]
    rw [← e]; exact F
  · simp only [List.mem_cons, List.mem_append] at hq ⊢
    rcases hq with h | h | h | h <;> simp [h]
  · rcases List.mem_cons.mp hq with rfl | hq
    · exact hD
    rcases List.mem_append.mp hq with hq | hq
    · exact hl q hq
    · exact off q hq
theorem ssL_eq : lawTab.map (·.1) = ssL := by decide +kernel
theorem srtW_len : srtW.length = 71 := by decide +kernel
theorem oper_c (w : World) (p : Addr) : PenC w 403 24 256 p [.ref p] (fun h => True) (fun h h' r => ∃ a word obs tl, r = .ref a ∧ OpA w (inL tl) a word obs ∧ Fresh h h' tl) := by
  k_with_none
  k_with "lt" => first | with_reducible assumption | exact lt_0 (by with_reducible assumption) | exact lt_1 (by with_reducible assumption) | exact lt_2 (by with_reducible assumption) | exact lt_3 (by with_reducible assumption) | exact lt_4 (by with_reducible assumption) | exact lt_5 (by with_reducible assumption) | exact lt_6 (by with_reducible assumption) | exact lt_7 (by with_reducible assumption) | exact lt_0 (dr8 (by with_reducible assumption)) | exact lt_1 (dr8 (by with_reducible assumption)) | exact lt_2 (dr8 (by with_reducible assumption)) | exact lt_3 (dr8 (by with_reducible assumption)) | exact lt_4 (dr8 (by with_reducible assumption)) | exact lt_5 (dr8 (by with_reducible assumption)) | exact lt_6 (dr8 (by with_reducible assumption)) | exact lt_7 (dr8 (by with_reducible assumption)) | exact lt_0 (dr8 (dr8 (by with_reducible assumption))) | exact lt_1 (dr8 (dr8 (by with_reducible assumption))) | exact lt_2 (dr8 (dr8 (by with_reducible assumption))) | exact lt_3 (dr8 (dr8 (by with_reducible assumption))) | exact lt_4 (dr8 (dr8 (by with_reducible assumption))) | exact lt_5 (dr8 (dr8 (by with_reducible assumption))) | exact lt_6 (dr8 (dr8 (by with_reducible assumption))) | exact lt_7 (dr8 (dr8 (by with_reducible assumption))) | exact lt_0 (dr8 (dr8 (dr8 (by with_reducible assumption)))) | exact lt_1 (dr8 (dr8 (dr8 (by with_reducible assumption)))) | exact lt_2 (dr8 (dr8 (dr8 (by with_reducible assumption)))) | exact lt_3 (dr8 (dr8 (dr8 (by with_reducible assumption)))) | exact lt_4 (dr8 (dr8 (dr8 (by with_reducible assumption)))) | exact lt_5 (dr8 (dr8 (dr8 (by with_reducible assumption)))) | exact lt_6 (dr8 (dr8 (dr8 (by with_reducible assumption)))) | exact lt_7 (dr8 (dr8 (dr8 (by with_reducible assumption)))) | exact lt_0 (dr8 (dr8 (dr8 (dr8 (by with_reducible assumption))))) | exact lt_1 (dr8 (dr8 (dr8 (dr8 (by with_reducible assumption))))) | exact lt_2 (dr8 (dr8 (dr8 (dr8 (by with_reducible assumption))))) | exact lt_3 (dr8 (dr8 (dr8 (dr8 (by with_reducible assumption))))) | exact lt_4 (dr8 (dr8 (dr8 (dr8 (by with_reducible assumption))))) | exact lt_5 (dr8 (dr8 (dr8 (dr8 (by with_reducible assumption))))) | exact lt_6 (dr8 (dr8 (dr8 (dr8 (by with_reducible assumption))))) | exact lt_7 (dr8 (dr8 (dr8 (dr8 (by with_reducible assumption)))))
  k_with "nd" => first | exact nd_0 (by with_reducible assumption) | exact nd_1 (by with_reducible assumption) | exact nd_2 (by with_reducible assumption) | exact nd_3 (by with_reducible assumption) | exact nd_4 (by with_reducible assumption) | exact nd_5 (by with_reducible assumption) | exact nd_6 (by with_reducible assumption) | exact nd_7 (by with_reducible assumption) | exact nd_8 (by with_reducible assumption)
  k_with "ne" => (refine neN ?_; (try dsimp only); first | with_reducible assumption | exact Ne.symm (by with_reducible assumption) | (refine ne_z ?_; k_extra "lt") | (refine ne_s ?_; k_extra "lt") | (refine ne_zz (by with_reducible assumption) ?_; k_extra "lt") | (refine ne_ss (by with_reducible assumption) ?_; k_extra "lt") | k_extra "nd" | (dsimp only [AllLt] at *; omega))
  k_with "exec If" => (k_here; (fail_if_success with_reducible show wpAny _ _ _ (RowQ _ _ _ _ _ _ _ _ _) _ _); refine Stop.out ?_)
  k_with "subscriptTail Name Slice ref ref" => (k_here; (have _hq := hqa); (with_reducible show wpAny _ _ (subscriptTail _ (PySem.Expr.Slice _ _ none _) (Value.ref _) (Value.ref _)) _ _ _); k_dflt (refine' kms_slice_lit ?zzFa ?zzNa ?zzla ?zzpa ?zzqa ?zzea ?_ ?zzsa ?zzta ?zzza; (case zzFa => k_asm); (case zzNa => k_asm); (case zzla => exact news_list (by k_asm) (by (first | k_mem | (repeat (first | exact hmr | refine List.mem_cons_of_mem _ ?_))))); (case zzpa => kmk_part); (case zzqa => kmk_part); (case zzea => first | exact pick_from _ (by omega) | exact pick_to _ (by omega)); (case zzsa => with_unfolding_all rfl); (case zzta => kmk_pure); (case zzza => exact sz_one (by with_reducible assumption) (Nat.le_of_ble_eq_true rfl))); intro D' h' F' N' l1; (try k_lt l1); (try k_sweep))
  k_with "subscriptTail Name Slice ref ref" => (k_here; (have _hq := hqb); (with_reducible show wpAny _ _ (subscriptTail _ (PySem.Expr.Slice _ _ none _) (Value.ref _) (Value.ref _)) _ _ _); k_dflt (refine' kms_slice_lit ?zzFb ?zzNb ?zzlb ?zzpb ?zzqb ?zzeb ?_ ?zzsb ?zztb ?zzzb; (case zzFb => k_asm); (case zzNb => k_asm); (case zzlb => exact news_list (by k_asm) (by (first | k_mem | (repeat (first | exact hmr | refine List.mem_cons_of_mem _ ?_))))); (case zzpb => kmk_part); (case zzqb => kmk_part); (case zzeb => first | exact pick_from _ (by omega) | exact pick_to _ (by omega)); (case zzsb => with_unfolding_all rfl); (case zztb => kmk_pure); (case zzzb => exact sz_one (by with_reducible assumption) (Nat.le_of_ble_eq_true rfl))); intro D' h' F' N' l1; (try k_lt l1); (try k_sweep))
  k_with "subscriptTail Name Slice ref ref" => (k_here; (have _hq := hqc); (with_reducible show wpAny _ _ (subscriptTail _ (PySem.Expr.Slice _ _ none _) (Value.ref _) (Value.ref _)) _ _ _); k_dflt (refine' kms_slice_lit ?zzFc ?zzNc ?zzlc ?zzpc ?zzqc ?zzec ?_ ?zzsc ?zztc ?zzzc; (case zzFc => k_asm); (case zzNc => k_asm); (case zzlc => exact news_list (by k_asm) (by (first | k_mem | (repeat (first | exact hmr | refine List.mem_cons_of_mem _ ?_))))); (case zzpc => kmk_part); (case zzqc => kmk_part); (case zzec => first | exact pick_from _ (by omega) | exact pick_to _ (by omega)); (case zzsc => with_unfolding_all rfl); (case zztc => kmk_pure); (case zzzc => exact sz_one (by with_reducible assumption) (Nat.le_of_ble_eq_true rfl))); intro D' h' F' N' l1; (try k_lt l1); (try k_sweep))
  k_with "binaryOp Add ref ref" => (k_here; (have _hq := hqa); (with_reducible show wpAny _ _ (binaryOp _ (Value.ref _) (Value.ref _)) _ _ _); k_dflt (refine' kmk_add_lit ?zzFa ?zzNa ?zzaa ?zzba ?zzea ?_ ?zzza; (case zzFa => k_asm); (case zzNa => k_asm); (case zzaa => exact news_list (by k_asm) (by (first | k_mem | (repeat (first | exact hmr | refine List.mem_cons_of_mem _ ?_))))); (case zzba => exact news_list (by k_asm) (by (first | k_mem | (repeat (first | exact hmr | refine List.mem_cons_of_mem _ ?_))))); (case zzea => exact cat_eq _ _); (case zzza => (apply sz_add <;> first | ((repeat' (first | with_reducible assumption | exact sh_one | apply sh_take | apply sh_drop | apply sh_app)); done) | exact Nat.le_of_ble_eq_true rfl))); intro D' h' F' N' l1; (try k_lt l1); (try k_sweep))
  k_with "binaryOp Add ref ref" => (k_here; (have _hq := hqb); (with_reducible show wpAny _ _ (binaryOp _ (Value.ref _) (Value.ref _)) _ _ _); k_dflt (refine' kmk_add_lit ?zzFb ?zzNb ?zzab ?zzbb ?zzeb ?_ ?zzzb; (case zzFb => k_asm); (case zzNb => k_asm); (case zzab => exact news_list (by k_asm) (by (first | k_mem | (repeat (first | exact hmr | refine List.mem_cons_of_mem _ ?_))))); (case zzbb => exact news_list (by k_asm) (by (first | k_mem | (repeat (first | exact hmr | refine List.mem_cons_of_mem _ ?_))))); (case zzeb => exact cat_eq _ _); (case zzzb => (apply sz_add <;> first | ((repeat' (first | with_reducible assumption | exact sh_one | apply sh_take | apply sh_drop | apply sh_app)); done) | exact Nat.le_of_ble_eq_true rfl))); intro D' h' F' N' l1; (try k_lt l1); (try k_sweep))
  k_with "binaryOp Add ref ref" => (k_here; (have _hq := hqc); (with_reducible show wpAny _ _ (binaryOp _ (Value.ref _) (Value.ref _)) _ _ _); k_dflt (refine' kmk_add_lit ?zzFc ?zzNc ?zzac ?zzbc ?zzec ?_ ?zzzc; (case zzFc => k_asm); (case zzNc => k_asm); (case zzac => exact news_list (by k_asm) (by (first | k_mem | (repeat (first | exact hmr | refine List.mem_cons_of_mem _ ?_))))); (case zzbc => exact news_list (by k_asm) (by (first | k_mem | (repeat (first | exact hmr | refine List.mem_cons_of_mem _ ?_))))); (case zzec => exact cat_eq _ _); (case zzzc => (apply sz_add <;> first | ((repeat' (first | with_reducible assumption | exact sh_one | apply sh_take | apply sh_drop | apply sh_app)); done) | exact Nat.le_of_ble_eq_true rfl))); intro D' h' F' N' l1; (try k_lt l1); (try k_sweep))
  k_with "call ref" => (k_here; (with_reducible show wpAny _ _ (call (Value.ref 362) [_, _]) _ _ _); k_dflt (refine' draw_c _ _ _ _ (by omega) (by omega) ?zzB ?zzF ?zzX ?zzT ?zzhk ?zzN1 ?zzpn ?zzpre ?zzdd ?zzuu ?_; (case zzB => k_asm); (case zzF => k_asm); (case zzX => k_asm); (case zzT => k_asm); (case zzhk => first | exact rfl | assumption); (case zzN1 => exact news_mem (by k_asm) (by k_mem)); (case zzpn => first | assumption | exact penO); (case zzpre => exact trivial); (case zzdd => ktr_room); (case zzuu => ktr_units)); intro v' h' tk' op' hk' hg' hpn' p'; (have F' := fr_pen (by k_asm) (by k_asm) (by k_mem) hk'); (have N' := news_pen (by k_asm) (by first | k_updF | (repeat' (first | exact UpdF.head (by assumption) | refine' UpdF.tail ?_ ?_ | k_ne))) hk' hg'); (try dsimp only at p'); (try dsimp only at N'); (try k_sweep); obtain ⟨d9, t9, e9, hd9, hd9'⟩ := p'; subst e9)
  k_with "call builtin:len" => (k_here; (with_reducible show wpAny _ _ (call (Value.builtin "len") [Value.ref _]) _ _ _); k_dflt (
  (refine' kun_lenL (k := (vs7.length : Int)) (l := l7) (items := vs7.toArray) ?zzq0 ?zzq1 ?zzq2 ?_; (case zzq0 => exact news_list (by k_asm) (List.mem_cons_of_mem _ hm7)); (case zzq1 => (rw [List.size_toArray])); (case zzq2 => omega))))
  k_with "call ref" => (k_here; (with_reducible show wpAny _ _ (call (Value.ref 381) [_]) _ _ _); k_dflt (refine' any_c _ _ ?zzB ?zzF ?zzX ?zzT ?zzhk ?zzN1 ?zzpn trivial ?zzdd ?zzuu ?_; (case zzB => k_asm); (case zzF => k_asm); (case zzX => k_asm); (case zzT => k_asm); (case zzhk => first | exact rfl | assumption); (case zzN1 => exact news_mem (by k_asm) (by k_mem)); (case zzpn => assumption); (case zzdd => ktr_room); (case zzuu => ktr_units)); intro v' h' tk' op' hk' hg' hpn' p'; (obtain ⟨oba, tla, hTa, hfa⟩ := p'); (obtain ⟨F', TLa, N', offa, suba, subna⟩ := pen_fold0 (by k_asm) (by k_asm) hoff7 hk' hg' hfa))
  k_with "call ref" => (k_here; (with_reducible show wpAny _ _ (call (Value.ref 294) [_, _]) _ _ _); k_dflt (refine' mk_operation _ _ _ ?zzB ?zzF ?zzX ?zzT ?zzhk trivial ?zzdd ?zzuu ?_; (case zzB => k_asm); (case zzF => k_asm); (case zzX => k_asm); (case zzT => k_asm); (case zzhk => first | exact rfl | assumption); (case zzdd => ktr_room); (case zzuu => ktr_units)); (refine mk_k2 (by k_asm) (by k_asm) ?_); intro x' d' es' n' h' tk' F' N' l1' l2' hf0' hf1'; (try dsimp only at N'); (k_lt2 l2'))
  k_with "call ref" => (k_here; (with_reducible show wpAny _ _ (call (Value.ref 374) _) _ _ _); k_dflt (refine' words_c _ ?zzB ?zzF ?zzX ?zzT ?zzhk trivial ?zzdd ?zzuu ?_; (case zzB => k_asm); (case zzF => k_asm); (case zzX => k_asm); (case zzT => k_asm); (case zzhk => first | exact rfl | assumption); (case zzdd => ktr_room); (case zzuu => ktr_units)); intro v' h' tk' e' p'; (obtain ⟨dw, ow, kvw, ev', hfw, hdw, hkw, low⟩ := p'; subst ev'); (have F' := fr_ext (by k_asm) e'); (have N' := news_fresh (by k_asm) (news_ext (by assumption) e') hfw); (have hwp := fresh_ne (a := p) (by assumption) (by k_mem) hfw _ (List.mem_cons_self ..)); (dsimp only at hwp); (simp only [List.cons_append, List.nil_append] at N'))
  k_with "call type:list" => (k_here; (with_reducible show wpAny _ _ (call (Value.type "list") [Value.ref _]) _ _ _); k_dflt (refine list_words rfl (by k_asm) (by k_asm) (by k_mem) hdw low (by rw [hkw.length, rows_len.2]; decide) ?_); (intro D9 c9 h9 tk9 vs9 F9 N9 l19 hs9); (k_lt l19))
  k_with "call builtin:sorted" => (k_here; (with_reducible show wpAny _ _ (call (Value.builtin "sorted") [Value.ref _]) _ _ _); k_dflt (refine sort_words chkL (by decide +kernel) (by decide +kernel) (by decide +kernel) (by decide +kernel) (by k_asm) (by k_asm) (news_list (by k_asm) (by k_mem)) (by rw [← ssL_eq, ← hkw.keys]; exact hs9) ?_); (intro h8 D8 vs8 e8 F8 N8 l18 hs8); (k_lt l18))
  k_with "binaryOp Add ref ref" => (k_here; (with_reducible show wpAny _ _ (binaryOp _ (Value.ref D8) (Value.ref _)) _ _ _); k_dflt (refine' kmk_add_lit ?zzF ?zzN ?zza ?zzb ?zze ?_ ?zzz; (case zzF => k_asm); (case zzN => k_asm); (case zza => exact news_list (by k_asm) (by k_mem)); (case zzb => exact news_list (by k_asm) (by k_mem)); (case zze => exact cat_eq _ _); (case zzz => ((have hl8 := hs8.length.trans srtW_len); simp only [sizeLine_eq, List.length_append, List.length_cons, List.length_nil]; omega))); intro D' h' F' N' l1; (try k_lt l1); (try k_sweep))
  k_with "call ref" => (k_here; (with_reducible show wpAny _ _ (call (Value.ref 369) _) _ _ _); refine Stop.out ?_)
  k_with "call builtin:dict.get" => (k_here; (with_reducible show wpAny _ _ (call (Value.builtin "dict.get") [Value.ref _, Value.str _ _, Value.str _ _]) _ _ _); k_dflt ((obtain ⟨sg9, tg9, hsg9, hok9⟩ := law_get hkw word9 _); (refine' kdg_get2 (knd := PySem.strKind _ _) ?zzN ?zzmm ?zzd ?zzlo (strKind_is _ _ _ _) _ rfl ?_; (case zzd => exact hdw); (case zzN => k_asm); (case zzmm => k_mem); (case zzlo => exact low)); (rw [hsg9])))
  k_with "exec For Name Call" => (k_here; (rename Fr _ _ _ _ => lF'); (with_unfolding_all refine' For_turns lF' ?_; k_whole))
  k_with "exec For Name Call cons nil" => (k_here; (rename Fr _ _ _ _ => lF'); (with_unfolding_all refine' For_turns lF' ?_; k_whole))
  k_with "pyIter str" => (k_here; refine Stop.out ?_)
  k_with "call ref" => (k_here; (with_reducible show wpAny _ _ (call (Value.ref 386) [_, _]) _ _ _); k_dflt (refine' good_c _ _ _ _ hsg7 ?zzB ?zzF ?zzX ?zzT ?zzhk ?zzN1 ?zzpn trivial ?zzdd ?zzuu ?_; (case zzB => k_asm); (case zzF => k_asm); (case zzX => k_asm); (case zzT => k_asm); (case zzhk => first | exact rfl | assumption); (case zzN1 => exact news_mem (by k_asm) (by k_mem)); (case zzpn => assumption); (case zzdd => ktr_room); (case zzuu => ktr_units)); intro v' h' tk' op' hk' hg' hpn' p'; (obtain ⟨lg, vg, kg, og, tg, eg, hmg, hTg, hzg, hfg⟩ := p'; subst eg); (obtain ⟨F', TLg, N', offg, offIg, subg, subng⟩ := pen_fold1 (by k_asm) (by k_asm) hIp7 hoff7 hoI7 hk' hg' hfg))
  k_with "binaryOp Add ref ref" => (k_here; (with_reducible show wpAny _ _ (binaryOp _ (Value.ref l7) (Value.ref lg)) _ _ _); k_dflt (refine' kmk_add_lit ?zzF ?zzN ?zza ?zzb ?zze ?_ ?zzz; (case zzF => k_asm); (case zzN => k_asm); (case zza => exact news_list (by k_asm) (List.mem_cons_of_mem _ (List.mem_cons_of_mem _ (subg _ hm7)))); (case zzb => exact news_list (by k_asm) (List.mem_cons_of_mem _ (List.mem_cons_of_mem _ (subng _ hmg)))); (case zze => exact cat_eq _ _); (case zzz => (simp only [sizeLine_eq]; show vs7.length + vg.length ≤ _; omega))); intro D' h' F' N' l1; (try k_lt l1))
  unfold PenC
  k_fill
  intro loose mean mg mb dp un gd cn cs a ccd cl outer A₀ base h₀ L m s Q E op B F X T hk NP hpen hpre hd hu hret
  obtain ⟨pn, pt, pc, pu, pk, rfl⟩ := hpen
  refine wpAny_call ?_
  k_dflt (refine' code_defE (led := [(p, listOf #[.int pn pt, .int pc pu] pk)]) ?k1 ?k2 ?k3 ?k4 ?k5 ?kA ?kF ?kK ?k6 ?k7 ?k8 ?k9 ?kB ?_ ?c2 ?c3 ?c4 ?c5; (case kA => exact rfl); (case kF => exact rfl); (case kK => first | assumption | exact rfl); (case k1 => k_asm); (case k2 => k_asm); (case k3 => k_asm); (case k4 => assumption); (case k5 => k_asm); (case k6 => k_is); (case k7 => k_is); (case k8 => ktr_room); (case k9 => first | exact BindsTo.of_eq rfl | exact binds_K (by k_in) rfl (by k_is) rfl rfl rfl); (case c5 => decide); (case kB => exact locs rfl); (case c2 => exact rfl); (case c3 => exact rfl); (case c4 => exact rfl); k_whole; intro g' L' h' HG' F' N' B' X' T'; (try dsimp only); (try k_fold); (first | (refine e_fold ?_; intro A9 e9) | (refine a_fold ?_; intro A9) | skip))
  generalize s.toks + _ = tk0
  have HE' : ∀ b o, @Ne Nat b p → s.heap.get? b = some o → g'.get? b = some o := fun b o n e => HG' b o e (fun hm => n (List.mem_singleton.mp hm))
  clear HG' NP
  replace F' : Fr g' L' h' (fun y => List.lookup y ([(Str.ofString "pen", Value.ref p)] : List (Str × Value))) := F'
  clear hpre
  k_steps
  unfold Stop
  k_dflt (refine' (pickN (g := g') (L := L') (by assumption) w p) ?B ?F ?X ?T ?hk ?N1 ?pn ?pre ?dd ?uu ?_)
  case B => k_asm
  case F => k_asm
  case X => k_asm
  case T => k_asm
  case hk => exact rfl
  case N1 => exact news_mem (by k_asm) (by k_mem)
  case pn => first | assumption | exact penO
  case pre => exact ⟨news_list (by k_asm) (by k_mem), by k_ne, by simp only [List.length_append, List.length_cons]; omega, by have hl8 := hs8.length.trans srtW_len; simp only [List.length_append, List.length_cons, List.length_nil]; omega⟩
  case dd => ktr_room
  case uu => ktr_units
  intro v9 h9 tk9 op9 hk9 hg9 hpn9 hp9
  have F9 := fr_pen (by k_asm) (by k_asm) (by k_mem) hk9
  have N9 := news_pen (by k_asm) (by k_updF) hk9 hg9
  try dsimp only at N9
  obtain ⟨i9, hi9⟩ := hp9
  obtain ⟨word9, tw9, _, rfl⟩ := (hs8.append (.cons (.cons (.cons (.cons (.cons (.cons .nil))))))).at hi9
  k_steps
  unfold Stop
  rename Fr _ _ _ _ => F6
  rename News _ _ _ _ => N6
  have N5 : News g' L' _ ((p, op9) :: [(_, listOf (List.toArray []) 0)]) := fun q hq => by
    rcases List.mem_cons.mp hq with rfl | hq
    · exact N6 _ (by k_mem)
    · rw [List.mem_singleton.mp hq]; exact N6 _ (List.mem_cons_self ..)
  refine for_signs rfl rfl rfl hok9 F6 N5 (rowStart F6 N5 (by with_unfolding_all rfl)) ⟨hpn9, fun q hq => by rw [List.mem_singleton.mp hq]; k_ne, [], 0, [], List.mem_cons_self .., .nil, Nat.zero_le _⟩ ?turn ?fin
  case turn =>
    intro i7 l7 sign7 t7 op7 tl7 h7 tk7 I7 oI7 hsg7 hi7 hJ7 hoI7 hcI7 hIp7 F7 N7
    obtain ⟨hpo7, hoff7, vs7, k7, obs7, hm7, hT7, hz7⟩ := hJ7
    unfold rowMk at F7
    dsimp only at F7
    k_steps
    exact row_end (by assumption) (by assumption) hpn' offg offIg hT7 subg hTg subng hz7 hzg (by k_ne) (by k_ne) row_turn
  case fin =>
    intro ov7 i7 l7 op7 tl7 h7 tk7 hi7 hJ7 F7 N7
    obtain ⟨hpo7, hoff7, vs7, k7, obs7, hm7, hT7, hz7⟩ := hJ7
    unfold rowMk at F7
    dsimp only at F7
    k_steps
    unfold Stop
    rename Fr _ _ _ _ => F5
    rename News _ _ _ _ => N5
    have N4 := news_swap N5
    have hoa : EA w (inL TLa) [v'] := ⟨_, .cons (hTa.mono fun a o h => subna _ h) .nil⟩
    have hra : EA w (inL TLa) vs7 := ⟨_, hT7.mono fun a o h => suba _ h⟩
    have hz8 : vs7.length ≤ 24 := by omega
    have F4 := fr_same (k := Str.ofString "row") (v := .ref l7) F5 (by with_unfolding_all rfl)
    refine row_cut (l := l7) (vo := v') w 24 F4 N4 hoa.cons ?q0 ?_
    all_goals clear F5 N5
    have hmr := suba _ hm7
    case q0 =>
      have hqa := trivial
      k_steps
      · rename News _ _ _ _ => lN
        exact row_new [_, _] (by assumption) lN (by k_ne) (fun q hq => by (simp only [List.mem_cons, List.not_mem_nil, or_false] at hq; rcases hq with rfl | rfl <;> k_ne)) (off_head (by k_ne) offa) hoa.cons hra.cons (fun G B7 B1 => by repeat' (first | exact B7 | exact B1 | apply EA.append | apply EA.take | apply EA.drop)) (by first | exact td_le tn_le (by assumption) | exact tod_le (Nat.le_refl _) (by assumption) | exact tod_le tn_le (by assumption))
      · exact row_keep (by assumption) N4 (off_head (by k_ne) offa) hoa.cons (List.mem_cons_of_mem _ hmr) hra.cons hz8
    intro h1 tk1 TL1 l1r vs1 k1 F1 N1 off1 ho1 hmr hr1 hz1
    clear F4 N4
    unfold rowMk at F1
    dsimp only at F1
    k_steps
    unfold Stop
    refine row_cut (l := l1r) (vo := v') w 25 F1 N1 ho1 ?q1 ?_
    case q1 =>
      have hqb := trivial
      k_steps
      · rename News _ _ _ _ => lN
        exact row_new [_, _, _, _] (by assumption) lN (by k_ne) (fun q hq => by (simp only [List.mem_cons, List.not_mem_nil, or_false] at hq; rcases hq with rfl | rfl | rfl | rfl <;> k_ne)) off1 ho1 hr1 (fun G B7 B1 => by repeat' (first | exact B7 | exact B1 | apply EA.append | apply EA.take | apply EA.drop)) (by first | exact td_le tn_le (by assumption) | exact tod_le (Nat.le_refl _) (by assumption) | exact tod_le tn_le (by assumption))
      · exact row_keep (by assumption) N1 off1 ho1 hmr hr1 (by omega)
    intro h2 tk2 TL2 l2r vs2 k2 F2 N2 off2 ho2 hmr hr2 hz2
    clear F1 N1
    unfold rowMk at F2
    dsimp only at F2
    k_steps
    unfold Stop
    refine row_cut (l := l2r) (vo := v') w 26 F2 N2 ho2 ?q2 ?_
    case q2 =>
      have hqc := trivial
      k_steps
      · rename News _ _ _ _ => lN
        exact row_new [_, _, _, _] (by assumption) lN (by k_ne) (fun q hq => by (simp only [List.mem_cons, List.not_mem_nil, or_false] at hq; rcases hq with rfl | rfl | rfl | rfl <;> k_ne)) off2 ho2 hr2 (fun G B7 B1 => by repeat' (first | exact B7 | exact B1 | apply EA.append | apply EA.take | apply EA.drop)) (by first | exact td_le tn_le (by assumption) | exact tod_le (Nat.le_refl _) (by assumption) | exact tod_le tn_le (by assumption))
      · exact row_keep (by assumption) N2 off2 ho2 hmr hr2 (by omega)
    intro h3 tk3 TL3 l3r vs3 k3 F3 N3 off3 ho3 hmr hr3 hz3
    clear F2 N2
    unfold rowMk at F3
    dsimp only at F3
    k_steps
    refine' hret _ _ _ _ ?qk ?qg ?qo ?qp
    case qk => exact fun b o n e => Fr.keep (by assumption) b o (HE' b o n e)
    case qg => exact news1 (news_mem (by assumption) (by k_mem))
    case qo => assumption
    case qp =>
      obtain ⟨obr, hr4⟩ := hr3
      exact oper_fin N' HE' (by k_mem) (by k_mem) hf0' hf1' (by (repeat (first | exact hmr | refine List.mem_cons_of_mem _ ?_))) (by k_ne) (by k_ne) (off3 _ hmr) (hr4.mono (sub_off (fun q hq => by (repeat (first | exact hq | refine List.mem_cons_of_mem _ ?_))) off3)) (by omega)
end

section
set_option maxHeartbeats 8000000
open PySem PySem.W PyProof.Rows PySem.Calls PySem.Spec
/-- a told thing: a tuple whose first item is the kind's text -/
inductive Told1 (G : Gr) : Value → Kd → Prop where
  | mk {t : Addr} {k : Kd} {tk : Tok} {items : List Value} : G t (tupOf (Value.str k.text tk :: items)) → Told1 G (.ref t) k
inductive Tolds (G : Gr) : List Value → List Kd → Prop where
  | nil : Tolds G [] []
  | cons {v : Value} {k : Kd} {vs : List Value} {ks : List Kd} : Told1 G v k → Tolds G vs ks → Tolds G (v :: vs) (k :: ks)
/-- what told(v) gives back for an object of the law -/
noncomputable def Told (G : Gr) (v : Value) (ob : Ob) : Prop := ∃ t tk items, v = .ref t ∧ G t (tupOf (Value.str ob.k.text tk :: items)) ∧ (ob.k = .array → items.length ≤ 20 ∧ Tolds G items ob.its)
section
variable {G G' : Gr} {v : Value} {k : Kd} {vs : List Value} {ks : List Kd}
theorem Told1.mono (x : Told1 G v k) (h : ∀ a o, G a o → G' a o) : Told1 G' v k := by
  cases x with
  | mk a => exact .mk (h _ _ a)
theorem Tolds.mono (x : Tolds G vs ks) (h : ∀ a o, G a o → G' a o) : Tolds G' vs ks := by
  induction x with
  | nil => exact .nil
  | cons a _ ih => exact .cons (a.mono h) ih
theorem Tolds.length (x : Tolds G vs ks) : vs.length = ks.length := by
  induction x with
  | nil => rfl
  | cons _ _ ih => simp [ih]
theorem Tolds.at (x : Tolds G vs ks) : ∀ {i : Nat} {v : Value}, vs[i]? = some v → ∃ k, ks[i]? = some k ∧ Told1 G v k := by
  induction x with
  | nil => intro i v e; simp at e
  | cons a _ ih =>
    intro i v e
    cases i with
    | zero => simp at e; subst e; exact ⟨_, rfl, a⟩
    | succ i => simpa using ih (by simpa using e)
theorem Tolds.snoc (x : Tolds G vs ks) {v : Value} {k : Kd} (y : Told1 G v k) : Tolds G (vs ++ [v]) (ks ++ [k]) := by
  induction x with
  | nil => exact .cons y .nil
  | cons a _ ih => exact .cons a ih
theorem Told.mono {ob : Ob} (x : Told G v ob) (h : ∀ a o, G a o → G' a o) : Told G' v ob := by
  obtain ⟨t, tk, items, a, b, d⟩ := x
  exact ⟨t, tk, items, a, h _ _ b, fun q => ⟨(d q).1, (d q).2.mono h⟩⟩
theorem Told1.told {its : List Kd} (x : Told1 G v k) (e : k ≠ .array) : Told G v ⟨k, its⟩ := by
  cases x with
  | mk a => exact ⟨_, _, _, rfl, a, fun q => absurd q e⟩
end
theorem fresh_all {s g h' : Heap} {L : Addr} {led : List (Addr × Obj)} (N : News g L h' led) (e : ∀ b o, s.get? b = some o → g.get? b = some o) : Fresh s h' led := fun q hq => ⟨(N q hq).1, by
  cases r : s.get? q.1 with
  | none => rfl
  | some o =>
    have z := (N q hq).2.2
    rw [e _ _ r] at z; cases z⟩
theorem told1_fin {s g h' : Heap} {L t : Addr} {led : List (Addr × Obj)} {k : Kd} {x : Str} {tk : Tok} {items : List Value} (N : News g L h' led) (e : ∀ b o, s.get? b = some o → g.get? b = some o) (hm : (t, tupOf (Value.str x tk :: items)) ∈ led) (ex : x = k.text) : ∃ tl, Told1 (inL tl) (.ref t) k ∧ Fresh s h' tl := by
  subst ex
  exact ⟨led, .mk hm, fresh_all N e⟩
theorem told_up {s h1 h' : Heap} {v : Value} {k : Kd} (p : ∃ tl, Told1 (inL tl) v k ∧ Fresh h1 h' tl) (e : ∀ b o, s.get? b = some o → h1.get? b = some o) : ∃ tl, Told1 (inL tl) v k ∧ Fresh s h' tl := by
  obtain ⟨tl, a, f⟩ := p
  refine ⟨tl, a, fun q hq => ⟨(f q hq).1, ?_⟩⟩
  cases r : s.get? q.1 with
  | none => rfl
  | some o =>
    have z := (f q hq).2
    rw [e _ _ r] at z; cases z
theorem PA.ext {h h' : Heap} {v : Value} {k : Kd} (x : PA (inH h) v k) (e : Ext h h') : PA (inH h') v k := x.mono fun a o q => e a o q
theorem PsA.ext {h h' : Heap} {vs : List Value} {ks : List Kd} (x : PsA (inH h) vs ks) (e : Ext h h') : PsA (inH h') vs ks := x.mono fun a o q => e a o q
theorem TA.ext {w : World} {h h' : Heap} {v : Value} {ob : Ob} (x : TA w (inH h) v ob) (e : Ext h h') : TA w (inH h') v ob := x.mono fun a o q => e a o q
theorem PA.at_kat {h h' : Heap} {v : Value} {k : Kd} (x : PA (inH h) v k) (e : ∀ b o, h.get? b = some o → h'.get? b = some o) : KAt h' v k := (x.ext e).kat
end

section
set_option maxHeartbeats 8000000
open PySem PySem.W PyProof.Rows PySem.Calls PySem.Spec
theorem bb_bytes : typeLookup (.type "bytes") "__bytes__" = pure (some (.builtin "bytes.__bytes__")) := by rw [typeLookup_type, builtinLookup_eq_fast]; kernel_rfl
section
variable {prog : Program} {w : World} {A : Around} {E : Value → Shared → Prop} {s : Shared}
theorem bb_new {b : Array UInt8} {t : Tok} {Q : Value → Shared → Prop} (hQ : Q (.bytes b t) s) :
    codeAny (model prog w) A (.call (.builtin "bytes.__new__") ⟨[.type "bytes", .bytes b t], []⟩) (wants Q E) s := by
  refine codeAny_of_tree ?_
  show wpAny _ A.in1 (do checkBuiltinCall "bytes.__new__" ⟨[.type "bytes", .bytes b t], []⟩; again (.builtin "bytes.__new__" ⟨[.type "bytes", .bytes b t], []⟩)) _ _ s
  refine wpAny_bind (wpAny_of_eq (F.bm_newCall _) (wpAny_pure ⟨plainId_quiet F.bm_plain _, codeAny_builtin F.bm_entry ?_⟩))
  rw [Around.under_plainId F.bm_plain _]
  have hT : s.TypeIs (.bytes b t) "bytes" := PySem.W.typeIs_bytes _ _ _
  unfold Builtin.«bytes.__new__»
  refine wpAny_bind (wpAny_of_eq (a := true) rfl ?_)
  refine bm_if_false rfl ?_
  refine wpAny_bind (wpAny_of_eq F.bm_sub ?_)
  refine bm_if_false rfl ?_
  refine wpAny_bind (wpAny_of_eq (F.bm_bind _) ?_)
  refine wpAny_bind (wpAny_of_eq (a := ()) rfl ?_)
  refine wpAny_bind (wpAny_of_eq (a := ()) rfl ?_)
  refine bm_if_false rfl ?_
  refine wpAny_bind (wpAny_specialOf hT bb_bytes ?_)
  dsimp only
  refine wpAny_bind (wpAny_rule ?_)
  refine wpAny_bind (wpAny_of_eq (a := Value.type "bytes") rfl ?_)
  refine bm_if_true (by decide +kernel) ?_
  refine wpAny_pure ?_
  exact hQ
theorem call_bytes_bytes {b : Array UInt8} {t : Tok} {Q : Value → Shared → Prop} (hQ : Q (.bytes b t) s) : wpAny (model prog w) A (call (.type "bytes") [.bytes b t]) Q E s := by
  refine callType_codes (Q₁ := fun obj s₁ => s₁.TypeIs obj "bytes" ∧ Q obj s₁) F.bm_called (F.bm_typeCall _) F.entry_object_init
    (bb_new ⟨PySem.W.typeIs_bytes _ _ _, hQ⟩) fun obj s₁ h₁ => ?_
  exact ⟨h₁.1, F.args_object_init_2 obj _, object_init_meets F.bm_called.init.lookup F.bm_called.made (by decide) prog w A.in1 _ s₁ ⟨h₁.1, rfl, h₁.2⟩⟩
end
end

section
set_option maxHeartbeats 40000000
open PySem PySem.W PyProof.Rows PySem.Calls PySem.Spec
theorem tplain_c (w : World) (v : Value) (k : Kd) (tk0 : Tok) : PureN w 267 2 16 [.str k.text tk0, v] (fun h => PA (inH h) v k) (fun h₀ h' r => ∃ tl, Told1 (inL tl) r k ∧ Fresh h₀ h' tl) := by
  k_with_none
  k_with "lt" => first | with_reducible assumption | exact lt_0 (by with_reducible assumption) | exact lt_1 (by with_reducible assumption) | exact lt_2 (by with_reducible assumption) | exact lt_3 (by with_reducible assumption) | exact lt_4 (by with_reducible assumption) | exact lt_5 (by with_reducible assumption) | exact lt_6 (by with_reducible assumption) | exact lt_7 (by with_reducible assumption) | exact lt_0 (dr8 (by with_reducible assumption)) | exact lt_1 (dr8 (by with_reducible assumption)) | exact lt_2 (dr8 (by with_reducible assumption)) | exact lt_3 (dr8 (by with_reducible assumption)) | exact lt_4 (dr8 (by with_reducible assumption)) | exact lt_5 (dr8 (by with_reducible assumption)) | exact lt_6 (dr8 (by with_reducible assumption)) | exact lt_7 (dr8 (by with_reducible assumption)) | exact lt_0 (dr8 (dr8 (by with_reducible assumption))) | exact lt_1 (dr8 (dr8 (by with_reducible assumption))) | exact lt_2 (dr8 (dr8 (by with_reducible assumption))) | exact lt_3 (dr8 (dr8 (by with_reducible assumption))) | exact lt_4 (dr8 (dr8 (by with_reducible assumption))) | exact lt_5 (dr8 (dr8 (by with_reducible assumption))) | exact lt_6 (dr8 (dr8 (by with_reducible assumption))) | exact lt_7 (dr8 (dr8 (by with_reducible assumption))) | exact lt_0 (dr8 (dr8 (dr8 (by with_reducible assumption)))) | exact lt_1 (dr8 (dr8 (dr8 (by with_reducible assumption)))) | exact lt_2 (dr8 (dr8 (dr8 (by with_reducible assumption)))) | exact lt_3 (dr8 (dr8 (dr8 (by with_reducible assumption)))) | exact lt_4 (dr8 (dr8 (dr8 (by with_reducible assumption)))) | exact lt_5 (dr8 (dr8 (dr8 (by with_reducible assumption)))) | exact lt_6 (dr8 (dr8 (dr8 (by with_reducible assumption)))) | exact lt_7 (dr8 (dr8 (dr8 (by with_reducible assumption)))) | exact lt_0 (dr8 (dr8 (dr8 (dr8 (by with_reducible assumption))))) | exact lt_1 (dr8 (dr8 (dr8 (dr8 (by with_reducible assumption))))) | exact lt_2 (dr8 (dr8 (dr8 (dr8 (by with_reducible assumption))))) | exact lt_3 (dr8 (dr8 (dr8 (dr8 (by with_reducible assumption))))) | exact lt_4 (dr8 (dr8 (dr8 (dr8 (by with_reducible assumption))))) | exact lt_5 (dr8 (dr8 (dr8 (dr8 (by with_reducible assumption))))) | exact lt_6 (dr8 (dr8 (dr8 (dr8 (by with_reducible assumption))))) | exact lt_7 (dr8 (dr8 (dr8 (dr8 (by with_reducible assumption)))))
  k_with "nd" => first | exact nd_0 (by with_reducible assumption) | exact nd_1 (by with_reducible assumption) | exact nd_2 (by with_reducible assumption) | exact nd_3 (by with_reducible assumption) | exact nd_4 (by with_reducible assumption) | exact nd_5 (by with_reducible assumption) | exact nd_6 (by with_reducible assumption) | exact nd_7 (by with_reducible assumption) | exact nd_8 (by with_reducible assumption)
  k_with "ne" => (refine neN ?_; (try dsimp only); first | with_reducible assumption | exact Ne.symm (by with_reducible assumption) | (refine ne_z ?_; k_extra "lt") | (refine ne_s ?_; k_extra "lt") | (refine ne_zz (by with_reducible assumption) ?_; k_extra "lt") | (refine ne_ss (by with_reducible assumption) ?_; k_extra "lt") | k_extra "nd" | (dsimp only [AllLt] at *; omega))
  k_with "getAttr ref" => (k_here; k_dflt (refine' get_own ?zzk1 ?zzk2 ?zzk3 ?zzk4 ?zzk5 ?zzk6 ?zzk7 ?zzk8 ?zzk9 ?_; (case zzk3 => exact op_inst hi1 hi2 (Fr.keep (by k_asm))); (case zzk1 => k_asm); (case zzk2 => k_asm); (case zzk4 => k_is); (case zzk5 => k_is); (case zzk6 => k_is); (case zzk7 => k_is); (case zzk8 => assumption); (case zzk9 => k_handed); k_whole))
  k_with "call type:bytes" => (k_here; (with_reducible show wpAny _ _ (call (Value.type "bytes") [Value.bytes _ _]) _ _ _); refine call_bytes_bytes ?_)
  unfold PureN
  k_fill
  intro loose mean mg mb dp un gd cn cs a ccd cl outer A₀ base h₀ L m s Q E B F X T hk hpre hd hu hret
  have hi0 := hpre
  clear hpre
  cases hi0 with
  | null =>
    refine wpAny_call ?_
    k_dflt (refine' code_def0 ?k1 ?k2 ?k3 ?k5 ?kA ?kF ?kK ?k6 ?k7 ?k8 ?k9 ?kB ?_ ?c2 ?c3 ?c4 ?c5; (case kA => exact rfl); (case kF => exact rfl); (case kK => first | assumption | exact rfl); (case k1 => k_asm); (case k2 => k_asm); (case k3 => k_asm); (case k5 => k_asm); (case k6 => k_is); (case k7 => k_is); (case k8 => ktr_room); (case k9 => first | exact BindsTo.of_eq rfl | exact binds_K (by k_in) rfl (by k_is) rfl rfl rfl); (case c5 => decide); (case kB => exact locs rfl); (case c2 => exact rfl); (case c3 => exact rfl); (case c4 => exact rfl); k_whole; intro g' L' h' HE' F' N' B' X' T'; (try dsimp only); (try k_fold); (first | (refine e_fold ?_; intro A9 e9) | (refine a_fold ?_; intro A9) | skip))
    k_steps
    exact hret _ _ _ (fun b o e => Fr.keep (by assumption) b o (HE' b o e)) (told1_fin (by assumption) HE' (by k_mem) rfl)
  | truth =>
    refine wpAny_call ?_
    k_dflt (refine' code_def0 ?k1 ?k2 ?k3 ?k5 ?kA ?kF ?kK ?k6 ?k7 ?k8 ?k9 ?kB ?_ ?c2 ?c3 ?c4 ?c5; (case kA => exact rfl); (case kF => exact rfl); (case kK => first | assumption | exact rfl); (case k1 => k_asm); (case k2 => k_asm); (case k3 => k_asm); (case k5 => k_asm); (case k6 => k_is); (case k7 => k_is); (case k8 => ktr_room); (case k9 => first | exact BindsTo.of_eq rfl | exact binds_K (by k_in) rfl (by k_is) rfl rfl rfl); (case c5 => decide); (case kB => exact locs rfl); (case c2 => exact rfl); (case c3 => exact rfl); (case c4 => exact rfl); k_whole; intro g' L' h' HE' F' N' B' X' T'; (try dsimp only); (try k_fold); (first | (refine e_fold ?_; intro A9 e9) | (refine a_fold ?_; intro A9) | skip))
    k_steps
    all_goals exact hret _ _ _ (fun b o e => Fr.keep (by assumption) b o (HE' b o e)) (told1_fin (by assumption) HE' (by k_mem) rfl)
  | int =>
    refine wpAny_call ?_
    k_dflt (refine' code_def0 ?k1 ?k2 ?k3 ?k5 ?kA ?kF ?kK ?k6 ?k7 ?k8 ?k9 ?kB ?_ ?c2 ?c3 ?c4 ?c5; (case kA => exact rfl); (case kF => exact rfl); (case kK => first | assumption | exact rfl); (case k1 => k_asm); (case k2 => k_asm); (case k3 => k_asm); (case k5 => k_asm); (case k6 => k_is); (case k7 => k_is); (case k8 => ktr_room); (case k9 => first | exact BindsTo.of_eq rfl | exact binds_K (by k_in) rfl (by k_is) rfl rfl rfl); (case c5 => decide); (case kB => exact locs rfl); (case c2 => exact rfl); (case c3 => exact rfl); (case c4 => exact rfl); k_whole; intro g' L' h' HE' F' N' B' X' T'; (try dsimp only); (try k_fold); (first | (refine e_fold ?_; intro A9 e9) | (refine a_fold ?_; intro A9) | skip))
    k_steps
    all_goals exact hret _ _ _ (fun b o e => Fr.keep (by assumption) b o (HE' b o e)) (told1_fin (by assumption) HE' (by k_mem) rfl)
  | real a1 a2 a3 a4 =>
    refine wpAny_call ?_
    k_dflt (refine' code_def0 ?k1 ?k2 ?k3 ?k5 ?kA ?kF ?kK ?k6 ?k7 ?k8 ?k9 ?kB ?_ ?c2 ?c3 ?c4 ?c5; (case kA => exact rfl); (case kF => exact rfl); (case kK => first | assumption | exact rfl); (case k1 => k_asm); (case k2 => k_asm); (case k3 => k_asm); (case k5 => k_asm); (case k6 => k_is); (case k7 => k_is); (case k8 => ktr_room); (case k9 => first | exact BindsTo.of_eq rfl | exact binds_K (by k_in) rfl (by k_is) rfl rfl rfl); (case c5 => decide); (case kB => exact locs rfl); (case c2 => exact rfl); (case c3 => exact rfl); (case c4 => exact rfl); k_whole; intro g' L' h' HE' F' N' B' X' T'; (try dsimp only); (try k_fold); (first | (refine e_fold ?_; intro A9 e9) | (refine a_fold ?_; intro A9) | skip))
    have hi1 := HE' _ _ a1
    have hi2 := HE' _ _ a2
    k_steps
    all_goals exact hret _ _ _ (fun b o e => Fr.keep (by assumption) b o (HE' b o e)) (told1_fin (by assumption) HE' (by k_mem) rfl)
  | name a1 a2 a3 =>
    refine wpAny_call ?_
    k_dflt (refine' code_def0 ?k1 ?k2 ?k3 ?k5 ?kA ?kF ?kK ?k6 ?k7 ?k8 ?k9 ?kB ?_ ?c2 ?c3 ?c4 ?c5; (case kA => exact rfl); (case kF => exact rfl); (case kK => first | assumption | exact rfl); (case k1 => k_asm); (case k2 => k_asm); (case k3 => k_asm); (case k5 => k_asm); (case k6 => k_is); (case k7 => k_is); (case k8 => ktr_room); (case k9 => first | exact BindsTo.of_eq rfl | exact binds_K (by k_in) rfl (by k_is) rfl rfl rfl); (case c5 => decide); (case kB => exact locs rfl); (case c2 => exact rfl); (case c3 => exact rfl); (case c4 => exact rfl); k_whole; intro g' L' h' HE' F' N' B' X' T'; (try dsimp only); (try k_fold); (first | (refine e_fold ?_; intro A9 e9) | (refine a_fold ?_; intro A9) | skip))
    have hi1 := HE' _ _ a1
    have hi2 := HE' _ _ a2
    k_steps
    all_goals exact hret _ _ _ (fun b o e => Fr.keep (by assumption) b o (HE' b o e)) (told1_fin (by assumption) HE' (by k_mem) rfl)
  | string a1 a2 a3 =>
    refine wpAny_call ?_
    k_dflt (refine' code_def0 ?k1 ?k2 ?k3 ?k5 ?kA ?kF ?kK ?k6 ?k7 ?k8 ?k9 ?kB ?_ ?c2 ?c3 ?c4 ?c5; (case kA => exact rfl); (case kF => exact rfl); (case kK => first | assumption | exact rfl); (case k1 => k_asm); (case k2 => k_asm); (case k3 => k_asm); (case k5 => k_asm); (case k6 => k_is); (case k7 => k_is); (case k8 => ktr_room); (case k9 => first | exact BindsTo.of_eq rfl | exact binds_K (by k_in) rfl (by k_is) rfl rfl rfl); (case c5 => decide); (case kB => exact locs rfl); (case c2 => exact rfl); (case c3 => exact rfl); (case c4 => exact rfl); k_whole; intro g' L' h' HE' F' N' B' X' T'; (try dsimp only); (try k_fold); (first | (refine e_fold ?_; intro A9 e9) | (refine a_fold ?_; intro A9) | skip))
    have hi1 := HE' _ _ a1
    have hi2 := HE' _ _ a2
    k_steps
    all_goals exact hret _ _ _ (fun b o e => Fr.keep (by assumption) b o (HE' b o e)) (told1_fin (by assumption) HE' (by k_mem) rfl)
  | ref a1 a2 a3 a4 =>
    refine wpAny_call ?_
    k_dflt (refine' code_def0 ?k1 ?k2 ?k3 ?k5 ?kA ?kF ?kK ?k6 ?k7 ?k8 ?k9 ?kB ?_ ?c2 ?c3 ?c4 ?c5; (case kA => exact rfl); (case kF => exact rfl); (case kK => first | assumption | exact rfl); (case k1 => k_asm); (case k2 => k_asm); (case k3 => k_asm); (case k5 => k_asm); (case k6 => k_is); (case k7 => k_is); (case k8 => ktr_room); (case k9 => first | exact BindsTo.of_eq rfl | exact binds_K (by k_in) rfl (by k_is) rfl rfl rfl); (case c5 => decide); (case kB => exact locs rfl); (case c2 => exact rfl); (case c3 => exact rfl); (case c4 => exact rfl); k_whole; intro g' L' h' HE' F' N' B' X' T'; (try dsimp only); (try k_fold); (first | (refine e_fold ?_; intro A9 e9) | (refine a_fold ?_; intro A9) | skip))
    have hi1 := HE' _ _ a1
    have hi2 := HE' _ _ a2
    k_steps
    all_goals exact hret _ _ _ (fun b o e => Fr.keep (by assumption) b o (HE' b o e)) (told1_fin (by assumption) HE' (by k_mem) rfl)
end

section
set_option maxHeartbeats 4000000
open PySem PySem.W PyProof.Rows PySem.Calls PySem.Spec
theorem perm_few {α : Type} {a b : Array α} (h : a.Perm b) (hb : b.size ≤ 1) : a = b := by
  have h' : a.toList.Perm b.toList := Array.perm_iff_toList_perm.mp h
  have hz : b.toList.length ≤ 1 := by simpa using hb
  apply Array.toList_inj.mp
  generalize b.toList = l at h' hz ⊢
  cases l with
  | nil => exact h'.eq_nil
  | cons x r =>
    cases r with
    | nil => exact List.perm_singleton.mp h'
    | cons y r => exact absurd (Nat.le_of_succ_le_succ hz) (Nat.not_succ_le_zero _)
section
variable {prog : Program} {w : World} {A : Around} {E : Value → Shared → Prop} {s : Shared} {h₀ : Heap} {L : Addr} {m : Str → Option Value} {news : List (Addr × Obj)}
theorem pairs_few {vs : List Value} (h : vs.length ≤ 1) : (pairsOf vs).map (·.2) = vs.toArray := by
  cases vs with
  | nil => simp [pairsOf]
  | cons a r =>
    cases r with
    | nil => simp [pairsOf]
    | cons b r => exact absurd (Nat.le_of_succ_le_succ h) (Nat.not_succ_le_zero _)
theorem lsort_few {D : Addr} {n : Nat} {vs : List Value} {ss : List Str} {Q : Value → Shared → Prop} (F : Fr h₀ L s.heap m) (N : News h₀ L s.heap ((D, listOf vs.toArray n) :: news)) (off : ∀ p ∈ news, @Ne Nat p.1 D) (hS : StrsAre vs ss) (h2 : vs.length ≤ 1)
    (h : ∀ h' e, Fr h₀ L h' m → News h₀ L h' ((D, listOf vs.toArray e) :: news) → Q .none { s with heap := h' }) : wpAny (model prog w) A (call (.builtin "list.sort") [.ref D]) Q E s := by
  have z := N _ (List.mem_cons_self ..)
  have ho : s.heap.get? D = some (seqObj "list" vs.toArray n) := z.1
  refine wpAny_call_entry PyProof.Rows.slot_list_sort ⟨_, z.1, rfl⟩ PyProof.Rows.entry_list_sort (list_sort_treeK (κ := PyProof.Rows.strKind) strKind_oneLt ho hS.keysOf (fun v₁ v₂ rest e => by subst e; simp at h2) (by omega) fun st' hp _ => ⟨.none, rfl, ?_⟩) (PyProof.Rows.args_list_sort _)
  have e0 : arrOf st' = pairsOf vs := perm_few hp (by rw [pairsOf_size]; exact h2)
  have e1 : (arrOf st').map (·.2) = vs.toArray := by rw [e0]; exact pairs_few h2
  rw [e1]
  have F1 : Fr h₀ L (s.heap.update D (Obj.mapSeq fun _ => (#[] : Array Value))) m := F.change (Heap.SameBut.update ..) z.2.1 z.2.2
  have N1 := ki_turn (pre := []) (fun _ => (#[] : Array Value)) (its' := #[]) N (fun _ h => nomatch h) off rfl rfl
  have N2 := News.grown N1 fun _ _ e => Heap.get?_push_of_some (seqObj "tuple" vs.toArray 0) e
  have N3 := News.grown N2 fun _ _ e => Heap.get?_push_of_some (seqObj "list" #[] 0) e
  have N4 := ki_turn (pre := []) (fun _ => vs.toArray) (its' := vs.toArray) N3 (fun _ h => nomatch h) off rfl rfl
  have F4 : Fr h₀ L ((((s.heap.update D (Obj.mapSeq fun _ => (#[] : Array Value))).push (seqObj "tuple" vs.toArray 0)).push (seqObj "list" #[] 0)).update D (Obj.mapSeq fun _ => vs.toArray)) m :=
    ((F1.push (seqObj "tuple" vs.toArray 0)).push (seqObj "list" #[] 0)).change (Heap.SameBut.update ..) z.2.1 z.2.2
  exact h _ _ F4 N4
theorem sorted_few {d : Addr} {o : Obj} {kvs : List (Str × Value)} {Q : Value → Shared → Prop} (hh : A.handled = none) (F : Fr h₀ L s.heap m) (N : News h₀ L s.heap news) (hg : s.heap.get? d = some o) (hd : o.IsDictOf (PySem.strKind prog w) kvs) (lo : (d == sysModules) = false) (hn : kvs.length ≤ 1)
    (h : ∀ (B : Addr) c h' tk vs, Fr h₀ L h' m → News h₀ L h' ((B, listOf (List.toArray vs) c) :: news) → (∀ q ∈ news, q.1 < B) → Strs vs (kvs.map (·.1)) → Q (.ref B) { s with heap := h', toks := tk }) :
    wpAny (model prog w) A (call (.builtin "sorted") [.ref d]) Q E s := by
  obtain ⟨ep, hat⟩ := (Heap.dictOf_iff.mpr ⟨o, hg, hd⟩ : s.heap.DictOf (PySem.strKind prog w) d kvs).dictAt
  refine kdu_sorted (kdl_dict (knd := PySem.strKind prog w) (kvs := kvs) (ep := ep) lo) hh F N hat (by rw [sizeLine_eq]; omega) fun B h' tk vs F' N' l1 hl hv => ?_
  have hS : Strs vs (kvs.map (·.1)) := strs_keys hl fun j u hu => by
    obtain ⟨k, x, hx, hk⟩ := hv j u hu
    exact ⟨k, x, hx, Value.isStrOf_shape hk⟩
  refine lsort_few F' N' (fun p hp => Nat.ne_of_lt (l1 p hp)) hS.are (by omega) fun h'' e F'' N'' => ?_
  exact h B e h'' tk vs F'' N'' l1 hS
end
end

section
set_option maxHeartbeats 40000000
open PySem PySem.W PyProof.Rows PySem.Calls PySem.Spec
theorem base_item {w : World} {A : Around} {E : Value → Shared → Prop} {s : Shared} {d : Addr} {o : Obj} {kvs : List (Str × Value)} {k : Str} {t : Tok} {v : Value} {value slice : PySem.Expr} {Q : Value → Shared → Prop} (hg : s.heap.get? d = some o) (hd : o.IsDictOf (kndW w) kvs) (hl : valueAt kvs k = some v) (h : Q v { s with toks := s.toks + 1 })
    (hs : subscripted slice false (.ref d) (.str k t) = operate [.ref d, .str k t] (getItem (.ref d) (.str k t)) := by with_unfolding_all rfl) (hgo : ∀ r, letTemporaryGo value (.ref d) r = pure () := by intro _; with_unfolding_all rfl) :
    wpAny (model PySem.Challenge.rw_nn0217_01.row.prog w) A (subscriptTail value slice (.ref d) (.str k t)) Q E s :=
  have hD : s.heap.DictOf (kndW w) d kvs := Heap.dictOf_iff.mpr ⟨o, hg, hd⟩
  subscriptTail_builtin hD.typeIs slot_dict_getitem.lookup (wpAny_getItem_of (strKind_is _ _ _ _) hD.mapOf hl h) hs hgo
theorem kd_neq {k : Kd} (h : k ≠ .array ∧ k ≠ .dict ∧ k ≠ .stream) : (k.text == Str.ofString "array") = false ∧ (k.text == Str.ofString "dict") = false ∧ (k.text == Str.ofString "stream") = false := by
  cases k <;> first | exact absurd rfl h.1 | exact absurd rfl h.2.1 | exact absurd rfl h.2.2 | decide +kernel
theorem tflat_c (w : World) (v : Value) (k : Kd) : PureN w 272 6 48 [v] (fun h => PA (inH h) v k) (fun h₀ h' r => ∃ tl, Told1 (inL tl) r k ∧ Fresh h₀ h' tl) := by
  k_with_none
  k_with "lt" => first | with_reducible assumption | exact lt_0 (by with_reducible assumption) | exact lt_1 (by with_reducible assumption) | exact lt_2 (by with_reducible assumption) | exact lt_3 (by with_reducible assumption) | exact lt_4 (by with_reducible assumption) | exact lt_5 (by with_reducible assumption) | exact lt_6 (by with_reducible assumption) | exact lt_7 (by with_reducible assumption) | exact lt_0 (dr8 (by with_reducible assumption)) | exact lt_1 (dr8 (by with_reducible assumption)) | exact lt_2 (dr8 (by with_reducible assumption)) | exact lt_3 (dr8 (by with_reducible assumption)) | exact lt_4 (dr8 (by with_reducible assumption)) | exact lt_5 (dr8 (by with_reducible assumption)) | exact lt_6 (dr8 (by with_reducible assumption)) | exact lt_7 (dr8 (by with_reducible assumption)) | exact lt_0 (dr8 (dr8 (by with_reducible assumption))) | exact lt_1 (dr8 (dr8 (by with_reducible assumption))) | exact lt_2 (dr8 (dr8 (by with_reducible assumption))) | exact lt_3 (dr8 (dr8 (by with_reducible assumption))) | exact lt_4 (dr8 (dr8 (by with_reducible assumption))) | exact lt_5 (dr8 (dr8 (by with_reducible assumption))) | exact lt_6 (dr8 (dr8 (by with_reducible assumption))) | exact lt_7 (dr8 (dr8 (by with_reducible assumption))) | exact lt_0 (dr8 (dr8 (dr8 (by with_reducible assumption)))) | exact lt_1 (dr8 (dr8 (dr8 (by with_reducible assumption)))) | exact lt_2 (dr8 (dr8 (dr8 (by with_reducible assumption)))) | exact lt_3 (dr8 (dr8 (dr8 (by with_reducible assumption)))) | exact lt_4 (dr8 (dr8 (dr8 (by with_reducible assumption)))) | exact lt_5 (dr8 (dr8 (dr8 (by with_reducible assumption)))) | exact lt_6 (dr8 (dr8 (dr8 (by with_reducible assumption)))) | exact lt_7 (dr8 (dr8 (dr8 (by with_reducible assumption)))) | exact lt_0 (dr8 (dr8 (dr8 (dr8 (by with_reducible assumption))))) | exact lt_1 (dr8 (dr8 (dr8 (dr8 (by with_reducible assumption))))) | exact lt_2 (dr8 (dr8 (dr8 (dr8 (by with_reducible assumption))))) | exact lt_3 (dr8 (dr8 (dr8 (dr8 (by with_reducible assumption))))) | exact lt_4 (dr8 (dr8 (dr8 (dr8 (by with_reducible assumption))))) | exact lt_5 (dr8 (dr8 (dr8 (dr8 (by with_reducible assumption))))) | exact lt_6 (dr8 (dr8 (dr8 (dr8 (by with_reducible assumption))))) | exact lt_7 (dr8 (dr8 (dr8 (dr8 (by with_reducible assumption)))))
  k_with "nd" => first | exact nd_0 (by with_reducible assumption) | exact nd_1 (by with_reducible assumption) | exact nd_2 (by with_reducible assumption) | exact nd_3 (by with_reducible assumption) | exact nd_4 (by with_reducible assumption) | exact nd_5 (by with_reducible assumption) | exact nd_6 (by with_reducible assumption) | exact nd_7 (by with_reducible assumption) | exact nd_8 (by with_reducible assumption)
  k_with "ne" => (refine neN ?_; (try dsimp only); first | with_reducible assumption | exact Ne.symm (by with_reducible assumption) | (refine ne_z ?_; k_extra "lt") | (refine ne_s ?_; k_extra "lt") | (refine ne_zz (by with_reducible assumption) ?_; k_extra "lt") | (refine ne_ss (by with_reducible assumption) ?_; k_extra "lt") | k_extra "nd" | (dsimp only [AllLt] at *; omega))
  k_with "compareOp Eq str str" => (k_here; (with_reducible show wpAny _ _ (compareOp _ (Value.str (Kd.text _) _) _) _ _ _); refine PyProof.Rows.eq_str ?_; first | rw [hn1.1] | rw [hn1.2.1] | rw [hn1.2.2])
  k_with "call ref" => (k_here; (with_reducible show wpAny _ _ (call (Value.ref 253) [_]) _ _ _); k_dflt (refine' kind_c _ _ _ ?zzB ?zzF ?zzX ?zzT ?zzhk ?zzpre ?zzdd ?zzuu ?_; (case zzB => k_asm); (case zzF => k_asm); (case zzX => k_asm); (case zzT => k_asm); (case zzhk => first | exact rfl | assumption); (case zzpre => exact hi0.at_kat (fun b o e => Fr.keep (by assumption) b o (HE' b o e))); (case zzdd => ktr_room); (case zzuu => ktr_units)); intro v' h' tk' e' p'; (have F' := fr_ext (by k_asm) e'); (have N' := news_ext (by k_asm) e'); (try dsimp only at p'); (try k_sweep); obtain ⟨tk'', e''⟩ := p'; subst e'')
  k_with "call ref" => (k_here; (with_reducible show wpAny _ _ (call (Value.ref 267) [_, _]) _ _ _); k_dflt (refine' tplain_c _ _ _ _ ?zzB ?zzF ?zzX ?zzT ?zzhk ?zzpre ?zzdd ?zzuu ?_; (case zzB => k_asm); (case zzF => k_asm); (case zzX => k_asm); (case zzT => k_asm); (case zzhk => first | exact rfl | assumption); (case zzpre => exact hi0.ext (fun b o e => Fr.keep (by assumption) b o (HE' b o e))); (case zzdd => ktr_room); (case zzuu => ktr_units)); intro v' h' tk' e' p'; (replace p' := told_up p' (fun b o e => Fr.keep (by k_asm) b o (HE' b o e))); (have F' := fr_ext (by k_asm) e'); (have N' := news_ext (by k_asm) e'); (try dsimp only at p'); (try k_sweep))
  unfold PureN
  k_fill
  intro loose mean mg mb dp un gd cn cs a ccd cl outer A₀ base h₀ L m s Q E B F X T hk hpre hd hu hret
  have hi0 := hpre
  have hn1 := kd_neq hi0.narr
  clear hpre
  refine wpAny_call ?_
  k_dflt (refine' code_cellE (led := []) ?k1 ?k2 ?k3 ?k4 ?k5 ?kA ?kF ?kK ?k6 ?k7 ?k8 ?k9 ?kB ?kD ?_ ?c2 ?c3 ?c4; (case kA => exact rfl); (case kF => exact rfl); (case kK => first | assumption | exact rfl); (case k1 => k_asm); (case k2 => k_asm); (case k3 => k_asm); (case k4 => exact News.nil); (case k5 => k_asm); (case k6 => k_is); (case k7 => k_is); (case k8 => ktr_room); (case k9 => first | exact BindsTo.of_eq rfl | exact binds_K (by k_in) rfl (by k_is) rfl rfl rfl); (case kB => exact rfl); (case kD => decide +kernel); (case c2 => exact rfl); (case c3 => exact rfl); (case c4 => exact rfl); k_whole; intro g' L' h' tk' cells' HG' F' N' Y' B' X' T' l1; k_cells Y'; (try simp only [List.cons_append, List.nil_append, List.append_nil] at N'); (try dsimp only); (try with_reducible show wpAny _ _ _ _ _ _); (try k_fold); (first | (refine e_fold ?_; intro A9 e9) | (refine a_fold ?_; intro A9) | skip))
  have HE' : Ext _ g' := fun b o e => HG' b o e (fun hm => nomatch hm)
  clear HG'
  k_steps
  exact hret _ _ _ (fun b o e => Fr.keep (by assumption) b o (HE' b o e)) p'
theorem dict_at {w : World} {h h' : Heap} {d : Addr} {o : Obj} {kvs : List (Str × Value)} (x : h.get? d = some o) (y : o.IsDictOf (kndW w) kvs) (e : ∀ b o, h.get? b = some o → h'.get? b = some o) : KAt h' (.ref d) .dict := .dict (e _ _ x) (dict_cls y)
theorem tdict0_c (w : World) (d : Addr) (o : Obj) : PureN w 272 6 48 [.ref d] (fun h => h.get? d = some o ∧ o.IsDictOf (kndW w) [] ∧ (d == sysModules) = false) (fun h₀ h' r => ∃ tl, Told1 (inL tl) r .dict ∧ Fresh h₀ h' tl) := by
  k_with_none
  k_with "lt" => first | with_reducible assumption | exact lt_0 (by with_reducible assumption) | exact lt_1 (by with_reducible assumption) | exact lt_2 (by with_reducible assumption) | exact lt_3 (by with_reducible assumption) | exact lt_4 (by with_reducible assumption) | exact lt_5 (by with_reducible assumption) | exact lt_6 (by with_reducible assumption) | exact lt_7 (by with_reducible assumption) | exact lt_0 (dr8 (by with_reducible assumption)) | exact lt_1 (dr8 (by with_reducible assumption)) | exact lt_2 (dr8 (by with_reducible assumption)) | exact lt_3 (dr8 (by with_reducible assumption)) | exact lt_4 (dr8 (by with_reducible assumption)) | exact lt_5 (dr8 (by with_reducible assumption)) | exact lt_6 (dr8 (by with_reducible assumption)) | exact lt_7 (dr8 (by with_reducible assumption)) | exact lt_0 (dr8 (dr8 (by with_reducible assumption))) | exact lt_1 (dr8 (dr8 (by with_reducible assumption))) | exact lt_2 (dr8 (dr8 (by with_reducible assumption))) | exact lt_3 (dr8 (dr8 (by with_reducible assumption))) | exact lt_4 (dr8 (dr8 (by with_reducible assumption))) | exact lt_5 (dr8 (dr8 (by with_reducible assumption))) | exact lt_6 (dr8 (dr8 (by with_reducible assumption))) | exact lt_7 (dr8 (dr8 (by with_reducible assumption))) | exact lt_0 (dr8 (dr8 (dr8 (by with_reducible assumption)))) | exact lt_1 (dr8 (dr8 (dr8 (by with_reducible assumption)))) | exact lt_2 (dr8 (dr8 (dr8 (by with_reducible assumption)))) | exact lt_3 (dr8 (dr8 (dr8 (by with_reducible assumption)))) | exact lt_4 (dr8 (dr8 (dr8 (by with_reducible assumption)))) | exact lt_5 (dr8 (dr8 (dr8 (by with_reducible assumption)))) | exact lt_6 (dr8 (dr8 (dr8 (by with_reducible assumption)))) | exact lt_7 (dr8 (dr8 (dr8 (by with_reducible assumption)))) | exact lt_0 (dr8 (dr8 (dr8 (dr8 (by with_reducible assumption))))) | exact lt_1 (dr8 (dr8 (dr8 (dr8 (by with_reducible assumption))))) | exact lt_2 (dr8 (dr8 (dr8 (dr8 (by with_reducible assumption))))) | exact lt_3 (dr8 (dr8 (dr8 (dr8 (by with_reducible assumption))))) | exact lt_4 (dr8 (dr8 (dr8 (dr8 (by with_reducible assumption))))) | exact lt_5 (dr8 (dr8 (dr8 (dr8 (by with_reducible assumption))))) | exact lt_6 (dr8 (dr8 (dr8 (dr8 (by with_reducible assumption))))) | exact lt_7 (dr8 (dr8 (dr8 (dr8 (by with_reducible assumption)))))
  k_with "nd" => first | exact nd_0 (by with_reducible assumption) | exact nd_1 (by with_reducible assumption) | exact nd_2 (by with_reducible assumption) | exact nd_3 (by with_reducible assumption) | exact nd_4 (by with_reducible assumption) | exact nd_5 (by with_reducible assumption) | exact nd_6 (by with_reducible assumption) | exact nd_7 (by with_reducible assumption) | exact nd_8 (by with_reducible assumption)
  k_with "ne" => (refine neN ?_; (try dsimp only); first | with_reducible assumption | exact Ne.symm (by with_reducible assumption) | (refine ne_z ?_; k_extra "lt") | (refine ne_s ?_; k_extra "lt") | (refine ne_zz (by with_reducible assumption) ?_; k_extra "lt") | (refine ne_ss (by with_reducible assumption) ?_; k_extra "lt") | k_extra "nd" | (dsimp only [AllLt] at *; omega))
  k_with "compareOp Eq str str" => (k_here; (with_reducible show wpAny _ _ (compareOp _ (Value.str (Kd.text _) _) _) _ _ _); refine PyProof.Rows.eq_str ?_; first | rw [hn1.1] | rw [hn1.2.1] | rw [hn1.2.2])
  k_with "call ref" => (k_here; (with_reducible show wpAny _ _ (call (Value.ref 253) [_]) _ _ _); k_dflt (refine' kind_c _ _ _ ?zzB ?zzF ?zzX ?zzT ?zzhk ?zzpre ?zzdd ?zzuu ?_; (case zzB => k_asm); (case zzF => k_asm); (case zzX => k_asm); (case zzT => k_asm); (case zzhk => first | exact rfl | assumption); (case zzpre => exact hi0.at_kat (fun b o e => Fr.keep (by assumption) b o (HE' b o e))); (case zzdd => ktr_room); (case zzuu => ktr_units)); intro v' h' tk' e' p'; (have F' := fr_ext (by k_asm) e'); (have N' := news_ext (by k_asm) e'); (try dsimp only at p'); (try k_sweep); obtain ⟨tk'', e''⟩ := p'; subst e'')
  k_with "call ref" => (k_here; (with_reducible show wpAny _ _ (call (Value.ref 267) [_, _]) _ _ _); k_dflt (refine' tplain_c _ _ _ _ ?zzB ?zzF ?zzX ?zzT ?zzhk ?zzpre ?zzdd ?zzuu ?_; (case zzB => k_asm); (case zzF => k_asm); (case zzX => k_asm); (case zzT => k_asm); (case zzhk => first | exact rfl | assumption); (case zzpre => exact hi0.ext (fun b o e => Fr.keep (by assumption) b o (HE' b o e))); (case zzdd => ktr_room); (case zzuu => ktr_units)); intro v' h' tk' e' p'; (replace p' := told_up p' (fun b o e => Fr.keep (by k_asm) b o (HE' b o e))); (have F' := fr_ext (by k_asm) e'); (have N' := news_ext (by k_asm) e'); (try dsimp only at p'); (try k_sweep))
  k_with "call ref" => (k_here; (with_reducible show wpAny _ _ (call (Value.ref 253) [_]) _ _ _); k_dflt (refine' kind_c _ _ .dict ?zzB ?zzF ?zzX ?zzT ?zzhk ?zzpre ?zzdd ?zzuu ?_; (case zzB => k_asm); (case zzF => k_asm); (case zzX => k_asm); (case zzT => k_asm); (case zzhk => first | exact rfl | assumption); (case zzpre => exact dict_at hi0 hi1 (fun b o e => Fr.keep (by assumption) b o (HE' b o e))); (case zzdd => ktr_room); (case zzuu => ktr_units)); intro v' h' tk' e' p'; (have F' := fr_ext (by k_asm) e'); (have N' := news_ext (by k_asm) e'); (try dsimp only at p'); (try k_sweep); obtain ⟨tk'', e''⟩ := p'; subst e'')
  k_with "eval ListComp" => (k_here; k_dflt (refine LCt.ListComp_T (F₀ := by k_asm) (by with_unfolding_all rfl) (by decide) (by rfl) (by decide) (by rfl) ?_))
  k_with "call builtin:sorted" => (k_here; (with_reducible show wpAny _ _ (call (Value.builtin "sorted") [Value.ref _]) _ _ _); k_dflt (refine' sorted_few rfl ?zzF ?zzN ?zzg hi1 hi2 ?zzn ?_; (case zzF => k_asm); (case zzN => k_asm); (case zzg => exact Fr.keep (by assumption) _ _ (HE' _ _ hi0)); (case zzn => exact Nat.le_of_ble_eq_true rfl)); intro D9 c9 h9 tk9 vs9 F9 N9 l19 hs9; (k_lt l19); (cases hs9))
  unfold PureN
  k_fill
  intro loose mean mg mb dp un gd cn cs a ccd cl outer A₀ base h₀ L m s Q E B F X T hk hpre hd hu hret
  obtain ⟨hi0, hi1, hi2⟩ := hpre
  refine wpAny_call ?_
  k_dflt (refine' code_cellE (led := []) ?k1 ?k2 ?k3 ?k4 ?k5 ?kA ?kF ?kK ?k6 ?k7 ?k8 ?k9 ?kB ?kD ?_ ?c2 ?c3 ?c4; (case kA => exact rfl); (case kF => exact rfl); (case kK => first | assumption | exact rfl); (case k1 => k_asm); (case k2 => k_asm); (case k3 => k_asm); (case k4 => exact News.nil); (case k5 => k_asm); (case k6 => k_is); (case k7 => k_is); (case k8 => ktr_room); (case k9 => first | exact BindsTo.of_eq rfl | exact binds_K (by k_in) rfl (by k_is) rfl rfl rfl); (case kB => exact rfl); (case kD => decide +kernel); (case c2 => exact rfl); (case c3 => exact rfl); (case c4 => exact rfl); k_whole; intro g' L' h' tk' cells' HG' F' N' Y' B' X' T' l1; k_cells Y'; (try simp only [List.cons_append, List.nil_append, List.append_nil] at N'); (try dsimp only); (try with_reducible show wpAny _ _ _ _ _ _); (try k_fold); (first | (refine e_fold ?_; intro A9 e9) | (refine a_fold ?_; intro A9) | skip))
  have HE' : Ext _ g' := fun b o e => HG' b o e (fun hm => nomatch hm)
  clear HG'
  k_steps
  exact hret _ _ _ (fun b o e => Fr.keep (by assumption) b o (HE' b o e)) (told1_fin (by assumption) HE' (by k_mem) rfl)
theorem tdict1_c (w : World) (d : Addr) (o : Obj) (i : Int) (ti : Tok) : PureN w 272 16 128 [.ref d] (fun h => h.get? d = some o ∧ o.IsDictOf (kndW w) [(Str.ofString "K", .int i ti)] ∧ (d == sysModules) = false) (fun h₀ h' r => ∃ tl, Told1 (inL tl) r .dict ∧ Fresh h₀ h' tl) := by
  k_with_none
  k_with "lt" => first | with_reducible assumption | exact lt_0 (by with_reducible assumption) | exact lt_1 (by with_reducible assumption) | exact lt_2 (by with_reducible assumption) | exact lt_3 (by with_reducible assumption) | exact lt_4 (by with_reducible assumption) | exact lt_5 (by with_reducible assumption) | exact lt_6 (by with_reducible assumption) | exact lt_7 (by with_reducible assumption) | exact lt_0 (dr8 (by with_reducible assumption)) | exact lt_1 (dr8 (by with_reducible assumption)) | exact lt_2 (dr8 (by with_reducible assumption)) | exact lt_3 (dr8 (by with_reducible assumption)) | exact lt_4 (dr8 (by with_reducible assumption)) | exact lt_5 (dr8 (by with_reducible assumption)) | exact lt_6 (dr8 (by with_reducible assumption)) | exact lt_7 (dr8 (by with_reducible assumption)) | exact lt_0 (dr8 (dr8 (by with_reducible assumption))) | exact lt_1 (dr8 (dr8 (by with_reducible assumption))) | exact lt_2 (dr8 (dr8 (by with_reducible assumption))) | exact lt_3 (dr8 (dr8 (by with_reducible assumption))) | exact lt_4 (dr8 (dr8 (by with_reducible assumption))) | exact lt_5 (dr8 (dr8 (by with_reducible assumption))) | exact lt_6 (dr8 (dr8 (by with_reducible assumption))) | exact lt_7 (dr8 (dr8 (by with_reducible assumption))) | exact lt_0 (dr8 (dr8 (dr8 (by with_reducible assumption)))) | exact lt_1 (dr8 (dr8 (dr8 (by with_reducible assumption)))) | exact lt_2 (dr8 (dr8 (dr8 (by with_reducible assumption)))) | exact lt_3 (dr8 (dr8 (dr8 (by with_reducible assumption)))) | exact lt_4 (dr8 (dr8 (dr8 (by with_reducible assumption)))) | exact lt_5 (dr8 (dr8 (dr8 (by with_reducible assumption)))) | exact lt_6 (dr8 (dr8 (dr8 (by with_reducible assumption)))) | exact lt_7 (dr8 (dr8 (dr8 (by with_reducible assumption)))) | exact lt_0 (dr8 (dr8 (dr8 (dr8 (by with_reducible assumption))))) | exact lt_1 (dr8 (dr8 (dr8 (dr8 (by with_reducible assumption))))) | exact lt_2 (dr8 (dr8 (dr8 (dr8 (by with_reducible assumption))))) | exact lt_3 (dr8 (dr8 (dr8 (dr8 (by with_reducible assumption))))) | exact lt_4 (dr8 (dr8 (dr8 (dr8 (by with_reducible assumption))))) | exact lt_5 (dr8 (dr8 (dr8 (dr8 (by with_reducible assumption))))) | exact lt_6 (dr8 (dr8 (dr8 (dr8 (by with_reducible assumption))))) | exact lt_7 (dr8 (dr8 (dr8 (dr8 (by with_reducible assumption)))))
  k_with "nd" => first | exact nd_0 (by with_reducible assumption) | exact nd_1 (by with_reducible assumption) | exact nd_2 (by with_reducible assumption) | exact nd_3 (by with_reducible assumption) | exact nd_4 (by with_reducible assumption) | exact nd_5 (by with_reducible assumption) | exact nd_6 (by with_reducible assumption) | exact nd_7 (by with_reducible assumption) | exact nd_8 (by with_reducible assumption)
  k_with "ne" => (refine neN ?_; (try dsimp only); first | with_reducible assumption | exact Ne.symm (by with_reducible assumption) | (refine ne_z ?_; k_extra "lt") | (refine ne_s ?_; k_extra "lt") | (refine ne_zz (by with_reducible assumption) ?_; k_extra "lt") | (refine ne_ss (by with_reducible assumption) ?_; k_extra "lt") | k_extra "nd" | (dsimp only [AllLt] at *; omega))
  k_with "compareOp Eq str str" => (k_here; (with_reducible show wpAny _ _ (compareOp _ (Value.str (Kd.text _) _) _) _ _ _); refine PyProof.Rows.eq_str ?_; first | rw [hn1.1] | rw [hn1.2.1] | rw [hn1.2.2])
  k_with "call ref" => (k_here; (with_reducible show wpAny _ _ (call (Value.ref 253) [_]) _ _ _); k_dflt (refine' kind_c _ _ _ ?zzB ?zzF ?zzX ?zzT ?zzhk ?zzpre ?zzdd ?zzuu ?_; (case zzB => k_asm); (case zzF => k_asm); (case zzX => k_asm); (case zzT => k_asm); (case zzhk => first | exact rfl | assumption); (case zzpre => exact hi0.at_kat (fun b o e => Fr.keep (by assumption) b o (HE' b o e))); (case zzdd => ktr_room); (case zzuu => ktr_units)); intro v' h' tk' e' p'; (have F' := fr_ext (by k_asm) e'); (have N' := news_ext (by k_asm) e'); (try dsimp only at p'); (try k_sweep); obtain ⟨tk'', e''⟩ := p'; subst e'')
  k_with "call ref" => (k_here; (with_reducible show wpAny _ _ (call (Value.ref 267) [_, _]) _ _ _); k_dflt (refine' tplain_c _ _ _ _ ?zzB ?zzF ?zzX ?zzT ?zzhk ?zzpre ?zzdd ?zzuu ?_; (case zzB => k_asm); (case zzF => k_asm); (case zzX => k_asm); (case zzT => k_asm); (case zzhk => first | exact rfl | assumption); (case zzpre => exact hi0.ext (fun b o e => Fr.keep (by assumption) b o (HE' b o e))); (case zzdd => ktr_room); (case zzuu => ktr_units)); intro v' h' tk' e' p'; (replace p' := told_up p' (fun b o e => Fr.keep (by k_asm) b o (HE' b o e))); (have F' := fr_ext (by k_asm) e'); (have N' := news_ext (by k_asm) e'); (try dsimp only at p'); (try k_sweep))
  k_with "call ref" => (k_here; (with_reducible show wpAny _ _ (call (Value.ref 253) [_]) _ _ _); k_dflt (refine' kind_c _ _ .dict ?zzB ?zzF ?zzX ?zzT ?zzhk ?zzpre ?zzdd ?zzuu ?_; (case zzB => k_asm); (case zzF => k_asm); (case zzX => k_asm); (case zzT => k_asm); (case zzhk => first | exact rfl | assumption); (case zzpre => exact dict_at hi0 hi1 (fun b o e => Fr.keep (by assumption) b o (HE' b o e))); (case zzdd => ktr_room); (case zzuu => ktr_units)); intro v' h' tk' e' p'; (have F' := fr_ext (by k_asm) e'); (have N' := news_ext (by k_asm) e'); (try dsimp only at p'); (try k_sweep); obtain ⟨tk'', e''⟩ := p'; subst e'')
  k_with "eval ListComp" => (k_here; k_dflt (refine LCt.ListComp_T (F₀ := by k_asm) (by with_unfolding_all rfl) (by decide) (by rfl) (by decide) (by rfl) ?_))
  k_with "call builtin:sorted" => (k_here; (with_reducible show wpAny _ _ (call (Value.builtin "sorted") [Value.ref _]) _ _ _); k_dflt (refine' sorted_few rfl ?zzF ?zzN ?zzg hi1 hi2 ?zzn ?_; (case zzF => k_asm); (case zzN => k_asm); (case zzg => exact Fr.keep (by assumption) _ _ (HE' _ _ hi0)); (case zzn => exact Nat.le_of_ble_eq_true rfl)); intro D9 c9 h9 tk9 vs9 F9 N9 l19 hs9; (k_lt l19); (cases hs9))
  k_with "call builtin:sorted" => (k_here; (with_reducible show wpAny _ _ (call (Value.builtin "sorted") [Value.ref _]) _ _ _); k_dflt (refine' sorted_few rfl ?zzF ?zzN ?zzg hi1 hi2 ?zzn ?_; (case zzF => k_asm); (case zzN => k_asm); (case zzg => exact Fr.keep (by assumption) _ _ (HE' _ _ hi0)); (case zzn => exact Nat.le_of_ble_eq_true rfl)); intro D9 c9 h9 tk9 vs9 F9 N9 l19 hs9; (k_lt l19); (cases hs9); (rename Strs _ _ => hs8); (cases hs8))
  k_with "call ref" => (k_here; (with_reducible show wpAny _ _ (call (Value.ref 272) [_]) _ _ _); k_dflt (refine' tflat_c _ _ .int ?zzB ?zzF ?zzX ?zzT ?zzhk ?zzpre ?zzdd ?zzuu ?_; (case zzB => k_asm); (case zzF => k_asm); (case zzX => k_asm); (case zzT => k_asm); (case zzhk => first | exact rfl | assumption); (case zzpre => exact .int); (case zzdd => ktr_room); (case zzuu => ktr_units)); intro v' h' tk' e' p'; (have F' := fr_ext (by k_asm) e'); (have N' := news_ext (by k_asm) e'); (try dsimp only at p'); (try k_sweep))
  k_with "subscriptTail" => (k_here; (with_reducible show wpAny _ _ (subscriptTail _ _ (Value.ref _) (Value.str _ _)) _ _ _); (with_unfolding_all refine' base_item ?zzg hi1 ?zzl ?_; (case zzg => exact Fr.keep (by assumption) _ _ (HE' _ _ hi0)); (case zzl => with_unfolding_all rfl); k_whole))
  unfold PureN
  k_fill
  intro loose mean mg mb dp un gd cn cs a ccd cl outer A₀ base h₀ L m s Q E B F X T hk hpre hd hu hret
  obtain ⟨hi0, hi1, hi2⟩ := hpre
  refine wpAny_call ?_
  k_dflt (refine' code_cellE (led := []) ?k1 ?k2 ?k3 ?k4 ?k5 ?kA ?kF ?kK ?k6 ?k7 ?k8 ?k9 ?kB ?kD ?_ ?c2 ?c3 ?c4; (case kA => exact rfl); (case kF => exact rfl); (case kK => first | assumption | exact rfl); (case k1 => k_asm); (case k2 => k_asm); (case k3 => k_asm); (case k4 => exact News.nil); (case k5 => k_asm); (case k6 => k_is); (case k7 => k_is); (case k8 => ktr_room); (case k9 => first | exact BindsTo.of_eq rfl | exact binds_K (by k_in) rfl (by k_is) rfl rfl rfl); (case kB => exact rfl); (case kD => decide +kernel); (case c2 => exact rfl); (case c3 => exact rfl); (case c4 => exact rfl); k_whole; intro g' L' h' tk' cells' HG' F' N' Y' B' X' T' l1; k_cells Y'; (try simp only [List.cons_append, List.nil_append, List.append_nil] at N'); (try dsimp only); (try with_reducible show wpAny _ _ _ _ _ _); (try k_fold); (first | (refine e_fold ?_; intro A9 e9) | (refine a_fold ?_; intro A9) | skip))
  have HE' : Ext _ g' := fun b o e => HG' b o e (fun hm => nomatch hm)
  clear HG'
  k_steps
  exact hret _ _ _ (fun b o e => Fr.keep (by assumption) b o (HE' b o e)) (told1_fin (by assumption) HE' (by k_mem) rfl)
end

section
set_option maxHeartbeats 40000000
open PySem PySem.W PyProof.Rows PySem.Calls PySem.Spec
theorem inst_at {h h' : Heap} {a dx C : Addr} {k : Kd} {od : Obj} (e : k.cls = .ref C) (x : h.get? a = some (instObj C dx)) (y : h.get? dx = some od) (u : ∀ b o, h.get? b = some o → h'.get? b = some o) : KAt h' (.ref a) k := .inst e (u _ _ x) (u _ _ y)
theorem list_at {h h' : Heap} {a : Addr} {vs : List Value} {n : Nat} (x : h.get? a = some (listOf vs.toArray n)) (u : ∀ b o, h.get? b = some o → h'.get? b = some o) : KAt h' (.ref a) .array := .array (u _ _ x) rfl
theorem tstream_c (w : World) (a0 dx d : Addr) (es : List DictEntry) (n : Nat) (o : Obj) (b : Array UInt8) (t : Tok) : PureN w 272 16 128 [.ref a0] (fun h => h.get? a0 = some (instObj 214 dx) ∧ h.get? dx = some (dictOf es n) ∧ getL (Str.ofString "head") es = some (some (.ref d)) ∧ getL (Str.ofString "octets") es = some (some (.bytes b t)) ∧
      h.get? d = some o ∧ o.IsDictOf (kndW w) [] ∧ (d == sysModules) = false) (fun h₀ h' r => ∃ tl, Told1 (inL tl) r .stream ∧ Fresh h₀ h' tl) := by
  k_with_none
  k_with "lt" => first | with_reducible assumption | exact lt_0 (by with_reducible assumption) | exact lt_1 (by with_reducible assumption) | exact lt_2 (by with_reducible assumption) | exact lt_3 (by with_reducible assumption) | exact lt_4 (by with_reducible assumption) | exact lt_5 (by with_reducible assumption) | exact lt_6 (by with_reducible assumption) | exact lt_7 (by with_reducible assumption) | exact lt_0 (dr8 (by with_reducible assumption)) | exact lt_1 (dr8 (by with_reducible assumption)) | exact lt_2 (dr8 (by with_reducible assumption)) | exact lt_3 (dr8 (by with_reducible assumption)) | exact lt_4 (dr8 (by with_reducible assumption)) | exact lt_5 (dr8 (by with_reducible assumption)) | exact lt_6 (dr8 (by with_reducible assumption)) | exact lt_7 (dr8 (by with_reducible assumption)) | exact lt_0 (dr8 (dr8 (by with_reducible assumption))) | exact lt_1 (dr8 (dr8 (by with_reducible assumption))) | exact lt_2 (dr8 (dr8 (by with_reducible assumption))) | exact lt_3 (dr8 (dr8 (by with_reducible assumption))) | exact lt_4 (dr8 (dr8 (by with_reducible assumption))) | exact lt_5 (dr8 (dr8 (by with_reducible assumption))) | exact lt_6 (dr8 (dr8 (by with_reducible assumption))) | exact lt_7 (dr8 (dr8 (by with_reducible assumption))) | exact lt_0 (dr8 (dr8 (dr8 (by with_reducible assumption)))) | exact lt_1 (dr8 (dr8 (dr8 (by with_reducible assumption)))) | exact lt_2 (dr8 (dr8 (dr8 (by with_reducible assumption)))) | exact lt_3 (dr8 (dr8 (dr8 (by with_reducible assumption)))) | exact lt_4 (dr8 (dr8 (dr8 (by with_reducible assumption)))) | exact lt_5 (dr8 (dr8 (dr8 (by with_reducible assumption)))) | exact lt_6 (dr8 (dr8 (dr8 (by with_reducible assumption)))) | exact lt_7 (dr8 (dr8 (dr8 (by with_reducible assumption)))) | exact lt_0 (dr8 (dr8 (dr8 (dr8 (by with_reducible assumption))))) | exact lt_1 (dr8 (dr8 (dr8 (dr8 (by with_reducible assumption))))) | exact lt_2 (dr8 (dr8 (dr8 (dr8 (by with_reducible assumption))))) | exact lt_3 (dr8 (dr8 (dr8 (dr8 (by with_reducible assumption))))) | exact lt_4 (dr8 (dr8 (dr8 (dr8 (by with_reducible assumption))))) | exact lt_5 (dr8 (dr8 (dr8 (dr8 (by with_reducible assumption))))) | exact lt_6 (dr8 (dr8 (dr8 (dr8 (by with_reducible assumption))))) | exact lt_7 (dr8 (dr8 (dr8 (dr8 (by with_reducible assumption)))))
  k_with "nd" => first | exact nd_0 (by with_reducible assumption) | exact nd_1 (by with_reducible assumption) | exact nd_2 (by with_reducible assumption) | exact nd_3 (by with_reducible assumption) | exact nd_4 (by with_reducible assumption) | exact nd_5 (by with_reducible assumption) | exact nd_6 (by with_reducible assumption) | exact nd_7 (by with_reducible assumption) | exact nd_8 (by with_reducible assumption)
  k_with "ne" => (refine neN ?_; (try dsimp only); first | with_reducible assumption | exact Ne.symm (by with_reducible assumption) | (refine ne_z ?_; k_extra "lt") | (refine ne_s ?_; k_extra "lt") | (refine ne_zz (by with_reducible assumption) ?_; k_extra "lt") | (refine ne_ss (by with_reducible assumption) ?_; k_extra "lt") | k_extra "nd" | (dsimp only [AllLt] at *; omega))
  k_with "call type:bytes" => (k_here; (with_reducible show wpAny _ _ (call (Value.type "bytes") [Value.bytes _ _]) _ _ _); refine call_bytes_bytes ?_)
  k_with "getAttr ref" => (k_here; k_dflt (refine' get_own ?zzk1 ?zzk2 ?zzk3 ?zzk4 ?zzk5 ?zzk6 ?zzk7 ?zzk8 ?zzk9 ?_; (case zzk3 => exact op_inst hi1 hi2 (Fr.keep (by k_asm))); (case zzk1 => k_asm); (case zzk2 => k_asm); (case zzk4 => k_is); (case zzk5 => k_is); (case zzk6 => k_is); (case zzk7 => k_is); (case zzk8 => assumption); (case zzk9 => k_handed); k_whole))
  k_with "call ref" => (k_here; (with_reducible show wpAny _ _ (call (Value.ref 253) [_]) _ _ _); k_dflt (refine' kind_c _ _ .stream ?zzB ?zzF ?zzX ?zzT ?zzhk ?zzpre ?zzdd ?zzuu ?_; (case zzB => k_asm); (case zzF => k_asm); (case zzX => k_asm); (case zzT => k_asm); (case zzhk => first | exact rfl | assumption); (case zzpre => exact inst_at rfl hi1 hi2 (fun b o e => Fr.keep (by assumption) b o e)); (case zzdd => ktr_room); (case zzuu => ktr_units)); intro v' h' tk' e' p'; (have F' := fr_ext (by k_asm) e'); (have N' := news_ext (by k_asm) e'); (try dsimp only at p'); (try k_sweep); obtain ⟨tk'', e''⟩ := p'; subst e'')
  k_with "call ref" => (k_here; (with_reducible show wpAny _ _ (call (Value.ref 272) [_]) _ _ _); k_dflt (refine' tdict0_c _ d o ?zzB ?zzF ?zzX ?zzT ?zzhk ?zzpre ?zzdd ?zzuu ?_; (case zzB => k_asm); (case zzF => k_asm); (case zzX => k_asm); (case zzT => k_asm); (case zzhk => first | exact rfl | assumption); (case zzpre => exact ⟨Fr.keep (by assumption) _ _ hi5, hi6, hi7⟩); (case zzdd => ktr_room); (case zzuu => ktr_units)); intro v' h' tk' e' p'; (have F' := fr_ext (by k_asm) e'); (have N' := news_ext (by k_asm) e'); (try dsimp only at p'); (try k_sweep))
  unfold PureN
  k_fill
  intro loose mean mg mb dp un gd cn cs a ccd cl outer A₀ base h₀ L m s Q E B F X T hk hpre hd hu hret
  obtain ⟨hj1, hj2, hi3, hi4, hj5, hi6, hi7⟩ := hpre
  refine wpAny_call ?_
  k_dflt (refine' code_cellE (led := []) ?k1 ?k2 ?k3 ?k4 ?k5 ?kA ?kF ?kK ?k6 ?k7 ?k8 ?k9 ?kB ?kD ?_ ?c2 ?c3 ?c4; (case kA => exact rfl); (case kF => exact rfl); (case kK => first | assumption | exact rfl); (case k1 => k_asm); (case k2 => k_asm); (case k3 => k_asm); (case k4 => exact News.nil); (case k5 => k_asm); (case k6 => k_is); (case k7 => k_is); (case k8 => ktr_room); (case k9 => first | exact BindsTo.of_eq rfl | exact binds_K (by k_in) rfl (by k_is) rfl rfl rfl); (case kB => exact rfl); (case kD => decide +kernel); (case c2 => exact rfl); (case c3 => exact rfl); (case c4 => exact rfl); k_whole; intro g' L' h' tk' cells' HG' F' N' Y' B' X' T' l1; k_cells Y'; (try simp only [List.cons_append, List.nil_append, List.append_nil] at N'); (try dsimp only); (try with_reducible show wpAny _ _ _ _ _ _); (try k_fold); (first | (refine e_fold ?_; intro A9 e9) | (refine a_fold ?_; intro A9) | skip))
  have HE' : Ext _ g' := fun b o e => HG' b o e (fun hm => nomatch hm)
  clear HG'
  have hi1 := HE' _ _ hj1
  have hi2 := HE' _ _ hj2
  have hi5 := HE' _ _ hj5
  k_steps
  exact hret _ _ _ (fun b o e => Fr.keep (by assumption) b o (HE' b o e)) (told1_fin (by assumption) HE' (by k_mem) rfl)
end

section
set_option maxHeartbeats 4000000
open PySem PySem.W PyProof.Rows PySem.Calls PySem.Spec
theorem off3_iff {I C D : Addr} : ∀ {l : List (Addr × Obj)}, LCg.Off3 I C D l ↔ ∀ q ∈ l, @Ne Nat q.1 I ∧ @Ne Nat q.1 C ∧ @Ne Nat q.1 D
  | [] => ⟨fun _ _ h => (nomatch h), fun _ => trivial⟩
  | p :: l => by
    constructor
    · intro h q hq
      rcases List.mem_cons.mp hq with rfl | hq
      · exact h.1
      · exact off3_iff.mp h.2 q hq
    · intro h
      exact ⟨h p (List.mem_cons_self ..), off3_iff.mpr fun q hq => h q (List.mem_cons_of_mem _ hq)⟩
noncomputable def ToldJ (x y : Addr × Obj) (ks : List Kd) (i : Nat) (ys : List Value) (nw : List (Addr × Obj)) : Prop := ∃ tl, nw = x :: y :: tl ∧ Tolds (inL tl) ys (ks.take i)
theorem told_end {h₀ h8 h' : Heap} {L I C D : Addr} {oI oC oD : Obj} {m : Str → Option Value} {s : Shared} {tl tl' : List (Addr × Obj)} {x y : Addr × Obj} {ys : List Value} {ks : List Kd} {k : Kd} {v : Value} {i tk' : Nat} {S : List (Addr × Obj) → Prop}
    (F : Fr h₀ L h' m) (N : News h₀ L h' (tl' ++ (I, oI) :: (C, oC) :: (D, oD) :: x :: y :: tl)) (N0 : News h₀ L h8 ((I, oI) :: (C, oC) :: (D, oD) :: x :: y :: tl)) (f : Fresh h8 h' tl') (off : LCg.Off3 I C D (x :: y :: tl)) (hT : Tolds (inL tl) ys (ks.take i)) (hk : ks[i]? = some k) (hy : Told1 (inL tl') v k) (hS : ∀ nw, S nw) :
    LCg.CompEnd h₀ L m s I oI C oC D oD S (fun u nw' => ToldJ x y ks (i + 1) (ys ++ [u]) nw') v { s with heap := h', toks := tk' } := by
  have ne : ∀ q ∈ tl', ∀ p ∈ (I, oI) :: (C, oC) :: (D, oD) :: x :: y :: tl, @Ne Nat q.1 p.1 := fun q hq p hp e => by
    have a := (f q hq).2
    have b := (N0 p hp).1
    have e' : q.1 = p.1 := e
    rw [e', b] at a; cases a
  refine LCg.CompEnd.intro F N (x :: y :: (tl' ++ tl)) (fun q hq => ?_) (off3_iff.mpr fun q hq => ?_) (hS _) ⟨tl' ++ tl, rfl, ?_⟩
  · simp only [List.mem_cons, List.mem_append] at hq ⊢
    rcases hq with h | h | h | h | h | h | h <;> first | (simp [h]; done) | exact .inl h | exact .inr (by simp [h])
  · simp only [List.mem_cons, List.mem_append] at hq
    rcases hq with h | h | h | h
    · exact off3_iff.mp off q (by simp [h])
    · exact off3_iff.mp off q (by simp [h])
    · exact ⟨ne q h (I, oI) (by simp), ne q h (C, oC) (by simp), ne q h (D, oD) (by simp)⟩
    · exact off3_iff.mp off q (by simp [h])
  · rw [List.take_add_one, hk]
    exact (hT.mono fun a o h => List.mem_append_right _ h).snoc (hy.mono fun a o h => List.mem_append_left _ h)
section
open LCg LCt
variable {prog : Program} {w : World} {A : Around} {h₀ : Heap} {L : Addr} {m : Str → Option Value} {env : Env} {s : Shared}
theorem told_ind {elt : Expr} {x : Str} {scope : Scope} {cl : List (Str × Addr)} {S : List (Addr × Obj) → Prop} {P : Nat → Value → Prop} {Fin : List Value → List (Addr × Obj) → Prop} {n : Nat} {p q : Addr × Obj} (ks : List Kd)
    (fin : ∀ ys nw, ToldJ p q ks n ys nw → Fin ys nw)
    (turn : ∀ i ys nw, i < n → ToldJ p q ks i ys nw → ∀ v I oI C oC D m₂ h tk (E' : Value → Shared → Prop), P i v → NsObj oC m₂ → m₂ x = some v → Fr h₀ L h m → News h₀ L h ((I, oI) :: (C, oC) :: (D, lst ys) :: nw) → Off3 I C D nw → ((@Ne Nat I C) ∧ (@Ne Nat I D) ∧ (@Ne Nat C D)) →
      wpAny (model prog w) A (eval elt (compEnvC scope cl C env)) (CompEnd h₀ L m { s with heap := h, toks := tk } I oI C oC D (lst ys) S (fun y nw' => ToldJ p q ks (i + 1) (ys ++ [y]) nw')) E' { s with heap := h, toks := tk }) :
    CompRest prog w A h₀ L m env elt x scope cl s S P Fin n 0 [] [p, q] := rest_ind (ToldJ p q ks) ⟨[], rfl, .nil⟩ fin turn
theorem add_head {E : Value → Shared → Prop} {news : List (Addr × Obj)} {t b : Addr} {a : Value} {ys : List Value} {Q : Value → Shared → Prop} (F : Fr h₀ L s.heap m) (N : News h₀ L s.heap news) (ht : (t, tupOf [a]) ∈ news) (hb : (b, tupOf ys) ∈ news) (hz : ys.length ≤ 1000)
    (h : ∀ D h' led', Fr h₀ L h' m → News h₀ L h' led' → (D, tupOf (a :: ys)) ∈ led' → (∀ q ∈ news, q ∈ led') → Q (.ref D) { s with heap := h' }) :
    wpAny (model prog w) A (binaryOp .Add (.ref t) (.ref b)) Q E s := by
  refine add_tuples (vs := [a]) (ws := ys) F N (News.isTup N ht) (News.isTup N hb) (fun e => (nomatch e)) (fun _ e => ?_) (fun _ _ h' F' N' => ?_) (by rw [sizeLine_eq]; simp; omega)
  · subst e
    exact h t s.heap news F N ht fun _ h => h
  · exact h _ h' _ F' N' (List.mem_cons_self ..) fun _ h => List.mem_cons_of_mem _ h
theorem arr_fin {s g h' : Heap} {D : Addr} {led led' tl : List (Addr × Obj)} {tk : Tok} {ys : List Value} {ks : List Kd} {n : Nat} (N : News g L h' led') (e : ∀ b o, s.get? b = some o → g.get? b = some o) (hm : (D, tupOf (Value.str (Str.ofString "array") tk :: ys)) ∈ led') (sub : ∀ q ∈ led, q ∈ led') (st : ∀ q ∈ tl, q ∈ led) (hT : Tolds (inL tl) ys (ks.take n)) (hn : ks.length ≤ n) :
    ∃ t tk items tl, Value.ref D = .ref t ∧ inL tl t (tupOf (Value.str (Str.ofString "array") tk :: items)) ∧ Tolds (inL tl) items ks ∧ Fresh s h' tl := by
  rw [List.take_of_length_le hn] at hT
  exact ⟨D, tk, ys, led', rfl, hm, hT.mono fun a o h => sub _ (st _ h), fresh_all N e⟩
end
end

section
set_option maxHeartbeats 40000000
open PySem PySem.W PyProof.Rows PySem.Calls PySem.Spec
theorem tarr_c (w : World) (l : Addr) (vs : List Value) (n : Nat) (ks : List Kd) : PureN w 272 16 128 [.ref l] (fun h => h.get? l = some (listOf vs.toArray n) ∧ PsA (inH h) vs ks ∧ vs.length ≤ 10) (fun h₀ h' r => ∃ t tk items tl, r = .ref t ∧ inL tl t (tupOf (Value.str (Str.ofString "array") tk :: items)) ∧ Tolds (inL tl) items ks ∧ Fresh h₀ h' tl) := by
  k_with_none
  k_with "lt" => first | with_reducible assumption | exact lt_0 (by with_reducible assumption) | exact lt_1 (by with_reducible assumption) | exact lt_2 (by with_reducible assumption) | exact lt_3 (by with_reducible assumption) | exact lt_4 (by with_reducible assumption) | exact lt_5 (by with_reducible assumption) | exact lt_6 (by with_reducible assumption) | exact lt_7 (by with_reducible assumption) | exact lt_0 (dr8 (by with_reducible assumption)) | exact lt_1 (dr8 (by with_reducible assumption)) | exact lt_2 (dr8 (by with_reducible assumption)) | exact lt_3 (dr8 (by with_reducible assumption)) | exact lt_4 (dr8 (by with_reducible assumption)) | exact lt_5 (dr8 (by with_reducible assumption)) | exact lt_6 (dr8 (by with_reducible assumption)) | exact lt_7 (dr8 (by with_reducible assumption)) | exact lt_0 (dr8 (dr8 (by with_reducible assumption))) | exact lt_1 (dr8 (dr8 (by with_reducible assumption))) | exact lt_2 (dr8 (dr8 (by with_reducible assumption))) | exact lt_3 (dr8 (dr8 (by with_reducible assumption))) | exact lt_4 (dr8 (dr8 (by with_reducible assumption))) | exact lt_5 (dr8 (dr8 (by with_reducible assumption))) | exact lt_6 (dr8 (dr8 (by with_reducible assumption))) | exact lt_7 (dr8 (dr8 (by with_reducible assumption))) | exact lt_0 (dr8 (dr8 (dr8 (by with_reducible assumption)))) | exact lt_1 (dr8 (dr8 (dr8 (by with_reducible assumption)))) | exact lt_2 (dr8 (dr8 (dr8 (by with_reducible assumption)))) | exact lt_3 (dr8 (dr8 (dr8 (by with_reducible assumption)))) | exact lt_4 (dr8 (dr8 (dr8 (by with_reducible assumption)))) | exact lt_5 (dr8 (dr8 (dr8 (by with_reducible assumption)))) | exact lt_6 (dr8 (dr8 (dr8 (by with_reducible assumption)))) | exact lt_7 (dr8 (dr8 (dr8 (by with_reducible assumption)))) | exact lt_0 (dr8 (dr8 (dr8 (dr8 (by with_reducible assumption))))) | exact lt_1 (dr8 (dr8 (dr8 (dr8 (by with_reducible assumption))))) | exact lt_2 (dr8 (dr8 (dr8 (dr8 (by with_reducible assumption))))) | exact lt_3 (dr8 (dr8 (dr8 (dr8 (by with_reducible assumption))))) | exact lt_4 (dr8 (dr8 (dr8 (dr8 (by with_reducible assumption))))) | exact lt_5 (dr8 (dr8 (dr8 (dr8 (by with_reducible assumption))))) | exact lt_6 (dr8 (dr8 (dr8 (dr8 (by with_reducible assumption))))) | exact lt_7 (dr8 (dr8 (dr8 (dr8 (by with_reducible assumption)))))
  k_with "nd" => first | exact nd_0 (by with_reducible assumption) | exact nd_1 (by with_reducible assumption) | exact nd_2 (by with_reducible assumption) | exact nd_3 (by with_reducible assumption) | exact nd_4 (by with_reducible assumption) | exact nd_5 (by with_reducible assumption) | exact nd_6 (by with_reducible assumption) | exact nd_7 (by with_reducible assumption) | exact nd_8 (by with_reducible assumption)
  k_with "ne" => (refine neN ?_; (try dsimp only); first | with_reducible assumption | exact Ne.symm (by with_reducible assumption) | (refine ne_z ?_; k_extra "lt") | (refine ne_s ?_; k_extra "lt") | (refine ne_zz (by with_reducible assumption) ?_; k_extra "lt") | (refine ne_ss (by with_reducible assumption) ?_; k_extra "lt") | k_extra "nd" | (dsimp only [AllLt] at *; omega))
  k_with "call ref" => (k_here; (with_reducible show wpAny _ _ (call (Value.ref 253) [_]) _ _ _); k_dflt (refine' kind_c _ _ .array ?zzB ?zzF ?zzX ?zzT ?zzhk ?zzpre ?zzdd ?zzuu ?_; (case zzB => k_asm); (case zzF => k_asm); (case zzX => k_asm); (case zzT => k_asm); (case zzhk => first | exact rfl | assumption); (case zzpre => exact list_at hj1 (fun b o e => Fr.keep (by assumption) b o (HE' b o e))); (case zzdd => ktr_room); (case zzuu => ktr_units)); intro v' h' tk' e' p'; (have F' := fr_ext (by k_asm) e'); (have N' := news_ext (by k_asm) e'); (try dsimp only at p'); (try k_sweep); obtain ⟨tk'', e''⟩ := p'; subst e'')
  k_with "call ref" => (k_here; (with_reducible show wpAny _ _ (call (Value.ref 272) [_]) _ _ _); k_dflt (refine' tflat_c _ _ k8 ?zzB ?zzF ?zzX ?zzT ?zzhk ?zzpre ?zzdd ?zzuu ?_; (case zzB => k_asm); (case zzF => k_asm); (case zzX => k_asm); (case zzT => k_asm); (case zzhk => first | exact rfl | assumption); (case zzpre => exact hP8.ext (fun b o e => Fr.keep (by assumption) b o e)); (case zzdd => ktr_room); (case zzuu => ktr_units)); intro v' h' tk' e' p'; (obtain ⟨tl', hT', hf'⟩ := p'); (have F' := fr_ext (by k_asm) e'); (have N' := news_fresh (by k_asm) (news_ext (by assumption) e') hf'))
  k_with "eval ListComp" => (k_here; k_dflt (refine LCg.ListComp_U (F₀ := by k_asm) (by with_unfolding_all rfl) (by decide) (by rfl) (by decide) (by rfl) ?_))
  k_with "CompSrc" => (k_here; refine Stop.out ?_)
  k_with "CompEnd" => (refine Stop.out ?_)
  k_with "binaryOp Add ref ref" => (k_here; (with_reducible show wpAny _ _ (binaryOp _ (Value.ref _) (Value.ref _)) _ _ _); k_dflt (refine' add_head ?zzF ?zzN ?zza ?zzb ?zzz ?_; (case zzF => k_asm); (case zzN => k_asm); (case zza => k_mem); (case zzb => k_mem); (case zzz => omega)); intro D' h' led' F' N' hm' sub')
  unfold PureN
  k_fill
  intro loose mean mg mb dp un gd cn cs a ccd cl outer A₀ base h₀ L m s Q E B F X T hk hpre hd hu hret
  obtain ⟨hj1, hj2, hj3⟩ := hpre
  refine wpAny_call ?_
  k_dflt (refine' code_cellE (led := []) ?k1 ?k2 ?k3 ?k4 ?k5 ?kA ?kF ?kK ?k6 ?k7 ?k8 ?k9 ?kB ?kD ?_ ?c2 ?c3 ?c4; (case kA => exact rfl); (case kF => exact rfl); (case kK => first | assumption | exact rfl); (case k1 => k_asm); (case k2 => k_asm); (case k3 => k_asm); (case k4 => exact News.nil); (case k5 => k_asm); (case k6 => k_is); (case k7 => k_is); (case k8 => ktr_room); (case k9 => first | exact BindsTo.of_eq rfl | exact binds_K (by k_in) rfl (by k_is) rfl rfl rfl); (case kB => exact rfl); (case kD => decide +kernel); (case c2 => exact rfl); (case c3 => exact rfl); (case c4 => exact rfl); k_whole; intro g' L' h' tk' cells' HG' F' N' Y' B' X' T' l1; k_cells Y'; (try simp only [List.cons_append, List.nil_append, List.append_nil] at N'); (try dsimp only); (try with_reducible show wpAny _ _ _ _ _ _); (try k_fold); (first | (refine e_fold ?_; intro A9 e9) | (refine a_fold ?_; intro A9) | skip))
  have HE' : Ext _ g' := fun b o e => HG' b o e (fun hm => nomatch hm)
  clear HG'
  have hi1 := HE' _ _ hj1
  have hi2 := hj2.ext HE'
  have hl' : g'.IsList l vs.toArray := ⟨_, hi1, rfl, _, rfl⟩
  k_steps
  unfold Stop
  rename Fr _ _ _ _ => F9
  rename News _ _ _ _ => N9
  refine' LCg.CompSrc.base rfl F9 N9 hl' ?sz ?go
  case sz => rw [List.size_toArray, sizeLine_eq]; omega
  case go =>
    intro g9
    refine' told_ind ks ?fin ?turn
    case turn =>
      intro i8 ys8 nw8 hi8 hJ8 v8 I9 oI9 C9 oC9 D9 m8 h8 tk8 E8 hv8 hC8 hx8 F8 N7 off8 ne8
      obtain ⟨tl8, rfl, hT8⟩ := hJ8
      obtain ⟨k8, hk8, hP8⟩ := hi2.at (i := i8) (v := v8) (by simpa using hv8)
      k_steps
      unfold Stop
      refine told_end F' N' N7 hf' off8 hT8 hk8 hT' fun nw => .inl hl'
    case fin =>
      intro ys8 nw8 hJ8
      obtain ⟨tl8, rfl, hT8⟩ := hJ8
      intro D8 h8 tk8 F8 N8 o8
      have hz8 := hT8.length
      rw [List.length_take, List.size_toArray] at hz8
      have hz9 : ys8.length ≤ 10 := by omega
      k_steps
      refine' hret _ _ _ ?qe ?qp
      case qe => exact fun b o e => Fr.keep (by assumption) b o (HE' b o e)
      case qp => exact arr_fin N' HE' hm' sub' (fun q hq => by (repeat (first | exact hq | refine List.mem_cons_of_mem _ ?_))) hT8 (by have := hi2.length; simp only [List.size_toArray]; omega)
end

section
set_option maxHeartbeats 40000000
open PySem PySem.W PyProof.Rows PySem.Calls PySem.Spec
theorem told_c (w : World) (v : Value) (ob : Ob) : PureN w 272 16 128 [v] (fun h => TA w (inH h) v ob) (fun h₀ h' r => ∃ tl, Told (inL tl) r ob ∧ Fresh h₀ h' tl) := by
  unfold PureN
  k_fill
  intro loose mean mg mb dp un gd cn cs a ccd cl outer A₀ base h₀ L m s Q E B F X T hk hpre hd hu hret
  have hp : TA w (inH s.heap) v ob := hpre
  clear hpre
  cases hp with
  | plain a => exact tflat_c w v _ B F X T hk a (by omega) (by omega) fun v h' tk' e z => by obtain ⟨tl, p, f⟩ := z; exact hret _ _ _ e ⟨tl, p.told a.narr.1, f⟩
  | array a b c => exact tarr_c w _ _ _ _ B F X T hk ⟨a, b, c⟩ (by omega) (by omega) fun v h' tk' e z => by obtain ⟨t, tk, items, tl, ev, p, q, f⟩ := z; exact hret _ _ _ e ⟨tl, ⟨t, tk, items, ev, p, fun _ => ⟨by rw [q.length, ← b.length]; omega, q⟩⟩, f⟩
  | dict0 a b c => exact tdict0_c w _ _ B F X T hk ⟨a, b, c⟩ (by omega) (by omega) fun v h' tk' e z => by obtain ⟨tl, p, f⟩ := z; exact hret _ _ _ e ⟨tl, p.told (fun e => nomatch e), f⟩
  | dict1 a b c => exact tdict1_c w _ _ _ _ B F X T hk ⟨a, b, c⟩ (by omega) (by omega) fun v h' tk' e z => by obtain ⟨tl, p, f⟩ := z; exact hret _ _ _ e ⟨tl, p.told (fun e => nomatch e), f⟩
  | stream a b c d e f i => exact tstream_c w _ _ _ _ _ _ _ _ B F X T hk ⟨a, b, c, d, e, f, i⟩ (by omega) (by omega) fun v h' tk' e z => by obtain ⟨tl, p, f⟩ := z; exact hret _ _ _ e ⟨tl, p.told (fun e => nomatch e), f⟩
end

section
set_option maxHeartbeats 4000000
open PySem PySem.W PyProof.Rows PySem.Calls PySem.Spec
/-- does an object of these kinds fit a sign of the law's rows -/
noncomputable def fitS (ob : Ob) (sg : Str) : Bool :=
  if sg = Str.ofString "n" then ob.k == .int || ob.k == .real
  else if sg = Str.ofString "P" then ob.k == .name || ob.k == .dict
  else if sg = Str.ofString "t" then ob.k == .array && ob.its.all fun k => k == .int || k == .real || k == .string
  else if sg = Str.ofString "N" then ob.k == .name
  else if sg = Str.ofString "s" then ob.k == .string
  else if sg = Str.ofString "a" then ob.k == .array
  else ob.k == .dict
theorem told_mem {G : Gr} {v : Value} {ob : Ob} (x : Told G v ob) : ∃ t tk items, v = .ref t ∧ G t (tupOf (Value.str ob.k.text tk :: items)) := by
  obtain ⟨t, tk, items, a, b, _⟩ := x
  exact ⟨t, tk, items, a, b⟩
theorem seq_zero (x : Value) (xs : List Value) : seqIndex? 0 (x :: xs).length = some 0 := by
  unfold seqIndex?
  simp
theorem fitS_n (ob : Ob) : ([Str.ofString "int", Str.ofString "real"].any fun x => x == ob.k.text) = fitS ob (Str.ofString "n") := by
  obtain ⟨k, its⟩ := ob
  unfold fitS
  rw [if_pos rfl]
  dsimp only
  clear its
  cases k <;> decide +kernel
theorem fitS_P (ob : Ob) : ([Str.ofString "name", Str.ofString "dict"].any fun x => x == ob.k.text) = fitS ob (Str.ofString "P") := by
  obtain ⟨k, its⟩ := ob
  unfold fitS
  rw [if_neg (by decide +kernel), if_pos rfl]
  dsimp only
  clear its
  cases k <;> decide +kernel
theorem fitS_N (ob : Ob) : (ob.k.text == Str.ofString "name") = fitS ob (Str.ofString "N") := by
  obtain ⟨k, its⟩ := ob
  unfold fitS
  rw [if_neg (by decide +kernel), if_neg (by decide +kernel), if_neg (by decide +kernel), if_pos rfl]
  dsimp only
  clear its
  cases k <;> decide +kernel
theorem fitS_s (ob : Ob) : (ob.k.text == Str.ofString "string") = fitS ob (Str.ofString "s") := by
  obtain ⟨k, its⟩ := ob
  unfold fitS
  rw [if_neg (by decide +kernel), if_neg (by decide +kernel), if_neg (by decide +kernel), if_neg (by decide +kernel), if_pos rfl]
  dsimp only
  clear its
  cases k <;> decide +kernel
theorem fitS_a (ob : Ob) : (ob.k.text == Str.ofString "array") = fitS ob (Str.ofString "a") := by
  obtain ⟨k, its⟩ := ob
  unfold fitS
  rw [if_neg (by decide +kernel), if_neg (by decide +kernel), if_neg (by decide +kernel), if_neg (by decide +kernel), if_neg (by decide +kernel), if_pos rfl]
  dsimp only
  clear its
  cases k <;> decide +kernel
theorem fitS_D (ob : Ob) : (ob.k.text == Str.ofString "dict") = fitS ob (Str.ofString "D") := by
  obtain ⟨k, its⟩ := ob
  unfold fitS
  rw [if_neg (by decide +kernel), if_neg (by decide +kernel), if_neg (by decide +kernel), if_neg (by decide +kernel), if_neg (by decide +kernel), if_neg (by decide +kernel)]
  dsimp only
  clear its
  cases k <;> decide +kernel
theorem fitS_t (ob : Ob) : (ob.k == .array && ob.its.all fun k => k == .int || k == .real || k == .string) = fitS ob (Str.ofString "t") := by
  unfold fitS
  rw [if_neg (by decide +kernel), if_neg (by decide +kernel), if_pos rfl]
end

section
set_option maxHeartbeats 40000000
open PySem PySem.W PyProof.Rows PySem.Calls PySem.Spec
theorem fits_n (w : World) (v : Value) (ob : Ob) (t0 : Tok) : PureC w 391 20 160 [v, .str (Str.ofString "n") t0] (fun h => TA w (inH h) v ob) (fun _ r => r = .bool (fitS ob (Str.ofString "n"))) := by
  k_with_none
  k_with "lt" => first | with_reducible assumption | exact lt_0 (by with_reducible assumption) | exact lt_1 (by with_reducible assumption) | exact lt_2 (by with_reducible assumption) | exact lt_3 (by with_reducible assumption) | exact lt_4 (by with_reducible assumption) | exact lt_5 (by with_reducible assumption) | exact lt_6 (by with_reducible assumption) | exact lt_7 (by with_reducible assumption) | exact lt_0 (dr8 (by with_reducible assumption)) | exact lt_1 (dr8 (by with_reducible assumption)) | exact lt_2 (dr8 (by with_reducible assumption)) | exact lt_3 (dr8 (by with_reducible assumption)) | exact lt_4 (dr8 (by with_reducible assumption)) | exact lt_5 (dr8 (by with_reducible assumption)) | exact lt_6 (dr8 (by with_reducible assumption)) | exact lt_7 (dr8 (by with_reducible assumption)) | exact lt_0 (dr8 (dr8 (by with_reducible assumption))) | exact lt_1 (dr8 (dr8 (by with_reducible assumption))) | exact lt_2 (dr8 (dr8 (by with_reducible assumption))) | exact lt_3 (dr8 (dr8 (by with_reducible assumption))) | exact lt_4 (dr8 (dr8 (by with_reducible assumption))) | exact lt_5 (dr8 (dr8 (by with_reducible assumption))) | exact lt_6 (dr8 (dr8 (by with_reducible assumption))) | exact lt_7 (dr8 (dr8 (by with_reducible assumption))) | exact lt_0 (dr8 (dr8 (dr8 (by with_reducible assumption)))) | exact lt_1 (dr8 (dr8 (dr8 (by with_reducible assumption)))) | exact lt_2 (dr8 (dr8 (dr8 (by with_reducible assumption)))) | exact lt_3 (dr8 (dr8 (dr8 (by with_reducible assumption)))) | exact lt_4 (dr8 (dr8 (dr8 (by with_reducible assumption)))) | exact lt_5 (dr8 (dr8 (dr8 (by with_reducible assumption)))) | exact lt_6 (dr8 (dr8 (dr8 (by with_reducible assumption)))) | exact lt_7 (dr8 (dr8 (dr8 (by with_reducible assumption)))) | exact lt_0 (dr8 (dr8 (dr8 (dr8 (by with_reducible assumption))))) | exact lt_1 (dr8 (dr8 (dr8 (dr8 (by with_reducible assumption))))) | exact lt_2 (dr8 (dr8 (dr8 (dr8 (by with_reducible assumption))))) | exact lt_3 (dr8 (dr8 (dr8 (dr8 (by with_reducible assumption))))) | exact lt_4 (dr8 (dr8 (dr8 (dr8 (by with_reducible assumption))))) | exact lt_5 (dr8 (dr8 (dr8 (dr8 (by with_reducible assumption))))) | exact lt_6 (dr8 (dr8 (dr8 (dr8 (by with_reducible assumption))))) | exact lt_7 (dr8 (dr8 (dr8 (dr8 (by with_reducible assumption)))))
  k_with "nd" => first | exact nd_0 (by with_reducible assumption) | exact nd_1 (by with_reducible assumption) | exact nd_2 (by with_reducible assumption) | exact nd_3 (by with_reducible assumption) | exact nd_4 (by with_reducible assumption) | exact nd_5 (by with_reducible assumption) | exact nd_6 (by with_reducible assumption) | exact nd_7 (by with_reducible assumption) | exact nd_8 (by with_reducible assumption)
  k_with "ne" => (refine neN ?_; (try dsimp only); first | with_reducible assumption | exact Ne.symm (by with_reducible assumption) | (refine ne_z ?_; k_extra "lt") | (refine ne_s ?_; k_extra "lt") | (refine ne_zz (by with_reducible assumption) ?_; k_extra "lt") | (refine ne_ss (by with_reducible assumption) ?_; k_extra "lt") | k_extra "nd" | (dsimp only [AllLt] at *; omega))
  k_with "call ref" => (k_here; (with_reducible show wpAny _ _ (call (Value.ref 272) [_]) _ _ _); k_dflt (refine' told_c _ _ ob ?zzB ?zzF ?zzX ?zzT ?zzhk ?zzpre ?zzdd ?zzuu ?_; (case zzB => k_asm); (case zzF => k_asm); (case zzX => k_asm); (case zzT => k_asm); (case zzhk => first | exact rfl | assumption); (case zzpre => exact TA.ext hi0 (fun b o e => Fr.keep (by assumption) b o (HE' b o e))); (case zzdd => ktr_room); (case zzuu => ktr_units)); intro v' h' tk' e' p'; (obtain ⟨tl', hT', hf'⟩ := p'); (obtain ⟨t', tt', items', ev', hm'⟩ := told_mem hT'); subst ev'; (have F' := fr_ext (by k_asm) e'); (have N' := news_fresh (by k_asm) (news_ext (by assumption) e') hf'))
  k_with "subscriptTail" => (k_here; (with_reducible show wpAny _ _ (subscriptTail _ _ (Value.ref _) (Value.int 0 _)) _ _ _); k_dflt (refine' PyProof.Rows.item_tupleT (j := 0) (News.isTup N' (List.mem_append_left _ hm')) ?zzq1 ?zzq1b ?zzq2 ?zzq3 ?_ ?zzq4; (case zzq1 => decide); (case zzq1b => decide); (case zzq2 => exact seq_zero _ _); (case zzq3 => rfl); (case zzq4 => with_unfolding_all rfl)))
  k_with "subscriptTail Name Constant ref int" => (k_here; (with_reducible show wpAny _ _ (subscriptTail _ _ (Value.ref _) (Value.int 0 _)) _ _ _); k_dflt (refine' PyProof.Rows.item_tupleT (j := 0) (News.isTup N' (List.mem_append_left _ hm')) ?zzq1 ?zzq1b ?zzq2 ?zzq3 ?_ ?zzq4; (case zzq1 => decide); (case zzq1b => decide); (case zzq2 => exact seq_zero _ _); (case zzq3 => rfl); (case zzq4 => with_unfolding_all rfl)))
  k_with "subscriptTail Call Name cons nil Constant ref int" => (k_here; (with_reducible show wpAny _ _ (subscriptTail _ _ (Value.ref _) (Value.int 0 _)) _ _ _); k_dflt (refine' PyProof.Rows.item_tupleT (j := 0) (News.isTup N' (List.mem_append_left _ hm')) ?zzq1 ?zzq1b ?zzq2 ?zzq3 ?_ ?zzq4; (case zzq1 => decide); (case zzq1b => decide); (case zzq2 => exact seq_zero _ _); (case zzq3 => rfl); (case zzq4 => with_unfolding_all rfl)))
  unfold PureC
  k_fill
  intro loose mean mg mb dp un gd cn cs a ccd cl outer A₀ base h₀ L m s Q E B F X T hk hpre hd hu hret
  have hi0 := hpre
  clear hpre
  refine wpAny_call ?_
  k_dflt (refine' code_def0 ?k1 ?k2 ?k3 ?k5 ?kA ?kF ?kK ?k6 ?k7 ?k8 ?k9 ?kB ?_ ?c2 ?c3 ?c4 ?c5; (case kA => exact rfl); (case kF => exact rfl); (case kK => first | assumption | exact rfl); (case k1 => k_asm); (case k2 => k_asm); (case k3 => k_asm); (case k5 => k_asm); (case k6 => k_is); (case k7 => k_is); (case k8 => ktr_room); (case k9 => first | exact BindsTo.of_eq rfl | exact binds_K (by k_in) rfl (by k_is) rfl rfl rfl); (case c5 => decide); (case kB => exact locs rfl); (case c2 => exact rfl); (case c3 => exact rfl); (case c4 => exact rfl); k_whole; intro g' L' h' HE' F' N' B' X' T'; (try dsimp only); (try k_fold); (first | (refine e_fold ?_; intro A9 e9) | (refine a_fold ?_; intro A9) | skip))
  k_steps
  exact hret _ _ _ (fun b o e => Fr.keep (by assumption) b o (HE' b o e)) (congrArg Value.bool (fitS_n ob))
theorem fits_P (w : World) (v : Value) (ob : Ob) (t0 : Tok) : PureC w 391 20 160 [v, .str (Str.ofString "P") t0] (fun h => TA w (inH h) v ob) (fun _ r => r = .bool (fitS ob (Str.ofString "P"))) := by
  k_with_none
  k_with "lt" => first | with_reducible assumption | exact lt_0 (by with_reducible assumption) | exact lt_1 (by with_reducible assumption) | exact lt_2 (by with_reducible assumption) | exact lt_3 (by with_reducible assumption) | exact lt_4 (by with_reducible assumption) | exact lt_5 (by with_reducible assumption) | exact lt_6 (by with_reducible assumption) | exact lt_7 (by with_reducible assumption) | exact lt_0 (dr8 (by with_reducible assumption)) | exact lt_1 (dr8 (by with_reducible assumption)) | exact lt_2 (dr8 (by with_reducible assumption)) | exact lt_3 (dr8 (by with_reducible assumption)) | exact lt_4 (dr8 (by with_reducible assumption)) | exact lt_5 (dr8 (by with_reducible assumption)) | exact lt_6 (dr8 (by with_reducible assumption)) | exact lt_7 (dr8 (by with_reducible assumption)) | exact lt_0 (dr8 (dr8 (by with_reducible assumption))) | exact lt_1 (dr8 (dr8 (by with_reducible assumption))) | exact lt_2 (dr8 (dr8 (by with_reducible assumption))) | exact lt_3 (dr8 (dr8 (by with_reducible assumption))) | exact lt_4 (dr8 (dr8 (by with_reducible assumption))) | exact lt_5 (dr8 (dr8 (by with_reducible assumption))) | exact lt_6 (dr8 (dr8 (by with_reducible assumption))) | exact lt_7 (dr8 (dr8 (by with_reducible assumption))) | exact lt_0 (dr8 (dr8 (dr8 (by with_reducible assumption)))) | exact lt_1 (dr8 (dr8 (dr8 (by with_reducible assumption)))) | exact lt_2 (dr8 (dr8 (dr8 (by with_reducible assumption)))) | exact lt_3 (dr8 (dr8 (dr8 (by with_reducible assumption)))) | exact lt_4 (dr8 (dr8 (dr8 (by with_reducible assumption)))) | exact lt_5 (dr8 (dr8 (dr8 (by with_reducible assumption)))) | exact lt_6 (dr8 (dr8 (dr8 (by with_reducible assumption)))) | exact lt_7 (dr8 (dr8 (dr8 (by with_reducible assumption)))) | exact lt_0 (dr8 (dr8 (dr8 (dr8 (by with_reducible assumption))))) | exact lt_1 (dr8 (dr8 (dr8 (dr8 (by with_reducible assumption))))) | exact lt_2 (dr8 (dr8 (dr8 (dr8 (by with_reducible assumption))))) | exact lt_3 (dr8 (dr8 (dr8 (dr8 (by with_reducible assumption))))) | exact lt_4 (dr8 (dr8 (dr8 (dr8 (by with_reducible assumption))))) | exact lt_5 (dr8 (dr8 (dr8 (dr8 (by with_reducible assumption))))) | exact lt_6 (dr8 (dr8 (dr8 (dr8 (by with_reducible assumption))))) | exact lt_7 (dr8 (dr8 (dr8 (dr8 (by with_reducible assumption)))))
  k_with "nd" => first | exact nd_0 (by with_reducible assumption) | exact nd_1 (by with_reducible assumption) | exact nd_2 (by with_reducible assumption) | exact nd_3 (by with_reducible assumption) | exact nd_4 (by with_reducible assumption) | exact nd_5 (by with_reducible assumption) | exact nd_6 (by with_reducible assumption) | exact nd_7 (by with_reducible assumption) | exact nd_8 (by with_reducible assumption)
  k_with "ne" => (refine neN ?_; (try dsimp only); first | with_reducible assumption | exact Ne.symm (by with_reducible assumption) | (refine ne_z ?_; k_extra "lt") | (refine ne_s ?_; k_extra "lt") | (refine ne_zz (by with_reducible assumption) ?_; k_extra "lt") | (refine ne_ss (by with_reducible assumption) ?_; k_extra "lt") | k_extra "nd" | (dsimp only [AllLt] at *; omega))
  k_with "call ref" => (k_here; (with_reducible show wpAny _ _ (call (Value.ref 272) [_]) _ _ _); k_dflt (refine' told_c _ _ ob ?zzB ?zzF ?zzX ?zzT ?zzhk ?zzpre ?zzdd ?zzuu ?_; (case zzB => k_asm); (case zzF => k_asm); (case zzX => k_asm); (case zzT => k_asm); (case zzhk => first | exact rfl | assumption); (case zzpre => exact TA.ext hi0 (fun b o e => Fr.keep (by assumption) b o (HE' b o e))); (case zzdd => ktr_room); (case zzuu => ktr_units)); intro v' h' tk' e' p'; (obtain ⟨tl', hT', hf'⟩ := p'); (obtain ⟨t', tt', items', ev', hm'⟩ := told_mem hT'); subst ev'; (have F' := fr_ext (by k_asm) e'); (have N' := news_fresh (by k_asm) (news_ext (by assumption) e') hf'))
  k_with "subscriptTail" => (k_here; (with_reducible show wpAny _ _ (subscriptTail _ _ (Value.ref _) (Value.int 0 _)) _ _ _); k_dflt (refine' PyProof.Rows.item_tupleT (j := 0) (News.isTup N' (List.mem_append_left _ hm')) ?zzq1 ?zzq1b ?zzq2 ?zzq3 ?_ ?zzq4; (case zzq1 => decide); (case zzq1b => decide); (case zzq2 => exact seq_zero _ _); (case zzq3 => rfl); (case zzq4 => with_unfolding_all rfl)))
  k_with "subscriptTail Name Constant ref int" => (k_here; (with_reducible show wpAny _ _ (subscriptTail _ _ (Value.ref _) (Value.int 0 _)) _ _ _); k_dflt (refine' PyProof.Rows.item_tupleT (j := 0) (News.isTup N' (List.mem_append_left _ hm')) ?zzq1 ?zzq1b ?zzq2 ?zzq3 ?_ ?zzq4; (case zzq1 => decide); (case zzq1b => decide); (case zzq2 => exact seq_zero _ _); (case zzq3 => rfl); (case zzq4 => with_unfolding_all rfl)))
  k_with "subscriptTail Call Name cons nil Constant ref int" => (k_here; (with_reducible show wpAny _ _ (subscriptTail _ _ (Value.ref _) (Value.int 0 _)) _ _ _); k_dflt (refine' PyProof.Rows.item_tupleT (j := 0) (News.isTup N' (List.mem_append_left _ hm')) ?zzq1 ?zzq1b ?zzq2 ?zzq3 ?_ ?zzq4; (case zzq1 => decide); (case zzq1b => decide); (case zzq2 => exact seq_zero _ _); (case zzq3 => rfl); (case zzq4 => with_unfolding_all rfl)))
  unfold PureC
  k_fill
  intro loose mean mg mb dp un gd cn cs a ccd cl outer A₀ base h₀ L m s Q E B F X T hk hpre hd hu hret
  have hi0 := hpre
  clear hpre
  refine wpAny_call ?_
  k_dflt (refine' code_def0 ?k1 ?k2 ?k3 ?k5 ?kA ?kF ?kK ?k6 ?k7 ?k8 ?k9 ?kB ?_ ?c2 ?c3 ?c4 ?c5; (case kA => exact rfl); (case kF => exact rfl); (case kK => first | assumption | exact rfl); (case k1 => k_asm); (case k2 => k_asm); (case k3 => k_asm); (case k5 => k_asm); (case k6 => k_is); (case k7 => k_is); (case k8 => ktr_room); (case k9 => first | exact BindsTo.of_eq rfl | exact binds_K (by k_in) rfl (by k_is) rfl rfl rfl); (case c5 => decide); (case kB => exact locs rfl); (case c2 => exact rfl); (case c3 => exact rfl); (case c4 => exact rfl); k_whole; intro g' L' h' HE' F' N' B' X' T'; (try dsimp only); (try k_fold); (first | (refine e_fold ?_; intro A9 e9) | (refine a_fold ?_; intro A9) | skip))
  k_steps
  exact hret _ _ _ (fun b o e => Fr.keep (by assumption) b o (HE' b o e)) (congrArg Value.bool (fitS_P ob))
theorem fits_N (w : World) (v : Value) (ob : Ob) (t0 : Tok) : PureC w 391 20 160 [v, .str (Str.ofString "N") t0] (fun h => TA w (inH h) v ob) (fun _ r => r = .bool (fitS ob (Str.ofString "N"))) := by
  k_with_none
  k_with "lt" => first | with_reducible assumption | exact lt_0 (by with_reducible assumption) | exact lt_1 (by with_reducible assumption) | exact lt_2 (by with_reducible assumption) | exact lt_3 (by with_reducible assumption) | exact lt_4 (by with_reducible assumption) | exact lt_5 (by with_reducible assumption) | exact lt_6 (by with_reducible assumption) | exact lt_7 (by with_reducible assumption) | exact lt_0 (dr8 (by with_reducible assumption)) | exact lt_1 (dr8 (by with_reducible assumption)) | exact lt_2 (dr8 (by with_reducible assumption)) | exact lt_3 (dr8 (by with_reducible assumption)) | exact lt_4 (dr8 (by with_reducible assumption)) | exact lt_5 (dr8 (by with_reducible assumption)) | exact lt_6 (dr8 (by with_reducible assumption)) | exact lt_7 (dr8 (by with_reducible assumption)) | exact lt_0 (dr8 (dr8 (by with_reducible assumption))) | exact lt_1 (dr8 (dr8 (by with_reducible assumption))) | exact lt_2 (dr8 (dr8 (by with_reducible assumption))) | exact lt_3 (dr8 (dr8 (by with_reducible assumption))) | exact lt_4 (dr8 (dr8 (by with_reducible assumption))) | exact lt_5 (dr8 (dr8 (by with_reducible assumption))) | exact lt_6 (dr8 (dr8 (by with_reducible assumption))) | exact lt_7 (dr8 (dr8 (by with_reducible assumption))) | exact lt_0 (dr8 (dr8 (dr8 (by with_reducible assumption)))) | exact lt_1 (dr8 (dr8 (dr8 (by with_reducible assumption)))) | exact lt_2 (dr8 (dr8 (dr8 (by with_reducible assumption)))) | exact lt_3 (dr8 (dr8 (dr8 (by with_reducible assumption)))) | exact lt_4 (dr8 (dr8 (dr8 (by with_reducible assumption)))) | exact lt_5 (dr8 (dr8 (dr8 (by with_reducible assumption)))) | exact lt_6 (dr8 (dr8 (dr8 (by with_reducible assumption)))) | exact lt_7 (dr8 (dr8 (dr8 (by with_reducible assumption)))) | exact lt_0 (dr8 (dr8 (dr8 (dr8 (by with_reducible assumption))))) | exact lt_1 (dr8 (dr8 (dr8 (dr8 (by with_reducible assumption))))) | exact lt_2 (dr8 (dr8 (dr8 (dr8 (by with_reducible assumption))))) | exact lt_3 (dr8 (dr8 (dr8 (dr8 (by with_reducible assumption))))) | exact lt_4 (dr8 (dr8 (dr8 (dr8 (by with_reducible assumption))))) | exact lt_5 (dr8 (dr8 (dr8 (dr8 (by with_reducible assumption))))) | exact lt_6 (dr8 (dr8 (dr8 (dr8 (by with_reducible assumption))))) | exact lt_7 (dr8 (dr8 (dr8 (dr8 (by with_reducible assumption)))))
  k_with "nd" => first | exact nd_0 (by with_reducible assumption) | exact nd_1 (by with_reducible assumption) | exact nd_2 (by with_reducible assumption) | exact nd_3 (by with_reducible assumption) | exact nd_4 (by with_reducible assumption) | exact nd_5 (by with_reducible assumption) | exact nd_6 (by with_reducible assumption) | exact nd_7 (by with_reducible assumption) | exact nd_8 (by with_reducible assumption)
  k_with "ne" => (refine neN ?_; (try dsimp only); first | with_reducible assumption | exact Ne.symm (by with_reducible assumption) | (refine ne_z ?_; k_extra "lt") | (refine ne_s ?_; k_extra "lt") | (refine ne_zz (by with_reducible assumption) ?_; k_extra "lt") | (refine ne_ss (by with_reducible assumption) ?_; k_extra "lt") | k_extra "nd" | (dsimp only [AllLt] at *; omega))
  k_with "call ref" => (k_here; (with_reducible show wpAny _ _ (call (Value.ref 272) [_]) _ _ _); k_dflt (refine' told_c _ _ ob ?zzB ?zzF ?zzX ?zzT ?zzhk ?zzpre ?zzdd ?zzuu ?_; (case zzB => k_asm); (case zzF => k_asm); (case zzX => k_asm); (case zzT => k_asm); (case zzhk => first | exact rfl | assumption); (case zzpre => exact TA.ext hi0 (fun b o e => Fr.keep (by assumption) b o (HE' b o e))); (case zzdd => ktr_room); (case zzuu => ktr_units)); intro v' h' tk' e' p'; (obtain ⟨tl', hT', hf'⟩ := p'); (obtain ⟨t', tt', items', ev', hm'⟩ := told_mem hT'); subst ev'; (have F' := fr_ext (by k_asm) e'); (have N' := news_fresh (by k_asm) (news_ext (by assumption) e') hf'))
  k_with "subscriptTail" => (k_here; (with_reducible show wpAny _ _ (subscriptTail _ _ (Value.ref _) (Value.int 0 _)) _ _ _); k_dflt (refine' PyProof.Rows.item_tupleT (j := 0) (News.isTup N' (List.mem_append_left _ hm')) ?zzq1 ?zzq1b ?zzq2 ?zzq3 ?_ ?zzq4; (case zzq1 => decide); (case zzq1b => decide); (case zzq2 => exact seq_zero _ _); (case zzq3 => rfl); (case zzq4 => with_unfolding_all rfl)))
  k_with "subscriptTail Name Constant ref int" => (k_here; (with_reducible show wpAny _ _ (subscriptTail _ _ (Value.ref _) (Value.int 0 _)) _ _ _); k_dflt (refine' PyProof.Rows.item_tupleT (j := 0) (News.isTup N' (List.mem_append_left _ hm')) ?zzq1 ?zzq1b ?zzq2 ?zzq3 ?_ ?zzq4; (case zzq1 => decide); (case zzq1b => decide); (case zzq2 => exact seq_zero _ _); (case zzq3 => rfl); (case zzq4 => with_unfolding_all rfl)))
  k_with "subscriptTail Call Name cons nil Constant ref int" => (k_here; (with_reducible show wpAny _ _ (subscriptTail _ _ (Value.ref _) (Value.int 0 _)) _ _ _); k_dflt (refine' PyProof.Rows.item_tupleT (j := 0) (News.isTup N' (List.mem_append_left _ hm')) ?zzq1 ?zzq1b ?zzq2 ?zzq3 ?_ ?zzq4; (case zzq1 => decide); (case zzq1b => decide); (case zzq2 => exact seq_zero _ _); (case zzq3 => rfl); (case zzq4 => with_unfolding_all rfl)))
  k_with "getItem ref str" => (k_here; (with_reducible show wpAny _ _ (getItem (Value.ref _) (Value.str _ _)) _ _ _); refine Stop.out ?_)
  unfold PureC
  k_fill
  intro loose mean mg mb dp un gd cn cs a ccd cl outer A₀ base h₀ L m s Q E B F X T hk hpre hd hu hret
  have hi0 := hpre
  clear hpre
  refine wpAny_call ?_
  k_dflt (refine' code_def0 ?k1 ?k2 ?k3 ?k5 ?kA ?kF ?kK ?k6 ?k7 ?k8 ?k9 ?kB ?_ ?c2 ?c3 ?c4 ?c5; (case kA => exact rfl); (case kF => exact rfl); (case kK => first | assumption | exact rfl); (case k1 => k_asm); (case k2 => k_asm); (case k3 => k_asm); (case k5 => k_asm); (case k6 => k_is); (case k7 => k_is); (case k8 => ktr_room); (case k9 => first | exact BindsTo.of_eq rfl | exact binds_K (by k_in) rfl (by k_is) rfl rfl rfl); (case c5 => decide); (case kB => exact locs rfl); (case c2 => exact rfl); (case c3 => exact rfl); (case c4 => exact rfl); k_whole; intro g' L' h' HE' F' N' B' X' T'; (try dsimp only); (try k_fold); (first | (refine e_fold ?_; intro A9 e9) | (refine a_fold ?_; intro A9) | skip))
  k_steps
  unfold Stop
  rename News _ _ _ _ => N9
  refine dict_get N9 (by k_mem) (by assumption) (by with_unfolding_all rfl) ?_
  k_steps
  exact hret _ _ _ (fun b o e => Fr.keep (by assumption) b o (HE' b o e)) (congrArg Value.bool (fitS_N ob))
theorem fits_s (w : World) (v : Value) (ob : Ob) (t0 : Tok) : PureC w 391 20 160 [v, .str (Str.ofString "s") t0] (fun h => TA w (inH h) v ob) (fun _ r => r = .bool (fitS ob (Str.ofString "s"))) := by
  k_with_none
  k_with "lt" => first | with_reducible assumption | exact lt_0 (by with_reducible assumption) | exact lt_1 (by with_reducible assumption) | exact lt_2 (by with_reducible assumption) | exact lt_3 (by with_reducible assumption) | exact lt_4 (by with_reducible assumption) | exact lt_5 (by with_reducible assumption) | exact lt_6 (by with_reducible assumption) | exact lt_7 (by with_reducible assumption) | exact lt_0 (dr8 (by with_reducible assumption)) | exact lt_1 (dr8 (by with_reducible assumption)) | exact lt_2 (dr8 (by with_reducible assumption)) | exact lt_3 (dr8 (by with_reducible assumption)) | exact lt_4 (dr8 (by with_reducible assumption)) | exact lt_5 (dr8 (by with_reducible assumption)) | exact lt_6 (dr8 (by with_reducible assumption)) | exact lt_7 (dr8 (by with_reducible assumption)) | exact lt_0 (dr8 (dr8 (by with_reducible assumption))) | exact lt_1 (dr8 (dr8 (by with_reducible assumption))) | exact lt_2 (dr8 (dr8 (by with_reducible assumption))) | exact lt_3 (dr8 (dr8 (by with_reducible assumption))) | exact lt_4 (dr8 (dr8 (by with_reducible assumption))) | exact lt_5 (dr8 (dr8 (by with_reducible assumption))) | exact lt_6 (dr8 (dr8 (by with_reducible assumption))) | exact lt_7 (dr8 (dr8 (by with_reducible assumption))) | exact lt_0 (dr8 (dr8 (dr8 (by with_reducible assumption)))) | exact lt_1 (dr8 (dr8 (dr8 (by with_reducible assumption)))) | exact lt_2 (dr8 (dr8 (dr8 (by with_reducible assumption)))) | exact lt_3 (dr8 (dr8 (dr8 (by with_reducible assumption)))) | exact lt_4 (dr8 (dr8 (dr8 (by with_reducible assumption)))) | exact lt_5 (dr8 (dr8 (dr8 (by with_reducible assumption)))) | exact lt_6 (dr8 (dr8 (dr8 (by with_reducible assumption)))) | exact lt_7 (dr8 (dr8 (dr8 (by with_reducible assumption)))) | exact lt_0 (dr8 (dr8 (dr8 (dr8 (by with_reducible assumption))))) | exact lt_1 (dr8 (dr8 (dr8 (dr8 (by with_reducible assumption))))) | exact lt_2 (dr8 (dr8 (dr8 (dr8 (by with_reducible assumption))))) | exact lt_3 (dr8 (dr8 (dr8 (dr8 (by with_reducible assumption))))) | exact lt_4 (dr8 (dr8 (dr8 (dr8 (by with_reducible assumption))))) | exact lt_5 (dr8 (dr8 (dr8 (dr8 (by with_reducible assumption))))) | exact lt_6 (dr8 (dr8 (dr8 (dr8 (by with_reducible assumption))))) | exact lt_7 (dr8 (dr8 (dr8 (dr8 (by with_reducible assumption)))))
  k_with "nd" => first | exact nd_0 (by with_reducible assumption) | exact nd_1 (by with_reducible assumption) | exact nd_2 (by with_reducible assumption) | exact nd_3 (by with_reducible assumption) | exact nd_4 (by with_reducible assumption) | exact nd_5 (by with_reducible assumption) | exact nd_6 (by with_reducible assumption) | exact nd_7 (by with_reducible assumption) | exact nd_8 (by with_reducible assumption)
  k_with "ne" => (refine neN ?_; (try dsimp only); first | with_reducible assumption | exact Ne.symm (by with_reducible assumption) | (refine ne_z ?_; k_extra "lt") | (refine ne_s ?_; k_extra "lt") | (refine ne_zz (by with_reducible assumption) ?_; k_extra "lt") | (refine ne_ss (by with_reducible assumption) ?_; k_extra "lt") | k_extra "nd" | (dsimp only [AllLt] at *; omega))
  k_with "call ref" => (k_here; (with_reducible show wpAny _ _ (call (Value.ref 272) [_]) _ _ _); k_dflt (refine' told_c _ _ ob ?zzB ?zzF ?zzX ?zzT ?zzhk ?zzpre ?zzdd ?zzuu ?_; (case zzB => k_asm); (case zzF => k_asm); (case zzX => k_asm); (case zzT => k_asm); (case zzhk => first | exact rfl | assumption); (case zzpre => exact TA.ext hi0 (fun b o e => Fr.keep (by assumption) b o (HE' b o e))); (case zzdd => ktr_room); (case zzuu => ktr_units)); intro v' h' tk' e' p'; (obtain ⟨tl', hT', hf'⟩ := p'); (obtain ⟨t', tt', items', ev', hm'⟩ := told_mem hT'); subst ev'; (have F' := fr_ext (by k_asm) e'); (have N' := news_fresh (by k_asm) (news_ext (by assumption) e') hf'))
  k_with "subscriptTail" => (k_here; (with_reducible show wpAny _ _ (subscriptTail _ _ (Value.ref _) (Value.int 0 _)) _ _ _); k_dflt (refine' PyProof.Rows.item_tupleT (j := 0) (News.isTup N' (List.mem_append_left _ hm')) ?zzq1 ?zzq1b ?zzq2 ?zzq3 ?_ ?zzq4; (case zzq1 => decide); (case zzq1b => decide); (case zzq2 => exact seq_zero _ _); (case zzq3 => rfl); (case zzq4 => with_unfolding_all rfl)))
  k_with "subscriptTail Name Constant ref int" => (k_here; (with_reducible show wpAny _ _ (subscriptTail _ _ (Value.ref _) (Value.int 0 _)) _ _ _); k_dflt (refine' PyProof.Rows.item_tupleT (j := 0) (News.isTup N' (List.mem_append_left _ hm')) ?zzq1 ?zzq1b ?zzq2 ?zzq3 ?_ ?zzq4; (case zzq1 => decide); (case zzq1b => decide); (case zzq2 => exact seq_zero _ _); (case zzq3 => rfl); (case zzq4 => with_unfolding_all rfl)))
  k_with "subscriptTail Call Name cons nil Constant ref int" => (k_here; (with_reducible show wpAny _ _ (subscriptTail _ _ (Value.ref _) (Value.int 0 _)) _ _ _); k_dflt (refine' PyProof.Rows.item_tupleT (j := 0) (News.isTup N' (List.mem_append_left _ hm')) ?zzq1 ?zzq1b ?zzq2 ?zzq3 ?_ ?zzq4; (case zzq1 => decide); (case zzq1b => decide); (case zzq2 => exact seq_zero _ _); (case zzq3 => rfl); (case zzq4 => with_unfolding_all rfl)))
  k_with "getItem ref str" => (k_here; (with_reducible show wpAny _ _ (getItem (Value.ref _) (Value.str _ _)) _ _ _); refine Stop.out ?_)
  unfold PureC
  k_fill
  intro loose mean mg mb dp un gd cn cs a ccd cl outer A₀ base h₀ L m s Q E B F X T hk hpre hd hu hret
  have hi0 := hpre
  clear hpre
  refine wpAny_call ?_
  k_dflt (refine' code_def0 ?k1 ?k2 ?k3 ?k5 ?kA ?kF ?kK ?k6 ?k7 ?k8 ?k9 ?kB ?_ ?c2 ?c3 ?c4 ?c5; (case kA => exact rfl); (case kF => exact rfl); (case kK => first | assumption | exact rfl); (case k1 => k_asm); (case k2 => k_asm); (case k3 => k_asm); (case k5 => k_asm); (case k6 => k_is); (case k7 => k_is); (case k8 => ktr_room); (case k9 => first | exact BindsTo.of_eq rfl | exact binds_K (by k_in) rfl (by k_is) rfl rfl rfl); (case c5 => decide); (case kB => exact locs rfl); (case c2 => exact rfl); (case c3 => exact rfl); (case c4 => exact rfl); k_whole; intro g' L' h' HE' F' N' B' X' T'; (try dsimp only); (try k_fold); (first | (refine e_fold ?_; intro A9 e9) | (refine a_fold ?_; intro A9) | skip))
  k_steps
  unfold Stop
  rename News _ _ _ _ => N9
  refine dict_get N9 (by k_mem) (by assumption) (by with_unfolding_all rfl) ?_
  k_steps
  exact hret _ _ _ (fun b o e => Fr.keep (by assumption) b o (HE' b o e)) (congrArg Value.bool (fitS_s ob))
theorem fits_a (w : World) (v : Value) (ob : Ob) (t0 : Tok) : PureC w 391 20 160 [v, .str (Str.ofString "a") t0] (fun h => TA w (inH h) v ob) (fun _ r => r = .bool (fitS ob (Str.ofString "a"))) := by
  k_with_none
  k_with "lt" => first | with_reducible assumption | exact lt_0 (by with_reducible assumption) | exact lt_1 (by with_reducible assumption) | exact lt_2 (by with_reducible assumption) | exact lt_3 (by with_reducible assumption) | exact lt_4 (by with_reducible assumption) | exact lt_5 (by with_reducible assumption) | exact lt_6 (by with_reducible assumption) | exact lt_7 (by with_reducible assumption) | exact lt_0 (dr8 (by with_reducible assumption)) | exact lt_1 (dr8 (by with_reducible assumption)) | exact lt_2 (dr8 (by with_reducible assumption)) | exact lt_3 (dr8 (by with_reducible assumption)) | exact lt_4 (dr8 (by with_reducible assumption)) | exact lt_5 (dr8 (by with_reducible assumption)) | exact lt_6 (dr8 (by with_reducible assumption)) | exact lt_7 (dr8 (by with_reducible assumption)) | exact lt_0 (dr8 (dr8 (by with_reducible assumption))) | exact lt_1 (dr8 (dr8 (by with_reducible assumption))) | exact lt_2 (dr8 (dr8 (by with_reducible assumption))) | exact lt_3 (dr8 (dr8 (by with_reducible assumption))) | exact lt_4 (dr8 (dr8 (by with_reducible assumption))) | exact lt_5 (dr8 (dr8 (by with_reducible assumption))) | exact lt_6 (dr8 (dr8 (by with_reducible assumption))) | exact lt_7 (dr8 (dr8 (by with_reducible assumption))) | exact lt_0 (dr8 (dr8 (dr8 (by with_reducible assumption)))) | exact lt_1 (dr8 (dr8 (dr8 (by with_reducible assumption)))) | exact lt_2 (dr8 (dr8 (dr8 (by with_reducible assumption)))) | exact lt_3 (dr8 (dr8 (dr8 (by with_reducible assumption)))) | exact lt_4 (dr8 (dr8 (dr8 (by with_reducible assumption)))) | exact lt_5 (dr8 (dr8 (dr8 (by with_reducible assumption)))) | exact lt_6 (dr8 (dr8 (dr8 (by with_reducible assumption)))) | exact lt_7 (dr8 (dr8 (dr8 (by with_reducible assumption)))) | exact lt_0 (dr8 (dr8 (dr8 (dr8 (by with_reducible assumption))))) | exact lt_1 (dr8 (dr8 (dr8 (dr8 (by with_reducible assumption))))) | exact lt_2 (dr8 (dr8 (dr8 (dr8 (by with_reducible assumption))))) | exact lt_3 (dr8 (dr8 (dr8 (dr8 (by with_reducible assumption))))) | exact lt_4 (dr8 (dr8 (dr8 (dr8 (by with_reducible assumption))))) | exact lt_5 (dr8 (dr8 (dr8 (dr8 (by with_reducible assumption))))) | exact lt_6 (dr8 (dr8 (dr8 (dr8 (by with_reducible assumption))))) | exact lt_7 (dr8 (dr8 (dr8 (dr8 (by with_reducible assumption)))))
  k_with "nd" => first | exact nd_0 (by with_reducible assumption) | exact nd_1 (by with_reducible assumption) | exact nd_2 (by with_reducible assumption) | exact nd_3 (by with_reducible assumption) | exact nd_4 (by with_reducible assumption) | exact nd_5 (by with_reducible assumption) | exact nd_6 (by with_reducible assumption) | exact nd_7 (by with_reducible assumption) | exact nd_8 (by with_reducible assumption)
  k_with "ne" => (refine neN ?_; (try dsimp only); first | with_reducible assumption | exact Ne.symm (by with_reducible assumption) | (refine ne_z ?_; k_extra "lt") | (refine ne_s ?_; k_extra "lt") | (refine ne_zz (by with_reducible assumption) ?_; k_extra "lt") | (refine ne_ss (by with_reducible assumption) ?_; k_extra "lt") | k_extra "nd" | (dsimp only [AllLt] at *; omega))
  k_with "call ref" => (k_here; (with_reducible show wpAny _ _ (call (Value.ref 272) [_]) _ _ _); k_dflt (refine' told_c _ _ ob ?zzB ?zzF ?zzX ?zzT ?zzhk ?zzpre ?zzdd ?zzuu ?_; (case zzB => k_asm); (case zzF => k_asm); (case zzX => k_asm); (case zzT => k_asm); (case zzhk => first | exact rfl | assumption); (case zzpre => exact TA.ext hi0 (fun b o e => Fr.keep (by assumption) b o (HE' b o e))); (case zzdd => ktr_room); (case zzuu => ktr_units)); intro v' h' tk' e' p'; (obtain ⟨tl', hT', hf'⟩ := p'); (obtain ⟨t', tt', items', ev', hm'⟩ := told_mem hT'); subst ev'; (have F' := fr_ext (by k_asm) e'); (have N' := news_fresh (by k_asm) (news_ext (by assumption) e') hf'))
  k_with "subscriptTail" => (k_here; (with_reducible show wpAny _ _ (subscriptTail _ _ (Value.ref _) (Value.int 0 _)) _ _ _); k_dflt (refine' PyProof.Rows.item_tupleT (j := 0) (News.isTup N' (List.mem_append_left _ hm')) ?zzq1 ?zzq1b ?zzq2 ?zzq3 ?_ ?zzq4; (case zzq1 => decide); (case zzq1b => decide); (case zzq2 => exact seq_zero _ _); (case zzq3 => rfl); (case zzq4 => with_unfolding_all rfl)))
  k_with "subscriptTail Name Constant ref int" => (k_here; (with_reducible show wpAny _ _ (subscriptTail _ _ (Value.ref _) (Value.int 0 _)) _ _ _); k_dflt (refine' PyProof.Rows.item_tupleT (j := 0) (News.isTup N' (List.mem_append_left _ hm')) ?zzq1 ?zzq1b ?zzq2 ?zzq3 ?_ ?zzq4; (case zzq1 => decide); (case zzq1b => decide); (case zzq2 => exact seq_zero _ _); (case zzq3 => rfl); (case zzq4 => with_unfolding_all rfl)))
  k_with "subscriptTail Call Name cons nil Constant ref int" => (k_here; (with_reducible show wpAny _ _ (subscriptTail _ _ (Value.ref _) (Value.int 0 _)) _ _ _); k_dflt (refine' PyProof.Rows.item_tupleT (j := 0) (News.isTup N' (List.mem_append_left _ hm')) ?zzq1 ?zzq1b ?zzq2 ?zzq3 ?_ ?zzq4; (case zzq1 => decide); (case zzq1b => decide); (case zzq2 => exact seq_zero _ _); (case zzq3 => rfl); (case zzq4 => with_unfolding_all rfl)))
  k_with "getItem ref str" => (k_here; (with_reducible show wpAny _ _ (getItem (Value.ref _) (Value.str _ _)) _ _ _); refine Stop.out ?_)
  unfold PureC
  k_fill
  intro loose mean mg mb dp un gd cn cs a ccd cl outer A₀ base h₀ L m s Q E B F X T hk hpre hd hu hret
  have hi0 := hpre
  clear hpre
  refine wpAny_call ?_
  k_dflt (refine' code_def0 ?k1 ?k2 ?k3 ?k5 ?kA ?kF ?kK ?k6 ?k7 ?k8 ?k9 ?kB ?_ ?c2 ?c3 ?c4 ?c5; (case kA => exact rfl); (case kF => exact rfl); (case kK => first | assumption | exact rfl); (case k1 => k_asm); (case k2 => k_asm); (case k3 => k_asm); (case k5 => k_asm); (case k6 => k_is); (case k7 => k_is); (case k8 => ktr_room); (case k9 => first | exact BindsTo.of_eq rfl | exact binds_K (by k_in) rfl (by k_is) rfl rfl rfl); (case c5 => decide); (case kB => exact locs rfl); (case c2 => exact rfl); (case c3 => exact rfl); (case c4 => exact rfl); k_whole; intro g' L' h' HE' F' N' B' X' T'; (try dsimp only); (try k_fold); (first | (refine e_fold ?_; intro A9 e9) | (refine a_fold ?_; intro A9) | skip))
  k_steps
  unfold Stop
  rename News _ _ _ _ => N9
  refine dict_get N9 (by k_mem) (by assumption) (by with_unfolding_all rfl) ?_
  k_steps
  exact hret _ _ _ (fun b o e => Fr.keep (by assumption) b o (HE' b o e)) (congrArg Value.bool (fitS_a ob))
theorem fits_D (w : World) (v : Value) (ob : Ob) (t0 : Tok) : PureC w 391 20 160 [v, .str (Str.ofString "D") t0] (fun h => TA w (inH h) v ob) (fun _ r => r = .bool (fitS ob (Str.ofString "D"))) := by
  k_with_none
  k_with "lt" => first | with_reducible assumption | exact lt_0 (by with_reducible assumption) | exact lt_1 (by with_reducible assumption) | exact lt_2 (by with_reducible assumption) | exact lt_3 (by with_reducible assumption) | exact lt_4 (by with_reducible assumption) | exact lt_5 (by with_reducible assumption) | exact lt_6 (by with_reducible assumption) | exact lt_7 (by with_reducible assumption) | exact lt_0 (dr8 (by with_reducible assumption)) | exact lt_1 (dr8 (by with_reducible assumption)) | exact lt_2 (dr8 (by with_reducible assumption)) | exact lt_3 (dr8 (by with_reducible assumption)) | exact lt_4 (dr8 (by with_reducible assumption)) | exact lt_5 (dr8 (by with_reducible assumption)) | exact lt_6 (dr8 (by with_reducible assumption)) | exact lt_7 (dr8 (by with_reducible assumption)) | exact lt_0 (dr8 (dr8 (by with_reducible assumption))) | exact lt_1 (dr8 (dr8 (by with_reducible assumption))) | exact lt_2 (dr8 (dr8 (by with_reducible assumption))) | exact lt_3 (dr8 (dr8 (by with_reducible assumption))) | exact lt_4 (dr8 (dr8 (by with_reducible assumption))) | exact lt_5 (dr8 (dr8 (by with_reducible assumption))) | exact lt_6 (dr8 (dr8 (by with_reducible assumption))) | exact lt_7 (dr8 (dr8 (by with_reducible assumption))) | exact lt_0 (dr8 (dr8 (dr8 (by with_reducible assumption)))) | exact lt_1 (dr8 (dr8 (dr8 (by with_reducible assumption)))) | exact lt_2 (dr8 (dr8 (dr8 (by with_reducible assumption)))) | exact lt_3 (dr8 (dr8 (dr8 (by with_reducible assumption)))) | exact lt_4 (dr8 (dr8 (dr8 (by with_reducible assumption)))) | exact lt_5 (dr8 (dr8 (dr8 (by with_reducible assumption)))) | exact lt_6 (dr8 (dr8 (dr8 (by with_reducible assumption)))) | exact lt_7 (dr8 (dr8 (dr8 (by with_reducible assumption)))) | exact lt_0 (dr8 (dr8 (dr8 (dr8 (by with_reducible assumption))))) | exact lt_1 (dr8 (dr8 (dr8 (dr8 (by with_reducible assumption))))) | exact lt_2 (dr8 (dr8 (dr8 (dr8 (by with_reducible assumption))))) | exact lt_3 (dr8 (dr8 (dr8 (dr8 (by with_reducible assumption))))) | exact lt_4 (dr8 (dr8 (dr8 (dr8 (by with_reducible assumption))))) | exact lt_5 (dr8 (dr8 (dr8 (dr8 (by with_reducible assumption))))) | exact lt_6 (dr8 (dr8 (dr8 (dr8 (by with_reducible assumption))))) | exact lt_7 (dr8 (dr8 (dr8 (dr8 (by with_reducible assumption)))))
  k_with "nd" => first | exact nd_0 (by with_reducible assumption) | exact nd_1 (by with_reducible assumption) | exact nd_2 (by with_reducible assumption) | exact nd_3 (by with_reducible assumption) | exact nd_4 (by with_reducible assumption) | exact nd_5 (by with_reducible assumption) | exact nd_6 (by with_reducible assumption) | exact nd_7 (by with_reducible assumption) | exact nd_8 (by with_reducible assumption)
  k_with "ne" => (refine neN ?_; (try dsimp only); first | with_reducible assumption | exact Ne.symm (by with_reducible assumption) | (refine ne_z ?_; k_extra "lt") | (refine ne_s ?_; k_extra "lt") | (refine ne_zz (by with_reducible assumption) ?_; k_extra "lt") | (refine ne_ss (by with_reducible assumption) ?_; k_extra "lt") | k_extra "nd" | (dsimp only [AllLt] at *; omega))
  k_with "call ref" => (k_here; (with_reducible show wpAny _ _ (call (Value.ref 272) [_]) _ _ _); k_dflt (refine' told_c _ _ ob ?zzB ?zzF ?zzX ?zzT ?zzhk ?zzpre ?zzdd ?zzuu ?_; (case zzB => k_asm); (case zzF => k_asm); (case zzX => k_asm); (case zzT => k_asm); (case zzhk => first | exact rfl | assumption); (case zzpre => exact TA.ext hi0 (fun b o e => Fr.keep (by assumption) b o (HE' b o e))); (case zzdd => ktr_room); (case zzuu => ktr_units)); intro v' h' tk' e' p'; (obtain ⟨tl', hT', hf'⟩ := p'); (obtain ⟨t', tt', items', ev', hm'⟩ := told_mem hT'); subst ev'; (have F' := fr_ext (by k_asm) e'); (have N' := news_fresh (by k_asm) (news_ext (by assumption) e') hf'))
  k_with "subscriptTail" => (k_here; (with_reducible show wpAny _ _ (subscriptTail _ _ (Value.ref _) (Value.int 0 _)) _ _ _); k_dflt (refine' PyProof.Rows.item_tupleT (j := 0) (News.isTup N' (List.mem_append_left _ hm')) ?zzq1 ?zzq1b ?zzq2 ?zzq3 ?_ ?zzq4; (case zzq1 => decide); (case zzq1b => decide); (case zzq2 => exact seq_zero _ _); (case zzq3 => rfl); (case zzq4 => with_unfolding_all rfl)))
  k_with "subscriptTail Name Constant ref int" => (k_here; (with_reducible show wpAny _ _ (subscriptTail _ _ (Value.ref _) (Value.int 0 _)) _ _ _); k_dflt (refine' PyProof.Rows.item_tupleT (j := 0) (News.isTup N' (List.mem_append_left _ hm')) ?zzq1 ?zzq1b ?zzq2 ?zzq3 ?_ ?zzq4; (case zzq1 => decide); (case zzq1b => decide); (case zzq2 => exact seq_zero _ _); (case zzq3 => rfl); (case zzq4 => with_unfolding_all rfl)))
  k_with "subscriptTail Call Name cons nil Constant ref int" => (k_here; (with_reducible show wpAny _ _ (subscriptTail _ _ (Value.ref _) (Value.int 0 _)) _ _ _); k_dflt (refine' PyProof.Rows.item_tupleT (j := 0) (News.isTup N' (List.mem_append_left _ hm')) ?zzq1 ?zzq1b ?zzq2 ?zzq3 ?_ ?zzq4; (case zzq1 => decide); (case zzq1b => decide); (case zzq2 => exact seq_zero _ _); (case zzq3 => rfl); (case zzq4 => with_unfolding_all rfl)))
  k_with "getItem ref str" => (k_here; (with_reducible show wpAny _ _ (getItem (Value.ref _) (Value.str _ _)) _ _ _); refine Stop.out ?_)
  unfold PureC
  k_fill
  intro loose mean mg mb dp un gd cn cs a ccd cl outer A₀ base h₀ L m s Q E B F X T hk hpre hd hu hret
  have hi0 := hpre
  clear hpre
  refine wpAny_call ?_
  k_dflt (refine' code_def0 ?k1 ?k2 ?k3 ?k5 ?kA ?kF ?kK ?k6 ?k7 ?k8 ?k9 ?kB ?_ ?c2 ?c3 ?c4 ?c5; (case kA => exact rfl); (case kF => exact rfl); (case kK => first | assumption | exact rfl); (case k1 => k_asm); (case k2 => k_asm); (case k3 => k_asm); (case k5 => k_asm); (case k6 => k_is); (case k7 => k_is); (case k8 => ktr_room); (case k9 => first | exact BindsTo.of_eq rfl | exact binds_K (by k_in) rfl (by k_is) rfl rfl rfl); (case c5 => decide); (case kB => exact locs rfl); (case c2 => exact rfl); (case c3 => exact rfl); (case c4 => exact rfl); k_whole; intro g' L' h' HE' F' N' B' X' T'; (try dsimp only); (try k_fold); (first | (refine e_fold ?_; intro A9 e9) | (refine a_fold ?_; intro A9) | skip))
  k_steps
  unfold Stop
  rename News _ _ _ _ => N9
  refine dict_get N9 (by k_mem) (by assumption) (by with_unfolding_all rfl) ?_
  k_steps
  exact hret _ _ _ (fun b o e => Fr.keep (by assumption) b o (HE' b o e)) (congrArg Value.bool (fitS_D ob))
end

section
set_option maxHeartbeats 4000000
open PySem PySem.W PyProof.Rows PySem.Calls PySem.Spec
open LCg LCt
section
variable {prog : Program} {w : World} {A : Around} {E : Value → Shared → Prop} {s : Shared} {h₀ : Heap} {L : Addr} {m : Str → Option Value} {env : Env}
/-- the source of a comprehension with a test: a tuple of the ledger -/
noncomputable def CompSrcTT (prog : Program) (w : World) (A : Around) (h₀ : Heap) (L : Addr) (m : Str → Option Value) (env : Env) (ct elt : Expr) (x : Str) (scope : Scope) (cl : List (Str × Addr)) (Fin : Shared → List Value → List (Addr × Obj) → Prop) (xv : Value) (s₁ : Shared) : Prop :=
  ∃ ax its news, xv = .ref ax ∧ A.handled = none ∧ Fr h₀ L s₁.heap m ∧ News h₀ L s₁.heap news ∧ (ax, tupOf its) ∈ news ∧ its.length ≤ sizeLine ∧
    ∀ s₂ : Shared, (∃ h, s₂ = { s₁ with heap := h }) → CompRestT prog w A h₀ L m env ct elt x scope cl s₂ (fun nw => (ax, tupOf its) ∈ nw) (fun i v => its[i]? = some v) (Fin s₂) its.length 0 [] news
theorem CompSrcTT.mk {ct elt : Expr} {x : Str} {scope : Scope} {cl : List (Str × Addr)} {Fin : Shared → List Value → List (Addr × Obj) → Prop} {ax : Addr} {its : List Value} {news : List (Addr × Obj)} {s₁ : Shared}
    (hh : A.handled = none) (F : Fr h₀ L s₁.heap m) (N : News h₀ L s₁.heap news) (hm : (ax, tupOf its) ∈ news) (hsz : its.length ≤ sizeLine)
    (h : ∀ g, CompRestT prog w A h₀ L m env ct elt x scope cl { s₁ with heap := g } (fun nw => (ax, tupOf its) ∈ nw) (fun i v => its[i]? = some v) (Fin { s₁ with heap := g }) its.length 0 [] news) :
    CompSrcTT prog w A h₀ L m env ct elt x scope cl Fin (.ref ax) s₁ := ⟨ax, its, news, rfl, hh, F, N, hm, hsz, fun _ ⟨g, e⟩ => e ▸ h g⟩
theorem tup_st {ax I : Addr} {its : List Value} : ∀ i (h h' : Heap) (o : Obj) (nw : List (Addr × Obj)), (h.IsTupleIter I ax i ∧ h.IsTuple ax its.toArray) → h.get? I = some o → h'.get? I = some o → (∀ b o, h₀.get? b = some o → h'.get? b = some o) → News h₀ L h' nw → (ax, tupOf its) ∈ nw → (h'.IsTupleIter I ax i ∧ h'.IsTuple ax its.toArray) :=
  fun i h h' o nw st e e' k N S => ⟨by obtain ⟨o', q, r⟩ := st.1; rw [e] at q; cases q; exact ⟨o, e', r⟩, News.isTup N S⟩
theorem ListComp_TT {ct elt iter : Expr} {x : Str} {px : Pos} {scope : Scope} {cl : List (Str × Addr)} {pos : Pos} {Q : Value → Shared → Prop} (F₀ : Fr h₀ L s.heap m)
    (hclos : closureFor scope env = pure cl) (hcell : ∀ y ∈ scope.names, y.2 ≠ .cell) (hkind : scope.kind = .function)
    (hnames : ∀ y ∈ scope.names, y.2 = .local → scope.names.lookup y.1 = some .local) (hx : scope.names.lookup x = some .local)
    (h : wpAny (model prog w) A (eval iter env) (CompSrcTT prog w A h₀ L m env ct elt x scope cl (fun s₂ => FinE h₀ L m s₂ Q)) E s)
    (hs : ∀ x, foldedSetIterable iter env x = pure x := by intro _; rfl) :
    wpAny (model prog w) A (eval (.ListComp elt [⟨.Name x px, iter, [ct], 0⟩] scope pos) env) Q E s := by
  rw [eval_ListComp]
  refine wpAny_comprehension_free (use := none) rfl hs hclos hkind hnames (wpAny_mono h (fun xv s₁ h₁ => ?_) fun _ _ e => e)
  obtain ⟨ax, its, news, rfl, hh, F, N, S, hsz, R⟩ := h₁
  have hl : s₁.heap.IsTuple ax its.toArray := News.isTup N S
  have hlt : ax < s₁.heap.objs.size := by obtain ⟨_, e, _⟩ := hl; exact Heap.lt_size e
  refine wpAny_pyIter_tuple hl ?_
  have up : ∀ b o, s₁.heap.get? b = some o → (s₁.heap.push { cls := .type "tuple_iterator", data := .fields #[.ref ax, .int 0 0] }).get? b = some o := fun b o e => Heap.get?_push_of_some _ e
  have W := Walks.tuple (prog := prog) (w := w) (A := A) hh s₁.heap.objs.size ax (Nat.ne_of_lt hlt) its.toArray
  rw [List.size_toArray] at W
  refine block_T (P := fun i v => its[i]? = some v) (by simpa using W) hsz (fun i h st => by obtain ⟨o, e, _⟩ := st.1; exact ⟨o, e⟩) tup_st hcell hkind hx ⟨⟨_, Heap.get?_push_size _ rfl, rfl, rfl⟩, hl.push _⟩ (fun b hb => ?_)
    (F.keeps up) (N.grown up) (Nat.ne_of_lt F.ns.lt) (next_is_new F) (fun p hp => Nat.ne_of_lt (Heap.lt_size (N p hp).1)) S (R _ ⟨_, rfl⟩) ?_
  · show b < (s₁.heap.push _).objs.size
    rw [Heap.size_push]
    rcases List.mem_cons.mp hb with rfl | hb
    · exact Nat.lt_succ_self _
    · rw [List.mem_singleton.mp hb]; exact Nat.lt_succ_of_lt hlt
  · intro D C h tk m' ys news' F' N' o1 hn hC₀ hD₀ hCL hDL hCD offC fin
    refine ⟨m', hn, fun h'' hs'' => fin D h'' tk (F'.change hs'' hCL hC₀) (fun p hp => ?_) o1⟩
    refine ⟨hs''.extBut _ _ ?_ (N' p hp).1, (N' p hp).2⟩
    rcases List.mem_cons.mp hp with rfl | hp
    · exact Ne.symm hCD
    · exact offC p hp
end
end

section
set_option maxHeartbeats 4000000
open PySem PySem.W PyProof.Rows PySem.Calls PySem.Spec
noncomputable def pT (k : Kd) : Bool := k == .int || k == .real || k == .string
theorem pT_any (k : Kd) : ([Str.ofString "int", Str.ofString "real", Str.ofString "string"].any fun x => x == k.text) = pT k := by cases k <;> decide +kernel
noncomputable def FitJ (nw0 : List (Addr × Obj)) (its : List Kd) (i : Nat) (ys : List Value) (nw : List (Addr × Obj)) : Prop := nw = nw0 ∧ ys.isEmpty = (its.take i).all pT
section
open LCg LCt
variable {prog : Program} {w : World} {A : Around} {h₀ : Heap} {L : Addr} {m : Str → Option Value} {env : Env} {s : Shared}
theorem fit_ind {ct elt : Expr} {x : Str} {scope : Scope} {cl : List (Str × Addr)} {S : List (Addr × Obj) → Prop} {P : Nat → Value → Prop} {Fin : List Value → List (Addr × Obj) → Prop} {n : Nat} {news : List (Addr × Obj)} (its : List Kd)
    (fin : ∀ ys, ys.isEmpty = (its.take n).all pT → Fin ys news)
    (turn : ∀ i ys, i < n → ys.isEmpty = (its.take i).all pT → ∀ v I oI C oC D m₂ h tk (E' : Value → Shared → Prop), P i v → NsObj oC m₂ → m₂ x = some v → Fr h₀ L h m → News h₀ L h ((I, oI) :: (C, oC) :: (D, lst ys) :: news) → Off3 I C D news → ((@Ne Nat I C) ∧ (@Ne Nat I D) ∧ (@Ne Nat C D)) →
      wpAny (model prog w) A (isTrue ct (compEnvC scope cl C env) (eval ct (compEnvC scope cl C env))) (fun ok s' => if ok = true then
        wpAny (model prog w) A (eval elt (compEnvC scope cl C env)) (CompEnd h₀ L m { s with heap := h, toks := tk } I oI C oC D (lst ys) S (fun y nw' => FitJ news its (i + 1) (ys ++ [y]) nw')) E' s'
        else CompEnd h₀ L m { s with heap := h, toks := tk } I oI C oC D (lst ys) S (fun _ nw' => FitJ news its (i + 1) ys nw') Value.none s') E' { s with heap := h, toks := tk }) :
    CompRestT prog w A h₀ L m env ct elt x scope cl s S P Fin n 0 [] news :=
  rest_indT (FitJ news its) ⟨rfl, rfl⟩ (fun ys nw ⟨a, b⟩ => a ▸ fin ys b) (fun i ys nw hi ⟨a, b⟩ => by subst a; exact turn i ys hi b)
end
theorem fit_yes {h₀ h' : Heap} {L I C D : Addr} {oI oC : Obj} {m : Str → Option Value} {s : Shared} {nw all : List (Addr × Obj)} {ys : List Value} {its : List Kd} {k : Kd} {v : Value} {i tk' : Nat} {S : List (Addr × Obj) → Prop}
    (F : Fr h₀ L h' m) (N : News h₀ L h' all) (sub : ∀ q ∈ (I, oI) :: (C, oC) :: (D, LCg.lst ys) :: nw, q ∈ all) (off : LCg.Off3 I C D nw) (hS : S nw) (hJ : ys.isEmpty = (its.take i).all pT) (hk : its[i]? = some k) (hp : pT k = true) :
    LCg.CompEnd h₀ L m s I oI C oC D (LCg.lst ys) S (fun _ nw' => FitJ nw its (i + 1) ys nw') v { s with heap := h', toks := tk' } :=
  LCg.CompEnd.intro F N nw sub off hS ⟨rfl, by rw [List.take_add_one, hk, hJ]; simp [hp]⟩
theorem fit_no {h₀ h' : Heap} {L I C D : Addr} {oI oC : Obj} {m : Str → Option Value} {s : Shared} {nw all : List (Addr × Obj)} {ys : List Value} {its : List Kd} {k : Kd} {v : Value} {i tk' : Nat} {S : List (Addr × Obj) → Prop}
    (F : Fr h₀ L h' m) (N : News h₀ L h' all) (sub : ∀ q ∈ (I, oI) :: (C, oC) :: (D, LCg.lst ys) :: nw, q ∈ all) (off : LCg.Off3 I C D nw) (hS : S nw) (hk : its[i]? = some k) (hp : pT k = false) :
    LCg.CompEnd h₀ L m s I oI C oC D (LCg.lst ys) S (fun y nw' => FitJ nw its (i + 1) (ys ++ [y]) nw') v { s with heap := h', toks := tk' } :=
  LCg.CompEnd.intro F N nw sub off hS ⟨rfl, by rw [List.take_add_one, hk]; simp [hp]⟩
theorem fitS_tA {its : List Kd} {n : Nat} (h : its.length ≤ n) : (its.take n).all pT = fitS ⟨.array, its⟩ (Str.ofString "t") := by
  rw [← fitS_t, List.take_of_length_le h]
  rfl
end

section
set_option maxHeartbeats 40000000
open PySem PySem.W PyProof.Rows PySem.Calls PySem.Spec
theorem fitS_tO {ob : Ob} (h : (ob.k.text == Str.ofString "array") = false) : false = fitS ob (Str.ofString "t") := by
  rw [← fitS_t]
  have : (ob.k == .array) = false := by
    cases e : ob.k == .array with
    | false => rfl
    | true => rw [eq_of_beq e] at h; exact absurd h (by decide +kernel)
  rw [this]; rfl
theorem fits_tO (w : World) (v : Value) (ob : Ob) (t0 : Tok) (hn9 : (ob.k.text == Str.ofString "array") = false) : PureC w 391 20 160 [v, .str (Str.ofString "t") t0] (fun h => TA w (inH h) v ob) (fun _ r => r = .bool (fitS ob (Str.ofString "t"))) := by
  k_with_none
  k_with "lt" => first | with_reducible assumption | exact lt_0 (by with_reducible assumption) | exact lt_1 (by with_reducible assumption) | exact lt_2 (by with_reducible assumption) | exact lt_3 (by with_reducible assumption) | exact lt_4 (by with_reducible assumption) | exact lt_5 (by with_reducible assumption) | exact lt_6 (by with_reducible assumption) | exact lt_7 (by with_reducible assumption) | exact lt_0 (dr8 (by with_reducible assumption)) | exact lt_1 (dr8 (by with_reducible assumption)) | exact lt_2 (dr8 (by with_reducible assumption)) | exact lt_3 (dr8 (by with_reducible assumption)) | exact lt_4 (dr8 (by with_reducible assumption)) | exact lt_5 (dr8 (by with_reducible assumption)) | exact lt_6 (dr8 (by with_reducible assumption)) | exact lt_7 (dr8 (by with_reducible assumption)) | exact lt_0 (dr8 (dr8 (by with_reducible assumption))) | exact lt_1 (dr8 (dr8 (by with_reducible assumption))) | exact lt_2 (dr8 (dr8 (by with_reducible assumption))) | exact lt_3 (dr8 (dr8 (by with_reducible assumption))) | exact lt_4 (dr8 (dr8 (by with_reducible assumption))) | exact lt_5 (dr8 (dr8 (by with_reducible assumption))) | exact lt_6 (dr8 (dr8 (by with_reducible assumption))) | exact lt_7 (dr8 (dr8 (by with_reducible assumption))) | exact lt_0 (dr8 (dr8 (dr8 (by with_reducible assumption)))) | exact lt_1 (dr8 (dr8 (dr8 (by with_reducible assumption)))) | exact lt_2 (dr8 (dr8 (dr8 (by with_reducible assumption)))) | exact lt_3 (dr8 (dr8 (dr8 (by with_reducible assumption)))) | exact lt_4 (dr8 (dr8 (dr8 (by with_reducible assumption)))) | exact lt_5 (dr8 (dr8 (dr8 (by with_reducible assumption)))) | exact lt_6 (dr8 (dr8 (dr8 (by with_reducible assumption)))) | exact lt_7 (dr8 (dr8 (dr8 (by with_reducible assumption)))) | exact lt_0 (dr8 (dr8 (dr8 (dr8 (by with_reducible assumption))))) | exact lt_1 (dr8 (dr8 (dr8 (dr8 (by with_reducible assumption))))) | exact lt_2 (dr8 (dr8 (dr8 (dr8 (by with_reducible assumption))))) | exact lt_3 (dr8 (dr8 (dr8 (dr8 (by with_reducible assumption))))) | exact lt_4 (dr8 (dr8 (dr8 (dr8 (by with_reducible assumption))))) | exact lt_5 (dr8 (dr8 (dr8 (dr8 (by with_reducible assumption))))) | exact lt_6 (dr8 (dr8 (dr8 (dr8 (by with_reducible assumption))))) | exact lt_7 (dr8 (dr8 (dr8 (dr8 (by with_reducible assumption)))))
  k_with "nd" => first | exact nd_0 (by with_reducible assumption) | exact nd_1 (by with_reducible assumption) | exact nd_2 (by with_reducible assumption) | exact nd_3 (by with_reducible assumption) | exact nd_4 (by with_reducible assumption) | exact nd_5 (by with_reducible assumption) | exact nd_6 (by with_reducible assumption) | exact nd_7 (by with_reducible assumption) | exact nd_8 (by with_reducible assumption)
  k_with "ne" => (refine neN ?_; (try dsimp only); first | with_reducible assumption | exact Ne.symm (by with_reducible assumption) | (refine ne_z ?_; k_extra "lt") | (refine ne_s ?_; k_extra "lt") | (refine ne_zz (by with_reducible assumption) ?_; k_extra "lt") | (refine ne_ss (by with_reducible assumption) ?_; k_extra "lt") | k_extra "nd" | (dsimp only [AllLt] at *; omega))
  k_with "call ref" => (k_here; (with_reducible show wpAny _ _ (call (Value.ref 272) [_]) _ _ _); k_dflt (refine' told_c _ _ ob ?zzB ?zzF ?zzX ?zzT ?zzhk ?zzpre ?zzdd ?zzuu ?_; (case zzB => k_asm); (case zzF => k_asm); (case zzX => k_asm); (case zzT => k_asm); (case zzhk => first | exact rfl | assumption); (case zzpre => exact TA.ext hi0 (fun b o e => Fr.keep (by assumption) b o (HE' b o e))); (case zzdd => ktr_room); (case zzuu => ktr_units)); intro v' h' tk' e' p'; (obtain ⟨tl', ⟨t', tt', items', ev', hm', ha'⟩, hf'⟩ := p'); subst ev'; (have F' := fr_ext (by k_asm) e'); (have N' := news_fresh (by k_asm) (news_ext (by assumption) e') hf'))
  k_with "subscriptTail" => (k_here; (with_reducible show wpAny _ _ (subscriptTail _ _ (Value.ref _) (Value.int 0 _)) _ _ _); k_dflt (refine' PyProof.Rows.item_tupleT (j := 0) (News.isTup N' (List.mem_append_left _ hm')) ?zzq1 ?zzq1b ?zzq2 ?zzq3 ?_ ?zzq4; (case zzq1 => decide); (case zzq1b => decide); (case zzq2 => exact seq_zero _ _); (case zzq3 => rfl); (case zzq4 => with_unfolding_all rfl)))
  k_with "compareOp Eq str str" => (k_here; (with_reducible show wpAny _ _ (compareOp _ (Value.str (Kd.text _) _) _) _ _ _); refine PyProof.Rows.eq_str ?_; rw [hn9])
  unfold PureC
  k_fill
  intro loose mean mg mb dp un gd cn cs a ccd cl outer A₀ base h₀ L m s Q E B F X T hk hpre hd hu hret
  have hi0 := hpre
  clear hpre
  refine wpAny_call ?_
  k_dflt (refine' code_def0 ?k1 ?k2 ?k3 ?k5 ?kA ?kF ?kK ?k6 ?k7 ?k8 ?k9 ?kB ?_ ?c2 ?c3 ?c4 ?c5; (case kA => exact rfl); (case kF => exact rfl); (case kK => first | assumption | exact rfl); (case k1 => k_asm); (case k2 => k_asm); (case k3 => k_asm); (case k5 => k_asm); (case k6 => k_is); (case k7 => k_is); (case k8 => ktr_room); (case k9 => first | exact BindsTo.of_eq rfl | exact binds_K (by k_in) rfl (by k_is) rfl rfl rfl); (case c5 => decide); (case kB => exact locs rfl); (case c2 => exact rfl); (case c3 => exact rfl); (case c4 => exact rfl); k_whole; intro g' L' h' HE' F' N' B' X' T'; (try dsimp only); (try k_fold); skip)
  k_steps
  exact hret _ _ _ (fun b o e => Fr.keep (by assumption) b o (HE' b o e)) (congrArg Value.bool (fitS_tO hn9))

theorem fits_tA (w : World) (v : Value) (its : List Kd) (t0 : Tok) : PureC w 391 20 160 [v, .str (Str.ofString "t") t0] (fun h => TA w (inH h) v ⟨.array, its⟩) (fun _ r => r = .bool (fitS ⟨.array, its⟩ (Str.ofString "t"))) := by
  k_with_none
  k_with "lt" => first | with_reducible assumption | exact lt_0 (by with_reducible assumption) | exact lt_1 (by with_reducible assumption) | exact lt_2 (by with_reducible assumption) | exact lt_3 (by with_reducible assumption) | exact lt_4 (by with_reducible assumption) | exact lt_5 (by with_reducible assumption) | exact lt_6 (by with_reducible assumption) | exact lt_7 (by with_reducible assumption) | exact lt_0 (dr8 (by with_reducible assumption)) | exact lt_1 (dr8 (by with_reducible assumption)) | exact lt_2 (dr8 (by with_reducible assumption)) | exact lt_3 (dr8 (by with_reducible assumption)) | exact lt_4 (dr8 (by with_reducible assumption)) | exact lt_5 (dr8 (by with_reducible assumption)) | exact lt_6 (dr8 (by with_reducible assumption)) | exact lt_7 (dr8 (by with_reducible assumption)) | exact lt_0 (dr8 (dr8 (by with_reducible assumption))) | exact lt_1 (dr8 (dr8 (by with_reducible assumption))) | exact lt_2 (dr8 (dr8 (by with_reducible assumption))) | exact lt_3 (dr8 (dr8 (by with_reducible assumption))) | exact lt_4 (dr8 (dr8 (by with_reducible assumption))) | exact lt_5 (dr8 (dr8 (by with_reducible assumption))) | exact lt_6 (dr8 (dr8 (by with_reducible assumption))) | exact lt_7 (dr8 (dr8 (by with_reducible assumption))) | exact lt_0 (dr8 (dr8 (dr8 (by with_reducible assumption)))) | exact lt_1 (dr8 (dr8 (dr8 (by with_reducible assumption)))) | exact lt_2 (dr8 (dr8 (dr8 (by with_reducible assumption)))) | exact lt_3 (dr8 (dr8 (dr8 (by with_reducible assumption)))) | exact lt_4 (dr8 (dr8 (dr8 (by with_reducible assumption)))) | exact lt_5 (dr8 (dr8 (dr8 (by with_reducible assumption)))) | exact lt_6 (dr8 (dr8 (dr8 (by with_reducible assumption)))) | exact lt_7 (dr8 (dr8 (dr8 (by with_reducible assumption)))) | exact lt_0 (dr8 (dr8 (dr8 (dr8 (by with_reducible assumption))))) | exact lt_1 (dr8 (dr8 (dr8 (dr8 (by with_reducible assumption))))) | exact lt_2 (dr8 (dr8 (dr8 (dr8 (by with_reducible assumption))))) | exact lt_3 (dr8 (dr8 (dr8 (dr8 (by with_reducible assumption))))) | exact lt_4 (dr8 (dr8 (dr8 (dr8 (by with_reducible assumption))))) | exact lt_5 (dr8 (dr8 (dr8 (dr8 (by with_reducible assumption))))) | exact lt_6 (dr8 (dr8 (dr8 (dr8 (by with_reducible assumption))))) | exact lt_7 (dr8 (dr8 (dr8 (dr8 (by with_reducible assumption)))))
  k_with "nd" => first | exact nd_0 (by with_reducible assumption) | exact nd_1 (by with_reducible assumption) | exact nd_2 (by with_reducible assumption) | exact nd_3 (by with_reducible assumption) | exact nd_4 (by with_reducible assumption) | exact nd_5 (by with_reducible assumption) | exact nd_6 (by with_reducible assumption) | exact nd_7 (by with_reducible assumption) | exact nd_8 (by with_reducible assumption)
  k_with "ne" => (refine neN ?_; (try dsimp only); first | with_reducible assumption | exact Ne.symm (by with_reducible assumption) | (refine ne_z ?_; k_extra "lt") | (refine ne_s ?_; k_extra "lt") | (refine ne_zz (by with_reducible assumption) ?_; k_extra "lt") | (refine ne_ss (by with_reducible assumption) ?_; k_extra "lt") | k_extra "nd" | (dsimp only [AllLt] at *; omega))
  k_with "call ref" => (k_here; (with_reducible show wpAny _ _ (call (Value.ref 272) [_]) _ _ _); k_dflt (refine' told_c _ _ ob ?zzB ?zzF ?zzX ?zzT ?zzhk ?zzpre ?zzdd ?zzuu ?_; (case zzB => k_asm); (case zzF => k_asm); (case zzX => k_asm); (case zzT => k_asm); (case zzhk => first | exact rfl | assumption); (case zzpre => exact TA.ext hi0 (fun b o e => Fr.keep (by assumption) b o (HE' b o e))); (case zzdd => ktr_room); (case zzuu => ktr_units)); intro v' h' tk' e' p'; (obtain ⟨tl', ⟨t', tt', items', ev', hm', ha'⟩, hf'⟩ := p'); subst ev'; (have F' := fr_ext (by k_asm) e'); (have N' := news_fresh (by k_asm) (news_ext (by assumption) e') hf'))
  k_with "subscriptTail" => (k_here; (with_reducible show wpAny _ _ (subscriptTail _ _ (Value.ref _) (Value.int 0 _)) _ _ _); k_dflt (refine' PyProof.Rows.item_tupleT (j := 0) (News.isTup N' (List.mem_append_left _ hm')) ?zzq1 ?zzq1b ?zzq2 ?zzq3 ?_ ?zzq4; (case zzq1 => decide); (case zzq1b => decide); (case zzq2 => exact seq_zero _ _); (case zzq3 => rfl); (case zzq4 => with_unfolding_all rfl)))
  k_with "compareOp Eq str str" => (k_here; (with_reducible show wpAny _ _ (compareOp _ (Value.str (Kd.text _) _) _) _ _ _); refine PyProof.Rows.eq_str ?_; rw [hn9])
  k_with "call ref" => (k_here; (with_reducible show wpAny _ _ (call (Value.ref 272) [_]) _ _ _); k_dflt (refine' told_c _ _ ⟨.array, its⟩ ?zzB ?zzF ?zzX ?zzT ?zzhk ?zzpre ?zzdd ?zzuu ?_; (case zzB => k_asm); (case zzF => k_asm); (case zzX => k_asm); (case zzT => k_asm); (case zzhk => first | exact rfl | assumption); (case zzpre => exact TA.ext hi0 (fun b o e => Fr.keep (by assumption) b o (HE' b o e))); (case zzdd => ktr_room); (case zzuu => ktr_units)); intro v' h' tk' e' p'; (obtain ⟨tl', ⟨t', tt', items', ev', hm', ha'⟩, hf'⟩ := p'); subst ev'; (have F' := fr_ext (by k_asm) e'); (have N' := news_fresh (by k_asm) (news_ext (by assumption) e') hf'))
  k_with "subscriptTail" => (k_here; (with_reducible show wpAny _ _ (subscriptTail _ _ (Value.ref _) (Value.int 0 _)) _ _ _); k_dflt (refine' PyProof.Rows.item_tupleT (j := 0) (News.isTup N' (List.mem_append_left _ hm')) ?zzq1 ?zzq1b ?zzq2 ?zzq3 ?_ ?zzq4; (case zzq1 => decide); (case zzq1b => decide); (case zzq2 => exact seq_zero _ _); (case zzq3 => rfl); (case zzq4 => with_unfolding_all rfl)))
  k_with "subscriptTail Name Slice ref ref" => (k_here; (with_reducible show wpAny _ _ (subscriptTail _ (PySem.Expr.Slice _ _ none _) (Value.ref _) (Value.ref _)) _ _ _); k_dflt (refine' PyProof.Rows.slice_tuple_from (a := 1) ?zzF ?zzN ?zzt ?zzb ?zzc ?_ ?zzs ?zzg ?zzz; (case zzF => k_asm); (case zzN => k_asm); (case zzt => exact News.isTup N' (List.mem_append_left _ hm')); (case zzb => exact Nat.le_refl 1); (case zzc => (rw [List.size_toArray]; exact Nat.succ_le_succ (Nat.zero_le _))); (case zzs => with_unfolding_all rfl); (case zzg => (intro _; with_unfolding_all rfl)); (case zzz => (have h20 := (ha' rfl).1; rw [sizeLine_eq, List.size_toArray, List.length_cons]; omega))); intro h' F' N')
  k_with "eval ListComp" => (k_here; k_dflt (refine ListComp_TT (F₀ := by k_asm) (by with_unfolding_all rfl) (by decide) (by rfl) (by decide) (by rfl) ?_))
  k_with "CompSrcTT" => (refine Stop.out ?_)
  k_with "CompEnd" => (refine Stop.out ?_)
  k_with "subscriptTail Name Constant ref int" => (k_here; (with_reducible show wpAny _ _ (subscriptTail _ _ (Value.ref t9) (Value.int 0 _)) _ _ _); k_dflt (refine' PyProof.Rows.item_tupleT (j := 0) hU9 ?zzq1 ?zzq1b ?zzq2 ?zzq3 ?_ ?zzq4; (case zzq1 => decide); (case zzq1b => decide); (case zzq2 => exact seq_zero _ _); (case zzq3 => rfl); (case zzq4 => with_unfolding_all rfl)))
  k_with "subscriptTail" => (k_here; (with_reducible show wpAny _ _ (subscriptTail _ _ (Value.ref t9) (Value.int 0 _)) _ _ _); k_dflt (refine' PyProof.Rows.item_tupleT (j := 0) hU9 ?zzq1 ?zzq1b ?zzq2 ?zzq3 ?_ ?zzq4; (case zzq1 => decide); (case zzq1b => decide); (case zzq2 => exact seq_zero _ _); (case zzq3 => rfl); (case zzq4 => with_unfolding_all rfl)))
  k_with "compareOp NotEq ref ref" => (k_here; (with_reducible show wpAny _ _ (compareOp CmpOp.NotEq (Value.ref _) (Value.ref _)) _ _ _); k_dflt (refine' lst_ne_nil ?zzl ?zzb ?zzu ?_; (case zzb => exact ⟨_, (News.get (by k_asm) (by k_mem)), rfl, _, rfl⟩); (case zzl => is_list); (case zzu => ktr_units); k_whole))
  k_with "compareOp Eq ref ref" => (k_here; (with_reducible show wpAny _ _ (compareOp CmpOp.Eq (Value.ref _) (Value.ref _)) _ _ _); k_dflt (refine' lst_eq_nil ?zzl ?zzb ?zzu ?_; (case zzb => exact ⟨_, (News.get (by k_asm) (by k_mem)), rfl, _, rfl⟩); (case zzl => is_list); (case zzu => ktr_units); k_whole))
  k_with "subscriptTail Name UnaryOp ref int" => (k_here; (with_reducible show wpAny _ _ (subscriptTail _ _ (Value.ref _) (Value.int _ _)) _ _ _); (with_unfolding_all refine' item_last ?zzk1 ?zzk2 ?zzk3 ?_ ?zzk6; (case zzk1 => is_list); (case zzk2 => assumption); (case zzk3 => first | assumption | omega); (case zzk6 => with_unfolding_all rfl); k_whole))
  k_with "subscriptTail Name Slice ref ref" => (k_here; (with_reducible show wpAny _ _ (subscriptTail _ (PySem.Expr.Slice _ _ none _) (Value.ref _) (Value.ref _)) _ _ _); k_dflt (refine' kms_slice_lit ?zzF ?zzN ?zzl ?zzp ?zzq ?zze ?_ ?zzs ?zzt ?zzz; (case zzF => k_asm); (case zzN => k_asm); (case zzl => is_list); (case zzp => kmk_part); (case zzq => kmk_part); (case zze => exact pick_init _); (case zzs => with_unfolding_all rfl); (case zzt => kmk_pure); (case zzz => (simp only [List.size_toArray, sizeLine_eq]; omega))); intro D' h' F' N' l1; (try k_lt l1); (try k_sweep))
  unfold PureC
  k_fill
  intro loose mean mg mb dp un gd cn cs a ccd cl outer A₀ base h₀ L m s Q E B F X T hk hpre hd hu hret
  have hi0 := hpre
  clear hpre
  refine wpAny_call ?_
  k_dflt (refine' code_def0 ?k1 ?k2 ?k3 ?k5 ?kA ?kF ?kK ?k6 ?k7 ?k8 ?k9 ?kB ?_ ?c2 ?c3 ?c4 ?c5; (case kA => exact rfl); (case kF => exact rfl); (case kK => first | assumption | exact rfl); (case k1 => k_asm); (case k2 => k_asm); (case k3 => k_asm); (case k5 => k_asm); (case k6 => k_is); (case k7 => k_is); (case k8 => ktr_room); (case k9 => first | exact BindsTo.of_eq rfl | exact binds_K (by k_in) rfl (by k_is) rfl rfl rfl); (case c5 => decide); (case kB => exact locs rfl); (case c2 => exact rfl); (case c3 => exact rfl); (case c4 => exact rfl); k_whole; intro g' L' h' HE' F' N' B' X' T'; (try dsimp only); (try k_fold); skip)
  k_steps
  · unfold Stop
    rename Fr _ _ _ _ => F9
    rename News _ _ _ _ => N9
    obtain ⟨h20, hTs⟩ := ha' rfl
    have hl20 := hTs.length
    refine CompSrcTT.mk (its := items') rfl F9 N9 (List.mem_cons_self ..) (by rw [sizeLine_eq]; omega) ?_
    intro g9
    refine' fit_ind its ?fin ?turn
    case turn =>
      intro i8 ys8 hi8 hJ8 v8 I9 oI9 C9 oC9 D9 m8 h8 tk8 E8 hv8 hC8 hx8 F8 N7 off8 ne8
      obtain ⟨k9, hk9, hT9⟩ := hTs.at hv8
      cases hT9 with
      | @mk t9 _ tk9 items9 hg9 =>
        have hU9 := News.isTup N7 (List.mem_cons_of_mem _ (List.mem_cons_of_mem _ (List.mem_cons_of_mem _ (List.mem_cons_of_mem _ (List.mem_append_left _ hg9)))))
        k_steps
        · unfold Stop
          rename News _ _ _ _ => N5
          exact fit_yes (by assumption) N5 (fun _ h => List.mem_cons_of_mem _ h) off8 (List.mem_cons_self ..) hJ8 hk9 (by rw [← pT_any]; assumption)
        · unfold Stop
          rename News _ _ _ _ => N5
          exact fit_no (by assumption) N5 (fun _ h => List.mem_cons_of_mem _ h) off8 (List.mem_cons_self ..) hk9 (by rw [← pT_any]; assumption)
    case fin =>
      intro ys8 hJ8
      intro D8 h8 tk8 F8 N8 o8
      k_steps
      exact hret _ _ _ (fun b o e => Fr.keep (by assumption) b o (HE' b o e)) (congrArg Value.bool (hJ8.trans (fitS_tA (Nat.le_of_eq hl20.symm))))
  · rename (_ == _) = false => hx9
    exact absurd hx9 (show ¬ (Kd.array.text == Str.ofString "array") = false by decide +kernel)
end

section
set_option maxHeartbeats 40000000
open PySem PySem.W PyProof.Rows PySem.Calls PySem.Spec
noncomputable def litSigns : List Str := [Str.ofString "n", Str.ofString "N", Str.ofString "s", Str.ofString "a", Str.ofString "D", Str.ofString "P", Str.ofString "t"]
theorem fits_t (w : World) (v : Value) (ob : Ob) (t0 : Tok) : PureC w 391 20 160 [v, .str (Str.ofString "t") t0] (fun h => TA w (inH h) v ob) (fun _ r => r = .bool (fitS ob (Str.ofString "t"))) := by
  obtain ⟨k, its⟩ := ob
  cases e : (k.text == Str.ofString "array") with
  | false => exact fits_tO w v _ t0 e
  | true =>
    have : k = .array := by
      clear its
      revert e
      cases k <;> decide +kernel
    subst this
    exact @fits_tA w v its t0
/-- _law_fits on the signs of the rows -/
theorem lawfits_c (w : World) (v : Value) (ob : Ob) (sign : Str) (t0 : Tok) (hs : sign ∈ litSigns) : PureC w 391 20 160 [v, .str sign t0] (fun h => TA w (inH h) v ob) (fun _ r => r = .bool (fitS ob sign)) := by
  unfold litSigns at hs
  simp only [List.mem_cons, List.not_mem_nil, or_false] at hs
  rcases hs with rfl | rfl | rfl | rfl | rfl | rfl | rfl
  · exact @fits_n w v ob t0
  · exact @fits_N w v ob t0
  · exact @fits_s w v ob t0
  · exact @fits_a w v ob t0
  · exact @fits_D w v ob t0
  · exact @fits_P w v ob t0
  · exact @fits_t w v ob t0
end

section
set_option maxHeartbeats 4000000
open PySem PySem.W PyProof.Rows PySem.Calls PySem.Spec
/-- the law's own word on the operands: do they fit the signs -/
noncomputable def lawRight (sg : Str) (obs : List Ob) : Bool :=
  if sg = Str.ofString "+" then !obs.isEmpty && obs.all fun ob => fitS ob (Str.ofString "n")
  else if sg = Str.ofString "*" then !obs.isEmpty && (if (obs.getLast?.map fun ob => fitS ob (Str.ofString "N")) = some true then obs.dropLast else obs).all fun ob => fitS ob (Str.ofString "n")
  else obs.length == sg.cps.size && (List.range sg.cps.size).all fun i => match obs[i]?, sg.cps[i]? with
    | some ob, some c => fitS ob ⟨#[c]⟩
    | _, _ => false
theorem law_item {kvs : List (Str × Value)} (x : SgK kvs lawTab) {word sg : Str} (h : lawGet word = some sg) : ∃ t, valueAt kvs word = some (.str sg t) := by
  rcases x.get word with ⟨_, b⟩ | ⟨sg', t, a, b⟩
  · unfold lawGet at h; rw [b] at h; cases h
  · unfold lawGet at h; rw [b] at h; cases h; exact ⟨t, a⟩
theorem dict_temp {w : World} {A : Around} {E : Value → Shared → Prop} {s : Shared} {h₀ : Heap} {L d : Addr} {news : List (Addr × Obj)} {o : Obj} {kvs : List (Str × Value)} {k : Str} {t : Tok} {v : Value} {value slice : PySem.Expr} {Q : Value → Shared → Prop} (N : News h₀ L s.heap news) (hp : (d, o) ∈ news) (hd : o.IsDictOf (kndW w) kvs) (hl : valueAt kvs k = some v) (h : Q v { s with toks := s.toks + 1 })
    (hs : subscripted slice false (.ref d) (.str k t) = operate [.ref d, .str k t] (getItem (.ref d) (.str k t)) := by with_unfolding_all rfl) :
    wpAny (model PySem.Challenge.rw_nn0217_01.row.prog w) A (subscriptTail value slice (.ref d) (.str k t)) Q E s :=
  have hD := kda_dict N hp hd
  PyProof.Rows.tail_any hD.typeIs slot_dict_getitem.lookup (wpAny_getItem_of (strKind_is _ _ _ _) hD.mapOf hl h) hs
end

section
set_option maxHeartbeats 4000000
open PySem PySem.W PyProof.Rows PySem.Calls PySem.Spec
noncomputable def boolsF (obs : List Ob) : List Value := obs.map fun ob => .bool (fitS ob (Str.ofString "n"))
noncomputable def NumJ (nw0 : List (Addr × Obj)) (obs : List Ob) (i : Nat) (ys : List Value) (nw : List (Addr × Obj)) : Prop := nw = nw0 ∧ ys = boolsF (obs.take i)
theorem num_end {h₀ h' : Heap} {L I C D : Addr} {oI oC : Obj} {m : Str → Option Value} {s : Shared} {nw all : List (Addr × Obj)} {ys : List Value} {obs : List Ob} {ob : Ob} {i tk' : Nat} {S : List (Addr × Obj) → Prop}
    (F : Fr h₀ L h' m) (N : News h₀ L h' all) (sub : ∀ q ∈ (I, oI) :: (C, oC) :: (D, LCg.lst ys) :: nw, q ∈ all) (off : LCg.Off3 I C D nw) (hS : S nw) (hJ : ys = boolsF (obs.take i)) (hk : obs[i]? = some ob) :
    LCg.CompEnd h₀ L m s I oI C oC D (LCg.lst ys) S (fun y nw' => NumJ nw obs (i + 1) (ys ++ [y]) nw') (.bool (fitS ob (Str.ofString "n"))) { s with heap := h', toks := tk' } :=
  LCg.CompEnd.intro F N nw sub off hS ⟨rfl, by rw [List.take_add_one, hk, hJ]; simp [boolsF]⟩
section
variable {prog : Program} {w : World} {A : Around} {E : Value → Shared → Prop} {s : Shared} {l : Addr} {Q : Value → Shared → Prop}
theorem notin_false {obs : List Ob} {t : Bool} (ht : t = false) (hl : s.heap.IsList l (boolsF obs).toArray) (h : Q (.bool (obs.all fun ob => fitS ob (Str.ofString "n"))) s) : wpAny (model prog w) A (compareOp .NotIn (.bool t) (.ref l)) Q E s := by
  subst ht
  refine SeqAt.notIn_listAt (fun y => match y with | .bool b => !b | _ => false) hl (fun y hy => ?_) ?_
  · have hy' : y ∈ boolsF obs := by simpa using hy
    obtain ⟨ob, _, rfl⟩ := List.mem_map.mp hy'
    have e : (!(fitS ob (Str.ofString "n"))) = (fitS ob (Str.ofString "n") == false) := by cases fitS ob (Str.ofString "n") <;> rfl
    have := SeqAt.EqAt.bool_bool (A := A.in1) (s := s) (fitS ob (Str.ofString "n")) false
    show SeqAt.EqAt _ _ _ _ (!(fitS ob (Str.ofString "n")))
    rw [e]
    simpa using this
  · have e : (!((boolsF obs).toArray.any fun y => match y with | .bool b => !b | _ => false)) = obs.all fun ob => fitS ob (Str.ofString "n") := by
      simp [boolsF, List.any_map, List.all_eq_not_any_not, Function.comp_def]
    rw [e]; exact h
theorem str_at {value slice : PySem.Expr} {u t : Tok} {i c : Nat} {x : Str} (hi : x.cps[i]? = some c) (hz : x.cps.size ≤ 100) (h : Q (.str ⟨#[c]⟩ s.toks) { s with toks := s.toks + 1 })
    (hs : subscripted slice false (.str x t) (.int (i : Int) u) = operate [.str x t, .int (i : Int) u] (getItem (.str x t) (.int (i : Int) u)) := by with_unfolding_all rfl) :
    wpAny (model prog w) A (subscriptTail value slice (.str x t) (.int (i : Int) u)) Q E s := by
  have hlt : i < x.cps.size := (Array.getElem?_eq_some_iff.mp hi).1
  refine tail_any (typeIs_str s x t) PySem.F.slot_str_getitem.lookup (P.getItem_str (c := c) ?_ ?_ h) hs
  · simp; omega
  · have e : seqIndex? (i : Int) x.length = some i := by
      unfold seqIndex?
      have : (x.length : Int) = (x.cps.size : Int) := rfl
      simp only [this]
      split <;> simp <;> omega
    rw [e]; exact hi
end
theorem TsA.last {w : World} {G : Gr} {vs : List Value} {obs : List Ob} (x : TsA w G vs obs) (hne : vs.isEmpty = false) : ∃ ob, obs.getLast? = some ob ∧ TA w G (vs.getLastD .none) ob := by
  induction x with
  | nil => cases hne
  | cons a b ih =>
    cases b with
    | nil => exact ⟨_, rfl, a⟩
    | cons c d =>
      obtain ⟨ob, h1, h2⟩ := ih rfl
      exact ⟨ob, by simpa [List.getLast?_cons_cons] using h1, by simpa [List.getLastD] using h2⟩
theorem bools_init {obs : List Ob} : (boolsF obs).dropLast = boolsF obs.dropLast := by unfold boolsF; rw [List.map_dropLast]
theorem bools_all {obs : List Ob} {n : Nat} (h : obs.length ≤ n) : boolsF (obs.take n) = boolsF obs := by rw [List.take_of_length_le h]
section
variable {sg : Str} {obs : List Ob} {vs : List Value} {w : World} {G : Gr} {ob : Ob}
theorem TsA.empty (x : TsA w G vs obs) : obs.isEmpty = vs.isEmpty := by cases x <;> rfl
theorem rt_empty (x : TsA w G vs obs) (hp : ([Str.ofString "+", Str.ofString "*"].any fun z => z == sg) = true) (h : vs.isEmpty = true) : lawRight sg obs = false := by
  unfold lawRight
  rw [x.empty, h]
  simp only [List.any_cons, List.any_nil, Bool.or_false, Bool.or_eq_true, beq_iff_eq] at hp
  by_cases h1 : sg = Str.ofString "+"
  · rw [if_pos h1]; rfl
  · rw [if_neg h1, if_pos (hp.resolve_left fun e => h1 e.symm).symm]; rfl
theorem rt_plus (x : TsA w G vs obs) (hp : ([Str.ofString "+", Str.ofString "*"].any fun z => z == sg) = true) (hs : (sg == Str.ofString "*") = false) (h : vs.isEmpty = false) : lawRight sg obs = obs.all fun ob => fitS ob (Str.ofString "n") := by
  unfold lawRight
  rw [x.empty, h]
  simp only [List.any_cons, List.any_nil, Bool.or_false, Bool.or_eq_true, beq_iff_eq] at hp
  have h1 : sg = Str.ofString "+" := (hp.resolve_right fun e => by rw [← e] at hs; revert hs; decide +kernel).symm
  rw [if_pos h1]; rfl
theorem rt_star (x : TsA w G vs obs) (hs : (sg == Str.ofString "*") = true) (h : vs.isEmpty = false) (hl : obs.getLast? = some ob) {b : Bool} (hb : fitS ob (Str.ofString "N") = b) : lawRight sg obs = (if b then obs.dropLast else obs).all fun ob => fitS ob (Str.ofString "n") := by
  unfold lawRight
  have hs' : sg = Str.ofString "*" := by simpa using hs
  have h1 : ¬ sg = Str.ofString "+" := by rw [hs']; decide +kernel
  rw [if_neg h1, if_pos hs', x.empty, h, hl]
  subst hb
  simp only [Option.map_some, Bool.not_false, Bool.true_and, Option.some.injEq]
end
/-- as far as i, the operands fit the signs -/
noncomputable def rtTo (sg : Str) (obs : List Ob) (n : Nat) : Bool := (List.range n).all fun i => match obs[i]?, sg.cps[i]? with
    | some ob, some c => fitS ob ⟨#[c]⟩
    | _, _ => false
noncomputable def RtJ (nw0 : List (Addr × Obj)) (sg : Str) (obs : List Ob) (i : Nat) (ys : List Value) (nw : List (Addr × Obj)) : Prop := nw = nw0 ∧ ys.isEmpty = rtTo sg obs i
section
variable {sg : Str} {obs : List Ob} {vs : List Value} {w : World} {G : Gr} {ob : Ob} {i c : Nat}
theorem rt_neither (hp : ([Str.ofString "+", Str.ofString "*"].any fun z => z == sg) = false) : lawRight sg obs = (obs.length == sg.cps.size && rtTo sg obs sg.cps.size) := by
  unfold lawRight
  simp only [List.any_cons, List.any_nil, Bool.or_false, Bool.or_eq_false_iff, beq_eq_false_iff_ne, ne_eq] at hp
  rw [if_neg fun e => hp.1 e.symm, if_neg fun e => hp.2 e.symm]; rfl
theorem rtTo_succ (h1 : obs[i]? = some ob) (h2 : sg.cps[i]? = some c) : rtTo sg obs (i + 1) = (rtTo sg obs i && fitS ob ⟨#[c]⟩) := by
  unfold rtTo
  rw [List.range_succ, List.all_append]
  simp [h1, h2]
theorem rt_yes {h₀ h' : Heap} {L I C D : Addr} {oI oC : Obj} {m : Str → Option Value} {s : Shared} {nw all : List (Addr × Obj)} {ys : List Value} {v : Value} {tk' : Nat} {S : List (Addr × Obj) → Prop}
    (F : Fr h₀ L h' m) (N : News h₀ L h' all) (sub : ∀ q ∈ (I, oI) :: (C, oC) :: (D, LCg.lst ys) :: nw, q ∈ all) (off : LCg.Off3 I C D nw) (hS : S nw) (hJ : ys.isEmpty = rtTo sg obs i) (h1 : obs[i]? = some ob) (h2 : sg.cps[i]? = some c) (hp : fitS ob ⟨#[c]⟩ = true) :
    LCg.CompEnd h₀ L m s I oI C oC D (LCg.lst ys) S (fun _ nw' => RtJ nw sg obs (i + 1) ys nw') v { s with heap := h', toks := tk' } :=
  LCg.CompEnd.intro F N nw sub off hS ⟨rfl, by rw [rtTo_succ h1 h2, hJ, hp]; simp⟩
theorem rt_no {h₀ h' : Heap} {L I C D : Addr} {oI oC : Obj} {m : Str → Option Value} {s : Shared} {nw all : List (Addr × Obj)} {ys : List Value} {v : Value} {tk' : Nat} {S : List (Addr × Obj) → Prop}
    (F : Fr h₀ L h' m) (N : News h₀ L h' all) (sub : ∀ q ∈ (I, oI) :: (C, oC) :: (D, LCg.lst ys) :: nw, q ∈ all) (off : LCg.Off3 I C D nw) (hS : S nw) (h1 : obs[i]? = some ob) (h2 : sg.cps[i]? = some c) (hp : fitS ob ⟨#[c]⟩ = false) :
    LCg.CompEnd h₀ L m s I oI C oC D (LCg.lst ys) S (fun y nw' => RtJ nw sg obs (i + 1) (ys ++ [y]) nw') v { s with heap := h', toks := tk' } :=
  LCg.CompEnd.intro F N nw sub off hS ⟨rfl, by rw [rtTo_succ h1 h2, hp]; simp⟩
end
end

section
set_option maxHeartbeats 40000000
open PySem PySem.W PyProof.Rows PySem.Calls PySem.Spec

theorem sgLit_all : (lawTab.all fun p => p.2 == Str.ofString "+" || p.2 == Str.ofString "*" || p.2.cps.toList.all fun c => litSigns.contains ⟨#[c]⟩) = true := by decide +kernel
theorem sgLit {word sg : Str} {i c : Nat} (h : lawGet word = some sg) (hp : ([Str.ofString "+", Str.ofString "*"].any fun z => z == sg) = false) (hc : sg.cps[i]? = some c) : (⟨#[c]⟩ : Str) ∈ litSigns := by
  unfold lawGet at h
  cases hf : lawTab.find? (fun p => p.1 = word) with
  | none => rw [hf] at h; cases h
  | some p =>
    rw [hf] at h
    cases h
    have := List.all_eq_true.mp sgLit_all p (List.mem_of_find?_eq_some hf)
    simp only [List.any_cons, List.any_nil, Bool.or_false, Bool.or_eq_false_iff, beq_eq_false_iff_ne, ne_eq] at hp
    have e1 : (p.2 == Str.ofString "+") = false := by simpa using fun e => hp.1 e.symm
    have e2 : (p.2 == Str.ofString "*") = false := by simpa using fun e => hp.2 e.symm
    rw [e1, e2] at this
    simp only [Bool.false_or] at this
    have hm : c ∈ p.2.cps.toList := by
      rw [List.mem_iff_getElem?]
      exact ⟨i, by simpa using hc⟩
    simpa using List.all_eq_true.mp this c hm
theorem right_c (w : World) (a0 : Addr) (word sg : Str) (obs : List Ob) (hg : lawGet word = some sg) : PureC w 396 32 256 [.ref a0] (fun h => OpA w (inH h) a0 word obs) (fun _ r => r = .bool (lawRight sg obs)) := by
  k_with_none
  k_with "lt" => first | with_reducible assumption | exact lt_0 (by with_reducible assumption) | exact lt_1 (by with_reducible assumption) | exact lt_2 (by with_reducible assumption) | exact lt_3 (by with_reducible assumption) | exact lt_4 (by with_reducible assumption) | exact lt_5 (by with_reducible assumption) | exact lt_6 (by with_reducible assumption) | exact lt_7 (by with_reducible assumption) | exact lt_0 (dr8 (by with_reducible assumption)) | exact lt_1 (dr8 (by with_reducible assumption)) | exact lt_2 (dr8 (by with_reducible assumption)) | exact lt_3 (dr8 (by with_reducible assumption)) | exact lt_4 (dr8 (by with_reducible assumption)) | exact lt_5 (dr8 (by with_reducible assumption)) | exact lt_6 (dr8 (by with_reducible assumption)) | exact lt_7 (dr8 (by with_reducible assumption)) | exact lt_0 (dr8 (dr8 (by with_reducible assumption))) | exact lt_1 (dr8 (dr8 (by with_reducible assumption))) | exact lt_2 (dr8 (dr8 (by with_reducible assumption))) | exact lt_3 (dr8 (dr8 (by with_reducible assumption))) | exact lt_4 (dr8 (dr8 (by with_reducible assumption))) | exact lt_5 (dr8 (dr8 (by with_reducible assumption))) | exact lt_6 (dr8 (dr8 (by with_reducible assumption))) | exact lt_7 (dr8 (dr8 (by with_reducible assumption))) | exact lt_0 (dr8 (dr8 (dr8 (by with_reducible assumption)))) | exact lt_1 (dr8 (dr8 (dr8 (by with_reducible assumption)))) | exact lt_2 (dr8 (dr8 (dr8 (by with_reducible assumption)))) | exact lt_3 (dr8 (dr8 (dr8 (by with_reducible assumption)))) | exact lt_4 (dr8 (dr8 (dr8 (by with_reducible assumption)))) | exact lt_5 (dr8 (dr8 (dr8 (by with_reducible assumption)))) | exact lt_6 (dr8 (dr8 (dr8 (by with_reducible assumption)))) | exact lt_7 (dr8 (dr8 (dr8 (by with_reducible assumption)))) | exact lt_0 (dr8 (dr8 (dr8 (dr8 (by with_reducible assumption))))) | exact lt_1 (dr8 (dr8 (dr8 (dr8 (by with_reducible assumption))))) | exact lt_2 (dr8 (dr8 (dr8 (dr8 (by with_reducible assumption))))) | exact lt_3 (dr8 (dr8 (dr8 (dr8 (by with_reducible assumption))))) | exact lt_4 (dr8 (dr8 (dr8 (dr8 (by with_reducible assumption))))) | exact lt_5 (dr8 (dr8 (dr8 (dr8 (by with_reducible assumption))))) | exact lt_6 (dr8 (dr8 (dr8 (dr8 (by with_reducible assumption))))) | exact lt_7 (dr8 (dr8 (dr8 (dr8 (by with_reducible assumption)))))
  k_with "nd" => first | exact nd_0 (by with_reducible assumption) | exact nd_1 (by with_reducible assumption) | exact nd_2 (by with_reducible assumption) | exact nd_3 (by with_reducible assumption) | exact nd_4 (by with_reducible assumption) | exact nd_5 (by with_reducible assumption) | exact nd_6 (by with_reducible assumption) | exact nd_7 (by with_reducible assumption) | exact nd_8 (by with_reducible assumption)
  k_with "ne" => (refine neN ?_; (try dsimp only); first | with_reducible assumption | exact Ne.symm (by with_reducible assumption) | (refine ne_z ?_; k_extra "lt") | (refine ne_s ?_; k_extra "lt") | (refine ne_zz (by with_reducible assumption) ?_; k_extra "lt") | (refine ne_ss (by with_reducible assumption) ?_; k_extra "lt") | k_extra "nd" | (dsimp only [AllLt] at *; omega))
  k_with "compareOp NotEq ref ref" => (k_here; (with_reducible show wpAny _ _ (compareOp CmpOp.NotEq (Value.ref _) (Value.ref _)) _ _ _); k_dflt (refine' lst_ne_nil ?zzl ?zzb ?zzu ?_; (case zzb => exact ⟨_, (News.get (by k_asm) (by k_mem)), rfl, _, rfl⟩); (case zzl => is_list); (case zzu => ktr_units); k_whole))
  k_with "compareOp Eq ref ref" => (k_here; (with_reducible show wpAny _ _ (compareOp CmpOp.Eq (Value.ref _) (Value.ref _)) _ _ _); k_dflt (refine' lst_eq_nil ?zzl ?zzb ?zzu ?_; (case zzb => exact ⟨_, (News.get (by k_asm) (by k_mem)), rfl, _, rfl⟩); (case zzl => is_list); (case zzu => ktr_units); k_whole))
  k_with "subscriptTail Name UnaryOp ref int" => (k_here; (with_reducible show wpAny _ _ (subscriptTail _ _ (Value.ref _) (Value.int _ _)) _ _ _); (with_unfolding_all refine' item_last ?zzk1 ?zzk2 ?zzk3 ?_ ?zzk6; (case zzk1 => is_list); (case zzk2 => assumption); (case zzk3 => first | assumption | omega); (case zzk6 => with_unfolding_all rfl); k_whole))
  k_with "subscriptTail Name Slice ref ref" => (k_here; (with_reducible show wpAny _ _ (subscriptTail _ (PySem.Expr.Slice _ _ none _) (Value.ref _) (Value.ref _)) _ _ _); k_dflt (refine' kms_slice_lit ?zzF ?zzN ?zzl ?zzp ?zzq ?zze ?_ ?zzs ?zzt ?zzz; (case zzF => k_asm); (case zzN => k_asm); (case zzl => is_list); (case zzp => kmk_part); (case zzq => kmk_part); (case zze => exact pick_init _); (case zzs => with_unfolding_all rfl); (case zzt => kmk_pure); (case zzz => (simp only [List.size_toArray, sizeLine_eq]; omega))); intro D' h' F' N' l1; (try k_lt l1); (try k_sweep))
  k_with "call ref" => (k_here; (with_reducible show wpAny _ _ (call (Value.ref 374) _) _ _ _); k_dflt (refine' words_c _ ?zzB ?zzF ?zzX ?zzT ?zzhk trivial ?zzdd ?zzuu ?_; (case zzB => k_asm); (case zzF => k_asm); (case zzX => k_asm); (case zzT => k_asm); (case zzhk => first | exact rfl | assumption); (case zzdd => ktr_room); (case zzuu => ktr_units)); intro v' h' tk' e' p'; (obtain ⟨dw, ow, kvw, ev', hfw, hdw, hkw, low⟩ := p'; subst ev'); (have F' := fr_ext (by k_asm) e'); (have N' := news_fresh (by k_asm) (news_ext (by assumption) e') hfw); (have hw1 := fresh_ne (a := L' + 1) (by assumption) (by k_mem) hfw _ (List.mem_cons_self ..)); (have hw2 := fresh_ne (a := L' + 1 + 1) (by assumption) (by k_mem) hfw _ (List.mem_cons_self ..)); (dsimp only at hw1 hw2); (simp only [List.cons_append, List.nil_append] at N'); (obtain ⟨tsg, hsg9⟩ := law_item hkw hg))
  k_with "getAttr ref" => (k_here; k_dflt (refine' get_own ?zzk1 ?zzk2 ?zzk3 ?zzk4 ?zzk5 ?zzk6 ?zzk7 ?zzk8 ?zzk9 ?_; (case zzk3 => exact op_inst hi1 hi2 (Fr.keep (by k_asm))); (case zzk1 => k_asm); (case zzk2 => k_asm); (case zzk4 => k_is); (case zzk5 => k_is); (case zzk6 => k_is); (case zzk7 => k_is); (case zzk8 => assumption); (case zzk9 => k_handed); k_whole))
  k_with "subscriptTail" => (k_here; (with_reducible show wpAny _ _ (subscriptTail _ _ (Value.ref dw) (Value.str word _)) _ _ _); k_dflt (refine' dict_temp ?zzN ?zzm hdw hsg9 ?_ ?zzs; (case zzN => k_asm); (case zzm => k_mem); (case zzs => with_unfolding_all rfl)))
  k_with "subscriptTail" => (k_here; (with_reducible show wpAny _ _ (subscriptTail _ _ (Value.ref l0) (Value.int _ _)) _ _ _); (with_unfolding_all refine' item_at ?zzk1 ?zzk2 ?zzk3 ?_ ?zzk6; (case zzk1 => is_list); (case zzk2 => exact hvc); (case zzk3 => omega); (case zzk6 => with_unfolding_all rfl); k_whole))
  k_with "subscriptTail Name Name str int" => (k_here; (with_reducible show wpAny _ _ (subscriptTail _ _ (Value.str sg _) (Value.int _ _)) _ _ _); (with_unfolding_all refine' str_at ?zzk2 ?zzk3 ?_ ?zzk6; (case zzk2 => exact hcc); (case zzk3 => omega); (case zzk6 => with_unfolding_all rfl); k_whole))
  k_with "exec Assign cons ListComp" => (k_here; k_dflt (refine LCg.Assign_ListComp_U (F₀ := by k_asm) (by rfl) (by with_unfolding_all rfl) (by with_unfolding_all rfl) (by decide) (by rfl) (by decide) (by rfl) (by rfl) (by rfl) ?_))
  k_with "eval ListComp" => (k_here; k_dflt (refine LCt.ListComp_T (F₀ := by k_asm) (by with_unfolding_all rfl) (by decide) (by rfl) (by decide) (by rfl) ?_))
  k_with "CompSrc" => (k_here; refine Stop.out ?_)
  k_with "CompSrcT" => (k_here; refine Stop.out ?_)
  k_with "CompEnd" => (refine Stop.out ?_)
  k_with "call builtin:len" => (k_here; (with_reducible show wpAny _ _ (call (Value.builtin "len") [Value.ref _]) _ _ _); k_dflt (
  (refine' kun_lenL (k := (vs0.length : Int)) (l := l0) (items := vs0.toArray) ?zzq0 ?zzq1 ?zzq2 ?_; (case zzq0 => is_list); (case zzq1 => (rw [List.size_toArray])); (case zzq2 => omega))))
  k_with "call builtin:len" => (k_here; (with_reducible show wpAny _ _ (call (Value.builtin "len") [Value.str _ _]) _ _ _); (refine P.len_str ?zzq1 ?_; (case zzq1 => ((have hlz : (sg.length : Int) = (sg.cps.size : Int) := rfl); omega))))
  k_with "subscriptTail Name Slice ref ref" => (k_here; (with_reducible show wpAny _ _ (subscriptTail _ (PySem.Expr.Slice _ _ none _) (Value.ref D8) (Value.ref _)) _ _ _); k_dflt (refine' kms_slice_lit ?zzF ?zzN ?zzl ?zzp ?zzq ?zze ?_ ?zzs ?zzt ?zzz; (case zzF => k_asm); (case zzN => k_asm); (case zzl => exact news_list (by k_asm) (by k_mem)); (case zzp => kmk_part); (case zzq => kmk_part); (case zze => exact pick_init _); (case zzs => with_unfolding_all rfl); (case zzt => kmk_pure); (case zzz => (simp only [List.size_toArray, boolsF, List.length_map, sizeLine_eq]; omega))); intro D7 h' F' N' l1; (try k_lt l1); (try k_sweep))
  k_with "compareOp NotIn bool ref" => (k_here; (with_reducible show wpAny _ _ (compareOp CmpOp.NotIn _ (Value.ref D8)) _ _ _); k_dflt (refine' notin_false (obs := obs) rfl ?zzl ?_; (case zzl => exact news_list (by k_asm) (by k_mem)); k_whole))
  k_with "compareOp NotIn bool ref" => (k_here; (with_reducible show wpAny _ _ (compareOp CmpOp.NotIn _ (Value.ref D7)) _ _ _); k_dflt (refine' notin_false (obs := obs.dropLast) rfl ?zzl ?_; (case zzl => (rw [← bools_init]; exact news_list (by k_asm) (by k_mem))); k_whole))
  k_with "call ref" => (k_here; (with_reducible show wpAny _ _ (call (Value.ref 391) [_, _]) _ _ _); k_dflt (refine' lawfits_c _ _ obc _ _ ?zzhs ?zzB ?zzF ?zzX ?zzT ?zzhk ?zzpre ?zzdd ?zzuu ?_; (case zzhs => first | assumption | decide +kernel); (case zzB => k_asm); (case zzF => k_asm); (case zzX => k_asm); (case zzT => k_asm); (case zzhk => first | exact rfl | assumption); (case zzpre => exact hTc.mono (fun b o => Fr.keep (by k_asm) b o)); (case zzdd => ktr_room); (case zzuu => ktr_units)); intro v' h' tk' e' p'; (subst p'); (have F' := fr_ext (by k_asm) e'); (have N' := news_ext (by k_asm) e'); (try k_sweep))
  k_with "call ref" => (k_here; (with_reducible show wpAny _ _ (call (Value.ref 391) [List.getLastD _ _, _]) _ _ _); (obtain ⟨obl, hlc, hTl⟩ := TsA.last hi6 (by assumption)); k_dflt (refine' lawfits_c _ _ obl _ _ ?zzhs ?zzB ?zzF ?zzX ?zzT ?zzhk ?zzpre ?zzdd ?zzuu ?_; (case zzhs => first | assumption | decide +kernel); (case zzB => k_asm); (case zzF => k_asm); (case zzX => k_asm); (case zzT => k_asm); (case zzhk => first | exact rfl | assumption); (case zzpre => exact hTl.mono (fun b o => Fr.keep (by k_asm) b o)); (case zzdd => ktr_room); (case zzuu => ktr_units)); intro v' h' tk' e' p'; (subst p'); (have F' := fr_ext (by k_asm) e'); (have N' := news_ext (by k_asm) e'); (try k_sweep))
  unfold PureC
  k_fill
  intro loose mean mg mb dp un gd cn cs a ccd cl outer A₀ base h₀ L m s Q E B F X T hk hpre hd hu hret
  obtain ⟨dx0, es0, n0, t0, l0, vs0, c0, hj1, hj2, hi3, hi4, hj5, hj6, hj7⟩ := hpre
  refine wpAny_call ?_
  k_dflt (refine' code_cellE (led := []) ?k1 ?k2 ?k3 ?k4 ?k5 ?kA ?kF ?kK ?k6 ?k7 ?k8 ?k9 ?kB ?kD ?_ ?c2 ?c3 ?c4; (case kA => exact rfl); (case kF => exact rfl); (case kK => first | assumption | exact rfl); (case k1 => k_asm); (case k2 => k_asm); (case k3 => k_asm); (case k4 => exact News.nil); (case k5 => k_asm); (case k6 => k_is); (case k7 => k_is); (case k8 => ktr_room); (case k9 => first | exact BindsTo.of_eq rfl | exact binds_K (by k_in) rfl (by k_is) rfl rfl rfl); (case kB => exact rfl); (case kD => decide +kernel); (case c2 => exact rfl); (case c3 => exact rfl); (case c4 => exact rfl); k_whole; intro g' L' h' tk' cells' HG' F' N' Y' B' X' T' l1; k_cells Y'; (try simp only [List.cons_append, List.nil_append, List.append_nil] at N'); (try dsimp only); (try with_reducible show wpAny _ _ _ _ _ _); (try k_fold); skip)
  have HE' : Ext _ g' := fun b o e => HG' b o e (fun hm => nomatch hm)
  clear HG'
  have hi1 := HE' _ _ hj1
  have hi2 := HE' _ _ hj2
  have hi5 := HE' _ _ hj5
  have hi6 := hj6.mono fun a o q => HE' a o q
  have hlen6 := hi6.length
  have hz6 : sg.cps.size ≤ 6 := (sgOk_get hg).2.1
  have hl' : g'.IsList l0 vs0.toArray := ⟨_, hi5, rfl, _, rfl⟩
  have hz'' : vs0.length ≤ 1000 := by omega
  k_steps
  · unfold Stop
    rename Fr _ _ _ _ => F9
    rename News _ _ _ _ => N9
    refine' LCg.CompSrc.base rfl F9 N9 hl' ?sz ?go
    case sz => rw [List.size_toArray, sizeLine_eq]; omega
    case go =>
      intro g9
      refine' rest_ind (NumJ _ obs) ⟨rfl, rfl⟩ ?fin ?turn
      case turn =>
        intro i8 ys8 nw8 hi8 hJ8 v8 I9 oI9 C9 oC9 D9 m8 h8 tk8 E8 hv8 hC8 hx8 F8 N7 off8 ne8
        obtain ⟨rfl, hJ8⟩ := hJ8
        obtain ⟨obc, hoc, hTc⟩ := hi6.at (i := i8) (v := v8) (by simpa using hv8)
        k_steps
        unfold Stop
        exact num_end F' N' (fun q hq => hq) off8 (.inl hl') hJ8 hoc
      case fin =>
        intro ys8 nw8 hJ8
        obtain ⟨rfl, rfl⟩ := hJ8
        have hb8 : boolsF (obs.take vs0.toArray.size) = boolsF obs := bools_all (by rw [List.size_toArray]; omega)
        rw [hb8]
        intro D8 h8 tk8 F8 N8 o8
        k_steps
        all_goals exact hret _ _ _ (fun b o e => Fr.keep (by assumption) b o (HE' b o e)) (congrArg Value.bool (by first
          | (rw [rt_empty hi6 (by assumption) (by assumption), show vs0.isEmpty = true by assumption]; rfl)
          | (rw [rt_plus hi6 (by assumption) (by assumption) (by assumption)])
          | (rw [rt_star hi6 (by assumption) (by assumption) hlc (b := true) (by assumption)]; rfl)
          | (rw [rt_star hi6 (by assumption) (by assumption) hlc (b := false) (by assumption)]; rfl)))
  · unfold Stop
    rename IsRange _ _ _ _ _ _ _ _ => R9
    rename Fr _ _ _ _ => F9
    rename News _ _ _ _ => N9
    have hnp : ([Str.ofString "+", Str.ofString "*"].any fun x => x == sg) = false := by assumption
    have hle : ((vs0.length : Nat) : Int) = ((sg.length : Nat) : Int) := by assumption
    have hsl : sg.length = sg.cps.size := rfl
    refine' LCt.CompSrcT.range (n := sg.cps.size) rfl F9 N9 R9 ?sm ?rs ?sz ?go
    case sm => exact range_smN (len16 (Nat.le_trans (by assumption) (by decide)))
    case rs => exact range_lenN _
    case sz => rw [sizeLine_eq]; omega
    case go =>
      intro g9
      refine' rest_indT (RtJ _ sg obs) ⟨rfl, rfl⟩ ?fin ?turn
      case turn =>
        intro i8 ys8 nw8 hi8 hJ8 v8 I9 oI9 C9 oC9 D9 m8 h8 tk8 E8 hv8 hC8 hx8 F8 N7 off8 ne8
        obtain ⟨rfl, hJ8⟩ := hJ8
        obtain ⟨t8, hv8⟩ := hv8
        rw [Int.zero_add] at hv8
        subst hv8
        obtain ⟨vc, hvc⟩ : ∃ vc, vs0[i8]? = some vc := ⟨_, List.getElem?_eq_getElem (by omega)⟩
        obtain ⟨cc, hcc⟩ : ∃ cc, sg.cps[i8]? = some cc := ⟨_, Array.getElem?_eq_getElem hi8⟩
        obtain ⟨obc, hoc, hTc⟩ := hi6.at hvc
        have hlit := sgLit hg hnp hcc
        have hi1000 : i8 ≤ 1000 := by omega
        k_steps
        all_goals unfold Stop
        all_goals first
          | exact rt_yes F' N' (fun q hq => hq) off8 trivial hJ8 hoc hcc (by assumption)
          | exact rt_no F' N' (fun q hq => hq) off8 trivial hoc hcc (by assumption)
      case fin =>
        intro ys8 nw8 hJ8
        obtain ⟨rfl, hJ8⟩ := hJ8
        intro D8 h8 tk8 F8 N8 o8
        k_steps
        all_goals exact hret _ _ _ (fun b o e => Fr.keep (by assumption) b o (HE' b o e)) (congrArg Value.bool (by
          rw [rt_neither hnp, hJ8, ← hlen6, show (vs0.length == sg.cps.size) = true by simp; omega]; rfl))
  · exact hret _ _ _ (fun b o e => Fr.keep (by assumption) b o (HE' b o e)) (congrArg Value.bool (by
      have hne : ((vs0.length : Nat) : Int) ≠ ((sg.length : Nat) : Int) := by assumption
      have hsl : sg.length = sg.cps.size := rfl
      rw [rt_neither (by assumption), ← hlen6, show (vs0.length == sg.cps.size) = false by simp; omega]
      simp; omega))
end

section
set_option maxHeartbeats 4000000
open PySem PySem.W PyProof.Rows PySem.Calls PySem.Spec
/-- the pen's number -/
noncomputable def numMk (m : Str → Option Value) (st : Int × Tok) : Str → Option Value := fun z => if z = Str.ofString "number" then some (.int st.1 st.2) else m z
noncomputable def NumEnd (h₀ : Heap) (L : Addr) (nw : List (Addr × Obj)) (m : Str → Option Value) (x : Str) (s : Shared) (fl : Flow) (s₂ : Shared) : Prop :=
  fl = .next ∧ ∃ h' tk' m' st', s₂ = { s with heap := h', toks := tk' } ∧ Fr h₀ L h' m' ∧ News h₀ L h' nw ∧ ∀ z, z ≠ x → m' z = numMk m st' z
section
variable {prog : Program} {w : World} {A : Around} {E : Value → Shared → Prop} {s : Shared} {h₀ : Heap} {name : Str} {scope : Scope} {L a : Addr} {cd : Value} {cl : List (Str × Addr)} {Q : Flow → Shared → Prop}
theorem for_num {x : Str} {px : Pos} {body : List Stmt} {D : Addr} {vs : List Value} {ns : List Int} {n : Nat} {m₀ m : Str → Option Value}
    (hk : scope.kind = .function) (hl : (envX name scope L a cd cl).kindOf x = some .local) (hh : A.handled = none) (hi : IntsAre vs ns) (F : Fr h₀ L s.heap m₀) (N : News h₀ L s.heap [(D, listOf vs.toArray n)]) (hm : ∃ st, ∀ z, z ≠ x → m₀ z = numMk m st z)
    (turn : ∀ st c t h tk I oI, (@Ne Nat D I) → Fr h₀ L h (fun z => if z = x then some (.int c t) else numMk m st z) → News h₀ L h [(I, oI), (D, listOf vs.toArray n)] →
      wpAny (model prog w) A (execs body (envX name scope L a cd cl)) (NumEnd h₀ L [(I, oI), (D, listOf vs.toArray n)] m x { s with heap := h, toks := tk }) E { s with heap := h, toks := tk })
    (fin : ∀ ov st h tk, Fr h₀ L h (fun z => if z = x then ov else numMk m st z) → News h₀ L h [(D, listOf vs.toArray n)] → Q .next { s with heap := h, toks := tk }) :
    wpAny (model prog w) A (pyIter (.ref D)) (fun it s₂ => TurnsAt prog w A h₀ (envX name scope L a cd cl) (.Name x px) body Q E it s₂) E s := by
  obtain ⟨st₀, hm⟩ := hm
  refine iter_listTurns hh F N (List.mem_cons_self ..) rfl rfl fun I hI => ?_
  have hDI : @Ne Nat D I := Nat.ne_of_lt (hI (D, _) (List.mem_cons_self ..))
  refine items_ind vs (numMk m) (fun _ _ nw => nw = [(D, listOf vs.toArray n)]) st₀ hk hl hm rfl ?_ ?_
  · rintro i v st nw h tk hv rfl F
    obtain ⟨c, t, rfl, _⟩ := hi.at i v hv
    refine AllObj.cons fun oI _ => AllObj.nil fun N => ?_
    refine wpAny_mono (turn st c t h tk I oI hDI F N) (fun fl s₂ q => ?_) fun _ _ q => q
    obtain ⟨rfl, h', tk', m', st', rfl, F', N', hm'⟩ := q
    refine ⟨h', tk', m', [(D, _)], rfl, F', N', ?_, ⟨List.mem_cons_self .., trivial⟩, st', hm', rfl⟩
    intro p hp q hq
    obtain rfl := List.mem_singleton.mp hp
    obtain rfl := List.mem_singleton.mp hq
    exact hDI
  · rintro ov st nw h tk rfl F N
    exact fin ov st h tk F N
end
theorem enum_lt : ∀ {vs : List Value} {b i : Nat} {it : Itm}, (enumItems b vs)[i]? = some it → ∃ v, vs[i]? = some v ∧ it = .pair (fun t => .int ((b + i : Nat) : Int) t) v
  | [], _, _, _, h => by simp [enumItems] at h
  | v :: r, b, 0, it, h => ⟨v, rfl, by simpa [enumItems] using h.symm⟩
  | v :: r, b, i + 1, it, h => by
    have h' : (enumItems (b + 1) r)[i]? = some it := by simpa [enumItems] using h
    obtain ⟨u, hu, e⟩ := enum_lt h'
    refine ⟨u, by simpa using hu, ?_⟩
    rw [e, show b + 1 + i = b + (i + 1) by omega]
section
variable {prog : Program} {w : World} {A : Around} {E : Value → Shared → Prop} {s : Shared} {h₀ : Heap} {name : Str} {scope : Scope} {L a : Addr} {cd : Value} {cl : List (Str × Addr)} {Q : Flow → Shared → Prop}
/-- for x, y in enumerate(list): the body grows one list d and sets names -/
theorem for_enum {σ : Type} {x y : Str} {px py pt : Pos} {kt : Nat} {body : List Stmt} {D d : Addr} {vs us : List Value} {n k : Nat} {tl : List (Addr × Obj)} {m₀ : Str → Option Value} (Mk : σ → Str → Option Value) (J : Nat → σ → List Value → List (Addr × Obj) → Prop)
    (hk : scope.kind = .function) (hlx : (envX name scope L a cd cl).kindOf x = some .local) (hly : (envX name scope L a cd cl).kindOf y = some .local) (hh : A.handled = none)
    (F : Fr h₀ L s.heap m₀) (N : News h₀ L s.heap ((d, listOf (List.toArray us) k) :: tl)) (hm : (D, listOf (List.toArray vs) n) ∈ tl) (hoff : ∀ p ∈ tl, @Ne Nat p.1 d) (h0 : ∃ st₀, (∀ z, z ≠ x → z ≠ y → m₀ z = Mk st₀ z) ∧ J 0 st₀ us tl)
    (turn : ∀ i v st us k tl t h tk I oE oI, vs[i]? = some v → J i st us tl → (@LT.lt Nat _ d I) → (D, listOf (List.toArray vs) n) ∈ tl → (∀ p ∈ tl, @Ne Nat p.1 d) → (∀ p ∈ tl, @Ne Nat p.1 I) → (∀ p ∈ tl, @Ne Nat p.1 (I + 1)) →
      Fr h₀ L h (fun z => if z = y then some v else if z = x then some (.int (i : Int) t) else Mk st z) → News h₀ L h ((I + 1, oE) :: (I, oI) :: (d, listOf (List.toArray us) k) :: tl) →
      wpAny (model prog w) A (execs body (envX name scope L a cd cl)) (GEnd h₀ L [(I + 1, oE), (I, oI)] d tl (fun m' us' tl' => ∃ st', (∀ z, z ≠ x → z ≠ y → m' z = Mk st' z) ∧ J (i + 1) st' us' tl') { s with heap := h, toks := tk }) E { s with heap := h, toks := tk })
    (fin : ∀ ox oy st us k tl h tk, J vs.length st us tl → (∀ p ∈ tl, @Ne Nat p.1 d) → (D, listOf (List.toArray vs) n) ∈ tl → Fr h₀ L h (fun z => if z = y then oy else if z = x then ox else Mk st z) → News h₀ L h ((d, listOf (List.toArray us) k) :: tl) → Q .next { s with heap := h, toks := tk }) :
    wpAny (model prog w) A (call (.type "enumerate") [.ref D]) (fun xv s₁ => wpAny (model prog w) A (pyIter xv) (fun it s₂ => TurnsAt prog w A h₀ (envX name scope L a cd cl) (.Tuple [.Name x px, .Name y py] kt pt) body Q E it s₂) E s₁) E s := by
  obtain ⟨st₀, hm₀, hJ₀⟩ := h0
  refine ktu_enum hh F N (List.mem_cons_of_mem _ hm) rfl rfl rfl fun I hI => ?_
  have hdI : d < I := hI _ (List.mem_cons_self ..)
  have fr_of : ∀ {m : Str → Option Value} {st : σ}, (∀ z, z ≠ x → z ≠ y → m z = Mk st z) → m = (fun z => if z = y then m y else if z = x then m x else Mk st z) := by
    intro m st hm
    funext z
    by_cases h1 : z = y
    · simp [h1]
    · by_cases h2 : z = x
      · subst h2; simp [h1]
      · simp [h1, h2, hm z h2 h1]
  have go : ∀ (r : List Itm) (i : Nat) (m : Str → Option Value) (st : σ) (us : List Value) (k : Nat) (tl : List (Addr × Obj)), i + r.length = vs.length → (∀ j, r[j]? = (enumItems 0 vs)[i + j]?) → (∀ z, z ≠ x → z ≠ y → m z = Mk st z) → J i st us tl →
      (∀ p ∈ tl, @Ne Nat p.1 d) → (∀ p ∈ tl, @Ne Nat p.1 I) → (∀ p ∈ tl, @Ne Nat p.1 (I + 1)) → (D, listOf (List.toArray vs) n) ∈ tl →
      ItemsRest prog w A E h₀ (envX name scope L a cd cl) (.Tuple [.Name x px, .Name y py] kt pt) body Q s [(I + 1, "enumerate"), (I, "list_iterator")] [(D, listOf (List.toArray vs) n)] r m ((d, listOf (List.toArray us) k) :: tl) := by
    intro r
    induction r with
    | nil =>
      intro i m st us k tl hi _ hm hJ o1 o2 o3 hD
      refine ItemsRest.zero fun h tk F N => fin (m x) (m y) st us k tl h tk (by rw [← hi]; exact hJ) o1 hD ?_ N
      rw [← fr_of hm]; exact F
    | cons it r ih =>
      intro i m st us k tl hi hr hm hJ o1 o2 o3 hD
      have hit : (enumItems 0 vs)[i]? = some it := by simpa using (hr 0).symm
      obtain ⟨v, hv, rfl⟩ := enum_lt hit
      rintro u h tk ⟨T, t, rfl, hT⟩ F
      refine AllObj.cons fun oE _ => AllObj.cons fun oI _ => AllObj.nil fun N => ?_
      refine unpackN_ F N hT hh rfl rfl fun h₂ F₂ N₂ => ?_
      show wpAny _ _ (assignInOrder [assign (.Name x px) (envX name scope L a cd cl), assign (.Name y py) (envX name scope L a cd cl)] [.int ((0 + i : Nat) : Int) t, v]) _ _ _
      refine assignInOrder_cons ?_
      refine assign_Name ?_
      refine storeX_L F₂ N₂ (fun h₃ F₃ N₃ => ?_) hk hlx
      refine assignInOrder_cons ?_
      refine assign_Name ?_
      refine storeX_L F₃ N₃ (fun h₄ F₄ N₄ => ?_) hk hly
      refine assignInOrder_nil ?_
      have F₅ : Fr h₀ L h₄ (fun z => if z = y then some v else if z = x then some (.int (i : Int) t) else Mk st z) := by
        have e : (fun z => if z = y then some v else if z = x then some (.int ((0 + i : Nat) : Int) t) else m z) = (fun z => if z = y then some v else if z = x then some (.int (i : Int) t) else Mk st z) := by
          funext z
          rw [Nat.zero_add]
          by_cases h1 : z = y
          · simp [h1]
          · by_cases h2 : z = x
            · simp [h2]
            · simp [h1, h2, hm z h2 h1]
        rw [← e]; exact F₄
      refine wpAny_mono (turn i v st us k tl t h₄ _ I oE oI hv hJ hdI hD o1 o2 o3 F₅ N₄) (fun fl s₂ q => ?_) fun _ _ q => q
      obtain ⟨rfl, h', tk', m', us', n', new, rfl, F', N', hnew, st', hm', hJ'⟩ := q
      have p1 : ∀ p ∈ new ++ tl, @Ne Nat p.1 d := fun p hp => by
        rcases List.mem_append.mp hp with hp | hp
        · exact (hnew p hp).1
        · exact o1 p hp
      have p2 : ∀ p ∈ new ++ tl, @Ne Nat p.1 I := fun p hp => by
        rcases List.mem_append.mp hp with hp | hp
        · exact (hnew p hp).2 (I, oI) (List.mem_cons_of_mem _ (List.mem_cons_self ..))
        · exact o2 p hp
      have p3 : ∀ p ∈ new ++ tl, @Ne Nat p.1 (I + 1) := fun p hp => by
        rcases List.mem_append.mp hp with hp | hp
        · exact (hnew p hp).2 (I + 1, oE) (List.mem_cons_self ..)
        · exact o3 p hp
      refine ⟨h', tk', m', (d, listOf (List.toArray us') n') :: (new ++ tl), rfl, F', N', ?_, ⟨List.mem_cons_of_mem _ (List.mem_append_right _ hD), trivial⟩, ih (i + 1) m' st' us' n' (new ++ tl) (by simp at hi; omega) (fun j => by have := hr (j + 1); simpa [Nat.add_assoc, Nat.add_comm 1 j] using this) hm' hJ' p1 p2 p3 (List.mem_append_right _ hD)⟩
      intro p hp q hq
      rcases List.mem_cons.mp hq with rfl | hq
      · rcases List.mem_cons.mp hp with rfl | hp
        · exact Nat.ne_of_lt (Nat.lt_succ_of_lt hdI)
        · exact p3 p hp
      · obtain rfl := List.mem_singleton.mp hq
        rcases List.mem_cons.mp hp with rfl | hp
        · exact Nat.ne_of_lt hdI
        · exact p2 p hp
  exact go (enumItems 0 vs) 0 m₀ st₀ us k tl (by rw [enumItems_length]; omega) (fun j => by simp) hm₀ hJ₀ hoff
    (fun p hp => Nat.ne_of_lt (hI p (List.mem_cons_of_mem _ hp))) (fun p hp => Nat.ne_of_lt (Nat.lt_succ_of_lt (hI p (List.mem_cons_of_mem _ hp)))) hm
end
end

section
set_option maxHeartbeats 40000000
open PySem PySem.W PyProof.Rows PySem.Calls PySem.Spec
theorem num_start {x : Str} {n : Int} {t : Tok} (m : Str → Option Value) : ∃ st, ∀ z, z ≠ x → (if z = Str.ofString "number" then some (Value.int n t) else m z) = numMk m st z := ⟨(n, t), fun _ _ => rfl⟩
theorem num_turn {m : Str → Option Value} {v : Int} {t : Tok} {b c : Option Value} (z : Str) (hz : z ≠ Str.ofString "cell") : (if z = Str.ofString "number" then some (Value.int v t) else if z = Str.ofString "cell" then b else if z = Str.ofString "number" then c else m z) = numMk m (v, t) z := by
  unfold numMk
  by_cases h : z = Str.ofString "number"
  · simp only [if_pos h]
  · simp only [if_neg h, if_neg hz]
theorem pen_c (w : World) (l0 : Addr) (vs0 : List Value) (ns : List Int) : PureN w 355 8 64 [.ref l0] (fun h => h.IsList l0 vs0.toArray ∧ IntsAre vs0 ns ∧ vs0.length ≤ 63) (fun h₀ h' r => ∃ p op, r = .ref p ∧ Fresh h₀ h' [(p, op)] ∧ PenO op) := by
  k_with_none
  k_with "lt" => first | with_reducible assumption | exact lt_0 (by with_reducible assumption) | exact lt_1 (by with_reducible assumption) | exact lt_2 (by with_reducible assumption) | exact lt_3 (by with_reducible assumption) | exact lt_4 (by with_reducible assumption) | exact lt_5 (by with_reducible assumption) | exact lt_6 (by with_reducible assumption) | exact lt_7 (by with_reducible assumption) | exact lt_0 (dr8 (by with_reducible assumption)) | exact lt_1 (dr8 (by with_reducible assumption)) | exact lt_2 (dr8 (by with_reducible assumption)) | exact lt_3 (dr8 (by with_reducible assumption)) | exact lt_4 (dr8 (by with_reducible assumption)) | exact lt_5 (dr8 (by with_reducible assumption)) | exact lt_6 (dr8 (by with_reducible assumption)) | exact lt_7 (dr8 (by with_reducible assumption)) | exact lt_0 (dr8 (dr8 (by with_reducible assumption))) | exact lt_1 (dr8 (dr8 (by with_reducible assumption))) | exact lt_2 (dr8 (dr8 (by with_reducible assumption))) | exact lt_3 (dr8 (dr8 (by with_reducible assumption))) | exact lt_4 (dr8 (dr8 (by with_reducible assumption))) | exact lt_5 (dr8 (dr8 (by with_reducible assumption))) | exact lt_6 (dr8 (dr8 (by with_reducible assumption))) | exact lt_7 (dr8 (dr8 (by with_reducible assumption))) | exact lt_0 (dr8 (dr8 (dr8 (by with_reducible assumption)))) | exact lt_1 (dr8 (dr8 (dr8 (by with_reducible assumption)))) | exact lt_2 (dr8 (dr8 (dr8 (by with_reducible assumption)))) | exact lt_3 (dr8 (dr8 (dr8 (by with_reducible assumption)))) | exact lt_4 (dr8 (dr8 (dr8 (by with_reducible assumption)))) | exact lt_5 (dr8 (dr8 (dr8 (by with_reducible assumption)))) | exact lt_6 (dr8 (dr8 (dr8 (by with_reducible assumption)))) | exact lt_7 (dr8 (dr8 (dr8 (by with_reducible assumption)))) | exact lt_0 (dr8 (dr8 (dr8 (dr8 (by with_reducible assumption))))) | exact lt_1 (dr8 (dr8 (dr8 (dr8 (by with_reducible assumption))))) | exact lt_2 (dr8 (dr8 (dr8 (dr8 (by with_reducible assumption))))) | exact lt_3 (dr8 (dr8 (dr8 (dr8 (by with_reducible assumption))))) | exact lt_4 (dr8 (dr8 (dr8 (dr8 (by with_reducible assumption))))) | exact lt_5 (dr8 (dr8 (dr8 (dr8 (by with_reducible assumption))))) | exact lt_6 (dr8 (dr8 (dr8 (dr8 (by with_reducible assumption))))) | exact lt_7 (dr8 (dr8 (dr8 (dr8 (by with_reducible assumption)))))
  k_with "nd" => first | exact nd_0 (by with_reducible assumption) | exact nd_1 (by with_reducible assumption) | exact nd_2 (by with_reducible assumption) | exact nd_3 (by with_reducible assumption) | exact nd_4 (by with_reducible assumption) | exact nd_5 (by with_reducible assumption) | exact nd_6 (by with_reducible assumption) | exact nd_7 (by with_reducible assumption) | exact nd_8 (by with_reducible assumption)
  k_with "ne" => (refine neN ?_; (try dsimp only); first | with_reducible assumption | exact Ne.symm (by with_reducible assumption) | (refine ne_z ?_; k_extra "lt") | (refine ne_s ?_; k_extra "lt") | (refine ne_zz (by with_reducible assumption) ?_; k_extra "lt") | (refine ne_ss (by with_reducible assumption) ?_; k_extra "lt") | k_extra "nd" | (dsimp only [AllLt] at *; omega))
  k_with "subscriptTail Name Slice ref ref" => (k_here; (with_reducible show wpAny _ _ (subscriptTail _ (PySem.Expr.Slice _ _ none _) (Value.ref _) (Value.ref _)) _ _ _); k_dflt (refine' kms_slice_lit ?zzF ?zzN ?zzl ?zzp ?zzq ?zze ?_ ?zzs ?zzt ?zzz; (case zzF => k_asm); (case zzN => k_asm); (case zzl => is_list); (case zzp => kmk_part); (case zzq => kmk_part); (case zze => exact pick_to _ (by omega)); (case zzs => with_unfolding_all rfl); (case zzt => kmk_pure); (case zzz => (simp only [List.size_toArray, sizeLine_eq]; omega))); intro D' h' F' N' l1; (try k_lt l1); (try k_sweep))
  k_with "exec For Name Subscript" => (k_here; (rename Fr _ _ _ _ => lF'); (with_unfolding_all refine' For_turns lF' ?_; k_whole))
  k_with "exec For Name Subscript cons nil" => (k_here; (rename Fr _ _ _ _ => lF'); (with_unfolding_all refine' For_turns lF' ?_; k_whole))
  k_with "pyIter ref" => (k_here; refine Stop.out ?_)
  unfold PureN
  k_fill
  intro loose mean mg mb dp un gd cn cs a ccd cl outer A₀ base h₀ L m s Q E B F X T hk hpre hd hu hret
  obtain ⟨hj1, hj2, hj3⟩ := hpre
  refine wpAny_call ?_
  k_dflt (refine' code_def0 ?k1 ?k2 ?k3 ?k5 ?kA ?kF ?kK ?k6 ?k7 ?k8 ?k9 ?kB ?_ ?c2 ?c3 ?c4 ?c5; (case kA => exact rfl); (case kF => exact rfl); (case kK => first | assumption | exact rfl); (case k1 => k_asm); (case k2 => k_asm); (case k3 => k_asm); (case k5 => k_asm); (case k6 => k_is); (case k7 => k_is); (case k8 => ktr_room); (case k9 => first | exact BindsTo.of_eq rfl | exact binds_K (by k_in) rfl (by k_is) rfl rfl rfl); (case c5 => decide); (case kB => exact locs rfl); (case c2 => exact rfl); (case c3 => exact rfl); (case c4 => exact rfl); k_whole; intro g' L' h' HE' F' N' B' X' T'; (try dsimp only); (try k_fold); (first | (refine e_fold ?_; intro A9 e9) | (refine a_fold ?_; intro A9) | skip))
  generalize s.toks + _ = tk0
  replace F' : Fr g' L' h' (fun y => List.lookup y ([(Str.ofString "script", Value.ref l0)] : List (Str × Value))) := F'
  have hl' := Heap.IsList.at hj1 (fun o e => HE' l0 o e)
  k_steps
  unfold Stop
  rename Fr _ _ _ _ => F6
  refine for_num rfl rfl rfl (hj2.take _) F6 N' (num_start _) ?turn ?fin
  case turn =>
    intro st7 c7 t7 h7 tk7 I7 oI7 hDI7 F7 N7
    obtain ⟨n7, u7⟩ := st7
    unfold numMk at F7
    dsimp only at F7
    k_steps
    exact ⟨rfl, _, _, _, _, rfl, by assumption, by assumption, num_turn⟩
  case fin =>
    intro ov7 st7 h7 tk7 F7 N7
    obtain ⟨n7, u7⟩ := st7
    unfold numMk at F7
    dsimp only at F7
    k_steps
    refine' hret _ _ _ ?qe ?qp
    case qe => exact fun b o e => Fr.keep (by assumption) b o (HE' b o e)
    case qp =>
      rename News g' L' _ _ => N9
      exact ⟨_, _, rfl, fun q hq => by rw [List.mem_singleton.mp hq]; exact ⟨(N9 _ (List.mem_cons_self ..)).1, ext_none HE' (N9 _ (List.mem_cons_self ..)).2.2⟩, penO⟩
end

section
set_option maxHeartbeats 4000000
open PySem PySem.W PyProof.Rows PySem.Calls PySem.Spec
/-- the kind that a sign stands for -/
noncomputable def signKind (c : Nat) : Str :=
  if c = 110 then Str.ofString "number" else if c = 78 then Str.ofString "name" else if c = 115 then Str.ofString "string" else if c = 97 then Str.ofString "array"
  else if c = 68 then Str.ofString "dict" else if c = 80 then Str.ofString "property" else Str.ofString "shown"
noncomputable def agreeB (sg : Str) (ks : List Str) : Bool :=
  if sg == Str.ofString "+" then ks == [Str.ofString "numbers"] else if sg == Str.ofString "*" then ks == [Str.ofString "colour"]
  else ks == sg.cps.toList.map signKind && !(ks == [Str.ofString "numbers"] || ks == [Str.ofString "colour"]) && decide (ks.length ≤ 6) && sg.cps.toList.all fun c => [110, 78, 115, 97, 68, 80, 116].contains c
theorem agree_all : (lawTab.all fun p => match tabGet allTab p.1 with | some ks => agreeB p.2 ks | none => false) = true := by decide +kernel
theorem agree_known : (allTab.all fun p => (lawGet p.1).isSome) = true := by decide +kernel
theorem known_get {word sg : Str} (h : lawGet word = some sg) : ∃ ks, tabGet allTab word = some ks ∧ agreeB sg ks = true := by
  unfold lawGet at h
  cases hf : lawTab.find? (fun p => p.1 = word) with
  | none => rw [hf] at h; cases h
  | some p =>
    rw [hf] at h
    cases h
    have e : p.1 = word := by simpa using List.find?_some hf
    have := List.all_eq_true.mp agree_all p (List.mem_of_find?_eq_some hf)
    rw [e] at this
    cases ht : tabGet allTab word with
    | none => rw [ht] at this; cases this
    | some ks => rw [ht] at this; exact ⟨ks, rfl, this⟩
theorem unknown_get {word : Str} (h : lawGet word = none) : tabGet allTab word = none := by
  unfold tabGet
  cases hf : allTab.find? (fun p => p.1 = word) with
  | none => rfl
  | some p =>
    have e : p.1 = word := by simpa using List.find?_some hf
    have := List.all_eq_true.mp agree_known p (List.mem_of_find?_eq_some hf)
    rw [e, h] at this
    cases this
theorem item_ok (k : Kd) : itemOk k = (k == .int || k == .real || k == .string) := by cases k <;> decide +kernel
theorem fit_sign {c : Nat} (h : [110, 78, 115, 97, 68, 80, 116].contains c = true) (ob : Ob) : fitS ob ⟨#[c]⟩ = fitsB (signKind c) ob := by
  simp only [List.contains_cons, List.contains_nil, Bool.or_false, Bool.or_eq_true, beq_iff_eq] at h
  rcases h with rfl | rfl | rfl | rfl | rfl | rfl | rfl
  · rw [show (⟨#[110]⟩ : Str) = Str.ofString "n" by decide +kernel, show signKind 110 = Str.ofString "number" by decide +kernel]
    unfold fitS fitsB
    rw [if_pos rfl, if_pos (by decide +kernel)]; rfl
  · rw [show (⟨#[78]⟩ : Str) = Str.ofString "N" by decide +kernel, show signKind 78 = Str.ofString "name" by decide +kernel, ← fitS_N]
    unfold fitsB
    rw [if_neg (by decide +kernel), if_neg (by decide +kernel), if_neg (by decide +kernel)]
  · rw [show (⟨#[115]⟩ : Str) = Str.ofString "s" by decide +kernel, show signKind 115 = Str.ofString "string" by decide +kernel, ← fitS_s]
    unfold fitsB
    rw [if_neg (by decide +kernel), if_neg (by decide +kernel), if_neg (by decide +kernel)]
  · rw [show (⟨#[97]⟩ : Str) = Str.ofString "a" by decide +kernel, show signKind 97 = Str.ofString "array" by decide +kernel, ← fitS_a]
    unfold fitsB
    rw [if_neg (by decide +kernel), if_neg (by decide +kernel), if_neg (by decide +kernel)]
  · rw [show (⟨#[68]⟩ : Str) = Str.ofString "D" by decide +kernel, show signKind 68 = Str.ofString "dict" by decide +kernel, ← fitS_D]
    unfold fitsB
    rw [if_neg (by decide +kernel), if_neg (by decide +kernel), if_neg (by decide +kernel)]
  · rw [show (⟨#[80]⟩ : Str) = Str.ofString "P" by decide +kernel, show signKind 80 = Str.ofString "property" by decide +kernel, ← fitS_P]
    unfold fitsB
    rw [if_neg (by decide +kernel), if_pos (by decide +kernel)]
  · rw [show (⟨#[116]⟩ : Str) = Str.ofString "t" by decide +kernel, show signKind 116 = Str.ofString "shown" by decide +kernel, ← fitS_t]
    unfold fitsB
    rw [if_neg (by decide +kernel), if_neg (by decide +kernel), if_pos (by decide +kernel), show itemOk = (fun k => k == .int || k == .real || k == .string) from funext item_ok]
noncomputable def allFit : List Ob → List Nat → Bool
  | o :: os, c :: cs => fitS o ⟨#[c]⟩ && allFit os cs
  | _, _ => true
theorem misfit_none : ∀ {obs : List Ob} {cs : List Nat}, (cs.all fun c => [110, 78, 115, 97, 68, 80, 116].contains c) = true → (misfit obs (cs.map signKind) = none ↔ allFit obs cs = true)
  | [], cs, _ => by cases cs <;> simp [misfit, allFit]
  | o :: obs, [], _ => by simp [misfit, allFit]
  | o :: obs, c :: cs, h => by
    rw [List.all_cons, Bool.and_eq_true] at h
    rw [List.map_cons]
    unfold misfit allFit
    rw [fit_sign h.1 o]
    cases fitsB (signKind c) o with
    | false => simp
    | true => simpa using misfit_none h.2
theorem range_fit : ∀ (os : List Ob) (cs : List Nat), os.length = cs.length → ((List.range cs.length).all fun i => match os[i]?, cs[i]? with
    | some ob, some c => fitS ob ⟨#[c]⟩
    | _, _ => false) = allFit os cs
  | [], [], _ => rfl
  | [], _ :: _, h => by simp at h
  | _ :: _, [], h => by simp at h
  | o :: os, c :: cs, h => by
    rw [List.length_cons, List.range_succ_eq_map, List.all_cons, List.all_map]
    unfold allFit
    rw [← range_fit os cs (by simpa using h)]
    rfl
theorem rt_fit {sg : Str} {obs : List Ob} (h : obs.length = sg.cps.size) : rtTo sg obs sg.cps.size = allFit obs sg.cps.toList := by
  rw [← range_fit obs sg.cps.toList (by simpa using h)]
  unfold rtTo
  simp only [Array.length_toList, Array.getElem?_toList]
  try rfl
theorem row_none {c : Bool} {ks : List Kd} : (rowTx c ks == Str.ofString "") = rowOk c ks ∧ (rowTx c ks == Str.ofString "unknown operator") = false := by
  unfold rowTx
  cases rowOk c ks <;> cases c <;> exact ⟨by decide +kernel, by decide +kernel⟩
theorem fitn (ob : Ob) : fitS ob (Str.ofString "n") = ob.k.num := by unfold fitS; rw [if_pos rfl]; rfl
theorem right_plus (obs : List Ob) : rowOk false (obs.map (·.k)) = lawRight (Str.ofString "+") obs := by
  unfold rowOk lawRight
  rw [if_pos rfl]
  simp [List.all_map, Function.comp_def, fitn]
theorem fitN (ob : Ob) : fitS ob (Str.ofString "N") = (ob.k == .name) := by rw [← fitS_N, name_text]
theorem right_star (obs : List Ob) : rowOk true (obs.map (·.k)) = lawRight (Str.ofString "*") obs := by
  unfold rowOk lawRight
  rw [if_neg (show ¬ Str.ofString "*" = Str.ofString "+" by decide +kernel), if_pos rfl]
  have e : (true && (obs.map (·.k)).getLastD .null == .name) = decide ((obs.getLast?.map fun ob => fitS ob (Str.ofString "N")) = some true) := by
    rw [List.getLastD_eq_getLast?, List.getLast?_map]
    cases obs.getLast? with
    | none => rfl
    | some ob =>
      simp only [Option.map_some, Option.getD_some, fitN, Bool.true_and, Option.some.injEq]
      generalize ob.k = k
      cases k <;> decide
  rw [e]
  by_cases h : (obs.getLast?.map fun ob => fitS ob (Str.ofString "N")) = some true
  · rw [if_pos (by simpa using h), if_pos h]
    simp only [List.isEmpty_map, fitn, ← List.map_dropLast, List.all_map, Function.comp_def]
  · rw [if_neg (by simpa using h), if_neg h]
    simp [List.all_map, Function.comp_def, fitn]
theorem short_due (n : Nat) (h : n ≤ 6) : (Str.ofString (toString (n : Int)) ++ Str.ofString " operands are due" == Str.ofString "") = false ∧ (Str.ofString (toString (n : Int)) ++ Str.ofString " operands are due" == Str.ofString "unknown operator") = false := by
  have : n = 0 ∨ n = 1 ∨ n = 2 ∨ n = 3 ∨ n = 4 ∨ n = 5 ∨ n = 6 := by omega
  rcases this with rfl | rfl | rfl | rfl | rfl | rfl | rfl <;> exact ⟨by decide +kernel, by decide +kernel⟩
theorem no_text (k : Str) : (Str.ofString "an operand is no " ++ k == Str.ofString "") = false ∧ (Str.ofString "an operand is no " ++ k == Str.ofString "unknown operator") = false := by
  have h0 : (Str.ofString "an operand is no " ++ k).cps[0]? = some 97 := by
    show ((Str.ofString "an operand is no ").cps ++ k.cps)[0]? = _
    rw [Array.getElem?_append_left (by decide +kernel)]
    decide +kernel
  constructor
  · rw [beq_eq_false_iff_ne]
    intro e
    rw [e] at h0
    exact absurd h0 (by decide +kernel)
  · rw [beq_eq_false_iff_ne]
    intro e
    rw [e] at h0
    exact absurd h0 (by decide +kernel)
/-- the plain law -/
theorem fault_known {word sg : Str} (obs : List Ob) (h : lawGet word = some sg) : (opFault word obs == Str.ofString "") = lawRight sg obs ∧ (opFault word obs == Str.ofString "unknown operator") = false := by
  obtain ⟨ks, hk, ha⟩ := known_get h
  unfold agreeB at ha
  unfold opFault
  rw [hk]
  dsimp only
  by_cases h1 : (sg == Str.ofString "+") = true
  · rw [if_pos h1] at ha
    have e1 : ks = [Str.ofString "numbers"] := by simpa using ha
    have e2 : sg = Str.ofString "+" := by simpa using h1
    rw [if_pos e1, e2, ← right_plus]
    exact row_none
  rw [if_neg h1] at ha
  by_cases h2 : (sg == Str.ofString "*") = true
  · rw [if_pos h2] at ha
    have e1 : ks = [Str.ofString "colour"] := by simpa using ha
    have e2 : sg = Str.ofString "*" := by simpa using h2
    rw [if_neg (by rw [e1]; decide +kernel), if_pos e1, e2, ← right_star]
    exact row_none
  rw [if_neg h2] at ha
  simp only [Bool.and_eq_true] at ha
  obtain ⟨⟨⟨a1, a2⟩, a3⟩, a4⟩ := ha
  have a1' : ks = sg.cps.toList.map signKind := by simpa using a1
  have a2' := opf_neither (ks := ks) (by simpa using a2)
  have hlen : ks.length = sg.cps.size := by rw [a1']; simp
  rw [if_neg a2'.1, if_neg a2'.2]
  have hn : ([Str.ofString "+", Str.ofString "*"].any fun z => z == sg) = false := by
    simp only [List.any_cons, List.any_nil, Bool.or_false, Bool.or_eq_false_iff, beq_eq_false_iff_ne, ne_eq]
    exact ⟨fun e => h1 (by rw [e]; exact beq_self_eq_true _), fun e => h2 (by rw [e]; exact beq_self_eq_true _)⟩
  rw [rt_neither hn]
  by_cases h3 : obs.length = ks.length
  · rw [if_neg (by simpa using h3)]
    have e3 : (obs.length == sg.cps.size) = true := by rw [h3, hlen]; exact beq_self_eq_true _
    rw [e3, rt_fit (by rw [h3, hlen]), Bool.true_and]
    have hm := misfit_none (obs := obs) (cs := sg.cps.toList) a4
    rw [← a1'] at hm
    cases hf : misfit obs ks with
    | none =>
      rw [hm.mp hf]
      exact ⟨by decide +kernel, by decide +kernel⟩
    | some k =>
      have : allFit obs sg.cps.toList = false := by
        cases e : allFit obs sg.cps.toList with
        | false => rfl
        | true => rw [hm.mpr e] at hf; cases hf
      rw [this]
      exact no_text k
  · rw [if_pos (by simpa using h3)]
    have e3 : (obs.length == sg.cps.size) = false := by rw [beq_eq_false_iff_ne, ← hlen]; exact h3
    rw [e3, Bool.false_and]
    exact short_due _ (by simpa using a3)
theorem fault_unknown {word : Str} (obs : List Ob) (h : lawGet word = none) : opFault word obs = Str.ofString "unknown operator" := by
  unfold opFault
  rw [unknown_get h]
end

section
set_option maxHeartbeats 4000000
open PySem PySem.W PyProof.Rows PySem.Calls PySem.Spec
/-- the law's operations -/
inductive OpsL (w : World) (G : Gr) : List Value → List (Str × List Ob) → Prop where
  | nil : OpsL w G [] []
  | cons {a : Addr} {word : Str} {obs : List Ob} {vs : List Value} {ops : List (Str × List Ob)} : OpA w G a word obs → OpsL w G vs ops → OpsL w G (.ref a :: vs) ((word, obs) :: ops)
section
variable {w : World} {G G' : Gr} {vs : List Value} {ops : List (Str × List Ob)}
theorem OpsL.mono (x : OpsL w G vs ops) (h : ∀ a o, G a o → G' a o) : OpsL w G' vs ops := by
  induction x with
  | nil => exact .nil
  | cons a _ ih => exact .cons (a.mono h) ih
theorem OpsL.snoc (x : OpsL w G vs ops) {a : Addr} {word : Str} {obs : List Ob} (h : OpA w G a word obs) : OpsL w G (vs ++ [.ref a]) (ops ++ [(word, obs)]) := by
  induction x with
  | nil => exact .cons h .nil
  | cons a _ ih => exact .cons a ih
theorem OpsL.length (x : OpsL w G vs ops) : vs.length = ops.length := by
  induction x with
  | nil => rfl
  | cons _ _ ih => simp [ih]
theorem OpsL.at (x : OpsL w G vs ops) : ∀ {i : Nat} {v : Value}, vs[i]? = some v → ∃ a word obs, v = .ref a ∧ ops[i]? = some (word, obs) ∧ OpA w G a word obs := by
  induction x with
  | nil => intro i v e; simp at e
  | cons a _ ih =>
    intro i v e
    cases i with
    | zero => simp at e; exact ⟨_, _, _, e.symm, rfl, a⟩
    | succ i => simpa using ih (by simpa using e)
theorem OpsL.opsat {h : Heap} (x : OpsL w (inH h) vs ops) : OpsAt h vs ops := by
  induction x with
  | nil => exact .nil
  | cons a _ ih => exact .cons a.opat ih
end
/-- what the comprehension over the operations keeps -/
noncomputable def OpsJ (w : World) (p c : Addr) (oc : Obj) (nw0 : List (Addr × Obj)) (i : Nat) (ys : List Value) (nw : List (Addr × Obj)) : Prop :=
  ∃ op tl ops, nw = (c, oc) :: (p, op) :: tl ∧ PenO op ∧ (∀ q ∈ tl, @Ne Nat q.1 p) ∧ (∀ q ∈ nw0, q ∈ tl) ∧ OpsL w (inL tl) ys ops ∧ ys.length = i
theorem off3_app {I C D : Addr} {a b : List (Addr × Obj)} (ha : LCg.Off3 I C D a) (hb : LCg.Off3 I C D b) : LCg.Off3 I C D (a ++ b) := LCg.Off3.of fun q hq => by
  rcases List.mem_append.mp hq with hq | hq
  · exact ha.mem q hq
  · exact hb.mem q hq
theorem ops_end {w : World} {h₀ h' : Heap} {L I C D c p a : Addr} {oI oC oD oc op op' : Obj} {m : Str → Option Value} {s : Shared} {tl tlO nw0 : List (Addr × Obj)} {ys : List Value} {ops : List (Str × List Ob)} {word : Str} {obs : List Ob} {i tk' : Nat}
    (F : Fr h₀ L h' m) (N : News h₀ L h' (tlO ++ ((I, oI) :: (C, oC) :: (D, oD) :: (c, oc) :: (p, op) :: tl))) (hpo : PenO op) (hoff : ∀ q ∈ tl, @Ne Nat q.1 p) (hsub : ∀ q ∈ nw0, q ∈ tl) (hT : OpsL w (inL tl) ys ops) (hlen : ys.length = i) (hO : OpA w (inL tlO) a word obs)
    (off : LCg.Off3 I C D ((c, oc) :: (p, op') :: tl)) (a1 : ∀ q ∈ tlO, @Ne Nat q.1 I) (a2 : ∀ q ∈ tlO, @Ne Nat q.1 C) (a3 : ∀ q ∈ tlO, @Ne Nat q.1 D) (a4 : ∀ q ∈ tlO, @Ne Nat q.1 p) :
    LCg.CompEnd h₀ L m s I oI C oC D oD (fun _ => True) (fun y nw' => OpsJ w p c oc nw0 (i + 1) (ys ++ [y]) nw') (.ref a) { s with heap := h', toks := tk' } := by
  refine LCg.CompEnd.intro F N ((c, oc) :: (p, op) :: (tlO ++ tl)) (fun q hq => ?_) ⟨off.1, off.2.1, off3_app (LCg.Off3.of fun q hq => ⟨a1 q hq, a2 q hq, a3 q hq⟩) off.2.2⟩ trivial ⟨op, tlO ++ tl, ops ++ [(word, obs)], rfl, hpo, fun q hq => ?_, fun q hq => List.mem_append_right _ (hsub q hq), ?_, by simp [hlen]⟩
  · simp only [List.mem_cons, List.mem_append] at hq ⊢
    rcases hq with h | h | h | h | h | h | h <;> simp [h]
  · rcases List.mem_append.mp hq with hq | hq
    · exact a4 q hq
    · exact hoff q hq
  · exact (hT.mono fun _ _ h => List.mem_append_right _ h).snoc (hO.mono fun _ _ h => List.mem_append_left _ h)
/-- a pen's call that makes objects -/
theorem pen_made {g h h' : Heap} {L p : Addr} {m : Str → Option Value} {op op' : Obj} {led tl9 : List (Addr × Obj)} {gg : Obj → List (Addr × Obj)} (F : Fr g L h m) (N : News g L h led) (hm : (p, op) ∈ led) (U : UpdF p op led gg) (hk : ∀ b o, @Ne Nat b p → h.get? b = some o → h'.get? b = some o) (hg : h'.get? p = some op') (hf : Fresh h h' tl9) :
    Fr g L h' m ∧ News g L h' (tl9 ++ gg op') := ⟨fr_pen F N hm hk, news_fresh F (news_pen N U hk hg) hf⟩
theorem tab_strs : ∀ {tl : List (Addr × Obj)} {kvs : List (Str × Value)} {tab : List (Str × List Str)}, TabL tl kvs tab → kvs.map (·.1) = tab.map (·.1) := by
  intro tl kvs tab x
  induction x with
  | nil => rfl
  | cons _ _ _ ih => simp [ih]
theorem allTab_keys : allTab.map (·.1) = ssA := by decide +kernel
section
variable {prog : Program} {w : World} {A : Around} {E : Value → Shared → Prop} {s : Shared} {Q : Value → Shared → Prop}
theorem words_ne {l b : Addr} {vs us : List Value} {ks : List Str} (hl : s.heap.IsList l vs.toArray) (hb : s.heap.IsList b us.toArray) (x : Strs vs ks) (y : Strs us ks) (hu : A.units < cLine) (h : Q (.bool false) s) : wpAny (model prog w) A (compareOp .NotEq (.ref l) (.ref b)) Q E s := by
  show wpAny (model prog w) A (richCompare .NotEq (.ref l) (.ref b)) Q E s
  have e : (!(List.range vs.toArray.size).all fun _ => true) = false := by simp
  refine (SeqAt.RcNeAt.lists (e := fun _ => true) hl hb (by simp [x.length, y.length]) hu fun j h1 h2 => ?_) prog w E Q (by rw [e]; exact h)
  have h1' : j < vs.length := by simpa using h1
  have h2' : j < us.length := by simpa using h2
  obtain ⟨k, t, hk, hv⟩ := x.at (List.getElem?_eq_getElem h1')
  obtain ⟨k', t', hk', hv'⟩ := y.at (List.getElem?_eq_getElem h2')
  rw [hk] at hk'
  cases hk'
  have q := (eqGives_str k k t t').at A.in1 s
  rw [beq_self_eq_true] at q
  show SeqAt.EqAt _ _ vs.toArray[j] us.toArray[j] true
  simp only [List.getElem_toArray, hv, hv']
  exact q
theorem pair_eq {T T' : Addr} {i : Int} {x : Str} {t u t' u' : Tok} (h1 : s.heap.IsTuple T #[.int i t, .str x u]) (h2 : s.heap.IsTuple T' #[.int i t', .str x u']) (hu : A.units < cLine) : SeqAt.EqAt A s (.ref T) (.ref T') true := by
  by_cases e : T = T'
  · subst e; exact SeqAt.EqAt.same _
  · refine SeqAt.EqAt.of_refs e ?_
    have h := SeqAt.RcAt.tuples (A := A) (e := fun _ => true) h1 h2 hu fun j a b => ?_
    · exact h
    · match j, a, b with
      | 0, _, _ =>
        have q := (MeetsSeq.EqGives.int i i t t').at A.in1 s
        rw [beq_self_eq_true] at q
        exact q
      | 1, _, _ =>
        have q := (eqGives_str x x u u').at A.in1 s
        rw [beq_self_eq_true] at q
        exact q
      | j + 2, a, _ => exact absurd a (by simp)
theorem FAt.at {tl : List (Addr × Obj)} {us : List Value} {l : List (Int × Str)} (x : FAt tl us l) : ∀ {j : Nat} {v : Value}, us[j]? = some v → ∃ T i y t u n, v = .ref T ∧ l[j]? = some (i, y) ∧ (T, ({ cls := .type "tuple", data := .seq #[.int i t, .str y u] n } : Obj)) ∈ tl := by
  induction x with
  | nil => intro j v e; simp at e
  | cons a _ ih =>
    intro j v e
    cases j with
    | zero => simp at e; exact ⟨_, _, _, _, _, _, e.symm, rfl, a⟩
    | succ j => simpa using ih (by simpa using e)
theorem faults_eq {l b : Addr} {us us' : List Value} {fs : List (Int × Str)} {tl tl' : List (Addr × Obj)} (hl : s.heap.IsList l us.toArray) (hb : s.heap.IsList b us'.toArray) (x : FAt tl us fs) (y : FAt tl' us' fs) (hx : ∀ q ∈ tl, s.heap.get? q.1 = some q.2) (hy : ∀ q ∈ tl', s.heap.get? q.1 = some q.2)
    (hu : A.units < cLine) (hu1 : A.in1.units < cLine) (h : Q (.bool true) s) : wpAny (model prog w) A (compareOp .Eq (.ref l) (.ref b)) Q E s := by
  show wpAny (model prog w) A (richCompare .Eq (.ref l) (.ref b)) Q E s
  have e : ((List.range us.toArray.size).all fun _ => true) = true := by simp
  refine (SeqAt.RcAt.lists (e := fun _ => true) hl hb (by simp [x.length, y.length]) hu fun j h1 h2 => ?_) prog w E Q (by rw [e]; exact h)
  have h1' : j < us.length := by simpa using h1
  have h2' : j < us'.length := by simpa using h2
  obtain ⟨T, i, k, t, u, n, hv, hk, hm⟩ := x.at (List.getElem?_eq_getElem h1')
  obtain ⟨T', i', k', t', u', n', hv', hk', hm'⟩ := y.at (List.getElem?_eq_getElem h2')
  rw [hk] at hk'
  cases hk'
  show SeqAt.EqAt _ _ us.toArray[j] us'.toArray[j] true
  simp only [List.getElem_toArray, hv, hv']
  exact pair_eq ⟨_, hx _ hm, rfl, _, rfl⟩ ⟨_, hy _ hm', rfl, _, rfl⟩ hu1
end
/-- the names of the law's loop -/
noncomputable def lMk (m : Str → Option Value) (st : Int × Tok × Option Value × Option Value) : Str → Option Value := fun z => if z = Str.ofString "inside" then some (.int st.1 st.2.1) else if z = Str.ofString "text" then st.2.2.1 else if z = Str.ofString "is_known" then st.2.2.2 else m z
theorem lMk_zero {m : Str → Option Value} {oc : Int} {t : Tok} (h1 : m (Str.ofString "inside") = some (.int oc t)) (h2 : m (Str.ofString "text") = none) (h3 : m (Str.ofString "is_known") = none) (z : Str) : m z = lMk m (oc, t, none, none) z := by
  unfold lMk
  by_cases e1 : z = Str.ofString "inside"
  · rw [if_pos e1, e1, h1]
  · rw [if_neg e1]
    by_cases e2 : z = Str.ofString "text"
    · rw [if_pos e2, e2, h2]
    · rw [if_neg e2]
      by_cases e3 : z = Str.ofString "is_known"
      · rw [if_pos e3, e3, h3]
      · rw [if_neg e3]
theorem lMk_turn {m : Str → Option Value} {T K a b c d e : Option Value} {v : Int} {t : Tok} (z : Str) (hz : z ≠ Str.ofString "at") (hz' : z ≠ Str.ofString "one") :
    (if z = Str.ofString "inside" then some (.int v t) else if z = Str.ofString "is_known" then K else if z = Str.ofString "text" then T else if z = Str.ofString "one" then a else if z = Str.ofString "at" then b else if z = Str.ofString "inside" then c else if z = Str.ofString "text" then d else if z = Str.ofString "is_known" then e else m z) = lMk m (v, t, T, K) z := by
  unfold lMk
  by_cases h1 : z = Str.ofString "inside"
  · simp only [if_pos h1]
  · simp only [if_neg h1, if_neg hz, if_neg hz']
    by_cases h2 : z = Str.ofString "text"
    · have h3 : ¬ z = Str.ofString "is_known" := by rw [h2]; decide +kernel
      simp only [if_neg h3, if_pos h2]
    · simp only [if_neg h2]
      by_cases h3 : z = Str.ofString "is_known"
      · simp only [if_pos h3]
      · simp only [if_neg h3]
/-- what the law's loop keeps -/
noncomputable def LawJ (TL : List (Addr × Obj)) (ops : List (Str × List Ob)) (i : Nat) (st : Int × Tok × Option Value × Option Value) (us : List Value) (tl : List (Addr × Obj)) : Prop := st.1 = (fTo ops i).1 ∧ FAt tl us (fTo ops i).2 ∧ ∀ q ∈ TL, q ∈ tl
theorem l_add {g h' : Heap} {L I d D : Addr} {oI oE : Obj} {m m' : Str → Option Value} {TL : List (Addr × Obj)} {ops : List (Str × List Ob)} {i k n : Nat} {word : Str} {obs : List Ob} {us : List Value} {tl : List (Addr × Obj)} {t t1 t2 : Tok} {v : Int} {tx : Str} {W T : Option Value} {s : Shared} {tk' : Nat} {x y : Str}
    (hJ : FAt tl us (fTo ops i).2) (hTL : ∀ q ∈ TL, q ∈ tl) (h : ops[i]? = some (word, obs)) (ev : v = fCount (fTo ops i).1 word) (et : tx = opFault word obs) (e : fTold (fCount (fTo ops i).1 word) (opFault word obs) = true)
    (F : Fr g L h' m') (N : News g L h' ((D, ({ cls := .type "tuple", data := .seq #[.int (i : Int) t1, .str tx t2] n } : Obj)) :: (I + 1, oE) :: (I, oI) :: (d, listOf (us.toArray.push (.ref D)) k) :: tl)) (hm : ∀ z, z ≠ x → z ≠ y → m' z = lMk m (v, t, W, T) z) (h1 : @Ne Nat D d) (h2 : @Ne Nat D I) (h3 : @Ne Nat D (I + 1)) :
    GEnd g L [(I + 1, oE), (I, oI)] d tl (fun m' us' tl' => ∃ st', (∀ z, z ≠ x → z ≠ y → m' z = lMk m st' z) ∧ LawJ TL ops (i + 1) st' us' tl') s .next { s with heap := h', toks := tk' } := by
  subst ev et
  refine ⟨rfl, h', tk', m', us ++ [.ref D], k, [(D, ({ cls := .type "tuple", data := .seq #[.int (i : Int) t1, .str (opFault word obs) t2] n } : Obj))], rfl, F, fun p hp => N p ?_, fun p hp => ?_, _, hm, fTo_1 h, ?_, fun q hq => List.mem_append_right _ (hTL q hq)⟩
  · have e : us.toArray.push (Value.ref D) = (us ++ [Value.ref D]).toArray := by simp
    rw [e]
    simp only [List.mem_append, List.mem_cons, List.not_mem_nil, or_false] at hp ⊢
    rcases hp with (hp | hp) | hp | hp | hp <;> simp [hp]
  · obtain rfl := List.mem_singleton.mp hp
    refine ⟨h1, fun q hq => ?_⟩
    rcases List.mem_cons.mp hq with rfl | hq
    · exact h3
    · obtain rfl := List.mem_singleton.mp hq; exact h2
  · rw [← fTo_add h e]
    exact (hJ.sub fun p hp => List.mem_append_right _ hp).snoc (List.mem_append_left _ (List.mem_singleton.mpr rfl))
theorem l_not {g h' : Heap} {L I d : Addr} {oI oE : Obj} {m m' : Str → Option Value} {TL : List (Addr × Obj)} {ops : List (Str × List Ob)} {i k : Nat} {word : Str} {obs : List Ob} {us : List Value} {tl : List (Addr × Obj)} {t : Tok} {v : Int} {W T : Option Value} {s : Shared} {tk' : Nat} {x y : Str}
    (hJ : FAt tl us (fTo ops i).2) (hTL : ∀ q ∈ TL, q ∈ tl) (h : ops[i]? = some (word, obs)) (ev : v = fCount (fTo ops i).1 word) (e : fTold (fCount (fTo ops i).1 word) (opFault word obs) = false)
    (F : Fr g L h' m') (N : News g L h' ((I + 1, oE) :: (I, oI) :: (d, listOf us.toArray k) :: tl)) (hm : ∀ z, z ≠ x → z ≠ y → m' z = lMk m (v, t, W, T) z) :
    GEnd g L [(I + 1, oE), (I, oI)] d tl (fun m' us' tl' => ∃ st', (∀ z, z ≠ x → z ≠ y → m' z = lMk m st' z) ∧ LawJ TL ops (i + 1) st' us' tl') s .next { s with heap := h', toks := tk' } := by
  subst ev
  exact ⟨rfl, h', tk', m', us, k, [], rfl, F, N, (fun p hp => nomatch hp), _, hm, fTo_1 h, by rw [← fTo_not h e]; exact hJ, hTL⟩
end

section
set_option maxHeartbeats 4000000
open PySem PySem.W PyProof.Rows PySem.Calls PySem.Spec
section
variable {prog : Program} {w : World} {A : Around} {E : Value → Shared → Prop} {s : Shared} {Q : Value → Shared → Prop}
theorem eq_val {x y : Str} {t u : Tok} {b : Bool} (e : (x == y) = b) (h : Q (.bool b) s) : wpAny (model prog w) A (compareOp .Eq (.str x t) (.str y u)) Q E s := PyProof.Rows.eq_str (by rw [e]; exact h)
theorem ne_val {c d b : Bool} (e : (c != d) = b) (h : Q (.bool b) s) : wpAny (model prog w) A (compareOp .NotEq (.bool c) (.bool d)) Q E s := PyProof.Rows.ne_bool (by rw [e]; exact h)
theorem known_in {kvs : List (Str × Value)} (x : SgK kvs lawTab) (word : Str) : (valueAt kvs word).isSome = (lawGet word).isSome := by
  rcases x.get word with ⟨a, b⟩ | ⟨sg, t, a, b⟩
  · rw [a]; unfold lawGet; rw [b]; rfl
  · rw [a]; unfold lawGet; rw [b]; rfl
theorem in_words {h₀ : Heap} {L d : Addr} {news : List (Addr × Obj)} {o : Obj} {kvs : List (Str × Value)} {word : Str} {t : Tok} {b : Bool} (N : News h₀ L s.heap news) (hp : (d, o) ∈ news) (hd : o.IsDictOf (kndW w) kvs) (x : SgK kvs lawTab) (lo : (d == sysModules) = false) (hb : (lawGet word).isSome = b) (h : Q (.bool b) { s with toks := s.toks + 1 }) :
    wpAny (model PySem.Challenge.rw_nn0217_01.row.prog w) A (compareOp .In (.str word t) (.ref d)) Q E s := kda_in N hp hd lo (strKind_is _ _ _ _) b (by rw [known_in x, hb]) h
end
theorem fTo_nonneg {ops : List (Str × List Ob)} : ∀ (i : Nat), 0 ≤ (fTo ops i).1
  | 0 => Int.le_refl _
  | i + 1 => by
    have ih := fTo_nonneg (ops := ops) i
    unfold fTo
    split
    · exact ih
    · dsimp only
      unfold fCount fDown fUp
      split <;> split <;> rename_i h1 h2 <;> (try simp only [Bool.and_eq_true, decide_eq_true_eq] at h1) <;> (try simp only [Bool.and_eq_true, decide_eq_true_eq] at h2) <;> omega
theorem lstart {h₀ h : Heap} {L : Addr} {m : Str → Option Value} {ops : List (Str × List Ob)} {TL : List (Addr × Obj)} {x y : Str} (_F : Fr h₀ L h m) (h1 : ∃ t, m (Str.ofString "inside") = some (.int 0 t)) (h2 : m (Str.ofString "text") = none) (h3 : m (Str.ofString "is_known") = none) :
    ∃ st₀, (∀ z, z ≠ x → z ≠ y → m z = lMk m st₀ z) ∧ LawJ TL ops 0 st₀ [] TL := by
  obtain ⟨t, h1⟩ := h1
  exact ⟨(0, t, none, none), fun z _ _ => lMk_zero h1 h2 h3 z, rfl, .nil, fun q hq => hq⟩
theorem lc_bx {oc : Int} {word : Str} (h : (word == Str.ofString "BX") = true) : oc + 1 = fCount oc word := by
  have e : word = Str.ofString "BX" := by simpa using h
  unfold fCount fDown fUp
  rw [if_pos h, if_neg]
  rw [e, show (Str.ofString "BX" == Str.ofString "EX") = false by decide +kernel]
  simp
theorem lc_up {oc : Int} {word : Str} (h : (word == Str.ofString "BX") = false) : fCount oc word = fDown oc word := by
  unfold fCount fUp
  rw [if_neg (by rw [h]; decide)]
theorem lc_else {oc : Int} {word : Str} (h : (word == Str.ofString "BX") = false) (hn : 0 ≤ oc) : (if (oc - if (word == Str.ofString "EX") = true then 1 else 0) > 0 then oc - (if (word == Str.ofString "EX") = true then 1 else 0) else 0) = fCount oc word := by
  rw [lc_up h]
  unfold fDown
  cases (word == Str.ofString "EX") with
  | false =>
    simp only [Bool.false_eq_true, if_false, Bool.false_and]
    split <;> omega
  | true =>
    simp only [if_true, Bool.true_and, decide_eq_true_eq]
    split <;> split <;> omega
theorem lt_add_none {oc v : Int} {word : Str} {obs : List Ob} (hf : opFault word obs = Str.ofString "unknown operator") (ev : v = fCount oc word) (hz : v = 0) : fTold (fCount oc word) (opFault word obs) = true := by
  rw [← ev, hz, hf]; decide +kernel
theorem lt_not_none {oc v : Int} {word : Str} {obs : List Ob} (hf : opFault word obs = Str.ofString "unknown operator") (ev : v = fCount oc word) (hz : v ≠ 0) : fTold (fCount oc word) (opFault word obs) = false := by
  rw [hf]
  exact fTold_3 (by rw [← ev]; exact hz) (by decide +kernel)
theorem lt_add_some {oc : Int} {tx : Str} (h : (tx == Str.ofString "unknown operator") = false) (h1 : (tx != Str.ofString "") = true) : fTold oc tx = true := fTold_2 h1 (by rw [bne, h]; rfl)
end

section
set_option maxHeartbeats 40000000
open PySem PySem.W PyProof.Rows PySem.Calls PySem.Spec
theorem fin0 : PySem.Challenge.rw_nn0217_01.Holds := by
  k_with_none
  k_with "lt" => first | with_reducible assumption | exact lt_0 (by with_reducible assumption) | exact lt_1 (by with_reducible assumption) | exact lt_2 (by with_reducible assumption) | exact lt_3 (by with_reducible assumption) | exact lt_4 (by with_reducible assumption) | exact lt_5 (by with_reducible assumption) | exact lt_6 (by with_reducible assumption) | exact lt_7 (by with_reducible assumption) | exact lt_0 (dr8 (by with_reducible assumption)) | exact lt_1 (dr8 (by with_reducible assumption)) | exact lt_2 (dr8 (by with_reducible assumption)) | exact lt_3 (dr8 (by with_reducible assumption)) | exact lt_4 (dr8 (by with_reducible assumption)) | exact lt_5 (dr8 (by with_reducible assumption)) | exact lt_6 (dr8 (by with_reducible assumption)) | exact lt_7 (dr8 (by with_reducible assumption)) | exact lt_0 (dr8 (dr8 (by with_reducible assumption))) | exact lt_1 (dr8 (dr8 (by with_reducible assumption))) | exact lt_2 (dr8 (dr8 (by with_reducible assumption))) | exact lt_3 (dr8 (dr8 (by with_reducible assumption))) | exact lt_4 (dr8 (dr8 (by with_reducible assumption))) | exact lt_5 (dr8 (dr8 (by with_reducible assumption))) | exact lt_6 (dr8 (dr8 (by with_reducible assumption))) | exact lt_7 (dr8 (dr8 (by with_reducible assumption))) | exact lt_0 (dr8 (dr8 (dr8 (by with_reducible assumption)))) | exact lt_1 (dr8 (dr8 (dr8 (by with_reducible assumption)))) | exact lt_2 (dr8 (dr8 (dr8 (by with_reducible assumption)))) | exact lt_3 (dr8 (dr8 (dr8 (by with_reducible assumption)))) | exact lt_4 (dr8 (dr8 (dr8 (by with_reducible assumption)))) | exact lt_5 (dr8 (dr8 (dr8 (by with_reducible assumption)))) | exact lt_6 (dr8 (dr8 (dr8 (by with_reducible assumption)))) | exact lt_7 (dr8 (dr8 (dr8 (by with_reducible assumption)))) | exact lt_0 (dr8 (dr8 (dr8 (dr8 (by with_reducible assumption))))) | exact lt_1 (dr8 (dr8 (dr8 (dr8 (by with_reducible assumption))))) | exact lt_2 (dr8 (dr8 (dr8 (dr8 (by with_reducible assumption))))) | exact lt_3 (dr8 (dr8 (dr8 (dr8 (by with_reducible assumption))))) | exact lt_4 (dr8 (dr8 (dr8 (dr8 (by with_reducible assumption))))) | exact lt_5 (dr8 (dr8 (dr8 (dr8 (by with_reducible assumption))))) | exact lt_6 (dr8 (dr8 (dr8 (dr8 (by with_reducible assumption))))) | exact lt_7 (dr8 (dr8 (dr8 (dr8 (by with_reducible assumption)))))
  k_with "nd" => first | exact nd_0 (by with_reducible assumption) | exact nd_1 (by with_reducible assumption) | exact nd_2 (by with_reducible assumption) | exact nd_3 (by with_reducible assumption) | exact nd_4 (by with_reducible assumption) | exact nd_5 (by with_reducible assumption) | exact nd_6 (by with_reducible assumption) | exact nd_7 (by with_reducible assumption) | exact nd_8 (by with_reducible assumption)
  k_with "ne" => (refine neN ?_; (try dsimp only); first | with_reducible assumption | exact Ne.symm (by with_reducible assumption) | (refine ne_z ?_; k_extra "lt") | (refine ne_s ?_; k_extra "lt") | (refine ne_zz (by with_reducible assumption) ?_; k_extra "lt") | (refine ne_ss (by with_reducible assumption) ?_; k_extra "lt") | k_extra "nd" | (dsimp only [AllLt] at *; omega))
  k_with "call ref" => (k_here; (with_reducible show wpAny _ _ (call (Value.ref 355) [_]) _ _ _); k_dflt ((refine' pen_c w l0 vs0 ns ?zzB ?zzF ?zzX ?zzT ?zzhk ?zzpre ?zzdd ?zzuu ?_; (case zzB => k_asm); (case zzF => k_asm); (case zzX => k_asm); (case zzT => k_asm); (case zzhk => first | exact rfl | assumption); (case zzpre => exact ⟨Heap.IsList.at hj1 (fun o e => Fr.keep (by k_asm) _ o e), hj2, hj3⟩); (case zzdd => ktr_room); (case zzuu => ktr_units)); intro v' h' tk' e' p'; (obtain ⟨p, op, ev', hfp, hpo⟩ := p'; subst ev'); (have F' := fr_ext (by k_asm) e'); (have N' := news_fresh (by k_asm) (news_ext (by assumption) e') hfp); (have hp1 := fresh_ne (a := L' + 1) (by assumption) (by k_mem) hfp _ (List.mem_cons_self ..)); (dsimp only at hp1); (simp only [List.cons_append, List.nil_append] at N')))
  k_with "call ref" => (k_here; (with_reducible show wpAny _ _ (call (Value.ref 374) _) _ _ _); k_dflt ((refine' words_c w ?zzB ?zzF ?zzX ?zzT ?zzhk trivial ?zzdd ?zzuu ?_; (case zzB => k_asm); (case zzF => k_asm); (case zzX => k_asm); (case zzT => k_asm); (case zzhk => first | exact rfl | assumption); (case zzdd => ktr_room); (case zzuu => ktr_units)); intro v' h' tk' e' p'; (obtain ⟨dw, ow, kvw, ev', hfw, hdw, hkw, low⟩ := p'; subst ev'); (have F' := fr_ext (by k_asm) e'); (have N' := news_fresh (by k_asm) (news_ext (by assumption) e') hfw); (have hw1 := fresh_ne (a := L' + 1) (by assumption) (by k_mem) hfw _ (List.mem_cons_self ..)); (have hw2 := fresh_ne (a := p) (by assumption) (by k_mem) hfw _ (List.mem_cons_self ..)); (dsimp only at hw1 hw2); (simp only [List.cons_append, List.nil_append] at N')))
  k_with "call ref" => (k_here; (with_reducible show wpAny _ _ (call (Value.ref 324) _) _ _ _); k_dflt ((refine' operand_c w ?zzB ?zzF ?zzX ?zzT ?zzhk trivial ?zzdd ?zzuu ?_; (case zzB => k_asm); (case zzF => k_asm); (case zzX => k_asm); (case zzT => k_asm); (case zzhk => first | exact rfl | assumption); (case zzdd => ktr_room); (case zzuu => ktr_units)); intro v' h' tk' e' p'; (obtain ⟨da, oa, tla, kva, ev', hfa, hoa, hda, hka, loa⟩ := p'; subst ev'); (have F' := fr_ext (by k_asm) e'); (have N' := news_fresh (l := [(da, oa)]) (by k_asm) (news_ext (by assumption) e') (fun q hq => hfa q (by rw [List.mem_singleton.mp hq]; exact List.mem_cons_self ..))); (have ha1 := fresh_ne (a := L' + 1) (by assumption) (by k_mem) hfa _ (List.mem_cons_self ..)); (have ha2 := fresh_ne (a := p) (by assumption) (by k_mem) hfa _ (List.mem_cons_self ..)); (have ha3 := fresh_ne (a := dw) (by assumption) (by k_mem) hfa _ (List.mem_cons_self ..)); (dsimp only at ha1 ha2 ha3); (simp only [List.cons_append, List.nil_append] at N')))
  k_with "call type:list" => (k_here; (with_reducible show wpAny _ _ (call (Value.type "list") [Value.ref dw]) _ _ _); k_dflt ((refine list_words rfl (by k_asm) (by k_asm) (by k_mem) hdw low (by rw [hkw.length, rows_len.2]; decide) ?_); (intro D9 c9 h9 tk9 vs9 F9 N9 l19 hs9); (k_lt l19)))
  k_with "call type:list" => (k_here; (with_reducible show wpAny _ _ (call (Value.type "list") [Value.ref da]) _ _ _); k_dflt ((refine list_words rfl (by k_asm) (by k_asm) (by k_mem) hda loa (by rw [hka.length]; decide +kernel) ?_); (intro D7 c7 h7 tk7 vs7 F7 N7 l17 hs7); (k_lt l17)))
  k_with "call builtin:sorted" => (k_here; (with_reducible show wpAny _ _ (call (Value.builtin "sorted") [Value.ref D9]) _ _ _); k_dflt ((refine sort_words chkL (by decide +kernel) (by decide +kernel) (by decide +kernel) (by decide +kernel) (by k_asm) (by k_asm) (news_list (by k_asm) (by k_mem)) (by rw [← ssL_eq, ← hkw.keys]; exact hs9) ?_); (intro h8 D8 vs8 e8 F8 N8 l18 hs8); (k_lt l18)))
  k_with "call builtin:sorted" => (k_here; (with_reducible show wpAny _ _ (call (Value.builtin "sorted") [Value.ref D7]) _ _ _); k_dflt ((refine sort_words chkA (by decide +kernel) (by decide +kernel) (by decide +kernel) (by decide +kernel) (by k_asm) (by k_asm) (news_list (by k_asm) (by k_mem)) (by rw [← allTab_keys, ← tab_strs hka]; exact hs7) ?_); (intro h6 D6 vs6 e6 F6 N6 l16 hs6); (k_lt l16)))
  k_with "compareOp NotEq ref ref" => (k_here; (with_reducible show wpAny _ _ (compareOp CmpOp.NotEq (Value.ref D6) (Value.ref D8)) _ _ _); k_dflt (refine' words_ne ?zzl ?zzb hs6 hs8 ?zzu ?_; (case zzl => exact news_list (by k_asm) (by k_mem)); (case zzb => exact news_list (by k_asm) (by k_mem)); (case zzu => ktr_units)))
  k_with "exec Assign cons ListComp" => (k_here; k_dflt (refine LCg.Assign_ListComp_U (F₀ := by k_asm) (by rfl) (by with_unfolding_all rfl) (by with_unfolding_all rfl) (by decide) (by rfl) (by decide) (by rfl) (by rfl) (by rfl) ?_))
  k_with "CompSrc" => (k_here; refine Stop.out ?_)
  k_with "CompEnd" => (refine Stop.out ?_)
  k_with "call ref" => (k_here; (with_reducible show wpAny _ _ (call (Value.ref 403) [_]) _ _ _); k_dflt ((refine' oper_c w p ?zzB ?zzF ?zzX ?zzT ?zzhk ?zzN1 ?zzpn trivial ?zzdd ?zzuu ?_; (case zzB => k_asm); (case zzF => k_asm); (case zzX => k_asm); (case zzT => k_asm); (case zzhk => first | exact rfl | assumption); (case zzN1 => exact news_mem N7 (by k_mem)); (case zzpn => assumption); (case zzdd => ktr_room); (case zzuu => ktr_units)); intro v' h' tk' op' hk' hg' hpn' p'; (obtain ⟨aO, wordO, obsO, tlO, ev', hOp, hfO⟩ := p'; subst ev'); (obtain ⟨F', N'⟩ := pen_made F8 N7 (by k_mem) (by (repeat' (first | exact UpdF.head (by assumption) | refine' UpdF.tail ?_ ?_ | k_ne))) hk' hg' hfO); (try dsimp only at N')))
  k_with "eval Name" => (k_here; (with_reducible show wpAny _ _ (eval (PySem.Expr.Name _ _) (compEnvC _ _ _ _)) _ _ _); k_dflt (first | refine LCgL.ld_global F8 KX T (by k_is) ?_ | refine kcf_cell N7 rfl (by k_mem) docp ?_))
  k_with "exec For Tuple Call" => (k_here; (rename Fr _ _ _ _ => lF'); (with_unfolding_all refine' For_turns lF' ?_; k_whole))
  k_with "call type:enumerate" => (k_here; refine Stop.out ?_)
  k_with "call ref" => (k_here; (with_reducible show wpAny _ _ (call (Value.ref 341) [_]) _ _ _); k_dflt ((refine' opfault_c w a7 word7 obs7 ?zzB ?zzF ?zzX ?zzT ?zzhk ?zzpre ?zzdd ?zzuu ?_; (case zzB => k_asm); (case zzF => k_asm); (case zzX => k_asm); (case zzT => k_asm); (case zzhk => first | exact rfl | assumption); (case zzpre => (rename News _ _ _ _ => lN'; exact (hop7.mono fun b o q => (lN' (b, o) (by repeat (first | exact q | refine List.mem_cons_of_mem _ ?_))).1).opat)); (case zzdd => ktr_room); (case zzuu => ktr_units)); intro v' h' tk' e' p'; (obtain ⟨tk9, e9⟩ := p'); (first | rw [hfu7] at e9 | skip); (subst e9); (have F' := fr_ext (by k_asm) e'); (have N' := news_ext (by k_asm) e')))
  k_with "call ref" => (k_here; (with_reducible show wpAny _ _ (call (Value.ref 396) [_]) _ _ _); k_dflt ((refine' right_c w a7 word7 sg7 obs7 hg7 ?zzB ?zzF ?zzX ?zzT ?zzhk ?zzpre ?zzdd ?zzuu ?_; (case zzB => k_asm); (case zzF => k_asm); (case zzX => k_asm); (case zzT => k_asm); (case zzhk => first | exact rfl | assumption); (case zzpre => (rename News _ _ _ _ => lN'; exact (hop7.mono fun b o q => (lN' (b, o) (by repeat (first | exact q | refine List.mem_cons_of_mem _ ?_))).1))); (case zzdd => ktr_room); (case zzuu => ktr_units)); intro v' h' tk' e' p'; (subst p'); (have F' := fr_ext (by k_asm) e'); (have N' := news_ext (by k_asm) e')))
  k_with "getAttr ref" => (k_here; (with_reducible show wpAny _ _ (getAttr (Value.ref a7) _ _) _ _ _); k_dflt (rename News _ _ _ _ => lN'; (refine' get_own ?zzk1 ?zzk2 ?zzk3 ?zzk4 ?zzk5 ?zzk6 ?zzk7 ?zzk8 ?zzk9 ?_; (case zzk3 => exact op_inst (lN' (a7, instObj 294 dx0) (by repeat (first | exact hi1 | refine List.mem_cons_of_mem _ ?_))).1 (lN' (dx0, dictOf es0 n0) (by repeat (first | exact hi2 | refine List.mem_cons_of_mem _ ?_))).1 (fun _ _ e => e)); (case zzk1 => k_asm); (case zzk2 => k_asm); (case zzk4 => k_is); (case zzk5 => k_is); (case zzk6 => k_is); (case zzk7 => k_is); (case zzk8 => assumption); (case zzk9 => k_handed); k_whole)))
  k_with "compareOp In str ref" => (k_here; (with_reducible show wpAny _ _ (compareOp CmpOp.In (Value.str word7 _) (Value.ref dw)) _ _ _); k_dflt (rename News _ _ _ _ => lN'; refine in_words lN' (by repeat (first | exact hdw7 | refine List.mem_cons_of_mem _ ?_)) hdw hkw low hkb7 ?_))
  k_with "compareOp Eq str str" => (k_here; (with_reducible show wpAny _ _ (compareOp CmpOp.Eq (Value.str (opFault word7 obs7) _) _) _ _ _); k_dflt (first | refine eq_val hft7 ?_ | refine eq_val hfe7 ?_))
  k_with "compareOp NotEq bool bool" => (k_here; (with_reducible show wpAny _ _ (compareOp CmpOp.NotEq (Value.bool (lawRight sg7 obs7)) (Value.bool (lawRight sg7 obs7))) _ _ _); k_dflt (refine ne_val (bne_self_eq_false _) ?_))
  k_with "call builtin:list.append" => (k_here; k_dflt ((refine' append_K ?zzaF ?zzaN ?zzaU ?_ ?zzaz; (case zzaF => k_asm); (case zzaN => k_asm); (case zzaU => (repeat' (first | exact Upd.head off7 | refine' Upd.tail ?_ ?_ | k_ne))); (case zzaz => (have hq1 := hJ7b.length; have hq2 := fTo_len (ops := ops8) (i := i7); simp only [List.size_toArray, sizeLine_eq]; omega))); intro h' F' N'))
  k_with "call ref" => (k_here; (with_reducible show wpAny _ _ (call (Value.ref 348) [Value.ref D5]) _ _ _); k_dflt ((refine' opfaults_c w D5 ys8 ops8 ?zzB ?zzF ?zzX ?zzT ?zzhk ?zzpre ?zzdd ?zzuu ?_; (case zzB => k_asm); (case zzF => k_asm); (case zzX => k_asm); (case zzT => k_asm); (case zzhk => first | exact rfl | assumption); (case zzpre => (rename News _ _ _ _ => lN'; exact ⟨news_list lN' (List.mem_cons_of_mem _ hD7), (hT8.mono fun b o q => (lN' (b, o) (List.mem_cons_of_mem _ (hJ7c _ (List.mem_cons_of_mem _ (List.mem_cons_of_mem _ q))))).1).opsat, by omega⟩)); (case zzdd => ktr_room); (case zzuu => ktr_units)); intro v' h' tk' e' p'; (obtain ⟨dZ, usZ, nZ, tlZ, ev', hfZ, htZ⟩ := p'; subst ev'); (have F' := fr_ext (by k_asm) e'); (have N' := news_fresh (by k_asm) (news_ext (by assumption) e') hfZ); (simp only [List.cons_append] at N')))
  k_with "compareOp Eq ref ref" => (k_here; (with_reducible show wpAny _ _ (compareOp CmpOp.Eq (Value.ref dZ) (Value.ref dd6)) _ _ _); k_dflt (rename News _ _ _ _ => lN'; refine' faults_eq (news_list lN' (List.mem_cons_self ..)) (news_list lN' (List.mem_cons_of_mem _ (List.mem_append_right _ (List.mem_cons_self ..)))) htZ hJ7b (fun q hq => (lN' q (List.mem_cons_of_mem _ (List.mem_append_left _ hq))).1) (fun q hq => (lN' q (List.mem_cons_of_mem _ (List.mem_append_right _ (List.mem_cons_of_mem _ hq)))).1) ?zzu ?zzu1 ?_; (case zzu => ktr_units); (case zzu1 => ktr_units)))
  w_on
  refine holds_law said fun said => ?_
  refine holds_open (q := vq) (loose := lo) (Xt := Xt) (XP := XL vq []) (Yf := hk.obs)
   (Ya := hk.val) (YP := hk.says) (N := 5662) left (Hook.of hk) (Hook.keeps hk) (fun s e => xl_of s (Bool.and_eq_true_iff.mp e).1) XL.keeps (by rfl) (by rfl) (by rfl)
   (fun s e => recFacts_of (Bool.and_eq_true_iff.mp e).2) (by rfl) (by first | assumption | decide +kernel) (by decide +kernel) ⟨rfl,rfl,rfl,rfl,rfl,by decide +kernel⟩ ?hw ?hc
  case hw => w_witness2
  case hc =>
    have kf : (PySem.Challenge.rw_nn0217_01 = PySem.Challenge.rw_nn0217_01) ∧ K = K := by
      k_fill
      exact ⟨rfl, rfl⟩
    clear kf
    intro w s₀ s₁ mg mb G Y fa o pm cd doc dV kV ho hd hcd hD hmg hg args vals as hpre hlay hrd hwl hlo
    have KX := kIn_of Y
    have X := (Ground.X G).1
    have V := (Ground.X G).2
    refine Ground.open G ?_
    intro T B D TE TW
    try (refine guard_noD D (by decide +kernel) ?_; clear D)
    have TA := at_of_top T
    obtain ⟨_, _, he, B0⟩ := based_of_top T rfl hmg ho hd
    have he' : cd = _ := he
    subst he'
    clear he
    clear hmg
    wrow_args hpre hlay hrd hwl hlo
    refine enter_call ?_
    w_top on
    refine codeAny_mono ?_ (fun _ _ g => GoodW.toG g)
    have K0 := below_caller (Top.heap T)
    w_call any ho hd hcd hD T F
    clear hd TA
    k_drop
    w_top off
    rename Heap.IsList _ _ _ => hj1
    rename IntsAre _ _ => hj2
    rename ¬ _ < _ => hlt
    have hj3 := hj2.length
    rename List Int => ns
    rename List Value => vs0
    replace hj3 : vs0.length ≤ 63 := by omega
    clear hlt
    rename Fr _ _ _ _ => F0
    rename News _ _ _ _ => N0
    rename Below _ _ _ _ => B0
    rename CellsAre _ _ _ => Y0
    rename _ = Data.cell _ => d0
    rename_i w8 w7 hs hlay hL hr hl2 w4 w3 l0 w1 ra wl r0 hrr hc h₁ tk₁ oc0
    clear hcd hD B TE TW V X Y0
    have B1 : Below callerA s₁.heap [] s₁.heap := B0
    clear B0
    replace F0 : Fr s₁.heap s₁.heap.objs.size h₁ (fun y => if y = Str.ofString "script" then some (.ref l0) else none) := by with_unfolding_all exact F0
    replace d0 : oc0.data = .cell none := by with_unfolding_all exact d0
    generalize s₁.heap.objs.size = L' at F0 N0 ⊢
    k_steps
    unfold Stop
    rename IsRange _ _ _ _ _ _ _ _ => R9
    rename Fr _ _ _ _ => F9
    rename News _ _ _ _ => N9
    obtain ⟨ocp, docp, N8⟩ : ∃ oc, oc.data = Data.cell (some (Value.ref p)) ∧ News s₁.heap L' _ [(L' + 1, oc), (p, op), (dw, ow)] := by
      refine ⟨_, ‹_ = Data.cell (some (Value.ref p))›, fun q hq => ?_⟩
      simp only [List.mem_cons, List.not_mem_nil, or_false] at hq
      rcases hq with rfl | rfl | rfl <;> exact N9 _ (by k_mem)
    refine' LCg.CompSrc.range (n := 12) rfl F9 N8 R9 ?sm ?rs ?sz ?go
    case sm => exact range_sm (by decide) (by decide)
    case rs => exact range_len (by decide)
    case sz => rw [sizeLine_eq]; decide
    case go =>
      intro g9
      refine' rest_ind (OpsJ w p (L' + 1) ocp [(dw, ow)]) ?J0 ?fin ?turn
      case J0 => exact ⟨op, [(dw, ow)], [], rfl, hpo, fun q hq => by rw [List.mem_singleton.mp hq]; exact hw2, fun q hq => hq, .nil, rfl⟩
      case turn =>
        intro i8 ys8 nw8 hi8 hJ8 v8 I9 oI9 C9 oC9 D9 m8 h8 tk8 E8 hv8 hC8 hx8 F8 N7 off8 ne8
        obtain ⟨op8, tl8, ops8, rfl, hpo8, hoff8, hsub8, hT8, hlen8⟩ := hJ8
        have hp1 : @Ne Nat p I9 := off8.2.1.1
        have hp2 : @Ne Nat p C9 := off8.2.1.2.1
        have hp3 : @Ne Nat p D9 := off8.2.1.2.2
        dsimp only
        k_steps
        unfold Stop
        exact ops_end F' N' hpn' hoff8 hsub8 hT8 hlen8 hOp off8 (fresh_ne N7 (by k_mem) hfO) (fresh_ne N7 (by k_mem) hfO) (fresh_ne N7 (by k_mem) hfO) (fresh_ne N7 (by k_mem) hfO)
      case fin =>
        intro ys8 nw8 hJ8
        obtain ⟨op8, tl8, ops8, rfl, hpo8, hoff8, hsub8, hT8, hlen8⟩ := hJ8
        clear N9 N8 F9 R9
        intro D5 h5 tk5 F5 N5 o5
        dsimp only
        k_steps
        unfold Stop
        rename Fr _ _ _ _ => F6
        rename News _ _ _ _ => N6
        rename _ ∧ _ ∧ _ ∧ AllLt _ tl8 => l6
        rename_i dd6 hA6 T6 hB6 l62 hC6 hD6 hE6
        have hdw8 : (dw, ow) ∈ tl8 := hsub8 _ (List.mem_singleton.mpr rfl)
        have N5' : News s₁.heap L' hE6 ((dd6, listOf (List.toArray []) 0) :: (D5, listOf (List.toArray ys8) ys8.length) :: (p, op8) :: tl8) := fun q hq => N6 q (by
          simp only [List.mem_cons] at hq ⊢
          rcases hq with h | h | h | h <;> simp [h])
        clear N6
        refine for_enum (lMk _) (LawJ ((D5, listOf (List.toArray ys8) ys8.length) :: (p, op8) :: tl8) ops8) rfl rfl rfl rfl F6 N5' (List.mem_cons_self ..) ?off6 (lstart F6 ?s1 ?s2 ?s3) ?turn6 ?fin6
        case s1 => exact ⟨_, by with_unfolding_all rfl⟩
        case s2 => with_unfolding_all rfl
        case s3 => with_unfolding_all rfl
        case off6 =>
          intro q hq
          simp only [List.mem_cons] at hq
          rcases hq with rfl | rfl | hq
          · exact Nat.ne_of_lt l6.1
          · exact Nat.ne_of_lt l6.2.2.1
          · exact Nat.ne_of_lt (tb_ltOf l6.2.2.2 q hq)
        case turn6 =>
          intro i7 v7 st7 us7 k7 tl7 t7 h7 tk7 I7 oE7 oI7 hv7 hJ7 hdI7 hD7 off7 offI7 offI1 F7 N7
          obtain ⟨oc7, ot7, ox7, ok7⟩ := st7
          obtain ⟨hJ7a, hJ7b, hJ7c⟩ := hJ7
          dsimp only at hJ7a
          subst hJ7a
          have hnn7 := fTo_nonneg (ops := ops8) i7
          have hi12 : i7 < 12 := by rw [← hlen8]; exact (List.getElem?_eq_some_iff.mp hv7).1
          obtain ⟨a7, word7, obs7, rfl, ho7, hO7⟩ := hT8.at hv7
          have hop7 : OpA w (inL tl7) a7 word7 obs7 := hO7.mono fun b o q => hJ7c _ (List.mem_cons_of_mem _ (List.mem_cons_of_mem _ q))
          have hdw7 : (dw, ow) ∈ tl7 := hJ7c _ (List.mem_cons_of_mem _ (List.mem_cons_of_mem _ hdw8))
          obtain ⟨dx0, es0, n0, t0, l1, vs1, c0, hi1, hi2, hi3, hi4, hi5, hi6, hi7⟩ := id hop7
          unfold lMk at F7
          dsimp only at F7
          clear F6 N5'
          cases hg7 : lawGet word7 with
          | none =>
            have hkb7 : (lawGet word7).isSome = false := by rw [hg7]; rfl
            have hfu7 := fault_unknown obs7 hg7
            dsimp only
            k_steps
            all_goals
              rename Fr _ _ _ _ => lF
              rename News _ _ _ _ => lN
              try dsimp only at lF
              first
              | (refine l_add hJ7b hJ7c ho7 ?_ hfu7.symm ?_ lF lN lMk_turn ?_ ?_ ?_
                 · with_reducible first | exact lc_bx (by assumption) | exact lc_else (by assumption) hnn7
                 · with_reducible first | refine lt_add_none hfu7 (lc_bx (by assumption)) (by assumption) | refine lt_add_none hfu7 (lc_else (by assumption) hnn7) (by assumption)
                 · k_ne
                 · k_ne
                 · k_ne)
              | (refine l_not hJ7b hJ7c ho7 ?_ ?_ lF lN lMk_turn
                 · with_reducible first | exact lc_bx (by assumption) | exact lc_else (by assumption) hnn7
                 · with_reducible first | refine lt_not_none hfu7 (lc_bx (by assumption)) (by assumption) | refine lt_not_none hfu7 (lc_else (by assumption) hnn7) (by assumption))
          | some sg7 =>
            have hkb7 : (lawGet word7).isSome = true := by rw [hg7]; rfl
            obtain ⟨hfe7, hft7⟩ := fault_known obs7 hg7
            dsimp only
            k_steps
            all_goals
              rename Fr _ _ _ _ => lF
              rename News _ _ _ _ => lN
              try dsimp only at lF
              first
              | (refine l_add hJ7b hJ7c ho7 ?_ rfl ?_ lF lN lMk_turn ?_ ?_ ?_
                 · with_reducible first | exact lc_bx (by assumption) | exact lc_else (by assumption) hnn7
                 · with_reducible first | exact lt_add_some hft7 (by assumption)
                 · k_ne
                 · k_ne
                 · k_ne)
              | (refine l_not hJ7b hJ7c ho7 ?_ ?_ lF lN lMk_turn
                 · with_reducible first | exact lc_bx (by assumption) | exact lc_else (by assumption) hnn7
                 · with_reducible first | exact fTold_4 (by assumption))
        case fin6 =>
          intro ox7 oy7 st7 us7 k7 tl7 h7 tk7 hJ7 off7 hD7 F7 N7
          obtain ⟨oc7, ot7, oz7, ok7⟩ := st7
          obtain ⟨hJ7a, hJ7b, hJ7c⟩ := hJ7
          rw [hT8.length] at hJ7b
          unfold lMk at F7
          dsimp only at F7
          clear F6 N5'
          dsimp only
          k_steps
end
end Mine
theorem PySem.Challenge.cw_nn0217_01_holds : PySem.Challenge.rw_nn0217_01.Holds := by
  exact Mine.fin0
