import PyProof.Rows.All
import Wide.All
import OpenK.AllK
import Wide.FinOn
import HandS.ForMost
import HandS.Sort
import HandS.RevTup
import HandS.Rev
import KE.GoesMore
import HandS.Defaults
import HandS.Conv
import HandS.NoneIn
import HandS.IsInst
import HandS.Wide
import HandS.Walk
import HandS.HeadHook4
import PySem.Challenge.RW_strokegrow_k55_whole_reach_touched
import HandS.OwnEq
import Lean
import KE.KStateDown
import HandS.Head0
import HandS.Head1
import HandS.Head2
import HandS.HeadEnd
/-! ## SgRules -/
set_option autoImplicit true
set_option Elab.async false
set_option maxRecDepth 100000
set_option maxHeartbeats 4000000
/-! four rules of our own: a class without an __init__ made; reversed(text); enumerate(text); sum(d.values()) -/
namespace SG
open PySem PySem.Spec PyProof.Rows L2
/-! ### C() where C has object's __init__ alone -/
structure Mk0 (K : PySem.W.Frag) (C : Addr) : Prop where
  mks : PySem.W.makesIn K C = true
  ini : PySem.W.findIn K (.ref C) "__init__" = some (some (.builtin "object.__init__"))
  kp : PySem.W.keepIn K (Value.ref C) = true
def tMk0 (C : Addr) : TE := fun _ H Q => ∀ x dx, H x = none → H dx = none → dx ≠ x → Q (.ref x) (upd (upd H dx (.own x)) x (.ins C dx []))
theorem pe_mk0 {X : Cx} {C : Addr} {x : Str} {p pos : Pos} (M : Mk0 X.K C) (hg : Gl X x) (hm : X.mg x = some (.ref C)) (hdb : (x == ("__debug__" : Str)) = false := by decide) :
    PE X (.Call (.Name x p) [] [] pos) (tMk0 C) := by
  refine ⟨fun pins s σ H Q I h => wpAny_Call_Name_kw (ld_glob I hg hm ?_ hdb)⟩
  have q := h (s.heap.objs.size + 1) s.heap.objs.size (I.hok.fresh (Nat.le_succ _)) (I.hok.fresh (Nat.le_refl _)) (Nat.ne_of_lt (Nat.lt_succ_self _))
  have J := Inv.made (C := C) I
  have kin := I.kIn
  refine PySem.W.callWith_K0 kin M.kp (wpAny_call (make_map0 kin M.mks M.ini (fun self => PySem.W.Looks.of_pure (PySem.W.oi_bind self)) ?_))
  have T : PySem.W.Looks (model X.prog X.w) ((s.heap.push PySem.W.emptyDict).push (PySem.W.instObj C s.heap.objs.size)) (isInstance (.ref (s.heap.objs.size + 1)) (.type "object")) true := by
    have g : ((s.heap.push PySem.W.emptyDict).push (PySem.W.instObj C s.heap.objs.size)).get? (s.heap.objs.size + 1) = some (PySem.W.instObj C s.heap.objs.size) := by
      have top := Heap.get?_push_size (s.heap.push PySem.W.emptyDict)
        (o := PySem.W.instObj C s.heap.objs.size) rfl
      rwa [Heap.size_push] at top
    have t1 : PySem.W.Looks (model X.prog X.w) ((s.heap.push PySem.W.emptyDict).push (PySem.W.instObj C s.heap.objs.size)) (typeOf (.ref (s.heap.objs.size + 1))) (.ref C) := (PySem.W.Looks.ld g).andThen .now
    exact t1.andThen ((PySem.W.makes_of (M := model X.prog X.w) kin M.mks).top.keeps fun b o e => Heap.get?_push_of_some _ (Heap.get?_push_of_some _ e))
  refine codeAny_call_builtin PySem.W.oi_plain PySem.W.entry_oi (@PySem.W.check_slot (model X.prog X.w) _ _ _ "object.__init__" "object" "__init__" (.ref (s.heap.objs.size + 1)) [] [] _ PySem.W.oi_kind PySem.W.oi_split T (PySem.W.oi_args (.ref (s.heap.objs.size + 1))) ?_)
  rw [PySem.W.oi_run]
  exact wpAny_pure (And.intro rfl ⟨V.ref (s.heap.objs.size + 1), _, J, rfl, q⟩)

/-! ### sum(d.values()) -/
def tSumVals (td : TE) : TE := fun σ H Q => td σ H fun x H1 => ∃ (a : Addr) (kvs : List (Key × V)) (zs : List Int), x = V.ref a ∧ H1 a = some (.dK kvs) ∧ kvs.map (·.2) = zs.map V.int ∧ Q (.int zs.sum) H1
theorem preSum_list (zs : List Int) : preSum (fun i => zs.getD i 0) zs.length = zs.sum := by
  have h : ∀ n, n ≤ zs.length → preSum (fun i => zs.getD i 0) n = (zs.take n).sum := by
    intro n
    induction n with
    | zero => intro _; rfl
    | succ n ih =>
      intro hn
      show preSum _ n + zs.getD n 0 = _
      have e : zs[n]? = some (zs.getD n 0) := by rw [List.getD_eq_getElem?_getD, List.getElem?_eq_getElem (by omega)]; rfl
      rw [ih (by omega), sum_take e]
  rw [h _ (Nat.le_refl _), List.take_of_length_le (Nat.le_refl _)]
theorem pe_sumVals {X : Cx} {o : Expr} {p pos apos mpos : Pos} {td : TE} (hc : X.calm = true) (hg : Gl X "sum") (hm : X.mg "sum" = none) (hd : PE X o td)
    (hb : attributeBase o "values" X.env (eval o X.env) = eval o X.env := by rfl) (hl : (apos.endLine == mpos.line) = true := by rfl)
    (hs : starEach [Expr.Call (.Attribute o "values" apos) [] [] mpos] X.env = [(false, eval (Expr.Call (.Attribute o "values" apos) [] [] mpos) X.env)] := by rfl) :
    PE X (.Call (.Name "sum" p) [.Call (.Attribute o "values" apos) [] [] mpos] [] pos) (tSumVals td) := by
  refine ⟨fun pins s σ H Q I h => wpAny_Call_Name_kw (ld_blt I hg hm (u := .builtin "sum") (by first | rfl | decide +kernel) ?_ (by decide +kernel) (by decide +kernel))⟩
  rw [hs]
  refine PySem.callWith_builtin1 (wpAny_Call_method0_late hb hl (thn (hd.run pins s σ H _ I h) fun v s1 z => ?_))
  obtain ⟨x, H1, I1, r1, a, kvs, zs, ex, hA, hZ, q⟩ := z
  subst ex
  cases (show v = Value.ref a from r1)
  obtain ⟨_, plain0, kus, pairs, of0⟩ := dk_of I1.hok hA
  have ⟨pe, dd⟩ := of0.dictAt
  obtain ⟨o0, es, hd0, ex, da0, ko0, pr0, nd0⟩ := id dd
  refine ⟨"dict", "dict.values", F.plainAttrs_dict, F.slot_dict_values, F.type_dict_values, ⟨o0, hd0, ex.1⟩, fun b e => ?_, Calls.callWith_builtin rfl (PySem.evalArgs_none ?_)⟩
  · cases e
    exact ⟨o0, hd0, ex.2.1⟩
  refine call_meetsIn F.slot_dict_values ⟨o0, hd0, ex.1⟩ F.entry_dict_values (F.args_dict_values_1 _) (meets_dict_values (mixKind X.prog X.w) a plain0) ⟨⟨kus, of0⟩, ?_⟩
  have old : ∀ b u, s1.heap.get? b = some u → (s1.heap.push { cls := .type "dict_values", data := .fields #[.ref a] }).get? b = some u := fun b u e => Heap.get?_push_of_some _ e
  have dd1 : (s1.heap.push { cls := .type "dict_values", data := .fields #[.ref a] }).DictAt (mixKind X.prog X.w) a kus pe := dd.keep old
  have hlen : kus.length = zs.length := by
    have l1 : (kvs.map (·.2)).length = (zs.map V.int).length := by rw [hZ]
    simp only [List.length_map] at l1
    exact (KV.length pairs).symm.trans l1
  have hat : ∀ (i : Nat) (v : Value), (∃ k, kus[i]? = some (k, v)) → ∃ t, v = Value.int (zs.getD i 0) t := fun i v ⟨k, hk⟩ => by
    obtain ⟨x, h1, h2⟩ := KV.at' pairs hk
    have e1 : (kvs.map (·.2))[i]? = some x := List.getElem?_map.trans (by rw [h1]; rfl)
    rw [hZ, List.getElem?_map] at e1
    have ⟨j, hj, e2⟩ := Option.map_eq_some_iff.mp e1
    subst e2
    obtain ⟨t, e3⟩ := h2
    exact ⟨t, by rw [e3, List.getD_eq_getElem?_getD, hj] <;> rfl⟩
  have inside : a < s1.heap.objs.size := Heap.lt_size hd0
  have grown : (s1.heap.push { cls := .type "dict_values", data := .fields #[.ref a] }).objs.size = s1.heap.objs.size + 1 := Heap.size_push _ _
  refine call_sum_walkAnyS (wpAny_pyIter_values (v := s1.heap.objs.size) (d := a) ⟨_, Heap.get?_push_size _ rfl, rfl, rfl⟩ dd1 ?_)
  refine ⟨_, _, _, _, _, _, _, fun i => zs.getD i 0, rfl, (Walks.dictValues (knd := mixKind X.prog X.w) (A := X.A.in1) (I.ok.hd hc) (s1.heap.push { cls := .type "dict_values", data := .fields #[.ref a] }).objs.size a (by rw [grown]; exact Nat.ne_of_lt (Nat.lt_succ_of_lt inside)) kus pe).toS,
    ⟨⟨_, Heap.get?_push_size _ rfl, rfl, rfl⟩, dd1.keep fun b u e => Heap.get?_push_of_some _ e⟩, fun b hb => ?_, hat, fun s' t' mv => ?_⟩
  · have top : ∀ u, ((s1.heap.push { cls := .type "dict_values", data := .fields #[.ref a] }).push u).objs.size = s1.heap.objs.size + 1 + 1 := fun u => (Heap.size_push _ u).trans (congrArg (· + 1) grown)
    refine Nat.lt_of_lt_of_eq ?_ (top _).symm
    rw [grown, List.mem_cons, List.mem_singleton] at hb
    rcases hb with e | e
    · exact e ▸ Nat.lt_succ_self _
    · rw [e]; exact Nat.lt_succ_of_lt (Nat.lt_succ_of_lt inside)
  · have kp : ∀ b u, s1.heap.get? b = some u → s'.heap.get? b = some u := fun b u e => mv.heap b u (fun hI => by
      have e1 := List.mem_singleton.mp hI
      have e2 := Heap.lt_size e
      rw [grown] at e1
      rw [e1] at e2
      exact absurd e2 (Nat.not_lt.mpr (Nat.le_succ _))) (Heap.get?_push_of_some _ (old b u e))
    rw [Moved.eq_with mv]
    refine ⟨.int zs.sum, H1, I1.kept (t' := s'.toks) kp, ⟨t', ?_⟩, q⟩
    rw [hlen, preSum_list]

/-! ### enumerate(text) -/
def ItE (z : Str) : It :=
  ⟨fun i _ => i < z.cps.size, fun i H v H' => ∃ T c, v = .ref T ∧ H T = none ∧ z.cps[i]? = some c ∧ H' = upd H T (.tup [.int (i : Nat), .str ⟨#[c]⟩]), fun i _ => z.cps.size ≤ i⟩
theorem turn_enumS {P : Program} {w : World} {K : PySem.W.Frag} {elts : List Expr} {kk : Nat} {tpos : Pos} (z : Str) (t : Tok) (e it : Addr) :
    Turn P w K (.Tuple elts kk tpos) (ItE z) [e, it] e (fun i h => (∃ old, IsEnum h e it ((i : Nat) : Int) old) ∧ (i ≤ z.cps.size ∧ h.IsStrIter it (strIterType z) z t i) ∧ e ≠ it) where
  mem := List.mem_cons_self
  obj := fun i h st b hb => by
    obtain ⟨⟨old, hen⟩, ⟨_, hi⟩, _⟩ := st
    obtain ⟨o, ho, hc, hd⟩ := hi
    rcases (show b = e ∨ b = it by simpa using hb) with q | q
    · rw [q]; exact ⟨_, hen, fun v q => nomatch q⟩
    · rw [q]; exact ⟨o, ho, fun v q => by rw [hd] at q; cases q⟩
  keep := fun i h h' st k => by
    obtain ⟨⟨old, hen⟩, ⟨hle, o, ho, hr⟩, apart⟩ := st
    exact ⟨⟨old, k e (by simp) _ hen⟩, ⟨hle, o, k it (by simp) o ho, hr⟩, apart⟩
  item := by
    intro X e1 e2 e3 hc i pins s σ H E I hf st hg
    subst e1 e2 e3
    obtain ⟨⟨old, hen⟩, ⟨hle, hin⟩, apart⟩ := st
    have more : i < z.cps.size := hg
    have ltE : e < s.heap.objs.size := Heap.lt_size hen
    have ltI : it < s.heap.objs.size := by obtain ⟨_, q, _⟩ := hin; exact Heap.lt_size q
    refine wpAny_pyNext_enum_itemD (Draws.text (prog := X.prog) (w := X.w) (A := X.A.in1) (I.ok.hd hc) it z t) hen hin more apart (fun q => apart (List.mem_singleton.mp q)) fun x h' tk hx ho hit' hT hsz hk => ?_
    obtain ⟨c, u, hc', ex⟩ := hx
    refine ⟨_, rfl, wpAny_letOwnedTupleGo_enum (s := { s with heap := h', toks := tk + 1 }) ho fun h'' he' sb => ?_⟩
    have hT2 : h''.get? s.heap.objs.size = some { cls := .type "tuple", data := .seq #[.int i tk, x] } := (sb.2 _ (Nat.ne_of_gt ltE)).trans hT
    have rx : RelV (.str ⟨#[c]⟩) x := ⟨u, ex⟩
    have new : ObjOk X.prog X.w (upd H s.heap.objs.size (.tup [.int (i : Nat), .str ⟨#[c]⟩])) h'' s.heap.objs.size (.tup [.int (i : Nat), .str ⟨#[c]⟩]) :=
      ⟨by show 2 ≤ sizeLine; decide, [.int i tk, x], .cons ⟨_, rfl⟩ (.cons rx .nil), ⟨_, hT2, rfl, _, rfl⟩⟩
    have J : Inv X pins σ (upd H s.heap.objs.size (.tup [.int (i : Nat), .str ⟨#[c]⟩])) { s with heap := h'', toks := tk + 1 } :=
      I.turnedNew (ch := [e, it]) (fun b ob hb q => (sb.2 b (fun y => hb (by simp [y]))).trans (hk b ob (fun y => hb (by simp [y])) (fun y => hb (by simp [y])) q)) hf (Nat.le_refl _) new
    obtain ⟨oi, hoi, hri⟩ := hit'
    refine ⟨.ref s.heap.objs.size, _, J, rfl, ⟨_, c, rfl, I.hok.fresh (Nat.le_refl _), hc', rfl⟩, ⟨⟨x, ?_⟩, ⟨more, oi, (sb.2 it (Ne.symm apart)).trans hoi, hri⟩, apart⟩, fun b hb => ?_⟩
    · rw [show ((i + 1 : Nat) : Int) = (i : Int) + 1 by omega]
      exact he'
    · have inHeap : b < s.heap.objs.size := by
        have two : b = e ∨ b = it := by simpa using hb
        rcases two with q | q
        · rw [q]; exact ltE
        · rw [q]; exact ltI
      rw [upd_ne (Nat.ne_of_lt inHeap)]
      exact (hf b hb).1
  done := by
    intro X e1 e2 e3 hc i pins s σ H E I hf st hg
    subst e1 e2 e3
    obtain ⟨⟨old, hen⟩, ⟨hle, hin⟩, apart⟩ := st
    have over : z.cps.size ≤ i := hg
    have ei : i = z.cps.size := Nat.le_antisymm hle over
    subst ei
    have ⟨f0, f1, f2, f3, f4, f5⟩ := hf it (by simp)
    exact wpAny_pyNext_enum_endD (Draws.text (prog := X.prog) (w := X.w) (A := X.A.in1) (I.ok.hd hc) it z t) hen hin fun h' eb => ⟨rfl, I.turned (t' := s.toks) (fun b o hb q => eb b o hb q) f0 f1 f3 f4 f5⟩
  self := fun A i s Q E st h => wpAny_pyIter_enum st.1.choose_spec h
def iEnumS (ta : TA) : TI := fun σ H R => ta σ H fun vs H1 => ∃ z : Str, vs = [.str z] ∧ R (ItE z) H1
theorem pi_enumS {X : Cx} {e : Expr} {ta : TA} {p pos tpos : Pos} {elts : List Expr} {kk : Nat} (hg : Gl X "enumerate") (hm : X.mg "enumerate" = none) (ha : PA X [e] ta) (hs : starEach [e] X.env = [(false, eval e X.env)] := by rfl) :
    PI X (.Tuple elts kk tpos) (.Call (.Name "enumerate" p) [e] [] pos) (iEnumS ta) := by
  refine ⟨fun pins s σ H R I h => Call_ (ld_blt I hg hm boot_enumerate (PyProof.Rows.callWith_type1 (thn (ha.run pos pins s σ H _ I h) fun us s1 y => ?_) hs rfl))⟩
  obtain ⟨vs, H1, I1, r1, z, ex, q⟩ := y
  subst ex
  cases r1 with
  | cons r rr =>
    cases rr
    obtain ⟨t, rfl⟩ := r
    refine call_enumerate_str fun h' hen hin hsz hk => wpAny_pyIter_enum hen ?_
    have J : Inv X pins σ H1 { s1 with heap := h' } := I1.kept (t' := s1.toks) hk
    refine ⟨s1.heap.objs.size + 1, [s1.heap.objs.size + 1, s1.heap.objs.size], _, _, H1, rfl, J, turn_enumS z t (s1.heap.objs.size + 1) s1.heap.objs.size, ⟨⟨.none, hen⟩, ⟨Nat.zero_le _, hin⟩, Nat.succ_ne_self _⟩, fun b hb => ?_, q⟩
    have behind : s1.heap.objs.size ≤ b := by
      have two : b = s1.heap.objs.size + 1 ∨ b = s1.heap.objs.size := by simpa using hb
      rcases two with y | y
      · rw [y]; exact Nat.le_add_right _ _
      · rw [y]; exact Nat.le_refl _
    exact I1.fpOk behind (I1.hok.fresh behind)

/-! ### reversed(text) -/
theorem norev_str : typeLookup (.type "str") "__reversed__" = pure none := by rw [typeLookup_type, builtinLookup_eq_fast]; kernel_rfl
theorem get_str : typeLookup (.type "str") "__getitem__" = pure (some (.builtin "str.__getitem__")) := by rw [typeLookup_type, builtinLookup_eq_fast]; kernel_rfl
def rsObj (z : Str) (t : Tok) (i : Int) : Obj := { cls := .type "reversed", data := .fields #[.str z t, rawInt i] }
def IsRs (h : Heap) (a : Addr) (z : Str) (t : Tok) (i : Int) : Prop := ∃ o, h.get? a = some o ∧ o.cls = .type "reversed" ∧ o.data = .fields #[.str z t, rawInt i]
section
variable {prog : Program} {w : World} {A : Around} {s : Shared}
variable {E : Value → Shared → Prop}
theorem code_revS {z : Str} {t : Tok} {Q₁ : Value → Shared → Prop} (hz : z.length ≤ sizeLine)
    (h : Q₁ (.ref s.heap.objs.size) { s with heap := s.heap.push (rsObj z t ((z.length : Int) - 1)), toks := s.toks + 1 + 1 }) :
    codeAny (model prog w) A (.call (.builtin "reversed.__new__") ⟨[.type "reversed", .str z t], []⟩) (wants Q₁ E) s := by
  have hT : s.TypeIs (.str z t) "str" := typeIs_str s z t
  refine codeAny_of_tree ?_
  show wpAny _ A.in1 (do checkBuiltinCall "reversed.__new__" ⟨[.type "reversed", .str z t], []⟩; again (.builtin "reversed.__new__" ⟨[.type "reversed", .str z t], []⟩)) _ _ s
  have quiet := F.plain_reversed_new
  refine wpAny_bind (wpAny_of_eq (F.newCall_reversed_1 _)
    (wpAny_pure ⟨plainId_quiet quiet _, codeAny_builtin F.entry_reversed_new ?_⟩))
  rw [Around.under_plainId quiet _]; unfold Builtin.«reversed.__new__»
  -- which class, which value
  refine wpAny_bind (wpAny_of_eq
    (newClass_reversed _) ?_)
  dsimp only
  refine wpAny_bind
    (wpAny_of_eq (a := ()) (by first | rfl | kernel_rfl) ?_)
  try dsimp only
  refine wpAny_bind
    (wpAny_of_eq (a := ()) (by first | rfl | kernel_rfl) ?_)
  try dsimp only
  refine wpAny_bind (wpAny_specialOf hT norev_str ?_)
  try dsimp only
  refine wpAny_bind ?_
  wp_delta
  refine wpAny_bind (wpAny_isInstance (T := "str") (U := "dict") (b := false) hT (by rw [isSubtype_type]; kernel_rfl) ?_)
  try dsimp only
  try rw [if_neg (fun q => Bool.false_ne_true q)]
  try dsimp only
  refine wpAny_bind (wpAny_specialOf hT get_str ?_)
  try dsimp only
  try rw [if_pos (show _ from by decide +kernel)]
  refine wpAny_pure ?_
  try dsimp only
  try rw [if_neg (by decide)]
  try dsimp only
  have hn := line63
  refine wpAny_bind (PyProof.Rows.len_str (by omega) ?_)
  refine wpAny_bind (wpAny_of_eq (a := some ((z.length : Nat) : Int)) rfl ?_)
  try dsimp only
  refine wpAny_bind ?_
  show wpAny _ _ (newObj (.type "reversed") (.fields #[.str z t, rawInt ((z.length : Int) - 1)])) _ _ _
  refine wpAny_newObj_type ?_
  exact wpAny_pure h
theorem call_revS {z : Str} {t : Tok} {Q : Value → Shared → Prop} (hz : z.length ≤ sizeLine)
    (h : Q (.ref s.heap.objs.size) { s with heap := s.heap.push (rsObj z t ((z.length : Int) - 1)), toks := s.toks + 1 + 1 }) : wpAny (model prog w) A (call (.type "reversed") [.str z t]) Q E s := by
  refine callType_codes (Q₁ := fun obj s₁ => s₁.TypeIs obj "reversed" ∧ Q obj s₁) RT.called_rt (F.typeCall_reversed_1 _) F.entry_object_init (code_revS (A := A.in1) hz ⟨⟨_, Heap.get?_push_size _ rfl, rfl⟩, h⟩) fun obj s₁ h₁ => ?_
  exact ⟨h₁.1, F.args_object_init_2 obj _, object_init_meets RT.called_rt.init.lookup RT.called_rt.made (by decide) prog w A.in1 _ s₁ ⟨h₁.1, rfl, h₁.2⟩⟩
theorem next_rs {it : Addr} {z : Str} {t : Tok} {i : Nat} {c : Nat} {Q : Option Value → Shared → Prop} (hr : IsRs s.heap it z t (i : Int)) (hx : z.cps[i]? = some c) (hz : z.length ≤ sizeLine)
    (hQ : ∀ h' tk u, IsRs h' it z t ((i : Int) - 1) → Heap.SameBut it s.heap h' → Q (some (.str ⟨#[c]⟩ u)) { s with heap := h', toks := tk }) : wpAny (model prog w) A (pyNext (.ref it)) Q E s := by
  have ⟨o, hAt, hc, hDat⟩ := id hr
  have hi : i < z.cps.size := (Array.getElem?_eq_some_iff.mp hx).1
  have hzl : z.length = z.cps.size := rfl
  have hT : s.TypeIs (.ref it) "reversed" := ⟨o, hAt, hc⟩
  have hS : s.TypeIs (.str z t) "str" := typeIs_str s z t
  have hn := line63
  unfold pyNext
  refine wpAny_bind (wpAny_attempt (wpAny_callSpecial?_slot (name := Str.ofString "__next__") hT RT.slot_rt_next
    (wpAny_call_entry RT.slot_rt_next hT RT.entry_rt_next ?_ (RT.args_rt_next _))))
  unfold Builtin.«reversed.__next__»; refine wpAny_bind (wpAny_of_eq rfl ?_ (a := (Value.ref it, [])))
  try dsimp only
  refine wpAny_bind (wpAny_field hAt hDat (x := .str z t) rfl ?_)
  try dsimp only
  refine wpAny_bind (wpAny_field hAt hDat (x := rawInt (i : Int)) rfl ?_)
  show wpAny _ _ (if ((i : Nat) : Int) < 0 then _ else _) _ _ s
  rw [if_neg (by omega)]
  try dsimp only
  refine wpAny_bind (wpAny_specialOf hS get_str ?_)
  try dsimp only
  try rw [if_neg (by decide)]
  try dsimp only
  refine wpAny_bind (wpAny_mkInt (wpAny_bind (wpAny_attempt ?_)))
  refine getItem_str (c := c) (by
    have e1 : decide ((i : Int) < -(2 ^ 63 : Int)) = false := decide_eq_false (by omega)
    have e2 : decide ((i : Int) ≥ 2 ^ 63) = false := decide_eq_false (by omega)
    rw [e1, e2, Bool.or_false]) (by
      rw [show seqIndex? (i : Int) z.length = some i from seqIndex_of (by omega) (by omega)]
      exact hx) ?_
  try dsimp only
  refine wpAny_bind (wpAny_field hAt hDat (x := rawInt (i : Int)) rfl ?_)
  try dsimp only
  refine wpAny_bind (wpAny_setField hAt hDat (by simp) ?_)
  first
  | refine wpAny_pure ⟨.str ⟨#[c]⟩ _, rfl, wpAny_pure (hQ _ _ _ ?_ (Heap.SameBut.update ..))⟩
  | refine wpAny_bind (wpAny_pure (wpAny_pure ⟨.str ⟨#[c]⟩ _, rfl, wpAny_pure (hQ _ _ _ ?_ (Heap.SameBut.update ..))⟩))
  exact ⟨_, Heap.get?_update_self _ hAt (Obj.isFreed_of_fields (Obj.data_mapFields hDat _)), (Obj.cls_mapFields ..).trans hc, by
    rw [Obj.data_mapFields hDat]; simp⟩
theorem next_rsEnd {it : Addr} {z : Str} {t : Tok} {Q : Option Value → Shared → Prop} (hh : A.handled = none) (hr : IsRs s.heap it z t (-1))
    (hQ : ∀ g, Heap.ExtBut it s.heap g → Q none { s with heap := g }) :
    wpAny (model prog w) A (pyNext (Value.ref it)) Q E s := by
  have ⟨o, hAt, hc, hDat⟩ := id hr
  have hT : s.TypeIs (.ref it) "reversed" := ⟨o, hAt, hc⟩
  unfold pyNext
  refine wpAny_bind (wpAny_attempt (wpAny_callSpecial?_slot (name := Str.ofString "__next__") hT RT.slot_rt_next
    (wpAny_call_entry RT.slot_rt_next hT RT.entry_rt_next ?_ (RT.args_rt_next _))))
  unfold Builtin.«reversed.__next__»; refine wpAny_bind (wpAny_of_eq rfl ?_ (a := (Value.ref it, [])))
  try dsimp only
  refine wpAny_bind (wpAny_field hAt hDat (x := .str z t) rfl ?_)
  try dsimp only
  refine wpAny_bind (wpAny_field hAt hDat (x := rawInt (-1)) rfl ?_)
  show wpAny _ _ (if (-(1 : Int)) < 0 then _ else _) _ _ s
  rw [if_pos (by decide)]
  try dsimp only
  refine wpAny_bind (wpAny_rule (wpAny_bind ?_)); skip
  wp_delta
  refine wpAny_bind (wpAny_setField hAt hDat (by simp) ?_)
  have ho2 := Heap.get?_update_self (Obj.mapFields (·.setIfInBounds 1 (rawInt (-1)))) hAt (Obj.isFreed_of_fields (Obj.data_mapFields hDat _))
  refine wpAny_setField (s := { s with heap := s.heap.update it (Obj.mapFields (·.setIfInBounds 1 (rawInt (-1)))) }) ho2 (Obj.data_mapFields hDat _) (by simp) ?_
  try dsimp only
  refine wpAny_bind ?_
  refine wpAny_bind ?_
  simp only [newExc, newTuple]
  -- the exception's tuple, its first argument, itself
  refine wpAny_bind (wpAny_newObj_type (wpAny_bind (m := firstArgMember _ _)
    (wpAny_of_eq (a := Value.none) (by first | rfl | (simp only [firstArgMember]; rfl)) (wpAny_newObj_type ?_ (by size_fits)))) (by size_fits))
  simp only [raiseNew]
  have free : A.in1.handled = none := hh
  refine wpAny_bind (wpAny_handled ?_); rw [free]
  refine wpAny_bind (wpAny_pure (wpAny_throw ?_)); refine wpAny_bind (wpAny_isInstance
    (T := "StopIteration") (b := true) ⟨_, Heap.get?_push_size _ rfl, rfl⟩ isSubtype_stop ?_)
  refine wpAny_pure (hQ _ ?_)
  have two : ∀ f g, Heap.ExtBut it s.heap ((s.heap.update it f).update it g) := fun f g b u hb e =>
    (Heap.get?_update_other _ g fun q => hb q.symm).trans ((Heap.get?_update_other _ f fun q => hb q.symm).trans e)
  exact ((two _ _).push _).push _
theorem iter_rs {it : Addr} {z : Str} {t : Tok} {i : Int} {Q : Value → Shared → Prop} (hr : IsRs s.heap it z t i) (h : Q (.ref it) s) : wpAny (model prog w) A (pyIter (.ref it)) Q E s := by
  have ⟨o, hAt, hc, hDat⟩ := id hr
  have hT : s.TypeIs (.ref it) "reversed" := ⟨o, hAt, hc⟩
  refine wpAny_pyIter_slot hT RT.slot_rt_iter (wpAny_call_entry RT.slot_rt_iter hT RT.entry_rt_iter ?_ (RT.args_rt_iter _))
  show wpAny (model prog w) _ (ret (Value.ref it)) _ _ s
  exact wpAny_pure ⟨_, rfl, "reversed", _, hT, RT.slot_rt_next.lookup, h⟩
end
def ItR (z : Str) : It := ⟨fun i _ => i < z.cps.size, fun i H x H' => H' = H ∧ ∃ c, z.cps[z.cps.size - 1 - i]? = some c ∧ x = .str ⟨#[c]⟩, fun i _ => z.cps.size ≤ i⟩
theorem turn_rs {P : Program} {w : World} {K : PySem.W.Frag} {tg : Expr} (z : Str) (t : Tok) (hz : z.length ≤ sizeLine) (it : Addr) : Turn P w K tg (ItR z) [it] it (fun i h => i ≤ z.cps.size ∧ IsRs h it z t ((z.cps.size : Int) - 1 - (i : Nat))) where
  mem := List.mem_cons_self
  obj := fun i h st b hb => by
    have e : b = it := List.mem_singleton.mp hb
    subst e
    obtain ⟨_, o, e, c, d⟩ := st
    exact ⟨o, e, fun v y => by rw [d] at y; cases y⟩
  keep := fun i h h' st k => by
    obtain ⟨hle, o, hAt, hr⟩ := st
    exact ⟨hle, o, k it (by simp) o hAt, hr⟩
  item := by
    intro X e1 e2 e3 hc i pins s σ H E I hf st hg
    subst e1 e2 e3
    have hin : i < z.cps.size := hg
    have ⟨f0, f1, f2, f3, f4, f5⟩ := hf it (by simp)
    obtain ⟨_, hr⟩ := st
    have e1 : (z.cps.size : Int) - 1 - ((i : Nat) : Int) = ((z.cps.size - 1 - i : Nat) : Int) := by omega
    rw [e1] at hr
    have hx : z.cps[z.cps.size - 1 - i]? = some (z.cps[z.cps.size - 1 - i]'(by omega)) := Array.getElem?_eq_getElem (by omega)
    refine next_rs hr hx hz fun h' tk u st' sb => ?_
    have e2 : ((z.cps.size - 1 - i : Nat) : Int) - 1 = (z.cps.size : Int) - 1 - ((i + 1 : Nat) : Int) := by omega
    rw [e2] at st'
    have J : Inv X pins σ H { s with heap := h', toks := tk } := I.turned (t' := tk) (fun b o hb e => (sb.2 b hb).trans e) f0 f1 f3 f4 f5
    obtain ⟨o, e, c, d⟩ := id st'
    exact ⟨_, rfl, go_of (s := { s with heap := h', toks := tk }) e c d (by decide) ⟨V.str ⟨#[z.cps[z.cps.size - 1 - i]'(by omega)]⟩, H, J, ⟨u, rfl⟩, ⟨rfl, _, hx, rfl⟩, ⟨hin, st'⟩, fun b hb => (hf b hb).1⟩⟩
  done := by
    intro X e1 e2 e3 hc i pins s σ H E I hf st hg
    subst e1 e2 e3
    have ⟨f0, f1, f2, f3, f4, f5⟩ := hf it (by simp)
    obtain ⟨hin, hr⟩ := st
    have hge : z.cps.size ≤ i := hg
    have e1 : (z.cps.size : Int) - 1 - ((i : Nat) : Int) = -1 := by omega
    rw [e1] at hr
    exact next_rsEnd (I.ok.hd hc) hr fun h' eb => ⟨rfl, I.turned (t' := s.toks) (fun b o hb e => eb b o hb e) f0 f1 f3 f4 f5⟩
  self := fun A i s Q E st h => iter_rs st.2 h
def iRevS (te : TE) : TI := fun σ H R => te σ H fun v H1 => ∃ z : Str, v = .str z ∧ z.length ≤ sizeLine ∧ R (ItR z) H1
theorem pi_revS {X : Cx} {tg : Expr} {e : Expr} {te : TE} {p pos : Pos} (hg : Gl X "reversed") (hm : X.mg "reversed" = none) (he : PE X e te) (hs : starEach [e] X.env = (false, eval e X.env) :: starEach [] X.env := by rfl) : PI X tg (.Call (.Name "reversed" p) [e] [] pos) (iRevS te) := by
  refine ⟨fun pins s σ H R I h => Call_ (ld_blt I hg hm PyProof.Rows.boot_reversed (PyProof.Rows.callWith_type1 (args_cons (thn (he.run pins s σ H _ I h) fun u s1 y => args_nil ?_) hs) hs rfl))⟩
  obtain ⟨v, H1, I1, r1, z, ev, hz, q⟩ := y
  subst ev
  obtain ⟨t, rfl⟩ := r1
  have e1 : ((z.length : Nat) : Int) - 1 = (z.cps.size : Int) - 1 - ((0 : Nat) : Int) := by show ((z.cps.size : Nat) : Int) - 1 = _; omega
  refine call_revS hz (iter_rs (z := z) (t := t) (i := ((z.length : Nat) : Int) - 1) ⟨_, Heap.get?_push_size _ rfl, rfl, rfl⟩ ?_)
  refine pi_one (tk := s1.toks + 1 + 1) I1 _ (turn_rs z t hz _) ⟨Nat.zero_le _, ?_⟩ q
  exact e1 ▸ ⟨_, Heap.get?_push_size _ rfl, rfl, rfl⟩
end SG

/-! ## SgBase -/
set_option autoImplicit true
set_option Elab.async false
set_option maxRecDepth 100000
set_option maxHeartbeats 4000000
namespace SG
open PySem PySem.Spec PyProof.Rows L2
/-! ### the text by places -/
def top (i : Nat) : Stmt := PySem.Challenge.pw_strokegrow_k55_whole_reach_touched.main.body.getD i (.Pass ⟨0, 0, 0, 0⟩)
abbrev s_added : Stmt := top 11
abbrev s_cross : Stmt := top 12
abbrev s_pen_of : Stmt := top 16
abbrev s_still : Stmt := top 19
abbrev s_area_of : Stmt := top 20
abbrev s_track_of : Stmt := top 21
abbrev s_small_letter : Stmt := top 32
abbrev s_good_row : Stmt := top 33
abbrev s_look_at_rows : Stmt := top 34
abbrev s_law_cell : Stmt := top 37
abbrev s_law_whole : Stmt := top 38
abbrev s_law_alphabet : Stmt := top 39
abbrev s_law_text : Stmt := top 40
abbrev s_law_shape : Stmt := top 41
abbrev s_law_big : Stmt := top 42
abbrev s_law_along : Stmt := top 43
abbrev s_law : Stmt := top 44
abbrev s_Track_init : Stmt := inClass (top 18) 0
abbrev s_Track_many : Stmt := inClass (top 18) 1
abbrev s_Track_turn : Stmt := inClass (top 18) 2
abbrev s_Track_shift : Stmt := inClass (top 18) 3
abbrev s_Track_strokes : Stmt := inClass (top 18) 4
abbrev s_Track_reach : Stmt := inClass (top 18) 5
abbrev s_Track_touch : Stmt := inClass (top 18) 6
abbrev s_Track_area : Stmt := inClass (top 18) 7
abbrev s_Track_seen_from : Stmt := inClass (top 18) 9
abbrev s_Track_joined : Stmt := inClass (top 18) 10
abbrev s_Drawing_init : Stmt := inClass (top 23) 0
abbrev s_Drawing_first_table : Stmt := inClass (top 23) 1
abbrev s_Drawing_next_table : Stmt := inClass (top 23) 2
abbrev s_Drawing_grown : Stmt := inClass (top 23) 3
abbrev s_Drawing_stretch : Stmt := inClass (top 23) 5
abbrev s_Growth_init : Stmt := inClass (top 26) 0
abbrev s_Growth_rules_told : Stmt := inClass (top 26) 1
abbrev s_Growth_needs_round : Stmt := inClass (top 26) 3
abbrev s_Growth_needs_place : Stmt := inClass (top 26) 4
abbrev s_Growth_none_counted : Stmt := inClass (top 26) 5
abbrev s_Growth_first_table : Stmt := inClass (top 26) 6
abbrev s_Growth_next_table : Stmt := inClass (top 26) 7
abbrev s_Growth_grown : Stmt := inClass (top 26) 8
abbrev s_Growth_sizes_at : Stmt := inClass (top 26) 9
abbrev s_Growth_length : Stmt := inClass (top 26) 10
abbrev s_Growth_needs_stretch : Stmt := inClass (top 26) 20
abbrev s_Growth_cover : Stmt := inClass (top 26) 21
abbrev s_Rules_init : Stmt := inClass (top 35) 0
abbrev s_Rules_pen : Stmt := inClass (top 35) 1
abbrev s_Rules_letters : Stmt := inClass (top 35) 2
abbrev s_Rules_look : Stmt := inClass (top 35) 4
abbrev s_Rules_deed : Stmt := inClass (top 35) 5
abbrev s_Rules_word : Stmt := inClass (top 35) 6
abbrev s_Rules_word_of : Stmt := inClass (top 35) 7
abbrev s_Quarter_ways : Stmt := inClass (top 14) 0
abbrev s_Quarter_once_left : Stmt := inClass (top 14) 1
abbrev s_Quarter_sights : Stmt := inClass (top 14) 2
abbrev s_Quarter_way_of : Stmt := inClass (top 13) 3
abbrev s_Quarter_turned : Stmt := inClass (top 13) 4
abbrev s_Quarter_step : Stmt := inClass (top 13) 5
abbrev s_Quarter_along : Stmt := inClass (top 13) 6
abbrev s_Quarter_after : Stmt := inClass (top 13) 7
abbrev s_Sixth_ways : Stmt := inClass (top 15) 0
abbrev s_Sixth_once_left : Stmt := inClass (top 15) 1
abbrev s_Sixth_sights : Stmt := inClass (top 15) 2
abbrev s_Sixth_way_of : Stmt := inClass (top 13) 3
abbrev s_Sixth_turned : Stmt := inClass (top 13) 4
abbrev s_Sixth_step : Stmt := inClass (top 13) 5
abbrev s_Sixth_along : Stmt := inClass (top 13) 6
abbrev s_Sixth_after : Stmt := inClass (top 13) 7
/-! ### one datum a def: where it stands, its names, its text, its defaults -/
def d_added : He.DefD := ⟨("added", none), "added", "added", defArgs s_added, defBody s_added, defScope s_added, [], []⟩
def d_cross : He.DefD := ⟨("cross", none), "cross", "cross", defArgs s_cross, defBody s_cross, defScope s_cross, [], []⟩
def d_pen_of : He.DefD := ⟨("pen_of", none), "pen_of", "pen_of", defArgs s_pen_of, defBody s_pen_of, defScope s_pen_of, [], []⟩
def d_still : He.DefD := ⟨("still", none), "still", "still", defArgs s_still, defBody s_still, defScope s_still, [], []⟩
def d_area_of : He.DefD := ⟨("area_of", none), "area_of", "area_of", defArgs s_area_of, defBody s_area_of, defScope s_area_of, [], []⟩
def d_track_of : He.DefD := ⟨("track_of", none), "track_of", "track_of", defArgs s_track_of, defBody s_track_of, defScope s_track_of, [], []⟩
def d_small_letter : He.DefD := ⟨("small_letter", none), "small_letter", "small_letter", defArgs s_small_letter, defBody s_small_letter, defScope s_small_letter, [], []⟩
def d_good_row : He.DefD := ⟨("good_row", none), "good_row", "good_row", defArgs s_good_row, defBody s_good_row, defScope s_good_row, [], []⟩
def d_look_at_rows : He.DefD := ⟨("look_at_rows", none), "look_at_rows", "look_at_rows", defArgs s_look_at_rows, defBody s_look_at_rows, defScope s_look_at_rows, [], []⟩
def d_law_cell : He.DefD := ⟨("_law_cell", none), "_law_cell", "_law_cell", defArgs s_law_cell, defBody s_law_cell, defScope s_law_cell, [], []⟩
def d_law_whole : He.DefD := ⟨("_law_whole", none), "_law_whole", "_law_whole", defArgs s_law_whole, defBody s_law_whole, defScope s_law_whole, [], []⟩
def d_law_alphabet : He.DefD := ⟨("_law_alphabet", none), "_law_alphabet", "_law_alphabet", defArgs s_law_alphabet, defBody s_law_alphabet, defScope s_law_alphabet, [], []⟩
def d_law_text : He.DefD := ⟨("_law_text", none), "_law_text", "_law_text", defArgs s_law_text, defBody s_law_text, defScope s_law_text, [], []⟩
def d_law_shape : He.DefD := ⟨("_law_shape", none), "_law_shape", "_law_shape", defArgs s_law_shape, defBody s_law_shape, defScope s_law_shape, [], []⟩
def d_law_big : He.DefD := ⟨("_law_big", none), "_law_big", "_law_big", defArgs s_law_big, defBody s_law_big, defScope s_law_big, [], []⟩
def d_law_along : He.DefD := ⟨("_law_along", none), "_law_along", "_law_along", defArgs s_law_along, defBody s_law_along, defScope s_law_along, [], []⟩
def d_law : He.DefD := ⟨("law", none), "law", "law", defArgs s_law, defBody s_law, defScope s_law, [], []⟩
def d_Track_init : He.DefD := ⟨("Track", some "__init__"), "__init__", "Track.__init__", defArgs s_Track_init, defBody s_Track_init, defScope s_Track_init, [], []⟩
def d_Track_many : He.DefD := ⟨("Track", some "many"), "many", "Track.many", defArgs s_Track_many, defBody s_Track_many, defScope s_Track_many, [], []⟩
def d_Track_turn : He.DefD := ⟨("Track", some "turn"), "turn", "Track.turn", defArgs s_Track_turn, defBody s_Track_turn, defScope s_Track_turn, [], []⟩
def d_Track_shift : He.DefD := ⟨("Track", some "shift"), "shift", "Track.shift", defArgs s_Track_shift, defBody s_Track_shift, defScope s_Track_shift, [(.int 0)], []⟩
def d_Track_strokes : He.DefD := ⟨("Track", some "strokes"), "strokes", "Track.strokes", defArgs s_Track_strokes, defBody s_Track_strokes, defScope s_Track_strokes, [], []⟩
def d_Track_reach : He.DefD := ⟨("Track", some "reach"), "reach", "Track.reach", defArgs s_Track_reach, defBody s_Track_reach, defScope s_Track_reach, [(.int 0)], []⟩
def d_Track_touch : He.DefD := ⟨("Track", some "touch"), "touch", "Track.touch", defArgs s_Track_touch, defBody s_Track_touch, defScope s_Track_touch, [(.int 0)], []⟩
def d_Track_area : He.DefD := ⟨("Track", some "area"), "area", "Track.area", defArgs s_Track_area, defBody s_Track_area, defScope s_Track_area, [], []⟩
def d_Track_seen_from : He.DefD := ⟨("Track", some "seen_from"), "seen_from", "Track.seen_from", defArgs s_Track_seen_from, defBody s_Track_seen_from, defScope s_Track_seen_from, [], []⟩
def d_Track_joined : He.DefD := ⟨("Track", some "joined"), "joined", "Track.joined", defArgs s_Track_joined, defBody s_Track_joined, defScope s_Track_joined, [], []⟩
def d_Drawing_init : He.DefD := ⟨("Drawing", some "__init__"), "__init__", "Drawing.__init__", defArgs s_Drawing_init, defBody s_Drawing_init, defScope s_Drawing_init, [], []⟩
def d_Drawing_first_table : He.DefD := ⟨("Drawing", some "first_table"), "first_table", "Drawing.first_table", defArgs s_Drawing_first_table, defBody s_Drawing_first_table, defScope s_Drawing_first_table, [], []⟩
def d_Drawing_next_table : He.DefD := ⟨("Drawing", some "next_table"), "next_table", "Drawing.next_table", defArgs s_Drawing_next_table, defBody s_Drawing_next_table, defScope s_Drawing_next_table, [], []⟩
def d_Drawing_grown : He.DefD := ⟨("Drawing", some "grown"), "grown", "Drawing.grown", defArgs s_Drawing_grown, defBody s_Drawing_grown, defScope s_Drawing_grown, [], []⟩
def d_Drawing_stretch : He.DefD := ⟨("Drawing", some "stretch"), "stretch", "Drawing.stretch", defArgs s_Drawing_stretch, defBody s_Drawing_stretch, defScope s_Drawing_stretch, [], []⟩
def d_Growth_init : He.DefD := ⟨("Growth", some "__init__"), "__init__", "Growth.__init__", defArgs s_Growth_init, defBody s_Growth_init, defScope s_Growth_init, [], []⟩
def d_Growth_rules_told : He.DefD := ⟨("Growth", some "rules_told"), "rules_told", "Growth.rules_told", defArgs s_Growth_rules_told, defBody s_Growth_rules_told, defScope s_Growth_rules_told, [], []⟩
def d_Growth_needs_round : He.DefD := ⟨("Growth", some "needs_round"), "needs_round", "Growth.needs_round", defArgs s_Growth_needs_round, defBody s_Growth_needs_round, defScope s_Growth_needs_round, [(.int 0), (.int 200)], []⟩
def d_Growth_needs_place : He.DefD := ⟨("Growth", some "needs_place"), "needs_place", "Growth.needs_place", defArgs s_Growth_needs_place, defBody s_Growth_needs_place, defScope s_Growth_needs_place, [], []⟩
def d_Growth_none_counted : He.DefD := ⟨("Growth", some "none_counted"), "none_counted", "Growth.none_counted", defArgs s_Growth_none_counted, defBody s_Growth_none_counted, defScope s_Growth_none_counted, [], []⟩
def d_Growth_first_table : He.DefD := ⟨("Growth", some "first_table"), "first_table", "Growth.first_table", defArgs s_Growth_first_table, defBody s_Growth_first_table, defScope s_Growth_first_table, [], []⟩
def d_Growth_next_table : He.DefD := ⟨("Growth", some "next_table"), "next_table", "Growth.next_table", defArgs s_Growth_next_table, defBody s_Growth_next_table, defScope s_Growth_next_table, [], []⟩
def d_Growth_grown : He.DefD := ⟨("Growth", some "grown"), "grown", "Growth.grown", defArgs s_Growth_grown, defBody s_Growth_grown, defScope s_Growth_grown, [], []⟩
def d_Growth_sizes_at : He.DefD := ⟨("Growth", some "sizes_at"), "sizes_at", "Growth.sizes_at", defArgs s_Growth_sizes_at, defBody s_Growth_sizes_at, defScope s_Growth_sizes_at, [], []⟩
def d_Growth_length : He.DefD := ⟨("Growth", some "length"), "length", "Growth.length", defArgs s_Growth_length, defBody s_Growth_length, defScope s_Growth_length, [], []⟩
def d_Growth_needs_stretch : He.DefD := ⟨("Growth", some "needs_stretch"), "needs_stretch", "Growth.needs_stretch", defArgs s_Growth_needs_stretch, defBody s_Growth_needs_stretch, defScope s_Growth_needs_stretch, [], []⟩
def d_Growth_cover : He.DefD := ⟨("Growth", some "cover"), "cover", "Growth.cover", defArgs s_Growth_cover, defBody s_Growth_cover, defScope s_Growth_cover, [], []⟩
def d_Rules_init : He.DefD := ⟨("Rules", some "__init__"), "__init__", "Rules.__init__", defArgs s_Rules_init, defBody s_Rules_init, defScope s_Rules_init, [], []⟩
def d_Rules_pen : He.DefD := ⟨("Rules", some "pen"), "pen", "Rules.pen", defArgs s_Rules_pen, defBody s_Rules_pen, defScope s_Rules_pen, [], []⟩
def d_Rules_letters : He.DefD := ⟨("Rules", some "letters"), "letters", "Rules.letters", defArgs s_Rules_letters, defBody s_Rules_letters, defScope s_Rules_letters, [], []⟩
def d_Rules_look : He.DefD := ⟨("Rules", some "look"), "look", "Rules.look", defArgs s_Rules_look, defBody s_Rules_look, defScope s_Rules_look, [], []⟩
def d_Rules_deed : He.DefD := ⟨("Rules", some "deed"), "deed", "Rules.deed", defArgs s_Rules_deed, defBody s_Rules_deed, defScope s_Rules_deed, [], []⟩
def d_Rules_word : He.DefD := ⟨("Rules", some "word"), "word", "Rules.word", defArgs s_Rules_word, defBody s_Rules_word, defScope s_Rules_word, [], []⟩
def d_Rules_word_of : He.DefD := ⟨("Rules", some "word_of"), "word_of", "Rules.word_of", defArgs s_Rules_word_of, defBody s_Rules_word_of, defScope s_Rules_word_of, [(.int 8)], []⟩
def d_Quarter_ways : He.DefD := ⟨("Quarter", some "ways"), "ways", "Quarter.ways", defArgs s_Quarter_ways, defBody s_Quarter_ways, defScope s_Quarter_ways, [], []⟩
def d_Quarter_once_left : He.DefD := ⟨("Quarter", some "once_left"), "once_left", "Quarter.once_left", defArgs s_Quarter_once_left, defBody s_Quarter_once_left, defScope s_Quarter_once_left, [], []⟩
def d_Quarter_sights : He.DefD := ⟨("Quarter", some "sights"), "sights", "Quarter.sights", defArgs s_Quarter_sights, defBody s_Quarter_sights, defScope s_Quarter_sights, [], []⟩
def d_Quarter_way_of : He.DefD := ⟨("Quarter", some "way_of"), "way_of", "Pen.way_of", defArgs s_Quarter_way_of, defBody s_Quarter_way_of, defScope s_Quarter_way_of, [], []⟩
def d_Quarter_turned : He.DefD := ⟨("Quarter", some "turned"), "turned", "Pen.turned", defArgs s_Quarter_turned, defBody s_Quarter_turned, defScope s_Quarter_turned, [], []⟩
def d_Quarter_step : He.DefD := ⟨("Quarter", some "step"), "step", "Pen.step", defArgs s_Quarter_step, defBody s_Quarter_step, defScope s_Quarter_step, [], []⟩
def d_Quarter_along : He.DefD := ⟨("Quarter", some "along"), "along", "Pen.along", defArgs s_Quarter_along, defBody s_Quarter_along, defScope s_Quarter_along, [], []⟩
def d_Quarter_after : He.DefD := ⟨("Quarter", some "after"), "after", "Pen.after", defArgs s_Quarter_after, defBody s_Quarter_after, defScope s_Quarter_after, [], []⟩
def d_Sixth_ways : He.DefD := ⟨("Sixth", some "ways"), "ways", "Sixth.ways", defArgs s_Sixth_ways, defBody s_Sixth_ways, defScope s_Sixth_ways, [], []⟩
def d_Sixth_once_left : He.DefD := ⟨("Sixth", some "once_left"), "once_left", "Sixth.once_left", defArgs s_Sixth_once_left, defBody s_Sixth_once_left, defScope s_Sixth_once_left, [], []⟩
def d_Sixth_sights : He.DefD := ⟨("Sixth", some "sights"), "sights", "Sixth.sights", defArgs s_Sixth_sights, defBody s_Sixth_sights, defScope s_Sixth_sights, [], []⟩
def d_Sixth_way_of : He.DefD := ⟨("Sixth", some "way_of"), "way_of", "Pen.way_of", defArgs s_Sixth_way_of, defBody s_Sixth_way_of, defScope s_Sixth_way_of, [], []⟩
def d_Sixth_turned : He.DefD := ⟨("Sixth", some "turned"), "turned", "Pen.turned", defArgs s_Sixth_turned, defBody s_Sixth_turned, defScope s_Sixth_turned, [], []⟩
def d_Sixth_step : He.DefD := ⟨("Sixth", some "step"), "step", "Pen.step", defArgs s_Sixth_step, defBody s_Sixth_step, defScope s_Sixth_step, [], []⟩
def d_Sixth_along : He.DefD := ⟨("Sixth", some "along"), "along", "Pen.along", defArgs s_Sixth_along, defBody s_Sixth_along, defScope s_Sixth_along, [], []⟩
def d_Sixth_after : He.DefD := ⟨("Sixth", some "after"), "after", "Pen.after", defArgs s_Sixth_after, defBody s_Sixth_after, defScope s_Sixth_after, [], []⟩
def fn : List He.DefD := [d_added, d_cross, d_pen_of, d_still, d_area_of, d_track_of, d_small_letter, d_good_row, d_look_at_rows, d_law_cell, d_law_whole, d_law_alphabet, d_law_text, d_law_shape, d_law_big, d_law_along, d_law, d_Track_init, d_Track_many, d_Track_turn, d_Track_shift, d_Track_strokes, d_Track_reach, d_Track_touch, d_Track_area, d_Track_seen_from, d_Track_joined, d_Drawing_init, d_Drawing_first_table, d_Drawing_next_table, d_Drawing_grown, d_Drawing_stretch, d_Growth_init, d_Growth_rules_told, d_Growth_needs_round, d_Growth_needs_place, d_Growth_none_counted, d_Growth_first_table, d_Growth_next_table, d_Growth_grown, d_Growth_sizes_at, d_Growth_length, d_Growth_needs_stretch, d_Growth_cover, d_Rules_init, d_Rules_pen, d_Rules_letters, d_Rules_look, d_Rules_deed, d_Rules_word, d_Rules_word_of, d_Quarter_ways, d_Quarter_once_left, d_Quarter_sights, d_Quarter_way_of, d_Quarter_turned, d_Quarter_step, d_Quarter_along, d_Quarter_after, d_Sixth_ways, d_Sixth_once_left, d_Sixth_sights, d_Sixth_way_of, d_Sixth_turned, d_Sixth_step, d_Sixth_along, d_Sixth_after]
def fa : List He.Fa := [.glo "added", .glo "cross", .glo "pen_of", .glo "still", .glo "area_of", .glo "track_of", .glo "small_letter", .glo "good_row", .glo "look_at_rows", .glo "_law_cell", .glo "_law_whole", .glo "_law_alphabet", .glo "_law_text", .glo "_law_shape", .glo "_law_big", .glo "_law_along", .glo "law", .glo "Quarter", .cls "Quarter", .keep "Quarter", .glo "Sixth", .cls "Sixth", .keep "Sixth", .glo "Track", .cls "Track", .mkr "Track", .keep "Track", .glo "Drawing", .cls "Drawing", .mkr "Drawing", .keep "Drawing", .glo "Growth", .cls "Growth", .mkr "Growth", .keep "Growth", .glo "Rules", .cls "Rules", .mkr "Rules", .keep "Rules", .glo "DEEDS", .str "ALPHABET" "abcdefghijklmnopqrstuvwxyz", .int "MOST_START" 8, .int "MOST_ROWS" 6, .int "MOST_SIGNS" 8, .free "len", .free "range", .free "max", .free "min", .free "sum", .free "enumerate", .free "reversed", .free "zip", .free "divmod", .free "sorted", .free "list", .free "isinstance", .free "int", .free "bool", .noat "Track" "own_pen", .noat "Track" "record", .noat "Drawing" "growth", .noat "Drawing" "rules", .noat "Drawing" "own_pen", .noat "Drawing" "tables", .noat "Growth" "rules", .noat "Growth" "start", .noat "Growth" "sizes", .noat "Growth" "tables", .noat "Rules" "own_pen", .noat "Rules" "kept", .meth "Track" "many", .meth "Track" "turn", .meth "Track" "shift", .meth "Track" "strokes", .meth "Track" "reach", .meth "Track" "touch", .meth "Track" "area", .meth "Track" "seen_from", .meth "Track" "joined", .meth "Drawing" "first_table", .meth "Drawing" "next_table", .meth "Drawing" "grown", .meth "Drawing" "stretch", .meth "Growth" "rules_told", .meth "Growth" "needs_round", .meth "Growth" "needs_place", .meth "Growth" "none_counted", .meth "Growth" "first_table", .meth "Growth" "next_table", .meth "Growth" "grown", .meth "Growth" "sizes_at", .meth "Growth" "length", .meth "Growth" "needs_stretch", .meth "Growth" "cover", .meth "Rules" "pen", .meth "Rules" "letters", .meth "Rules" "look", .meth "Rules" "deed", .meth "Rules" "word", .meth "Rules" "word_of", .meth "Quarter" "ways", .meth "Quarter" "once_left", .meth "Quarter" "sights", .meth "Quarter" "way_of", .meth "Quarter" "turned", .meth "Quarter" "step", .meth "Quarter" "along", .meth "Quarter" "after", .meth "Sixth" "ways", .meth "Sixth" "once_left", .meth "Sixth" "sights", .meth "Sixth" "way_of", .meth "Sixth" "turned", .meth "Sixth" "step", .meth "Sixth" "along", .meth "Sixth" "after"]
/-- what no fact of the list says: the pens' classes have no __init__ but object's, DEEDS is a tuple of five texts -/
def mk0B (K : PySem.W.Frag) (C : Str) : Bool := PySem.W.makesIn K (He.ga K C) && He.eqO (PySem.W.findIn K (.ref (He.ga K C)) "__init__") (some (some (.builtin "object.__init__")))
def deeds : List Str := ["stroke", "step", "left", "right", "rest"]
def exB (K : PySem.W.Frag) : Bool := mk0B K "Quarter" && (mk0B K "Sixth" && He.tupB K "DEEDS" (deeds.map He.Dv.str))
/-- the top, as the walks ask it -/
structure Tx (K : PySem.W.Frag) (mg : Str → Option Value) : Prop where
  at_ : ∃ h : Heap, K.In h ∧ h.Ns mainGlobals mg
  c : He.SaysD fa fn K
  ex : exB K = true
abbrev gA (K : PySem.W.Frag) (x : Str) : Addr := He.ga K x
abbrev mA (K : PySem.W.Frag) (C m : Str) : Addr := He.ma K (He.ga K C) m
section
variable {K : PySem.W.Frag} {mg : Str → Option Value}
theorem Tx.glo (T : Tx K mg) (i : Nat) {x : Str} (h : fa[i]? = some (.glo x)) : mg x = some (.ref (gA K x)) := let ⟨_, X, G⟩ := T.at_; He.glo_ok X G (T.c.fact i h)
theorem Tx.free (T : Tx K mg) (i : Nat) {x : Str} (h : fa[i]? = some (.free x)) : mg x = none := let ⟨_, X, G⟩ := T.at_; He.free_ok X G (T.c.fact i h)
theorem Tx.int (T : Tx K mg) (i : Nat) {x : Str} {n : Int} (h : fa[i]? = some (.int x n)) : ∃ u, mg x = some u ∧ RelV (.int n) u := by
  obtain ⟨_, X, G⟩ := T.at_
  obtain ⟨t, e⟩ := He.int_ok X G (T.c.fact i h)
  exact ⟨_, e, t, rfl⟩
theorem Tx.str (T : Tx K mg) (i : Nat) {x z : Str} (h : fa[i]? = some (.str x z)) : ∃ u, mg x = some u ∧ RelV (.str z) u := by
  obtain ⟨_, X, G⟩ := T.at_
  obtain ⟨t, e⟩ := He.str_ok X G (T.c.fact i h)
  exact ⟨_, e, t, rfl⟩
theorem Tx.cls (T : Tx K mg) (i : Nat) {x : Str} (h : fa[i]? = some (.cls x)) : Cls K (gA K x) := He.cls_ok (T.c.fact i h)
theorem Tx.mkr (T : Tx K mg) (i : Nat) {x : Str} (h : fa[i]? = some (.mkr x)) : Mk K (gA K x) (mA K x "__init__") := He.mkr_ok (T.c.fact i h)
theorem Tx.noat (T : Tx K mg) (i : Nat) {x f : Str} (h : fa[i]? = some (.noat x f)) : NoAttr K (gA K x) f := He.eqO_ok (T.c.fact i h)
theorem Tx.meth (T : Tx K mg) (i : Nat) {x m : Str} (h : fa[i]? = some (.meth x m)) : Meth K (gA K x) m (mA K x m) := He.meth_ok (T.c.fact i h)
theorem Tx.keep (T : Tx K mg) (i : Nat) {x : Str} (h : fa[i]? = some (.keep x)) : PySem.W.keepIn K (.ref (gA K x)) = true := T.c.fact i h
theorem Tx.fun_ (T : Tx K mg) (i : Nat) {d : He.DefD} (h : fn[i]? = some d) : ∃ fd, FunD K d.name d.qual d.params d.body d.scope (d.dvs K) (d.kws K) (He.fAd K d.at_) fd := T.c.def_ i h
theorem Tx.g_added (T : Tx K mg) : mg "added" = some (.ref (gA K "added")) := T.glo 0 rfl
theorem Tx.g_cross (T : Tx K mg) : mg "cross" = some (.ref (gA K "cross")) := T.glo 1 rfl
theorem Tx.g_pen_of (T : Tx K mg) : mg "pen_of" = some (.ref (gA K "pen_of")) := T.glo 2 rfl
theorem Tx.g_still (T : Tx K mg) : mg "still" = some (.ref (gA K "still")) := T.glo 3 rfl
theorem Tx.g_area_of (T : Tx K mg) : mg "area_of" = some (.ref (gA K "area_of")) := T.glo 4 rfl
theorem Tx.g_track_of (T : Tx K mg) : mg "track_of" = some (.ref (gA K "track_of")) := T.glo 5 rfl
theorem Tx.g_small_letter (T : Tx K mg) : mg "small_letter" = some (.ref (gA K "small_letter")) := T.glo 6 rfl
theorem Tx.g_good_row (T : Tx K mg) : mg "good_row" = some (.ref (gA K "good_row")) := T.glo 7 rfl
theorem Tx.g_look_at_rows (T : Tx K mg) : mg "look_at_rows" = some (.ref (gA K "look_at_rows")) := T.glo 8 rfl
theorem Tx.g__law_cell (T : Tx K mg) : mg "_law_cell" = some (.ref (gA K "_law_cell")) := T.glo 9 rfl
theorem Tx.g__law_whole (T : Tx K mg) : mg "_law_whole" = some (.ref (gA K "_law_whole")) := T.glo 10 rfl
theorem Tx.g__law_alphabet (T : Tx K mg) : mg "_law_alphabet" = some (.ref (gA K "_law_alphabet")) := T.glo 11 rfl
theorem Tx.g__law_text (T : Tx K mg) : mg "_law_text" = some (.ref (gA K "_law_text")) := T.glo 12 rfl
theorem Tx.g__law_shape (T : Tx K mg) : mg "_law_shape" = some (.ref (gA K "_law_shape")) := T.glo 13 rfl
theorem Tx.g__law_big (T : Tx K mg) : mg "_law_big" = some (.ref (gA K "_law_big")) := T.glo 14 rfl
theorem Tx.g__law_along (T : Tx K mg) : mg "_law_along" = some (.ref (gA K "_law_along")) := T.glo 15 rfl
theorem Tx.g_law (T : Tx K mg) : mg "law" = some (.ref (gA K "law")) := T.glo 16 rfl
theorem Tx.g_Quarter (T : Tx K mg) : mg "Quarter" = some (.ref (gA K "Quarter")) := T.glo 17 rfl
theorem Tx.c_Quarter (T : Tx K mg) : Cls K (gA K "Quarter") := T.cls 18 rfl
theorem Tx.k_Quarter (T : Tx K mg) : PySem.W.keepIn K (.ref (gA K "Quarter")) = true := T.keep 19 rfl
theorem Tx.g_Sixth (T : Tx K mg) : mg "Sixth" = some (.ref (gA K "Sixth")) := T.glo 20 rfl
theorem Tx.c_Sixth (T : Tx K mg) : Cls K (gA K "Sixth") := T.cls 21 rfl
theorem Tx.k_Sixth (T : Tx K mg) : PySem.W.keepIn K (.ref (gA K "Sixth")) = true := T.keep 22 rfl
theorem Tx.g_Track (T : Tx K mg) : mg "Track" = some (.ref (gA K "Track")) := T.glo 23 rfl
theorem Tx.c_Track (T : Tx K mg) : Cls K (gA K "Track") := T.cls 24 rfl
theorem Tx.mk_Track (T : Tx K mg) : Mk K (gA K "Track") (mA K "Track" "__init__") := T.mkr 25 rfl
theorem Tx.k_Track (T : Tx K mg) : PySem.W.keepIn K (.ref (gA K "Track")) = true := T.keep 26 rfl
theorem Tx.g_Drawing (T : Tx K mg) : mg "Drawing" = some (.ref (gA K "Drawing")) := T.glo 27 rfl
theorem Tx.c_Drawing (T : Tx K mg) : Cls K (gA K "Drawing") := T.cls 28 rfl
theorem Tx.mk_Drawing (T : Tx K mg) : Mk K (gA K "Drawing") (mA K "Drawing" "__init__") := T.mkr 29 rfl
theorem Tx.k_Drawing (T : Tx K mg) : PySem.W.keepIn K (.ref (gA K "Drawing")) = true := T.keep 30 rfl
theorem Tx.g_Growth (T : Tx K mg) : mg "Growth" = some (.ref (gA K "Growth")) := T.glo 31 rfl
theorem Tx.c_Growth (T : Tx K mg) : Cls K (gA K "Growth") := T.cls 32 rfl
theorem Tx.mk_Growth (T : Tx K mg) : Mk K (gA K "Growth") (mA K "Growth" "__init__") := T.mkr 33 rfl
theorem Tx.k_Growth (T : Tx K mg) : PySem.W.keepIn K (.ref (gA K "Growth")) = true := T.keep 34 rfl
theorem Tx.g_Rules (T : Tx K mg) : mg "Rules" = some (.ref (gA K "Rules")) := T.glo 35 rfl
theorem Tx.c_Rules (T : Tx K mg) : Cls K (gA K "Rules") := T.cls 36 rfl
theorem Tx.mk_Rules (T : Tx K mg) : Mk K (gA K "Rules") (mA K "Rules" "__init__") := T.mkr 37 rfl
theorem Tx.k_Rules (T : Tx K mg) : PySem.W.keepIn K (.ref (gA K "Rules")) = true := T.keep 38 rfl
theorem Tx.g_DEEDS (T : Tx K mg) : mg "DEEDS" = some (.ref (gA K "DEEDS")) := T.glo 39 rfl
theorem Tx.t_ALPHABET (T : Tx K mg) : ∃ u, mg "ALPHABET" = some u ∧ RelV (.str "abcdefghijklmnopqrstuvwxyz") u := T.str 40 rfl
theorem Tx.i_MOST_START (T : Tx K mg) : ∃ u, mg "MOST_START" = some u ∧ RelV (.int 8) u := T.int 41 rfl
theorem Tx.i_MOST_ROWS (T : Tx K mg) : ∃ u, mg "MOST_ROWS" = some u ∧ RelV (.int 6) u := T.int 42 rfl
theorem Tx.i_MOST_SIGNS (T : Tx K mg) : ∃ u, mg "MOST_SIGNS" = some u ∧ RelV (.int 8) u := T.int 43 rfl
theorem Tx.f_len (T : Tx K mg) : mg "len" = none := T.free 44 rfl
theorem Tx.f_range (T : Tx K mg) : mg "range" = none := T.free 45 rfl
theorem Tx.f_max (T : Tx K mg) : mg "max" = none := T.free 46 rfl
theorem Tx.f_min (T : Tx K mg) : mg "min" = none := T.free 47 rfl
theorem Tx.f_sum (T : Tx K mg) : mg "sum" = none := T.free 48 rfl
theorem Tx.f_enumerate (T : Tx K mg) : mg "enumerate" = none := T.free 49 rfl
theorem Tx.f_reversed (T : Tx K mg) : mg "reversed" = none := T.free 50 rfl
theorem Tx.f_zip (T : Tx K mg) : mg "zip" = none := T.free 51 rfl
theorem Tx.f_divmod (T : Tx K mg) : mg "divmod" = none := T.free 52 rfl
theorem Tx.f_sorted (T : Tx K mg) : mg "sorted" = none := T.free 53 rfl
theorem Tx.f_list (T : Tx K mg) : mg "list" = none := T.free 54 rfl
theorem Tx.f_isinstance (T : Tx K mg) : mg "isinstance" = none := T.free 55 rfl
theorem Tx.f_int (T : Tx K mg) : mg "int" = none := T.free 56 rfl
theorem Tx.f_bool (T : Tx K mg) : mg "bool" = none := T.free 57 rfl
theorem Tx.n_Track_own_pen (T : Tx K mg) : NoAttr K (gA K "Track") "own_pen" := T.noat 58 rfl
theorem Tx.n_Track_record (T : Tx K mg) : NoAttr K (gA K "Track") "record" := T.noat 59 rfl
theorem Tx.n_Drawing_growth (T : Tx K mg) : NoAttr K (gA K "Drawing") "growth" := T.noat 60 rfl
theorem Tx.n_Drawing_rules (T : Tx K mg) : NoAttr K (gA K "Drawing") "rules" := T.noat 61 rfl
theorem Tx.n_Drawing_own_pen (T : Tx K mg) : NoAttr K (gA K "Drawing") "own_pen" := T.noat 62 rfl
theorem Tx.n_Drawing_tables (T : Tx K mg) : NoAttr K (gA K "Drawing") "tables" := T.noat 63 rfl
theorem Tx.n_Growth_rules (T : Tx K mg) : NoAttr K (gA K "Growth") "rules" := T.noat 64 rfl
theorem Tx.n_Growth_start (T : Tx K mg) : NoAttr K (gA K "Growth") "start" := T.noat 65 rfl
theorem Tx.n_Growth_sizes (T : Tx K mg) : NoAttr K (gA K "Growth") "sizes" := T.noat 66 rfl
theorem Tx.n_Growth_tables (T : Tx K mg) : NoAttr K (gA K "Growth") "tables" := T.noat 67 rfl
theorem Tx.n_Rules_own_pen (T : Tx K mg) : NoAttr K (gA K "Rules") "own_pen" := T.noat 68 rfl
theorem Tx.n_Rules_kept (T : Tx K mg) : NoAttr K (gA K "Rules") "kept" := T.noat 69 rfl
theorem Tx.m_Track_many (T : Tx K mg) : Meth K (gA K "Track") "many" (mA K "Track" "many") := T.meth 70 rfl
theorem Tx.m_Track_turn (T : Tx K mg) : Meth K (gA K "Track") "turn" (mA K "Track" "turn") := T.meth 71 rfl
theorem Tx.m_Track_shift (T : Tx K mg) : Meth K (gA K "Track") "shift" (mA K "Track" "shift") := T.meth 72 rfl
theorem Tx.m_Track_strokes (T : Tx K mg) : Meth K (gA K "Track") "strokes" (mA K "Track" "strokes") := T.meth 73 rfl
theorem Tx.m_Track_reach (T : Tx K mg) : Meth K (gA K "Track") "reach" (mA K "Track" "reach") := T.meth 74 rfl
theorem Tx.m_Track_touch (T : Tx K mg) : Meth K (gA K "Track") "touch" (mA K "Track" "touch") := T.meth 75 rfl
theorem Tx.m_Track_area (T : Tx K mg) : Meth K (gA K "Track") "area" (mA K "Track" "area") := T.meth 76 rfl
theorem Tx.m_Track_seen_from (T : Tx K mg) : Meth K (gA K "Track") "seen_from" (mA K "Track" "seen_from") := T.meth 77 rfl
theorem Tx.m_Track_joined (T : Tx K mg) : Meth K (gA K "Track") "joined" (mA K "Track" "joined") := T.meth 78 rfl
theorem Tx.m_Drawing_first_table (T : Tx K mg) : Meth K (gA K "Drawing") "first_table" (mA K "Drawing" "first_table") := T.meth 79 rfl
theorem Tx.m_Drawing_next_table (T : Tx K mg) : Meth K (gA K "Drawing") "next_table" (mA K "Drawing" "next_table") := T.meth 80 rfl
theorem Tx.m_Drawing_grown (T : Tx K mg) : Meth K (gA K "Drawing") "grown" (mA K "Drawing" "grown") := T.meth 81 rfl
theorem Tx.m_Drawing_stretch (T : Tx K mg) : Meth K (gA K "Drawing") "stretch" (mA K "Drawing" "stretch") := T.meth 82 rfl
theorem Tx.m_Growth_rules_told (T : Tx K mg) : Meth K (gA K "Growth") "rules_told" (mA K "Growth" "rules_told") := T.meth 83 rfl
theorem Tx.m_Growth_needs_round (T : Tx K mg) : Meth K (gA K "Growth") "needs_round" (mA K "Growth" "needs_round") := T.meth 84 rfl
theorem Tx.m_Growth_needs_place (T : Tx K mg) : Meth K (gA K "Growth") "needs_place" (mA K "Growth" "needs_place") := T.meth 85 rfl
theorem Tx.m_Growth_none_counted (T : Tx K mg) : Meth K (gA K "Growth") "none_counted" (mA K "Growth" "none_counted") := T.meth 86 rfl
theorem Tx.m_Growth_first_table (T : Tx K mg) : Meth K (gA K "Growth") "first_table" (mA K "Growth" "first_table") := T.meth 87 rfl
theorem Tx.m_Growth_next_table (T : Tx K mg) : Meth K (gA K "Growth") "next_table" (mA K "Growth" "next_table") := T.meth 88 rfl
theorem Tx.m_Growth_grown (T : Tx K mg) : Meth K (gA K "Growth") "grown" (mA K "Growth" "grown") := T.meth 89 rfl
theorem Tx.m_Growth_sizes_at (T : Tx K mg) : Meth K (gA K "Growth") "sizes_at" (mA K "Growth" "sizes_at") := T.meth 90 rfl
theorem Tx.m_Growth_length (T : Tx K mg) : Meth K (gA K "Growth") "length" (mA K "Growth" "length") := T.meth 91 rfl
theorem Tx.m_Growth_needs_stretch (T : Tx K mg) : Meth K (gA K "Growth") "needs_stretch" (mA K "Growth" "needs_stretch") := T.meth 92 rfl
theorem Tx.m_Growth_cover (T : Tx K mg) : Meth K (gA K "Growth") "cover" (mA K "Growth" "cover") := T.meth 93 rfl
theorem Tx.m_Rules_pen (T : Tx K mg) : Meth K (gA K "Rules") "pen" (mA K "Rules" "pen") := T.meth 94 rfl
theorem Tx.m_Rules_letters (T : Tx K mg) : Meth K (gA K "Rules") "letters" (mA K "Rules" "letters") := T.meth 95 rfl
theorem Tx.m_Rules_look (T : Tx K mg) : Meth K (gA K "Rules") "look" (mA K "Rules" "look") := T.meth 96 rfl
theorem Tx.m_Rules_deed (T : Tx K mg) : Meth K (gA K "Rules") "deed" (mA K "Rules" "deed") := T.meth 97 rfl
theorem Tx.m_Rules_word (T : Tx K mg) : Meth K (gA K "Rules") "word" (mA K "Rules" "word") := T.meth 98 rfl
theorem Tx.m_Rules_word_of (T : Tx K mg) : Meth K (gA K "Rules") "word_of" (mA K "Rules" "word_of") := T.meth 99 rfl
theorem Tx.m_Quarter_ways (T : Tx K mg) : Meth K (gA K "Quarter") "ways" (mA K "Quarter" "ways") := T.meth 100 rfl
theorem Tx.m_Quarter_once_left (T : Tx K mg) : Meth K (gA K "Quarter") "once_left" (mA K "Quarter" "once_left") := T.meth 101 rfl
theorem Tx.m_Quarter_sights (T : Tx K mg) : Meth K (gA K "Quarter") "sights" (mA K "Quarter" "sights") := T.meth 102 rfl
theorem Tx.m_Quarter_way_of (T : Tx K mg) : Meth K (gA K "Quarter") "way_of" (mA K "Quarter" "way_of") := T.meth 103 rfl
theorem Tx.m_Quarter_turned (T : Tx K mg) : Meth K (gA K "Quarter") "turned" (mA K "Quarter" "turned") := T.meth 104 rfl
theorem Tx.m_Quarter_step (T : Tx K mg) : Meth K (gA K "Quarter") "step" (mA K "Quarter" "step") := T.meth 105 rfl
theorem Tx.m_Quarter_along (T : Tx K mg) : Meth K (gA K "Quarter") "along" (mA K "Quarter" "along") := T.meth 106 rfl
theorem Tx.m_Quarter_after (T : Tx K mg) : Meth K (gA K "Quarter") "after" (mA K "Quarter" "after") := T.meth 107 rfl
theorem Tx.m_Sixth_ways (T : Tx K mg) : Meth K (gA K "Sixth") "ways" (mA K "Sixth" "ways") := T.meth 108 rfl
theorem Tx.m_Sixth_once_left (T : Tx K mg) : Meth K (gA K "Sixth") "once_left" (mA K "Sixth" "once_left") := T.meth 109 rfl
theorem Tx.m_Sixth_sights (T : Tx K mg) : Meth K (gA K "Sixth") "sights" (mA K "Sixth" "sights") := T.meth 110 rfl
theorem Tx.m_Sixth_way_of (T : Tx K mg) : Meth K (gA K "Sixth") "way_of" (mA K "Sixth" "way_of") := T.meth 111 rfl
theorem Tx.m_Sixth_turned (T : Tx K mg) : Meth K (gA K "Sixth") "turned" (mA K "Sixth" "turned") := T.meth 112 rfl
theorem Tx.m_Sixth_step (T : Tx K mg) : Meth K (gA K "Sixth") "step" (mA K "Sixth" "step") := T.meth 113 rfl
theorem Tx.m_Sixth_along (T : Tx K mg) : Meth K (gA K "Sixth") "along" (mA K "Sixth" "along") := T.meth 114 rfl
theorem Tx.m_Sixth_after (T : Tx K mg) : Meth K (gA K "Sixth") "after" (mA K "Sixth" "after") := T.meth 115 rfl
theorem Tx.fd_added (T : Tx K mg) : ∃ fd, FunD K "added" "added" (defArgs s_added) (defBody s_added) (defScope s_added) (d_added.dvs K) [] (gA K "added") fd := T.fun_ 0 (d := d_added) rfl
theorem Tx.fd_cross (T : Tx K mg) : ∃ fd, FunD K "cross" "cross" (defArgs s_cross) (defBody s_cross) (defScope s_cross) (d_cross.dvs K) [] (gA K "cross") fd := T.fun_ 1 (d := d_cross) rfl
theorem Tx.fd_pen_of (T : Tx K mg) : ∃ fd, FunD K "pen_of" "pen_of" (defArgs s_pen_of) (defBody s_pen_of) (defScope s_pen_of) (d_pen_of.dvs K) [] (gA K "pen_of") fd := T.fun_ 2 (d := d_pen_of) rfl
theorem Tx.fd_still (T : Tx K mg) : ∃ fd, FunD K "still" "still" (defArgs s_still) (defBody s_still) (defScope s_still) (d_still.dvs K) [] (gA K "still") fd := T.fun_ 3 (d := d_still) rfl
theorem Tx.fd_area_of (T : Tx K mg) : ∃ fd, FunD K "area_of" "area_of" (defArgs s_area_of) (defBody s_area_of) (defScope s_area_of) (d_area_of.dvs K) [] (gA K "area_of") fd := T.fun_ 4 (d := d_area_of) rfl
theorem Tx.fd_track_of (T : Tx K mg) : ∃ fd, FunD K "track_of" "track_of" (defArgs s_track_of) (defBody s_track_of) (defScope s_track_of) (d_track_of.dvs K) [] (gA K "track_of") fd := T.fun_ 5 (d := d_track_of) rfl
theorem Tx.fd_small_letter (T : Tx K mg) : ∃ fd, FunD K "small_letter" "small_letter" (defArgs s_small_letter) (defBody s_small_letter) (defScope s_small_letter) (d_small_letter.dvs K) [] (gA K "small_letter") fd := T.fun_ 6 (d := d_small_letter) rfl
theorem Tx.fd_good_row (T : Tx K mg) : ∃ fd, FunD K "good_row" "good_row" (defArgs s_good_row) (defBody s_good_row) (defScope s_good_row) (d_good_row.dvs K) [] (gA K "good_row") fd := T.fun_ 7 (d := d_good_row) rfl
theorem Tx.fd_look_at_rows (T : Tx K mg) : ∃ fd, FunD K "look_at_rows" "look_at_rows" (defArgs s_look_at_rows) (defBody s_look_at_rows) (defScope s_look_at_rows) (d_look_at_rows.dvs K) [] (gA K "look_at_rows") fd := T.fun_ 8 (d := d_look_at_rows) rfl
theorem Tx.fd_law_cell (T : Tx K mg) : ∃ fd, FunD K "_law_cell" "_law_cell" (defArgs s_law_cell) (defBody s_law_cell) (defScope s_law_cell) (d_law_cell.dvs K) [] (gA K "_law_cell") fd := T.fun_ 9 (d := d_law_cell) rfl
theorem Tx.fd_law_whole (T : Tx K mg) : ∃ fd, FunD K "_law_whole" "_law_whole" (defArgs s_law_whole) (defBody s_law_whole) (defScope s_law_whole) (d_law_whole.dvs K) [] (gA K "_law_whole") fd := T.fun_ 10 (d := d_law_whole) rfl
theorem Tx.fd_law_alphabet (T : Tx K mg) : ∃ fd, FunD K "_law_alphabet" "_law_alphabet" (defArgs s_law_alphabet) (defBody s_law_alphabet) (defScope s_law_alphabet) (d_law_alphabet.dvs K) [] (gA K "_law_alphabet") fd := T.fun_ 11 (d := d_law_alphabet) rfl
theorem Tx.fd_law_text (T : Tx K mg) : ∃ fd, FunD K "_law_text" "_law_text" (defArgs s_law_text) (defBody s_law_text) (defScope s_law_text) (d_law_text.dvs K) [] (gA K "_law_text") fd := T.fun_ 12 (d := d_law_text) rfl
theorem Tx.fd_law_shape (T : Tx K mg) : ∃ fd, FunD K "_law_shape" "_law_shape" (defArgs s_law_shape) (defBody s_law_shape) (defScope s_law_shape) (d_law_shape.dvs K) [] (gA K "_law_shape") fd := T.fun_ 13 (d := d_law_shape) rfl
theorem Tx.fd_law_big (T : Tx K mg) : ∃ fd, FunD K "_law_big" "_law_big" (defArgs s_law_big) (defBody s_law_big) (defScope s_law_big) (d_law_big.dvs K) [] (gA K "_law_big") fd := T.fun_ 14 (d := d_law_big) rfl
theorem Tx.fd_law_along (T : Tx K mg) : ∃ fd, FunD K "_law_along" "_law_along" (defArgs s_law_along) (defBody s_law_along) (defScope s_law_along) (d_law_along.dvs K) [] (gA K "_law_along") fd := T.fun_ 15 (d := d_law_along) rfl
theorem Tx.fd_law (T : Tx K mg) : ∃ fd, FunD K "law" "law" (defArgs s_law) (defBody s_law) (defScope s_law) (d_law.dvs K) [] (gA K "law") fd := T.fun_ 16 (d := d_law) rfl
theorem Tx.fd_Track_init (T : Tx K mg) : ∃ fd, FunD K "__init__" "Track.__init__" (defArgs s_Track_init) (defBody s_Track_init) (defScope s_Track_init) (d_Track_init.dvs K) [] (mA K "Track" "__init__") fd := T.fun_ 17 (d := d_Track_init) rfl
theorem Tx.fd_Track_many (T : Tx K mg) : ∃ fd, FunD K "many" "Track.many" (defArgs s_Track_many) (defBody s_Track_many) (defScope s_Track_many) (d_Track_many.dvs K) [] (mA K "Track" "many") fd := T.fun_ 18 (d := d_Track_many) rfl
theorem Tx.fd_Track_turn (T : Tx K mg) : ∃ fd, FunD K "turn" "Track.turn" (defArgs s_Track_turn) (defBody s_Track_turn) (defScope s_Track_turn) (d_Track_turn.dvs K) [] (mA K "Track" "turn") fd := T.fun_ 19 (d := d_Track_turn) rfl
theorem Tx.fd_Track_shift (T : Tx K mg) : ∃ fd, FunD K "shift" "Track.shift" (defArgs s_Track_shift) (defBody s_Track_shift) (defScope s_Track_shift) (d_Track_shift.dvs K) [] (mA K "Track" "shift") fd := T.fun_ 20 (d := d_Track_shift) rfl
theorem Tx.fd_Track_strokes (T : Tx K mg) : ∃ fd, FunD K "strokes" "Track.strokes" (defArgs s_Track_strokes) (defBody s_Track_strokes) (defScope s_Track_strokes) (d_Track_strokes.dvs K) [] (mA K "Track" "strokes") fd := T.fun_ 21 (d := d_Track_strokes) rfl
theorem Tx.fd_Track_reach (T : Tx K mg) : ∃ fd, FunD K "reach" "Track.reach" (defArgs s_Track_reach) (defBody s_Track_reach) (defScope s_Track_reach) (d_Track_reach.dvs K) [] (mA K "Track" "reach") fd := T.fun_ 22 (d := d_Track_reach) rfl
theorem Tx.fd_Track_touch (T : Tx K mg) : ∃ fd, FunD K "touch" "Track.touch" (defArgs s_Track_touch) (defBody s_Track_touch) (defScope s_Track_touch) (d_Track_touch.dvs K) [] (mA K "Track" "touch") fd := T.fun_ 23 (d := d_Track_touch) rfl
theorem Tx.fd_Track_area (T : Tx K mg) : ∃ fd, FunD K "area" "Track.area" (defArgs s_Track_area) (defBody s_Track_area) (defScope s_Track_area) (d_Track_area.dvs K) [] (mA K "Track" "area") fd := T.fun_ 24 (d := d_Track_area) rfl
theorem Tx.fd_Track_seen_from (T : Tx K mg) : ∃ fd, FunD K "seen_from" "Track.seen_from" (defArgs s_Track_seen_from) (defBody s_Track_seen_from) (defScope s_Track_seen_from) (d_Track_seen_from.dvs K) [] (mA K "Track" "seen_from") fd := T.fun_ 25 (d := d_Track_seen_from) rfl
theorem Tx.fd_Track_joined (T : Tx K mg) : ∃ fd, FunD K "joined" "Track.joined" (defArgs s_Track_joined) (defBody s_Track_joined) (defScope s_Track_joined) (d_Track_joined.dvs K) [] (mA K "Track" "joined") fd := T.fun_ 26 (d := d_Track_joined) rfl
theorem Tx.fd_Drawing_init (T : Tx K mg) : ∃ fd, FunD K "__init__" "Drawing.__init__" (defArgs s_Drawing_init) (defBody s_Drawing_init) (defScope s_Drawing_init) (d_Drawing_init.dvs K) [] (mA K "Drawing" "__init__") fd := T.fun_ 27 (d := d_Drawing_init) rfl
theorem Tx.fd_Drawing_first_table (T : Tx K mg) : ∃ fd, FunD K "first_table" "Drawing.first_table" (defArgs s_Drawing_first_table) (defBody s_Drawing_first_table) (defScope s_Drawing_first_table) (d_Drawing_first_table.dvs K) [] (mA K "Drawing" "first_table") fd := T.fun_ 28 (d := d_Drawing_first_table) rfl
theorem Tx.fd_Drawing_next_table (T : Tx K mg) : ∃ fd, FunD K "next_table" "Drawing.next_table" (defArgs s_Drawing_next_table) (defBody s_Drawing_next_table) (defScope s_Drawing_next_table) (d_Drawing_next_table.dvs K) [] (mA K "Drawing" "next_table") fd := T.fun_ 29 (d := d_Drawing_next_table) rfl
theorem Tx.fd_Drawing_grown (T : Tx K mg) : ∃ fd, FunD K "grown" "Drawing.grown" (defArgs s_Drawing_grown) (defBody s_Drawing_grown) (defScope s_Drawing_grown) (d_Drawing_grown.dvs K) [] (mA K "Drawing" "grown") fd := T.fun_ 30 (d := d_Drawing_grown) rfl
theorem Tx.fd_Drawing_stretch (T : Tx K mg) : ∃ fd, FunD K "stretch" "Drawing.stretch" (defArgs s_Drawing_stretch) (defBody s_Drawing_stretch) (defScope s_Drawing_stretch) (d_Drawing_stretch.dvs K) [] (mA K "Drawing" "stretch") fd := T.fun_ 31 (d := d_Drawing_stretch) rfl
theorem Tx.fd_Growth_init (T : Tx K mg) : ∃ fd, FunD K "__init__" "Growth.__init__" (defArgs s_Growth_init) (defBody s_Growth_init) (defScope s_Growth_init) (d_Growth_init.dvs K) [] (mA K "Growth" "__init__") fd := T.fun_ 32 (d := d_Growth_init) rfl
theorem Tx.fd_Growth_rules_told (T : Tx K mg) : ∃ fd, FunD K "rules_told" "Growth.rules_told" (defArgs s_Growth_rules_told) (defBody s_Growth_rules_told) (defScope s_Growth_rules_told) (d_Growth_rules_told.dvs K) [] (mA K "Growth" "rules_told") fd := T.fun_ 33 (d := d_Growth_rules_told) rfl
theorem Tx.fd_Growth_needs_round (T : Tx K mg) : ∃ fd, FunD K "needs_round" "Growth.needs_round" (defArgs s_Growth_needs_round) (defBody s_Growth_needs_round) (defScope s_Growth_needs_round) (d_Growth_needs_round.dvs K) [] (mA K "Growth" "needs_round") fd := T.fun_ 34 (d := d_Growth_needs_round) rfl
theorem Tx.fd_Growth_needs_place (T : Tx K mg) : ∃ fd, FunD K "needs_place" "Growth.needs_place" (defArgs s_Growth_needs_place) (defBody s_Growth_needs_place) (defScope s_Growth_needs_place) (d_Growth_needs_place.dvs K) [] (mA K "Growth" "needs_place") fd := T.fun_ 35 (d := d_Growth_needs_place) rfl
theorem Tx.fd_Growth_none_counted (T : Tx K mg) : ∃ fd, FunD K "none_counted" "Growth.none_counted" (defArgs s_Growth_none_counted) (defBody s_Growth_none_counted) (defScope s_Growth_none_counted) (d_Growth_none_counted.dvs K) [] (mA K "Growth" "none_counted") fd := T.fun_ 36 (d := d_Growth_none_counted) rfl
theorem Tx.fd_Growth_first_table (T : Tx K mg) : ∃ fd, FunD K "first_table" "Growth.first_table" (defArgs s_Growth_first_table) (defBody s_Growth_first_table) (defScope s_Growth_first_table) (d_Growth_first_table.dvs K) [] (mA K "Growth" "first_table") fd := T.fun_ 37 (d := d_Growth_first_table) rfl
theorem Tx.fd_Growth_next_table (T : Tx K mg) : ∃ fd, FunD K "next_table" "Growth.next_table" (defArgs s_Growth_next_table) (defBody s_Growth_next_table) (defScope s_Growth_next_table) (d_Growth_next_table.dvs K) [] (mA K "Growth" "next_table") fd := T.fun_ 38 (d := d_Growth_next_table) rfl
theorem Tx.fd_Growth_grown (T : Tx K mg) : ∃ fd, FunD K "grown" "Growth.grown" (defArgs s_Growth_grown) (defBody s_Growth_grown) (defScope s_Growth_grown) (d_Growth_grown.dvs K) [] (mA K "Growth" "grown") fd := T.fun_ 39 (d := d_Growth_grown) rfl
theorem Tx.fd_Growth_sizes_at (T : Tx K mg) : ∃ fd, FunD K "sizes_at" "Growth.sizes_at" (defArgs s_Growth_sizes_at) (defBody s_Growth_sizes_at) (defScope s_Growth_sizes_at) (d_Growth_sizes_at.dvs K) [] (mA K "Growth" "sizes_at") fd := T.fun_ 40 (d := d_Growth_sizes_at) rfl
theorem Tx.fd_Growth_length (T : Tx K mg) : ∃ fd, FunD K "length" "Growth.length" (defArgs s_Growth_length) (defBody s_Growth_length) (defScope s_Growth_length) (d_Growth_length.dvs K) [] (mA K "Growth" "length") fd := T.fun_ 41 (d := d_Growth_length) rfl
theorem Tx.fd_Growth_needs_stretch (T : Tx K mg) : ∃ fd, FunD K "needs_stretch" "Growth.needs_stretch" (defArgs s_Growth_needs_stretch) (defBody s_Growth_needs_stretch) (defScope s_Growth_needs_stretch) (d_Growth_needs_stretch.dvs K) [] (mA K "Growth" "needs_stretch") fd := T.fun_ 42 (d := d_Growth_needs_stretch) rfl
theorem Tx.fd_Growth_cover (T : Tx K mg) : ∃ fd, FunD K "cover" "Growth.cover" (defArgs s_Growth_cover) (defBody s_Growth_cover) (defScope s_Growth_cover) (d_Growth_cover.dvs K) [] (mA K "Growth" "cover") fd := T.fun_ 43 (d := d_Growth_cover) rfl
theorem Tx.fd_Rules_init (T : Tx K mg) : ∃ fd, FunD K "__init__" "Rules.__init__" (defArgs s_Rules_init) (defBody s_Rules_init) (defScope s_Rules_init) (d_Rules_init.dvs K) [] (mA K "Rules" "__init__") fd := T.fun_ 44 (d := d_Rules_init) rfl
theorem Tx.fd_Rules_pen (T : Tx K mg) : ∃ fd, FunD K "pen" "Rules.pen" (defArgs s_Rules_pen) (defBody s_Rules_pen) (defScope s_Rules_pen) (d_Rules_pen.dvs K) [] (mA K "Rules" "pen") fd := T.fun_ 45 (d := d_Rules_pen) rfl
theorem Tx.fd_Rules_letters (T : Tx K mg) : ∃ fd, FunD K "letters" "Rules.letters" (defArgs s_Rules_letters) (defBody s_Rules_letters) (defScope s_Rules_letters) (d_Rules_letters.dvs K) [] (mA K "Rules" "letters") fd := T.fun_ 46 (d := d_Rules_letters) rfl
theorem Tx.fd_Rules_look (T : Tx K mg) : ∃ fd, FunD K "look" "Rules.look" (defArgs s_Rules_look) (defBody s_Rules_look) (defScope s_Rules_look) (d_Rules_look.dvs K) [] (mA K "Rules" "look") fd := T.fun_ 47 (d := d_Rules_look) rfl
theorem Tx.fd_Rules_deed (T : Tx K mg) : ∃ fd, FunD K "deed" "Rules.deed" (defArgs s_Rules_deed) (defBody s_Rules_deed) (defScope s_Rules_deed) (d_Rules_deed.dvs K) [] (mA K "Rules" "deed") fd := T.fun_ 48 (d := d_Rules_deed) rfl
theorem Tx.fd_Rules_word (T : Tx K mg) : ∃ fd, FunD K "word" "Rules.word" (defArgs s_Rules_word) (defBody s_Rules_word) (defScope s_Rules_word) (d_Rules_word.dvs K) [] (mA K "Rules" "word") fd := T.fun_ 49 (d := d_Rules_word) rfl
theorem Tx.fd_Rules_word_of (T : Tx K mg) : ∃ fd, FunD K "word_of" "Rules.word_of" (defArgs s_Rules_word_of) (defBody s_Rules_word_of) (defScope s_Rules_word_of) (d_Rules_word_of.dvs K) [] (mA K "Rules" "word_of") fd := T.fun_ 50 (d := d_Rules_word_of) rfl
theorem Tx.fd_Quarter_ways (T : Tx K mg) : ∃ fd, FunD K "ways" "Quarter.ways" (defArgs s_Quarter_ways) (defBody s_Quarter_ways) (defScope s_Quarter_ways) (d_Quarter_ways.dvs K) [] (mA K "Quarter" "ways") fd := T.fun_ 51 (d := d_Quarter_ways) rfl
theorem Tx.fd_Quarter_once_left (T : Tx K mg) : ∃ fd, FunD K "once_left" "Quarter.once_left" (defArgs s_Quarter_once_left) (defBody s_Quarter_once_left) (defScope s_Quarter_once_left) (d_Quarter_once_left.dvs K) [] (mA K "Quarter" "once_left") fd := T.fun_ 52 (d := d_Quarter_once_left) rfl
theorem Tx.fd_Quarter_sights (T : Tx K mg) : ∃ fd, FunD K "sights" "Quarter.sights" (defArgs s_Quarter_sights) (defBody s_Quarter_sights) (defScope s_Quarter_sights) (d_Quarter_sights.dvs K) [] (mA K "Quarter" "sights") fd := T.fun_ 53 (d := d_Quarter_sights) rfl
theorem Tx.fd_Quarter_way_of (T : Tx K mg) : ∃ fd, FunD K "way_of" "Pen.way_of" (defArgs s_Quarter_way_of) (defBody s_Quarter_way_of) (defScope s_Quarter_way_of) (d_Quarter_way_of.dvs K) [] (mA K "Quarter" "way_of") fd := T.fun_ 54 (d := d_Quarter_way_of) rfl
theorem Tx.fd_Quarter_turned (T : Tx K mg) : ∃ fd, FunD K "turned" "Pen.turned" (defArgs s_Quarter_turned) (defBody s_Quarter_turned) (defScope s_Quarter_turned) (d_Quarter_turned.dvs K) [] (mA K "Quarter" "turned") fd := T.fun_ 55 (d := d_Quarter_turned) rfl
theorem Tx.fd_Quarter_step (T : Tx K mg) : ∃ fd, FunD K "step" "Pen.step" (defArgs s_Quarter_step) (defBody s_Quarter_step) (defScope s_Quarter_step) (d_Quarter_step.dvs K) [] (mA K "Quarter" "step") fd := T.fun_ 56 (d := d_Quarter_step) rfl
theorem Tx.fd_Quarter_along (T : Tx K mg) : ∃ fd, FunD K "along" "Pen.along" (defArgs s_Quarter_along) (defBody s_Quarter_along) (defScope s_Quarter_along) (d_Quarter_along.dvs K) [] (mA K "Quarter" "along") fd := T.fun_ 57 (d := d_Quarter_along) rfl
theorem Tx.fd_Quarter_after (T : Tx K mg) : ∃ fd, FunD K "after" "Pen.after" (defArgs s_Quarter_after) (defBody s_Quarter_after) (defScope s_Quarter_after) (d_Quarter_after.dvs K) [] (mA K "Quarter" "after") fd := T.fun_ 58 (d := d_Quarter_after) rfl
theorem Tx.fd_Sixth_ways (T : Tx K mg) : ∃ fd, FunD K "ways" "Sixth.ways" (defArgs s_Sixth_ways) (defBody s_Sixth_ways) (defScope s_Sixth_ways) (d_Sixth_ways.dvs K) [] (mA K "Sixth" "ways") fd := T.fun_ 59 (d := d_Sixth_ways) rfl
theorem Tx.fd_Sixth_once_left (T : Tx K mg) : ∃ fd, FunD K "once_left" "Sixth.once_left" (defArgs s_Sixth_once_left) (defBody s_Sixth_once_left) (defScope s_Sixth_once_left) (d_Sixth_once_left.dvs K) [] (mA K "Sixth" "once_left") fd := T.fun_ 60 (d := d_Sixth_once_left) rfl
theorem Tx.fd_Sixth_sights (T : Tx K mg) : ∃ fd, FunD K "sights" "Sixth.sights" (defArgs s_Sixth_sights) (defBody s_Sixth_sights) (defScope s_Sixth_sights) (d_Sixth_sights.dvs K) [] (mA K "Sixth" "sights") fd := T.fun_ 61 (d := d_Sixth_sights) rfl
theorem Tx.fd_Sixth_way_of (T : Tx K mg) : ∃ fd, FunD K "way_of" "Pen.way_of" (defArgs s_Sixth_way_of) (defBody s_Sixth_way_of) (defScope s_Sixth_way_of) (d_Sixth_way_of.dvs K) [] (mA K "Sixth" "way_of") fd := T.fun_ 62 (d := d_Sixth_way_of) rfl
theorem Tx.fd_Sixth_turned (T : Tx K mg) : ∃ fd, FunD K "turned" "Pen.turned" (defArgs s_Sixth_turned) (defBody s_Sixth_turned) (defScope s_Sixth_turned) (d_Sixth_turned.dvs K) [] (mA K "Sixth" "turned") fd := T.fun_ 63 (d := d_Sixth_turned) rfl
theorem Tx.fd_Sixth_step (T : Tx K mg) : ∃ fd, FunD K "step" "Pen.step" (defArgs s_Sixth_step) (defBody s_Sixth_step) (defScope s_Sixth_step) (d_Sixth_step.dvs K) [] (mA K "Sixth" "step") fd := T.fun_ 64 (d := d_Sixth_step) rfl
theorem Tx.fd_Sixth_along (T : Tx K mg) : ∃ fd, FunD K "along" "Pen.along" (defArgs s_Sixth_along) (defBody s_Sixth_along) (defScope s_Sixth_along) (d_Sixth_along.dvs K) [] (mA K "Sixth" "along") fd := T.fun_ 65 (d := d_Sixth_along) rfl
theorem Tx.fd_Sixth_after (T : Tx K mg) : ∃ fd, FunD K "after" "Pen.after" (defArgs s_Sixth_after) (defBody s_Sixth_after) (defScope s_Sixth_after) (d_Sixth_after.dvs K) [] (mA K "Sixth" "after") fd := T.fun_ 66 (d := d_Sixth_after) rfl
end
end SG

/-! ## SgHas -/
set_option autoImplicit true
set_option Elab.async false
set_option maxRecDepth 100000
set_option maxHeartbeats 4000000
namespace SG
open PySem PySem.Spec PyProof.Rows L2
/-! ### a def with its promise, ready to be called -/
def fdOf (K : PySem.W.Frag) (f : Addr) : FuncData := match K.lookup f with
  | some ⟨_, _, .func fd, _⟩ => fd
  | _ => PySem.W.fnOf "" "" { posonlyargs := [], args := [], vararg := none, kwonlyargs := [], kw_defaults := [], kwarg := none, defaults := [] } [] ⟨.function, [], false, false, []⟩ .none .none .none .none none .none .none
structure Has (P : Program) (w : World) (K : PySem.W.Frag) (mg : Str → Option Value) (base : Heap) (k : Nat) (f : Addr) (ps : List Str) (sp : Sp) (dvs : List V) : Prop where
  ok : FnOk P w K mg base CX0 k f (fdOf K f) ps sp
  b : ∃ ds, Binds K (fdOf K f) ps ds ∧ Vals dvs ds
  kp : PySem.W.keepIn K (.ref f) = true
section
variable {P : Program} {w : World} {K : PySem.W.Frag} {mg : Str → Option Value} {base : Heap} {x qual : Str} {pa : Arguments} {bd : List Stmt} {sc : Scope} {dv : List V} {f : Addr} {fd : FuncData} {k : Nat} {N ps : List Str} {sp : Sp} {dvs : List V}
theorem fdOf_eq (F : FunD K x qual pa bd sc dv [] f fd) : fd = fdOf K f := by
  obtain ⟨oc, od, dV, kV, doc, pm, an, cdv, ct, osl, e, lk, _⟩ := F.ex
  unfold fdOf
  rw [lk]
theorem Has.any {ι : Type} {sp : ι → Sp} (i0 : ι) (h : ∀ i, Has P w K mg base k f ps (sp i) dvs) : Has P w K mg base k f ps (fun vs H Q E => ∃ i, sp i vs H Q E) dvs :=
  ⟨⟨fun vs H Q E ⟨i, q⟩ => (h i).ok.len vs H Q E q, fun A outer s H args us vs Q E hr e0 hb r ⟨i, q⟩ => (h i).ok.run A outer s H args us vs Q E hr e0 hb r q⟩, (h i0).b, (h i0).kp⟩
theorem Has.mono {j : Nat} (h : Has P w K mg base j f ps sp dvs) (q : j ≤ k) : Has P w K mg base k f ps sp dvs := ⟨h.ok.mono q, h.b, h.kp⟩
theorem Has.imp {sp' : Sp} (h : Has P w K mg base k f ps sp dvs) (q : ∀ vs H Q E, sp' vs H Q E → sp vs H Q E) : Has P w K mg base k f ps sp' dvs := ⟨h.ok.imp q, h.b, h.kp⟩
theorem okD (F : FunD K x qual pa bd sc dv [] f fd) (S : FnScope N ps sc) (len : ∀ vs H Q E, sp vs H Q E → vs.length = ps.length)
    (body : ∀ (cdv : Value) (A : Around) (outer : List Env) (s : Shared) (H : Hp) (vs : List V) (Q : VK) (E : XK), Room k (A.deeper (envOfC qual sc s.heap.objs.size f cdv)) → sp vs H Q E →
      ∃ t, PSs (cxOf CX0 P w K mg base N qual sc f cdv A outer s H E).nox bd t ∧ t { nx := fun _ H' => Q .non H', rt := Q } (start N vs) H) : FnOk P w K mg base CX0 (k + 1) f (fdOf K f) ps sp := by
  have e := fdOf_eq F
  subst e
  refine F.ok S len fun cdv A outer s H vs Q E hr h => ?_
  obtain ⟨t, p, q⟩ := body cdv A outer s H vs Q E hr h
  exact ⟨t, p.nox, q⟩
/-- no defaults -/
theorem hasD (F : FunD K x qual pa bd sc [] [] f fd) (S : FnScope N ps sc) (len : ∀ vs H Q E, sp vs H Q E → vs.length = ps.length)
    (bind : ∀ (kV doc pm : Value) (an : Option Addr) (cdv ct : Value) (us : List Value), us.length = ps.length → bindArgs (PySem.W.fnOf x qual pa bd sc .none kV doc pm an cdv ct) ⟨us, []⟩ = pure (ps.zip us))
    (body : ∀ (cdv : Value) (A : Around) (outer : List Env) (s : Shared) (H : Hp) (vs : List V) (Q : VK) (E : XK), Room k (A.deeper (envOfC qual sc s.heap.objs.size f cdv)) → sp vs H Q E →
      ∃ t, PSs (cxOf CX0 P w K mg base N qual sc f cdv A outer s H E).nox bd t ∧ t { nx := fun _ H' => Q .non H', rt := Q } (start N vs) H) : Has P w K mg base (k + 1) f ps sp [] := by
  have e := fdOf_eq F
  subst e
  exact ⟨okD F S len body, ⟨[], F.bindsN bind, .nil⟩, F.kp⟩
/-- n values written, the defaults behind the first j fill up -/
theorem bindD (n j : Nat) (F : FunD K x qual pa bd sc dv [] f fd) (hd : dv ≠ []) (hn : n + (dv.length - j) = ps.length)
    (bind : ∀ (T : Addr) (kV doc pm : Value) (an : Option Addr) (cdv ct : Value) (us its : List Value), us.length = n → its.length = dv.length →
      ∃ k, bindArgs (PySem.W.fnOf x qual pa bd sc (.ref T) kV doc pm an cdv ct) ⟨us, []⟩ = seqItems? (.ref T) >>= k ∧ k (some its.toArray) = pure (ps.zip (us ++ its.drop j))) : ∃ ds, Binds K (fdOf K f) ps ds ∧ Vals (dv.drop j) ds := by
  have e := fdOf_eq F
  subst e
  obtain ⟨ds, h1, h2⟩ := F.binds1 n j hd hn bind
  exact ⟨ds, h2, h1⟩
end
/-! ### calls -/
section
variable {X : Cx} {k j : Nat} {f C : Addr} {ps : List Str} {sp : Sp} {dvs : List V} {x m : Str} {p pos apos : Pos} {e o : Expr} {es : List Expr} {ta : TE} {t : TA}
theorem pm {pl : Sem Bool} (he : PE X o ta) (c : Cls X.K C) (hm : Meth X.K C m f) (F : Has X.prog X.w X.K X.mg X.base k f ps sp dvs) (hr : Room j X.A) (ha : PA X (e :: es) t) (hk : k ≤ j := by decide)
    (hst : starEach (e :: es) X.env = (false, eval e X.env) :: starEach es X.env := by rfl) (hpl : (backTo pos (starEach es X.env)).any (·.1) = false := by rfl)
    (ht : eval (.Call (.Attribute o m apos) (e :: es) [] pos) X.env = (do
      let ov ← eval o X.env
      standAt apos.atName
      let (f, first) ← holding [ov] (getMethod ov m pl)
      callWith pos f first (backTo pos (starEach (e :: es) X.env)) (backToKw pos (keywordEach [] X.env))) := by rfl) :
    PE X (.Call (.Attribute o m apos) (e :: es) [] pos) (tMeth C m sp dvs E0 ta t) := by
  obtain ⟨ds, b, v⟩ := F.b
  exact pe_meth he c hm F.ok (hr.mono hk) b v pass0 ha hst hpl ht
theorem pm0 {pl : Sem Bool} (he : PE X o ta) (c : Cls X.K C) (hm : Meth X.K C m f) (F : Has X.prog X.w X.K X.mg X.base k f ps sp dvs) (hr : Room j X.A) (hk : k ≤ j := by decide)
    (ht : eval (.Call (.Attribute o m apos) [] [] pos) X.env = (do
      let ov ← eval o X.env
      standAt apos.atName
      let (f, first) ← holding [ov] (getMethod ov m pl)
      callWith pos f first (backTo pos (starEach [] X.env)) (backToKw pos (keywordEach [] X.env))) := by rfl) :
    PE X (.Call (.Attribute o m apos) [] [] pos) (tMeth C m sp dvs E0 ta tNil) := by
  obtain ⟨ds, b, v⟩ := F.b
  exact pe_meth0 he c hm F.ok (hr.mono hk) b v pass0 ht
theorem pcl (hm : X.mg x = some (.ref f)) (F : Has X.prog X.w X.K X.mg X.base k f ps sp dvs) (hr : Room j X.A) (ha : PA X (e :: es) t) (hk : k ≤ j := by decide) (hg : Gl X x := by rfl)
    (hdb : (x == ("__debug__" : Str)) = false := by decide) (he : starEach (e :: es) X.env = (false, eval e X.env) :: starEach es X.env := by rfl) (hpl : (backTo pos (starEach es X.env)).any (·.1) = false := by rfl) :
    PE X (.Call (.Name x p) (e :: es) [] pos) (tCall sp dvs E0 t) := by
  obtain ⟨ds, b, v⟩ := F.b
  exact pe_call F.ok (hr.mono hk) hg hm F.kp b v pass0 ha hdb he hpl
theorem pmake (M : Mk X.K C f) (hm : X.mg x = some (.ref C)) (F : Has X.prog X.w X.K X.mg X.base k f ps sp dvs) (hr : Room j X.A) (ha : PA X (e :: es) t) (hk : k + 1 ≤ j := by decide) (hg : Gl X x := by rfl)
    (hdb : (x == ("__debug__" : Str)) = false := by decide) (he : starEach (e :: es) X.env = (false, eval e X.env) :: starEach es X.env := by rfl) (hpl : (backTo pos (starEach es X.env)).any (·.1) = false := by rfl) :
    PE X (.Call (.Name x p) (e :: es) [] pos) (tMake C sp dvs E0 t) := by
  obtain ⟨ds, b, v⟩ := F.b
  exact pe_make M F.ok (hr.mono hk) hg hm b v pass0 ha hdb he hpl
end
/-! ### in a comprehension's block the reading must not name the block: K written out -/
theorem fldK {X : Cx} (K : PySem.W.Frag) {e : Expr} {f : Str} {pos : Pos} {ta : TE} (he : PE X e ta) (hb : attributeBase e f X.env (eval e X.env) = eval e X.env) (hK : X.K = K := by rfl) : PE X (.Attribute e f pos) (tFld K ta f) := by
  subst hK
  exact pe_fld he hb
theorem ixlK {X : Cx} (K : PySem.W.Frag) (hK : X.K = K := by rfl) : IxR X (rIxL K) := by
  subst hK
  exact ix_list
theorem ixtK {X : Cx} (K : PySem.W.Frag) (hK : X.K = K := by rfl) : IxR X (rIxT K) := by
  subst hK
  exact ix_tup
theorem pgtK {X : Cx} (K : PySem.W.Frag) {es : List Expr} {k : Nat} {t : TGs} {n : Nat} {pos : Pos} (hc : X.calm = true) (h : PGs X es t) (hn : (assignEach es X.env).length = n := by rfl) (hs : (assignEach es X.env).findIdx? (·.1) = none := by rfl) (hK : X.K = K := by rfl) : PG X (.Tuple es k pos) (gTup K n t) := by
  subst hK
  exact pg_tup hc h hn hs
/-! ### instance dicts of up to four attributes -/
section
variable {a b c d m : Str} {x y z u : V}
theorem put1 : putF a x [] = [(a, x)] := rfl
theorem put2 (h : ¬ a = b) : putF b y [(a, x)] = [(a, x), (b, y)] := by
  show (if a = b then _ else _) = _
  rw [if_neg h]; rfl
theorem put3 (h : ¬ a = c) (h2 : ¬ b = c) : putF c z [(a, x), (b, y)] = [(a, x), (b, y), (c, z)] := by
  show (if a = c then _ else (a, x) :: putF c z [(b, y)]) = _
  rw [if_neg h, put2 h2]
theorem put4 (h : ¬ a = d) (h2 : ¬ b = d) (h3 : ¬ c = d) : putF d u [(a, x), (b, y), (c, z)] = [(a, x), (b, y), (c, z), (d, u)] := by
  show (if a = d then _ else (a, x) :: putF d u [(b, y), (c, z)]) = _
  rw [if_neg h, put3 h2 h3]
theorem look_cons (l : List (Str × V)) (h : ¬ m = a) : ((a, x) :: l).lookup m = l.lookup m := by
  have hb : (m == a) = false := beq_eq_false_iff_ne.mpr h
  simp only [List.lookup, hb]
theorem look_here (l : List (Str × V)) : ((a, x) :: l).lookup a = some x := by
  have hb : (a == a) = true := beq_iff_eq.mpr rfl
  simp only [List.lookup, hb]
theorem look_none {l : List (Str × V)} (h : (l.map (·.1)).all (fun k => decide (¬ m = k)) = true) : l.lookup m = none := by
  induction l with
  | nil => rfl
  | cons q l ih =>
    obtain ⟨k, v⟩ := q
    rw [List.map_cons, List.all_cons, Bool.and_eq_true] at h
    rw [look_cons l (of_decide_eq_true h.1)]
    exact ih h.2
end
end SG

/-! ## SgMath1 -/
set_option autoImplicit true
set_option autoImplicit false
namespace SG
/-! ### Spots, turns, sights. κ = true: four ways; false: six -/
abbrev Spot := Int × Int
def nW (κ : Bool) : Nat := if κ then 4 else 6
def rot (κ : Bool) (s : Spot) : Spot := if κ then (-s.2, s.1) else (-s.2, s.1 + s.2)
def rotN (κ : Bool) : Nat → Spot → Spot
  | 0, s => s
  | k + 1, s => rot κ (rotN κ k s)
def addS (s t : Spot) : Spot := (s.1 + t.1, s.2 + t.2)
/-- how far a spot lies along the way w (below nW) -/
def algQ : Nat → Spot → Int
  | 0, s => s.1
  | 1, s => s.2
  | 2, s => -s.1
  | _ + 3, s => -s.2
def algS : Nat → Spot → Int
  | 0, s => 2 * s.1 + s.2
  | 1, s => s.1 + 2 * s.2
  | 2, s => s.2 - s.1
  | 3, s => -(2 * s.1 + s.2)
  | 4, s => -(s.1 + 2 * s.2)
  | _ + 5, s => -(s.2 - s.1)
def alg (κ : Bool) (w : Nat) (s : Spot) : Int := if κ then algQ w s else algS w s
theorem alg_t (w : Nat) (s : Spot) : alg true w s = algQ w s := rfl
theorem alg_f (w : Nat) (s : Spot) : alg false w s = algS w s := rfl
theorem nW_pos (κ : Bool) : 0 < nW κ := by cases κ <;> decide
theorem rot_add (κ : Bool) (s t : Spot) : rot κ (addS s t) = addS (rot κ s) (rot κ t) := by
  cases κ <;> simp only [rot, addS] <;> (apply Prod.ext <;> simp <;> omega)
theorem rotN_add (κ : Bool) (k : Nat) (s t : Spot) : rotN κ k (addS s t) = addS (rotN κ k s) (rotN κ k t) := by
  induction k with
  | zero => rfl
  | succ k ih => show rot κ (rotN κ k _) = _; rw [ih, rot_add]; rfl
theorem rotN_rotN (κ : Bool) (j k : Nat) (s : Spot) : rotN κ j (rotN κ k s) = rotN κ (j + k) s := by
  induction j with
  | zero => rw [Nat.zero_add]; rfl
  | succ j ih => rw [Nat.succ_add]; show rot κ _ = rot κ _; rw [ih]
theorem rotN_n (κ : Bool) (s : Spot) : rotN κ (nW κ) s = s := by
  obtain ⟨x, y⟩ := s
  cases κ
  · show rot false (rot false (rot false (rot false (rot false (rot false (x, y)))))) = (x, y)
    simp only [rot]; apply Prod.ext <;> simp <;> omega
  · show rot true (rot true (rot true (rot true (x, y)))) = (x, y)
    simp only [rot]; apply Prod.ext <;> simp
theorem rotN_mod (κ : Bool) (k : Nat) (s : Spot) : rotN κ (k % nW κ) s = rotN κ k s := by
  have hm : ∀ q r : Nat, rotN κ (r + nW κ * q) s = rotN κ r s := by
    intro q
    induction q with
    | zero => intro r; rfl
    | succ q ih => intro r; rw [Nat.mul_succ, Nat.add_comm (nW κ * q), ← Nat.add_assoc, ih (r + nW κ), ← rotN_rotN, rotN_n]
  have := hm (k / nW κ) (k % nW κ)
  rw [Nat.mod_add_div] at this
  exact this.symm
theorem rotN_zero (κ : Bool) (k : Nat) : rotN κ k (0, 0) = (0, 0) := by
  induction k with
  | zero => rfl
  | succ k ih => show rot κ _ = _; rw [ih]; cases κ <;> rfl
theorem alg_add (κ : Bool) (w : Nat) (s t : Spot) : alg κ w (addS s t) = alg κ w s + alg κ w t := by
  cases κ
  · rw [alg_f, alg_f, alg_f]
    match w with
    | 0 | 1 | 2 | 3 | 4 | _ + 5 => simp [algS, addS] <;> omega
  · rw [alg_t, alg_t, alg_t]
    match w with
    | 0 | 1 | 2 | _ + 3 => simp [algQ, addS] <;> omega
theorem alg_zero (κ : Bool) (w : Nat) : alg κ w (0, 0) = 0 := by
  cases κ
  · rw [alg_f]
    match w with
    | 0 | 1 | 2 | 3 | 4 | _ + 5 => simp [algS]
  · rw [alg_t]
    match w with
    | 0 | 1 | 2 | _ + 3 => simp [algQ]
/-- one turn -/
theorem alg_rot (κ : Bool) (w : Nat) (hw : w < nW κ) (s : Spot) : alg κ w (rot κ s) = alg κ ((w + (nW κ - 1)) % nW κ) s := by
  obtain ⟨x, y⟩ := s
  cases κ
  · have h : w < 6 := hw
    rw [alg_f, alg_f]
    match w, h with
    | 0, _ => show 2 * (-y) + (x + y) = -(y - x); omega
    | 1, _ => show -y + 2 * (x + y) = 2 * x + y; omega
    | 2, _ => show (x + y) - (-y) = x + 2 * y; omega
    | 3, _ => show -(2 * (-y) + (x + y)) = y - x; omega
    | 4, _ => show -(-y + 2 * (x + y)) = -(2 * x + y); omega
    | 5, _ => show -((x + y) - (-y)) = -(x + 2 * y); omega
  · have h : w < 4 := hw
    rw [alg_t, alg_t]
    match w, h with
    | 0, _ => rfl
    | 1, _ => rfl
    | 2, _ => show -(-y) = y; omega
    | 3, _ => rfl
theorem alg_rotN (κ : Bool) (k w : Nat) (hk : k < nW κ) (hw : w < nW κ) (s : Spot) : alg κ w (rotN κ k s) = alg κ ((w + (nW κ - k)) % nW κ) s := by
  induction k generalizing w with
  | zero => show alg κ w s = _; rw [Nat.sub_zero, Nat.add_mod_right, Nat.mod_eq_of_lt hw]
  | succ k ih =>
    show alg κ w (rot κ (rotN κ k s)) = _
    rw [alg_rot κ w hw, ih _ (by omega) (Nat.mod_lt _ (nW_pos κ)), Nat.mod_add_mod]
    congr 1
    have e : w + (nW κ - 1) + (nW κ - k) = w + (nW κ - (k + 1)) + nW κ := by omega
    rw [e, Nat.add_mod_right]
/-- (w - k) mod n in ints -/
theorem sub_mod_nat {n w k : Nat} (hn : 0 < n) (hk : k < n) : (((w : Int) - (k : Int)) % (n : Int)) = (((w + (n - k)) % n : Nat) : Int) := by
  have e : (w : Int) - (k : Int) = ((w + (n - k) : Nat) : Int) - (n : Int) := by omega
  rw [e, Int.sub_emod_right, Int.natCast_emod]

/-! ### Deeds -/
structure Dd where
  mv : Bool
  tu : Nat
  deriving DecidableEq
def shD (d : Dd) : Spot := if d.mv then (1, 0) else (0, 0)
def pos (κ : Bool) : List Dd → Spot
  | [] => (0, 0)
  | d :: r => addS (shD d) (rotN κ (d.tu % nW κ) (pos κ r))
def dir (κ : Bool) : List Dd → Nat
  | [] => 0
  | d :: r => (d.tu + dir κ r) % nW κ
theorem dir_lt (κ : Bool) (a : List Dd) : dir κ a < nW κ := by
  cases a with
  | nil => exact nW_pos κ
  | cons d r => exact Nat.mod_lt _ (nW_pos κ)
theorem dir_append (κ : Bool) (a b : List Dd) : dir κ (a ++ b) = (dir κ a + dir κ b) % nW κ := by
  induction a with
  | nil => show dir κ b = _; rw [show dir κ [] = 0 from rfl, Nat.zero_add, Nat.mod_eq_of_lt (dir_lt κ b)]
  | cons d r ih =>
    show (d.tu + dir κ (r ++ b)) % nW κ = ((d.tu + dir κ r) % nW κ + dir κ b) % nW κ
    rw [ih, Nat.add_mod_mod, Nat.mod_add_mod, Nat.add_assoc]
theorem addS_assoc (a b c : Spot) : addS (addS a b) c = addS a (addS b c) := by
  apply Prod.ext <;> simp [addS] <;> omega
theorem addS_zero (a : Spot) : addS a (0, 0) = a := by apply Prod.ext <;> simp [addS]
theorem zero_addS (a : Spot) : addS (0, 0) a = a := by apply Prod.ext <;> simp [addS]
theorem pos_append (κ : Bool) (a b : List Dd) : pos κ (a ++ b) = addS (pos κ a) (rotN κ (dir κ a) (pos κ b)) := by
  induction a with
  | nil => show pos κ b = addS (0, 0) (pos κ b); rw [zero_addS]
  | cons d r ih =>
    show addS (shD d) (rotN κ (d.tu % nW κ) (pos κ (r ++ b))) = addS (addS (shD d) (rotN κ (d.tu % nW κ) (pos κ r))) (rotN κ ((d.tu + dir κ r) % nW κ) (pos κ b))
    rw [ih, rotN_add, addS_assoc, rotN_rotN, rotN_mod, ← rotN_mod κ (d.tu % nW κ + dir κ r), Nat.mod_add_mod, rotN_mod κ (d.tu + dir κ r)]
/-- bounds -/
def Bd (κ : Bool) (L : Int) (s : Spot) : Prop := -L ≤ s.1 ∧ s.1 ≤ L ∧ -L ≤ s.2 ∧ s.2 ≤ L ∧ (κ = false → -L ≤ s.1 + s.2 ∧ s.1 + s.2 ≤ L)
theorem bd_rot {κ : Bool} {L : Int} {s : Spot} (h : Bd κ L s) : Bd κ L (rot κ s) := by
  obtain ⟨h1, h2, h3, h4, h5⟩ := h
  cases κ
  · have h6 := h5 rfl
    refine ⟨?_, ?_, ?_, ?_, fun _ => ⟨?_, ?_⟩⟩ <;> simp [rot] <;> omega
  · refine ⟨?_, ?_, ?_, ?_, fun q => by cases q⟩ <;> simp [rot] <;> omega
theorem bd_rotN {κ : Bool} {L : Int} {s : Spot} (k : Nat) (h : Bd κ L s) : Bd κ L (rotN κ k s) := by
  induction k with
  | zero => exact h
  | succ k ih => exact bd_rot ih
theorem bd_add {κ : Bool} {L M : Int} {s t : Spot} (h : Bd κ L s) (g : Bd κ M t) : Bd κ (L + M) (addS s t) := by
  obtain ⟨h1, h2, h3, h4, h5⟩ := h
  obtain ⟨g1, g2, g3, g4, g5⟩ := g
  refine ⟨?_, ?_, ?_, ?_, fun q => ?_⟩
  · show -(L + M) ≤ s.1 + t.1; omega
  · show s.1 + t.1 ≤ L + M; omega
  · show -(L + M) ≤ s.2 + t.2; omega
  · show s.2 + t.2 ≤ L + M; omega
  · have a := h5 q
    have b := g5 q
    show -(L + M) ≤ (s.1 + t.1) + (s.2 + t.2) ∧ (s.1 + t.1) + (s.2 + t.2) ≤ L + M
    omega
theorem bd_pos (κ : Bool) (a : List Dd) : Bd κ (a.length : Int) (pos κ a) := by
  induction a with
  | nil => exact ⟨Int.le_refl _, Int.le_refl _, Int.le_refl _, Int.le_refl _, fun _ => ⟨Int.le_refl _, Int.le_refl _⟩⟩
  | cons d r ih =>
    have h1 : Bd κ 1 (shD d) := by
      unfold shD
      split <;> refine ⟨?_, ?_, ?_, ?_, fun _ => ⟨?_, ?_⟩⟩ <;> decide
    have h := bd_add h1 (bd_rotN (d.tu % nW κ) ih)
    rw [List.length_cons, show (((r.length + 1 : Nat)) : Int) = 1 + (r.length : Int) by omega]
    exact h

/-! ### Reaches -/
def Far (κ : Bool) (a : List Dd) (w p : Nat) : Int := alg κ w (pos κ (a.take p))
structure IsReach (κ : Bool) (a : List Dd) (w : Nat) (R T : Int) : Prop where
  le : ∀ p, p ≤ a.length → Far κ a w p ≤ R
  at_ : ∃ t : Nat, T = (t : Int) ∧ t ≤ a.length ∧ Far κ a w t = R ∧ ∀ p, p < t → Far κ a w p < R
theorem far_left {κ : Bool} {a b : List Dd} {w p : Nat} (h : p ≤ a.length) : Far κ (a ++ b) w p = Far κ a w p := by
  unfold Far; rw [List.take_append_of_le_length h]
theorem far_right {κ : Bool} {a b : List Dd} {w q : Nat} (hw : w < nW κ) : Far κ (a ++ b) w (a.length + q) = alg κ w (pos κ a) + Far κ b ((w + (nW κ - dir κ a)) % nW κ) q := by
  unfold Far
  rw [List.take_length_add_append, pos_append, alg_add, alg_rotN κ _ _ (dir_lt κ a) hw]
theorem reach_join {κ : Bool} {a b : List Dd} {w : Nat} {R1 T1 R2 T2 : Int} (hw : w < nW κ) (h1 : IsReach κ a w R1 T1) (h2 : IsReach κ b ((w + (nW κ - dir κ a)) % nW κ) R2 T2) :
    IsReach κ (a ++ b) w (if R2 + alg κ w (pos κ a) > R1 then R2 + alg κ w (pos κ a) else R1) (if R2 + alg κ w (pos κ a) > R1 then (a.length : Int) + T2 else T1) := by
  obtain ⟨l1, t1, e1, b1, f1, n1⟩ := h1
  obtain ⟨l2, t2, e2, b2, f2, n2⟩ := h2
  have split : ∀ p, p ≤ (a ++ b).length → p ≤ a.length ∨ ∃ q, p = a.length + q ∧ q ≤ b.length := by
    intro p hp
    rw [List.length_append] at hp
    by_cases h : p ≤ a.length
    · exact .inl h
    · exact .inr ⟨p - a.length, by omega, by omega⟩
  by_cases h : R2 + alg κ w (pos κ a) > R1
  · rw [if_pos h, if_pos h]
    refine ⟨fun p hp => ?_, a.length + t2, ?_, ?_, ?_, fun p hp => ?_⟩
    · rcases split p hp with q | ⟨q, rfl, hq⟩
      · rw [far_left q]; have := l1 p q; omega
      · rw [far_right hw]; have := l2 q hq; omega
    · rw [e2]; omega
    · rw [List.length_append]; omega
    · rw [far_right hw, f2]; omega
    · by_cases q : p ≤ a.length
      · rw [far_left q]; have := l1 p q; omega
      · obtain ⟨r, rfl⟩ : ∃ r, p = a.length + r := ⟨p - a.length, by omega⟩
        rw [far_right hw]; have := n2 r (by omega); omega
  · rw [if_neg h, if_neg h]
    refine ⟨fun p hp => ?_, t1, e1, ?_, ?_, fun p hp => ?_⟩
    · rcases split p hp with q | ⟨q, rfl, hq⟩
      · rw [far_left q]; exact l1 p q
      · rw [far_right hw]; have := l2 q hq; omega
    · rw [List.length_append]; omega
    · rw [far_left b1, f1]
    · rw [far_left (by omega)]; exact n1 p hp

/-! ### Growth -/
def gr (wd : Nat → List Nat) : Nat → Nat → List Nat
  | 0, c => [c]
  | r + 1, c => (wd c).flatMap (gr wd r)
def sz (wd : Nat → List Nat) (r c : Nat) : Nat := (gr wd r c).length
def rnd (wd : Nat → List Nat) (r : Nat) (w : List Nat) : List Nat := w.flatMap (gr wd r)
theorem len_flatMap (f : Nat → List Nat) (w : List Nat) : (w.flatMap f).length = (w.map fun c => (f c).length).sum := by
  induction w with
  | nil => rfl
  | cons c w ih => rw [List.flatMap_cons, List.length_append, ih, List.map_cons, List.sum_cons]
theorem sz_succ (wd : Nat → List Nat) (r c : Nat) : sz wd (r + 1) c = ((wd c).map (sz wd r)).sum := len_flatMap _ _
theorem sz_mono {wd : Nat → List Nat} {ls : List Nat} (h : ∀ c ∈ ls, wd c ≠ [] ∧ ∀ x ∈ wd c, x ∈ ls) : ∀ (r : Nat), ∀ c ∈ ls, 1 ≤ sz wd r c ∧ sz wd r c ≤ sz wd (r + 1) c := by
  have hs : ∀ (l : List Nat) (f g : Nat → Nat), (∀ x ∈ l, f x ≤ g x) → (l.map f).sum ≤ (l.map g).sum := by
    intro l f g hl
    induction l with
    | nil => exact Nat.le_refl _
    | cons a l ih =>
      rw [List.map_cons, List.map_cons, List.sum_cons, List.sum_cons]
      exact Nat.add_le_add (hl a List.mem_cons_self) (ih fun x hx => hl x (List.mem_cons_of_mem _ hx))
  intro r
  induction r with
  | zero =>
    intro c hc
    refine ⟨Nat.le_refl _, ?_⟩
    show 1 ≤ sz wd 1 c
    rw [sz_succ]
    obtain ⟨hne, _⟩ := h c hc
    cases e : wd c with
    | nil => exact absurd e hne
    | cons a l => rw [List.map_cons, List.sum_cons]; show 1 ≤ 1 + _; omega
  | succ r ih =>
    intro c hc
    refine ⟨Nat.le_trans (ih c hc).1 (ih c hc).2, ?_⟩
    rw [sz_succ wd r, sz_succ wd (r + 1)]
    exact hs _ _ _ fun x hx => (ih x ((h c hc).2 x hx)).2
theorem sz_le {wd : Nat → List Nat} {ls : List Nat} (h : ∀ c ∈ ls, (wd c).length ≤ 8 ∧ ∀ x ∈ wd c, x ∈ ls) : ∀ (r : Nat), ∀ c ∈ ls, sz wd r c ≤ 8 ^ r := by
  intro r
  induction r with
  | zero => intro c _; exact Nat.le_refl _
  | succ r ih =>
    intro c hc
    rw [sz_succ]
    obtain ⟨hl, hm⟩ := h c hc
    have : ∀ l : List Nat, (∀ x ∈ l, x ∈ ls) → (l.map (sz wd r)).sum ≤ l.length * 8 ^ r := by
      intro l hl
      induction l with
      | nil => exact Nat.zero_le _
      | cons a l ihl =>
        rw [List.map_cons, List.sum_cons, List.length_cons, Nat.succ_mul, Nat.add_comm]
        exact Nat.add_le_add (ihl fun x hx => hl x (List.mem_cons_of_mem _ hx)) (ih a (hl a List.mem_cons_self))
    refine Nat.le_trans (this _ hm) ?_
    rw [Nat.pow_succ, Nat.mul_comm (8 ^ r)]
    exact Nat.mul_le_mul_right _ hl
def nodes (wd : Nat → List Nat) : Nat → Nat → Nat
  | 0, _ => 1
  | r + 1, c => 1 + ((wd c).map (nodes wd r)).sum
end SG

/-! ## SgPens -/
set_option autoImplicit true
set_option Elab.async false
set_option maxRecDepth 100000
set_option maxHeartbeats 4000000
namespace SG
open PySem PySem.Spec PyProof.Rows L2
/-! ### pens: the two kinds as one (κ = true: Quarter) -/
def pn (κ : Bool) : Str := if κ then "Quarter" else "Sixth"
abbrev pC (K : PySem.W.Frag) (κ : Bool) : Addr := gA K (pn κ)
def PenAt (K : PySem.W.Frag) (κ : Bool) (H : Hp) (p : Addr) : Prop := ∃ dx, H p = some (.ins (pC K κ) dx [])
def SpotAt (H : Hp) (a : Addr) (s : Spot) : Prop := H a = some (.tup [.int s.1, .int s.2])
theorem PenAt.same {K : PySem.W.Frag} {κ : Bool} {H H' : Hp} {p : Addr} (e : Same H H') (h : PenAt K κ H p) : PenAt K κ H' p := let ⟨dx, q⟩ := h; ⟨dx, e _ _ q⟩
theorem SpotAt.same {H H' : Hp} {a : Addr} {s : Spot} (e : Same H H') (h : SpotAt H a s) : SpotAt H' a s := e _ _ h
theorem Same.new {H : Hp} {p : Addr} {o : HO} (h : H p = none) : Same H (upd H p o) := fun b u e => by rw [upd_ne (ne_of_none e h)]; exact e
theorem ix0 {x : V} {l : List V} : atI (x :: l) 0 = some x := at_of (j := 0) rfl rfl
theorem ix1 {x y : V} {l : List V} : atI (x :: y :: l) 1 = some y := at_of (j := 1) rfl rfl
/-! promises -/
def spAdded : Sp := fun vs H Q _ => ∃ (a b : Addr) (s t : Spot), vs = [.ref a, .ref b] ∧ SpotAt H a s ∧ SpotAt H b t ∧ ∀ p H', Same H H' → SpotAt H' p (addS s t) → Q (.ref p) H'
def spCross : Sp := fun vs H Q _ => ∃ (a b : Addr) (s t : Spot), vs = [.ref a, .ref b] ∧ SpotAt H a s ∧ SpotAt H b t ∧ s.1.natAbs < 2 ^ 4000 ∧ s.2.natAbs < 2 ^ 4000 ∧ t.1.natAbs < 2 ^ 4000 ∧ t.2.natAbs < 2 ^ 4000 ∧ ∀ z, Q (.int z) H
def spWays (κ : Bool) : Sp := fun vs H Q _ => ∃ p : Addr, vs = [.ref p] ∧ Q (.int (nW κ : Nat)) H
def spOnce (κ : Bool) : Sp := fun vs H Q _ => ∃ (p a : Addr) (s : Spot), vs = [.ref p, .ref a] ∧ SpotAt H a s ∧ ∀ q H', Same H H' → SpotAt H' q (rot κ s) → Q (.ref q) H'
def sightL (κ : Bool) (s : Spot) : List Int := if κ then [s.1, s.2] else [2 * s.1 + s.2, s.1 + 2 * s.2, s.2 - s.1]
def spSights (κ : Bool) : Sp := fun vs H Q _ => ∃ (p a : Addr) (s : Spot), vs = [.ref p, .ref a] ∧ SpotAt H a s ∧ ∀ q H', Same H H' → H' q = some (.lst ((sightL κ s).map V.int)) → Q (.ref q) H'
def spWayOf (K : PySem.W.Frag) (κ : Bool) : Sp := fun vs H Q _ => ∃ (p : Addr) (i : Int), vs = [.ref p, .int i] ∧ PenAt K κ H p ∧ Q (.int (i % (nW κ : Nat))) H
def spTurned (K : PySem.W.Frag) (κ : Bool) : Sp := fun vs H Q _ => ∃ (p a : Addr) (i : Int) (s : Spot), vs = [.ref p, .ref a, .int i] ∧ PenAt K κ H p ∧ SpotAt H a s ∧ ∀ q H', Same H H' → SpotAt H' q (rotN κ (i % (nW κ : Nat)).toNat s) → Q (.ref q) H'
def spStep (K : PySem.W.Frag) (κ : Bool) : Sp := fun vs H Q _ => ∃ (p : Addr) (i : Int), vs = [.ref p, .int i] ∧ PenAt K κ H p ∧ ∀ q H', Same H H' → SpotAt H' q (rotN κ (i % (nW κ : Nat)).toNat (1, 0)) → Q (.ref q) H'
def spAlong (K : PySem.W.Frag) (κ : Bool) : Sp := fun vs H Q _ => ∃ (p a : Addr) (i : Int) (s : Spot), vs = [.ref p, .int i, .ref a] ∧ PenAt K κ H p ∧ SpotAt H a s ∧ ∀ H', Same H H' → Q (.int (alg κ (i % (nW κ : Nat)).toNat s)) H'
section
variable {P : Program} {w : World} {K : PySem.W.Frag} {mg : Str → Option Value} {base : Heap}
theorem cP (T : Tx K mg) (κ : Bool) : Cls K (pC K κ) := by cases κ <;> first | exact T.c_Sixth | exact T.c_Quarter
theorem mP_ways (T : Tx K mg) (κ : Bool) : Meth K (pC K κ) "ways" (mA K (pn κ) "ways") := by cases κ <;> first | exact T.m_Sixth_ways | exact T.m_Quarter_ways
theorem mP_once (T : Tx K mg) (κ : Bool) : Meth K (pC K κ) "once_left" (mA K (pn κ) "once_left") := by cases κ <;> first | exact T.m_Sixth_once_left | exact T.m_Quarter_once_left
theorem mP_sights (T : Tx K mg) (κ : Bool) : Meth K (pC K κ) "sights" (mA K (pn κ) "sights") := by cases κ <;> first | exact T.m_Sixth_sights | exact T.m_Quarter_sights
theorem mP_way_of (T : Tx K mg) (κ : Bool) : Meth K (pC K κ) "way_of" (mA K (pn κ) "way_of") := by cases κ <;> first | exact T.m_Sixth_way_of | exact T.m_Quarter_way_of
theorem mP_turned (T : Tx K mg) (κ : Bool) : Meth K (pC K κ) "turned" (mA K (pn κ) "turned") := by cases κ <;> first | exact T.m_Sixth_turned | exact T.m_Quarter_turned
theorem mP_step (T : Tx K mg) (κ : Bool) : Meth K (pC K κ) "step" (mA K (pn κ) "step") := by cases κ <;> first | exact T.m_Sixth_step | exact T.m_Quarter_step
theorem mP_along (T : Tx K mg) (κ : Bool) : Meth K (pC K κ) "along" (mA K (pn κ) "along") := by cases κ <;> first | exact T.m_Sixth_along | exact T.m_Quarter_along
theorem mP_after (T : Tx K mg) (κ : Bool) : Meth K (pC K κ) "after" (mA K (pn κ) "after") := by cases κ <;> first | exact T.m_Sixth_after | exact T.m_Quarter_after
/-! added, cross -/
theorem sc_added : FnScope ["one", "other"] ["one", "other"] (defScope s_added) := ⟨rfl, rfl, rfl, by decide +kernel, rfl, by decide +kernel, by decide +kernel⟩
theorem has_added (T : Tx K mg) : Has P w K mg base 1 (gA K "added") ["one", "other"] spAdded [] := by
  obtain ⟨fd, F⟩ := T.fd_added
  refine hasD F sc_added (fun vs H Q E h => ?_) (fun _ _ _ _ _ _ us hl => match us, hl with | [_, _], _ => rfl) (fun cdv A outer s H vs Q E hr h => ?_)
  · obtain ⟨a, b, s, t, rfl, _⟩ := h
    rfl
  · obtain ⟨a, b, s, t, rfl, ha, hb, k⟩ := h
    refine ⟨_, pss_one (ps_ret (pe_tup (pa_cons (pe_op op_add (pe_ix ix_tup (pv 0) pe_int (fun _ _ => rfl)) (pe_ix ix_tup (pv 1) pe_int (fun _ _ => rfl)))
      (pa_cons (pe_op op_add (pe_ix ix_tup (pv 0) pe_int (fun _ _ => rfl)) (pe_ix ix_tup (pv 1) pe_int (fun _ _ => rfl))) pa_nil)))), ?_⟩
    refine ⟨_, rfl, a, _, _, _, rfl, rfl, SqT.of ha, ix0, _, rfl, b, _, _, _, rfl, rfl, SqT.of hb, ix0, _, _, rfl, rfl, ?_⟩
    refine ⟨_, rfl, a, _, _, _, rfl, rfl, SqT.of ha, ix1, _, rfl, b, _, _, _, rfl, rfl, SqT.of hb, ix1, _, _, rfl, rfl, ?_⟩
    refine ⟨by show 2 ≤ sizeLine; decide, fun p hp => ?_⟩
    exact k p _ (Same.new hp) upd_same
theorem sc_cross : FnScope ["one", "other"] ["one", "other"] (defScope s_cross) := ⟨rfl, rfl, rfl, by decide +kernel, rfl, by decide +kernel, by decide +kernel⟩
theorem has_cross (T : Tx K mg) : Has P w K mg base 1 (gA K "cross") ["one", "other"] spCross [] := by
  obtain ⟨fd, F⟩ := T.fd_cross
  refine hasD F sc_cross (fun vs H Q E h => ?_) (fun _ _ _ _ _ _ us hl => match us, hl with | [_, _], _ => rfl) (fun cdv A outer s H vs Q E hr h => ?_)
  · obtain ⟨a, b, s, t, rfl, _⟩ := h
    rfl
  · obtain ⟨a, b, s, t, rfl, ha, hb, b1, b2, b3, b4, k⟩ := h
    refine ⟨_, pss_one (ps_ret (pe_op op_sub (pe_op op_mulW (pe_ix ix_tup (pv 0) pe_int (fun _ _ => rfl)) (pe_ix ix_tup (pv 1) pe_int (fun _ _ => rfl)))
      (pe_op op_mulW (pe_ix ix_tup (pv 0) pe_int (fun _ _ => rfl)) (pe_ix ix_tup (pv 1) pe_int (fun _ _ => rfl))))), ?_⟩
    refine ⟨_, rfl, a, _, _, _, rfl, rfl, SqT.of ha, ix0, _, rfl, b, _, _, _, rfl, rfl, SqT.of hb, ix1, _, _, rfl, rfl, wide_mul b1 b4 (by decide) (by decide) (by decide), ?_⟩
    refine ⟨_, rfl, a, _, _, _, rfl, rfl, SqT.of ha, ix1, _, rfl, b, _, _, _, rfl, rfl, SqT.of hb, ix0, _, _, rfl, rfl, wide_mul b2 b3 (by decide) (by decide) (by decide), ?_⟩
    exact ⟨_, _, rfl, rfl, k _⟩
/-! ways, once_left, sights -/
theorem sc_waysQ : FnScope ["self"] ["self"] (defScope s_Quarter_ways) := ⟨rfl, rfl, rfl, by decide +kernel, rfl, by decide +kernel, by decide +kernel⟩
theorem sc_waysS : FnScope ["self"] ["self"] (defScope s_Sixth_ways) := ⟨rfl, rfl, rfl, by decide +kernel, rfl, by decide +kernel, by decide +kernel⟩
theorem has_ways (T : Tx K mg) (κ : Bool) : Has P w K mg base 1 (mA K (pn κ) "ways") ["self"] (spWays κ) [] := by
  cases κ
  · obtain ⟨fd, F⟩ := T.fd_Sixth_ways
    refine hasD F sc_waysS (fun vs H Q E h => ?_) (fun _ _ _ _ _ _ us hl => match us, hl with | [_], _ => rfl) (fun cdv A outer s H vs Q E hr h => ?_)
    · obtain ⟨p, rfl, _⟩ := h
      rfl
    · obtain ⟨p, rfl, k⟩ := h
      exact ⟨_, pss_one (ps_ret pe_int), k⟩
  · obtain ⟨fd, F⟩ := T.fd_Quarter_ways
    refine hasD F sc_waysQ (fun vs H Q E h => ?_) (fun _ _ _ _ _ _ us hl => match us, hl with | [_], _ => rfl) (fun cdv A outer s H vs Q E hr h => ?_)
    · obtain ⟨p, rfl, _⟩ := h
      rfl
    · obtain ⟨p, rfl, k⟩ := h
      exact ⟨_, pss_one (ps_ret pe_int), k⟩
theorem sc_onceQ : FnScope ["self", "spot"] ["self", "spot"] (defScope s_Quarter_once_left) := ⟨rfl, rfl, rfl, by decide +kernel, rfl, by decide +kernel, by decide +kernel⟩
theorem sc_onceS : FnScope ["self", "spot"] ["self", "spot"] (defScope s_Sixth_once_left) := ⟨rfl, rfl, rfl, by decide +kernel, rfl, by decide +kernel, by decide +kernel⟩
theorem has_once (T : Tx K mg) (κ : Bool) : Has P w K mg base 1 (mA K (pn κ) "once_left") ["self", "spot"] (spOnce κ) [] := by
  cases κ
  · obtain ⟨fd, F⟩ := T.fd_Sixth_once_left
    refine hasD F sc_onceS (fun vs H Q E h => ?_) (fun _ _ _ _ _ _ us hl => match us, hl with | [_, _], _ => rfl) (fun cdv A outer s H vs Q E hr h => ?_)
    · obtain ⟨p, a, s, rfl, _⟩ := h
      rfl
    · obtain ⟨p, a, s, rfl, ha, k⟩ := h
      refine ⟨_, pss_one (ps_ret (pe_tup (pa_cons (pe_un un_neg (pe_ix ix_tup (pv 1) pe_int (fun _ _ => rfl)))
        (pa_cons (pe_op op_add (pe_ix ix_tup (pv 1) pe_int (fun _ _ => rfl)) (pe_ix ix_tup (pv 1) pe_int (fun _ _ => rfl))) pa_nil)))), ?_⟩
      refine ⟨_, rfl, a, _, _, _, rfl, rfl, SqT.of ha, ix1, _, rfl, ?_⟩
      refine ⟨_, rfl, a, _, _, _, rfl, rfl, SqT.of ha, ix0, _, rfl, a, _, _, _, rfl, rfl, SqT.of ha, ix1, _, _, rfl, rfl, ?_⟩
      refine ⟨by show 2 ≤ sizeLine; decide, fun q hq => ?_⟩
      exact k q _ (Same.new hq) upd_same
  · obtain ⟨fd, F⟩ := T.fd_Quarter_once_left
    refine hasD F sc_onceQ (fun vs H Q E h => ?_) (fun _ _ _ _ _ _ us hl => match us, hl with | [_, _], _ => rfl) (fun cdv A outer s H vs Q E hr h => ?_)
    · obtain ⟨p, a, s, rfl, _⟩ := h
      rfl
    · obtain ⟨p, a, s, rfl, ha, k⟩ := h
      refine ⟨_, pss_one (ps_ret (pe_tup (pa_cons (pe_un un_neg (pe_ix ix_tup (pv 1) pe_int (fun _ _ => rfl)))
        (pa_cons (pe_ix ix_tup (pv 1) pe_int (fun _ _ => rfl)) pa_nil)))), ?_⟩
      refine ⟨_, rfl, a, _, _, _, rfl, rfl, SqT.of ha, ix1, _, rfl, ?_⟩
      refine ⟨_, rfl, a, _, _, _, rfl, rfl, SqT.of ha, ix0, ?_⟩
      refine ⟨by show 2 ≤ sizeLine; decide, fun q hq => ?_⟩
      exact k q _ (Same.new hq) upd_same
theorem sc_sightsQ : FnScope ["self", "spot"] ["self", "spot"] (defScope s_Quarter_sights) := ⟨rfl, rfl, rfl, by decide +kernel, rfl, by decide +kernel, by decide +kernel⟩
theorem sc_sightsS : FnScope ["self", "spot"] ["self", "spot"] (defScope s_Sixth_sights) := ⟨rfl, rfl, rfl, by decide +kernel, rfl, by decide +kernel, by decide +kernel⟩
theorem has_sights (T : Tx K mg) (κ : Bool) : Has P w K mg base 1 (mA K (pn κ) "sights") ["self", "spot"] (spSights κ) [] := by
  cases κ
  · obtain ⟨fd, F⟩ := T.fd_Sixth_sights
    refine hasD F sc_sightsS (fun vs H Q E h => ?_) (fun _ _ _ _ _ _ us hl => match us, hl with | [_, _], _ => rfl) (fun cdv A outer s H vs Q E hr h => ?_)
    · obtain ⟨p, a, s, rfl, _⟩ := h
      rfl
    · obtain ⟨p, a, s, rfl, ha, k⟩ := h
      refine ⟨_, pss_one (ps_ret (pe_lst (pa_cons (pe_op op_add (pe_op op_mul pe_int (pe_ix ix_tup (pv 1) pe_int (fun _ _ => rfl))) (pe_ix ix_tup (pv 1) pe_int (fun _ _ => rfl)))
        (pa_cons (pe_op op_add (pe_ix ix_tup (pv 1) pe_int (fun _ _ => rfl)) (pe_op op_mul pe_int (pe_ix ix_tup (pv 1) pe_int (fun _ _ => rfl))))
        (pa_cons (pe_op op_sub (pe_ix ix_tup (pv 1) pe_int (fun _ _ => rfl)) (pe_ix ix_tup (pv 1) pe_int (fun _ _ => rfl))) pa_nil))))), ?_⟩
      refine ⟨_, rfl, a, _, _, _, rfl, rfl, SqT.of ha, ix0, _, _, rfl, rfl, .inl ⟨by decide, by decide⟩, _, rfl, a, _, _, _, rfl, rfl, SqT.of ha, ix1, _, _, rfl, rfl, ?_⟩
      refine ⟨_, rfl, a, _, _, _, rfl, rfl, SqT.of ha, ix0, _, rfl, a, _, _, _, rfl, rfl, SqT.of ha, ix1, _, _, rfl, rfl, .inl ⟨by decide, by decide⟩, _, _, rfl, rfl, ?_⟩
      refine ⟨_, rfl, a, _, _, _, rfl, rfl, SqT.of ha, ix1, _, rfl, a, _, _, _, rfl, rfl, SqT.of ha, ix0, _, _, rfl, rfl, ?_⟩
      refine ⟨by show 3 ≤ sizeLine; decide, fun q hq => ?_⟩
      exact k q _ (Same.new hq) upd_same
  · obtain ⟨fd, F⟩ := T.fd_Quarter_sights
    refine hasD F sc_sightsQ (fun vs H Q E h => ?_) (fun _ _ _ _ _ _ us hl => match us, hl with | [_, _], _ => rfl) (fun cdv A outer s H vs Q E hr h => ?_)
    · obtain ⟨p, a, s, rfl, _⟩ := h
      rfl
    · obtain ⟨p, a, s, rfl, ha, k⟩ := h
      refine ⟨_, pss_one (ps_ret (pe_lst (pa_cons (pe_ix ix_tup (pv 1) pe_int (fun _ _ => rfl)) (pa_cons (pe_ix ix_tup (pv 1) pe_int (fun _ _ => rfl)) pa_nil)))), ?_⟩
      refine ⟨_, rfl, a, _, _, _, rfl, rfl, SqT.of ha, ix0, ?_⟩
      refine ⟨_, rfl, a, _, _, _, rfl, rfl, SqT.of ha, ix1, ?_⟩
      refine ⟨by show 2 ≤ sizeLine; decide, fun q hq => ?_⟩
      exact k q _ (Same.new hq) upd_same
end
theorem iteD {c A B : Prop} [Decidable c] (h : c) (a : A) : if decide c = true then A else B := by rw [decide_eq_true h]; exact iteT a
theorem iteN {c A B : Prop} [Decidable c] (h : ¬ c) (b : B) : if decide c = true then A else B := by rw [decide_eq_false h]; exact iteF b
theorem ite2d {c A B : Prop} [Decidable c] (h1 : c → A) (h2 : ¬ c → B) : if decide c = true then A else B := by
  by_cases h : c
  · exact iteD h (h1 h)
  · exact iteN h (h2 h)
/-! ### deeds as the program has them -/
def ddOf (d : Str) : Dd := ⟨decide (d = "stroke") || decide (d = "step"), if d = "left" then 1 else if d = "right" then 11 else 0⟩
def spAfter (K : PySem.W.Frag) (κ : Bool) : Sp := fun vs H Q _ => ∃ (p a : Addr) (d : Str) (s : Spot) (i : Nat), vs = [.ref p, .str d, .ref a, .int (i : Nat)] ∧ d ∈ deeds ∧ i < nW κ ∧ PenAt K κ H p ∧ SpotAt H a s ∧
  ∀ q r H', Same H H' → H' q = some (.tup [.ref r, .int (((i + (ddOf d).tu) % nW κ : Nat) : Int)]) → SpotAt H' r (if (ddOf d).mv then addS s (rotN κ i (1, 0)) else s) → Q (.ref q) H'
theorem sight_alg (κ : Bool) (v : Nat) (hv : v < nW κ) (s : Spot) : ∃ z, (sightL κ s)[v % (nW κ / 2)]? = some z ∧ alg κ v s = if v / (nW κ / 2) = 1 then -z else z := by
  cases κ
  · have h : v < 6 := hv
    match v, h with
    | 0, _ => exact ⟨_, rfl, rfl⟩
    | 1, _ => exact ⟨_, rfl, rfl⟩
    | 2, _ => exact ⟨_, rfl, rfl⟩
    | 3, _ => exact ⟨_, rfl, rfl⟩
    | 4, _ => exact ⟨_, rfl, rfl⟩
    | 5, _ => exact ⟨_, rfl, rfl⟩
  · have h : v < 4 := hv
    match v, h with
    | 0, _ => exact ⟨_, rfl, rfl⟩
    | 1, _ => exact ⟨_, rfl, rfl⟩
    | 2, _ => exact ⟨_, rfl, rfl⟩
    | 3, _ => exact ⟨_, rfl, rfl⟩
theorem nW_cast_pos (κ : Bool) : (0 : Int) < ((nW κ : Nat) : Int) := by cases κ <;> decide
theorem half_pos (κ : Bool) : 0 < nW κ / 2 := by cases κ <;> decide
theorem nW_le (κ : Bool) : nW κ ≤ 6 := by cases κ <;> decide
theorem mod_toNat (κ : Bool) (i : Int) : (i % (nW κ : Nat)).toNat < nW κ ∧ (((i % (nW κ : Nat)).toNat : Nat) : Int) = i % (nW κ : Nat) := by
  have h1 : 0 ≤ i % (nW κ : Nat) := Int.emod_nonneg i (Int.ne_of_gt (nW_cast_pos κ))
  have h2 : i % (nW κ : Nat) < (nW κ : Nat) := Int.emod_lt_of_pos i (nW_cast_pos κ)
  omega
section
variable {P : Program} {w : World} {K : PySem.W.Frag} {mg : Str → Option Value} {base : Heap}
theorem fdP_way_of (T : Tx K mg) (κ : Bool) : ∃ fd, FunD K "way_of" "Pen.way_of" (defArgs s_Quarter_way_of) (defBody s_Quarter_way_of) (defScope s_Quarter_way_of) [] [] (mA K (pn κ) "way_of") fd := by
  cases κ
  · exact T.fd_Sixth_way_of
  · exact T.fd_Quarter_way_of
theorem fdP_turned (T : Tx K mg) (κ : Bool) : ∃ fd, FunD K "turned" "Pen.turned" (defArgs s_Quarter_turned) (defBody s_Quarter_turned) (defScope s_Quarter_turned) [] [] (mA K (pn κ) "turned") fd := by
  cases κ
  · exact T.fd_Sixth_turned
  · exact T.fd_Quarter_turned
theorem fdP_step (T : Tx K mg) (κ : Bool) : ∃ fd, FunD K "step" "Pen.step" (defArgs s_Quarter_step) (defBody s_Quarter_step) (defScope s_Quarter_step) [] [] (mA K (pn κ) "step") fd := by
  cases κ
  · exact T.fd_Sixth_step
  · exact T.fd_Quarter_step
theorem fdP_along (T : Tx K mg) (κ : Bool) : ∃ fd, FunD K "along" "Pen.along" (defArgs s_Quarter_along) (defBody s_Quarter_along) (defScope s_Quarter_along) [] [] (mA K (pn κ) "along") fd := by
  cases κ
  · exact T.fd_Sixth_along
  · exact T.fd_Quarter_along
theorem fdP_after (T : Tx K mg) (κ : Bool) : ∃ fd, FunD K "after" "Pen.after" (defArgs s_Quarter_after) (defBody s_Quarter_after) (defScope s_Quarter_after) [] [] (mA K (pn κ) "after") fd := by
  cases κ
  · exact T.fd_Sixth_after
  · exact T.fd_Quarter_after
theorem sc_way_of : FnScope ["self", "number"] ["self", "number"] (defScope s_Quarter_way_of) := ⟨rfl, rfl, rfl, by decide +kernel, rfl, by decide +kernel, by decide +kernel⟩
theorem has_way_of (T : Tx K mg) (κ : Bool) : Has P w K mg base 2 (mA K (pn κ) "way_of") ["self", "number"] (spWayOf K κ) [] := by
  obtain ⟨fd, F⟩ := fdP_way_of T κ
  refine hasD F sc_way_of (fun vs H Q E h => ?_) (fun _ _ _ _ _ _ us hl => match us, hl with | [_, _], _ => rfl) (fun cdv A outer s H vs Q E hr h => ?_)
  · obtain ⟨p, i, rfl, _⟩ := h
    rfl
  · obtain ⟨p, i, rfl, ⟨dx, hp⟩, k⟩ := h
    refine ⟨_, pss_one (ps_ret (pe_op op_mod (pv 1) (pm0 (pv 0) (cP T κ) (mP_ways T κ) (has_ways T κ) hr))), ?_⟩
    exact ⟨_, rfl, _, rfl, p, dx, [], rfl, hp, rfl, p, rfl, _, _, rfl, rfl, nW_cast_pos κ, k⟩
theorem sc_turned : FnScope ["self", "spot", "by", "turn"] ["self", "spot", "by"] (defScope s_Quarter_turned) := ⟨rfl, rfl, rfl, by decide +kernel, rfl, by decide +kernel, by decide +kernel⟩
theorem has_turned (T : Tx K mg) (κ : Bool) : Has P w K mg base 3 (mA K (pn κ) "turned") ["self", "spot", "by"] (spTurned K κ) [] := by
  obtain ⟨fd, F⟩ := fdP_turned T κ
  refine hasD F sc_turned (fun vs H Q E h => ?_) (fun _ _ _ _ _ _ us hl => match us, hl with | [_, _, _], _ => rfl) (fun cdv A outer s H vs Q E hr h => ?_)
  · obtain ⟨p, a, i, s, rfl, _⟩ := h
    rfl
  · obtain ⟨p, a, i, s, rfl, hp, ha, k⟩ := h
    obtain ⟨dx, hp0⟩ := id hp
    refine ⟨_, pss_cons (ps_for PassesOwn.never rfl (pi_range1 rfl T.f_range (pa_cons (pm (pv 0) (cP T κ) (mP_way_of T κ) (has_way_of T κ) hr (pa_cons (pv 2) pa_nil)) pa_nil)) (pg_name (i := 3) sc_turned.nd rfl (Or.inl rfl))
        (pss_one (ps_set (i := 1) sc_turned.nd rfl (Or.inl rfl) (pm (pv 0) (cP T κ) (mP_once T κ) (has_once T κ) hr (pa_cons (pv 1) pa_nil)))))
      (pss_one (ps_ret (pv 1))), ?_⟩
    obtain ⟨m1, m2⟩ := mod_toNat κ i
    have m3 := nW_le κ
    refine ⟨_, rfl, p, dx, [], rfl, hp0, rfl, _, rfl, p, i, rfl, hp, _, rfl, by omega, by omega, ?_⟩
    refine for_range (lo := 0) (n := (i % (nW κ : Nat)).toNat) (fun j σ H' => ∃ (b : Addr) (v : Option V), σ = [some (.ref p), some (.ref b), some (.int i), v] ∧ Same H H' ∧ SpotAt H' b (rotN κ j s)) ⟨a, none, rfl, Same.refl H, ha⟩ ?_ ?_
    · rintro j σ H' hj ⟨b, v, rfl, s1, hb⟩
      refine ⟨_, rfl, p, dx, [], rfl, s1 _ _ hp0, rfl, _, rfl, p, b, _, rfl, hb, fun q H'' s2 hq => ?_⟩
      exact ⟨q, _, rfl, s1.trans s2, hq⟩
    · rintro σ H' ⟨b, v, rfl, s1, hb⟩
      exact ⟨_, rfl, k b H' s1 hb⟩
theorem sc_step : FnScope ["self", "way"] ["self", "way"] (defScope s_Quarter_step) := ⟨rfl, rfl, rfl, by decide +kernel, rfl, by decide +kernel, by decide +kernel⟩
theorem has_step (T : Tx K mg) (κ : Bool) : Has P w K mg base 4 (mA K (pn κ) "step") ["self", "way"] (spStep K κ) [] := by
  obtain ⟨fd, F⟩ := fdP_step T κ
  refine hasD F sc_step (fun vs H Q E h => ?_) (fun _ _ _ _ _ _ us hl => match us, hl with | [_, _], _ => rfl) (fun cdv A outer s H vs Q E hr h => ?_)
  · obtain ⟨p, i, rfl, _⟩ := h
    rfl
  · obtain ⟨p, i, rfl, hp, k⟩ := h
    obtain ⟨dx, hp0⟩ := id hp
    refine ⟨_, pss_one (ps_ret (pm (pv 0) (cP T κ) (mP_turned T κ) (has_turned T κ) hr (pa_cons (pe_tup (pa_cons pe_int (pa_cons pe_int pa_nil))) (pa_cons (pv 1) pa_nil)))), ?_⟩
    refine ⟨_, rfl, p, dx, [], rfl, hp0, rfl, by show 2 ≤ sizeLine; decide, fun q hq => ?_⟩
    have s1 : Same H (upd H q (.tup [.int 1, .int 0])) := Same.new hq
    exact ⟨_, rfl, p, q, i, (1, 0), rfl, hp.same s1, upd_same, fun r H' s2 hr' => k r H' (s1.trans s2) hr'⟩
theorem sc_along : FnScope ["self", "way", "spot", "back", "at", "far"] ["self", "way", "spot"] (defScope s_Quarter_along) := ⟨rfl, rfl, rfl, by decide +kernel, rfl, by decide +kernel, by decide +kernel⟩
theorem has_along (T : Tx K mg) (κ : Bool) : Has P w K mg base 3 (mA K (pn κ) "along") ["self", "way", "spot"] (spAlong K κ) [] := by
  obtain ⟨fd, F⟩ := fdP_along T κ
  refine hasD F sc_along (fun vs H Q E h => ?_) (fun _ _ _ _ _ _ us hl => match us, hl with | [_, _, _], _ => rfl) (fun cdv A outer s H vs Q E hr h => ?_)
  · obtain ⟨p, a, i, s, rfl, _⟩ := h
    rfl
  · obtain ⟨p, a, i, s, rfl, hp, ha, k⟩ := h
    obtain ⟨dx, hp0⟩ := id hp
    refine ⟨_, pss_cons (ps_asg (pe_callB call_divmod (by rfl) T.f_divmod (by decide +kernel) (pa_cons (pm (pv 0) (cP T κ) (mP_way_of T κ) (has_way_of T κ) hr (pa_cons (pv 1) pa_nil))
          (pa_cons (pe_op op_fdiv (pm0 (pv 0) (cP T κ) (mP_ways T κ) (has_ways T κ) hr) pe_int) pa_nil)))
        (pg_tup (by rfl) (pgs_cons (pg_name (i := 3) sc_along.nd rfl (Or.inl rfl)) (pgs_cons (pg_name (i := 4) sc_along.nd rfl (Or.inl rfl)) pgs_nil))))
      (pss_cons (ps_set (i := 5) sc_along.nd rfl (Or.inl rfl) (pe_ix ix_list (pm (pv 0) (cP T κ) (mP_sights T κ) (has_sights T κ) hr (pa_cons (pv 2) pa_nil)) (pv 4) (fun _ _ => rfl)))
      (pss_cons (ps_if (pt_cmpR op_eq (pv 3) pe_int (nomark _)) (pss_one (ps_ret (pe_un un_neg (pv 5)))) pss_nil)
      (pss_one (ps_ret (pv 5))))), ?_⟩
    obtain ⟨m1, m2⟩ := mod_toNat κ i
    have m3 := half_pos κ
    have m4 := nW_le κ
    obtain ⟨z, hz, ez⟩ := sight_alg κ _ m1 s
    have e1 : ((nW κ : Nat) : Int) / 2 = ((nW κ / 2 : Nat) : Int) := by omega
    refine ⟨_, rfl, p, dx, [], rfl, hp0, rfl, _, rfl, p, i, rfl, hp, ?_⟩
    refine ⟨_, rfl, p, dx, [], rfl, hp0, rfl, p, rfl, _, _, rfl, rfl, ⟨by decide, by decide⟩, ?_⟩
    refine ⟨_, _, rfl, ⟨?_, ?_⟩, fun q hq => ?_⟩
    · show (0 : Int) < ((nW κ : Nat) : Int) / 2
      omega
    · show ((nW κ : Nat) : Int) / 2 < 1073741824
      omega
    have s1 : Same H (upd H q (.tup [.int (i % (nW κ : Nat) / ((nW κ : Nat) / 2)), .int (i % (nW κ : Nat) % ((nW κ : Nat) / 2))])) := Same.new hq
    refine ⟨q, _, rfl, SqT.of upd_same, rfl, _, _, rfl, _, _, rfl, rfl, ?_⟩
    refine ⟨_, rfl, p, dx, [], rfl, s1 _ _ hp0, rfl, _, rfl, p, a, s, rfl, ha.same s1, fun r H' s2 hL => ?_⟩
    have ev : i % (nW κ : Nat) % ((nW κ : Nat) / 2) = (((i % (nW κ : Nat)).toNat % (nW κ / 2) : Nat) : Int) := by rw [e1, Int.natCast_emod (i % (nW κ : Nat)).toNat (nW κ / 2), m2]
    have eb : i % (nW κ : Nat) / ((nW κ : Nat) / 2) = (((i % (nW κ : Nat)).toNat / (nW κ / 2) : Nat) : Int) := by rw [e1, Int.natCast_ediv (i % (nW κ : Nat)).toNat (nW κ / 2), m2]
    refine ⟨_, rfl, r, _, _, .int z, rfl, rfl, SqL.of hL, at_of ev (by rw [List.getElem?_map, hz]; rfl), ?_⟩
    refine ⟨_, rfl, rfl, _, rfl, ?_⟩
    have k' := k H' (s1.trans s2)
    rw [ez] at k'
    refine ite2d (fun hc => ?_) (fun hc => ?_)
    · have hb : (i % (nW κ : Nat)).toNat / (nW κ / 2) = 1 := by
        injection hc with hc
        omega
      rw [if_pos hb] at k'
      exact ⟨_, rfl, _, rfl, k'⟩
    · have hb : ¬ (i % (nW κ : Nat)).toNat / (nW κ / 2) = 1 := fun q => hc (by rw [eb, q]; rfl)
      rw [if_neg hb] at k'
      exact ⟨_, rfl, k'⟩
end
end SG

/-! ## SgTracks -/
set_option autoImplicit true
set_option Elab.async false
set_option maxRecDepth 100000
set_option maxHeartbeats 4000000
namespace SG
open PySem PySem.Spec PyProof.Rows L2
theorem mut_same {H H' : Hp} {p : Addr} {o : HO} (s : Same H H') (h : H p = none) : Same H (upd H' p o) := fun b u e => by rw [upd_ne (ne_of_none e h)]; exact s b u e
/-! ### after -/
theorem mod_small {κ : Bool} {i : Nat} (h : i < nW κ) : (((i : Nat) : Int) % (nW κ : Nat)).toNat = i := by
  rw [← Int.natCast_emod, Nat.mod_eq_of_lt h]
  rfl
section
variable {P : Program} {w : World} {K : PySem.W.Frag} {mg : Str → Option Value} {base : Heap}
theorem sc_after : FnScope ["self", "deed", "spot", "way"] ["self", "deed", "spot", "way"] (defScope s_Quarter_after) := ⟨rfl, rfl, rfl, by decide +kernel, rfl, by decide +kernel, by decide +kernel⟩
theorem has_after (T : Tx K mg) (κ : Bool) : Has P w K mg base 5 (mA K (pn κ) "after") ["self", "deed", "spot", "way"] (spAfter K κ) [] := by
  obtain ⟨fd, F⟩ := fdP_after T κ
  refine hasD F sc_after (fun vs H Q E h => ?_) (fun _ _ _ _ _ _ us hl => match us, hl with | [_, _, _, _], _ => rfl) (fun cdv A outer s H vs Q E hr h => ?_)
  · obtain ⟨p, a, d, s, i, rfl, _⟩ := h
    rfl
  · obtain ⟨p, a, d, s, i, rfl, hd, hi, hp, ha, k⟩ := h
    obtain ⟨dx, hp0⟩ := id hp
    refine ⟨_, pss_cons (ps_if (PW.pt (pw_or (pt_cmpR op_eq (pv 1) pe_str (nomark _)) (pw_or1 (pt_cmpR op_eq (pv 1) pe_str (nomark _)))))
          (pss_one (ps_ret (pe_tup (pa_cons (pcl T.g_added (has_added T) hr (pa_cons (pv 2) (pa_cons (pm (pv 0) (cP T κ) (mP_step T κ) (has_step T κ) hr (pa_cons (pv 3) pa_nil)) pa_nil))) (pa_cons (pv 3) pa_nil))))) pss_nil)
      (pss_cons (ps_if (pt_cmpR op_eq (pv 1) pe_str (nomark _)) (pss_one (ps_ret (pe_tup (pa_cons (pv 2) (pa_cons (pm (pv 0) (cP T κ) (mP_way_of T κ) (has_way_of T κ) hr (pa_cons (pe_op op_add (pv 3) pe_int) pa_nil)) pa_nil))))) pss_nil)
      (pss_cons (ps_if (pt_cmpR op_eq (pv 1) pe_str (nomark _)) (pss_one (ps_ret (pe_tup (pa_cons (pv 2) (pa_cons (pm (pv 0) (cP T κ) (mP_way_of T κ) (has_way_of T κ) hr (pa_cons (pe_op op_sub (pv 3) pe_int) pa_nil)) pa_nil))))) pss_nil)
      (pss_cons (ps_if (pt_cmpR op_eq (pv 1) pe_str (nomark _)) (pss_one (ps_ret (pe_tup (pa_cons (pv 2) (pa_cons (pv 3) pa_nil))))) pss_nil)
      (pss_one ps_never)))), ?_⟩
    have hmv : ∀ d : Str, ddOf d = ⟨true, 0⟩ → (∀ q r H', Same H H' → H' q = some (.tup [.ref r, .int (((i + (ddOf d).tu) % nW κ : Nat) : Int)]) → SpotAt H' r (if (ddOf d).mv then addS s (rotN κ i (1, 0)) else s) → Q (.ref q) H') →
        (tRet (tTup (tCons (tCall spAdded [] E0 (tCons (tVar 2) (tCons (tMeth (pC K κ) "step" (spStep K κ) [] E0 (tVar 0) (tCons (tVar 3) tNil)) tNil))) (tCons (tVar 3) tNil)))) { nx := fun _ H' => Q .non H', rt := Q } [some (.ref p), some (.str d), some (.ref a), some (.int (i : Nat))] H := by
      intro d e k
      rw [e] at k
      refine ⟨_, rfl, _, rfl, p, dx, [], rfl, hp0, rfl, _, rfl, p, _, rfl, hp, fun q H1 s1 hq => ?_⟩
      rw [mod_small hi] at hq
      refine ⟨a, q, s, _, rfl, ha.same s1, hq, fun r H2 s2 hr2 => ?_⟩
      refine ⟨_, rfl, by show 2 ≤ sizeLine; decide, fun t ht => ?_⟩
      have s3 : Same H2 (upd H2 t (.tup [.ref r, .int (i : Nat)])) := Same.new ht
      refine k t r _ ((s1.trans s2).trans s3) ?_ (hr2.same s3)
      show _ = some (HO.tup [V.ref r, V.int (((i + 0) % nW κ : Nat) : Int)])
      rw [Nat.add_zero, Nat.mod_eq_of_lt hi]
      exact upd_same
    have hcase : d = "stroke" ∨ d = "step" ∨ d = "left" ∨ d = "right" ∨ d = "rest" := by simpa [deeds] using hd
    rcases hcase with rfl | rfl | rfl | rfl | rfl
    · refine ⟨_, rfl, rfl, _, rfl, iteD rfl (iteT ?_)⟩
      exact hmv "stroke" (by decide +kernel) k
    · refine ⟨_, rfl, rfl, _, rfl, iteN (by decide +kernel) ⟨_, rfl, rfl, _, rfl, iteD rfl ?_⟩⟩
      exact hmv "step" (by decide +kernel) k
    · refine ⟨_, rfl, rfl, _, rfl, iteN (by decide +kernel) ⟨_, rfl, rfl, _, rfl, iteN (by decide +kernel) ⟨_, rfl, rfl, _, rfl, iteD rfl ?_⟩⟩⟩
      refine ⟨_, rfl, _, rfl, p, dx, [], rfl, hp0, rfl, _, rfl, _, _, rfl, rfl, p, _, rfl, hp, by show 2 ≤ sizeLine; decide, fun t ht => ?_⟩
      have e : ddOf "left" = ⟨false, 1⟩ := by decide +kernel
      rw [e] at k
      refine k t a _ (Same.new ht) ?_ (ha.same (Same.new ht))
      rw [upd_same, Int.natCast_emod]
      rfl
    · refine ⟨_, rfl, rfl, _, rfl, iteN (by decide +kernel) ⟨_, rfl, rfl, _, rfl, iteN (by decide +kernel) ⟨_, rfl, rfl, _, rfl, iteN (by decide +kernel) ⟨_, rfl, rfl, _, rfl, iteD rfl ?_⟩⟩⟩⟩
      refine ⟨_, rfl, _, rfl, p, dx, [], rfl, hp0, rfl, _, rfl, _, _, rfl, rfl, p, _, rfl, hp, by show 2 ≤ sizeLine; decide, fun t ht => ?_⟩
      have e : ddOf "right" = ⟨false, 11⟩ := by decide +kernel
      rw [e] at k
      refine k t a _ (Same.new ht) ?_ (ha.same (Same.new ht))
      have e2 : ((i : Nat) : Int) - 1 = ((i + 11 : Nat) : Int) - 12 := by omega
      have e3 : (((i + 11 : Nat) : Int) - 12) % (nW κ : Nat) = ((i + 11 : Nat) : Int) % (nW κ : Nat) := by
        cases κ
        · show (((i + 11 : Nat) : Int) - 12) % 6 = ((i + 11 : Nat) : Int) % 6; omega
        · show (((i + 11 : Nat) : Int) - 12) % 4 = ((i + 11 : Nat) : Int) % 4; omega
      rw [upd_same, e2, e3, ← Int.natCast_emod]
    · refine ⟨_, rfl, rfl, _, rfl, iteN (by decide +kernel) ⟨_, rfl, rfl, _, rfl, iteN (by decide +kernel) ⟨_, rfl, rfl, _, rfl, iteN (by decide +kernel) ⟨_, rfl, rfl, _, rfl, iteN (by decide +kernel) ⟨_, rfl, rfl, _, rfl, iteD rfl ?_⟩⟩⟩⟩⟩
      refine ⟨_, rfl, _, rfl, by show 2 ≤ sizeLine; decide, fun t ht => ?_⟩
      have e : ddOf "rest" = ⟨false, 0⟩ := by decide +kernel
      rw [e] at k
      refine k t a _ (Same.new ht) ?_ (ha.same (Same.new ht))
      rw [upd_same]
      show some (HO.tup [V.ref a, V.int (i : Nat)]) = some (HO.tup [V.ref a, V.int (((i + 0) % nW κ : Nat) : Int)])
      rw [Nat.add_zero, Nat.mod_eq_of_lt hi]
end
/-! ### tracks as data -/
structure Rec where
  n : Nat
  turn : Nat
  pos : Spot
  st : Int
  R : List Int
  T : List Int
  ar : Int
def RecAt (H : Hp) (r : Addr) (c : Rec) : Prop := ∃ s rl tl, H r = some (.tup [.int (c.n : Nat), .int (c.turn : Nat), .ref s, .int c.st, .ref rl, .ref tl, .int c.ar]) ∧ SpotAt H s c.pos ∧ H rl = some (.lst (c.R.map V.int)) ∧ H tl = some (.lst (c.T.map V.int))
def tfs (p r : Addr) : List (Str × V) := [("own_pen", .ref p), ("record", .ref r)]
def TrackAt (K : PySem.W.Frag) (H : Hp) (p a : Addr) (c : Rec) : Prop := ∃ dx r, H a = some (.ins (gA K "Track") dx (tfs p r)) ∧ RecAt H r c
theorem RecAt.same {H H' : Hp} {r : Addr} {c : Rec} (e : Same H H') (h : RecAt H r c) : RecAt H' r c := let ⟨s, rl, tl, h1, h2, h3, h4⟩ := h; ⟨s, rl, tl, e _ _ h1, e _ _ h2, e _ _ h3, e _ _ h4⟩
theorem TrackAt.same {K : PySem.W.Frag} {H H' : Hp} {p a : Addr} {c : Rec} (e : Same H H') (h : TrackAt K H p a c) : TrackAt K H' p a c := let ⟨dx, r, h1, h2⟩ := h; ⟨dx, r, e _ _ h1, h2.same e⟩
theorem tfs_no {m : Str} (p r : Addr) (h : (["own_pen", "record"] : List Str).all (fun k => decide (¬ m = k)) = true) : (tfs p r).lookup m = none := look_none h
theorem tfs_pen (p r : Addr) : (tfs p r).lookup ("own_pen" : Str) = some (.ref p) := look_here _
theorem tfs_rec (p r : Addr) : (tfs p r).lookup ("record" : Str) = some (.ref r) := by unfold tfs; rw [look_cons _ (by decide +kernel), look_here]
/-- drawn from another first way: the row's item for way v is that of v less the way -/
def seenF (κ : Bool) (row : List Int) (f : Int) : List Int := (List.range row.length).map fun v : Nat => row.getD (((v : Int) - f) % (nW κ : Nat)).toNat 0
def spRec1 (K : PySem.W.Frag) (g : Rec → Int) : Sp := fun vs H Q _ => ∃ (p a : Addr) (c : Rec), vs = [.ref a] ∧ TrackAt K H p a c ∧ Q (.int (g c)) H
def spShift (K : PySem.W.Frag) (κ : Bool) : Sp := fun vs H Q _ => ∃ (p a : Addr) (c : Rec) (f : Int), vs = [.ref a, .int f] ∧ TrackAt K H p a c ∧ PenAt K κ H p ∧ ∀ q H', Same H H' → SpotAt H' q (rotN κ (f % (nW κ : Nat)).toNat c.pos) → Q (.ref q) H'
def spSeen (K : PySem.W.Frag) (κ : Bool) : Sp := fun vs H Q _ => ∃ (p a : Addr) (c : Rec) (l : Addr) (row : List Int) (f : Int), vs = [.ref a, .ref l, .int f] ∧ TrackAt K H p a c ∧ PenAt K κ H p ∧ H l = some (.lst (row.map V.int)) ∧ row.length = nW κ ∧
  ∀ q H', H q = none → Same H H' → H' q = some (.lst ((seenF κ row f).map V.int)) → Q (.ref q) H'
def spRow (K : PySem.W.Frag) (κ : Bool) (g : Rec → List Int) : Sp := fun vs H Q _ => ∃ (p a : Addr) (c : Rec) (f : Int), vs = [.ref a, .int f] ∧ TrackAt K H p a c ∧ PenAt K κ H p ∧ (g c).length = nW κ ∧
  ∀ q H', H q = none → Same H H' → H' q = some (.lst ((seenF κ (g c) f).map V.int)) → Q (.ref q) H'
def spTrackInit (K : PySem.W.Frag) : Sp := fun vs H Q _ => ∃ (x dx p r : Addr), vs = [.ref x, .ref p, .ref r] ∧ H x = some (.ins (gA K "Track") dx []) ∧ ∀ H', H' = upd H x (.ins (gA K "Track") dx (tfs p r)) → Q .non H'
theorem ix2 {x y z : V} {l : List V} : atI (x :: y :: z :: l) 2 = some z := at_of (j := 2) rfl rfl
theorem ix3 {x y z u : V} {l : List V} : atI (x :: y :: z :: u :: l) 3 = some u := at_of (j := 3) rfl rfl
theorem ix4 {x y z u v : V} {l : List V} : atI (x :: y :: z :: u :: v :: l) 4 = some v := at_of (j := 4) rfl rfl
theorem ix5 {x y z u v w : V} {l : List V} : atI (x :: y :: z :: u :: v :: w :: l) 5 = some w := at_of (j := 5) rfl rfl
theorem ix6 {x y z u v w t : V} {l : List V} : atI (x :: y :: z :: u :: v :: w :: t :: l) 6 = some t := at_of (j := 6) rfl rfl
section
variable {P : Program} {w : World} {K : PySem.W.Frag} {mg : Str → Option Value} {base : Heap}
theorem sc_tinit : FnScope ["self", "own_pen", "record"] ["self", "own_pen", "record"] (defScope s_Track_init) := ⟨rfl, rfl, rfl, by decide +kernel, rfl, by decide +kernel, by decide +kernel⟩
theorem has_tinit (T : Tx K mg) : Has P w K mg base 1 (mA K "Track" "__init__") ["self", "own_pen", "record"] (spTrackInit K) [] := by
  obtain ⟨fd, F⟩ := T.fd_Track_init
  refine hasD F sc_tinit (fun vs H Q E h => ?_) (fun _ _ _ _ _ _ us hl => match us, hl with | [_, _, _], _ => rfl) (fun cdv A outer s H vs Q E hr h => ?_)
  · obtain ⟨x, dx, p, r, rfl, _⟩ := h
    rfl
  · obtain ⟨x, dx, p, r, rfl, hx, k⟩ := h
    refine ⟨_, pss_cons (ps_fld (pv 0) (pv 1) rfl) (pss_one (ps_fld (pv 0) (pv 2) rfl)), ?_⟩
    refine ⟨_, rfl, _, rfl, x, _, dx, [], rfl, hx, T.c_Track, T.n_Track_own_pen, (by show 0 < 1000; decide), ?_⟩
    refine ⟨_, rfl, _, rfl, x, _, dx, _, rfl, upd_same, T.c_Track, T.n_Track_record, (by show 1 < 1000; decide), ?_⟩
    refine k _ ?_
    rw [upd_upd, put1, put2 (by decide +kernel)]
    rfl
theorem sc_many : FnScope ["self"] ["self"] (defScope s_Track_many) := ⟨rfl, rfl, rfl, by decide +kernel, rfl, by decide +kernel, by decide +kernel⟩
theorem has_many (T : Tx K mg) : Has P w K mg base 1 (mA K "Track" "many") ["self"] (spRec1 K fun c => (c.n : Nat)) [] := by
  obtain ⟨fd, F⟩ := T.fd_Track_many
  refine hasD F sc_many (fun vs H Q E h => ?_) (fun _ _ _ _ _ _ us hl => match us, hl with | [_], _ => rfl) (fun cdv A outer s H vs Q E hr h => ?_)
  · obtain ⟨p, a, c, rfl, _⟩ := h
    rfl
  · obtain ⟨p, a, c, rfl, ⟨dx, r, ha, ss, rl, tl, h1, _⟩, k⟩ := h
    exact ⟨_, pss_one (ps_ret (pe_ix ix_tup (pe_fld (pv 0) rfl) pe_int (fun _ _ => rfl))), _, rfl, a, _, dx, _, _, rfl, ha, T.c_Track, T.n_Track_record, tfs_rec _ _, r, _, _, _, rfl, rfl, SqT.of h1, ix0, k⟩
theorem sc_turn : FnScope ["self"] ["self"] (defScope s_Track_turn) := ⟨rfl, rfl, rfl, by decide +kernel, rfl, by decide +kernel, by decide +kernel⟩
theorem has_turn (T : Tx K mg) : Has P w K mg base 1 (mA K "Track" "turn") ["self"] (spRec1 K fun c => (c.turn : Nat)) [] := by
  obtain ⟨fd, F⟩ := T.fd_Track_turn
  refine hasD F sc_turn (fun vs H Q E h => ?_) (fun _ _ _ _ _ _ us hl => match us, hl with | [_], _ => rfl) (fun cdv A outer s H vs Q E hr h => ?_)
  · obtain ⟨p, a, c, rfl, _⟩ := h
    rfl
  · obtain ⟨p, a, c, rfl, ⟨dx, r, ha, ss, rl, tl, h1, _⟩, k⟩ := h
    exact ⟨_, pss_one (ps_ret (pe_ix ix_tup (pe_fld (pv 0) rfl) pe_int (fun _ _ => rfl))), _, rfl, a, _, dx, _, _, rfl, ha, T.c_Track, T.n_Track_record, tfs_rec _ _, r, _, _, _, rfl, rfl, SqT.of h1, ix1, k⟩
theorem sc_strokes : FnScope ["self"] ["self"] (defScope s_Track_strokes) := ⟨rfl, rfl, rfl, by decide +kernel, rfl, by decide +kernel, by decide +kernel⟩
theorem has_strokes (T : Tx K mg) : Has P w K mg base 1 (mA K "Track" "strokes") ["self"] (spRec1 K fun c => c.st) [] := by
  obtain ⟨fd, F⟩ := T.fd_Track_strokes
  refine hasD F sc_strokes (fun vs H Q E h => ?_) (fun _ _ _ _ _ _ us hl => match us, hl with | [_], _ => rfl) (fun cdv A outer s H vs Q E hr h => ?_)
  · obtain ⟨p, a, c, rfl, _⟩ := h
    rfl
  · obtain ⟨p, a, c, rfl, ⟨dx, r, ha, ss, rl, tl, h1, _⟩, k⟩ := h
    exact ⟨_, pss_one (ps_ret (pe_ix ix_tup (pe_fld (pv 0) rfl) pe_int (fun _ _ => rfl))), _, rfl, a, _, dx, _, _, rfl, ha, T.c_Track, T.n_Track_record, tfs_rec _ _, r, _, _, _, rfl, rfl, SqT.of h1, ix3, k⟩
theorem sc_area : FnScope ["self"] ["self"] (defScope s_Track_area) := ⟨rfl, rfl, rfl, by decide +kernel, rfl, by decide +kernel, by decide +kernel⟩
theorem has_area (T : Tx K mg) : Has P w K mg base 1 (mA K "Track" "area") ["self"] (spRec1 K fun c => c.ar) [] := by
  obtain ⟨fd, F⟩ := T.fd_Track_area
  refine hasD F sc_area (fun vs H Q E h => ?_) (fun _ _ _ _ _ _ us hl => match us, hl with | [_], _ => rfl) (fun cdv A outer s H vs Q E hr h => ?_)
  · obtain ⟨p, a, c, rfl, _⟩ := h
    rfl
  · obtain ⟨p, a, c, rfl, ⟨dx, r, ha, ss, rl, tl, h1, _⟩, k⟩ := h
    exact ⟨_, pss_one (ps_ret (pe_ix ix_tup (pe_fld (pv 0) rfl) pe_int (fun _ _ => rfl))), _, rfl, a, _, dx, _, _, rfl, ha, T.c_Track, T.n_Track_record, tfs_rec _ _, r, _, _, _, rfl, rfl, SqT.of h1, ix6, k⟩
theorem sc_shift : FnScope ["self", "first"] ["self", "first"] (defScope s_Track_shift) := ⟨rfl, rfl, rfl, by decide +kernel, rfl, by decide +kernel, by decide +kernel⟩
theorem ok_shift (T : Tx K mg) (κ : Bool) : FnOk P w K mg base CX0 4 (mA K "Track" "shift") (fdOf K (mA K "Track" "shift")) ["self", "first"] (spShift K κ) := by
  obtain ⟨fd, F⟩ := T.fd_Track_shift
  refine okD F sc_shift (fun vs H Q E h => ?_) (fun cdv A outer s H vs Q E hr h => ?_)
  · obtain ⟨p, a, c, f, rfl, _⟩ := h
    rfl
  · obtain ⟨p, a, c, f, rfl, ⟨dx, r, ha, ss, rl, tl, h1, h2, _⟩, hp, k⟩ := h
    obtain ⟨dp, hp0⟩ := id hp
    refine ⟨_, pss_one (ps_ret (pm (pe_fld (pv 0) rfl) (cP T κ) (mP_turned T κ) (has_turned T κ) hr (pa_cons (pe_ix ix_tup (pe_fld (pv 0) rfl) pe_int (fun _ _ => rfl)) (pa_cons (pv 1) pa_nil)))), ?_⟩
    refine ⟨_, rfl, a, _, dx, _, _, rfl, ha, T.c_Track, T.n_Track_own_pen, tfs_pen _ _, p, dp, [], rfl, hp0, rfl, ?_⟩
    refine ⟨_, rfl, a, _, dx, _, _, rfl, ha, T.c_Track, T.n_Track_record, tfs_rec _ _, r, _, _, _, rfl, rfl, SqT.of h1, ix2, _, rfl, ?_⟩
    exact ⟨p, ss, f, c.pos, rfl, hp, h2, k⟩
theorem has_shift1 (T : Tx K mg) (κ : Bool) : Has P w K mg base 4 (mA K "Track" "shift") ["self", "first"] (spShift K κ) [] := by
  obtain ⟨fd, F⟩ := T.fd_Track_shift
  exact ⟨ok_shift T κ, bindD 2 1 F (List.cons_ne_nil _ _) rfl fun T kV doc pm an cdv ct us its h1 h2 => match us, its, h1, h2 with | [_, _], [_], _, _ => ⟨_, rfl, rfl⟩, F.kp⟩
theorem has_shift0 (T : Tx K mg) (κ : Bool) : Has P w K mg base 4 (mA K "Track" "shift") ["self", "first"] (spShift K κ) [.int 0] := by
  obtain ⟨fd, F⟩ := T.fd_Track_shift
  exact ⟨ok_shift T κ, bindD 1 0 F (List.cons_ne_nil _ _) rfl fun T kV doc pm an cdv ct us its h1 h2 => match us, its, h1, h2 with | [_], [_], _, _ => ⟨_, rfl, rfl⟩, F.kp⟩
end
end SG

/-! ## SgMath2 -/
set_option autoImplicit true
set_option autoImplicit false
namespace SG
/-! ### a track's record and what it tells -/
structure MaxAt (fs : List Int) (m t : Int) : Prop where
  ex : ∃ j : Nat, t = (j : Int) ∧ fs[j]? = some m ∧ ∀ i x, i < j → fs[i]? = some x → x < m
  le : ∀ x ∈ fs, x ≤ m
theorem maxAt_reach {κ : Bool} {ds : List Dd} {sps : List Spot} {w : Nat} {m t : Int} (hl : sps.length = ds.length + 1) (hs : ∀ i, i ≤ ds.length → sps[i]? = some (pos κ (ds.take i))) (h : MaxAt (sps.map (alg κ w)) m t) : IsReach κ ds w m t := by
  obtain ⟨⟨j, ej, hj, hlt⟩, hle⟩ := h
  have at_ : ∀ i, i ≤ ds.length → (sps.map (alg κ w))[i]? = some (Far κ ds w i) := fun i hi => by
    rw [List.getElem?_map, hs i hi]; rfl
  have hjl : j ≤ ds.length := by
    have := (List.getElem?_eq_some_iff.mp hj).1
    rw [List.length_map, hl] at this
    omega
  refine ⟨fun p hp => hle _ (List.mem_of_getElem? (at_ p hp)), j, ej, hjl, ?_, fun p hp => hlt p _ hp (at_ p (by omega))⟩
  have := (at_ j hjl).symm.trans hj
  exact Option.some.inj this
def spotsOf : List Dd → List Spot
  | [] => [(0, 0)]
  | d :: _ => [(0, 0), shD d]
theorem spotsOf_at {κ : Bool} {ds : List Dd} (h : ds.length ≤ 1) : (spotsOf ds).length = ds.length + 1 ∧ ∀ i, i ≤ ds.length → (spotsOf ds)[i]? = some (pos κ (ds.take i)) := by
  match ds, h with
  | [], _ =>
    refine ⟨rfl, fun i hi => ?_⟩
    have e : i = 0 := by simpa using hi
    subst e; rfl
  | [d], _ =>
    refine ⟨rfl, fun i hi => ?_⟩
    have e : i = 0 ∨ i = 1 := by simp at hi; omega
    rcases e with rfl | rfl
    · rfl
    · show some (shD d) = some (addS (shD d) (rotN κ (d.tu % nW κ) (0, 0)))
      rw [rotN_zero, addS_zero]
end SG

/-! ## SgJoin -/
set_option autoImplicit true
set_option Elab.async false
set_option maxRecDepth 100000
set_option maxHeartbeats 4000000
namespace SG
open PySem PySem.Spec PyProof.Rows L2
theorem getD_at {l : List Int} {v : Nat} (h : v < l.length) : (l.map V.int)[v]? = some (.int (l.getD v 0)) := by
  rw [List.getElem?_map, List.getElem?_eq_getElem h, List.getD_eq_getElem?_getD, List.getElem?_eq_getElem h]
  rfl
theorem small6 {n : Nat} (h : n ≤ 6) : n < sizeLine := Nat.lt_of_le_of_lt h (by decide)
theorem map_range_succ {α : Type} (f : Nat → α) (n : Nat) : (List.range (n + 1)).map f = (List.range n).map f ++ [f n] := by
  rw [List.range_succ, List.map_append]; rfl
theorem free_of {H H' : Hp} {p : Addr} (e : Same H H') (h : H' p = none) : H p = none := e.free h
section
variable {P : Program} {w : World} {K : PySem.W.Frag} {mg : Str → Option Value} {base : Heap}
theorem sc_seen : FnScope ["self", "row", "first", "way"] ["self", "row", "first"] (defScope s_Track_seen_from) := ⟨rfl, rfl, rfl, by decide +kernel, rfl, by decide +kernel, by decide +kernel⟩
theorem has_seen (T : Tx K mg) (κ : Bool) : Has P w K mg base 3 (mA K "Track" "seen_from") ["self", "row", "first"] (spSeen K κ) [] := by
  obtain ⟨fd, F⟩ := T.fd_Track_seen_from
  refine hasD F sc_seen (fun vs H Q E h => ?_) (fun _ _ _ _ _ _ us hl => match us, hl with | [_, _, _], _ => rfl) (fun cdv A outer s H vs Q E hr h => ?_)
  · obtain ⟨p, a, c, l, row, f, rfl, _⟩ := h
    rfl
  · obtain ⟨p, a, c, l, row, f, rfl, ⟨dx, r, ha, _⟩, hp, hl, hlen, k⟩ := h
    obtain ⟨dp, hp0⟩ := id hp
    have h6 := nW_le κ
    refine ⟨_, pss_one (ps_ret (pe_lc (own := [("way", 3)]) (g := gName 3) (tt := tYes) rfl sc_seen.nd
      (pi_range1 rfl T.f_range (pa_cons (pe_callB call_len_seq (by rfl) T.f_len PySem.boot_len (pa_cons (pv 1) pa_nil)) pa_nil))
      (blkOk_by (own := [("way", 3)]) (N := ["self", "row", "first", "way"]) (sc := defScope s_Track_seen_from) (by decide +kernel)) (fun _ _ _ _ _ => pg_name (i := 3) sc_seen.nd rfl (Or.inl rfl)) (fun _ _ _ _ _ => pts_nil)
      (fun _ _ _ _ _ => pe_ix (ixlK K) (pv 1) (pm (fldK K (pv 0) rfl) (cP T κ) (mP_way_of T κ) (has_way_of T κ) hr (pa_cons (pe_op op_sub (pv 3) (pv 2)) pa_nil)) (fun _ _ => rfl)))), ?_⟩
    refine ⟨_, rfl, l, _, rfl, .inl (SqL.of hl), _, rfl, ?_, ?_, fun D hD => ?_⟩
    · rw [List.length_map, hlen]; omega
    · rw [List.length_map, hlen]; omega
    rw [List.length_map]
    refine lc_range (lo := 0) (n := row.length) (fun j H' => Same H H' ∧ H' D = some (.lst (((List.range j).map fun v : Nat => row.getD (((v : Int) - f) % (nW κ : Nat)).toNat 0).map V.int))) ⟨Same.new hD, upd_same⟩ ?_ ?_
    · rintro j H' hj ⟨s1, hD'⟩
      refine ⟨rfl, ?_⟩
      refine ⟨_, rfl, _, rfl, a, _, dx, _, _, rfl, s1 _ _ ha, T.c_Track, T.n_Track_own_pen, tfs_pen _ _, p, dp, [], rfl, s1 _ _ hp0, rfl, _, rfl, _, rfl, _, _, rfl, rfl, p, _, rfl, hp.same s1, ?_⟩
      obtain ⟨m1, m2⟩ := mod_toNat κ ((j : Int) - f)
      refine ⟨l, _, _, .int (row.getD (((j : Int) - f) % (nW κ : Nat)).toNat 0), rfl, rfl, SqL.of (s1 _ _ hl), at_of (j := (((j : Int) - f) % (nW κ : Nat)).toNat) ?_ (getD_at (by omega)), ?_⟩
      · rw [m2]
        show ((0 : Int) + (j : Int) - f) % (nW κ : Nat) = _
        rw [Int.zero_add]
      · refine ⟨_, hD', ?_, mut_same s1 hD, ?_⟩
        · rw [List.length_map, List.length_map, List.length_range]
          exact small6 (by omega)
        · rw [map_range_succ, List.map_append, upd_same]
          rfl
    · rintro H' ⟨s1, hD'⟩
      exact k D H' hD s1 hD'
theorem sc_reach : FnScope ["self", "first"] ["self", "first"] (defScope s_Track_reach) := ⟨rfl, rfl, rfl, by decide +kernel, rfl, by decide +kernel, by decide +kernel⟩
theorem ok_reach (T : Tx K mg) (κ : Bool) : FnOk P w K mg base CX0 4 (mA K "Track" "reach") (fdOf K (mA K "Track" "reach")) ["self", "first"] (spRow K κ Rec.R) := by
  obtain ⟨fd, F⟩ := T.fd_Track_reach
  refine okD F sc_reach (fun vs H Q E h => ?_) (fun cdv A outer s H vs Q E hr h => ?_)
  · obtain ⟨p, a, c, f, rfl, _⟩ := h
    rfl
  · obtain ⟨p, a, c, f, rfl, hT, hp, hl, k⟩ := h
    obtain ⟨dx, r, ha, ss, rl, tl, h1, h2, h3, h4⟩ := id hT
    refine ⟨_, pss_one (ps_ret (pm (pv 0) T.c_Track T.m_Track_seen_from (has_seen T κ) hr (pa_cons (pe_ix ix_tup (pe_fld (pv 0) rfl) pe_int (fun _ _ => rfl)) (pa_cons (pv 1) pa_nil)))), ?_⟩
    refine ⟨_, rfl, a, dx, _, rfl, ha, tfs_no _ _ (by decide +kernel), ?_⟩
    refine ⟨_, rfl, a, _, dx, _, _, rfl, ha, T.c_Track, T.n_Track_record, tfs_rec _ _, r, _, _, _, rfl, rfl, SqT.of h1, ix4, _, rfl, ?_⟩
    exact ⟨p, a, c, rl, c.R, f, rfl, hT, hp, h3, hl, k⟩
theorem has_reach1 (T : Tx K mg) (κ : Bool) : Has P w K mg base 4 (mA K "Track" "reach") ["self", "first"] (spRow K κ Rec.R) [] := by
  obtain ⟨fd, F⟩ := T.fd_Track_reach
  exact ⟨ok_reach T κ, bindD 2 1 F (List.cons_ne_nil _ _) rfl fun T kV doc pm an cdv ct us its h1 h2 => match us, its, h1, h2 with | [_, _], [_], _, _ => ⟨_, rfl, rfl⟩, F.kp⟩
theorem has_reach0 (T : Tx K mg) (κ : Bool) : Has P w K mg base 4 (mA K "Track" "reach") ["self", "first"] (spRow K κ Rec.R) [.int 0] := by
  obtain ⟨fd, F⟩ := T.fd_Track_reach
  exact ⟨ok_reach T κ, bindD 1 0 F (List.cons_ne_nil _ _) rfl fun T kV doc pm an cdv ct us its h1 h2 => match us, its, h1, h2 with | [_], [_], _, _ => ⟨_, rfl, rfl⟩, F.kp⟩
theorem sc_touch : FnScope ["self", "first"] ["self", "first"] (defScope s_Track_touch) := ⟨rfl, rfl, rfl, by decide +kernel, rfl, by decide +kernel, by decide +kernel⟩
theorem ok_touch (T : Tx K mg) (κ : Bool) : FnOk P w K mg base CX0 4 (mA K "Track" "touch") (fdOf K (mA K "Track" "touch")) ["self", "first"] (spRow K κ Rec.T) := by
  obtain ⟨fd, F⟩ := T.fd_Track_touch
  refine okD F sc_touch (fun vs H Q E h => ?_) (fun cdv A outer s H vs Q E hr h => ?_)
  · obtain ⟨p, a, c, f, rfl, _⟩ := h
    rfl
  · obtain ⟨p, a, c, f, rfl, hT, hp, hl, k⟩ := h
    obtain ⟨dx, r, ha, ss, rl, tl, h1, h2, h3, h4⟩ := id hT
    refine ⟨_, pss_one (ps_ret (pm (pv 0) T.c_Track T.m_Track_seen_from (has_seen T κ) hr (pa_cons (pe_ix ix_tup (pe_fld (pv 0) rfl) pe_int (fun _ _ => rfl)) (pa_cons (pv 1) pa_nil)))), ?_⟩
    refine ⟨_, rfl, a, dx, _, rfl, ha, tfs_no _ _ (by decide +kernel), ?_⟩
    refine ⟨_, rfl, a, _, dx, _, _, rfl, ha, T.c_Track, T.n_Track_record, tfs_rec _ _, r, _, _, _, rfl, rfl, SqT.of h1, ix5, _, rfl, ?_⟩
    exact ⟨p, a, c, tl, c.T, f, rfl, hT, hp, h4, hl, k⟩
theorem has_touch1 (T : Tx K mg) (κ : Bool) : Has P w K mg base 4 (mA K "Track" "touch") ["self", "first"] (spRow K κ Rec.T) [] := by
  obtain ⟨fd, F⟩ := T.fd_Track_touch
  exact ⟨ok_touch T κ, bindD 2 1 F (List.cons_ne_nil _ _) rfl fun T kV doc pm an cdv ct us its h1 h2 => match us, its, h1, h2 with | [_, _], [_], _, _ => ⟨_, rfl, rfl⟩, F.kp⟩
theorem has_touch0 (T : Tx K mg) (κ : Bool) : Has P w K mg base 4 (mA K "Track" "touch") ["self", "first"] (spRow K κ Rec.T) [.int 0] := by
  obtain ⟨fd, F⟩ := T.fd_Track_touch
  exact ⟨ok_touch T κ, bindD 1 0 F (List.cons_ne_nil _ _) rfl fun T kV doc pm an cdv ct us its h1 h2 => match us, its, h1, h2 with | [_], [_], _, _ => ⟨_, rfl, rfl⟩, F.kp⟩
end
/-! ### joined -/
def jFar (κ : Bool) (c d : Rec) (v : Nat) : Int := d.R.getD ((((v : Int) - (c.turn : Nat)) % (nW κ : Nat)).toNat) 0 + alg κ v c.pos
def jR (κ : Bool) (c d : Rec) (v : Nat) : Int := if jFar κ c d v > c.R.getD v 0 then jFar κ c d v else c.R.getD v 0
def jT (κ : Bool) (c d : Rec) (v : Nat) : Int := if jFar κ c d v > c.R.getD v 0 then (c.n : Nat) + d.T.getD ((((v : Int) - (c.turn : Nat)) % (nW κ : Nat)).toNat) 0 else c.T.getD v 0
def joinR (κ : Bool) (c d : Rec) (ar : Int) : Rec := ⟨c.n + d.n, (c.turn + d.turn) % nW κ, addS c.pos (rotN κ c.turn d.pos), c.st + d.st, (List.range (nW κ)).map (jR κ c d), (List.range (nW κ)).map (jT κ c d), ar⟩
def SmallS (s : Spot) : Prop := s.1.natAbs < 2 ^ 4000 ∧ s.2.natAbs < 2 ^ 4000
structure Fine (κ : Bool) (c : Rec) : Prop where
  R : c.R.length = nW κ
  T : c.T.length = nW κ
  turn : c.turn < nW κ
def spJoined (K : PySem.W.Frag) (κ : Bool) : Sp := fun vs H Q _ => ∃ (p a b : Addr) (c d : Rec), vs = [.ref a, .ref b] ∧ TrackAt K H p a c ∧ TrackAt K H p b d ∧ PenAt K κ H p ∧ Fine κ c ∧ Fine κ d ∧ SmallS c.pos ∧ SmallS (rotN κ c.turn d.pos) ∧
  ∀ q ar H', H q = none → Same H H' → TrackAt K H' p q (joinR κ c d ar) → Q (.ref q) H'
section
variable {P : Program} {w : World} {K : PySem.W.Frag} {mg : Str → Option Value} {base : Heap}
theorem sc_joined : FnScope ["self", "other", "turn", "behind", "reach", "touch", "way", "far", "area", "head", "middle"] ["self", "other"] (defScope s_Track_joined) := ⟨rfl, rfl, rfl, by decide +kernel, rfl, by decide +kernel, by decide +kernel⟩
theorem has_joined (T : Tx K mg) (κ : Bool) : Has P w K mg base 5 (mA K "Track" "joined") ["self", "other"] (spJoined K κ) [] := by
  obtain ⟨fd, F⟩ := T.fd_Track_joined
  refine hasD F sc_joined (fun vs H Q E h => ?_) (fun _ _ _ _ _ _ us hl => match us, hl with | [_, _], _ => rfl) (fun cdv A outer s H vs Q E hr h => ?_)
  · obtain ⟨p, a, b, c, d, rfl, _⟩ := h
    rfl
  · obtain ⟨p, a, b, c, d, rfl, hA, hB, hp, fc, fd', sm1, sm2, k⟩ := h
    have nd := sc_joined.nd
    refine ⟨_, pss_cons (ps_set (i := 2) nd rfl (Or.inl rfl) (pm0 (pv 0) T.c_Track T.m_Track_turn (has_turn T) hr))
      (pss_cons (ps_set (i := 3) nd rfl (Or.inl rfl) (pm (pv 1) T.c_Track T.m_Track_shift (has_shift1 T κ) hr (pa_cons (pv 2) pa_nil)))
      (pss_cons (ps_set (i := 4) nd rfl (Or.inl rfl) (pe_lst pa_nil))
      (pss_cons (ps_set (i := 5) nd rfl (Or.inl rfl) (pe_lst pa_nil))
      (pss_cons (ps_for PassesOwn.never rfl (pi_enum (by rfl) T.f_enumerate (pa_cons (pm (pv 1) T.c_Track T.m_Track_reach (has_reach1 T κ) hr (pa_cons (pv 2) pa_nil)) pa_nil))
          (pg_tup rfl (pgs_cons (pg_name (i := 6) nd rfl (Or.inl rfl)) (pgs_cons (pg_name (i := 7) nd rfl (Or.inl rfl)) pgs_nil)))
        (pss_cons (ps_set (i := 7) nd rfl (Or.inl rfl) (pe_op op_add (pv 7) (pm (pe_fld (pv 0) rfl) (cP T κ) (mP_along T κ) (has_along T κ) hr (pa_cons (pv 6) (pa_cons (pm0 (pv 0) T.c_Track T.m_Track_shift (has_shift0 T κ) hr) pa_nil)))))
        (pss_one (ps_if (pt_cmpR op_gt (pv 7) (pe_ix ix_list (pe_ix ix_tup (pe_fld (pv 0) rfl) pe_int (fun _ _ => rfl)) (pv 6) (fun _ _ => rfl)) (nomark _))
          (pss_cons (ps_expr (pe_bm PySem.F.plainAttrs_list PySem.F.slot_list_append PySem.F.type_list_append mt_append (pv 4) (pa_cons (pv 7) pa_nil)))
          (pss_one (ps_expr (pe_bm PySem.F.plainAttrs_list PySem.F.slot_list_append PySem.F.type_list_append mt_append (pv 5) (pa_cons (pe_op op_add (pm0 (pv 0) T.c_Track T.m_Track_many (has_many T) hr)
            (pe_ix ix_list (pm (pv 1) T.c_Track T.m_Track_touch (has_touch1 T κ) hr (pa_cons (pv 2) pa_nil)) (pv 6) (fun _ _ => rfl))) pa_nil)))))
          (pss_cons (ps_expr (pe_bm PySem.F.plainAttrs_list PySem.F.slot_list_append PySem.F.type_list_append mt_append (pv 4) (pa_cons (pe_ix ix_list (pe_ix ix_tup (pe_fld (pv 0) rfl) pe_int (fun _ _ => rfl)) (pv 6) (fun _ _ => rfl)) pa_nil)))
          (pss_one (ps_expr (pe_bm PySem.F.plainAttrs_list PySem.F.slot_list_append PySem.F.type_list_append mt_append (pv 5) (pa_cons (pe_ix ix_list (pe_ix ix_tup (pe_fld (pv 0) rfl) pe_int (fun _ _ => rfl)) (pv 6) (fun _ _ => rfl)) pa_nil)))))))))
      (pss_cons (ps_set (i := 8) nd rfl (Or.inl rfl) (pe_op op_add (pe_op op_add (pm0 (pv 0) T.c_Track T.m_Track_area (has_area T) hr) (pm0 (pv 1) T.c_Track T.m_Track_area (has_area T) hr))
          (pcl T.g_cross (has_cross T) hr (pa_cons (pm0 (pv 0) T.c_Track T.m_Track_shift (has_shift0 T κ) hr) (pa_cons (pv 3) pa_nil)))))
      (pss_cons (ps_set (i := 9) nd rfl (Or.inl rfl) (pe_tup (pa_cons (pe_op op_add (pm0 (pv 0) T.c_Track T.m_Track_many (has_many T) hr) (pm0 (pv 1) T.c_Track T.m_Track_many (has_many T) hr))
          (pa_cons (pm (pe_fld (pv 0) rfl) (cP T κ) (mP_way_of T κ) (has_way_of T κ) hr (pa_cons (pe_op op_add (pv 2) (pm0 (pv 1) T.c_Track T.m_Track_turn (has_turn T) hr)) pa_nil)) pa_nil))))
      (pss_cons (ps_set (i := 10) nd rfl (Or.inl rfl) (pe_tup (pa_cons (pcl T.g_added (has_added T) hr (pa_cons (pm0 (pv 0) T.c_Track T.m_Track_shift (has_shift0 T κ) hr) (pa_cons (pv 3) pa_nil)))
          (pa_cons (pe_op op_add (pm0 (pv 0) T.c_Track T.m_Track_strokes (has_strokes T) hr) (pm0 (pv 1) T.c_Track T.m_Track_strokes (has_strokes T) hr)) pa_nil))))
      (pss_one (ps_ret (pmake T.mk_Track T.g_Track (has_tinit T) hr (pa_cons (pe_fld (pv 0) rfl) (pa_cons (pe_op op_catT (pe_op op_catT (pv 9) (pv 10)) (pe_tup (pa_cons (pv 4) (pa_cons (pv 5) (pa_cons (pv 8) pa_nil))))) pa_nil)))))))))))), ?_⟩
    obtain ⟨dxa, ra, ha, ssa, rla, tla, a1, a2, a3, a4⟩ := id hA
    obtain ⟨dxb, rb, hb, _⟩ := id hB
    obtain ⟨dp, hp0⟩ := id hp
    have n6 := nW_le κ
    have rot0 : ∀ s : Spot, rotN κ ((0 : Int) % (nW κ : Nat)).toNat s = s := fun s => by rw [Int.zero_emod]; rfl
    -- turn, behind, the two lists
    refine ⟨_, rfl, a, dxa, _, rfl, ha, tfs_no _ _ (by decide +kernel), p, a, c, rfl, hA, ?_⟩
    refine ⟨_, rfl, b, dxb, _, rfl, hb, tfs_no _ _ (by decide +kernel), _, rfl, p, b, d, _, rfl, hB, hp, fun bh H1 s1 hbh => ?_⟩
    rw [mod_small fc.turn] at hbh
    refine ⟨Nat.zero_le _, fun rl hrl1 => ⟨Nat.zero_le _, fun tl htl2 => ?_⟩⟩
    have s13 : Same H1 (upd (upd H1 rl (.lst [])) tl (.lst [])) := (Same.new hrl1).trans (Same.new htl2)
    have htl1 : H1 tl = none := (Same.new (o := .lst []) hrl1).free htl2
    have nrt : rl ≠ tl := fun e => by rw [← e, upd_same] at htl2; cases htl2
    -- the loop
    refine ⟨_, rfl, b, dxb, _, rfl, s13 _ _ (s1 _ _ hb), tfs_no _ _ (by decide +kernel), _, rfl, p, b, d, _, rfl, hB.same (s1.trans s13), hp.same (s1.trans s13), fd'.R, fun L H4 hL3 s4 hL4 => ?_⟩
    have hL1 : H1 L = none := s13.free hL3
    have nLr : L ≠ rl := fun e => by rw [e, upd_ne nrt, upd_same] at hL3; cases hL3
    have nLt : L ≠ tl := fun e => by rw [e, upd_same] at hL3; cases hL3
    have hlen : ((seenF κ d.R (c.turn : Nat)).map V.int).length = nW κ := by rw [List.length_map, seenF, List.length_map, List.length_range, fd'.R]
    refine ⟨L, _, rfl, SqL.of hL4, ?_⟩
    refine for_it (walk_enum (K := K) (a := L) (xs := (seenF κ d.R (c.turn : Nat)).map V.int)) (fun j σ H' => ∃ v6 v7 : Option V, σ = [some (.ref a), some (.ref b), some (.int (c.turn : Nat)), some (.ref bh), some (.ref rl), some (.ref tl), v6, v7, none, none, none] ∧
        Same H1 H' ∧ H' rl = some (.lst (((List.range j).map (jR κ c d)).map V.int)) ∧ H' tl = some (.lst (((List.range j).map (jT κ c d)).map V.int)) ∧ H' L = some (.lst ((seenF κ d.R (c.turn : Nat)).map V.int)))
      ⟨none, none, rfl, s13.trans s4, s4 _ _ (by rw [upd_ne nrt, upd_same]; rfl), s4 _ _ (by rw [upd_same]; rfl), hL4⟩ (fun j σ H' _ ⟨_, _, _, _, _, _, h⟩ => SqL.of h) ?_ ?_
    · rintro j x σ H' H'' hj ⟨v6, v7, rfl, t1, hr1, ht1, hl1⟩ ⟨Tq, x1, y1, rfl, hT, rfl, e1, e2⟩
      rw [hlen] at hj
      have e1' : x1 = .int (j : Nat) := (Option.some.inj e1).symm
      subst e1'
      have e2' : y1 = .int (d.R.getD ((((j : Nat) : Int) - (c.turn : Nat)) % (nW κ : Nat)).toNat 0) := by
        change ((seenF κ d.R (c.turn : Nat)).map V.int)[j]? = some y1 at e2
        rw [List.getElem?_map, seenF, List.getElem?_map, List.getElem?_range (by rw [fd'.R]; exact hj)] at e2
        exact (Option.some.inj e2).symm
      subst e2'
      have s2 : Same H' (upd H' Tq (.tup [.int (j : Nat), .int (d.R.getD ((((j : Nat) : Int) - (c.turn : Nat)) % (nW κ : Nat)).toNat 0)])) := Same.new hT
      have u2 := t1.trans s2
      refine ⟨Tq, _, rfl, SqT.of upd_same, rfl, _, _, rfl, _, _, rfl, rfl, ?_⟩
      -- far
      refine ⟨_, rfl, _, rfl, a, _, dxa, _, _, rfl, u2 _ _ (s1 _ _ ha), T.c_Track, T.n_Track_own_pen, tfs_pen _ _, p, dp, [], rfl, u2 _ _ (s1 _ _ hp0), rfl, _, rfl, ?_⟩
      refine ⟨_, rfl, a, dxa, _, rfl, u2 _ _ (s1 _ _ ha), tfs_no _ _ (by decide +kernel), p, a, c, 0, rfl, hA.same (s1.trans u2), hp.same (s1.trans u2), fun q5 H5 s5 hq5 => ?_⟩
      rw [rot0] at hq5
      refine ⟨p, q5, _, _, rfl, (hp.same (s1.trans u2)).same s5, hq5, fun H6 s6 => ⟨_, _, rfl, rfl, ?_⟩⟩
      rw [mod_small hj]
      have u6 : Same H1 H6 := (u2.trans s5).trans s6
      have w6 : Same H' H6 := (s2.trans s5).trans s6
      have hcR : ((c.R).map V.int)[j]? = some (.int (c.R.getD j 0)) := getD_at (by rw [fc.R]; exact hj)
      have hcT : ((c.T).map V.int)[j]? = some (.int (c.T.getD j 0)) := getD_at (by rw [fc.T]; exact hj)
      -- far > self.record[4][way]
      refine ⟨_, rfl, _, rfl, a, _, dxa, _, _, rfl, u6 _ _ (s1 _ _ ha), T.c_Track, T.n_Track_record, tfs_rec _ _, ra, _, _, _, rfl, rfl, SqT.of (u6 _ _ (s1 _ _ a1)), ix4, _, rfl, rla, _, _, _, rfl, rfl, SqL.of (u6 _ _ (s1 _ _ a3)), at_of rfl hcR, _, _, rfl, rfl, _, rfl, ?_⟩
      have hr6 := w6 _ _ hr1
      have ht6 := w6 _ _ ht1
      have hl6 := w6 _ _ hl1
      have szr : (((List.range j).map (jR κ c d)).map V.int).length < sizeLine := by rw [List.length_map, List.length_map, List.length_range]; exact small6 (by omega)
      have szt : (((List.range j).map (jT κ c d)).map V.int).length < sizeLine := by rw [List.length_map, List.length_map, List.length_range]; exact small6 (by omega)
      refine ite2d (fun hc => ?_) (fun hc => ?_)
      · have ejR : jR κ c d j = jFar κ c d j := if_pos hc
        have ejT : jT κ c d j = (c.n : Nat) + d.T.getD ((((j : Int) - (c.turn : Nat)) % (nW κ : Nat)).toNat) 0 := if_pos hc
        refine ⟨_, rfl, .inl ⟨rfl, _, SqL.of hr6⟩, _, rfl, rl, _, _, rfl, rfl, hr6, szr, ?_⟩
        have u7 := mut_same (o := .lst (((List.range j).map (jR κ c d)).map V.int ++ [V.int (d.R.getD ((((j : Nat) : Int) - (c.turn : Nat)) % (nW κ : Nat)).toNat 0 + alg κ j c.pos)])) u6 hrl1
        refine ⟨_, rfl, .inl ⟨rfl, _, SqL.of ((upd_ne nrt.symm).trans ht6)⟩, ?_⟩
        refine ⟨_, rfl, a, dxa, _, rfl, u7 _ _ (s1 _ _ ha), tfs_no _ _ (by decide +kernel), p, a, c, rfl, hA.same (s1.trans u7), ?_⟩
        refine ⟨_, rfl, b, dxb, _, rfl, u7 _ _ (s1 _ _ hb), tfs_no _ _ (by decide +kernel), _, rfl, p, b, d, _, rfl, hB.same (s1.trans u7), hp.same (s1.trans u7), fd'.T, fun L2 H8 hL2 s8 hL2' => ?_⟩
        obtain ⟨m1, m2⟩ := mod_toNat κ (((j : Nat) : Int) - (c.turn : Nat))
        have hat : ((seenF κ d.T (c.turn : Nat)).map V.int)[j]? = some (.int (d.T.getD ((((j : Nat) : Int) - (c.turn : Nat)) % (nW κ : Nat)).toNat 0)) := by
          rw [List.getElem?_map, seenF, List.getElem?_map, List.getElem?_range (by rw [fd'.T]; exact hj)]
          rfl
        refine ⟨_, rfl, L2, _, _, _, rfl, rfl, SqL.of hL2', at_of rfl hat, _, _, rfl, rfl, tl, _, _, rfl, rfl, s8 _ _ ((upd_ne nrt.symm).trans ht6), szt, ?_⟩
        refine ⟨_, _, rfl, mut_same (u7.trans s8) htl1, ?_, ?_, ?_⟩
        · rw [upd_ne nrt, map_range_succ, List.map_append, ejR]
          exact s8 _ _ upd_same
        · rw [upd_same, map_range_succ, List.map_append, ejT]
          rfl
        · rw [upd_ne nLt]
          exact s8 _ _ ((upd_ne nLr).trans hl6)
      · have ejR : jR κ c d j = c.R.getD j 0 := if_neg hc
        have ejT : jT κ c d j = c.T.getD j 0 := if_neg hc
        refine ⟨_, rfl, .inl ⟨rfl, _, SqL.of hr6⟩, ?_⟩
        refine ⟨_, rfl, a, _, dxa, _, _, rfl, u6 _ _ (s1 _ _ ha), T.c_Track, T.n_Track_record, tfs_rec _ _, ra, _, _, _, rfl, rfl, SqT.of (u6 _ _ (s1 _ _ a1)), ix4, _, rfl, rla, _, _, _, rfl, rfl, SqL.of (u6 _ _ (s1 _ _ a3)), at_of rfl hcR, rl, _, _, rfl, rfl, hr6, szr, ?_⟩
        have u7 := mut_same (o := .lst (((List.range j).map (jR κ c d)).map V.int ++ [V.int (c.R.getD j 0)])) u6 hrl1
        refine ⟨_, rfl, .inl ⟨rfl, _, SqL.of ((upd_ne nrt.symm).trans ht6)⟩, ?_⟩
        refine ⟨_, rfl, a, _, dxa, _, _, rfl, u7 _ _ (s1 _ _ ha), T.c_Track, T.n_Track_record, tfs_rec _ _, ra, _, _, _, rfl, rfl, SqT.of (u7 _ _ (s1 _ _ a1)), ix5, _, rfl, tla, _, _, _, rfl, rfl, SqL.of (u7 _ _ (s1 _ _ a4)), at_of rfl hcT, tl, _, _, rfl, rfl, (upd_ne nrt.symm).trans ht6, szt, ?_⟩
        refine ⟨_, _, rfl, mut_same u7 htl1, ?_, ?_, ?_⟩
        · rw [upd_ne nrt, upd_same, map_range_succ, List.map_append, ejR]
          rfl
        · rw [upd_same, map_range_succ, List.map_append, ejT]
          rfl
        · rw [upd_ne nLt, upd_ne nLr]
          exact hl6
    · rintro σ H' ⟨v6, v7, rfl, t1, hr1, ht1, hl1⟩
      rw [hlen] at hr1 ht1
      have u1 := s1.trans t1
      have hat := u1 _ _ ha
      have hbt := u1 _ _ hb
      have hAt := hA.same u1
      have hBt := hB.same u1
      have hpt := hp.same u1
      -- area
      refine ⟨_, rfl, a, dxa, _, rfl, hat, tfs_no _ _ (by decide +kernel), p, a, c, rfl, hAt, _, rfl, b, dxb, _, rfl, hbt, tfs_no _ _ (by decide +kernel), p, b, d, rfl, hBt, _, _, rfl, rfl, ?_⟩
      refine ⟨_, rfl, a, dxa, _, rfl, hat, tfs_no _ _ (by decide +kernel), p, a, c, 0, rfl, hAt, hpt, fun q5 H5 s5 hq5 => ?_⟩
      rw [rot0] at hq5
      refine ⟨_, rfl, q5, bh, _, _, rfl, hq5, (hbh.same t1).same s5, sm1.1, sm1.2, sm2.1, sm2.2, fun z => ⟨_, _, rfl, rfl, ?_⟩⟩
      -- head
      have u5 := u1.trans s5
      refine ⟨_, rfl, a, dxa, _, rfl, u5 _ _ ha, tfs_no _ _ (by decide +kernel), p, a, c, rfl, hA.same u5, _, rfl, b, dxb, _, rfl, u5 _ _ hb, tfs_no _ _ (by decide +kernel), p, b, d, rfl, hB.same u5, _, _, rfl, rfl, ?_⟩
      refine ⟨_, rfl, a, _, dxa, _, _, rfl, u5 _ _ ha, T.c_Track, T.n_Track_own_pen, tfs_pen _ _, p, dp, [], rfl, u5 _ _ hp0, rfl, ?_⟩
      refine ⟨_, rfl, _, rfl, b, dxb, _, rfl, u5 _ _ hb, tfs_no _ _ (by decide +kernel), p, b, d, rfl, hB.same u5, _, _, rfl, rfl, p, _, rfl, hp.same u5, by show 2 ≤ sizeLine; decide, fun h6 hh6 => ?_⟩
      have s6 := Same.new (o := .tup [V.int ((c.n : Nat) + (d.n : Nat)), V.int (((c.turn : Nat) + (d.turn : Nat)) % (nW κ : Nat))]) hh6
      have u6 := u5.trans s6
      -- middle
      refine ⟨_, rfl, a, dxa, _, rfl, u6 _ _ ha, tfs_no _ _ (by decide +kernel), p, a, c, 0, rfl, hA.same u6, hp.same u6, fun q7 H7 s7 hq7 => ?_⟩
      rw [rot0] at hq7
      refine ⟨_, rfl, q7, bh, _, _, rfl, hq7, (((hbh.same t1).same s5).same s6).same s7, fun q8 H8 s8 hq8 => ?_⟩
      have u8 := (u6.trans s7).trans s8
      refine ⟨_, rfl, a, dxa, _, rfl, u8 _ _ ha, tfs_no _ _ (by decide +kernel), p, a, c, rfl, hA.same u8, _, rfl, b, dxb, _, rfl, u8 _ _ hb, tfs_no _ _ (by decide +kernel), p, b, d, rfl, hB.same u8, _, _, rfl, rfl, by show 2 ≤ sizeLine; decide, fun m9 hm9 => ?_⟩
      have s9 := Same.new (o := .tup [V.ref q8, V.int (c.st + d.st)]) hm9
      have u9 := u8.trans s9
      have w9 := ((s6.trans s7).trans s8).trans s9
      have g9 := ((s7.trans s8).trans s9)
      -- the new track
      refine ⟨_, rfl, a, _, dxa, _, _, rfl, u9 _ _ ha, T.c_Track, T.n_Track_own_pen, tfs_pen _ _, ?_⟩
      refine ⟨_, rfl, _, rfl, h6, m9, _, _, rfl, rfl, SqT.of (g9 _ _ upd_same), SqT.of upd_same, List.cons_ne_nil _ _, by show 4 ≤ sizeLine; decide, fun e => absurd e (List.cons_ne_nil _ _), fun _ r10 hr10 => ?_⟩
      have s10 := Same.new (o := .tup ([V.int ((c.n : Nat) + (d.n : Nat)), V.int (((c.turn : Nat) + (d.turn : Nat)) % (nW κ : Nat))] ++ [V.ref q8, V.int (c.st + d.st)])) hr10
      refine ⟨_, rfl, _, rfl, _, rfl, by show 3 ≤ sizeLine; decide, fun t11 ht11 => ?_⟩
      have s11 := Same.new (o := .tup [V.ref rl, V.ref tl, V.int (c.ar + d.ar + z)]) ht11
      refine ⟨r10, t11, _, _, rfl, rfl, SqT.of (s11 _ _ upd_same), SqT.of upd_same, List.cons_ne_nil _ _, by show 7 ≤ sizeLine; decide, fun e => absurd e (List.cons_ne_nil _ _), fun _ r12 hr12 => ?_⟩
      intro x dx hx hdx hne
      have s12 := Same.new (o := .tup ([V.int ((c.n : Nat) + (d.n : Nat)), V.int (((c.turn : Nat) + (d.turn : Nat)) % (nW κ : Nat))] ++ [V.ref q8, V.int (c.st + d.st)] ++ [V.ref rl, V.ref tl, V.int (c.ar + d.ar + z)])) hr12
      refine ⟨x, dx, p, r12, rfl, upd_same, fun Hn en => ⟨rfl, ?_⟩⟩
      have gall := ((((s5.trans w9).trans s10).trans s11).trans s12)
      have sn : Same (upd (upd (upd (upd H8 m9 (.tup [V.ref q8, V.int (c.st + d.st)])) r10 (.tup ([V.int ((c.n : Nat) + (d.n : Nat)), V.int (((c.turn : Nat) + (d.turn : Nat)) % (nW κ : Nat))] ++ [V.ref q8, V.int (c.st + d.st)]))) t11 (.tup [V.ref rl, V.ref tl, V.int (c.ar + d.ar + z)])) r12 (.tup ([V.int ((c.n : Nat) + (d.n : Nat)), V.int (((c.turn : Nat) + (d.turn : Nat)) % (nW κ : Nat))] ++ [V.ref q8, V.int (c.st + d.st)] ++ [V.ref rl, V.ref tl, V.int (c.ar + d.ar + z)]))) Hn := by
        rw [en]
        exact mut_same (mut_same (Same.new hdx) hx) hx
      refine k x (c.ar + d.ar + z) Hn (((u1.trans gall)).free hx) ((u1.trans gall).trans sn) ⟨dx, r12, by rw [en]; exact upd_same, q8, rl, tl, ?_, ?_, ?_, ?_⟩
      · rw [sn _ _ upd_same]
        show some (HO.tup _) = some (HO.tup _)
        simp [joinR]
      · exact (((hq8.same s9).same s10).same s11).same s12 |>.same sn
      · exact sn _ _ (gall _ _ hr1)
      · exact sn _ _ (gall _ _ ht1)
end
end SG

/-! ## SgTrackOf -/
set_option autoImplicit true
set_option Elab.async false
set_option maxRecDepth 100000
set_option maxHeartbeats 4000000
namespace SG
open PySem PySem.Spec PyProof.Rows L2
theorem take_snoc {α : Type} {l : List α} {j : Nat} {x : α} (h : l[j]? = some x) : l.take (j + 1) = l.take j ++ [x] := by
  rw [List.take_add_one, h]; rfl
theorem refs_at {as : List Addr} {j : Nat} {x : V} (h : (as.map V.ref)[j]? = some x) : ∃ a, as[j]? = some a ∧ x = .ref a := by
  rw [List.getElem?_map] at h
  obtain ⟨a, e1, e2⟩ := Option.map_eq_some_iff.mp h
  exact ⟨a, e1, e2.symm⟩
theorem strs_at {ds : List Str} {j : Nat} {x : V} (h : (ds.map V.str)[j]? = some x) : ∃ d, ds[j]? = some d ∧ x = .str d := by
  rw [List.getElem?_map] at h
  obtain ⟨a, e1, e2⟩ := Option.map_eq_some_iff.mp h
  exact ⟨a, e1, e2.symm⟩
theorem small_line {n : Nat} (h : n ≤ 1000000) : n < sizeLine := Nat.lt_of_le_of_lt h (by decide)
def spAreaOf : Sp := fun vs H Q _ => ∃ (l : Addr) (as : List Addr), vs = [.ref l] ∧ H l = some (.lst (as.map V.ref)) ∧ as.length ≤ 1000 ∧ (∀ a ∈ as, ∃ s, SpotAt H a s ∧ SmallS s) ∧ ∀ z H', Same H H' → Q (.int z) H'
section
variable {P : Program} {w : World} {K : PySem.W.Frag} {mg : Str → Option Value} {base : Heap}
theorem sc_area_of : FnScope ["spots", "one", "other"] ["spots"] (defScope s_area_of) := ⟨rfl, rfl, rfl, by decide +kernel, rfl, by decide +kernel, by decide +kernel⟩
theorem has_area_of (T : Tx K mg) : Has P w K mg base 2 (gA K "area_of") ["spots"] spAreaOf [] := by
  obtain ⟨fd, F⟩ := T.fd_area_of
  refine hasD F sc_area_of (fun vs H Q E h => ?_) (fun _ _ _ _ _ _ us hl => match us, hl with | [_], _ => rfl) (fun cdv A outer s H vs Q E hr h => ?_)
  · obtain ⟨l, as, rfl, _⟩ := h
    rfl
  · obtain ⟨l, as, rfl, hl, hlen, hsp, k⟩ := h
    have nd := sc_area_of.nd
    refine ⟨_, pss_one (ps_ret (pe_callB (cr_sum rfl) (by rfl) T.f_sum (by decide +kernel) (pa_cons (pe_lc (own := [("one", 1), ("other", 2)]) (g := gTup K 2 (gCons (gName 1) (gCons (gName 2) gNil))) (tt := tYes) rfl nd
      (pi_zip (by rfl) T.f_zip (pa_cons (pv 0) (pa_cons (pe_slice sl_list (pv 0) (po_some pe_int) po_none) pa_nil)))
      (blkOk_by (own := [("one", 1), ("other", 2)]) (N := ["spots", "one", "other"]) (sc := defScope s_area_of) (by decide +kernel))
      (fun _ _ _ _ _ => pgtK K rfl (pgs_cons (pg_name (i := 1) nd rfl (Or.inl rfl)) (pgs_cons (pg_name (i := 2) nd rfl (Or.inl rfl)) pgs_nil))) (fun _ _ _ _ _ => pts_nil)
      (fun _ _ _ _ _ => pcl T.g_cross (has_cross T) hr (pa_cons (pv 1) (pa_cons (pv 2) pa_nil)))) pa_nil))), ?_⟩
    refine ⟨_, rfl, _, rfl, _, rfl, l, _, rfl, SqL.of hl, fun q hq => ?_⟩
    have s1 := Same.new (o := .lst (cutV (as.map V.ref) (some 1) none)) hq
    refine ⟨l, q, _, _, rfl, SqL.of (s1 _ _ hl), SqL.of upd_same, fun D hD => ?_⟩
    have mem_of : ∀ {y : V}, y ∈ as.map V.ref → ∃ a s, y = .ref a ∧ SpotAt H a s ∧ SmallS s := fun {y} hy => by
      obtain ⟨a, ha, e⟩ := List.mem_map.mp hy
      obtain ⟨s, h1, h2⟩ := hsp a ha
      exact ⟨a, s, e.symm, h1, h2⟩
    refine lc_it (walk_zip (K := K) (a := l) (b := q) (xs := as.map V.ref) (ys := cutV (as.map V.ref) (some 1) none) rfl) (fun j H' => Same (upd H q (.lst (cutV (as.map V.ref) (some 1) none))) H' ∧ ∃ ns : List Int, H' D = some (.lst (ns.map V.int)) ∧ ns.length ≤ j)
      ⟨Same.new hD, [], upd_same, Nat.le_refl _⟩ (fun j H' _ ⟨t1, _⟩ => ⟨SqL.of (t1 _ _ (s1 _ _ hl)), SqL.of (t1 _ _ upd_same)⟩) ?_ ?_
    · rintro j x H' H'' hj ⟨t1, ns, hD', hn⟩ ⟨Tq, x1, y1, rfl, hT, rfl, e1, e2⟩
      have hj' : j ≤ 1000 := by
        have : j < (as.map V.ref).length := Nat.lt_of_lt_of_le hj (Nat.min_le_left _ _)
        rw [List.length_map] at this
        omega
      obtain ⟨a1, p1, rfl, q1, r1⟩ := mem_of (List.mem_of_getElem? e1)
      obtain ⟨a2, p2, rfl, q2, r2⟩ := mem_of (List.mem_of_mem_drop (List.mem_of_mem_take (List.mem_of_getElem? e2)))
      have s2 := Same.new (o := .tup [V.ref a1, V.ref a2]) hT
      have u := (s1.trans t1).trans s2
      refine ⟨Tq, _, rfl, SqT.of upd_same, rfl, _, _, rfl, _, _, rfl, rfl, rfl, _, rfl, _, rfl, a1, a2, p1, p2, rfl, q1.same u, q2.same u, r1.1, r1.2, r2.1, r2.2, fun z => ?_⟩
      refine ⟨_, s2 _ _ hD', ?_, mut_same (t1.trans s2) hD, ns ++ [z], ?_, ?_⟩
      · rw [List.length_map]
        exact small_line (by omega)
      · rw [upd_same, List.map_append]; rfl
      · rw [List.length_append]; show ns.length + 1 ≤ j + 1; omega
    · rintro H' ⟨t1, ns, hD', hn⟩
      exact ⟨D, ns, rfl, SqL.of hD', k _ H' (s1.trans t1)⟩
end
structure IsTr (κ : Bool) (ds : List Dd) (c : Rec) : Prop where
  n : c.n = ds.length
  turn : c.turn = dir κ ds
  pos : c.pos = pos κ ds
  R : c.R.length = nW κ
  T : c.T.length = nW κ
  re : ∀ v, v < nW κ → IsReach κ ds v (c.R.getD v 0) (c.T.getD v 0)
def spTrackOf (K : PySem.W.Frag) (κ : Bool) : Sp := fun vs H Q _ => ∃ (p l : Addr) (ds : List Str), vs = [.ref p, .ref l] ∧ PenAt K κ H p ∧ H l = some (.lst (ds.map V.str)) ∧ ds.length ≤ 1 ∧ (∀ d ∈ ds, d ∈ deeds) ∧
  ∀ q c H', H q = none → Same H H' → TrackAt K H' p q c → IsTr κ (ds.map ddOf) c → Q (.ref q) H'
theorem first_ix {l : List Int} {x : Int} (h : x ∈ l) : ∃ j : Nat, l[j]? = some x ∧ ∀ (i : Nat) y, i < j → l[i]? = some y → y ≠ x := by
  induction l with
  | nil => cases h
  | cons a l ih =>
    by_cases e : a = x
    · exact ⟨0, by rw [e]; rfl, fun i y hi => absurd hi (Nat.not_lt_zero _)⟩
    · obtain ⟨j, h1, h2⟩ := ih ((List.mem_cons.mp h).resolve_left fun q => e q.symm)
      refine ⟨j + 1, h1, fun i y hi hy => ?_⟩
      cases i with
      | zero =>
        have : a = y := Option.some.inj hy
        exact fun q => e (this.trans q)
      | succ i => exact h2 i y (by omega) hy
theorem spots_small {ds : List Dd} {s : Spot} (h : s ∈ spotsOf ds) : SmallS s := by
  have z : (0 : Nat) < 2 ^ 4000 := Nat.two_pow_pos _
  have o : (1 : Nat) < 2 ^ 4000 := Nat.one_lt_two_pow (by decide)
  have h0 : SmallS (0, 0) := ⟨z, z⟩
  cases ds with
  | nil => rw [List.mem_singleton.mp h]; exact h0
  | cons d r =>
    rcases List.mem_cons.mp h with e | h
    · rw [e]; exact h0
    · rw [List.mem_singleton.mp h]
      unfold shD
      split
      · exact ⟨o, z⟩
      · exact h0
theorem last_of {α : Type} {l : List α} (h : l ≠ []) : ∃ l' x, l = l' ++ [x] := ⟨l.dropLast, l.getLast h, (List.dropLast_concat_getLast h).symm⟩
theorem getD_snoc {l : List Int} {x : Int} {u n : Nat} (hl : l.length = n) : (u < n → (l ++ [x]).getD u 0 = l.getD u 0) ∧ (u = n → (l ++ [x]).getD u 0 = x) := by
  subst hl
  constructor
  · intro h
    rw [List.getD_eq_getElem?_getD, List.getD_eq_getElem?_getD, List.getElem?_append_left h]
  · intro h
    subst h
    rw [List.getD_eq_getElem?_getD, List.getElem?_append_right (Nat.le_refl _), Nat.sub_self]
    rfl
def SpotsAt (H : Hp) (l : Addr) (as : List Addr) (sps : List Spot) : Prop := H l = some (.lst (as.map V.ref)) ∧ as.length = sps.length ∧ ∀ (i : Nat) (a : Addr), as[i]? = some a → ∃ s, sps[i]? = some s ∧ SpotAt H a s
section
variable {P : Program} {w : World} {K : PySem.W.Frag} {mg : Str → Option Value} {base : Heap}
abbrev nTO : List Str := ["pen", "deeds", "spots", "way", "deed", "spot", "reach", "touch", "along", "fars", "strokes"]
theorem sc_track_of : FnScope nTO ["pen", "deeds"] (defScope s_track_of) := ⟨rfl, rfl, rfl, by decide +kernel, rfl, by decide +kernel, by decide +kernel⟩
theorem has_track_of (T : Tx K mg) (κ : Bool) : Has P w K mg base 6 (gA K "track_of") ["pen", "deeds"] (spTrackOf K κ) [] := by
  obtain ⟨fd, F⟩ := T.fd_track_of
  refine hasD F sc_track_of (fun vs H Q E h => ?_) (fun _ _ _ _ _ _ us hl => match us, hl with | [_, _], _ => rfl) (fun cdv A outer s H vs Q E hr h => ?_)
  · obtain ⟨p, l, ds, rfl, _⟩ := h
    rfl
  · obtain ⟨p, l, ds, rfl, hp, hl, hlen, hds, k⟩ := h
    have nd := sc_track_of.nd
    refine ⟨_, (pss_cons (ps_set (i := 2) nd rfl (Or.inl rfl) (pe_lst (pa_cons (pe_tup (pa_cons (pe_int) (pa_cons (pe_int) pa_nil))) pa_nil)))
        (pss_cons (ps_set (i := 3) nd rfl (Or.inl rfl) pe_int)
        (pss_cons (ps_for PassesOwn.never rfl (pi_list (pv 1)) (pg_name (i := 4) nd rfl (Or.inl rfl))
        (pss_cons (ps_asg (pm (pv 0) (cP T κ) (mP_after T κ) (has_after T κ) hr (pa_cons (pv 4) (pa_cons (pe_ix ix_list (pv 2) (pe_un un_neg pe_int) (fun _ _ => rfl)) (pa_cons (pv 3) pa_nil)))) (pg_tup rfl (pgs_cons (pg_name (i := 5) nd rfl (Or.inl rfl)) (pgs_cons (pg_name (i := 3) nd rfl (Or.inl rfl)) pgs_nil))))
        (pss_one (ps_expr (pe_bm PySem.F.plainAttrs_list PySem.F.slot_list_append PySem.F.type_list_append mt_append (pv 2) (pa_cons (pv 5) pa_nil))))))
        (pss_cons (ps_set (i := 6) nd rfl (Or.inl rfl) (pe_lst pa_nil))
        (pss_cons (ps_set (i := 7) nd rfl (Or.inl rfl) (pe_lst pa_nil))
        (pss_cons (ps_for PassesOwn.never rfl (pi_range1 rfl T.f_range (pa_cons (pm0 (pv 0) (cP T κ) (mP_ways T κ) (has_ways T κ) hr) pa_nil)) (pg_name (i := 8) nd rfl (Or.inr rfl))
        (pss_cons (ps_setLc (i := 9) (own := [("spot", 5)]) (g := gName 5) (tt := tYes) rfl nd rfl rfl (sw_true rfl rfl rfl (by decide +kernel)) (pi_list (pv 2))
            (blkOk_by (own := [("spot", 5)]) (N := nTO) (sc := defScope s_track_of) (by decide +kernel)) (fun _ _ _ _ _ => pg_name (i := 5) nd rfl (Or.inl rfl)) (fun _ _ _ _ _ => pts_nil)
            (fun _ _ _ _ _ => pm (pv 0) (cP T κ) (mP_along T κ) (has_along T κ) hr (pa_cons (pv 8) (pa_cons (pv 5) pa_nil))))
        (pss_cons (ps_expr (pe_bm PySem.F.plainAttrs_list PySem.F.slot_list_append PySem.F.type_list_append mt_append (pv 6) (pa_cons (pe_callB (cr_max rfl) (by rfl) T.f_max (by decide +kernel) (pa_cons (pv 9) pa_nil)) pa_nil)))
        (pss_one (ps_expr (pe_bm PySem.F.plainAttrs_list PySem.F.slot_list_append PySem.F.type_list_append mt_append (pv 7) (pa_cons (pe_bm PySem.F.plainAttrs_list PySem.F.slot_list_index PySem.F.type_list_index mt_index (pv 9) (pa_cons (pe_callB (cr_max rfl) (by rfl) T.f_max (by decide +kernel) (pa_cons (pv 9) pa_nil)) pa_nil)) pa_nil)))))))
        (pss_cons (ps_set (i := 10) nd rfl (Or.inl rfl) (pe_callB call_len_seq (by rfl) T.f_len PySem.boot_len (pa_cons (pe_lc (own := [("deed", 4)]) (g := gName 4) rfl nd (pi_list (pv 1))
          (blkOk_by (own := [("deed", 4)]) (N := nTO) (sc := defScope s_track_of) (by decide +kernel)) (fun _ _ _ _ _ => pg_name (i := 4) nd rfl (Or.inl rfl)) (fun _ _ _ _ _ => pts_one (pt_cmpR op_eq (pv 4) pe_str (nomark _)))
          (fun _ _ _ _ _ => pv 4)) pa_nil)))
        (pss_one (ps_ret (pmake T.mk_Track T.g_Track (has_tinit T) hr (pa_cons (pv 0) (pa_cons (pe_tup (pa_cons (pe_callB call_len_seq (by rfl) T.f_len PySem.boot_len (pa_cons (pv 1) pa_nil)) (pa_cons (pv 3) (pa_cons (pe_ix ix_list (pv 2) (pe_un un_neg pe_int) (fun _ _ => rfl)) (pa_cons (pv 10) (pa_cons (pv 6) (pa_cons (pv 7) (pa_cons (pcl T.g_area_of (has_area_of T) hr (pa_cons (pv 2) pa_nil)) pa_nil)))))))) pa_nil)))))))))))), ?_⟩
    obtain ⟨dp, hp0⟩ := id hp
    have n6 := nW_le κ
    refine ⟨by show 2 ≤ sizeLine; decide, fun z0 hz0 => ⟨by show 1 ≤ sizeLine; decide, fun spl hspl => ?_⟩⟩
    have sa := Same.new (o := .tup [V.int 0, V.int 0]) hz0
    have sb := sa.trans (Same.new (o := .lst [V.ref z0]) hspl)
    have hspl0 := sa.free hspl
    refine ⟨_, rfl, l, rfl, ⟨_, SqL.of (sb _ _ hl)⟩, ?_⟩
    refine for_list (K := K) (a := l) (xs := ds.map V.str) (fun i σ H' => ∃ (as : List Addr) (v4 v5 : Option V), σ = [some (.ref p), some (.ref l), some (.ref spl), some (.int ((dir κ ((ds.map ddOf).take i) : Nat) : Int)), v4, v5, none, none, none, none, none] ∧
        Same H H' ∧ SpotsAt H' spl as (spotsOf ((ds.map ddOf).take i)))
      ⟨[z0], none, none, rfl, sb, upd_same, rfl, fun i a h => ?_⟩ (fun i σ H' _ ⟨_, _, _, _, t, _⟩ => SqL.of (t _ _ hl)) ?_ ?_
    · cases i with
      | zero =>
        have e : z0 = a := Option.some.inj h
        subst e
        exact ⟨(0, 0), rfl, (Same.new (o := .lst [V.ref z0]) hspl) _ _ upd_same⟩
      | succ i => cases h
    · rintro i x σ H' hx ⟨as, v4, v5, rfl, s1, hS⟩
      obtain ⟨d, hd, rfl⟩ := strs_at hx
      have hil := (List.getElem?_eq_some_iff.mp hd).1
      have i0 : i = 0 := by omega
      subst i0
      have e1 : ds = [d] := by
        cases ds with
        | nil => cases hd
        | cons d' r =>
          have e : d' = d := Option.some.inj hd
          have e2 : r = [] := List.length_eq_zero_iff.mp (by rw [List.length_cons] at hlen; omega)
          rw [e, e2]
      subst e1
      obtain ⟨hS1, hS2, hS3⟩ := hS
      obtain ⟨a0, rfl⟩ : ∃ a0, as = [a0] := by
        cases as with
        | nil => cases hS2
        | cons a0 r =>
          have e2 : r = [] := List.length_eq_zero_iff.mp (by have : r.length + 1 = 1 := hS2; omega)
          exact ⟨a0, by rw [e2]⟩
      obtain ⟨s0, hs0, hsa⟩ := hS3 0 a0 rfl
      have es0 : (0, 0) = s0 := Option.some.inj hs0
      subst es0
      refine ⟨_, rfl, p, dp, [], rfl, s1 _ _ hp0, rfl, _, rfl, _, rfl, _, rfl, spl, _, _, _, rfl, rfl, SqL.of hS1, atI_last [] (V.ref a0), _, rfl, ?_⟩
      refine ⟨p, a0, d, (0, 0), 0, rfl, hds d List.mem_cons_self, nW_pos κ, hp.same s1, hsa, fun q r H2 s2 hq hr2 => ⟨q, _, rfl, SqT.of hq, rfl, _, _, rfl, _, _, rfl, rfl, ?_⟩⟩
      refine ⟨_, rfl, .inl ⟨rfl, _, SqL.of (s2 _ _ hS1)⟩, _, rfl, spl, _, _, rfl, rfl, s2 _ _ hS1, by show 1 < sizeLine; decide, ?_⟩
      have ew : (0 + (ddOf d).tu) % nW κ = dir κ ([ddOf d].take 1) := by rw [Nat.zero_add]; rfl
      have es : (if (ddOf d).mv then addS (0, 0) (rotN κ 0 (1, 0)) else (0, 0)) = shD (ddOf d) := by
        unfold shD
        rw [zero_addS]
        rfl
      rw [ew]
      rw [es] at hr2
      have nr : r ≠ spl := ne_of hr2 (s2 _ _ hS1) (by intro z; cases z)
      have na : a0 ≠ spl := ne_of (hsa.same s2) (s2 _ _ hS1) (by intro z; cases z)
      refine ⟨[a0, r], _, _, rfl, mut_same (s1.trans s2) hspl0, upd_same, rfl, fun i a h => ?_⟩
      match i, h with
      | 0, h =>
        have e : a0 = a := Option.some.inj h
        subst e
        exact ⟨(0, 0), rfl, (upd_ne na).trans (hsa.same s2)⟩
      | 1, h =>
        have e : r = a := Option.some.inj h
        subst e
        exact ⟨shD (ddOf d), rfl, (upd_ne nr).trans hr2⟩
      | i + 2, h => cases h
    · rintro σ H' ⟨as, v4, v5, rfl, s1, hS⟩
      have et : (ds.map ddOf).take (ds.map V.str).length = ds.map ddOf := List.take_of_length_le (by rw [List.length_map, List.length_map]; exact Nat.le_refl _)
      rw [et] at hS ⊢
      obtain ⟨hS1, hS2, hS3⟩ := hS
      obtain ⟨hz1, hz2⟩ := spotsOf_at (κ := κ) (ds := ds.map ddOf) (by rw [List.length_map]; exact hlen)
      have hsl : (spotsOf (ds.map ddOf)).length ≤ 2 := by rw [hz1, List.length_map]; omega
      have hlp := s1 _ _ hl
      refine ⟨Nat.zero_le _, fun rl hrl => ⟨Nat.zero_le _, fun tl htl => ?_⟩⟩
      have sr := Same.new (o := .lst []) hrl
      have st := Same.new (o := .lst []) htl
      have htl1 := sr.free htl
      have nrt : rl ≠ tl := fun e => by rw [← e, upd_same] at htl; cases htl
      refine ⟨_, rfl, p, dp, [], rfl, st _ _ (sr _ _ (s1 _ _ hp0)), rfl, p, rfl, _, rfl, by omega, by omega, ?_⟩
      refine for_range (lo := 0) (n := nW κ) (fun v σ H2 => ∃ (v8 v9 : Option V) (Rl Tl : List Int), σ = [some (.ref p), some (.ref l), some (.ref spl), some (.int ((dir κ (ds.map ddOf) : Nat) : Int)), v4, v5, some (.ref rl), some (.ref tl), v8, v9, none] ∧
          Same H' H2 ∧ H2 rl = some (.lst (Rl.map V.int)) ∧ H2 tl = some (.lst (Tl.map V.int)) ∧ Rl.length = v ∧ Tl.length = v ∧ ∀ u, u < v → MaxAt ((spotsOf (ds.map ddOf)).map (alg κ u)) (Rl.getD u 0) (Tl.getD u 0))
        ⟨none, none, [], [], rfl, sr.trans st, st _ _ upd_same, upd_same, rfl, rfl, fun u hu => absurd hu (Nat.not_lt_zero _)⟩ ?_ ?_
      · rintro v σ H2 hv ⟨v8, v9, Rl, Tl, rfl, t1, hR, hT, lR, lT, hM⟩
        refine ⟨_, rfl, spl, rfl, ⟨_, SqL.of (t1 _ _ hS1)⟩, fun D hD => ?_⟩
        refine lc_list (K := K) (a := spl) (xs := as.map V.ref) (fun j H3 => Same H2 H3 ∧ H3 D = some (.lst ((((spotsOf (ds.map ddOf)).take j).map (alg κ v)).map V.int))) ⟨Same.new hD, upd_same⟩ (fun j H3 _ ⟨t2, _⟩ => SqL.of (t2 _ _ (t1 _ _ hS1))) ?_ ?_
        · rintro j x H3 hx ⟨t2, hD3⟩
          obtain ⟨a, ha, rfl⟩ := refs_at hx
          obtain ⟨sp, hsp, hspa⟩ := hS3 j a ha
          have t12 := t1.trans t2
          refine ⟨rfl, ?_⟩
          refine ⟨_, rfl, p, dp, [], rfl, t12 _ _ (s1 _ _ hp0), rfl, _, rfl, _, rfl, p, a, _, sp, rfl, (hp.same s1).same t12, hspa.same t12, fun H4 s4 => ?_⟩
          rw [Int.zero_add, mod_small hv]
          refine ⟨_, s4 _ _ hD3, ?_, mut_same (t2.trans s4) hD, ?_⟩
          · rw [List.length_map, List.length_map, List.length_take]
            exact small6 (by omega)
          · rw [upd_same, take_snoc hsp, List.map_append, List.map_append]
            rfl
        · rintro H3 ⟨t2, hD3⟩
          have eT : (spotsOf (ds.map ddOf)).take (as.map V.ref).length = spotsOf (ds.map ddOf) := List.take_of_length_le (by rw [List.length_map, hS2]; exact Nat.le_refl _)
          rw [eT] at hD3
          have hpos : 0 < ((spotsOf (ds.map ddOf)).map (alg κ v)).length := by rw [List.length_map, hz1]; exact Nat.succ_pos _
          have nDr : D ≠ rl := fun e => by rw [e, hR] at hD; cases hD
          have nDt : D ≠ tl := fun e => by rw [e, hT] at hD; cases hD
          refine ⟨_, rfl, .inl ⟨rfl, _, SqL.of (t2 _ _ hR)⟩, _, rfl, D, _, rfl, SqL.of hD3, hpos, fun m hm hle => ⟨rl, _, _, rfl, rfl, t2 _ _ hR, by rw [List.length_map, lR]; exact small6 (by omega), ?_⟩⟩
          have hT4 : (upd H3 rl (.lst (Rl.map V.int ++ [V.int m]))) tl = some (.lst (Tl.map V.int)) := (upd_ne nrt.symm).trans (t2 _ _ hT)
          have hD4 : (upd H3 rl (.lst (Rl.map V.int ++ [V.int m]))) D = some (.lst (((spotsOf (ds.map ddOf)).map (alg κ v)).map V.int)) := (upd_ne nDr).trans hD3
          refine ⟨_, rfl, .inl ⟨rfl, _, SqL.of hT4⟩, _, rfl, .inl ⟨rfl, _, SqL.of hD4⟩, _, rfl, D, _, rfl, SqL.of hD4, hpos, fun m2 hm2 hle2 => ?_⟩
          have em : m2 = m := Int.le_antisymm (hle m2 hm2) (hle2 m hm)
          subst em
          obtain ⟨j, hj1, hj2⟩ := first_ix hm2
          refine ⟨D, _, .int m2, j, .int m2, rfl, rfl, SqL.of hD4, rfl, ?_, by rw [List.getElem?_map, hj1]; rfl, by show (m2 == m2) = true; exact beq_self_eq_true m2, fun i y hi hy => ?_, tl, _, _, rfl, rfl, hT4, by rw [List.length_map, lT]; exact small6 (by omega), ?_⟩
          · rw [List.all_map]
            exact List.all_eq_true.mpr fun _ _ => rfl
          · rw [List.getElem?_map] at hy
            obtain ⟨y', e1, e2⟩ := Option.map_eq_some_iff.mp hy
            subst e2
            exact beq_eq_false_iff_ne.mpr (hj2 i y' hi e1)
          · refine ⟨_, _, Rl ++ [m2], Tl ++ [(j : Int)], rfl, mut_same (mut_same (t1.trans t2) hrl) htl1, ?_, ?_, by rw [List.length_append, lR]; rfl, by rw [List.length_append, lT]; rfl, fun u hu => ?_⟩
            · rw [upd_ne nrt, upd_same, List.map_append]; rfl
            · rw [upd_same, List.map_append]; rfl
            · by_cases hq : u < v
              · rw [(getD_snoc lR).1 hq, (getD_snoc lT).1 hq]
                exact hM u hq
              · have eu : u = v := by omega
                rw [(getD_snoc lR).2 eu, (getD_snoc lT).2 eu, eu]
                exact ⟨⟨j, rfl, hj1, fun i x hi hx => Int.lt_iff_le_and_ne.mpr ⟨hle x (List.mem_of_getElem? hx), hj2 i x hi hx⟩⟩, hle⟩
      · rintro σ H2 ⟨v8, v9, Rl, Tl, rfl, t1, hR, hT, lR, lT, hM⟩
        refine ⟨_, rfl, l, rfl, ⟨_, SqL.of (t1 _ _ hlp)⟩, fun D hD => ?_⟩
        refine lc_list (K := K) (a := l) (xs := ds.map V.str) (fun j H3 => Same H2 H3 ∧ ∃ acc : List V, H3 D = some (.lst acc) ∧ acc.length ≤ j) ⟨Same.new hD, [], upd_same, Nat.le_refl _⟩ (fun j H3 _ ⟨t2, _⟩ => SqL.of (t2 _ _ (t1 _ _ hlp))) ?_ ?_
        · rintro j x H3 hx ⟨t2, acc, hD3, hacc⟩
          have hj : j < ds.length := by
            have := (List.getElem?_eq_some_iff.mp hx).1
            rwa [List.length_map] at this
          obtain ⟨d, hd, rfl⟩ := strs_at hx
          refine ⟨rfl, _, rfl, rfl, _, rfl, ite2d (fun _ => ⟨_, rfl, acc, hD3, small_line (by omega), mut_same t2 hD, _, upd_same, ?_⟩) (fun _ => ⟨t2, acc, hD3, by omega⟩)⟩
          rw [List.length_append]
          show acc.length + 1 ≤ j + 1
          omega
        · rintro H3 ⟨t2, acc, hD3, hacc⟩
          have u3 := t1.trans t2
          obtain ⟨as', al, rfl⟩ := last_of (l := as) (fun e => by rw [e, hz1] at hS2; cases hS2)
          have hal : as'.length = (ds.map ddOf).length := by
            rw [List.length_append, hz1] at hS2
            have : as'.length + 1 = (ds.map ddOf).length + 1 := hS2
            omega
          obtain ⟨sl, hsl1, hsl2⟩ := hS3 as'.length al (by rw [List.getElem?_append_right (Nat.le_refl _), Nat.sub_self]; rfl)
          have esl : sl = pos κ (ds.map ddOf) := by
            rw [hal, hz2 _ (Nat.le_refl _), List.take_of_length_le (Nat.le_refl _)] at hsl1
            exact (Option.some.inj hsl1).symm
          subst esl
          have hspl3 := u3 _ _ hS1
          refine ⟨D, _, rfl, .inl (SqL.of hD3), ?_⟩
          refine ⟨_, rfl, _, rfl, l, _, rfl, .inl (SqL.of (u3 _ _ hlp)), _, rfl, _, rfl, _, rfl, spl, _, _, _, rfl, rfl, SqL.of hspl3, by rw [List.map_append]; exact atI_last _ _, _, rfl, _, rfl, _, rfl, _, rfl, ?_⟩
          refine ⟨spl, as' ++ [al], rfl, hspl3, by rw [hS2]; omega, fun a ha => ?_, fun z H4 s4 => ⟨by show 7 ≤ sizeLine; decide, fun rr hrr => ?_⟩⟩
          · obtain ⟨i, hi⟩ := List.getElem?_of_mem ha
            obtain ⟨sp, h1, h2⟩ := hS3 i a hi
            exact ⟨sp, h2.same u3, spots_small (List.mem_of_getElem? h1)⟩
          · intro x dx hx hdx hne
            have hrec : ∃ o, o = HO.tup [V.int ((ds.map V.str).length : Nat), V.int ((dir κ (ds.map ddOf) : Nat) : Int), V.ref al, V.int (acc.length : Nat), V.ref rl, V.ref tl, V.int z] := ⟨_, rfl⟩
            have s5 := Same.new (o := .tup [V.int ((ds.map V.str).length : Nat), V.int ((dir κ (ds.map ddOf) : Nat) : Int), V.ref al, V.int (acc.length : Nat), V.ref rl, V.ref tl, V.int z]) hrr
            refine ⟨x, dx, p, rr, rfl, upd_same, fun Hn en => ⟨rfl, ?_⟩⟩
            have sn : Same (upd H4 rr (.tup [V.int ((ds.map V.str).length : Nat), V.int ((dir κ (ds.map ddOf) : Nat) : Int), V.ref al, V.int (acc.length : Nat), V.ref rl, V.ref tl, V.int z])) Hn := by
              rw [en]
              exact mut_same (mut_same (Same.new hdx) hx) hx
            have u5 := (u3.trans s4).trans s5
            have w5 := (t2.trans s4).trans s5
            refine k x ⟨ds.length, dir κ (ds.map ddOf), pos κ (ds.map ddOf), (acc.length : Nat), Rl, Tl, z⟩ Hn ((s1.trans u5).free hx) ((s1.trans u5).trans sn) ⟨dx, rr, by rw [en]; exact upd_same, al, rl, tl, ?_, (hsl2.same u5).same sn, sn _ _ (w5 _ _ hR), sn _ _ (w5 _ _ hT)⟩
              ⟨(List.length_map _).symm, rfl, rfl, lR, lT, fun v hv => maxAt_reach hz1 hz2 (hM v hv)⟩
            rw [sn _ _ upd_same, List.length_map]
end
end SG
namespace SG
open PySem PySem.Spec PyProof.Rows L2
/-! ### still; joined, told by deeds -/
def TrackOf (K : PySem.W.Frag) (κ : Bool) (H : Hp) (p a : Addr) (ds : List Dd) : Prop := ∃ c, TrackAt K H p a c ∧ IsTr κ ds c
theorem TrackOf.same {K : PySem.W.Frag} {κ : Bool} {H H' : Hp} {p a : Addr} {ds : List Dd} (e : Same H H') (h : TrackOf K κ H p a ds) : TrackOf K κ H' p a ds := let ⟨c, h1, h2⟩ := h; ⟨c, h1.same e, h2⟩
theorem IsTr.fine {κ : Bool} {ds : List Dd} {c : Rec} (h : IsTr κ ds c) : Fine κ c := ⟨h.R, h.T, by rw [h.turn]; exact dir_lt κ ds⟩
theorem bd_small {κ : Bool} {n : Nat} {s : Spot} (h : Bd κ (n : Int) s) (hn : n < 2 ^ 3000) : SmallS s := by
  obtain ⟨h1, h2, h3, h4, _⟩ := h
  have e : n < 2 ^ 4000 := Nat.lt_trans hn (Nat.pow_lt_pow_right (by decide) (by decide))
  exact ⟨Nat.lt_of_le_of_lt (by omega) e, Nat.lt_of_le_of_lt (by omega) e⟩
theorem isTr_join {κ : Bool} {a b : List Dd} {c d : Rec} {ar : Int} (hc : IsTr κ a c) (hd : IsTr κ b d) : IsTr κ (a ++ b) (joinR κ c d ar) := by
  have tl := dir_lt κ a
  refine ⟨?_, ?_, ?_, ?_, ?_, fun v hv => ?_⟩
  · show c.n + d.n = _
    rw [List.length_append, hc.n, hd.n]
  · show (c.turn + d.turn) % nW κ = _
    rw [dir_append, hc.turn, hd.turn]
  · show addS c.pos (rotN κ c.turn d.pos) = _
    rw [pos_append, hc.pos, hd.pos, hc.turn]
  · show ((List.range (nW κ)).map (jR κ c d)).length = _
    rw [List.length_map, List.length_range]
  · show ((List.range (nW κ)).map (jT κ c d)).length = _
    rw [List.length_map, List.length_range]
  · have e1 : ((List.range (nW κ)).map (jR κ c d)).getD v 0 = jR κ c d v := by
      rw [List.getD_eq_getElem?_getD, List.getElem?_map, List.getElem?_range hv]; rfl
    have e2 : ((List.range (nW κ)).map (jT κ c d)).getD v 0 = jT κ c d v := by
      rw [List.getD_eq_getElem?_getD, List.getElem?_map, List.getElem?_range hv]; rfl
    show IsReach κ (a ++ b) v (((List.range (nW κ)).map (jR κ c d)).getD v 0) (((List.range (nW κ)).map (jT κ c d)).getD v 0)
    rw [e1, e2]
    have e3 : ((((v : Int) - (c.turn : Nat)) % (nW κ : Nat)).toNat) = (v + (nW κ - dir κ a)) % nW κ := by
      rw [hc.turn, sub_mod_nat (nW_pos κ) tl]; rfl
    have h := reach_join hv (hc.re v hv) (hd.re _ (Nat.mod_lt _ (nW_pos κ)))
    unfold jR jT jFar
    rw [e3, hc.pos, hc.n]
    exact h
def spJoinT (K : PySem.W.Frag) (κ : Bool) : Sp := fun vs H Q _ => ∃ (p a b : Addr) (ds es : List Dd), vs = [.ref a, .ref b] ∧ TrackOf K κ H p a ds ∧ TrackOf K κ H p b es ∧ PenAt K κ H p ∧ ds.length < 2 ^ 3000 ∧ es.length < 2 ^ 3000 ∧
  ∀ q H', H q = none → Same H H' → TrackOf K κ H' p q (ds ++ es) → Q (.ref q) H'
def spStill (K : PySem.W.Frag) (κ : Bool) : Sp := fun vs H Q _ => ∃ p : Addr, vs = [.ref p] ∧ PenAt K κ H p ∧ ∀ q H', H q = none → Same H H' → TrackOf K κ H' p q [] → Q (.ref q) H'
section
variable {P : Program} {w : World} {K : PySem.W.Frag} {mg : Str → Option Value} {base : Heap}
theorem has_joinT (T : Tx K mg) (κ : Bool) : Has P w K mg base 5 (mA K "Track" "joined") ["self", "other"] (spJoinT K κ) [] :=
  (has_joined T κ).imp fun vs H Q E h => by
    obtain ⟨p, a, b, ds, es, rfl, ⟨c, hA, hc⟩, ⟨d, hB, hd⟩, hp, l1, l2, k⟩ := h
    refine ⟨p, a, b, c, d, rfl, hA, hB, hp, hc.fine, hd.fine, ?_, ?_, fun q ar H' hq s hT => k q H' hq s ⟨_, hT, isTr_join hc hd⟩⟩
    · rw [hc.pos]; exact bd_small (bd_pos κ ds) l1
    · rw [hd.pos]; exact bd_small (bd_rotN _ (bd_pos κ es)) l2
theorem sc_still : FnScope ["pen"] ["pen"] (defScope s_still) := ⟨rfl, rfl, rfl, by decide +kernel, rfl, by decide +kernel, by decide +kernel⟩
theorem has_still (T : Tx K mg) (κ : Bool) : Has P w K mg base 7 (gA K "still") ["pen"] (spStill K κ) [] := by
  obtain ⟨fd, F⟩ := T.fd_still
  refine hasD F sc_still (fun vs H Q E h => ?_) (fun _ _ _ _ _ _ us hl => match us, hl with | [_], _ => rfl) (fun cdv A outer s H vs Q E hr h => ?_)
  · obtain ⟨p, rfl, _⟩ := h
    rfl
  · obtain ⟨p, rfl, hp, k⟩ := h
    refine ⟨_, (pss_one (ps_ret (pcl T.g_track_of (has_track_of T κ) hr (pa_cons (pv 0) (pa_cons (pe_lst pa_nil) pa_nil))))), ?_⟩
    refine ⟨_, rfl, Nat.zero_le _, fun l hl => ?_⟩
    have s1 := Same.new (o := .lst []) hl
    exact ⟨p, l, [], rfl, hp.same s1, upd_same, Nat.zero_le _, fun _ h => (by cases h), fun q c H' hq s2 hT hc => k q H' (s1.free hq) (s1.trans s2) ⟨c, hT, hc⟩⟩
end
end SG

/-! ## SgRl -/
set_option autoImplicit true
set_option Elab.async false
set_option maxRecDepth 100000
set_option maxHeartbeats 4000000
namespace SG
open PySem PySem.Spec PyProof.Rows L2
/-! ### rules as data -/
structure RD where
  ls : List Nat
  deed : Nat → Str
  wd : Nat → List Nat
structure RdOk (rd : RD) : Prop where
  nd : rd.ls.Nodup
  ne : rd.ls ≠ []
  six : rd.ls.length ≤ 6
  small : ∀ c ∈ rd.ls, 97 ≤ c ∧ c ≤ 122
  deed : ∀ c ∈ rd.ls, rd.deed c ∈ deeds
  wne : ∀ c ∈ rd.ls, rd.wd c ≠ []
  wlen : ∀ c ∈ rd.ls, (rd.wd c).length ≤ 8
  win : ∀ c ∈ rd.ls, ∀ x ∈ rd.wd c, x ∈ rd.ls
def sg (c : Nat) : Str := ⟨#[c]⟩
def tx (l : List Nat) : Str := ⟨l.toArray⟩
theorem sg_inj {c d : Nat} (h : sg c = sg d) : c = d := by
  have h2 : (#[c] : Array Nat) = #[d] := Str.mk.inj h
  have h3 : [c] = [d] := congrArg Array.toList h2
  exact List.head_eq_of_cons_eq h3
theorem tx_at (l : List Nat) (i : Nat) : (tx l).cps[i]? = l[i]? := by show l.toArray[i]? = _; simp
theorem tx_size (l : List Nat) : (tx l).cps.size = l.length := by show l.toArray.size = _; simp
theorem tx_length (l : List Nat) : (tx l).length = l.length := tx_size l
theorem tx_list (l : List Nat) : (tx l).cps.toList = l := by show l.toArray.toList = l; simp
theorem tx_inj {l m : List Nat} (h : tx l = tx m) : l = m := by
  have := congrArg (fun z : Str => z.cps.toList) h
  rwa [tx_list, tx_list] at this
/-- a dict by letters -/
def kvL (ls : List Nat) (g : Nat → V) : List (Key × V) := ls.map fun c => (Sum.inr (sg c), g c)
theorem kvL_len (ls : List Nat) (g : Nat → V) : (kvL ls g).length = ls.length := List.length_map _
theorem valL_in {ls : List Nat} (g : Nat → V) {c : Nat} (h : c ∈ ls) : valV (kvL ls g) (Sum.inr (sg c) : Key) = some (g c) := by
  induction ls with
  | nil => cases h
  | cons a l ih =>
    by_cases e : a = c
    · subst e
      exact valV_pos (p := ((Sum.inr (sg a) : Key), g a)) rfl
    · rw [show kvL (a :: l) g = ((Sum.inr (sg a) : Key), g a) :: kvL l g from rfl, valV_neg (fun q => e (sg_inj (Sum.inr.inj q)))]
      exact ih ((List.mem_cons.mp h).resolve_left fun q => e q.symm)
theorem valL_out {ls : List Nat} (g : Nat → V) {c : Nat} (h : ¬ c ∈ ls) : valV (kvL ls g) (Sum.inr (sg c) : Key) = none := by
  induction ls with
  | nil => rfl
  | cons a l ih =>
    rw [show kvL (a :: l) g = ((Sum.inr (sg a) : Key), g a) :: kvL l g from rfl, valV_neg (fun q => h (by rw [← sg_inj (Sum.inr.inj q)]; exact List.mem_cons_self))]
    exact ih fun q => h (List.mem_cons_of_mem _ q)
theorem kvL_congr {ls : List Nat} {f g : Nat → V} (h : ∀ c ∈ ls, f c = g c) : kvL ls f = kvL ls g := by
  unfold kvL
  exact List.map_congr_left fun c hc => by rw [h c hc]
/-- one letter more -/
theorem putL {ls : List Nat} (g : Nat → V) {c : Nat} (h : ¬ c ∈ ls) (v : V) : putK (kvL ls g) (Sum.inr (sg c) : Key) v = kvL (ls ++ [c]) (fun x => if x = c then v else g x) := by
  rw [putK_new _ (valL_out g h)]
  unfold kvL
  rw [List.map_append]
  congr 1
  · refine List.map_congr_left fun x hx => ?_
    show _ = ((Sum.inr (sg x) : Key), if x = c then v else g x)
    rw [if_neg fun q => h (by rw [← q]; exact hx)]
  · show _ = [((Sum.inr (sg c) : Key), if c = c then v else g c)]
    rw [if_pos rfl]
/-- a letter's value changed -/
theorem setL {ls : List Nat} (g : Nat → V) {c : Nat} (h : c ∈ ls) (v : V) : putK (kvL ls g) (Sum.inr (sg c) : Key) v = kvL ls (fun x => if x = c then v else g x) := by
  unfold putK
  rw [if_pos (by rw [valV_any, valL_in g h]; rfl)]
  unfold kvL
  rw [List.map_map]
  refine List.map_congr_left fun x _ => ?_
  show (if (Sum.inr (sg x) : Key) = Sum.inr (sg c) then ((Sum.inr (sg x) : Key), v) else (Sum.inr (sg x), g x)) = ((Sum.inr (sg x) : Key), if x = c then v else g x)
  by_cases e : x = c
  · subst e
    rw [if_pos rfl, if_pos rfl]
  · rw [if_neg (fun q => e (sg_inj (Sum.inr.inj q))), if_neg e]
def rfs (p k : Addr) : List (Str × V) := [("own_pen", .ref p), ("kept", .ref k)]
theorem rfs_no {m : Str} (p k : Addr) (h : (["own_pen", "kept"] : List Str).all (fun k => decide (¬ m = k)) = true) : (rfs p k).lookup m = none := look_none h
theorem rfs_pen (p k : Addr) : (rfs p k).lookup ("own_pen" : Str) = some (.ref p) := look_here _
theorem rfs_kept (p k : Addr) : (rfs p k).lookup ("kept" : Str) = some (.ref k) := by unfold rfs; rw [look_cons _ (by decide +kernel), look_here]
def RulesAt (K : PySem.W.Frag) (κ : Bool) (H : Hp) (p a : Addr) (rd : RD) : Prop := PenAt K κ H p ∧ RdOk rd ∧ ∃ (dx kd : Addr) (f : Nat → Addr), H a = some (.ins (gA K "Rules") dx (rfs p kd)) ∧ H kd = some (.dK (kvL rd.ls fun c => .ref (f c))) ∧
  ∀ c ∈ rd.ls, H (f c) = some (.tup [.str (rd.deed c), .str (tx (rd.wd c))])
theorem RulesAt.same {K : PySem.W.Frag} {κ : Bool} {H H' : Hp} {p a : Addr} {rd : RD} (e : Same H H') (h : RulesAt K κ H p a rd) : RulesAt K κ H' p a rd :=
  let ⟨hp, ok, dx, kd, f, h1, h2, h3⟩ := h; ⟨hp.same e, ok, dx, kd, f, e _ _ h1, e _ _ h2, fun c hc => e _ _ (h3 c hc)⟩
theorem walk_enumS {z : Str} : Walk (ItE z) z.cps.size (fun _ => True) (YPair (fun i => some (.int (i : Nat))) (fun i => z.cps[i]?.map fun c => V.str ⟨#[c]⟩)) :=
  ⟨fun _ _ hi _ => hi, fun _ _ => Nat.le_refl _, fun i H v H' _ _ ⟨T, c, h1, h2, h3, h4⟩ => ⟨T, _, _, h1, h2, h4, rfl, by show (z.cps[i]?.map fun c => V.str ⟨#[c]⟩) = _; rw [h3]; rfl⟩⟩
theorem walk_revS {z : Str} : Walk (ItR z) z.cps.size (fun _ => True) (fun i H x H' => H' = H ∧ ∃ c, z.cps[z.cps.size - 1 - i]? = some c ∧ x = .str ⟨#[c]⟩) :=
  ⟨fun _ _ hi _ => hi, fun _ _ => Nat.le_refl _, fun _ _ _ _ _ _ y => y⟩
theorem join_signs (l : List Nat) : Txt.join (Str.ofString "") (l.map sg) = tx l := by
  have e : Str.ofString "" = ⟨#[]⟩ := by decide +kernel
  have e2 : l.map sg = PyProof.Rows.signs (tx l) := by
    unfold PyProof.Rows.signs
    rw [tx_list]
    rfl
  rw [e, e2]
  show Builtin.Str.glued _ _ = _
  rw [StrLaws.glued_eq_join, PyProof.Rows.join_nil_signs]
/-! promises -/
def spPen (K : PySem.W.Frag) (κ : Bool) : Sp := fun vs H Q _ => ∃ (p a : Addr) (rd : RD), vs = [.ref a] ∧ RulesAt K κ H p a rd ∧ Q (.ref p) H
def spLetters (K : PySem.W.Frag) (κ : Bool) : Sp := fun vs H Q _ => ∃ (p a : Addr) (rd : RD), vs = [.ref a] ∧ RulesAt K κ H p a rd ∧ ∀ H', Same H H' → Q (.str (tx rd.ls)) H'
def spLook (K : PySem.W.Frag) (κ : Bool) : Sp := fun vs H Q _ => ∃ (p a : Addr) (rd : RD) (c : Nat), vs = [.ref a, .str (sg c)] ∧ RulesAt K κ H p a rd ∧ c ∈ rd.ls ∧ ∀ q, H q = some (.tup [.str (rd.deed c), .str (tx (rd.wd c))]) → Q (.ref q) H
def spDeed (K : PySem.W.Frag) (κ : Bool) : Sp := fun vs H Q _ => ∃ (p a : Addr) (rd : RD) (c : Nat), vs = [.ref a, .str (sg c)] ∧ RulesAt K κ H p a rd ∧ c ∈ rd.ls ∧ Q (.str (rd.deed c)) H
def spWord (K : PySem.W.Frag) (κ : Bool) : Sp := fun vs H Q _ => ∃ (p a : Addr) (rd : RD) (c : Nat), vs = [.ref a, .str (sg c)] ∧ RulesAt K κ H p a rd ∧ c ∈ rd.ls ∧ Q (.str (tx (rd.wd c))) H
def spWordOf (K : PySem.W.Frag) (κ : Bool) : Sp := fun vs H Q _ => ∃ (p a : Addr) (rd : RD) (w : List Nat) (most : Int), vs = [.ref a, .str (tx w), .int most] ∧ RulesAt K κ H p a rd ∧ w ≠ [] ∧ (w.length : Int) ≤ most ∧ w.length ≤ 1000 ∧ (∀ c ∈ w, c ∈ rd.ls) ∧ ∀ H', Same H H' → Q (.str (tx w)) H'
section
variable {P : Program} {w : World} {K : PySem.W.Frag} {mg : Str → Option Value} {base : Heap}
theorem sc_pen : FnScope ["self"] ["self"] (defScope s_Rules_pen) := ⟨rfl, rfl, rfl, by decide +kernel, rfl, by decide +kernel, by decide +kernel⟩
theorem has_pen (T : Tx K mg) (κ : Bool) : Has P w K mg base 1 (mA K "Rules" "pen") ["self"] (spPen K κ) [] := by
  obtain ⟨fd, F⟩ := T.fd_Rules_pen
  refine hasD F sc_pen (fun vs H Q E h => ?_) (fun _ _ _ _ _ _ us hl => match us, hl with | [_], _ => rfl) (fun cdv A outer s H vs Q E hr h => ?_)
  · obtain ⟨p, a, rd, rfl, _⟩ := h
    rfl
  · obtain ⟨p, a, rd, rfl, ⟨_, _, dx, kd, f, h1, h2, h3⟩, k⟩ := h
    exact ⟨_, (pss_one (ps_ret (pe_fld (pv 0) rfl))), _, rfl, a, _, dx, _, _, rfl, h1, T.c_Rules, T.n_Rules_own_pen, rfs_pen _ _, k⟩
theorem sc_letters : FnScope ["self"] ["self"] (defScope s_Rules_letters) := ⟨rfl, rfl, rfl, by decide +kernel, rfl, by decide +kernel, by decide +kernel⟩
theorem has_letters (T : Tx K mg) (κ : Bool) : Has P w K mg base 1 (mA K "Rules" "letters") ["self"] (spLetters K κ) [] := by
  obtain ⟨fd, F⟩ := T.fd_Rules_letters
  refine hasD F sc_letters (fun vs H Q E h => ?_) (fun _ _ _ _ _ _ us hl => match us, hl with | [_], _ => rfl) (fun cdv A outer s H vs Q E hr h => ?_)
  · obtain ⟨p, a, rd, rfl, _⟩ := h
    rfl
  · obtain ⟨p, a, rd, rfl, ⟨_, ok, dx, kd, f, h1, h2, h3⟩, k⟩ := h
    refine ⟨_, (pss_one (ps_ret (pe_join pe_str (pe_callTy (call_list_dK rfl) (by rfl) T.f_list (by decide +kernel) (pa_cons (pe_fld (pv 0) rfl) pa_nil))))), ?_⟩
    refine ⟨⟨_, rfl⟩, _, rfl, a, _, dx, _, _, rfl, h1, T.c_Rules, T.n_Rules_kept, rfs_kept _ _, kd, _, rfl, h2, fun q hq => ?_⟩
    have e : ((kvL rd.ls fun c => V.ref (f c)).map fun kv => kV kv.1) = (rd.ls.map sg).map V.str := by
      unfold kvL
      rw [List.map_map, List.map_map]
      rfl
    rw [e]
    have s1 := Same.new (o := .lst ((rd.ls.map sg).map V.str)) hq
    refine ⟨_, q, rd.ls.map sg, rfl, rfl, .inl (SqL.of upd_same), ?_, ?_⟩
    · have e1 : ((rd.ls.map sg).map (·.length)).sum = rd.ls.length := by
        rw [List.map_map]
        induction rd.ls with
        | nil => rfl
        | cons c l ih => rw [List.map_cons, List.sum_cons, ih, List.length_cons]; show 1 + _ = _; omega
      have e2 : (Str.ofString "").length = 0 := by decide +kernel
      have := ok.six
      rw [e1, e2, List.length_map]
      omega
    · rw [join_signs]
      exact k _ s1
theorem sc_look : FnScope ["self", "letter"] ["self", "letter"] (defScope s_Rules_look) := ⟨rfl, rfl, rfl, by decide +kernel, rfl, by decide +kernel, by decide +kernel⟩
theorem has_look (T : Tx K mg) (κ : Bool) : Has P w K mg base 1 (mA K "Rules" "look") ["self", "letter"] (spLook K κ) [] := by
  obtain ⟨fd, F⟩ := T.fd_Rules_look
  refine hasD F sc_look (fun vs H Q E h => ?_) (fun _ _ _ _ _ _ us hl => match us, hl with | [_, _], _ => rfl) (fun cdv A outer s H vs Q E hr h => ?_)
  · obtain ⟨p, a, rd, c, rfl, _⟩ := h
    rfl
  · obtain ⟨p, a, rd, c, rfl, ⟨_, ok, dx, kd, f, h1, h2, h3⟩, hc, k⟩ := h
    have hu := hu_of hr
    refine ⟨_, (pss_cons (ps_if (pt_cmp (pc_dnotin hu (pv 1) (pe_fld (pv 0) rfl))) (pss_one (ps_never)) pss_nil)
        (pss_one (ps_ret (pe_dget hu (pe_fld (pv 0) rfl) (pv 1) (fun _ _ => rfl))))), ?_⟩
    refine ⟨_, rfl, _, rfl, a, _, dx, _, _, rfl, h1, T.c_Rules, T.n_Rules_kept, rfs_kept _ _, kd, _, rfl, DGet.k (k := Sum.inr (sg c)) h2, _, rfl, ?_⟩
    rw [valL_in _ hc]
    refine iteF ?_
    refine ⟨_, rfl, a, _, dx, _, _, rfl, h1, T.c_Rules, T.n_Rules_kept, rfs_kept _ _, _, rfl, kd, .ref (f c), rfl, ?_, k (f c) (h3 c hc)⟩
    rw [← valL_in (ls := rd.ls) (fun c => V.ref (f c)) hc]
    exact DGet.k (k := Sum.inr (sg c)) h2
theorem sc_deed : FnScope ["self", "letter"] ["self", "letter"] (defScope s_Rules_deed) := ⟨rfl, rfl, rfl, by decide +kernel, rfl, by decide +kernel, by decide +kernel⟩
theorem has_deed (T : Tx K mg) (κ : Bool) : Has P w K mg base 2 (mA K "Rules" "deed") ["self", "letter"] (spDeed K κ) [] := by
  obtain ⟨fd, F⟩ := T.fd_Rules_deed
  refine hasD F sc_deed (fun vs H Q E h => ?_) (fun _ _ _ _ _ _ us hl => match us, hl with | [_, _], _ => rfl) (fun cdv A outer s H vs Q E hr h => ?_)
  · obtain ⟨p, a, rd, c, rfl, _⟩ := h
    rfl
  · obtain ⟨p, a, rd, c, rfl, hR, hc, k⟩ := h
    obtain ⟨_, ok, dx, kd, f, h1, h2, h3⟩ := id hR
    refine ⟨_, (pss_one (ps_ret (pe_ix ix_tup (pm (pv 0) T.c_Rules T.m_Rules_look (has_look T κ) hr (pa_cons (pv 1) pa_nil)) pe_int (fun _ _ => rfl)))), ?_⟩
    refine ⟨_, rfl, a, dx, _, rfl, h1, rfs_no _ _ (by decide +kernel), _, rfl, p, a, rd, c, rfl, hR, hc, fun q hq => ?_⟩
    exact ⟨q, _, _, _, rfl, rfl, SqT.of hq, ix0, k⟩
theorem sc_word : FnScope ["self", "letter"] ["self", "letter"] (defScope s_Rules_word) := ⟨rfl, rfl, rfl, by decide +kernel, rfl, by decide +kernel, by decide +kernel⟩
theorem has_word (T : Tx K mg) (κ : Bool) : Has P w K mg base 2 (mA K "Rules" "word") ["self", "letter"] (spWord K κ) [] := by
  obtain ⟨fd, F⟩ := T.fd_Rules_word
  refine hasD F sc_word (fun vs H Q E h => ?_) (fun _ _ _ _ _ _ us hl => match us, hl with | [_, _], _ => rfl) (fun cdv A outer s H vs Q E hr h => ?_)
  · obtain ⟨p, a, rd, c, rfl, _⟩ := h
    rfl
  · obtain ⟨p, a, rd, c, rfl, hR, hc, k⟩ := h
    obtain ⟨_, ok, dx, kd, f, h1, h2, h3⟩ := id hR
    refine ⟨_, (pss_one (ps_ret (pe_ix ix_tup (pm (pv 0) T.c_Rules T.m_Rules_look (has_look T κ) hr (pa_cons (pv 1) pa_nil)) pe_int (fun _ _ => rfl)))), ?_⟩
    refine ⟨_, rfl, a, dx, _, rfl, h1, rfs_no _ _ (by decide +kernel), _, rfl, p, a, rd, c, rfl, hR, hc, fun q hq => ?_⟩
    exact ⟨q, _, _, _, rfl, rfl, SqT.of hq, ix1, k⟩
theorem sc_word_of : FnScope ["self", "text", "most", "at", "sign"] ["self", "text", "most"] (defScope s_Rules_word_of) := ⟨rfl, rfl, rfl, by decide +kernel, rfl, by decide +kernel, by decide +kernel⟩
theorem has_word_of (T : Tx K mg) (κ : Bool) : Has P w K mg base 1 (mA K "Rules" "word_of") ["self", "text", "most"] (spWordOf K κ) [] := by
  obtain ⟨fd, F⟩ := T.fd_Rules_word_of
  refine ⟨?_, bindD 3 1 F (List.cons_ne_nil _ _) rfl fun T kV doc pm an cdv ct us its h1 h2 => match us, its, h1, h2 with | [_, _, _], [_], _, _ => ⟨_, rfl, rfl⟩, F.kp⟩
  refine okD F sc_word_of (fun vs H Q E h => ?_) (fun cdv A outer s H vs Q E hr h => ?_)
  · obtain ⟨p, a, rd, ww, most, rfl, _⟩ := h
    rfl
  · obtain ⟨p, a, rd, ww, most, rfl, hR, hne, hlen, hbig, hin, k⟩ := h
    obtain ⟨_, ok, dx, kd, f, h1, h2, h3⟩ := id hR
    have nd := sc_word_of.nd
    have hu := hu_of hr
    refine ⟨_, (pss_cons (ps_if (pt_cmpR op_eq (pv 1) pe_str (nomark _)) (pss_one (ps_never)) pss_nil)
        (pss_cons (ps_for PassesOwn.never rfl (pi_enumS (by rfl) T.f_enumerate (pa_cons (pv 1) pa_nil)) (pg_tup rfl (pgs_cons (pg_name (i := 3) nd rfl (Or.inl rfl)) (pgs_cons (pg_name (i := 4) nd rfl (Or.inl rfl)) pgs_nil)))
          (pss_one (ps_if (PW.pt (pw_or (pt_cmpR op_ge (pv 3) (pv 2) (nomark _)) (pw_or1 (pt_cmp (pc_dnotin hu (pv 4) (pe_fld (pv 0) rfl)))))) (pss_one (ps_never)) pss_nil)))
        (pss_one (ps_ret (pv 1))))), ?_⟩
    refine ⟨_, rfl, rfl, _, rfl, iteN (fun e => ?_) ?_⟩
    · have e1 : tx ww = tx [] := (V.str.inj e).trans (by decide +kernel)
      exact hne (tx_inj e1)
    refine ⟨_, rfl, _, rfl, ?_⟩
    refine for_it walk_enumS (fun i σ H' => ∃ v3 v4 : Option V, σ = [some (.ref a), some (.str (tx ww)), some (.int most), v3, v4] ∧ Same H H') ⟨none, none, rfl, Same.refl H⟩ (fun _ _ _ _ _ => trivial) ?_ ?_
    · rintro i x σ H' H'' hi ⟨v3, v4, rfl, s1⟩ ⟨Tq, x1, y1, rfl, hT, rfl, e1, e2⟩
      rw [tx_size] at hi
      have e1' : x1 = .int (i : Nat) := (Option.some.inj e1).symm
      subst e1'
      change ((tx ww).cps[i]?.map fun c => V.str ⟨#[c]⟩) = some y1 at e2
      rw [tx_at, List.getElem?_eq_getElem hi] at e2
      have e2' : y1 = .str (sg ww[i]) := (Option.some.inj e2).symm
      subst e2'
      have s2 := Same.new (o := .tup [V.int (i : Nat), V.str (sg ww[i])]) hT
      have u := s1.trans s2
      refine ⟨Tq, _, rfl, SqT.of upd_same, rfl, _, _, rfl, _, _, rfl, rfl, ?_⟩
      refine ⟨_, rfl, _, rfl, _, _, rfl, rfl, _, rfl, iteN (by omega) ?_⟩
      refine ⟨_, rfl, _, rfl, a, _, dx, _, _, rfl, u _ _ h1, T.c_Rules, T.n_Rules_kept, rfs_kept _ _, kd, _, rfl, DGet.k (k := Sum.inr (sg ww[i])) (u _ _ h2), _, rfl, ?_⟩
      rw [valL_in _ (hin _ (List.getElem_mem hi))]
      exact iteF ⟨_, _, rfl, u⟩
    · rintro σ H' ⟨v3, v4, rfl, s1⟩
      exact ⟨_, rfl, k H' s1⟩
end
end SG

/-! ## SgRm -/
set_option autoImplicit true
set_option Elab.async false
set_option maxRecDepth 100000
set_option maxHeartbeats 4000000
namespace SG
open PySem PySem.Spec PyProof.Rows L2
/-! ### rules made -/
def alph : Str := "abcdefghijklmnopqrstuvwxyz"
theorem alph_list : alph.cps.toList = List.range' 97 26 := by decide +kernel
theorem alph_mem {c : Nat} (h : 97 ≤ c ∧ c ≤ 122) : c ∈ alph.cps.toList := by
  rw [alph_list, List.mem_range']
  exact ⟨c - 97, by omega, by omega⟩
def spPenOf (K : PySem.W.Frag) (κ : Bool) : Sp := fun vs H Q _ => vs = [.int (nW κ : Nat)] ∧ ∀ q H', H q = none → Same H H' → PenAt K κ H' q → Q (.ref q) H'
def spSmall : Sp := fun vs H Q _ => ∃ c : Nat, vs = [.str (sg c)] ∧ 97 ≤ c ∧ c ≤ 122 ∧ Q (.bl true) H
def rowT (rd : RD) (c : Nat) : HO := .tup [.str (sg c), .str (rd.deed c), .str (tx (rd.wd c))]
def spGood : Sp := fun vs H Q _ => ∃ (r kn ah : Addr) (rd : RD) (c : Nat) (hs : List Nat), vs = [.ref r, .ref kn, .ref ah] ∧ RdOk rd ∧ c ∈ rd.ls ∧ H r = some (rowT rd c) ∧ H kn = some (.lst ((rd.ls.map sg).map V.str)) ∧ H ah = some (.lst ((hs.map sg).map V.str)) ∧ ¬ c ∈ hs ∧ ∀ H', Same H H' → Q (.bl true) H'
def RowsAt (H : Hp) (l : Addr) (rd : RD) : Prop := ∃ as : List Addr, H l = some (.lst (as.map V.ref)) ∧ as.length = rd.ls.length ∧ ∀ (i : Nat) (a : Addr) (c : Nat), as[i]? = some a → rd.ls[i]? = some c → H a = some (rowT rd c)
theorem RowsAt.same {H H' : Hp} {l : Addr} {rd : RD} (e : Same H H') (h : RowsAt H l rd) : RowsAt H' l rd := let ⟨as, h1, h2, h3⟩ := h; ⟨as, e _ _ h1, h2, fun i a c x y => e _ _ (h3 i a c x y)⟩
def spLookRows : Sp := fun vs H Q _ => ∃ (l : Addr) (rd : RD), vs = [.ref l] ∧ RdOk rd ∧ RowsAt H l rd ∧ ∀ H', Same H H' → Q .non H'
def spRulesInit (K : PySem.W.Frag) (κ : Bool) : Sp := fun vs H Q _ => ∃ (x dx l : Addr) (rd : RD), vs = [.ref x, .int (nW κ : Nat), .ref l] ∧ H x = some (.ins (gA K "Rules") dx []) ∧ RdOk rd ∧ RowsAt H l rd ∧
  ∀ p H', (∀ b o, H b = some o → b ≠ x → H' b = some o) → RulesAt K κ H' p x rd → Q .non H'
theorem flat_strs (l : List Str) : (l.map V.str).all flatV = true := by
  rw [List.all_map]
  exact List.all_eq_true.mpr fun _ _ => rfl
theorem inV_sg {c : Nat} {l : List Nat} : inV (.str (sg c)) ((l.map sg).map V.str) = decide (c ∈ l) := by
  unfold inV
  rw [List.map_map, List.any_map]
  by_cases h : c ∈ l
  · rw [decide_eq_true h]
    exact List.any_eq_true.mpr ⟨c, h, beq_self_eq_true (sg c)⟩
  · rw [decide_eq_false h]
    refine Bool.eq_false_iff.mpr fun q => ?_
    obtain ⟨d, hd, e⟩ := List.any_eq_true.mp q
    have e2 : sg d = sg c := eq_of_beq e
    exact h (by rw [← sg_inj e2]; exact hd)
theorem inV_deed {d : Str} (h : d ∈ deeds) : inV (.str d) (deeds.map V.str) = true := by
  unfold inV
  rw [List.any_map]
  exact List.any_eq_true.mpr ⟨d, h, beq_self_eq_true d⟩
section
variable {P : Program} {w : World} {K : PySem.W.Frag} {mg : Str → Option Value} {base : Heap}
theorem mk0Q (T : Tx K mg) : Mk0 K (gA K "Quarter") := by
  obtain ⟨h1, _⟩ := He.ba T.ex
  obtain ⟨h2, h3⟩ := He.ba h1
  exact ⟨h2, He.eqO_ok h3, T.k_Quarter⟩
theorem mk0S (T : Tx K mg) : Mk0 K (gA K "Sixth") := by
  obtain ⟨_, h1⟩ := He.ba T.ex
  obtain ⟨h0, _⟩ := He.ba h1
  obtain ⟨h2, h3⟩ := He.ba h0
  exact ⟨h2, He.eqO_ok h3, T.k_Sixth⟩
theorem deedsT (T : Tx K mg) (H : Hp) : SqT K H (gA K "DEEDS") (deeds.map V.str) := by
  obtain ⟨_, h1⟩ := He.ba T.ex
  obtain ⟨_, h2⟩ := He.ba h1
  exact He.tupB_ok h2 H
theorem sc_pen_of : FnScope ["ways"] ["ways"] (defScope s_pen_of) := ⟨rfl, rfl, rfl, by decide +kernel, rfl, by decide +kernel, by decide +kernel⟩
theorem has_pen_of (T : Tx K mg) (κ : Bool) : Has P w K mg base 1 (gA K "pen_of") ["ways"] (spPenOf K κ) [] := by
  obtain ⟨fd, F⟩ := T.fd_pen_of
  refine hasD F sc_pen_of (fun vs H Q E h => ?_) (fun _ _ _ _ _ _ us hl => match us, hl with | [_], _ => rfl) (fun cdv A outer s H vs Q E hr h => ?_)
  · obtain ⟨rfl, _⟩ := h
    rfl
  · obtain ⟨rfl, k⟩ := h
    refine ⟨_, (pss_cons (ps_if (pt_cmpR op_eq (pv 0) pe_int (nomark _)) (pss_one (ps_ret (pe_mk0 (mk0Q T) rfl T.g_Quarter))) pss_nil)
        (pss_cons (ps_if (pt_cmpR op_eq (pv 0) pe_int (nomark _)) (pss_one (ps_ret (pe_mk0 (mk0S T) rfl T.g_Sixth))) pss_nil)
        (pss_one (ps_never)))), ?_⟩
    cases κ
    · refine ⟨_, rfl, rfl, _, rfl, iteN (by decide) ⟨_, rfl, rfl, _, rfl, iteD rfl ?_⟩⟩
      intro x dx hx hdx hne
      exact k x _ hx (mut_same (Same.new hdx) hx) ⟨dx, upd_same⟩
    · refine ⟨_, rfl, rfl, _, rfl, iteD rfl ?_⟩
      intro x dx hx hdx hne
      exact k x _ hx (mut_same (Same.new hdx) hx) ⟨dx, upd_same⟩
theorem sc_small : FnScope ["text"] ["text"] (defScope s_small_letter) := ⟨rfl, rfl, rfl, by decide +kernel, rfl, by decide +kernel, by decide +kernel⟩
theorem has_small (T : Tx K mg) : Has P w K mg base 1 (gA K "small_letter") ["text"] spSmall [] := by
  obtain ⟨fd, F⟩ := T.fd_small_letter
  obtain ⟨u, hu, ru⟩ := T.t_ALPHABET
  refine hasD F sc_small (fun vs H Q E h => ?_) (fun _ _ _ _ _ _ us hl => match us, hl with | [_], _ => rfl) (fun cdv A outer s H vs Q E hr h => ?_)
  · obtain ⟨c, rfl, _⟩ := h
    rfl
  · obtain ⟨c, rfl, h1, h2, k⟩ := h
    refine ⟨_, (pss_one (ps_ret (pe_and (pe_cmp (pc_eqI (pe_callB call_len_str (by rfl) T.f_len PySem.boot_len (pa_cons (pv 0) pa_nil)) pe_int) rfl) (pe_one (pe_cmpR op_in_sign (pv 0) (pe_glob rfl hu ru) (by rfl)))))), ?_⟩
    refine ⟨_, rfl, sg c, rfl, by show 1 ≤ sizeLine; decide, _, _, rfl, rfl, _, rfl, iteD rfl ?_⟩
    refine ⟨_, rfl, c, _, rfl, rfl, ?_⟩
    have e : decide (c ∈ (Str.ofString "abcdefghijklmnopqrstuvwxyz").cps.toList) = true := decide_eq_true (alph_mem ⟨h1, h2⟩)
    rw [e]
    exact k
theorem sc_good : FnScope ["row", "known", "ahead", "letter", "deed", "word", "sign"] ["row", "known", "ahead"] (defScope s_good_row) := ⟨rfl, rfl, rfl, by decide +kernel, rfl, by decide +kernel, by decide +kernel⟩
theorem has_good (T : Tx K mg) : Has P w K mg base 2 (gA K "good_row") ["row", "known", "ahead"] spGood [] := by
  obtain ⟨fd, F⟩ := T.fd_good_row
  obtain ⟨u, hmu, ru⟩ := T.i_MOST_SIGNS
  refine hasD F sc_good (fun vs H Q E h => ?_) (fun _ _ _ _ _ _ us hl => match us, hl with | [_, _, _], _ => rfl) (fun cdv A outer s H vs Q E hr h => ?_)
  · obtain ⟨r, kn, ah, rd, c, hs, rfl, _⟩ := h
    rfl
  · obtain ⟨r, kn, ah, rd, c, hs, rfl, ok, hc, hrow, hkn, hah, hno, k⟩ := h
    have nd := sc_good.nd
    have LS : ∀ {X : Cx}, CallR X (.builtin "len") (fun xs H Q => ∃ z, xs = [.str z] ∧ z.length ≤ sizeLine ∧ Q (.int z.length) H) := call_len_str
    refine ⟨_, (pss_cons (ps_asg (pv 0) (pg_tup rfl (pgs_cons (pg_name (i := 3) nd rfl (Or.inl rfl)) (pgs_cons (pg_name (i := 4) nd rfl (Or.inl rfl)) (pgs_cons (pg_name (i := 5) nd rfl (Or.inl rfl)) pgs_nil)))))
        (pss_cons (ps_if (PW.pt (pw_or (pt_not (pt_val (pcl T.g_small_letter (has_small T) hr (pa_cons (pv 3) pa_nil)))) (pw_or (pt_cmpR op_in_seq (pv 3) (pv 2) (by rfl)) (pw_or1 (pt_cmpR op_notIn_seq (pv 4) (pe_glob (v := .ref (gA K "DEEDS")) rfl T.g_DEEDS rfl) (by rfl)))))) (pss_one (ps_ret pe_bl)) pss_nil)
        (pss_cons (ps_if (PW.pt (pw_or (pt_cmpR op_lt (pe_callB call_len_str (by rfl) T.f_len PySem.boot_len (pa_cons (pv 5) pa_nil)) pe_int (nomark _)) (pw_or1 (pt_cmpR op_gt (pe_callB call_len_str (by rfl) T.f_len PySem.boot_len (pa_cons (pv 5) pa_nil)) (pe_glob rfl hmu ru) (nomark _))))) (pss_one (ps_ret pe_bl)) pss_nil)
        (pss_cons (ps_for PassesOwn.never rfl (pi_str (pv 5)) (pg_name (i := 6) nd rfl (Or.inl rfl)) (pss_one (ps_if (pt_cmpR op_notIn_seq (pv 6) (pv 1) (by rfl)) (pss_one (ps_ret pe_bl)) pss_nil)))
        (pss_one (ps_ret pe_bl)))))), ?_⟩
    refine ⟨_, rfl, r, _, rfl, SqT.of hrow, rfl, _, _, rfl, _, _, rfl, _, _, rfl, rfl, ?_⟩
    obtain ⟨c1, c2⟩ := ok.small c hc
    refine ⟨_, rfl, c, rfl, c1, c2, _, rfl, ?_⟩
    refine ⟨_, rfl, _, rfl, ah, _, rfl, .inl (SqL.of hah), rfl, flat_strs _, _, rfl, ?_⟩
    show if (inV (.str (sg c)) ((hs.map sg).map V.str)) = true then _ else _
    rw [inV_sg, decide_eq_false hno]
    refine iteF ⟨_, rfl, gA K "DEEDS", _, rfl, .inr (deedsT T H), rfl, flat_strs _, _, rfl, ?_⟩
    show if (!inV (.str (rd.deed c)) (deeds.map V.str)) = true then _ else _
    rw [inV_deed (ok.deed c hc)]
    refine iteF ?_
    have wl := ok.wlen c hc
    have w0 : 0 < (rd.wd c).length := List.length_pos_iff.mpr (ok.wne c hc)
    have sz : (tx (rd.wd c)).length ≤ sizeLine := by rw [tx_length]; exact Nat.le_of_lt (small_line (by omega))
    refine ⟨_, rfl, _, rfl, sz, _, _, rfl, rfl, _, rfl, iteN (by rw [tx_length]; omega) ⟨_, rfl, _, rfl, sz, _, _, rfl, rfl, _, rfl, iteN (by rw [tx_length]; omega) ?_⟩⟩
    refine ⟨_, rfl, _, rfl, ?_⟩
    refine for_it walk_str (fun i σ H' => ∃ v6 : Option V, σ = [some (.ref r), some (.ref kn), some (.ref ah), some (.str (sg c)), some (.str (rd.deed c)), some (.str (tx (rd.wd c))), v6] ∧ H' = H) ⟨none, rfl, rfl⟩ (fun _ _ _ _ _ => trivial) ?_ ?_
    · rintro i x σ H' H'' hi ⟨v6, rfl, rfl⟩ ⟨rfl, y, hy, rfl⟩
      rw [tx_at] at hy
      refine ⟨_, rfl, _, rfl, kn, _, rfl, .inl (SqL.of hkn), rfl, flat_strs _, _, rfl, ?_⟩
      show if (!inV (.str (sg y)) ((rd.ls.map sg).map V.str)) = true then _ else _
      rw [inV_sg, decide_eq_true (ok.win c hc y (List.mem_of_getElem? hy))]
      exact iteF ⟨_, rfl, rfl⟩
    · rintro σ H' ⟨v6, rfl, rfl⟩
      exact k _ (Same.refl _)
abbrev nLR : List Str := ["rows", "known", "row", "ahead", "at"]
theorem sc_lrows : FnScope nLR ["rows"] (defScope s_look_at_rows) := ⟨rfl, rfl, rfl, by decide +kernel, rfl, by decide +kernel, by decide +kernel⟩
theorem has_lrows (T : Tx K mg) : Has P w K mg base 3 (gA K "look_at_rows") ["rows"] spLookRows [] := by
  obtain ⟨fd, F⟩ := T.fd_look_at_rows
  obtain ⟨u, hmu, ru⟩ := T.i_MOST_ROWS
  refine hasD F sc_lrows (fun vs H Q E h => ?_) (fun _ _ _ _ _ _ us hl => match us, hl with | [_], _ => rfl) (fun cdv A outer s H vs Q E hr h => ?_)
  · obtain ⟨l, rd, rfl, _⟩ := h
    rfl
  · obtain ⟨l, rd, rfl, ok, ⟨as, hl, hlen, hrow⟩, k⟩ := h
    have nd := sc_lrows.nd
    refine ⟨_, (pss_cons (ps_if (pt_not (pt_truth (pv 0) (by intro _; rfl))) (pss_one (ps_never)) pss_nil)
        (pss_cons (ps_if (pt_cmpR op_gt (pe_callB call_len_seq (by rfl) T.f_len PySem.boot_len (pa_cons (pv 0) pa_nil)) (pe_glob rfl hmu ru) (nomark _)) (pss_one (ps_never)) pss_nil)
        (pss_cons (ps_setLc (i := 1) (own := [("row", 2)]) (g := gName 2) rfl nd rfl rfl (sw_true rfl rfl rfl (by decide +kernel)) (pi_list (pv 0))
            (blkOk_by (own := [("row", 2)]) (N := nLR) (sc := defScope s_look_at_rows) (by decide +kernel)) (fun _ _ _ _ _ => pg_name (i := 2) nd rfl (Or.inl rfl)) (fun _ _ _ _ _ => pts_one (pt_val (pcl T.g_small_letter (has_small T) hr (pa_cons (pe_ix (ixtK K) (pv 2) pe_int (fun _ _ => rfl)) pa_nil))))
            (fun _ _ _ _ _ => pe_ix (ixtK K) (pv 2) pe_int (fun _ _ => rfl)))
        (pss_cons (ps_set (i := 3) nd rfl (Or.inl rfl) (pe_lst pa_nil))
        (pss_one (ps_for PassesOwn.never rfl (pi_enum (by rfl) T.f_enumerate (pa_cons (pv 0) pa_nil)) (pg_tup rfl (pgs_cons (pg_name (i := 4) nd rfl (Or.inl rfl)) (pgs_cons (pg_name (i := 2) nd rfl (Or.inl rfl)) pgs_nil)))
         (pss_cons (ps_if (pt_not (pt_val (pcl T.g_good_row (has_good T) hr (pa_cons (pv 2) (pa_cons (pv 1) (pa_cons (pv 3) pa_nil)))))) (pss_one (ps_never)) pss_nil)
        (pss_one (ps_expr (pe_bm PySem.F.plainAttrs_list PySem.F.slot_list_append PySem.F.type_list_append mt_append (pv 3) (pa_cons (pe_ix ix_tup (pv 2) pe_int (fun _ _ => rfl)) pa_nil))))))))))), ?_⟩
    have l0 : 0 < rd.ls.length := List.length_pos_iff.mpr ok.ne
    have l6 := ok.six
    have hemp : (as.map V.ref).isEmpty = false := by
      cases as with
      | nil => rw [← hlen] at l0; exact absurd l0 (Nat.lt_irrefl _)
      | cons a r => rfl
    refine ⟨_, rfl, _, .inl ⟨_, SqL.of hl, rfl⟩, ?_⟩
    rw [hemp]
    refine iteF ?_
    refine ⟨_, rfl, l, _, rfl, .inl (SqL.of hl), _, _, rfl, rfl, _, rfl, iteN (by rw [List.length_map, hlen]; omega) ?_⟩
    have hci : ∀ {i : Nat} {a : Addr}, as[i]? = some a → ∃ c, rd.ls[i]? = some c ∧ H a = some (rowT rd c) := fun {i a} h => by
      have hi := (List.getElem?_eq_some_iff.mp h).1
      exact ⟨rd.ls[i]'(by omega), List.getElem?_eq_getElem (by omega), hrow i a _ h (List.getElem?_eq_getElem (by omega))⟩
    refine ⟨_, rfl, l, rfl, ⟨_, SqL.of hl⟩, fun D hD => ?_⟩
    refine lc_list (K := K) (a := l) (xs := as.map V.ref) (fun j H' => Same H H' ∧ H' D = some (.lst (((rd.ls.take j).map sg).map V.str))) ⟨Same.new hD, upd_same⟩ (fun j H' _ ⟨t, _⟩ => SqL.of (t _ _ hl)) ?_ ?_
    · rintro j x H' hx ⟨t, hD'⟩
      obtain ⟨a, ha, rfl⟩ := refs_at hx
      obtain ⟨c, hc, hac⟩ := hci ha
      have hcm := List.mem_of_getElem? hc
      obtain ⟨c1, c2⟩ := ok.small c hcm
      refine ⟨rfl, _, rfl, a, _, _, _, rfl, rfl, SqT.of (t _ _ hac), ix0, c, rfl, c1, c2, _, rfl, ?_⟩
      refine ⟨_, rfl, a, _, _, _, rfl, rfl, SqT.of (t _ _ hac), ix0, _, hD', ?_, mut_same t hD, ?_⟩
      · rw [List.length_map, List.length_map, List.length_take]
        exact small6 (by omega)
      · rw [upd_same, take_snoc hc, List.map_append, List.map_append]
        rfl
    · rintro H1 ⟨t1, hD1⟩
      rw [List.length_map, hlen, List.take_of_length_le (Nat.le_refl _)] at hD1
      refine ⟨Nat.zero_le _, fun ah hah => ?_⟩
      have s2 := Same.new (o := .lst []) hah
      refine ⟨_, rfl, l, _, rfl, SqL.of (s2 _ _ (t1 _ _ hl)), ?_⟩
      have hahH := t1.free hah
      refine for_it (walk_enum (K := K) (a := l) (xs := as.map V.ref)) (fun i σ H' => ∃ v2 v4 : Option V, σ = [some (.ref l), some (.ref D), v2, some (.ref ah), v4] ∧ Same H1 H' ∧ H' ah = some (.lst (((rd.ls.take i).map sg).map V.str)))
        ⟨none, none, rfl, s2, upd_same⟩ (fun i σ H' _ ⟨_, _, _, t, _⟩ => SqL.of (t _ _ (t1 _ _ hl))) ?_ ?_
      · rintro i x σ H' H'' hi ⟨v2, v4, rfl, t, hA⟩ ⟨Tq, x1, y1, rfl, hT, rfl, e1, e2⟩
        obtain ⟨a, ha, rfl⟩ := refs_at (show (as.map V.ref)[i]? = some y1 from e2)
        obtain ⟨c, hc, hac⟩ := hci ha
        have hcm := List.mem_of_getElem? hc
        have s3 := Same.new (o := .tup [x1, V.ref a]) hT
        have u := t.trans s3
        refine ⟨Tq, _, rfl, SqT.of upd_same, rfl, _, _, rfl, _, _, rfl, rfl, ?_⟩
        have hno : ¬ c ∈ rd.ls.take i := fun hm => by
          obtain ⟨j, hj⟩ := List.getElem?_of_mem hm
          have hjl := (List.getElem?_eq_some_iff.mp hj).1
          rw [List.length_take] at hjl
          rw [List.getElem?_take_of_lt (by omega)] at hj
          have := nd_ix ok.nd hj hc
          omega
        refine ⟨_, rfl, _, rfl, _, rfl, a, D, ah, rd, c, rd.ls.take i, rfl, ok, hcm, u _ _ (t1 _ _ hac), u _ _ hD1, s3 _ _ hA, hno, fun H3 s4 => ⟨_, rfl, iteF ?_⟩⟩
        refine ⟨_, rfl, .inl ⟨rfl, _, SqL.of (s4 _ _ (s3 _ _ hA))⟩, _, rfl, a, _, _, _, rfl, rfl, SqT.of (s4 _ _ (u _ _ (t1 _ _ hac))), ix0, ah, _, _, rfl, rfl, s4 _ _ (s3 _ _ hA), ?_, ?_⟩
        · rw [List.length_map, List.length_map, List.length_take]
          exact small6 (by omega)
        · refine ⟨_, _, rfl, mut_same (u.trans s4) hah, ?_⟩
          rw [upd_same, take_snoc hc, List.map_append, List.map_append]
          rfl
      · rintro σ H' ⟨v2, v4, rfl, t, hA⟩
        exact k H' (t1.trans t)
theorem sc_rinit : FnScope ["self", "ways", "rows", "letter", "deed", "word"] ["self", "ways", "rows"] (defScope s_Rules_init) := ⟨rfl, rfl, rfl, by decide +kernel, rfl, by decide +kernel, by decide +kernel⟩
theorem has_rinit (T : Tx K mg) (κ : Bool) : Has P w K mg base 4 (mA K "Rules" "__init__") ["self", "ways", "rows"] (spRulesInit K κ) [] := by
  obtain ⟨fd, F⟩ := T.fd_Rules_init
  refine hasD F sc_rinit (fun vs H Q E h => ?_) (fun _ _ _ _ _ _ us hl => match us, hl with | [_, _, _], _ => rfl) (fun cdv A outer s H vs Q E hr h => ?_)
  · obtain ⟨x, dx, l, rd, rfl, _⟩ := h
    rfl
  · obtain ⟨x, dx, l, rd, rfl, hx, ok, hR, k⟩ := h
    have nd := sc_rinit.nd
    have hu := hu_of hr
    refine ⟨_, (pss_cons (ps_fld (pv 0) (pcl T.g_pen_of (has_pen_of T κ) hr (pa_cons (pv 1) pa_nil)) rfl)
        (pss_cons (ps_expr (pcl T.g_look_at_rows (has_lrows T) hr (pa_cons (pv 2) pa_nil)))
        (pss_cons (ps_fld (pv 0) pe_dnewK rfl)
        (pss_one (ps_for PassesOwn.never rfl (pi_list (pv 2)) (pg_tup rfl (pgs_cons (pg_name (i := 3) nd rfl (Or.inl rfl)) (pgs_cons (pg_name (i := 4) nd rfl (Or.inl rfl)) (pgs_cons (pg_name (i := 5) nd rfl (Or.inl rfl)) pgs_nil))))
        (pss_one (ps_dput hu (pe_fld (pv 0) rfl) (pv 3) (pe_tup (pa_cons (pv 4) (pa_cons (pv 5) pa_nil))) rfl))))))), ?_⟩
    refine ⟨_, rfl, rfl, fun p H1 hp0 s1 hp => ?_⟩
    refine ⟨_, rfl, x, _, dx, [], rfl, s1 _ _ hx, T.c_Rules, T.n_Rules_own_pen, (by show 0 < 1000; decide), ?_⟩
    rw [put1]
    have npx : p ≠ x := fun e => by rw [e, hx] at hp0; cases hp0
    obtain ⟨as, hl, hlen, hrow⟩ := id hR
    have nlx : l ≠ x := ne_of hl hx (by intro z; cases z)
    have k2 : ∀ b o, H b = some o → b ≠ x → (upd H1 x (.ins (gA K "Rules") dx [("own_pen", .ref p)])) b = some o := fun b o e hb => (upd_ne hb).trans (s1 _ _ e)
    have hR2 : RowsAt (upd H1 x (.ins (gA K "Rules") dx [("own_pen", .ref p)])) l rd := ⟨as, k2 _ _ hl nlx, hlen, fun i a c h1 h2 => k2 _ _ (hrow i a c h1 h2) (ne_of (hrow i a c h1 h2) hx (by intro z; cases z))⟩
    refine ⟨_, rfl, l, rd, rfl, ok, hR2, fun H3 s3 => ?_⟩
    intro kd hkd
    have s4 := Same.new (o := .dK []) hkd
    have hx3 : H3 x = some (.ins (gA K "Rules") dx [("own_pen", .ref p)]) := s3 _ _ upd_same
    have nkx : x ≠ kd := ne_of_none hx3 hkd
    refine ⟨_, rfl, x, _, dx, _, rfl, s4 _ _ hx3, T.c_Rules, T.n_Rules_kept, (by show 1 < 1000; decide), ?_⟩
    rw [put2 (by decide +kernel)]
    have k5 : ∀ b o, H b = some o → b ≠ x → (upd (upd H3 kd (.dK [])) x (.ins (gA K "Rules") dx (rfs p kd))) b = some o := fun b o e hb => (upd_ne hb).trans (s4 _ _ (s3 _ _ (k2 _ _ e hb)))
    obtain ⟨dp, hpd⟩ := id hp
    have hpen5 : (upd (upd H3 kd (.dK [])) x (.ins (gA K "Rules") dx (rfs p kd))) p = some (.ins (pC K κ) dp []) := (upd_ne npx).trans (s4 _ _ (s3 _ _ ((upd_ne npx).trans hpd)))
    have hkdH : H kd = none := by
      cases q : H kd with
      | none => rfl
      | some o =>
        by_cases e : kd = x
        · exact absurd e.symm nkx
        · rw [s3 _ _ (k2 _ _ q e)] at hkd; cases hkd
    have nkp : p ≠ kd := fun e => by
      have := s3 _ _ ((upd_ne npx).trans hpd)
      rw [e, hkd] at this; cases this
    refine ⟨_, rfl, l, rfl, ⟨_, SqL.of (k5 _ _ hl nlx)⟩, ?_⟩
    refine for_list (K := K) (a := l) (xs := as.map V.ref) (fun i σ H' => ∃ (v3 v4 v5 : Option V) (f : Nat → Addr), σ = [some (.ref x), some (.int (nW κ : Nat)), some (.ref l), v3, v4, v5] ∧ (∀ b o, H b = some o → b ≠ x → H' b = some o) ∧
        H' x = some (.ins (gA K "Rules") dx (rfs p kd)) ∧ H' p = some (.ins (pC K κ) dp []) ∧ H' kd = some (.dK (kvL (rd.ls.take i) fun c => .ref (f c))) ∧ ∀ c ∈ rd.ls.take i, H' (f c) = some (.tup [.str (rd.deed c), .str (tx (rd.wd c))]))
      ⟨none, none, none, fun _ => 0, rfl, k5, upd_same, hpen5, (upd_ne nkx.symm).trans upd_same, fun c hc => (by simp at hc)⟩ (fun i σ H' _ ⟨_, _, _, _, _, t, _⟩ => SqL.of (t _ _ hl nlx)) ?_ ?_
    · rintro i y σ H' hy ⟨v3, v4, v5, f, rfl, t, g1, g2, g3, g4⟩
      obtain ⟨a, ha, rfl⟩ := refs_at hy
      have hi := (List.getElem?_eq_some_iff.mp ha).1
      obtain ⟨c, hc⟩ : ∃ c, rd.ls[i]? = some c := ⟨rd.ls[i]'(by omega), List.getElem?_eq_getElem (by omega)⟩
      have hac := t _ _ (hrow i a c ha hc) (ne_of (hrow i a c ha hc) hx (by intro z; cases z))
      refine ⟨a, _, rfl, SqT.of hac, rfl, _, _, rfl, _, _, rfl, _, _, rfl, rfl, ?_⟩
      refine ⟨_, rfl, _, rfl, by show 2 ≤ sizeLine; decide, fun q hq => ?_⟩
      have s6 := Same.new (o := .tup [V.str (rd.deed c), V.str (tx (rd.wd c))]) hq
      have hno : ¬ c ∈ rd.ls.take i := fun hm => by
        obtain ⟨j, hj⟩ := List.getElem?_of_mem hm
        have hjl := (List.getElem?_eq_some_iff.mp hj).1
        rw [List.length_take] at hjl
        rw [List.getElem?_take_of_lt (by omega)] at hj
        have := nd_ix ok.nd hj hc
        omega
      refine ⟨_, rfl, x, _, dx, _, _, rfl, s6 _ _ g1, T.c_Rules, T.n_Rules_kept, rfs_kept _ _, _, rfl, kd, _, rfl, DPut.k (k := Sum.inr (sg c)) (s6 _ _ g3) ?_, ?_⟩
      · rw [kvL_len, List.length_take]
        exact small6 (by have := ok.six; omega)
      · have nqk : q ≠ kd := fun e => by rw [e, g3] at hq; cases hq
        have nxk : x ≠ kd := nkx
        have npk : p ≠ kd := nkp
        refine ⟨_, _, _, fun z => if z = c then q else f z, rfl, fun b o e hb => ?_, (upd_ne nxk).trans (s6 _ _ g1), (upd_ne npk).trans (s6 _ _ g2), ?_, fun z hz => ?_⟩
        · rw [upd_ne (ne_of_none e hkdH)]
          exact s6 _ _ (t b o e hb)
        · rw [upd_same, putL _ hno, take_snoc hc]
          refine congrArg (fun z => some (HO.dK z)) (kvL_congr fun z _ => ?_)
          show (if z = c then V.ref q else V.ref (f z)) = V.ref (if z = c then q else f z)
          by_cases e : z = c
          · rw [if_pos e, if_pos e]
          · rw [if_neg e, if_neg e]
        · show (upd _ kd _) (if z = c then q else f z) = _
          by_cases e : z = c
          · subst e
            rw [if_pos rfl, upd_ne nqk]
            exact upd_same
          · rw [if_neg e]
            rw [take_snoc hc] at hz
            have hz' : z ∈ rd.ls.take i := by
              rcases List.mem_append.mp hz with h | h
              · exact h
              · exact absurd (List.mem_singleton.mp h) e
            rw [upd_ne (ne_of (g4 z hz') g3 (by intro z; cases z))]
            exact s6 _ _ (g4 z hz')
    · rintro σ H' ⟨v3, v4, v5, f, rfl, t, g1, g2, g3, g4⟩
      rw [List.length_map, hlen, List.take_of_length_le (Nat.le_refl _)] at g3 g4
      exact k p H' t ⟨⟨dp, g2⟩, ok, dx, kd, f, g1, g3, g4⟩
end
end SG

/-! ## SgGrow -/
set_option autoImplicit true
set_option Elab.async false
set_option maxRecDepth 100000
set_option maxHeartbeats 4000000
namespace SG
open PySem PySem.Spec PyProof.Rows L2
/-! ### growths as data -/
/-- all but what stands at S is as it was; at S stand lists of objects -/
def Kp (S : List Addr) (H H' : Hp) : Prop := ∀ b o, H b = some o → ¬ b ∈ S → H' b = some o
def Lists (S : List Addr) (H : Hp) : Prop := ∀ b ∈ S, ∃ as : List Addr, H b = some (.lst (as.map V.ref))
theorem Kp.refl (S : List Addr) (H : Hp) : Kp S H H := fun _ _ e _ => e
theorem Kp.trans {S : List Addr} {H H1 H2 : Hp} (a : Kp S H H1) (b : Kp S H1 H2) : Kp S H H2 := fun x o e h => b x o (a x o e h) h
theorem Same.kp {S : List Addr} {H H' : Hp} (a : Same H H') : Kp S H H' := fun x o e _ => a x o e
theorem Kp.at_ {S : List Addr} {H H' : Hp} {b : Addr} {o : HO} (k : Kp S H H') (L : Lists S H) (e : H b = some o) (ho : ∀ as : List Addr, o ≠ .lst (as.map V.ref)) : H' b = some o :=
  k b o e fun hm => by
    obtain ⟨as, h⟩ := L b hm
    rw [e] at h
    exact ho as (Option.some.inj h)
def gfs (ra : Addr) (st : Str) (sl tl : Addr) : List (Str × V) := [("rules", .ref ra), ("start", .str st), ("sizes", .ref sl), ("tables", .ref tl)]
section
variable (ra : Addr) (st : Str) (sl tl : Addr)
theorem gfs_no {m : Str} (h : (["rules", "start", "sizes", "tables"] : List Str).all (fun k => decide (¬ m = k)) = true) : (gfs ra st sl tl).lookup m = none := look_none h
theorem gfs_rules : (gfs ra st sl tl).lookup ("rules" : Str) = some (.ref ra) := look_here _
theorem gfs_start : (gfs ra st sl tl).lookup ("start" : Str) = some (.str st) := by unfold gfs; rw [look_cons _ (by decide +kernel), look_here]
theorem gfs_sizes : (gfs ra st sl tl).lookup ("sizes" : Str) = some (.ref sl) := by unfold gfs; rw [look_cons _ (by decide +kernel), look_cons _ (by decide +kernel), look_here]
theorem gfs_tables : (gfs ra st sl tl).lookup ("tables" : Str) = some (.ref tl) := by unfold gfs; rw [look_cons _ (by decide +kernel), look_cons _ (by decide +kernel), look_cons _ (by decide +kernel), look_here]
end
/-- a growth's addresses and data -/
structure GI where
  p : Addr
  ra : Addr
  a : Addr
  sl : Addr
  tl : Addr
  rd : RD
  st : List Nat
def GI.S (g : GI) : List Addr := [g.sl, g.tl]
structure StOk (rd : RD) (st : List Nat) : Prop where
  ne : st ≠ []
  len : st.length ≤ 8
  win : ∀ c ∈ st, c ∈ rd.ls
def CountsAt (H : Hp) (a : Addr) (ls : List Nat) (total : Nat) : Prop := ∃ g : Nat → Int, H a = some (.dK (kvL ls fun c => .int (g c))) ∧ (ls.map g).sum = (total : Int)
def TabAt (H : Hp) (q : Addr) (rd : RD) (r : Nat) : Prop := ∃ f : Nat → Addr, H q = some (.dK (kvL rd.ls fun c => .ref (f c))) ∧ ∀ c ∈ rd.ls, CountsAt H (f c) rd.ls (sz rd.wd r c)
def SizeAt (H : Hp) (q : Addr) (rd : RD) (r : Nat) : Prop := H q = some (.dK (kvL rd.ls fun c => .int (sz rd.wd r c : Nat)))
def GrowB (K : PySem.W.Frag) (κ : Bool) (H : Hp) (g : GI) : Prop := RulesAt K κ H g.p g.ra g.rd ∧ StOk g.rd g.st ∧ ∃ dx, H g.a = some (.ins (gA K "Growth") dx (gfs g.ra (tx g.st) g.sl g.tl))
structure GrowN (K : PySem.W.Frag) (κ : Bool) (H : Hp) (g : GI) (ss ts : List Addr) : Prop where
  b : GrowB K κ H g
  ne : g.sl ≠ g.tl
  hs : H g.sl = some (.lst (ss.map V.ref))
  ht : H g.tl = some (.lst (ts.map V.ref))
  len : ss.length = ts.length
  le : ts.length ≤ 201
  sz : ∀ (r : Nat) q, ss[r]? = some q → SizeAt H q g.rd r
  tb : ∀ (r : Nat) q, ts[r]? = some q → TabAt H q g.rd r
def GrowAt (K : PySem.W.Frag) (κ : Bool) (H : Hp) (g : GI) : Prop := ∃ ss ts, GrowN K κ H g ss ts
theorem dK_nl {kvs : List (Key × V)} : ∀ as : List Addr, HO.dK kvs ≠ .lst (as.map V.ref) := fun _ e => by cases e
theorem tup_nl {xs : List V} : ∀ as : List Addr, HO.tup xs ≠ .lst (as.map V.ref) := fun _ e => by cases e
theorem ins_nl {C dx : Addr} {fs : List (Str × V)} : ∀ as : List Addr, HO.ins C dx fs ≠ .lst (as.map V.ref) := fun _ e => by cases e
section
variable {S : List Addr} {H H' : Hp}
theorem CountsAt.kp (k : Kp S H H') (L : Lists S H) {a : Addr} {ls : List Nat} {n : Nat} (h : CountsAt H a ls n) : CountsAt H' a ls n := let ⟨g, e, s⟩ := h; ⟨g, k.at_ L e dK_nl, s⟩
theorem TabAt.kp (k : Kp S H H') (L : Lists S H) {q : Addr} {rd : RD} {r : Nat} (h : TabAt H q rd r) : TabAt H' q rd r := let ⟨f, e, s⟩ := h; ⟨f, k.at_ L e dK_nl, fun c hc => (s c hc).kp k L⟩
theorem SizeAt.kp (k : Kp S H H') (L : Lists S H) {q : Addr} {rd : RD} {r : Nat} (h : SizeAt H q rd r) : SizeAt H' q rd r := k.at_ L h dK_nl
theorem PenAt.kp {K : PySem.W.Frag} {κ : Bool} (k : Kp S H H') (L : Lists S H) {p : Addr} (h : PenAt K κ H p) : PenAt K κ H' p := let ⟨dx, e⟩ := h; ⟨dx, k.at_ L e ins_nl⟩
theorem RulesAt.kp {K : PySem.W.Frag} {κ : Bool} (k : Kp S H H') (L : Lists S H) {p a : Addr} {rd : RD} (h : RulesAt K κ H p a rd) : RulesAt K κ H' p a rd :=
  let ⟨hp, ok, dx, kd, f, h1, h2, h3⟩ := h; ⟨hp.kp k L, ok, dx, kd, f, k.at_ L h1 ins_nl, k.at_ L h2 dK_nl, fun c hc => k.at_ L (h3 c hc) tup_nl⟩
theorem GrowB.kp {K : PySem.W.Frag} {κ : Bool} (k : Kp S H H') (L : Lists S H) {g : GI} (h : GrowB K κ H g) : GrowB K κ H' g := let ⟨h1, h2, dx, h3⟩ := h; ⟨h1.kp k L, h2, dx, k.at_ L h3 ins_nl⟩
theorem GrowB.same {K : PySem.W.Frag} {κ : Bool} {g : GI} (e : Same H H') (h : GrowB K κ H g) : GrowB K κ H' g := let ⟨h1, h2, dx, h3⟩ := h; ⟨h1.same e, h2, dx, e _ _ h3⟩
theorem TabAt.same {q : Addr} {rd : RD} {r : Nat} (e : Same H H') (h : TabAt H q rd r) : TabAt H' q rd r := let ⟨f, h1, h2⟩ := h; ⟨f, e _ _ h1, fun c hc => let ⟨g, x, y⟩ := h2 c hc; ⟨g, e _ _ x, y⟩⟩
theorem GrowN.same {K : PySem.W.Frag} {κ : Bool} {g : GI} {ss ts : List Addr} (e : Same H H') (h : GrowN K κ H g ss ts) : GrowN K κ H' g ss ts :=
  ⟨h.b.same e, h.ne, e _ _ h.hs, e _ _ h.ht, h.len, h.le, fun r q x => e _ _ (h.sz r q x), fun r q x => (h.tb r q x).same e⟩
theorem GrowN.lists {K : PySem.W.Frag} {κ : Bool} {g : GI} {ss ts : List Addr} (h : GrowN K κ H g ss ts) : Lists g.S H := fun b hb => by
  rcases List.mem_cons.mp hb with e | hb
  · rw [e]; exact ⟨ss, h.hs⟩
  · rw [List.mem_singleton.mp hb]; exact ⟨ts, h.ht⟩
end
theorem refs_ne_ints {l1 l2 : List Nat} {F : Nat → Addr} {g : Nat → Int} (h : l2 ≠ []) : HO.dK (kvL l1 fun c => .ref (F c)) ≠ HO.dK (kvL l2 fun c => .int (g c)) := fun e => by
  injection e with e
  cases l2 with
  | nil => exact h rfl
  | cons b l =>
    cases l1 with
    | nil => cases e
    | cons a m =>
      injection e with e1 _
      injection e1 with _ e2
      cases e2
theorem sum_setL {ls : List Nat} (hN : ls.Nodup) (h : Nat → Int) {c : Nat} (hc : c ∈ ls) (v : Int) : (ls.map fun x => if x = c then v else h x).sum = (ls.map h).sum - h c + v := by
  induction ls with
  | nil => cases hc
  | cons a l ih =>
    obtain ⟨n1, n2⟩ := List.nodup_cons.mp hN
    rw [List.map_cons, List.map_cons, List.sum_cons, List.sum_cons]
    by_cases e : a = c
    · subst e
      have e2 : (l.map fun x => if x = a then v else h x) = l.map h := List.map_congr_left fun x hx => by
        show (if x = a then v else h x) = h x
        rw [if_neg fun q => n1 (by rw [← q]; exact hx)]
      rw [e2, if_pos rfl]
      omega
    · rw [ih n2 ((List.mem_cons.mp hc).resolve_left fun q => e q.symm), if_neg e]
      omega
theorem sum_zero (ls : List Nat) : (ls.map fun _ => (0 : Int)).sum = 0 := by
  induction ls with
  | nil => rfl
  | cons a l ih => rw [List.map_cons, List.sum_cons, ih]; rfl
/-! promises -/
def spRules1 (K : PySem.W.Frag) (κ : Bool) : Sp := fun vs H Q _ => ∃ g : GI, vs = [.ref g.a] ∧ GrowB K κ H g ∧ Q (.ref g.ra) H
def spRound : Sp := fun vs H Q _ => ∃ (a : Addr) (n lo hi : Int), vs = [.ref a, .int n, .int lo, .int hi] ∧ lo ≤ n ∧ n ≤ hi ∧ Q .non H
def spPlace : Sp := fun vs H Q _ => ∃ (a : Addr) (n pl most : Int), vs = [.ref a, .int n, .int pl, .int most] ∧ 0 ≤ pl ∧ pl ≤ most ∧ Q .non H
def spNone (K : PySem.W.Frag) (κ : Bool) : Sp := fun vs H Q _ => ∃ g : GI, vs = [.ref g.a] ∧ GrowB K κ H g ∧ ∀ q H', H q = none → Same H H' → H' q = some (.dK (kvL g.rd.ls fun _ => .int 0)) → Q (.ref q) H'
def spFirst (K : PySem.W.Frag) (κ : Bool) : Sp := fun vs H Q _ => ∃ g : GI, vs = [.ref g.a] ∧ GrowB K κ H g ∧ ∀ q H', H q = none → Same H H' → TabAt H' q g.rd 0 → Q (.ref q) H'
def spNext (K : PySem.W.Frag) (κ : Bool) : Sp := fun vs H Q _ => ∃ (g : GI) (t : Addr) (r : Nat), vs = [.ref g.a, .ref t] ∧ GrowB K κ H g ∧ TabAt H t g.rd r ∧ ∀ q H', H q = none → Same H H' → TabAt H' q g.rd (r + 1) → Q (.ref q) H'
def spGrown (K : PySem.W.Frag) (κ : Bool) : Sp := fun vs H Q _ => ∃ (g : GI) (r : Nat), vs = [.ref g.a, .int (r : Nat)] ∧ r ≤ 200 ∧ GrowAt K κ H g ∧ ∀ q H' ss ts, Kp g.S H H' → GrowN K κ H' g ss ts → r < ts.length → ts[r]? = some q → Q (.ref q) H'
def spSizes (K : PySem.W.Frag) (κ : Bool) : Sp := fun vs H Q _ => ∃ (g : GI) (r : Nat), vs = [.ref g.a, .int (r : Nat)] ∧ r ≤ 200 ∧ GrowAt K κ H g ∧ ∀ q H', Kp g.S H H' → GrowAt K κ H' g → SizeAt H' q g.rd r → Q (.ref q) H'
def spLength (K : PySem.W.Frag) (κ : Bool) : Sp := fun vs H Q _ => ∃ (g : GI) (r : Nat), vs = [.ref g.a, .int (r : Nat)] ∧ r ≤ 200 ∧ GrowAt K κ H g ∧ ∀ H', Kp g.S H H' → GrowAt K κ H' g → Q (.int ((rnd g.rd.wd r g.st).length : Nat)) H'
section
variable {P : Program} {w : World} {K : PySem.W.Frag} {mg : Str → Option Value} {base : Heap}
theorem sc_gtold : FnScope ["self"] ["self"] (defScope s_Growth_rules_told) := ⟨rfl, rfl, rfl, by decide +kernel, rfl, by decide +kernel, by decide +kernel⟩
theorem has_gtold (T : Tx K mg) (κ : Bool) : Has P w K mg base 1 (mA K "Growth" "rules_told") ["self"] (spRules1 K κ) [] := by
  obtain ⟨fd, F⟩ := T.fd_Growth_rules_told
  refine hasD F sc_gtold (fun vs H Q E h => ?_) (fun _ _ _ _ _ _ us hl => match us, hl with | [_], _ => rfl) (fun cdv A outer s H vs Q E hr h => ?_)
  · obtain ⟨g, rfl, _⟩ := h
    rfl
  · obtain ⟨g, rfl, ⟨_, _, dx, h1⟩, k⟩ := h
    exact ⟨_, (pss_one (ps_ret (pe_fld (pv 0) rfl))), _, rfl, g.a, _, dx, _, _, rfl, h1, T.c_Growth, T.n_Growth_rules, gfs_rules _ _ _ _, k⟩
theorem sc_round : FnScope ["self", "number", "least", "most"] ["self", "number", "least", "most"] (defScope s_Growth_needs_round) := ⟨rfl, rfl, rfl, by decide +kernel, rfl, by decide +kernel, by decide +kernel⟩
theorem has_round (T : Tx K mg) : Has P w K mg base 1 (mA K "Growth" "needs_round") ["self", "number", "least", "most"] spRound [.int 0, .int 200] := by
  obtain ⟨fd, F⟩ := T.fd_Growth_needs_round
  refine ⟨?_, bindD 2 0 F (List.cons_ne_nil _ _) rfl fun T kV doc pm an cdv ct us its h1 h2 => match us, its, h1, h2 with | [_, _], [_, _], _, _ => ⟨_, rfl, rfl⟩, F.kp⟩
  refine okD F sc_round (fun vs H Q E h => ?_) (fun cdv A outer s H vs Q E hr h => ?_)
  · obtain ⟨a, n, lo, hi, rfl, _⟩ := h
    rfl
  · obtain ⟨a, n, lo, hi, rfl, h1, h2, k⟩ := h
    refine ⟨_, (pss_one (ps_if (PW.pt (pw_or (pt_cmpR op_lt (pv 1) (pv 2) (nomark _)) (pw_or1 (pt_cmpR op_gt (pv 1) (pv 3) (nomark _))))) (pss_one (ps_never)) pss_nil)), ?_⟩
    exact ⟨_, rfl, _, rfl, _, _, rfl, rfl, _, rfl, iteN (by omega) ⟨_, rfl, _, rfl, _, _, rfl, rfl, _, rfl, iteN (by omega) k⟩⟩
theorem sc_place : FnScope ["self", "number", "place", "most"] ["self", "number", "place", "most"] (defScope s_Growth_needs_place) := ⟨rfl, rfl, rfl, by decide +kernel, rfl, by decide +kernel, by decide +kernel⟩
theorem has_place (T : Tx K mg) : Has P w K mg base 1 (mA K "Growth" "needs_place") ["self", "number", "place", "most"] spPlace [] := by
  obtain ⟨fd, F⟩ := T.fd_Growth_needs_place
  refine hasD F sc_place (fun vs H Q E h => ?_) (fun _ _ _ _ _ _ us hl => match us, hl with | [_, _, _, _], _ => rfl) (fun cdv A outer s H vs Q E hr h => ?_)
  · obtain ⟨a, n, pl, most, rfl, _⟩ := h
    rfl
  · obtain ⟨a, n, pl, most, rfl, h1, h2, k⟩ := h
    refine ⟨_, (pss_one (ps_if (PW.pt (pw_or (pt_cmpR op_lt (pv 2) pe_int (nomark _)) (pw_or1 (pt_cmpR op_gt (pv 2) (pv 3) (nomark _))))) (pss_one (ps_never)) pss_nil)), ?_⟩
    exact ⟨_, rfl, _, _, rfl, rfl, _, rfl, iteN (by omega) ⟨_, rfl, _, rfl, _, _, rfl, rfl, _, rfl, iteN (by omega) k⟩⟩
theorem take_notin {ls : List Nat} (hN : ls.Nodup) {i c : Nat} (hc : ls[i]? = some c) : ¬ c ∈ ls.take i := fun hm => by
  obtain ⟨j, hj⟩ := List.getElem?_of_mem hm
  have hjl := (List.getElem?_eq_some_iff.mp hj).1
  rw [List.length_take] at hjl
  rw [List.getElem?_take_of_lt (by omega)] at hj
  have := nd_ix hN hj hc
  omega
theorem sc_none : FnScope ["self", "counts", "letter"] ["self"] (defScope s_Growth_none_counted) := ⟨rfl, rfl, rfl, by decide +kernel, rfl, by decide +kernel, by decide +kernel⟩
theorem has_none (T : Tx K mg) (κ : Bool) : Has P w K mg base 2 (mA K "Growth" "none_counted") ["self"] (spNone K κ) [] := by
  obtain ⟨fd, F⟩ := T.fd_Growth_none_counted
  refine hasD F sc_none (fun vs H Q E h => ?_) (fun _ _ _ _ _ _ us hl => match us, hl with | [_], _ => rfl) (fun cdv A outer s H vs Q E hr h => ?_)
  · obtain ⟨g, rfl, _⟩ := h
    rfl
  · obtain ⟨g, rfl, ⟨hR, hst, dx, h1⟩, k⟩ := h
    have nd := sc_none.nd
    have hu := hu_of hr
    obtain ⟨_, ok, dr, kd, f, r1, _⟩ := id hR
    refine ⟨_, (pss_cons (ps_set (i := 1) nd rfl (Or.inl rfl) pe_dnewK)
        (pss_cons (ps_for PassesOwn.never rfl (pi_str (pm0 (pe_fld (pv 0) rfl) T.c_Rules T.m_Rules_letters (has_letters T κ) hr)) (pg_name (i := 2) nd rfl (Or.inl rfl)) (pss_one (ps_dput hu (pv 1) (pv 2) pe_int rfl)))
        (pss_one (ps_ret (pv 1))))), ?_⟩
    intro q hq
    have s1 := Same.new (o := .dK []) hq
    refine ⟨_, rfl, g.a, _, dx, _, _, rfl, s1 _ _ h1, T.c_Growth, T.n_Growth_rules, gfs_rules _ _ _ _, g.ra, dr, _, rfl, s1 _ _ r1, rfs_no _ _ (by decide +kernel), g.p, g.ra, g.rd, rfl, hR.same s1, fun H2 s2 => ⟨_, rfl, ?_⟩⟩
    refine for_it walk_str (fun i σ H' => ∃ v2 : Option V, σ = [some (.ref g.a), some (.ref q), v2] ∧ Same H H' ∧ H' q = some (.dK (kvL (g.rd.ls.take i) fun _ => .int 0))) ⟨none, rfl, s1.trans s2, s2 _ _ upd_same⟩ (fun _ _ _ _ _ => trivial) ?_ ?_
    · rintro i x σ H' H'' hi ⟨v2, rfl, t, hD⟩ ⟨rfl, c, hc, rfl⟩
      rw [tx_at] at hc
      have l6 := ok.six
      refine ⟨_, rfl, _, rfl, q, _, rfl, DPut.k (k := Sum.inr (sg c)) hD ?_, ?_⟩
      · rw [kvL_len, List.length_take]
        exact small6 (by omega)
      · refine ⟨_, rfl, mut_same t hq, ?_⟩
        rw [upd_same, putL _ (take_notin ok.nd hc), take_snoc hc]
        refine congrArg (fun z => some (HO.dK z)) (kvL_congr fun z _ => ?_)
        show (if z = c then V.int 0 else V.int 0) = V.int 0
        rw [ite_self]
    · rintro σ H' ⟨v2, rfl, t, hD⟩
      rw [tx_size, List.take_of_length_le (Nat.le_refl _)] at hD
      exact ⟨_, rfl, k q H' hq t hD⟩
theorem sc_first : FnScope ["self", "table", "letter", "counts"] ["self"] (defScope s_Growth_first_table) := ⟨rfl, rfl, rfl, by decide +kernel, rfl, by decide +kernel, by decide +kernel⟩
theorem has_first (T : Tx K mg) (κ : Bool) : Has P w K mg base 3 (mA K "Growth" "first_table") ["self"] (spFirst K κ) [] := by
  obtain ⟨fd, F⟩ := T.fd_Growth_first_table
  refine hasD F sc_first (fun vs H Q E h => ?_) (fun _ _ _ _ _ _ us hl => match us, hl with | [_], _ => rfl) (fun cdv A outer s H vs Q E hr h => ?_)
  · obtain ⟨g, rfl, _⟩ := h
    rfl
  · obtain ⟨g, rfl, hB, k⟩ := h
    obtain ⟨hR, hst, dx, h1⟩ := id hB
    have nd := sc_first.nd
    have hu := hu_of hr
    obtain ⟨_, ok, dr, kd, f, r1, _⟩ := id hR
    refine ⟨_, (pss_cons (ps_set (i := 1) nd rfl (Or.inl rfl) pe_dnewK)
        (pss_cons (ps_for PassesOwn.never rfl (pi_str (pm0 (pe_fld (pv 0) rfl) T.c_Rules T.m_Rules_letters (has_letters T κ) hr)) (pg_name (i := 2) nd rfl (Or.inl rfl))
        (pss_cons (ps_set (i := 3) nd rfl (Or.inl rfl) (pm0 (pv 0) T.c_Growth T.m_Growth_none_counted (has_none T κ) hr))
        (pss_cons (ps_dput hu (pv 3) (pv 2) pe_int rfl)
        (pss_one (ps_dput hu (pv 1) (pv 2) (pv 3) rfl)))))
        (pss_one (ps_ret (pv 1))))), ?_⟩
    intro q hq
    have s1 := Same.new (o := .dK []) hq
    have l6 := ok.six
    refine ⟨_, rfl, g.a, _, dx, _, _, rfl, s1 _ _ h1, T.c_Growth, T.n_Growth_rules, gfs_rules _ _ _ _, g.ra, dr, _, rfl, s1 _ _ r1, rfs_no _ _ (by decide +kernel), g.p, g.ra, g.rd, rfl, hR.same s1, fun H2 s2 => ⟨_, rfl, ?_⟩⟩
    refine for_it walk_str (fun i σ H' => ∃ (v2 v3 : Option V) (F : Nat → Addr), σ = [some (.ref g.a), some (.ref q), v2, v3] ∧ Same H H' ∧ H' q = some (.dK (kvL (g.rd.ls.take i) fun c => .ref (F c))) ∧ ∀ c ∈ g.rd.ls.take i, CountsAt H' (F c) g.rd.ls 1)
      ⟨none, none, fun _ => 0, rfl, s1.trans s2, s2 _ _ upd_same, fun c hc => by simp at hc⟩ (fun _ _ _ _ _ => trivial) ?_ ?_
    · rintro i x σ H' H'' hi ⟨v2, v3, F, rfl, t, hD, hF⟩ ⟨rfl, c, hc, rfl⟩
      rw [tx_at] at hc
      have hcm := List.mem_of_getElem? hc
      refine ⟨_, rfl, g.a, dx, _, rfl, t _ _ h1, gfs_no _ _ _ _ (by decide +kernel), g, rfl, hB.same t, fun cn H3 hcn s3 hcn3 => ?_⟩
      have sz6 : (kvL g.rd.ls fun _ => V.int 0).length < sizeLine := by rw [kvL_len]; exact small6 l6
      refine ⟨_, rfl, _, rfl, cn, _, rfl, DPut.k (k := Sum.inr (sg c)) hcn3 sz6, ?_⟩
      rw [setL _ hcm]
      have nqc : q ≠ cn := fun e => by rw [e, hcn] at hD; cases hD
      refine ⟨_, rfl, _, rfl, _, rfl, q, _, rfl, DPut.k (k := Sum.inr (sg c)) ((upd_ne nqc).trans (s3 _ _ hD)) ?_, ?_⟩
      · rw [kvL_len, List.length_take]
        exact small6 (by omega)
      · have s5 : Same H'' (upd H3 cn (.dK (kvL g.rd.ls fun x => if x = c then V.int 1 else V.int 0))) := mut_same s3 hcn
        refine ⟨_, _, fun z => if z = c then cn else F z, rfl, mut_same (t.trans s5) hq, ?_, fun z hz => ?_⟩
        · rw [upd_same, putL _ (take_notin ok.nd hc), take_snoc hc]
          refine congrArg (fun z => some (HO.dK z)) (kvL_congr fun z _ => ?_)
          show (if z = c then V.ref cn else V.ref (F z)) = V.ref (if z = c then cn else F z)
          by_cases e : z = c
          · rw [if_pos e, if_pos e]
          · rw [if_neg e, if_neg e]
        · show CountsAt _ (if z = c then cn else F z) _ _
          by_cases e : z = c
          · rw [if_pos e]
            refine ⟨fun x => if x = c then 1 else 0, ?_, ?_⟩
            · rw [upd_ne nqc.symm, upd_same]
              refine congrArg (fun z => some (HO.dK z)) (kvL_congr fun z _ => ?_)
              show (if z = c then V.int 1 else V.int 0) = V.int (if z = c then 1 else 0)
              by_cases e : z = c
              · rw [if_pos e, if_pos e]
              · rw [if_neg e, if_neg e]
            · rw [sum_setL ok.nd (fun _ => 0) hcm, sum_zero]
              rfl
          · rw [if_neg e]
            rw [take_snoc hc] at hz
            have hz' : z ∈ g.rd.ls.take i := by
              rcases List.mem_append.mp hz with h | h
              · exact h
              · exact absurd (List.mem_singleton.mp h) e
            obtain ⟨gz, e1, e2⟩ := hF z hz'
            have n1 : F z ≠ q := fun e => by
              rw [e, hD] at e1
              exact refs_ne_ints ok.ne (Option.some.inj e1)
            exact ⟨gz, by rw [upd_ne n1]; exact s5 _ _ e1, e2⟩
    · rintro σ H' ⟨v2, v3, F, rfl, t, hD, hF⟩
      rw [tx_size, List.take_of_length_le (Nat.le_refl _)] at hD hF
      exact ⟨_, rfl, k q H' hq t ⟨F, hD, fun c hc => hF c hc⟩⟩
end
end SG

/-! ## SgGrow2 -/
set_option autoImplicit true
set_option Elab.async false
set_option maxRecDepth 100000
set_option maxHeartbeats 4000000
namespace SG
open PySem PySem.Spec PyProof.Rows L2
theorem sum_take_snoc {l : List Nat} {i c : Nat} (f : Nat → Nat) (h : l[i]? = some c) : ((l.take (i + 1)).map f).sum = ((l.take i).map f).sum + f c := by
  rw [take_snoc h, List.map_append, List.sum_append]; simp
theorem sum_take_snocI {l : List Nat} {i c : Nat} (f : Nat → Int) (h : l[i]? = some c) : ((l.take (i + 1)).map f).sum = ((l.take i).map f).sum + f c := by
  rw [take_snoc h, List.map_append, List.sum_append]; simp
section
variable {P : Program} {w : World} {K : PySem.W.Frag} {mg : Str → Option Value} {base : Heap}
theorem sc_next : FnScope ["self", "ahead", "table", "letter", "counts", "younger", "key", "many"] ["self", "ahead"] (defScope s_Growth_next_table) := ⟨rfl, rfl, rfl, by decide +kernel, rfl, by decide +kernel, by decide +kernel⟩
theorem has_next (T : Tx K mg) (κ : Bool) : Has P w K mg base 3 (mA K "Growth" "next_table") ["self", "ahead"] (spNext K κ) [] := by
  obtain ⟨fd, F⟩ := T.fd_Growth_next_table
  refine hasD F sc_next (fun vs H Q E h => ?_) (fun _ _ _ _ _ _ us hl => match us, hl with | [_, _], _ => rfl) (fun cdv A outer s H vs Q E hr h => ?_)
  · obtain ⟨g, ta, r, rfl, _⟩ := h
    rfl
  · obtain ⟨g, ta, r, rfl, hB, hTa, k⟩ := h
    obtain ⟨hR, hst, dx, h1⟩ := id hB
    have nd := sc_next.nd
    have hu := hu_of hr
    obtain ⟨_, ok, dr, kd, f, r1, _⟩ := id hR
    refine ⟨_, (pss_cons (ps_set (i := 2) nd rfl (Or.inl rfl) pe_dnewK)
        (pss_cons (ps_for PassesOwn.never rfl (pi_str (pm0 (pe_fld (pv 0) rfl) T.c_Rules T.m_Rules_letters (has_letters T κ) hr)) (pg_name (i := 3) nd rfl (Or.inl rfl))
        (pss_cons (ps_set (i := 4) nd rfl (Or.inl rfl) (pm0 (pv 0) T.c_Growth T.m_Growth_none_counted (has_none T κ) hr))
        (pss_cons (ps_for PassesOwn.never rfl (pi_str (pm (pe_fld (pv 0) rfl) T.c_Rules T.m_Rules_word (has_word T κ) hr (pa_cons (pv 3) pa_nil))) (pg_name (i := 5) nd rfl (Or.inl rfl))
            (pss_one (ps_lock (ps_for PassesOwn.never rfl (pi_items (pe_dget hu (pv 1) (pv 5) (fun _ _ => rfl))) (pg_tup rfl (pgs_cons (pg_name (i := 6) nd rfl (Or.inl rfl)) (pgs_cons (pg_name (i := 7) nd rfl (Or.inl rfl)) pgs_nil)))
              (pss_one (ps_dput hu (pv 4) (pv 6) (pe_op op_add (pe_dget hu (pv 4) (pv 6) (fun _ _ => rfl)) (pv 7)) rfl))))))
        (pss_one (ps_dput hu (pv 2) (pv 3) (pv 4) rfl)))))
        (pss_one (ps_ret (pv 2))))), ?_⟩
    obtain ⟨fa, hta, hfa⟩ := hTa
    have l6 := ok.six
    intro q hq
    have s1 := Same.new (o := .dK []) hq
    refine ⟨_, rfl, g.a, _, dx, _, _, rfl, s1 _ _ h1, T.c_Growth, T.n_Growth_rules, gfs_rules _ _ _ _, g.ra, dr, _, rfl, s1 _ _ r1, rfs_no _ _ (by decide +kernel), g.p, g.ra, g.rd, rfl, hR.same s1, fun H2 s2 => ⟨_, rfl, ?_⟩⟩
    refine for_it walk_str (fun i σ H' => ∃ (v3 v4 v5 v6 v7 : Option V) (F : Nat → Addr), σ = [some (.ref g.a), some (.ref ta), some (.ref q), v3, v4, v5, v6, v7] ∧ Same H H' ∧ H' q = some (.dK (kvL (g.rd.ls.take i) fun c => .ref (F c))) ∧ ∀ c ∈ g.rd.ls.take i, CountsAt H' (F c) g.rd.ls (sz g.rd.wd (r + 1) c))
      ⟨none, none, none, none, none, fun _ => 0, rfl, s1.trans s2, s2 _ _ upd_same, fun c hc => by simp at hc⟩ (fun _ _ _ _ _ => trivial) ?_ ?_
    · rintro i x σ H' H'' hi ⟨v3, v4, v5, v6, v7, F, rfl, t, hD, hF⟩ ⟨rfl, c, hc, rfl⟩
      rw [tx_at] at hc
      have hcm := List.mem_of_getElem? hc
      refine ⟨_, rfl, g.a, dx, _, rfl, t _ _ h1, gfs_no _ _ _ _ (by decide +kernel), g, rfl, hB.same t, fun cn H3 hcn s3 hcn3 => ?_⟩
      have u3 := t.trans s3
      have nqc : q ≠ cn := fun e => by rw [e, hcn] at hD; cases hD
      have hcnH : H cn = none := t.free hcn
      refine ⟨_, rfl, g.a, _, dx, _, _, rfl, u3 _ _ h1, T.c_Growth, T.n_Growth_rules, gfs_rules _ _ _ _, g.ra, dr, _, rfl, u3 _ _ r1, rfs_no _ _ (by decide +kernel), _, rfl, g.p, g.ra, g.rd, c, rfl, hR.same u3, hcm, _, rfl, ?_⟩
      -- the letters of the word
      refine for_it walk_str (fun j σ H4 => ∃ (v5 v6 v7 : Option V) (h : Nat → Int), σ = [some (.ref g.a), some (.ref ta), some (.ref q), some (.str (sg c)), some (.ref cn), v5, v6, v7] ∧ (∀ b o, H3 b = some o → b ≠ cn → H4 b = some o) ∧
          H4 cn = some (.dK (kvL g.rd.ls fun x => .int (h x))) ∧ (g.rd.ls.map h).sum = ((((g.rd.wd c).take j).map (sz g.rd.wd r)).sum : Nat))
        ⟨v5, v6, v7, fun _ => 0, rfl, fun b o e _ => e, hcn3, sum_zero _⟩ (fun _ _ _ _ _ => trivial) ?_ ?_
      · rintro j x σ H4 H4' hj ⟨v5, v6, v7, h, rfl, k4, hcn4, hsum⟩ ⟨rfl, y, hy, rfl⟩
        rw [tx_at] at hy
        have hym := ok.win c hcm y (List.mem_of_getElem? hy)
        obtain ⟨gy, hgy, hgs⟩ := hfa y hym
        have nyc : fa y ≠ cn := ne_of_none hgy hcnH
        have ntc : ta ≠ cn := ne_of_none hta hcnH
        have hd4 : H4' (fa y) = some (.dK (kvL g.rd.ls fun c => .int (gy c))) := k4 _ _ (u3 _ _ hgy) nyc
        have ht4 : H4' ta = some (.dK (kvL g.rd.ls fun c => .ref (fa c))) := k4 _ _ (u3 _ _ hta) ntc
        have nty : ta ≠ fa y := ne_of ht4 hd4 (refs_ne_ints ok.ne)
        refine ⟨fa y, _, hd4, trivial, fun od => ?_⟩
        refine ⟨_, rfl, _, rfl, ta, .ref (fa y), rfl, ?_, fa y, od, _, rfl, upd_same, ?_⟩
        · rw [← valL_in (ls := g.rd.ls) (fun c => V.ref (fa c)) hym]
          exact DGet.k (k := Sum.inr (sg y)) ((upd_ne nty).trans ht4)
        refine for_it walk_items (fun i5 σ H5 => ∃ (v6 v7 : Option V) (h' : Nat → Int), σ = [some (.ref g.a), some (.ref ta), some (.ref q), some (.str (sg c)), some (.ref cn), some (.str (sg y)), v6, v7] ∧
            (∀ b o, (upd H4' (fa y) (.frz od (.dK (kvL g.rd.ls fun c => .int (gy c))))) b = some o → b ≠ cn → H5 b = some o) ∧ H5 cn = some (.dK (kvL g.rd.ls fun x => .int (h' x))) ∧ (g.rd.ls.map h').sum = (g.rd.ls.map h).sum + ((g.rd.ls.take i5).map gy).sum)
          ⟨v6, v7, h, rfl, fun b o e _ => e, (upd_ne nyc.symm).trans hcn4, by simp⟩ (fun _ _ H5 _ ⟨_, _, _, _, k5, _, _⟩ => k5 _ _ upd_same nyc) ?_ ?_
        · rintro i5 x5 σ H5 H5' hi5 ⟨v6, v7, h', rfl, k5, hcn5, hs5⟩ ⟨Tq, x1, y1, rfl, hT, rfl, e1, e2⟩
          rw [kvL_len] at hi5
          have hk : g.rd.ls[i5]? = some g.rd.ls[i5] := List.getElem?_eq_getElem hi5
          have hkm := List.mem_of_getElem? hk
          have ee : (kvL g.rd.ls fun c => V.int (gy c))[i5]? = some ((Sum.inr (sg g.rd.ls[i5]) : Key), V.int (gy g.rd.ls[i5])) := by
            unfold kvL
            rw [List.getElem?_map, hk]
            rfl
          have e1' : x1 = .str (sg g.rd.ls[i5]) := by
            change (((kvL g.rd.ls fun c => V.int (gy c))[i5]?).map fun kv => kV kv.1) = some x1 at e1
            rw [ee] at e1
            exact (Option.some.inj e1).symm
          have e2' : y1 = .int (gy g.rd.ls[i5]) := by
            change (((kvL g.rd.ls fun c => V.int (gy c))[i5]?).map Prod.snd) = some y1 at e2
            rw [ee] at e2
            exact (Option.some.inj e2).symm
          subst e1' e2'
          have sT := Same.new (o := .tup [V.str (sg g.rd.ls[i5]), V.int (gy g.rd.ls[i5])]) hT
          refine ⟨Tq, _, rfl, SqT.of upd_same, rfl, _, _, rfl, _, _, rfl, rfl, ?_⟩
          have hcn6 := sT _ _ hcn5
          refine ⟨_, rfl, _, rfl, cn, .int (h' g.rd.ls[i5]), rfl, ?_, _, rfl, _, _, rfl, rfl, _, rfl, _, rfl, cn, _, rfl, DPut.k (k := Sum.inr (sg g.rd.ls[i5])) hcn6 (by rw [kvL_len]; exact small6 l6), ?_⟩
          · rw [← valL_in (ls := g.rd.ls) (fun c => V.int (h' c)) hkm]
            exact DGet.k (k := Sum.inr (sg g.rd.ls[i5])) hcn6
          · refine ⟨_, _, fun z => if z = g.rd.ls[i5] then h' g.rd.ls[i5] + gy g.rd.ls[i5] else h' z, rfl, fun b o e hb => ?_, ?_, ?_⟩
            · rw [upd_ne hb]
              exact sT _ _ (k5 b o e hb)
            · rw [upd_same, setL _ hkm]
              refine congrArg (fun z => some (HO.dK z)) (kvL_congr fun z _ => ?_)
              show (if z = g.rd.ls[i5] then V.int _ else V.int (h' z)) = V.int (if z = g.rd.ls[i5] then _ else h' z)
              by_cases e : z = g.rd.ls[i5]
              · rw [if_pos e, if_pos e]
              · rw [if_neg e, if_neg e]
            · rw [sum_setL ok.nd h' hkm, hs5, sum_take_snocI gy hk]
              omega
        · rintro σ H5 ⟨v6, v7, h', rfl, k5, hcn5, hs5⟩
          rw [kvL_len, List.take_of_length_le (Nat.le_refl _)] at hs5
          refine ⟨k5 _ _ upd_same nyc, _, _, _, h', rfl, fun b o e hb => ?_, (upd_ne nyc.symm).trans hcn5, ?_⟩
          · by_cases hby : b = fa y
            · subst hby
              rw [upd_same]
              have := k4 _ _ e hb
              rw [hd4] at this
              exact this
            · rw [upd_ne hby]
              exact k5 b o ((upd_ne hby).trans (k4 b o e hb)) hb
          · rw [hs5, hsum, hgs, sum_take_snoc _ hy]
            omega
      · rintro σ H4 ⟨v5, v6, v7, h, rfl, k4, hcn4, hsum⟩
        rw [tx_size, List.take_of_length_le (Nat.le_refl _), ← sz_succ] at hsum
        refine ⟨_, rfl, _, rfl, _, rfl, q, _, rfl, DPut.k (k := Sum.inr (sg c)) (k4 _ _ (s3 _ _ hD) nqc) ?_, ?_⟩
        · rw [kvL_len, List.length_take]
          exact small6 (by omega)
        · have u4 : Same H H4 := fun b o e => k4 b o (u3 b o e) (ne_of_none e hcnH)
          have nqcn : cn ≠ q := nqc.symm
          refine ⟨_, _, _, _, _, fun z => if z = c then cn else F z, rfl, mut_same u4 hq, ?_, fun z hz => ?_⟩
          · rw [upd_same, putL _ (take_notin ok.nd hc), take_snoc hc]
            refine congrArg (fun z => some (HO.dK z)) (kvL_congr fun z _ => ?_)
            show (if z = c then V.ref cn else V.ref (F z)) = V.ref (if z = c then cn else F z)
            by_cases e : z = c
            · rw [if_pos e, if_pos e]
            · rw [if_neg e, if_neg e]
          · show CountsAt _ (if z = c then cn else F z) _ _
            by_cases e : z = c
            · rw [if_pos e, e]
              exact ⟨h, (upd_ne nqcn).trans hcn4, hsum⟩
            · rw [if_neg e]
              rw [take_snoc hc] at hz
              have hz' : z ∈ g.rd.ls.take i := by
                rcases List.mem_append.mp hz with h | h
                · exact h
                · exact absurd (List.mem_singleton.mp h) e
              obtain ⟨gz, e1, e2⟩ := hF z hz'
              have n1 : F z ≠ q := fun e => by
                rw [e, hD] at e1
                exact refs_ne_ints ok.ne (Option.some.inj e1)
              have n2 : F z ≠ cn := ne_of_none e1 hcn
              exact ⟨gz, (upd_ne n1).trans (k4 _ _ (s3 _ _ e1) n2), e2⟩
    · rintro σ H' ⟨v3, v4, v5, v6, v7, F, rfl, t, hD, hF⟩
      rw [tx_size, List.take_of_length_le (Nat.le_refl _)] at hD hF
      exact ⟨_, rfl, k q H' hq t ⟨F, hD, fun c hc => hF c hc⟩⟩
end
end SG
namespace SG
open PySem PySem.Spec PyProof.Rows L2
theorem GrowN.kpx {K : PySem.W.Frag} {κ : Bool} {H H' : Hp} {g : GI} {ss ts : List Addr} (h : GrowN K κ H g ss ts) (k : Kp g.S H H') : GrowB K κ H' g ∧ (∀ (r : Nat) q, ss[r]? = some q → SizeAt H' q g.rd r) ∧ (∀ (r : Nat) q, ts[r]? = some q → TabAt H' q g.rd r) :=
  ⟨h.b.kp k h.lists, fun r q x => (h.sz r q x).kp k h.lists, fun r q x => (h.tb r q x).kp k h.lists⟩
theorem append_refs {as : List Addr} {q : Addr} : as.map V.ref ++ [V.ref q] = (as ++ [q]).map V.ref := by rw [List.map_append]; rfl
theorem snoc_at {α : Type} {l : List α} {x y : α} {r : Nat} (h : (l ++ [x])[r]? = some y) : l[r]? = some y ∨ (r = l.length ∧ y = x) := by
  by_cases e : r < l.length
  · rw [List.getElem?_append_left e] at h
    exact .inl h
  · have hl := (List.getElem?_eq_some_iff.mp h).1
    rw [List.length_append] at hl
    have er : r = l.length := by
      have : l.length + [x].length = l.length + 1 := rfl
      omega
    subst er
    rw [List.getElem?_append_right (Nat.le_refl _), Nat.sub_self] at h
    exact .inr ⟨rfl, (Option.some.inj h).symm⟩
section
variable {P : Program} {w : World} {K : PySem.W.Frag} {mg : Str → Option Value} {base : Heap}
theorem sc_grown : FnScope ["self", "rounds", "table", "sizes", "letter", "counts"] ["self", "rounds"] (defScope s_Growth_grown) := ⟨rfl, rfl, rfl, by decide +kernel, rfl, by decide +kernel, by decide +kernel⟩
theorem has_grown (T : Tx K mg) (κ : Bool) : Has P w K mg base 4 (mA K "Growth" "grown") ["self", "rounds"] (spGrown K κ) [] := by
  obtain ⟨fd, F⟩ := T.fd_Growth_grown
  refine hasD F sc_grown (fun vs H Q E h => ?_) (fun _ _ _ _ _ _ us hl => match us, hl with | [_, _], _ => rfl) (fun cdv A outer s H vs Q E hr h => ?_)
  · obtain ⟨g, r, rfl, _⟩ := h
    rfl
  · obtain ⟨g, r, rfl, hr200, ⟨ss0, ts0, hG0⟩, k⟩ := h
    have nd := sc_grown.nd
    have hu := hu_of hr
    refine ⟨_, (pss_cons (ps_while PassesOwn.never (pt_cmpR op_le (pe_callB call_len_seq (by rfl) T.f_len PySem.boot_len (pa_cons (pe_fld (pv 0) rfl) pa_nil)) (pv 1) (nomark _))
        (pss_cons (ps_if (pt_cmpR op_eq (pe_callB call_len_seq (by rfl) T.f_len PySem.boot_len (pa_cons (pe_fld (pv 0) rfl) pa_nil)) pe_int (nomark _)) (pss_one (ps_set (i := 2) nd rfl (Or.inl rfl) (pm0 (pv 0) T.c_Growth T.m_Growth_first_table (has_first T κ) hr)))
            (pss_one (ps_set (i := 2) nd rfl (Or.inl rfl) (pm (pv 0) T.c_Growth T.m_Growth_next_table (has_next T κ) hr (pa_cons (pe_ix ix_list (pe_fld (pv 0) rfl) (pe_un un_neg pe_int) (fun _ _ => rfl)) pa_nil)))))
        (pss_cons (ps_set (i := 3) nd rfl (Or.inl rfl) pe_dnewK)
        (pss_cons (ps_lock (ps_for PassesOwn.never rfl (pi_items (pv 2)) (pg_tup rfl (pgs_cons (pg_name (i := 4) nd rfl (Or.inl rfl)) (pgs_cons (pg_name (i := 5) nd rfl (Or.inl rfl)) pgs_nil))) (pss_one (ps_dput hu (pv 3) (pv 4) (pe_sumVals rfl (by rfl) T.f_sum (pv 5)) rfl))))
        (pss_cons (ps_expr (pe_bm PySem.F.plainAttrs_list PySem.F.slot_list_append PySem.F.type_list_append mt_append (pe_fld (pv 0) rfl) (pa_cons (pv 2) pa_nil)))
        (pss_one (ps_expr (pe_bm PySem.F.plainAttrs_list PySem.F.slot_list_append PySem.F.type_list_append mt_append (pe_fld (pv 0) rfl) (pa_cons (pv 3) pa_nil)))))))))
        (pss_one (ps_ret (pe_ix ix_list (pe_fld (pv 0) rfl) (pv 1) (fun _ _ => rfl))))), ?_⟩
    refine ⟨fun m σ H' => ∃ (v2 v3 v4 v5 : Option V) (ss ts : List Addr), σ = [some (.ref g.a), some (.int (r : Nat)), v2, v3, v4, v5] ∧ Kp g.S H H' ∧ GrowN K κ H' g ss ts ∧ m = r + 1 - ts.length,
      ⟨_, none, none, none, none, ss0, ts0, rfl, Kp.refl _ _, hG0, rfl⟩, ?_⟩
    rintro m σ H' ⟨v2, v3, v4, v5, ss, ts, rfl, k1, hG, rfl⟩
    obtain ⟨hR, hst, dx, h1⟩ := id hG.b
    obtain ⟨_, ok, _⟩ := id hR
    have l6 := ok.six
    have lds := hG.len
    -- the test
    refine ⟨_, rfl, g.a, _, dx, _, _, rfl, h1, T.c_Growth, T.n_Growth_tables, gfs_tables _ _ _ _, g.tl, _, rfl, .inl (SqL.of hG.ht), _, rfl, _, _, rfl, rfl, _, rfl, ?_⟩
    rw [List.length_map]
    refine ite2d (fun hc => ?_) (fun hc => ?_)
    · have hc' : ts.length ≤ r := by omega
      refine ⟨fun σ' H'' => ∃ (v2 v3 v4 v5 : Option V) (ss' ts' : List Addr), σ' = [some (.ref g.a), some (.int (r : Nat)), v2, v3, v4, v5] ∧ Kp g.S H H'' ∧ GrowN K κ H'' g ss' ts' ∧ ts'.length = ts.length + 1,
        fun σ' H'' ⟨v2, v3, v4, v5, ss', ts', e1, e2, e3, e4⟩ => ⟨r + 1 - ts'.length, by omega, v2, v3, v4, v5, ss', ts', e1, e2, e3, rfl⟩, ?_⟩
      -- the table's way on
      have goOn : ∀ (tb : Addr) (H1 : Hp), H' tb = none → Same H' H1 → TabAt H1 tb g.rd ts.length →
          (tSeq (tAsg tDNewK (gName 3)) (tSeq (tLock (tFor (iItems (tVar 2)) (gTup K 2 (gCons (gName 4) (gCons (gName 5) gNil))) (sDPut (tVar 3) (tVar 4) (tSumVals (tVar 5)))))
            (tSeq (tDrop (tBM K "list" rAppend (tFld K (tVar 0) "tables") (tCons (tVar 2) tNil))) (tDrop (tBM K "list" rAppend (tFld K (tVar 0) "sizes") (tCons (tVar 3) tNil))))))
          { nx := fun σ' H'' => ∃ (v2 v3 v4 v5 : Option V) (ss' ts' : List Addr), σ' = [some (.ref g.a), some (.int (r : Nat)), v2, v3, v4, v5] ∧ Kp g.S H H'' ∧ GrowN K κ H'' g ss' ts' ∧ ts'.length = ts.length + 1, rt := Q, bk := fun _ _ => False, ct := fun _ _ => False }
          [some (.ref g.a), some (.int (r : Nat)), some (.ref tb), v3, v4, v5] H1 := by
        intro tb H1 htb s hTab
        obtain ⟨f, hf1, hf2⟩ := id hTab
        have h1' := s _ _ h1
        have hs1 := s _ _ hG.hs
        have ht1 := s _ _ hG.ht
        intro sz hsz
        have ntz : tb ≠ sz := ne_of_none hf1 hsz
        refine ⟨tb, _, (upd_ne ntz).trans hf1, trivial, fun od => ?_⟩
        refine ⟨_, rfl, tb, od, _, rfl, upd_same, ?_⟩
        refine for_it walk_items (fun i σ H3 => ∃ (v4 v5 : Option V), σ = [some (.ref g.a), some (.int (r : Nat)), some (.ref tb), some (.ref sz), v4, v5] ∧
            (∀ b o, (upd (upd H1 sz (.dK [])) tb (.frz od (.dK (kvL g.rd.ls fun c => .ref (f c))))) b = some o → b ≠ sz → H3 b = some o) ∧ H3 sz = some (.dK (kvL (g.rd.ls.take i) fun c => .int (SG.sz g.rd.wd ts.length c : Nat))))
          ⟨v4, v5, rfl, fun b o e _ => e, (upd_ne ntz.symm).trans upd_same⟩ (fun _ _ H3 _ ⟨_, _, _, k3, _⟩ => k3 _ _ upd_same ntz) ?_ ?_
        · rintro i x σ H3 H3' hi ⟨v4, v5, rfl, k3, hz3⟩ ⟨Tq, x1, y1, rfl, hT, rfl, e1, e2⟩
          rw [kvL_len] at hi
          have hk : g.rd.ls[i]? = some g.rd.ls[i] := List.getElem?_eq_getElem hi
          have hkm := List.mem_of_getElem? hk
          have ee : (kvL g.rd.ls fun c => V.ref (f c))[i]? = some ((Sum.inr (sg g.rd.ls[i]) : Key), V.ref (f g.rd.ls[i])) := by
            unfold kvL
            rw [List.getElem?_map, hk]
            rfl
          have e1' : x1 = .str (sg g.rd.ls[i]) := by
            change (((kvL g.rd.ls fun c => V.ref (f c))[i]?).map fun kv => kV kv.1) = some x1 at e1
            rw [ee] at e1
            exact (Option.some.inj e1).symm
          have e2' : y1 = .ref (f g.rd.ls[i]) := by
            change (((kvL g.rd.ls fun c => V.ref (f c))[i]?).map Prod.snd) = some y1 at e2
            rw [ee] at e2
            exact (Option.some.inj e2).symm
          subst e1' e2'
          have sT := Same.new (o := .tup [V.str (sg g.rd.ls[i]), V.ref (f g.rd.ls[i])]) hT
          obtain ⟨gc, hgc, hgs⟩ := hf2 _ hkm
          have nfz : f g.rd.ls[i] ≠ sz := ne_of_none hgc hsz
          have nft : f g.rd.ls[i] ≠ tb := (ne_of hf1 hgc (refs_ne_ints ok.ne)).symm
          refine ⟨Tq, _, rfl, SqT.of upd_same, rfl, _, _, rfl, _, _, rfl, rfl, ?_⟩
          have hc6 := sT _ _ (k3 _ _ ((upd_ne nft).trans ((upd_ne nfz).trans hgc)) nfz)
          refine ⟨_, rfl, f g.rd.ls[i], _, g.rd.ls.map gc, rfl, hc6, ?_, _, rfl, _, rfl, sz, _, rfl, DPut.k (k := Sum.inr (sg g.rd.ls[i])) (sT _ _ hz3) ?_, ?_⟩
          · unfold kvL
            rw [List.map_map, List.map_map]
            rfl
          · rw [kvL_len, List.length_take]
            exact small6 (by omega)
          · refine ⟨_, _, rfl, fun b o e hb => (upd_ne hb).trans (sT _ _ (k3 b o e hb)), ?_⟩
            rw [upd_same, putL _ (take_notin ok.nd hk), take_snoc hk, hgs]
            refine congrArg (fun z => some (HO.dK z)) (kvL_congr fun z _ => ?_)
            show (if z = g.rd.ls[i] then V.int _ else V.int _) = V.int _
            by_cases e : z = g.rd.ls[i]
            · rw [if_pos e, e]
            · rw [if_neg e]
        · rintro σ H3 ⟨v4, v5, rfl, k3, hz3⟩
          rw [kvL_len, List.take_of_length_le (Nat.le_refl _)] at hz3
          refine ⟨k3 _ _ upd_same ntz, ?_⟩
          have s4 : Same H1 (upd H3 tb (.dK (kvL g.rd.ls fun c => .ref (f c)))) := fun b o e => by
            have nbz : b ≠ sz := ne_of_none e hsz
            by_cases hb : b = tb
            · subst hb
              rw [upd_same]
              exact hf1.symm.trans e
            · rw [upd_ne hb]
              exact k3 b o ((upd_ne hb).trans ((upd_ne nbz).trans e)) nbz
          have hz4 : (upd H3 tb (.dK (kvL g.rd.ls fun c => .ref (f c)))) sz = some (.dK (kvL g.rd.ls fun c => .int (SG.sz g.rd.wd ts.length c : Nat))) := (upd_ne ntz.symm).trans hz3
          have nlt : ts.length < sizeLine := small_line (by have := hG.le; omega)
          have nls : ss.length < sizeLine := by rw [lds]; exact nlt
          have nst := hG.ne
          refine ⟨_, rfl, g.a, _, dx, _, _, rfl, s4 _ _ h1', T.c_Growth, T.n_Growth_tables, gfs_tables _ _ _ _, .inl ⟨rfl, _, SqL.of (s4 _ _ ht1)⟩, _, rfl, g.tl, _, _, rfl, rfl, s4 _ _ ht1, by rw [List.length_map]; exact nlt, ?_⟩
          have na : g.a ≠ g.tl := ne_of h1' ht1 (by intro z; cases z)
          refine ⟨_, rfl, g.a, _, dx, _, _, rfl, (upd_ne na).trans (s4 _ _ h1'), T.c_Growth, T.n_Growth_sizes, gfs_sizes _ _ _ _, .inl ⟨rfl, _, SqL.of ((upd_ne nst).trans (s4 _ _ hs1))⟩, _, rfl, g.sl, _, _, rfl, rfl, (upd_ne nst).trans (s4 _ _ hs1), by rw [List.length_map]; exact nls, ?_⟩
          rw [append_refs, append_refs]
          have L4 : Lists g.S (upd H3 tb (.dK (kvL g.rd.ls fun c => .ref (f c)))) := fun b hb => by
            rcases List.mem_cons.mp hb with e | hb
            · rw [e]; exact ⟨ss, s4 _ _ hs1⟩
            · rw [List.mem_singleton.mp hb]; exact ⟨ts, s4 _ _ ht1⟩
          have k46 : Kp g.S (upd H3 tb (.dK (kvL g.rd.ls fun c => .ref (f c)))) (upd (upd (upd H3 tb (.dK (kvL g.rd.ls fun c => .ref (f c)))) g.tl (.lst ((ts ++ [tb]).map V.ref))) g.sl (.lst ((ss ++ [sz]).map V.ref))) := fun b o e hb => by
            have n1 : b ≠ g.sl := fun q => hb (by rw [q]; exact List.mem_cons_self)
            have n2 : b ≠ g.tl := fun q => hb (by rw [q]; exact List.mem_cons_of_mem _ List.mem_cons_self)
            rw [upd_ne n1, upd_ne n2]
            exact e
          have k6 := (Same.kp (S := g.S) (s.trans s4)).trans k46
          obtain ⟨b1, b2, b3⟩ := hG.kpx k6
          refine ⟨_, _, _, _, ss ++ [sz], ts ++ [tb], rfl, k1.trans k6, ⟨b1, nst, upd_same, (upd_ne nst.symm).trans upd_same, by rw [List.length_append, List.length_append, lds]; rfl, by rw [List.length_append]; show ts.length + 1 ≤ 201; omega, fun r' q h => ?_, fun r' q h => ?_⟩, by rw [List.length_append]; rfl⟩
          · rcases snoc_at h with h | ⟨e, h⟩
            · exact b2 r' q h
            · rw [h, e, lds]
              exact SizeAt.kp k46 L4 hz4
          · rcases snoc_at h with h | ⟨e, h⟩
            · exact b3 r' q h
            · rw [h, e]
              exact (hTab.same s4).kp k46 L4
      refine ⟨_, rfl, g.a, _, dx, _, _, rfl, h1, T.c_Growth, T.n_Growth_tables, gfs_tables _ _ _ _, g.tl, _, rfl, .inl (SqL.of hG.ht), rfl, _, rfl, ?_⟩
      rw [List.length_map]
      refine ite2d (fun he => ?_) (fun he => ?_)
      · have he' : ts.length = 0 := by
          injection he with he
          omega
        refine ⟨_, rfl, g.a, dx, _, rfl, h1, gfs_no _ _ _ _ (by decide +kernel), g, rfl, hG.b, fun tb H1 hn s hT => ?_⟩
        exact goOn tb H1 hn s (by rw [he']; exact hT)
      · have hne : ts ≠ [] := fun e => he (by rw [e]; rfl)
        obtain ⟨ts', tz, ets⟩ := last_of hne
        have hl : ts.length = ts'.length + 1 := by rw [ets, List.length_append]; rfl
        have hlast : TabAt H' tz g.rd ts'.length := hG.tb _ _ (by rw [ets, List.getElem?_append_right (Nat.le_refl _), Nat.sub_self]; rfl)
        have hat : atI (ts.map V.ref) (-1) = some (V.ref tz) := by
          rw [ets, List.map_append]
          exact atI_last _ _
        refine ⟨_, rfl, g.a, dx, _, rfl, h1, gfs_no _ _ _ _ (by decide +kernel), _, rfl, g.a, _, dx, _, _, rfl, h1, T.c_Growth, T.n_Growth_tables, gfs_tables _ _ _ _, _, rfl, g.tl, _, _, _, rfl, rfl, SqL.of hG.ht, hat, ?_⟩
        exact ⟨g, tz, ts'.length, rfl, hG.b, hlast, fun tb H1 hn s hT => goOn tb H1 hn s (by rw [hl]; exact hT)⟩
    · have hr : r < ts.length := by omega
      refine ⟨_, rfl, g.a, _, dx, _, _, rfl, h1, T.c_Growth, T.n_Growth_tables, gfs_tables _ _ _ _, _, rfl, g.tl, _, _, .ref ts[r], rfl, rfl, SqL.of hG.ht, at_of (j := r) rfl (by rw [List.getElem?_map, List.getElem?_eq_getElem hr]; rfl), ?_⟩
      exact k ts[r] H' ss ts k1 hG hr (List.getElem?_eq_getElem hr)
theorem sc_sizes : FnScope ["self", "rounds"] ["self", "rounds"] (defScope s_Growth_sizes_at) := ⟨rfl, rfl, rfl, by decide +kernel, rfl, by decide +kernel, by decide +kernel⟩
theorem has_sizes (T : Tx K mg) (κ : Bool) : Has P w K mg base 5 (mA K "Growth" "sizes_at") ["self", "rounds"] (spSizes K κ) [] := by
  obtain ⟨fd, F⟩ := T.fd_Growth_sizes_at
  refine hasD F sc_sizes (fun vs H Q E h => ?_) (fun _ _ _ _ _ _ us hl => match us, hl with | [_, _], _ => rfl) (fun cdv A outer s H vs Q E hr h => ?_)
  · obtain ⟨g, r, rfl, _⟩ := h
    rfl
  · obtain ⟨g, r, rfl, hr200, hG, k⟩ := h
    obtain ⟨ss0, ts0, hG0⟩ := id hG
    obtain ⟨_, _, dx0, h0⟩ := hG0.b
    refine ⟨_, (pss_cons (ps_expr (pm (pv 0) T.c_Growth T.m_Growth_grown (has_grown T κ) hr (pa_cons (pv 1) pa_nil)))
        (pss_one (ps_ret (pe_ix ix_list (pe_fld (pv 0) rfl) (pv 1) (fun _ _ => rfl))))), ?_⟩
    refine ⟨_, rfl, g.a, dx0, _, rfl, h0, gfs_no _ _ _ _ (by decide +kernel), _, rfl, g, r, rfl, hr200, hG, fun q H' ss ts k1 hG' hr' _ => ?_⟩
    obtain ⟨_, _, dx, h1⟩ := id hG'.b
    have hr2 : r < ss.length := by rw [hG'.len]; exact hr'
    refine ⟨_, rfl, g.a, _, dx, _, _, rfl, h1, T.c_Growth, T.n_Growth_sizes, gfs_sizes _ _ _ _, _, rfl, g.sl, _, _, .ref ss[r], rfl, rfl, SqL.of hG'.hs, at_of (j := r) rfl (by rw [List.getElem?_map, List.getElem?_eq_getElem hr2]; rfl), ?_⟩
    exact k ss[r] H' k1 ⟨ss, ts, hG'⟩ (hG'.sz r _ (List.getElem?_eq_getElem hr2))
theorem sc_length : FnScope ["self", "number", "sizes", "letter"] ["self", "number"] (defScope s_Growth_length) := ⟨rfl, rfl, rfl, by decide +kernel, rfl, by decide +kernel, by decide +kernel⟩
theorem has_length (T : Tx K mg) (κ : Bool) : Has P w K mg base 6 (mA K "Growth" "length") ["self", "number"] (spLength K κ) [] := by
  obtain ⟨fd, F⟩ := T.fd_Growth_length
  refine hasD F sc_length (fun vs H Q E h => ?_) (fun _ _ _ _ _ _ us hl => match us, hl with | [_, _], _ => rfl) (fun cdv A outer s H vs Q E hr h => ?_)
  · obtain ⟨g, r, rfl, _⟩ := h
    rfl
  · obtain ⟨g, r, rfl, hr200, hG, k⟩ := h
    obtain ⟨ss0, ts0, hG0⟩ := id hG
    obtain ⟨_, hst, dx0, h0⟩ := hG0.b
    have nd := sc_length.nd
    have hu := hu_of hr
    refine ⟨_, (pss_cons (ps_expr (pm (pv 0) T.c_Growth T.m_Growth_needs_round (has_round T) hr (pa_cons (pv 1) pa_nil)))
        (pss_cons (ps_set (i := 2) nd rfl (Or.inr rfl) (pm (pv 0) T.c_Growth T.m_Growth_sizes_at (has_sizes T κ) hr (pa_cons (pv 1) pa_nil)))
        (pss_one (ps_ret (pe_callB (cr_sum rfl) (by rfl) T.f_sum (by decide +kernel) (pa_cons (pe_lc (own := [("letter", 3)]) (g := gName 3) (tt := tYes) rfl nd (pi_str (pe_fld (pv 0) rfl))
          (blkOk_by (own := [("letter", 3)]) (N := ["self", "number", "sizes", "letter"]) (sc := defScope s_Growth_length) (by decide +kernel)) (fun _ _ _ _ _ => pg_name (i := 3) nd rfl (Or.inl rfl)) (fun _ _ _ _ _ => pts_nil)
          (fun _ _ _ _ _ => pe_dget hu (pv 2) (pv 3) (fun _ _ => rfl))) pa_nil)))))), ?_⟩
    refine ⟨_, rfl, g.a, dx0, _, rfl, h0, gfs_no _ _ _ _ (by decide +kernel), _, rfl, g.a, _, _, _, rfl, by omega, by omega, ?_⟩
    refine ⟨_, rfl, g.a, dx0, _, rfl, h0, gfs_no _ _ _ _ (by decide +kernel), _, rfl, g, r, rfl, hr200, hG, fun q H' k1 hG' hS => ?_⟩
    obtain ⟨ss, ts, hG1⟩ := id hG'
    obtain ⟨_, _, dx, h1⟩ := id hG1.b
    refine ⟨_, rfl, g.a, _, dx, _, _, rfl, h1, T.c_Growth, T.n_Growth_start, gfs_start _ _ _ _, _, rfl, fun D hD => ?_⟩
    refine lc_it walk_str (fun j H2 => Same H' H2 ∧ H2 D = some (.lst (((g.st.take j).map fun c => ((SG.sz g.rd.wd r c : Nat) : Int)).map V.int))) ⟨Same.new hD, upd_same⟩ (fun _ _ _ _ => trivial) ?_ ?_
    · rintro j x H2 H2' hj ⟨t, hD2⟩ ⟨rfl, c, hc, rfl⟩
      rw [tx_at] at hc
      have hcm := hst.win c (List.mem_of_getElem? hc)
      refine ⟨rfl, _, rfl, _, rfl, q, .int (SG.sz g.rd.wd r c : Nat), rfl, ?_, _, hD2, ?_, mut_same t hD, ?_⟩
      · rw [← valL_in (ls := g.rd.ls) (fun c => V.int (SG.sz g.rd.wd r c : Nat)) hcm]
        exact DGet.k (k := Sum.inr (sg c)) (t _ _ hS)
      · have := hst.len
        rw [List.length_map, List.length_map, List.length_take]
        exact small_line (by omega)
      · rw [upd_same, take_snoc hc, List.map_append, List.map_append]
        rfl
    · rintro H2 ⟨t, hD2⟩
      rw [tx_size, List.take_of_length_le (Nat.le_refl _)] at hD2
      refine ⟨D, _, rfl, SqL.of hD2, ?_⟩
      have e : (g.st.map fun c => ((SG.sz g.rd.wd r c : Nat) : Int)).sum = ((rnd g.rd.wd r g.st).length : Nat) := by
        rw [rnd, len_flatMap]
        induction g.st with
        | nil => rfl
        | cons c l ih => rw [List.map_cons, List.sum_cons, ih, List.map_cons, List.sum_cons]; show ((SG.sz g.rd.wd r c : Nat) : Int) + _ = _; rw [Int.natCast_add]; rfl
      rw [e]
      exact k H2 (k1.trans (Same.kp t)) ⟨ss, ts, hG1.same t⟩
end
end SG

/-! ## SgMath3 -/
set_option autoImplicit true
set_option autoImplicit false
namespace SG
/-! ### cover, in plain Lean: the stack l is written top first -/
abbrev Nd := Nat × Nat
def ex1 (wd : Nat → List Nat) (x : Nd) : List Nat := gr wd x.2 x.1
def exps (wd : Nat → List Nat) (l : List Nd) : List Nat := l.flatMap (ex1 wd)
def s1 (wd : Nat → List Nat) (x : Nd) : Nat := sz wd x.2 x.1
def tot (wd : Nat → List Nat) (l : List Nd) : Nat := (l.map (s1 wd)).sum
/-- eight times the rounds of the one piece that has x within -/
def strd (wd : Nat → List Nat) (x : Nat) : Nat → List Nd → Nat
  | _, [] => 0
  | p, y :: l => (if p < x ∧ x < p + s1 wd y then 8 * y.2 else 0) + strd wd x (p + s1 wd y) l
section
variable {wd : Nat → List Nat} {x p R : Nat} {l : List Nd}
theorem strd_left (h : x ≤ p) : strd wd x p l = 0 := by
  induction l generalizing p with
  | nil => rfl
  | cons y l ih =>
    show (if p < x ∧ x < p + s1 wd y then 8 * y.2 else 0) + strd wd x (p + s1 wd y) l = 0
    rw [ih (by omega), if_neg (by omega)]
theorem strd_right (h : p + tot wd l ≤ x) : strd wd x p l = 0 := by
  induction l generalizing p with
  | nil => rfl
  | cons y l ih =>
    have e : tot wd (y :: l) = s1 wd y + tot wd l := by unfold tot; rw [List.map_cons, List.sum_cons]
    rw [e] at h
    show (if p < x ∧ x < p + s1 wd y then 8 * y.2 else 0) + strd wd x (p + s1 wd y) l = 0
    rw [ih (by omega), if_neg (by omega)]
theorem strd_le (h : ∀ y ∈ l, y.2 ≤ R) : strd wd x p l ≤ 8 * R := by
  induction l generalizing p with
  | nil => exact Nat.zero_le _
  | cons y l ih =>
    have i := ih (p := p + s1 wd y) fun z hz => h z (List.mem_cons_of_mem _ hz)
    have hy := h y List.mem_cons_self
    show (if p < x ∧ x < p + s1 wd y then 8 * y.2 else 0) + strd wd x (p + s1 wd y) l ≤ 8 * R
    split
    · rename_i c
      rw [strd_left (by omega)]
      omega
    · omega
theorem strd_append {m : List Nd} : strd wd x p (l ++ m) = strd wd x p l + strd wd x (p + tot wd l) m := by
  induction l generalizing p with
  | nil => show strd wd x p m = 0 + strd wd x (p + 0) m; rw [Nat.zero_add, Nat.add_zero]
  | cons y l ih =>
    have e : tot wd (y :: l) = s1 wd y + tot wd l := by unfold tot; rw [List.map_cons, List.sum_cons]
    show (if p < x ∧ x < p + s1 wd y then 8 * y.2 else 0) + strd wd x (p + s1 wd y) (l ++ m) = (if p < x ∧ x < p + s1 wd y then 8 * y.2 else 0) + strd wd x (p + s1 wd y) l + strd wd x (p + tot wd (y :: l)) m
    rw [ih, e, Nat.add_assoc, Nat.add_assoc]
end
def kids (wd : Nat → List Nat) (c r : Nat) : List Nd := (wd c).map fun y => (y, r)
theorem kids_tot (wd : Nat → List Nat) (c r : Nat) : tot wd (kids wd c r) = sz wd (r + 1) c := by
  unfold tot kids
  rw [List.map_map, sz_succ]
  rfl
theorem kids_exps (wd : Nat → List Nat) (c r : Nat) : exps wd (kids wd c r) = gr wd (r + 1) c := by
  unfold exps kids
  rw [List.flatMap_map]
  rfl
def nsum (wd : Nat → List Nat) (l : List Nd) : Nat := (l.map fun x => nodes wd x.2 x.1).sum
theorem kids_nsum (wd : Nat → List Nat) (c r : Nat) : nsum wd (kids wd c r) + 1 = nodes wd (r + 1) c := by
  unfold nsum kids
  rw [List.map_map, Nat.add_comm]
  rfl
theorem nodes_pos (wd : Nat → List Nat) (r c : Nat) : 0 < nodes wd r c := by
  cases r with
  | zero => exact Nat.one_pos
  | succ r => show 0 < 1 + _; omega
structure Cov (wd : Nat → List Nat) (ls : List Nat) (F : List Nat) (n b e : Nat) (pl : Nat) (fs l : List Nd) : Prop where
  rest : F.drop pl = exps wd l
  done : exps wd fs = (F.take pl).drop b
  le : pl ≤ e
  le2 : e ≤ F.length
  be : b ≤ e
  fin : ∀ y ∈ fs, y.1 ∈ ls ∧ y.2 ≤ n
  win : ∀ y ∈ l, y.1 ∈ ls ∧ y.2 ≤ n
  pot : fs.length + l.length + strd wd b pl l + strd wd e pl l ≤ 8 + 16 * n
section
variable {wd : Nat → List Nat} {ls F : List Nat} {n b e pl c r : Nat} {fs l : List Nd}
theorem cov_start {st : List Nat} (hF : F = rnd wd n st) (h8 : st.length ≤ 8) (hin : ∀ c ∈ st, c ∈ ls) (hbe : b ≤ e) (he : e ≤ F.length) : Cov wd ls F n b e 0 [] (st.map fun c => (c, n)) := by
  refine ⟨?_, by simp [exps], Nat.zero_le _, he, hbe, fun _ h => (by cases h), fun y hy => ?_, ?_⟩
  · rw [List.drop_zero, hF]
    unfold exps rnd
    rw [List.flatMap_map]
    rfl
  · obtain ⟨c, hc, e⟩ := List.mem_map.mp hy
    rw [← e]
    exact ⟨hin c hc, Nat.le_refl _⟩
  · have h1 := strd_le (wd := wd) (x := b) (p := 0) (R := n) (l := st.map fun c => (c, n)) fun y hy => by
      obtain ⟨c, _, e⟩ := List.mem_map.mp hy
      rw [← e]; exact Nat.le_refl _
    have h2 := strd_le (wd := wd) (x := e) (p := 0) (R := n) (l := st.map fun c => (c, n)) fun y hy => by
      obtain ⟨c, _, e⟩ := List.mem_map.mp hy
      rw [← e]; exact Nat.le_refl _
    rw [List.length_nil, List.length_map]
    omega
theorem cov_drop (h : Cov wd ls F n b e pl fs ((c, r) :: l)) : F.drop (pl + sz wd r c) = exps wd l ∧ (F.drop pl).take (sz wd r c) = gr wd r c := by
  have e1 : F.drop pl = gr wd r c ++ exps wd l := h.rest
  constructor
  · rw [← List.drop_drop, e1]
    exact List.drop_left' rfl
  · rw [e1]
    exact List.take_left' rfl
theorem cov_skip (h : Cov wd ls F n b e pl fs ((c, r) :: l)) (hs : pl + sz wd r c ≤ b) : Cov wd ls F n b e (pl + sz wd r c) fs l := by
  refine ⟨(cov_drop h).1, ?_, Nat.le_trans hs h.be, h.le2, h.be, h.fin, fun y hy => h.win y (List.mem_cons_of_mem _ hy), ?_⟩
  · rw [h.done, List.drop_eq_nil_of_le (by rw [List.length_take]; omega), List.drop_eq_nil_of_le (by rw [List.length_take]; omega)]
  · have p := h.pot
    have e1 : strd wd b pl ((c, r) :: l) = (if pl < b ∧ b < pl + sz wd r c then 8 * r else 0) + strd wd b (pl + sz wd r c) l := rfl
    have e2 : strd wd e pl ((c, r) :: l) = (if pl < e ∧ e < pl + sz wd r c then 8 * r else 0) + strd wd e (pl + sz wd r c) l := rfl
    rw [e1, e2, List.length_cons] at p
    omega
theorem cov_find (h : Cov wd ls F n b e pl fs ((c, r) :: l)) (hb : b ≤ pl) (hs : pl + sz wd r c ≤ e) : Cov wd ls F n b e (pl + sz wd r c) (fs ++ [(c, r)]) l := by
  refine ⟨(cov_drop h).1, ?_, hs, h.le2, h.be, fun y hy => ?_, fun y hy => h.win y (List.mem_cons_of_mem _ hy), ?_⟩
  · have e1 : exps wd (fs ++ [(c, r)]) = exps wd fs ++ gr wd r c := by
      unfold exps
      rw [List.flatMap_append, List.flatMap_cons, List.flatMap_nil, List.append_nil]
      rfl
    have hl : pl ≤ F.length := Nat.le_trans h.le h.le2
    rw [e1, h.done, ← (cov_drop h).2, List.take_add, List.drop_append_of_le_length (by rw [List.length_take]; omega)]
  · rcases List.mem_append.mp hy with q | q
    · exact h.fin y q
    · rw [List.mem_singleton.mp q]
      exact h.win _ List.mem_cons_self
  · have p := h.pot
    have e1 : strd wd b pl ((c, r) :: l) = (if pl < b ∧ b < pl + sz wd r c then 8 * r else 0) + strd wd b (pl + sz wd r c) l := rfl
    have e2 : strd wd e pl ((c, r) :: l) = (if pl < e ∧ e < pl + sz wd r c then 8 * r else 0) + strd wd e (pl + sz wd r c) l := rfl
    rw [e1, e2, List.length_cons] at p
    rw [List.length_append, List.length_singleton]
    omega
theorem cov_pos (h : ¬ pl + sz wd r c ≤ b) (h2 : ¬ (b ≤ pl ∧ pl + sz wd r c ≤ e)) (hp : pl < e) : ∃ r', r = r' + 1 := by
  cases r with
  | zero =>
    have e1 : sz wd 0 c = 1 := rfl
    rw [e1] at h h2
    exact absurd ⟨by omega, by omega⟩ h2
  | succ r => exact ⟨r, rfl⟩
theorem cov_grow (h : Cov wd ls F n b e pl fs ((c, r + 1) :: l)) (h8 : (wd c).length ≤ 8) (hin : ∀ x ∈ wd c, x ∈ ls) (h1 : ¬ pl + sz wd (r + 1) c ≤ b) (h2 : ¬ (b ≤ pl ∧ pl + sz wd (r + 1) c ≤ e)) (hp : pl < e) :
    Cov wd ls F n b e pl fs (kids wd c r ++ l) := by
  refine ⟨?_, h.done, h.le, h.le2, h.be, h.fin, fun y hy => ?_, ?_⟩
  · rw [h.rest]
    unfold exps
    rw [List.flatMap_append, List.flatMap_cons]
    exact congrArg (· ++ _) (kids_exps wd c r).symm
  · rcases List.mem_append.mp hy with q | q
    · obtain ⟨z, hz, ez⟩ := List.mem_map.mp q
      rw [← ez]
      have := (h.win _ List.mem_cons_self).2
      exact ⟨hin z hz, by show r ≤ n; have : r + 1 ≤ n := this; omega⟩
    · exact h.win y (List.mem_cons_of_mem _ q)
  · have p := h.pot
    have e1 : strd wd b pl ((c, r + 1) :: l) = (if pl < b ∧ b < pl + sz wd (r + 1) c then 8 * (r + 1) else 0) + strd wd b (pl + sz wd (r + 1) c) l := rfl
    have e2 : strd wd e pl ((c, r + 1) :: l) = (if pl < e ∧ e < pl + sz wd (r + 1) c then 8 * (r + 1) else 0) + strd wd e (pl + sz wd (r + 1) c) l := rfl
    rw [e1, e2, List.length_cons] at p
    rw [List.length_append, strd_append, strd_append, kids_tot]
    have hk : (kids wd c r).length ≤ 8 := by unfold kids; rw [List.length_map]; exact h8
    have hr : ∀ y ∈ kids wd c r, y.2 ≤ r := fun y hy => by
      obtain ⟨z, _, ez⟩ := List.mem_map.mp hy
      rw [← ez]; exact Nat.le_refl _
    have kb : ∀ x : Nat, strd wd x pl (kids wd c r) ≤ if pl < x ∧ x < pl + sz wd (r + 1) c then 8 * r else 0 := fun x => by
      split
      · exact strd_le hr
      · rename_i q
        by_cases hx : x ≤ pl
        · rw [strd_left hx]; exact Nat.le_refl _
        · rw [strd_right (by rw [kids_tot]; omega)]; exact Nat.le_refl _
    have k1 := kb b
    have k2 := kb e
    by_cases q1 : pl < b ∧ b < pl + sz wd (r + 1) c
    · rw [if_pos q1] at k1 p
      by_cases q2 : pl < e ∧ e < pl + sz wd (r + 1) c
      · rw [if_pos q2] at k2 p
        omega
      · rw [if_neg q2] at k2 p
        omega
    · have q2 : pl < e ∧ e < pl + sz wd (r + 1) c := by omega
      rw [if_neg q1, if_pos q2] at p
      rw [if_neg q1] at k1
      rw [if_pos q2] at k2
      omega
theorem cov_end (h : Cov wd ls F n b e pl fs l) (hq : l = [] ∨ ¬ pl < e) : exps wd fs = (F.take e).drop b := by
  have hl := h.le
  have hl2 := h.le2
  have ep : pl = e := by
    rcases hq with q | q
    · have r := h.rest
      rw [q] at r
      have : F.length ≤ pl := by
        have := congrArg List.length r
        rw [List.length_drop] at this
        have : F.length - pl = 0 := this
        omega
      omega
    · omega
  rw [h.done, ep]
theorem cov_size (h : Cov wd ls F n b e pl fs l) (hn : n ≤ 200) : fs.length ≤ 3208 ∧ l.length ≤ 3208 := by
  have := h.pot
  omega
theorem nsum_cons (x : Nd) (m : List Nd) : nsum wd (x :: m) = nodes wd x.2 x.1 + nsum wd m := by unfold nsum; rw [List.map_cons, List.sum_cons]
theorem nsum_append (a m : List Nd) : nsum wd (a ++ m) = nsum wd a + nsum wd m := by unfold nsum; rw [List.map_append, List.sum_append]
theorem nsum_pop : nsum wd l < nsum wd ((c, r) :: l) := by
  rw [nsum_cons]
  have := nodes_pos wd r c
  show nsum wd l < nodes wd r c + nsum wd l
  omega
theorem nsum_grow : nsum wd (kids wd c r ++ l) < nsum wd ((c, r + 1) :: l) := by
  rw [nsum_cons, nsum_append]
  have := kids_nsum wd c r
  show nsum wd (kids wd c r) + nsum wd l < nodes wd (r + 1) c + nsum wd l
  omega
end
end SG

/-! ## SgCover -/
set_option autoImplicit true
set_option Elab.async false
set_option maxRecDepth 100000
set_option maxHeartbeats 4000000
namespace SG
open PySem PySem.Spec PyProof.Rows L2
def pairT (x : Nd) : HO := .tup [.str (sg x.1), .int (x.2 : Nat)]
def PairsAt (H : Hp) (l : Addr) (as : List Addr) (cs : List Nd) : Prop := H l = some (.lst (as.map V.ref)) ∧ as.length = cs.length ∧ ∀ (i : Nat) a x, as[i]? = some a → cs[i]? = some x → H a = some (pairT x)
theorem Kp.mut {S : List Addr} {H H' : Hp} {p : Addr} {o : HO} (k : Kp S H H') (h : H p = none) : Kp S H (upd H' p o) := fun b u e hb => by rw [upd_ne (ne_of_none e h)]; exact k b u e hb
theorem Kp.one {H : Hp} {p : Addr} {o : HO} : Kp [p] H (upd H p o) := fun b u e hb => by rw [upd_ne fun q => hb (by rw [q]; exact List.mem_cons_self)]; exact e
theorem lists_one {H : Hp} {p : Addr} {as : List Addr} (h : H p = some (.lst (as.map V.ref))) : Lists [p] H := fun b hb => by rw [List.mem_singleton.mp hb]; exact ⟨as, h⟩
theorem PairsAt.kp {S : List Addr} {H H' : Hp} (k : Kp S H H') (L : Lists S H) {l : Addr} {as : List Addr} {cs : List Nd} (hl : ¬ l ∈ S) (h : PairsAt H l as cs) : PairsAt H' l as cs :=
  ⟨k _ _ h.1 hl, h.2.1, fun i a x h1 h2 => k.at_ L (h.2.2 i a x h1 h2) tup_nl⟩
theorem PairsAt.same {H H' : Hp} (e : Same H H') {l : Addr} {as : List Addr} {cs : List Nd} (h : PairsAt H l as cs) : PairsAt H' l as cs := ⟨e _ _ h.1, h.2.1, fun i a x h1 h2 => e _ _ (h.2.2 i a x h1 h2)⟩
/-- a list of pairs gets one more -/
theorem PairsAt.push {H : Hp} {l t : Addr} {as : List Addr} {cs : List Nd} {x : Nd} (h : PairsAt H l as cs) (ht : H t = some (pairT x)) : PairsAt (upd H l (.lst ((as ++ [t]).map V.ref))) l (as ++ [t]) (cs ++ [x]) := by
  have L := lists_one h.1
  have k : Kp [l] H (upd H l (.lst ((as ++ [t]).map V.ref))) := Kp.one
  refine ⟨upd_same, by rw [List.length_append, List.length_append, h.2.1]; rfl, fun i a y h1 h2 => ?_⟩
  rcases snoc_at h1 with q | ⟨q1, q2⟩
  · have hi := (List.getElem?_eq_some_iff.mp q).1
    rw [List.getElem?_append_left (by rw [← h.2.1]; exact hi)] at h2
    exact k.at_ L (h.2.2 i a y q h2) tup_nl
  · rw [q1, h.2.1, List.getElem?_append_right (Nat.le_refl _), Nat.sub_self] at h2
    rw [q2, ← Option.some.inj h2]
    exact k.at_ L ht tup_nl
/-- .. loses its last -/
theorem PairsAt.pop {H : Hp} {l t : Addr} {as : List Addr} {cs : List Nd} {x : Nd} (h : PairsAt H l (as ++ [t]) (cs ++ [x])) : PairsAt (upd H l (.lst (as.map V.ref))) l as cs := by
  have L := lists_one h.1
  have k : Kp [l] H (upd H l (.lst (as.map V.ref))) := Kp.one
  have hl : as.length = cs.length := by
    have := h.2.1
    rw [List.length_append, List.length_append] at this
    have : as.length + 1 = cs.length + 1 := this
    omega
  refine ⟨upd_same, hl, fun i a y h1 h2 => ?_⟩
  have hi := (List.getElem?_eq_some_iff.mp h1).1
  exact k.at_ L (h.2.2 i a y (by rw [List.getElem?_append_left hi]; exact h1) (by rw [List.getElem?_append_left (by omega)]; exact h2)) tup_nl
theorem PairsAt.other {H : Hp} {l m : Addr} {as : List Addr} {cs : List Nd} {o : HO} {bs : List Addr} (h : PairsAt H l as cs) (hm : H m = some (.lst (bs.map V.ref))) (hne : l ≠ m) : PairsAt (upd H m o) l as cs :=
  h.kp Kp.one (lists_one hm) (fun q => hne (List.mem_singleton.mp q))
theorem GrowAt.other {K : PySem.W.Frag} {κ : Bool} {H : Hp} {g : GI} {m : Addr} {o : HO} {bs : List Addr} (h : GrowAt K κ H g) (hm : H m = some (.lst (bs.map V.ref))) (hne : ¬ m ∈ g.S) : GrowAt K κ (upd H m o) g := by
  obtain ⟨ss, ts, q⟩ := h
  have L := lists_one hm
  have k : Kp [m] H (upd H m o) := Kp.one
  have n1 : g.sl ≠ m := fun e => hne (by rw [← e]; exact List.mem_cons_self)
  have n2 : g.tl ≠ m := fun e => hne (by rw [← e]; exact List.mem_cons_of_mem _ List.mem_cons_self)
  exact ⟨ss, ts, q.b.kp k L, q.ne, (upd_ne n1).trans q.hs, (upd_ne n2).trans q.ht, q.len, q.le, fun r z x => (q.sz r z x).kp k L, fun r z x => (q.tb r z x).kp k L⟩
theorem GrowAt.same {K : PySem.W.Frag} {κ : Bool} {H H' : Hp} {g : GI} (e : Same H H') (h : GrowAt K κ H g) : GrowAt K κ H' g := let ⟨ss, ts, q⟩ := h; ⟨ss, ts, q.same e⟩
theorem GrowAt.lists {K : PySem.W.Frag} {κ : Bool} {H : Hp} {g : GI} (h : GrowAt K κ H g) : Lists g.S H := let ⟨_, _, q⟩ := h; q.lists
theorem not_S {S : List Addr} {H : Hp} {p : Addr} (L : Lists S H) (h : H p = none) : ¬ p ∈ S := fun hm => by
  obtain ⟨as, e⟩ := L p hm
  rw [h] at e; cases e
def GI.F (g : GI) (n : Nat) : List Nat := rnd g.rd.wd n g.st
def spNeeds (K : PySem.W.Frag) (κ : Bool) : Sp := fun vs H Q _ => ∃ (g : GI) (n b e : Nat), vs = [.ref g.a, .int (n : Nat), .int (b : Nat), .int (e : Nat)] ∧ n ≤ 200 ∧ GrowAt K κ H g ∧ b ≤ e ∧ e ≤ (g.F n).length ∧ ∀ H', Kp g.S H H' → GrowAt K κ H' g → Q .non H'
def spCover (K : PySem.W.Frag) (κ : Bool) : Sp := fun vs H Q _ => ∃ (g : GI) (n b e : Nat), vs = [.ref g.a, .int (n : Nat), .int (b : Nat), .int (e : Nat)] ∧ n ≤ 200 ∧ GrowAt K κ H g ∧ b ≤ e ∧ e ≤ (g.F n).length ∧
  ∀ q H' (as : List Addr) (cs : List Nd), H q = none → Kp g.S H H' → GrowAt K κ H' g → PairsAt H' q as cs → cs.length ≤ 3208 → (∀ y ∈ cs, y.1 ∈ g.rd.ls ∧ y.2 ≤ n) → exps g.rd.wd cs = ((g.F n).take e).drop b → Q (.ref q) H'
def spGrowInit (K : PySem.W.Frag) (κ : Bool) : Sp := fun vs H Q _ => ∃ (x dx p ra : Addr) (rd : RD) (st : List Nat), vs = [.ref x, .ref ra, .str (tx st)] ∧ H x = some (.ins (gA K "Growth") dx []) ∧ RulesAt K κ H p ra rd ∧ StOk rd st ∧
  ∀ sl tl H', (∀ b o, H b = some o → b ≠ x → H' b = some o) → GrowAt K κ H' ⟨p, ra, x, sl, tl, rd, st⟩ → H sl = none → H tl = none → Q .non H'
section
variable {P : Program} {w : World} {K : PySem.W.Frag} {mg : Str → Option Value} {base : Heap}
theorem sc_needs : FnScope ["self", "number", "begin", "end", "size"] ["self", "number", "begin", "end"] (defScope s_Growth_needs_stretch) := ⟨rfl, rfl, rfl, by decide +kernel, rfl, by decide +kernel, by decide +kernel⟩
theorem has_needs (T : Tx K mg) (κ : Bool) : Has P w K mg base 7 (mA K "Growth" "needs_stretch") ["self", "number", "begin", "end"] (spNeeds K κ) [] := by
  obtain ⟨fd, F⟩ := T.fd_Growth_needs_stretch
  refine hasD F sc_needs (fun vs H Q E h => ?_) (fun _ _ _ _ _ _ us hl => match us, hl with | [_, _, _, _], _ => rfl) (fun cdv A outer s H vs Q E hr h => ?_)
  · obtain ⟨g, n, b, e, rfl, _⟩ := h
    rfl
  · obtain ⟨g, n, b, e, rfl, hn, hG, hbe, he, k⟩ := h
    have nd := sc_needs.nd
    obtain ⟨_, _, dx0, h0⟩ := hG.choose_spec.choose_spec.b
    refine ⟨_, (pss_cons (ps_set (i := 4) nd rfl (Or.inl rfl) (pm (pv 0) T.c_Growth T.m_Growth_length (has_length T κ) hr (pa_cons (pv 1) pa_nil)))
        (pss_cons (ps_expr (pm (pv 0) T.c_Growth T.m_Growth_needs_place (has_place T) hr (pa_cons (pv 1) (pa_cons (pv 2) (pa_cons (pv 4) pa_nil)))))
        (pss_one (ps_if (PW.pt (pw_or (pt_cmpR op_lt (pv 3) (pv 2) (nomark _)) (pw_or1 (pt_cmpR op_gt (pv 3) (pv 4) (nomark _))))) (pss_one (ps_never)) pss_nil)))), ?_⟩
    refine ⟨_, rfl, g.a, dx0, _, rfl, h0, gfs_no _ _ _ _ (by decide +kernel), _, rfl, g, n, rfl, hn, hG, fun H' k1 hG' => ?_⟩
    obtain ⟨_, _, dx1, h1⟩ := hG'.choose_spec.choose_spec.b
    have he' : e ≤ (rnd g.rd.wd n g.st).length := he
    refine ⟨_, rfl, g.a, dx1, _, rfl, h1, gfs_no _ _ _ _ (by decide +kernel), _, rfl, _, rfl, _, rfl, g.a, _, _, _, rfl, by omega, by omega, ?_⟩
    exact ⟨_, rfl, _, rfl, _, _, rfl, rfl, _, rfl, iteN (by omega) ⟨_, rfl, _, rfl, _, _, rfl, rfl, _, rfl, iteN (by omega) (k H' k1 hG')⟩⟩
theorem sc_ginit : FnScope ["self", "rules", "start"] ["self", "rules", "start"] (defScope s_Growth_init) := ⟨rfl, rfl, rfl, by decide +kernel, rfl, by decide +kernel, by decide +kernel⟩
theorem has_ginit (T : Tx K mg) (κ : Bool) : Has P w K mg base 2 (mA K "Growth" "__init__") ["self", "rules", "start"] (spGrowInit K κ) [] := by
  obtain ⟨fd, F⟩ := T.fd_Growth_init
  obtain ⟨u, hmu, ru⟩ := T.i_MOST_START
  refine hasD F sc_ginit (fun vs H Q E h => ?_) (fun _ _ _ _ _ _ us hl => match us, hl with | [_, _, _], _ => rfl) (fun cdv A outer s H vs Q E hr h => ?_)
  · obtain ⟨x, dx, p, ra, rd, st, rfl, _⟩ := h
    rfl
  · obtain ⟨x, dx, p, ra, rd, st, rfl, hx, hR, hst, k⟩ := h
    refine ⟨_, (pss_cons (ps_fld (pv 0) (pv 1) rfl)
        (pss_cons (ps_fld (pv 0) (pm (pv 1) T.c_Rules T.m_Rules_word_of (has_word_of T κ) hr (pa_cons (pv 2) (pa_cons (pe_glob rfl hmu ru) pa_nil))) rfl)
        (pss_cons (ps_fld (pv 0) (pe_lst pa_nil) rfl)
        (pss_one (ps_fld (pv 0) (pe_lst pa_nil) rfl))))), ?_⟩
    have R1 : ∀ (H1 : Hp), (∀ b o, H b = some o → b ≠ x → H1 b = some o) → RulesAt K κ H1 p ra rd := fun H1 k1 => by
      obtain ⟨⟨dp, hp⟩, ok, dr, kd, f, r1, r2, r3⟩ := hR
      have nx : ∀ {b : Addr} {o : HO}, H b = some o → o ≠ .ins (gA K "Growth") dx [] → H1 b = some o := fun e h => k1 _ _ e (ne_of e hx h)
      have n1 : HO.ins (gA K "Rules") dr (rfs p kd) ≠ .ins (gA K "Growth") dx [] := fun e => by injection e with _ _ e3; cases e3
      have n0 : p ≠ x := by
        intro e
        rw [e, hx] at hp
        have e2 := Option.some.inj hp
        injection e2 with e3 _ _
        have c1 := T.c_Growth
        -- the two classes differ: Growth has an __init__ of its own, the pens have object's
        have i1 := T.mk_Growth.init
        cases κ
        · have i2 := (mk0S T).ini
          rw [show gA K "Sixth" = gA K "Growth" from e3.symm] at i2
          rw [i1] at i2
          cases i2
        · have i2 := (mk0Q T).ini
          rw [show gA K "Quarter" = gA K "Growth" from e3.symm] at i2
          rw [i1] at i2
          cases i2
      exact ⟨⟨dp, k1 _ _ hp n0⟩, ok, dr, kd, f, nx r1 n1, nx r2 (fun e => by cases e), fun c hc => nx (r3 c hc) (fun e => by cases e)⟩
    obtain ⟨_, ok, dr, kd, f, r1, _⟩ := id hR
    have nrx : ra ≠ x := ne_of r1 hx (fun e => by injection e with _ _ e3; cases e3)
    refine ⟨_, rfl, _, rfl, x, _, dx, [], rfl, hx, T.c_Growth, T.n_Growth_rules, (by show 0 < 1000; decide), ?_⟩
    rw [put1]
    have k1 : ∀ b o, H b = some o → b ≠ x → (upd H x (.ins (gA K "Growth") dx [("rules", .ref ra)])) b = some o := fun b o e hb => (upd_ne hb).trans e
    have hlen := hst.len
    refine ⟨_, rfl, ra, dr, _, rfl, k1 _ _ r1 nrx, rfs_no _ _ (by decide +kernel), _, rfl, p, ra, rd, st, 8, rfl, R1 _ k1, hst.ne, by omega, by omega, hst.win, fun H2 s2 => ?_⟩
    have k2 : ∀ b o, H b = some o → b ≠ x → H2 b = some o := fun b o e hb => s2 _ _ (k1 b o e hb)
    refine ⟨_, rfl, x, _, dx, _, rfl, s2 _ _ upd_same, T.c_Growth, T.n_Growth_start, (by show 1 < 1000; decide), ?_⟩
    rw [put2 (by decide +kernel)]
    refine ⟨Nat.zero_le _, fun sl hsl => ?_⟩
    have nxs : x ≠ sl := fun e => by rw [← e, upd_same] at hsl; cases hsl
    refine ⟨_, rfl, x, _, dx, _, rfl, (upd_ne nxs).trans upd_same, T.c_Growth, T.n_Growth_sizes, (by show 2 < 1000; decide), ?_⟩
    rw [put3 (by decide +kernel) (by decide +kernel)]
    refine ⟨Nat.zero_le _, fun tl htl => ?_⟩
    have nxt : x ≠ tl := fun e => by rw [← e, upd_same] at htl; cases htl
    have nst : sl ≠ tl := fun e => by rw [← e, upd_ne nxs.symm, upd_same] at htl; cases htl
    refine ⟨_, rfl, x, _, dx, _, rfl, (upd_ne nxt).trans upd_same, T.c_Growth, T.n_Growth_tables, (by show 3 < 1000; decide), ?_⟩
    rw [put4 (by decide +kernel) (by decide +kernel) (by decide +kernel)]
    have fsl : H sl = none := by
      cases q : H sl with
      | none => rfl
      | some o =>
        have := (upd_ne nxs.symm).trans (k2 _ _ q nxs.symm) |>.symm.trans hsl
        cases this
    have ftl : H tl = none := by
      cases q : H tl with
      | none => rfl
      | some o =>
        have e1 := k2 _ _ q nxt.symm
        rw [upd_ne nxt.symm, upd_ne nst.symm, upd_ne nxt.symm, e1] at htl
        cases htl
    have kall : ∀ b o, H b = some o → b ≠ x → (upd (upd (upd (upd (upd H2 x (.ins (gA K "Growth") dx [("rules", .ref ra), ("start", .str (tx st))])) sl (.lst [])) x (.ins (gA K "Growth") dx [("rules", .ref ra), ("start", .str (tx st)), ("sizes", .ref sl)])) tl (.lst [])) x (.ins (gA K "Growth") dx (gfs ra (tx st) sl tl))) b = some o := fun b o e hb => by
      rw [upd_ne hb, upd_ne (ne_of_none e ftl), upd_ne hb, upd_ne (ne_of_none e fsl), upd_ne hb]
      exact k2 b o e hb
    refine k sl tl _ kall ⟨[], [], ⟨R1 _ kall, hst, dx, upd_same⟩, nst, ?_, ?_, rfl, Nat.zero_le _, fun r q h => (by cases h), fun r q h => (by cases h)⟩ fsl ftl
    · show (upd _ x _) sl = _
      rw [upd_ne nxs.symm, upd_ne nst, upd_ne nxs.symm, upd_same]
      rfl
    · show (upd _ x _) tl = _
      rw [upd_ne nxt.symm, upd_same]
      rfl
end
end SG

/-! ## SgCover2 -/
set_option autoImplicit true
set_option Elab.async false
set_option maxRecDepth 100000
set_option maxHeartbeats 4000000
namespace SG
open PySem PySem.Spec PyProof.Rows L2
theorem rev_at {l : List Nat} {i : Nat} (h : i < l.length) : (tx l).cps[(tx l).cps.size - 1 - i]? = l.reverse[i]? := by
  rw [tx_size, tx_at, List.getElem?_reverse h]
theorem PairsAt.nil {H : Hp} {l : Addr} (h : H l = some (.lst [])) : PairsAt H l [] [] := ⟨h, rfl, fun i a x h => by cases h⟩
section
variable {P : Program} {w : World} {K : PySem.W.Frag} {mg : Str → Option Value} {base : Heap}
abbrev nCV : List Str := ["self", "number", "begin", "end", "found", "waiting", "letter", "place", "rounds", "size", "younger"]
theorem sc_cover : FnScope nCV ["self", "number", "begin", "end"] (defScope s_Growth_cover) := ⟨rfl, rfl, rfl, by decide +kernel, rfl, by decide +kernel, by decide +kernel⟩
theorem has_cover (T : Tx K mg) (κ : Bool) : Has P w K mg base 6 (mA K "Growth" "cover") ["self", "number", "begin", "end"] (spCover K κ) [] := by
  obtain ⟨fd, F⟩ := T.fd_Growth_cover
  refine hasD F sc_cover (fun vs H Q E h => ?_) (fun _ _ _ _ _ _ us hl => match us, hl with | [_, _, _, _], _ => rfl) (fun cdv A outer s H vs Q E hr h => ?_)
  · obtain ⟨g, n, b, e, rfl, _⟩ := h
    rfl
  · obtain ⟨g, n, b, e, rfl, hn, hG, hbe, he, k⟩ := h
    have nd := sc_cover.nd
    have hu := hu_of hr
    refine ⟨_, (pss_cons (ps_set (i := 4) nd rfl (Or.inl rfl) (pe_lst pa_nil))
        (pss_cons (ps_setLc (i := 5) (own := [("letter", 6)]) (g := gName 6) (tt := tYes) rfl nd rfl rfl (sw_true rfl rfl rfl (by decide +kernel)) (pi_revS (by rfl) T.f_reversed (pe_fld (pv 0) rfl))
            (blkOk_by (own := [("letter", 6)]) (N := nCV) (sc := defScope s_Growth_cover) (by decide +kernel)) (fun _ _ _ _ _ => pg_name (i := 6) nd rfl (Or.inl rfl)) (fun _ _ _ _ _ => pts_nil)
            (fun _ _ _ _ _ => pe_tup (pa_cons (pv 6) (pa_cons (pv 1) pa_nil))))
        (pss_cons (ps_set (i := 7) nd rfl (Or.inl rfl) pe_int)
        (pss_cons (ps_while PassesOwn.never (PW.pt (pw_and (pt_cmpR op_gt (pe_callB call_len_seq (by rfl) T.f_len PySem.boot_len (pa_cons (pv 5) pa_nil)) pe_int (nomark _)) (pw_and1 (pt_cmpR op_lt (pv 7) (pv 3) (nomark _)))))
        (pss_cons (ps_asg (pe_bm0 PySem.F.plainAttrs_list PySem.F.slot_list_pop PySem.F.type_list_pop mt_pop (pv 5)) (pg_tup rfl (pgs_cons (pg_name (i := 6) nd rfl (Or.inl rfl)) (pgs_cons (pg_name (i := 8) nd rfl (Or.inl rfl)) pgs_nil))))
        (pss_cons (ps_set (i := 9) nd rfl (Or.inl rfl) (pe_dget hu (pm (pv 0) T.c_Growth T.m_Growth_sizes_at (has_sizes T κ) hr (pa_cons (pv 8) pa_nil)) (pv 6) (fun _ _ => rfl)))
        (pss_one (ps_if (pt_cmpR op_le (pe_op op_add (pv 7) (pv 9)) (pv 2) (nomark _)) (pss_one (ps_set (i := 7) nd rfl (Or.inl rfl) (pe_op op_add (pv 7) (pv 9))))
          (pss_one (ps_if (PW.pt (pw_and (pt_cmpR op_le (pv 2) (pv 7) (nomark _)) (pw_and1 (pt_cmpR op_le (pe_op op_add (pv 7) (pv 9)) (pv 3) (nomark _)))))
            (pss_cons (ps_expr (pe_bm PySem.F.plainAttrs_list PySem.F.slot_list_append PySem.F.type_list_append mt_append (pv 4) (pa_cons (pe_tup (pa_cons (pv 6) (pa_cons (pv 8) pa_nil))) pa_nil)))
        (pss_one (ps_set (i := 7) nd rfl (Or.inl rfl) (pe_op op_add (pv 7) (pv 9)))))
            (pss_one (ps_for PassesOwn.never rfl (pi_revS (by rfl) T.f_reversed (pm (pe_fld (pv 0) rfl) T.c_Rules T.m_Rules_word (has_word T κ) hr (pa_cons (pv 6) pa_nil))) (pg_name (i := 10) nd rfl (Or.inl rfl)) (pss_one (ps_expr (pe_bm PySem.F.plainAttrs_list PySem.F.slot_list_append PySem.F.type_list_append mt_append (pv 5) (pa_cons (pe_tup (pa_cons (pv 10) (pa_cons (pe_op op_sub (pv 8) pe_int) pa_nil))) pa_nil)))))))))))))
        (pss_one (ps_ret (pv 4))))))), ?_⟩
    obtain ⟨ss0, ts0, hG0⟩ := id hG
    obtain ⟨hR0, hst, dx0, h0⟩ := id hG0.b
    have LS := hG0.lists
    have slen := hst.len
    -- found
    refine ⟨Nat.zero_le _, fun fo hfo => ?_⟩
    have s1 := Same.new (o := .lst []) hfo
    have nfS := not_S LS hfo
    -- waiting
    refine ⟨_, rfl, g.a, _, dx0, _, _, rfl, s1 _ _ h0, T.c_Growth, T.n_Growth_start, gfs_start _ _ _ _, _, rfl, by rw [tx_length]; exact Nat.le_of_lt (small_line (by omega)), fun wa hwa => ?_⟩
    have hwaH := s1.free hwa
    have nwS := not_S LS hwaH
    have nfw : fo ≠ wa := fun q => by rw [← q, upd_same] at hwa; cases hwa
    refine lc_it walk_revS (fun j H' => Same (upd H fo (.lst [])) H' ∧ ∃ was, PairsAt H' wa was ((g.st.reverse.take j).map fun c => (c, n))) ⟨Same.new hwa, [], PairsAt.nil upd_same⟩ (fun _ _ _ _ => trivial) ?_ ?_
    · rintro j x H' H'' hj ⟨t, was, hP⟩ ⟨rfl, c, hc, rfl⟩
      rw [tx_size] at hj
      rw [rev_at hj] at hc
      refine ⟨rfl, _, rfl, _, rfl, by show 2 ≤ sizeLine; decide, fun q hq => ?_⟩
      have s2 := Same.new (o := .tup [V.str (sg c), V.int (n : Nat)]) hq
      have hP2 := hP.same s2
      refine ⟨_, hP2.1, ?_, ?_⟩
      · rw [List.length_map, hP2.2.1, List.length_map, List.length_take]
        exact small_line (by omega)
      · rw [append_refs]
        refine ⟨mut_same (t.trans s2) hwa, was ++ [q], ?_⟩
        have em : ((g.st.reverse.take j ++ [c]).map fun c => (c, n)) = ((g.st.reverse.take j).map fun c => (c, n)) ++ [(c, n)] := by rw [List.map_append]; rfl
        rw [take_snoc hc, em]
        exact hP2.push (x := (c, n)) upd_same
    · rintro H1 ⟨t1, was0, hP0⟩
      rw [tx_size, List.take_of_length_le (by rw [List.length_reverse]; exact Nat.le_refl _)] at hP0
      have u1 := s1.trans t1
      have eF : g.F n = rnd g.rd.wd n g.st := rfl
      -- the loop
      refine ⟨fun m σ H' => ∃ (v6 v8 v9 v10 : Option V) (pl : Nat) (fs l : List Nd) (fas was : List Addr), σ = [some (.ref g.a), some (.int (n : Nat)), some (.int (b : Nat)), some (.int (e : Nat)), some (.ref fo), some (.ref wa), v6, some (.int (pl : Nat)), v8, v9, v10] ∧
          Kp g.S H H' ∧ GrowAt K κ H' g ∧ PairsAt H' fo fas fs ∧ PairsAt H' wa was l.reverse ∧ Cov g.rd.wd g.rd.ls (g.F n) n b e pl fs l ∧ m = nsum g.rd.wd l,
        ⟨_, none, none, none, none, 0, [], g.st.map (fun c => (c, n)), [], was0, rfl, Same.kp u1, hG.same u1, PairsAt.nil (t1 _ _ upd_same), by rw [← List.map_reverse]; exact hP0, cov_start eF slen hst.win hbe he, rfl⟩, ?_⟩
      rintro m σ H' ⟨v6, v8, v9, v10, pl, fs, l, fas, was, rfl, k1, hG1, hF, hW, hC, rfl⟩
      obtain ⟨z1, z2⟩ := cov_size hC hn
      have ok := (hG1.choose_spec.choose_spec.b).1.2.1
      refine ⟨_, rfl, wa, _, rfl, .inl (SqL.of hW.1), _, _, rfl, rfl, _, rfl, ?_⟩
      rw [List.length_map, hW.2.1, List.length_reverse]
      cases l with
      | nil =>
        refine iteN (by decide) ?_
        exact ⟨_, rfl, k fo H' fas fs hfo k1 hG1 hF z1 hC.fin (cov_end hC (.inl rfl))⟩
      | cons y l =>
        obtain ⟨c, r⟩ := y
        refine iteD (by rw [List.length_cons]; omega) ?_
        refine ⟨_, rfl, _, rfl, _, _, rfl, rfl, _, rfl, ite2d (fun hp => ?_) (fun hp => ?_)⟩
        · have hp' : pl < e := by omega
          refine ⟨fun σ' H'' => ∃ (v6 v8 v9 v10 : Option V) (pl' : Nat) (fs' l' : List Nd) (fas was : List Addr), σ' = [some (.ref g.a), some (.int (n : Nat)), some (.int (b : Nat)), some (.int (e : Nat)), some (.ref fo), some (.ref wa), v6, some (.int (pl' : Nat)), v8, v9, v10] ∧
              Kp g.S H H'' ∧ GrowAt K κ H'' g ∧ PairsAt H'' fo fas fs' ∧ PairsAt H'' wa was l'.reverse ∧ Cov g.rd.wd g.rd.ls (g.F n) n b e pl' fs' l' ∧ nsum g.rd.wd l' < nsum g.rd.wd ((c, r) :: l),
            fun σ' H'' ⟨v6, v8, v9, v10, pl', fs', l', fas, was, e1, e2, e3, e4, e5, e6, e7⟩ => ⟨_, e7, v6, v8, v9, v10, pl', fs', l', fas, was, e1, e2, e3, e4, e5, e6, rfl⟩, ?_⟩
          -- pop
          rw [List.reverse_cons] at hW
          obtain ⟨was', t, rfl⟩ := last_of (l := was) (fun q => by have := hW.2.1; rw [q, List.length_append] at this; cases l.reverse <;> cases this)
          have hwl : was'.length = l.reverse.length := by
            have := hW.2.1
            rw [List.length_append, List.length_append] at this
            have : was'.length + 1 = l.reverse.length + 1 := this
            omega
          have hT : H' t = some (pairT (c, r)) := hW.2.2 was'.length t (c, r) (by rw [List.getElem?_append_right (Nat.le_refl _), Nat.sub_self]; rfl) (by rw [hwl, List.getElem?_append_right (Nat.le_refl _), Nat.sub_self]; rfl)
          obtain ⟨hcl, hrn⟩ := hC.win (c, r) List.mem_cons_self
          have hrn' : r ≤ n := hrn
          refine ⟨_, rfl, .inl ⟨rfl, _, SqL.of hW.1⟩, wa, _, .ref t, rfl, rfl, hW.1, ?_, ?_⟩
          · rw [List.map_append, List.length_append]
            show _[(was'.map V.ref).length + 1 - 1]? = _
            rw [Nat.add_sub_cancel, List.getElem?_append_right (Nat.le_refl _), Nat.sub_self]
            rfl
          have ed : ((was' ++ [t]).map V.ref).dropLast = was'.map V.ref := by rw [List.map_append]; exact List.dropLast_concat
          rw [ed]
          have hW2 := hW.pop
          have hF2 := hF.other (o := .lst (was'.map V.ref)) hW.1 nfw
          have hG2 := hG1.other (o := .lst (was'.map V.ref)) hW.1 nwS
          have k2 := k1.mut (o := .lst (was'.map V.ref)) hwaH
          have ntw : t ≠ wa := ne_of hT hW.1 (by intro z; cases z)
          have hT2 : (upd H' wa (.lst (was'.map V.ref))) t = some (.tup [.str (sg c), .int (r : Nat)]) := (upd_ne ntw).trans hT
          refine ⟨t, _, rfl, SqT.of hT2, rfl, _, _, rfl, _, _, rfl, rfl, ?_⟩
          -- size
          obtain ⟨_, _, dx2, h2⟩ := hG2.choose_spec.choose_spec.b
          refine ⟨_, rfl, g.a, dx2, _, rfl, h2, gfs_no _ _ _ _ (by decide +kernel), _, rfl, g, r, rfl, by omega, hG2, fun q H3 k3 hG3 hS3 => ?_⟩
          have hF3 := hF2.kp k3 hG2.lists nfS
          have hW3 := hW2.kp k3 hG2.lists nwS
          have k3' := k2.trans k3
          refine ⟨_, rfl, q, .int (SG.sz g.rd.wd r c : Nat), rfl, ?_, ?_⟩
          · rw [← valL_in (ls := g.rd.ls) (fun c => V.int (SG.sz g.rd.wd r c : Nat)) hcl]
            exact DGet.k (k := Sum.inr (sg c)) hS3
          -- the three ways
          refine ⟨_, rfl, _, rfl, _, _, rfl, rfl, _, rfl, _, _, rfl, rfl, _, rfl, ite2d (fun h1 => ?_) (fun h1 => ?_)⟩
          · refine ⟨_, rfl, _, rfl, _, _, rfl, rfl, ?_⟩
            have ep : ((pl : Nat) : Int) + ((SG.sz g.rd.wd r c : Nat) : Int) = ((pl + SG.sz g.rd.wd r c : Nat) : Int) := by omega
            dsimp only
            rw [ep]
            exact ⟨_, _, _, _, pl + SG.sz g.rd.wd r c, fs, l, fas, was', rfl, k3', hG3, hF3, hW3, cov_skip hC (by omega), nsum_pop⟩
          · refine ⟨_, rfl, _, rfl, _, _, rfl, rfl, _, rfl, ?_⟩
            have grow : ¬ (b ≤ pl ∧ pl + SG.sz g.rd.wd r c ≤ e) →
                (tFor (iRevS (tMeth (gA K "Rules") "word" (spWord K κ) [] E0 (tFld K (tVar 0) "rules") (tCons (tVar 6) tNil))) (gName 10) (tDrop (tBM K "list" rAppend (tVar 5) (tCons (tTup (tCons (tVar 10) (tCons (tOp (rI0 fun i j => .int (i - j)) (tVar 8) (tC (.int 1))) tNil))) tNil))))
                { nx := fun σ' H'' => ∃ (v6 v8 v9 v10 : Option V) (pl' : Nat) (fs' l' : List Nd) (fas was : List Addr), σ' = [some (.ref g.a), some (.int (n : Nat)), some (.int (b : Nat)), some (.int (e : Nat)), some (.ref fo), some (.ref wa), v6, some (.int (pl' : Nat)), v8, v9, v10] ∧
                    Kp g.S H H'' ∧ GrowAt K κ H'' g ∧ PairsAt H'' fo fas fs' ∧ PairsAt H'' wa was l'.reverse ∧ Cov g.rd.wd g.rd.ls (g.F n) n b e pl' fs' l' ∧ nsum g.rd.wd l' < nsum g.rd.wd ((c, r) :: l), rt := Q, bk := fun _ _ => False, ct := fun _ _ => False }
                [some (.ref g.a), some (.int (n : Nat)), some (.int (b : Nat)), some (.int (e : Nat)), some (.ref fo), some (.ref wa), some (.str (sg c)), some (.int (pl : Nat)), some (.int (r : Nat)), some (.int (SG.sz g.rd.wd r c : Nat)), v10] H3 := by
              intro hno
              obtain ⟨r', er⟩ := cov_pos (by omega) hno hp'
              subst er
              obtain ⟨hR3, _, dx3, h3⟩ := hG3.choose_spec.choose_spec.b
              obtain ⟨_, _, dr, kd, f, r1, _⟩ := id hR3
              have w8 := ok.wlen c hcl
              refine ⟨_, rfl, g.a, _, dx3, _, _, rfl, h3, T.c_Growth, T.n_Growth_rules, gfs_rules _ _ _ _, g.ra, dr, _, rfl, r1, rfs_no _ _ (by decide +kernel), _, rfl, g.p, g.ra, g.rd, c, rfl, hR3, hcl, _, rfl, by rw [tx_length]; exact Nat.le_of_lt (small_line (by omega)), ?_⟩
              refine for_it walk_revS (fun j σ H4 => ∃ (v10 : Option V) (was2 : List Addr), σ = [some (.ref g.a), some (.int (n : Nat)), some (.int (b : Nat)), some (.int (e : Nat)), some (.ref fo), some (.ref wa), some (.str (sg c)), some (.int (pl : Nat)), some (.int ((r' + 1 : Nat) : Int)), some (.int (SG.sz g.rd.wd (r' + 1) c : Nat)), v10] ∧
                  Kp g.S H H4 ∧ GrowAt K κ H4 g ∧ PairsAt H4 fo fas fs ∧ PairsAt H4 wa was2 (l.reverse ++ ((g.rd.wd c).reverse.take j).map fun y => (y, r')))
                ⟨v10, was', rfl, k3', hG3, hF3, by rw [List.take_zero, List.map_nil, List.append_nil]; exact hW3⟩ (fun _ _ _ _ _ => trivial) ?_ ?_
              · rintro j x σ H4 H4' hj ⟨v10, was2, rfl, k4, hG4, hF4, hW4⟩ ⟨rfl, y, hy, rfl⟩
                rw [tx_size] at hj
                rw [rev_at hj] at hy
                refine ⟨_, rfl, .inl ⟨rfl, _, SqL.of hW4.1⟩, _, rfl, _, rfl, _, _, rfl, rfl, by show 2 ≤ sizeLine; decide, fun q5 hq5 => ?_⟩
                have er : (((r' + 1 : Nat) : Int)) - 1 = ((r' : Nat) : Int) := by omega
                dsimp only
                rw [er]
                have s5 := Same.new (o := .tup [V.str (sg y), V.int (r' : Nat)]) hq5
                have hW5 := hW4.same s5
                refine ⟨wa, _, _, rfl, rfl, hW5.1, ?_, ?_⟩
                · have z3 : l.length + 1 ≤ 3208 := by rw [List.length_cons] at z2; exact z2
                  rw [List.length_map, hW5.2.1, List.length_append, List.length_reverse, List.length_map, List.length_take]
                  exact small_line (by omega)
                · rw [append_refs]
                  refine ⟨_, was2 ++ [q5], rfl, (k4.trans (Same.kp s5)).mut hwaH, (hG4.same s5).other hW5.1 nwS, (hF4.same s5).other hW5.1 nfw, ?_⟩
                  have em : (((g.rd.wd c).reverse.take j ++ [y]).map fun y => (y, r')) = (((g.rd.wd c).reverse.take j).map fun y => (y, r')) ++ [(y, r')] := by rw [List.map_append]; rfl
                  rw [take_snoc hy, em, ← List.append_assoc]
                  exact hW5.push (x := (y, r')) upd_same
              · rintro σ H4 ⟨v10, was2, rfl, k4, hG4, hF4, hW4⟩
                rw [tx_size, List.take_of_length_le (by rw [List.length_reverse]; exact Nat.le_refl _)] at hW4
                have ekids : (kids g.rd.wd c r' ++ l).reverse = l.reverse ++ (g.rd.wd c).reverse.map fun y => (y, r') := by
                  rw [List.reverse_append]
                  unfold kids
                  rw [List.map_reverse]
                exact ⟨_, _, _, _, pl, fs, kids g.rd.wd c r' ++ l, fas, was2, rfl, k4, hG4, hF4, by rw [ekids]; exact hW4, cov_grow hC w8 (ok.win c hcl) (by omega) hno hp', nsum_grow⟩
            refine ite2d (fun h2 => ?_) (fun h2 => ?_)
            · refine ⟨_, rfl, _, rfl, _, _, rfl, rfl, _, rfl, _, _, rfl, rfl, _, rfl, ite2d (fun h3 => ?_) (fun h3 => ?_)⟩
              · refine ⟨_, rfl, .inl ⟨rfl, _, SqL.of hF3.1⟩, _, rfl, _, rfl, by show 2 ≤ sizeLine; decide, fun q4 hq4 => ?_⟩
                have s4 := Same.new (o := .tup [V.str (sg c), V.int (r : Nat)]) hq4
                have hF4 := hF3.same s4
                refine ⟨fo, _, _, rfl, rfl, hF4.1, ?_, ?_⟩
                · rw [List.length_map, hF4.2.1]
                  exact small_line (by omega)
                rw [append_refs]
                refine ⟨_, rfl, _, rfl, _, _, rfl, rfl, ?_⟩
                have ep : ((pl : Nat) : Int) + ((SG.sz g.rd.wd r c : Nat) : Int) = ((pl + SG.sz g.rd.wd r c : Nat) : Int) := by omega
                dsimp only
                rw [ep]
                exact ⟨_, _, _, _, pl + SG.sz g.rd.wd r c, fs ++ [(c, r)], l, fas ++ [q4], was', rfl, (k3'.trans (Same.kp s4)).mut hfo, (hG3.same s4).other hF4.1 nfS, hF4.push (x := (c, r)) upd_same, (hW3.same s4).other hF4.1 nfw.symm, cov_find hC (by omega) (by omega), nsum_pop⟩
              · exact grow (by omega)
            · exact grow (by omega)
        · exact ⟨_, rfl, k fo H' fas fs hfo k1 hG1 hF z1 hC.fin (cov_end hC (.inr (by omega)))⟩
end
end SG

/-! ## SgDraw -/
set_option autoImplicit true
set_option Elab.async false
set_option maxRecDepth 100000
set_option maxHeartbeats 4000000
namespace SG
open PySem PySem.Spec PyProof.Rows L2
/-! ### drawings as data -/
def dfs (ga ra p dl : Addr) : List (Str × V) := [("growth", .ref ga), ("rules", .ref ra), ("own_pen", .ref p), ("tables", .ref dl)]
section
variable (ga ra p dl : Addr)
theorem dfs_no {m : Str} (h : (["growth", "rules", "own_pen", "tables"] : List Str).all (fun k => decide (¬ m = k)) = true) : (dfs ga ra p dl).lookup m = none := look_none h
theorem dfs_growth : (dfs ga ra p dl).lookup ("growth" : Str) = some (.ref ga) := look_here _
theorem dfs_rules : (dfs ga ra p dl).lookup ("rules" : Str) = some (.ref ra) := by unfold dfs; rw [look_cons _ (by decide +kernel), look_here]
theorem dfs_pen : (dfs ga ra p dl).lookup ("own_pen" : Str) = some (.ref p) := by unfold dfs; rw [look_cons _ (by decide +kernel), look_cons _ (by decide +kernel), look_here]
theorem dfs_tables : (dfs ga ra p dl).lookup ("tables" : Str) = some (.ref dl) := by unfold dfs; rw [look_cons _ (by decide +kernel), look_cons _ (by decide +kernel), look_cons _ (by decide +kernel), look_here]
end
structure DI where
  g : GI
  d : Addr
  dl : Addr
def RD.dd (rd : RD) (x : Nat) : Dd := ddOf (rd.deed x)
def dds (rd : RD) (r c : Nat) : List Dd := (gr rd.wd r c).map rd.dd
def DTab (K : PySem.W.Frag) (κ : Bool) (H : Hp) (p q : Addr) (rd : RD) (r : Nat) : Prop := ∃ f : Nat → Addr, H q = some (.dK (kvL rd.ls fun c => .ref (f c))) ∧ ∀ c ∈ rd.ls, TrackOf K κ H p (f c) (dds rd r c)
def DrawB (K : PySem.W.Frag) (κ : Bool) (H : Hp) (d : DI) : Prop := RulesAt K κ H d.g.p d.g.ra d.g.rd ∧ ∃ dx, H d.d = some (.ins (gA K "Drawing") dx (dfs d.g.a d.g.ra d.g.p d.dl))
structure DrawN (K : PySem.W.Frag) (κ : Bool) (H : Hp) (d : DI) (ts : List Addr) : Prop where
  b : DrawB K κ H d
  ht : H d.dl = some (.lst (ts.map V.ref))
  le : ts.length ≤ 201
  tb : ∀ (r : Nat) q, ts[r]? = some q → DTab K κ H d.g.p q d.g.rd r
structure DW (K : PySem.W.Frag) (κ : Bool) (H : Hp) (d : DI) : Prop where
  grow : GrowAt K κ H d.g
  draw : ∃ ts, DrawN K κ H d ts
  ns : d.dl ≠ d.g.sl
  nt : d.dl ≠ d.g.tl
def DI.S (d : DI) : List Addr := [d.g.sl, d.g.tl, d.dl]
theorem ints_nl {l : List Int} (h : 0 < l.length) : ∀ as : List Addr, HO.lst (l.map V.int) ≠ .lst (as.map V.ref) := fun as e => by
  injection e with e
  cases l with
  | nil => exact absurd h (Nat.lt_irrefl _)
  | cons x l =>
    cases as with
    | nil => cases e
    | cons a as => injection e with e1 _; cases e1
section
variable {S : List Addr} {H H' : Hp} {K : PySem.W.Frag} {κ : Bool}
theorem TrackOf.kp (k : Kp S H H') (L : Lists S H) {p a : Addr} {ds : List Dd} (h : TrackOf K κ H p a ds) : TrackOf K κ H' p a ds := by
  obtain ⟨c, ⟨dx, r, h1, ss, rl, tl, h2, h3, h4, h5⟩, hc⟩ := h
  have n0 := nW_pos κ
  exact ⟨c, ⟨dx, r, k.at_ L h1 ins_nl, ss, rl, tl, k.at_ L h2 tup_nl, k.at_ L h3 tup_nl, k.at_ L h4 (ints_nl (by rw [hc.R]; exact n0)), k.at_ L h5 (ints_nl (by rw [hc.T]; exact n0))⟩, hc⟩
theorem DTab.kp (k : Kp S H H') (L : Lists S H) {p q : Addr} {rd : RD} {r : Nat} (h : DTab K κ H p q rd r) : DTab K κ H' p q rd r := let ⟨f, e, s⟩ := h; ⟨f, k.at_ L e dK_nl, fun c hc => (s c hc).kp k L⟩
theorem DTab.same {p q : Addr} {rd : RD} {r : Nat} (e : Same H H') (h : DTab K κ H p q rd r) : DTab K κ H' p q rd r := let ⟨f, h1, h2⟩ := h; ⟨f, e _ _ h1, fun c hc => (h2 c hc).same e⟩
theorem DrawB.kp (k : Kp S H H') (L : Lists S H) {d : DI} (h : DrawB K κ H d) : DrawB K κ H' d := let ⟨h1, dx, h2⟩ := h; ⟨h1.kp k L, dx, k.at_ L h2 ins_nl⟩
theorem DrawB.same {d : DI} (e : Same H H') (h : DrawB K κ H d) : DrawB K κ H' d := let ⟨h1, dx, h2⟩ := h; ⟨h1.same e, dx, e _ _ h2⟩
theorem DrawN.kp (k : Kp S H H') (L : Lists S H) {d : DI} {ts : List Addr} (hd : ¬ d.dl ∈ S) (h : DrawN K κ H d ts) : DrawN K κ H' d ts := ⟨h.b.kp k L, k _ _ h.ht hd, h.le, fun r q x => (h.tb r q x).kp k L⟩
theorem DrawN.same {d : DI} {ts : List Addr} (e : Same H H') (h : DrawN K κ H d ts) : DrawN K κ H' d ts := ⟨h.b.same e, e _ _ h.ht, h.le, fun r q x => (h.tb r q x).same e⟩
theorem GrowAt.kp (k : Kp S H H') (L : Lists S H) {g : GI} (h1 : ¬ g.sl ∈ S) (h2 : ¬ g.tl ∈ S) (h : GrowAt K κ H g) : GrowAt K κ H' g := by
  obtain ⟨ss, ts, q⟩ := h
  exact ⟨ss, ts, q.b.kp k L, q.ne, k _ _ q.hs h1, k _ _ q.ht h2, q.len, q.le, fun r z x => (q.sz r z x).kp k L, fun r z x => (q.tb r z x).kp k L⟩
theorem DW.same {d : DI} (e : Same H H') (h : DW K κ H d) : DW K κ H' d := ⟨h.grow.same e, let ⟨ts, q⟩ := h.draw; ⟨ts, q.same e⟩, h.ns, h.nt⟩
theorem DW.lists {d : DI} (h : DW K κ H d) : Lists d.S H := fun b hb => by
  obtain ⟨ss, ts, q⟩ := h.grow
  obtain ⟨us, r⟩ := h.draw
  rcases List.mem_cons.mp hb with e | hb
  · rw [e]; exact ⟨ss, q.hs⟩
  · rcases List.mem_cons.mp hb with e | hb
    · rw [e]; exact ⟨ts, q.ht⟩
    · rw [List.mem_singleton.mp hb]; exact ⟨us, r.ht⟩
theorem Kp.wide {d : DI} (k : Kp d.g.S H H') : Kp d.S H H' := fun b o e hb => k b o e fun q => hb (by
  rcases List.mem_cons.mp q with e | q
  · rw [e]; exact List.mem_cons_self
  · rw [List.mem_singleton.mp q]; exact List.mem_cons_of_mem _ List.mem_cons_self)
theorem Kp.wideD {d : DI} (k : Kp [d.dl] H H') : Kp d.S H H' := fun b o e hb => k b o e fun q => hb (by
  rw [List.mem_singleton.mp q]; exact List.mem_cons_of_mem _ (List.mem_cons_of_mem _ List.mem_cons_self))
theorem DW.nS {d : DI} (h : DW K κ H d) : ¬ d.dl ∈ d.g.S := fun q => by
  rcases List.mem_cons.mp q with e | q
  · exact h.ns e
  · exact h.nt (List.mem_singleton.mp q)
/-- behind what the growth does -/
theorem DW.grew {d : DI} (h : DW K κ H d) (k : Kp d.g.S H H') (hG : GrowAt K κ H' d.g) : DW K κ H' d :=
  ⟨hG, let ⟨ts, q⟩ := h.draw; ⟨ts, q.kp k h.grow.lists h.nS⟩, h.ns, h.nt⟩
/-- behind what the drawing does -/
theorem DW.drew {d : DI} (h : DW K κ H d) (k : Kp [d.dl] H H') (hD : ∃ ts, DrawN K κ H' d ts) : DW K κ H' d := by
  obtain ⟨ts, q⟩ := h.draw
  exact ⟨h.grow.kp k (lists_one q.ht) (fun e => h.ns (List.mem_singleton.mp e).symm) (fun e => h.nt (List.mem_singleton.mp e).symm), hD, h.ns, h.nt⟩
end
/-! lengths -/
theorem flat_len {rd : RD} (ok : RdOk rd) {r : Nat} : ∀ (l : List Nat), (∀ x ∈ l, x ∈ rd.ls) → (l.flatMap (gr rd.wd r)).length ≤ l.length * 8 ^ r
  | [], _ => Nat.zero_le _
  | c :: l, h => by
    have h1 := sz_le (wd := rd.wd) (ls := rd.ls) (fun c hc => ⟨ok.wlen c hc, ok.win c hc⟩) r c (h c List.mem_cons_self)
    have h2 := flat_len (r := r) ok l fun x hx => h x (List.mem_cons_of_mem _ hx)
    rw [List.flatMap_cons, List.length_append, List.length_cons, Nat.succ_mul]
    have : (gr rd.wd r c).length ≤ 8 ^ r := h1
    omega
theorem len_small {n r : Nat} {l : Nat} (hl : l ≤ n * 8 ^ r) (hn : n ≤ 8) (hr : r ≤ 200) : l < 2 ^ 3000 := by
  have h1 : n * 8 ^ r ≤ 8 * 8 ^ 200 := Nat.mul_le_mul hn (Nat.pow_le_pow_right (by decide) hr)
  have h2 : (8 : Nat) * 8 ^ 200 = 2 ^ 603 := by decide +kernel
  have h3 : (2 : Nat) ^ 603 < 2 ^ 3000 := Nat.pow_lt_pow_right (by decide) (by decide)
  omega
def spDFirst (K : PySem.W.Frag) (κ : Bool) : Sp := fun vs H Q _ => ∃ d : DI, vs = [.ref d.d] ∧ DrawB K κ H d ∧ ∀ q H', H q = none → Same H H' → DTab K κ H' d.g.p q d.g.rd 0 → Q (.ref q) H'
def spDNext (K : PySem.W.Frag) (κ : Bool) : Sp := fun vs H Q _ => ∃ (d : DI) (t : Addr) (r : Nat), vs = [.ref d.d, .ref t] ∧ r ≤ 200 ∧ DrawB K κ H d ∧ DTab K κ H d.g.p t d.g.rd r ∧ ∀ q H', H q = none → Same H H' → DTab K κ H' d.g.p q d.g.rd (r + 1) → Q (.ref q) H'
def spDGrown (K : PySem.W.Frag) (κ : Bool) : Sp := fun vs H Q _ => ∃ (d : DI) (r : Nat), vs = [.ref d.d, .int (r : Nat)] ∧ r ≤ 200 ∧ (∃ ts, DrawN K κ H d ts) ∧ ∀ q H', Kp [d.dl] H H' → (∃ ts, DrawN K κ H' d ts) → DTab K κ H' d.g.p q d.g.rd r → Q (.ref q) H'
def spStretch (K : PySem.W.Frag) (κ : Bool) : Sp := fun vs H Q _ => ∃ (d : DI) (n b e : Nat), vs = [.ref d.d, .int (n : Nat), .int (b : Nat), .int (e : Nat)] ∧ n ≤ 200 ∧ DW K κ H d ∧ b ≤ e ∧ e ≤ (d.g.F n).length ∧
  ∀ q H', Kp d.S H H' → DW K κ H' d → TrackOf K κ H' d.g.p q ((((d.g.F n).take e).drop b).map d.g.rd.dd) → Q (.ref q) H'
section
variable {P : Program} {w : World} {K : PySem.W.Frag} {mg : Str → Option Value} {base : Heap}
theorem sc_dfirst : FnScope ["self", "table", "letter"] ["self"] (defScope s_Drawing_first_table) := ⟨rfl, rfl, rfl, by decide +kernel, rfl, by decide +kernel, by decide +kernel⟩
theorem has_dfirst (T : Tx K mg) (κ : Bool) : Has P w K mg base 8 (mA K "Drawing" "first_table") ["self"] (spDFirst K κ) [] := by
  obtain ⟨fd, F⟩ := T.fd_Drawing_first_table
  refine hasD F sc_dfirst (fun vs H Q E h => ?_) (fun _ _ _ _ _ _ us hl => match us, hl with | [_], _ => rfl) (fun cdv A outer s H vs Q E hr h => ?_)
  · obtain ⟨d, rfl, _⟩ := h
    rfl
  · obtain ⟨d, rfl, ⟨hR, dx, h1⟩, k⟩ := h
    have nd := sc_dfirst.nd
    have hu := hu_of hr
    obtain ⟨hp, ok, dr, kd, f, r1, _⟩ := id hR
    have l6 := ok.six
    refine ⟨_, (pss_cons (ps_set (i := 1) nd rfl (Or.inl rfl) pe_dnewK)
        (pss_cons (ps_for PassesOwn.never rfl (pi_str (pm0 (pe_fld (pv 0) rfl) T.c_Rules T.m_Rules_letters (has_letters T κ) hr)) (pg_name (i := 2) nd rfl (Or.inl rfl))
        (pss_one (ps_dput hu (pv 1) (pv 2) (pcl T.g_track_of (has_track_of T κ) hr (pa_cons (pe_fld (pv 0) rfl) (pa_cons (pe_lst (pa_cons (pm (pe_fld (pv 0) rfl) T.c_Rules T.m_Rules_deed (has_deed T κ) hr (pa_cons (pv 2) pa_nil)) pa_nil)) pa_nil))) rfl)))
        (pss_one (ps_ret (pv 1))))), ?_⟩
    intro q hq
    have s1 := Same.new (o := .dK []) hq
    refine ⟨_, rfl, d.d, _, dx, _, _, rfl, s1 _ _ h1, T.c_Drawing, T.n_Drawing_rules, dfs_rules _ _ _ _, d.g.ra, dr, _, rfl, s1 _ _ r1, rfs_no _ _ (by decide +kernel), d.g.p, d.g.ra, d.g.rd, rfl, hR.same s1, fun H2 s2 => ⟨_, rfl, ?_⟩⟩
    refine for_it walk_str (fun i σ H' => ∃ (v2 : Option V) (F : Nat → Addr), σ = [some (.ref d.d), some (.ref q), v2] ∧ Same H H' ∧ H' q = some (.dK (kvL (d.g.rd.ls.take i) fun c => .ref (F c))) ∧ ∀ c ∈ d.g.rd.ls.take i, TrackOf K κ H' d.g.p (F c) (dds d.g.rd 0 c))
      ⟨none, fun _ => 0, rfl, s1.trans s2, s2 _ _ upd_same, fun c hc => by simp at hc⟩ (fun _ _ _ _ _ => trivial) ?_ ?_
    · rintro i x σ H' H'' hi ⟨v2, F, rfl, t, hD, hF⟩ ⟨rfl, c, hc, rfl⟩
      rw [tx_at] at hc
      have hcm := List.mem_of_getElem? hc
      refine ⟨_, rfl, d.d, _, dx, _, _, rfl, t _ _ h1, T.c_Drawing, T.n_Drawing_own_pen, dfs_pen _ _ _ _, ?_⟩
      refine ⟨_, rfl, d.d, _, dx, _, _, rfl, t _ _ h1, T.c_Drawing, T.n_Drawing_rules, dfs_rules _ _ _ _, d.g.ra, dr, _, rfl, t _ _ r1, rfs_no _ _ (by decide +kernel), _, rfl, d.g.p, d.g.ra, d.g.rd, c, rfl, hR.same t, hcm, by show 1 ≤ sizeLine; decide, fun l hl => ?_⟩
      have s3 := Same.new (o := .lst [V.str (d.g.rd.deed c)]) hl
      refine ⟨d.g.p, l, [d.g.rd.deed c], rfl, (hp.same t).same s3, upd_same, Nat.le_refl _, fun z hz => by rw [List.mem_singleton.mp hz]; exact ok.deed c hcm, fun tr cc H3 htr s4 hT hIs => ?_⟩
      have s34 := s3.trans s4
      have nqt : q ≠ tr := ne_of_none (s3 _ _ hD) htr
      refine ⟨_, rfl, _, rfl, q, _, rfl, DPut.k (k := Sum.inr (sg c)) (s34 _ _ hD) ?_, ?_⟩
      · rw [kvL_len, List.length_take]
        exact small6 (by omega)
      · have kq : Kp [q] H3 (upd H3 q (.dK (putK (kvL (d.g.rd.ls.take i) fun c => V.ref (F c)) (Sum.inr (sg c)) (V.ref tr)))) := Kp.one
        have keep : ∀ {a : Addr} {es : List Dd}, TrackOf K κ H3 d.g.p a es → TrackOf K κ (upd H3 q (.dK (putK (kvL (d.g.rd.ls.take i) fun c => V.ref (F c)) (Sum.inr (sg c)) (V.ref tr)))) d.g.p a es := fun {a es} h => by
          obtain ⟨c', ⟨dx', r', g1, ss, rl, tl, g2, g3, g4, g5⟩, hc'⟩ := h
          have hq3 := s34 _ _ hD
          have nn : ∀ {b : Addr} {o : HO}, H3 b = some o → (∀ kvs, o ≠ .dK kvs) → (upd H3 q (.dK (putK (kvL (d.g.rd.ls.take i) fun c => V.ref (F c)) (Sum.inr (sg c)) (V.ref tr)))) b = some o := fun e ho => (upd_ne (ne_of e hq3 (ho _))).trans e
          exact ⟨c', ⟨dx', r', nn g1 (fun _ e => by cases e), ss, rl, tl, nn g2 (fun _ e => by cases e), nn g3 (fun _ e => by cases e), nn g4 (fun _ e => by cases e), nn g5 (fun _ e => by cases e)⟩, hc'⟩
        refine ⟨_, fun z => if z = c then tr else F z, rfl, mut_same (t.trans s34) hq, ?_, fun z hz => ?_⟩
        · rw [upd_same, putL _ (take_notin ok.nd hc), take_snoc hc]
          refine congrArg (fun z => some (HO.dK z)) (kvL_congr fun z _ => ?_)
          show (if z = c then V.ref tr else V.ref (F z)) = V.ref (if z = c then tr else F z)
          by_cases e : z = c
          · rw [if_pos e, if_pos e]
          · rw [if_neg e, if_neg e]
        · show TrackOf K κ _ _ (if z = c then tr else F z) _
          by_cases e : z = c
          · rw [if_pos e, e]
            exact keep ⟨cc, hT, hIs⟩
          · rw [if_neg e]
            rw [take_snoc hc] at hz
            have hz' : z ∈ d.g.rd.ls.take i := by
              rcases List.mem_append.mp hz with h | h
              · exact h
              · exact absurd (List.mem_singleton.mp h) e
            exact keep ((hF z hz').same s34)
    · rintro σ H' ⟨v2, F, rfl, t, hD, hF⟩
      rw [tx_size, List.take_of_length_le (Nat.le_refl _)] at hD hF
      exact ⟨_, rfl, k q H' hq t ⟨F, hD, fun c hc => hF c hc⟩⟩
end
end SG

/-! ## SgDraw2 -/
set_option autoImplicit true
set_option Elab.async false
set_option maxRecDepth 100000
set_option maxHeartbeats 4000000
namespace SG
open PySem PySem.Spec PyProof.Rows L2
theorem TrackOf.dput {K : PySem.W.Frag} {κ : Bool} {H : Hp} {q p a : Addr} {kvs : List (Key × V)} {o : HO} {ds : List Dd} (hq : H q = some (.dK kvs)) (h : TrackOf K κ H p a ds) : TrackOf K κ (upd H q o) p a ds := by
  obtain ⟨c', ⟨dx', r', g1, ss, rl, tl, g2, g3, g4, g5⟩, hc'⟩ := h
  have nn : ∀ {b : Addr} {u : HO}, H b = some u → (∀ kvs, u ≠ .dK kvs) → (upd H q o) b = some u := fun e ho => (upd_ne (ne_of e hq (ho _))).trans e
  exact ⟨c', ⟨dx', r', nn g1 (fun _ e => by cases e), ss, rl, tl, nn g2 (fun _ e => by cases e), nn g3 (fun _ e => by cases e), nn g4 (fun _ e => by cases e), nn g5 (fun _ e => by cases e)⟩, hc'⟩
theorem flat_snoc {l : List Nat} {j y : Nat} (f : Nat → List Nat) (h : l[j]? = some y) : (l.take (j + 1)).flatMap f = (l.take j).flatMap f ++ f y := by
  rw [take_snoc h, List.flatMap_append]; simp
theorem flat_take_len {f : Nat → List Nat} {l : List Nat} {j : Nat} : ((l.take j).flatMap f).length ≤ (l.flatMap f).length := by
  have e : l.flatMap f = (l.take j).flatMap f ++ (l.drop j).flatMap f := by rw [← List.flatMap_append, List.take_append_drop]
  rw [e, List.length_append]; omega
theorem gr_succ (wd : Nat → List Nat) (r c : Nat) : gr wd (r + 1) c = (wd c).flatMap (gr wd r) := rfl
theorem exps_snoc {wd : Nat → List Nat} {l : List Nd} {j : Nat} {y : Nd} (h : l[j]? = some y) : exps wd (l.take (j + 1)) = exps wd (l.take j) ++ gr wd y.2 y.1 := by
  unfold exps
  rw [take_snoc h, List.flatMap_append]; simp [ex1]
theorem exps_take_len {wd : Nat → List Nat} {l : List Nd} {j : Nat} : (exps wd (l.take j)).length ≤ (exps wd l).length := by
  have e : exps wd l = exps wd (l.take j) ++ exps wd (l.drop j) := by unfold exps; rw [← List.flatMap_append, List.take_append_drop]
  rw [e, List.length_append]; omega
section
variable {P : Program} {w : World} {K : PySem.W.Frag} {mg : Str → Option Value} {base : Heap}
theorem sc_dnext : FnScope ["self", "ahead", "table", "letter", "track", "younger"] ["self", "ahead"] (defScope s_Drawing_next_table) := ⟨rfl, rfl, rfl, by decide +kernel, rfl, by decide +kernel, by decide +kernel⟩
theorem has_dnext (T : Tx K mg) (κ : Bool) : Has P w K mg base 8 (mA K "Drawing" "next_table") ["self", "ahead"] (spDNext K κ) [] := by
  obtain ⟨fd, F⟩ := T.fd_Drawing_next_table
  refine hasD F sc_dnext (fun vs H Q E h => ?_) (fun _ _ _ _ _ _ us hl => match us, hl with | [_, _], _ => rfl) (fun cdv A outer s H vs Q E hr h => ?_)
  · obtain ⟨d, ta, r, rfl, _⟩ := h
    rfl
  · obtain ⟨d, ta, r, rfl, hr200, ⟨hR, dx, h1⟩, ⟨fa, hta, hfa⟩, k⟩ := h
    have nd := sc_dnext.nd
    have hu := hu_of hr
    obtain ⟨hp, ok, dr, kd, f, r1, _⟩ := id hR
    have l6 := ok.six
    refine ⟨_, (pss_cons (ps_set (i := 2) nd rfl (Or.inl rfl) pe_dnewK)
        (pss_cons (ps_for PassesOwn.never rfl (pi_str (pm0 (pe_fld (pv 0) rfl) T.c_Rules T.m_Rules_letters (has_letters T κ) hr)) (pg_name (i := 3) nd rfl (Or.inl rfl))
        (pss_cons (ps_set (i := 4) nd rfl (Or.inl rfl) (pcl T.g_still (has_still T κ) hr (pa_cons (pe_fld (pv 0) rfl) pa_nil)))
        (pss_cons (ps_for PassesOwn.never rfl (pi_str (pm (pe_fld (pv 0) rfl) T.c_Rules T.m_Rules_word (has_word T κ) hr (pa_cons (pv 3) pa_nil))) (pg_name (i := 5) nd rfl (Or.inl rfl))
            (pss_one (ps_set (i := 4) nd rfl (Or.inl rfl) (pm (pv 4) T.c_Track T.m_Track_joined (has_joinT T κ) hr (pa_cons (pe_dget hu (pv 1) (pv 5) (fun _ _ => rfl)) pa_nil)))))
        (pss_one (ps_dput hu (pv 2) (pv 3) (pv 4) rfl)))))
        (pss_one (ps_ret (pv 2))))), ?_⟩
    intro q hq
    have s1 := Same.new (o := .dK []) hq
    refine ⟨_, rfl, d.d, _, dx, _, _, rfl, s1 _ _ h1, T.c_Drawing, T.n_Drawing_rules, dfs_rules _ _ _ _, d.g.ra, dr, _, rfl, s1 _ _ r1, rfs_no _ _ (by decide +kernel), d.g.p, d.g.ra, d.g.rd, rfl, hR.same s1, fun H2 s2 => ⟨_, rfl, ?_⟩⟩
    refine for_it walk_str (fun i σ H' => ∃ (v3 v4 v5 : Option V) (F : Nat → Addr), σ = [some (.ref d.d), some (.ref ta), some (.ref q), v3, v4, v5] ∧ Same H H' ∧ H' q = some (.dK (kvL (d.g.rd.ls.take i) fun c => .ref (F c))) ∧ ∀ c ∈ d.g.rd.ls.take i, TrackOf K κ H' d.g.p (F c) (dds d.g.rd (r + 1) c))
      ⟨none, none, none, fun _ => 0, rfl, s1.trans s2, s2 _ _ upd_same, fun c hc => by simp at hc⟩ (fun _ _ _ _ _ => trivial) ?_ ?_
    · rintro i x σ H' H'' hi ⟨v3, v4, v5, F, rfl, t, hD, hF⟩ ⟨rfl, c, hc, rfl⟩
      rw [tx_at] at hc
      have hcm := List.mem_of_getElem? hc
      have w8 := ok.wlen c hcm
      refine ⟨_, rfl, d.d, _, dx, _, _, rfl, t _ _ h1, T.c_Drawing, T.n_Drawing_own_pen, dfs_pen _ _ _ _, d.g.p, rfl, hp.same t, fun tr0 H3 htr0 s3 hT0 => ?_⟩
      have u3 := t.trans s3
      refine ⟨_, rfl, d.d, _, dx, _, _, rfl, u3 _ _ h1, T.c_Drawing, T.n_Drawing_rules, dfs_rules _ _ _ _, d.g.ra, dr, _, rfl, u3 _ _ r1, rfs_no _ _ (by decide +kernel), _, rfl, d.g.p, d.g.ra, d.g.rd, c, rfl, hR.same u3, hcm, _, rfl, ?_⟩
      refine for_it walk_str (fun j σ H4 => ∃ (v5 : Option V) (tr : Addr), σ = [some (.ref d.d), some (.ref ta), some (.ref q), some (.str (sg c)), some (.ref tr), v5] ∧ Same H3 H4 ∧ TrackOf K κ H4 d.g.p tr ((((d.g.rd.wd c).take j).flatMap (gr d.g.rd.wd r)).map d.g.rd.dd))
        ⟨v5, tr0, rfl, fun _ _ e => e, hT0⟩ (fun _ _ _ _ _ => trivial) ?_ ?_
      · rintro j x σ H4 H4' hj ⟨v5, tr, rfl, s4, hT⟩ ⟨rfl, y, hy, rfl⟩
        rw [tx_at] at hy
        have hym := ok.win c hcm y (List.mem_of_getElem? hy)
        have u4 := u3.trans s4
        obtain ⟨cc, ⟨tdx, r', g1, g2⟩, hcc⟩ := id hT
        refine ⟨_, rfl, tr, tdx, _, rfl, g1, tfs_no _ _ (by decide +kernel), _, rfl, _, rfl, ta, .ref (fa y), rfl, ?_, d.g.p, tr, fa y, _, dds d.g.rd r y, rfl, hT, (hfa y hym).same u4, hp.same u4, ?_, ?_, fun tr2 H5 htr2 s5 hT5 => ?_⟩
        · rw [← valL_in (ls := d.g.rd.ls) (fun c => V.ref (fa c)) hym]
          exact DGet.k (k := Sum.inr (sg y)) (u4 _ _ hta)
        · rw [List.length_map]
          exact len_small (Nat.le_trans flat_take_len (flat_len ok _ (ok.win c hcm))) w8 hr200
        · unfold dds
          rw [List.length_map]
          exact len_small (n := 1) (by rw [Nat.one_mul]; exact sz_le (wd := d.g.rd.wd) (ls := d.g.rd.ls) (fun c hc => ⟨ok.wlen c hc, ok.win c hc⟩) r y hym) (by decide) hr200
        · refine ⟨_, tr2, rfl, s4.trans s5, ?_⟩
          rw [flat_snoc _ hy, List.map_append]
          exact hT5
      · rintro σ H4 ⟨v5, tr, rfl, s4, hT⟩
        rw [tx_size, List.take_of_length_le (Nat.le_refl _)] at hT
        have s34 := s3.trans s4
        have hD4 := s34 _ _ hD
        refine ⟨_, rfl, _, rfl, _, rfl, q, _, rfl, DPut.k (k := Sum.inr (sg c)) hD4 ?_, ?_⟩
        · rw [kvL_len, List.length_take]
          exact small6 (by omega)
        · refine ⟨_, _, _, fun z => if z = c then tr else F z, rfl, mut_same (t.trans s34) hq, ?_, fun z hz => ?_⟩
          · rw [upd_same, putL _ (take_notin ok.nd hc), take_snoc hc]
            refine congrArg (fun z => some (HO.dK z)) (kvL_congr fun z _ => ?_)
            show (if z = c then V.ref tr else V.ref (F z)) = V.ref (if z = c then tr else F z)
            by_cases e : z = c
            · rw [if_pos e, if_pos e]
            · rw [if_neg e, if_neg e]
          · show TrackOf K κ _ _ (if z = c then tr else F z) _
            by_cases e : z = c
            · rw [if_pos e, e]
              exact hT.dput hD4
            · rw [if_neg e]
              rw [take_snoc hc] at hz
              have hz' : z ∈ d.g.rd.ls.take i := by
                rcases List.mem_append.mp hz with h | h
                · exact h
                · exact absurd (List.mem_singleton.mp h) e
              exact ((hF z hz').same s34).dput hD4
    · rintro σ H' ⟨v3, v4, v5, F, rfl, t, hD, hF⟩
      rw [tx_size, List.take_of_length_le (Nat.le_refl _)] at hD hF
      exact ⟨_, rfl, k q H' hq t ⟨F, hD, fun c hc => hF c hc⟩⟩
theorem sc_dgrown : FnScope ["self", "rounds"] ["self", "rounds"] (defScope s_Drawing_grown) := ⟨rfl, rfl, rfl, by decide +kernel, rfl, by decide +kernel, by decide +kernel⟩
theorem has_dgrown (T : Tx K mg) (κ : Bool) : Has P w K mg base 9 (mA K "Drawing" "grown") ["self", "rounds"] (spDGrown K κ) [] := by
  obtain ⟨fd, F⟩ := T.fd_Drawing_grown
  refine hasD F sc_dgrown (fun vs H Q E h => ?_) (fun _ _ _ _ _ _ us hl => match us, hl with | [_, _], _ => rfl) (fun cdv A outer s H vs Q E hr h => ?_)
  · obtain ⟨d, r, rfl, _⟩ := h
    rfl
  · obtain ⟨d, r, rfl, hr200, ⟨ts0, hD0⟩, k⟩ := h
    have nd := sc_dgrown.nd
    refine ⟨_, (pss_cons (ps_while PassesOwn.never (pt_cmpR op_le (pe_callB call_len_seq (by rfl) T.f_len PySem.boot_len (pa_cons (pe_fld (pv 0) rfl) pa_nil)) (pv 1) (nomark _))
        (pss_one (ps_if (pt_cmpR op_eq (pe_callB call_len_seq (by rfl) T.f_len PySem.boot_len (pa_cons (pe_fld (pv 0) rfl) pa_nil)) pe_int (nomark _)) (pss_one (ps_expr (pe_bm PySem.F.plainAttrs_list PySem.F.slot_list_append PySem.F.type_list_append mt_append (pe_fld (pv 0) rfl) (pa_cons (pm0 (pv 0) T.c_Drawing T.m_Drawing_first_table (has_dfirst T κ) hr) pa_nil))))
            (pss_one (ps_expr (pe_bm PySem.F.plainAttrs_list PySem.F.slot_list_append PySem.F.type_list_append mt_append (pe_fld (pv 0) rfl) (pa_cons (pm (pv 0) T.c_Drawing T.m_Drawing_next_table (has_dnext T κ) hr (pa_cons (pe_ix ix_list (pe_fld (pv 0) rfl) (pe_un un_neg pe_int) (fun _ _ => rfl)) pa_nil)) pa_nil)))))))
        (pss_one (ps_ret (pe_ix ix_list (pe_fld (pv 0) rfl) (pv 1) (fun _ _ => rfl))))), ?_⟩
    refine ⟨fun m σ H' => ∃ ts : List Addr, σ = [some (.ref d.d), some (.int (r : Nat))] ∧ Kp [d.dl] H H' ∧ DrawN K κ H' d ts ∧ m = r + 1 - ts.length, ⟨_, ts0, rfl, Kp.refl _ _, hD0, rfl⟩, ?_⟩
    rintro m σ H' ⟨ts, rfl, k1, hD, rfl⟩
    obtain ⟨hR, dx, h1⟩ := id hD.b
    refine ⟨_, rfl, d.d, _, dx, _, _, rfl, h1, T.c_Drawing, T.n_Drawing_tables, dfs_tables _ _ _ _, d.dl, _, rfl, .inl (SqL.of hD.ht), _, rfl, _, _, rfl, rfl, _, rfl, ?_⟩
    rw [List.length_map]
    refine ite2d (fun hc => ?_) (fun hc => ?_)
    · have hc' : ts.length ≤ r := by omega
      have nlt : ts.length < sizeLine := small_line (by omega)
      refine ⟨fun σ' H'' => ∃ ts' : List Addr, σ' = [some (.ref d.d), some (.int (r : Nat))] ∧ Kp [d.dl] H H'' ∧ DrawN K κ H'' d ts' ∧ ts'.length = ts.length + 1,
        fun σ' H'' ⟨ts', e1, e2, e3, e4⟩ => ⟨r + 1 - ts'.length, by omega, ts', e1, e2, e3, rfl⟩, ?_⟩
      have fin : ∀ (tb : Addr) (H1 : Hp), Same H' H1 → DTab K κ H1 d.g.p tb d.g.rd ts.length → DrawN K κ (upd H1 d.dl (.lst ((ts ++ [tb]).map V.ref))) d (ts ++ [tb]) ∧ Kp [d.dl] H (upd H1 d.dl (.lst ((ts ++ [tb]).map V.ref))) := by
        intro tb H1 s hT
        have hD1 := hD.same s
        have L := lists_one hD1.ht
        have k2 : Kp [d.dl] H1 (upd H1 d.dl (.lst ((ts ++ [tb]).map V.ref))) := Kp.one
        refine ⟨⟨hD1.b.kp k2 L, upd_same, by rw [List.length_append]; show ts.length + 1 ≤ 201; omega, fun r' q h => ?_⟩, (k1.trans (Same.kp s)).trans k2⟩
        rcases snoc_at h with h | ⟨e, h⟩
        · exact (hD1.tb r' q h).kp k2 L
        · rw [h, e]
          exact hT.kp k2 L
      refine ⟨_, rfl, d.d, _, dx, _, _, rfl, h1, T.c_Drawing, T.n_Drawing_tables, dfs_tables _ _ _ _, d.dl, _, rfl, .inl (SqL.of hD.ht), rfl, _, rfl, ?_⟩
      rw [List.length_map]
      refine ite2d (fun he => ?_) (fun he => ?_)
      · have he' : ts.length = 0 := by
          injection he with he
          omega
        refine ⟨_, rfl, d.d, _, dx, _, _, rfl, h1, T.c_Drawing, T.n_Drawing_tables, dfs_tables _ _ _ _, .inl ⟨rfl, _, SqL.of hD.ht⟩, _, rfl, d.d, dx, _, rfl, h1, dfs_no _ _ _ _ (by decide +kernel), d, rfl, hD.b, fun tb H1 hn s hT => ?_⟩
        refine ⟨d.dl, _, _, rfl, rfl, s _ _ hD.ht, by rw [List.length_map]; exact nlt, ?_⟩
        rw [append_refs]
        obtain ⟨f1, f2⟩ := fin tb H1 s (by rw [he']; exact hT)
        exact ⟨ts ++ [tb], rfl, f2, f1, by rw [List.length_append]; rfl⟩
      · have hne : ts ≠ [] := fun e => he (by rw [e]; rfl)
        obtain ⟨ts', tz, ets⟩ := last_of hne
        have hl : ts.length = ts'.length + 1 := by rw [ets, List.length_append]; rfl
        have hlast : DTab K κ H' d.g.p tz d.g.rd ts'.length := hD.tb _ _ (by rw [ets, List.getElem?_append_right (Nat.le_refl _), Nat.sub_self]; rfl)
        have hat : atI (ts.map V.ref) (-1) = some (V.ref tz) := by
          rw [ets, List.map_append]
          exact atI_last _ _
        refine ⟨_, rfl, d.d, _, dx, _, _, rfl, h1, T.c_Drawing, T.n_Drawing_tables, dfs_tables _ _ _ _, .inl ⟨rfl, _, SqL.of hD.ht⟩, _, rfl, d.d, dx, _, rfl, h1, dfs_no _ _ _ _ (by decide +kernel), _, rfl, d.d, _, dx, _, _, rfl, h1, T.c_Drawing, T.n_Drawing_tables, dfs_tables _ _ _ _, _, rfl, d.dl, _, _, _, rfl, rfl, SqL.of hD.ht, hat, ?_⟩
        refine ⟨d, tz, ts'.length, rfl, by omega, hD.b, hlast, fun tb H1 hn s hT => ?_⟩
        refine ⟨d.dl, _, _, rfl, rfl, s _ _ hD.ht, by rw [List.length_map]; exact nlt, ?_⟩
        rw [append_refs]
        obtain ⟨f1, f2⟩ := fin tb H1 s (by rw [hl]; exact hT)
        exact ⟨ts ++ [tb], rfl, f2, f1, by rw [List.length_append]; rfl⟩
    · have hr : r < ts.length := by omega
      refine ⟨_, rfl, d.d, _, dx, _, _, rfl, h1, T.c_Drawing, T.n_Drawing_tables, dfs_tables _ _ _ _, _, rfl, d.dl, _, _, .ref ts[r], rfl, rfl, SqL.of hD.ht, at_of (j := r) rfl (by rw [List.getElem?_map, List.getElem?_eq_getElem hr]; rfl), ?_⟩
      exact k ts[r] H' k1 ⟨ts, hD⟩ (hD.tb r _ (List.getElem?_eq_getElem hr))
theorem sc_stretch : FnScope ["self", "number", "begin", "end", "track", "letter", "rounds"] ["self", "number", "begin", "end"] (defScope s_Drawing_stretch) := ⟨rfl, rfl, rfl, by decide +kernel, rfl, by decide +kernel, by decide +kernel⟩
theorem has_stretch (T : Tx K mg) (κ : Bool) : Has P w K mg base 10 (mA K "Drawing" "stretch") ["self", "number", "begin", "end"] (spStretch K κ) [] := by
  obtain ⟨fd, F⟩ := T.fd_Drawing_stretch
  refine hasD F sc_stretch (fun vs H Q E h => ?_) (fun _ _ _ _ _ _ us hl => match us, hl with | [_, _, _, _], _ => rfl) (fun cdv A outer s H vs Q E hr h => ?_)
  · obtain ⟨d, n, b, e, rfl, _⟩ := h
    rfl
  · obtain ⟨d, n, b, e, rfl, hn, hW, hbe, he, k⟩ := h
    have nd := sc_stretch.nd
    have hu := hu_of hr
    refine ⟨_, (pss_cons (ps_expr (pm (pe_fld (pv 0) rfl) T.c_Growth T.m_Growth_needs_stretch (has_needs T κ) hr (pa_cons (pv 1) (pa_cons (pv 2) (pa_cons (pv 3) pa_nil)))))
        (pss_cons (ps_set (i := 4) nd rfl (Or.inl rfl) (pcl T.g_still (has_still T κ) hr (pa_cons (pe_fld (pv 0) rfl) pa_nil)))
        (pss_cons (ps_for PassesOwn.never rfl (pi_list (pm (pe_fld (pv 0) rfl) T.c_Growth T.m_Growth_cover (has_cover T κ) hr (pa_cons (pv 1) (pa_cons (pv 2) (pa_cons (pv 3) pa_nil))))) (pg_tup rfl (pgs_cons (pg_name (i := 5) nd rfl (Or.inl rfl)) (pgs_cons (pg_name (i := 6) nd rfl (Or.inl rfl)) pgs_nil)))
          (pss_one (ps_set (i := 4) nd rfl (Or.inl rfl) (pm (pv 4) T.c_Track T.m_Track_joined (has_joinT T κ) hr (pa_cons (pe_dget hu (pm (pv 0) T.c_Drawing T.m_Drawing_grown (has_dgrown T κ) hr (pa_cons (pv 6) pa_nil)) (pv 5) (fun _ _ => rfl)) pa_nil)))))
        (pss_one (ps_ret (pv 4)))))), ?_⟩
    obtain ⟨hR0, dx0, h0⟩ := hW.draw.choose_spec.b
    obtain ⟨_, hst, gx0, a0⟩ := hW.grow.choose_spec.choose_spec.b
    refine ⟨_, rfl, d.d, _, dx0, _, _, rfl, h0, T.c_Drawing, T.n_Drawing_growth, dfs_growth _ _ _ _, d.g.a, gx0, _, rfl, a0, gfs_no _ _ _ _ (by decide +kernel), _, rfl, _, rfl, _, rfl, d.g, n, b, e, rfl, hn, hW.grow, hbe, he, fun H1 k1 hG1 => ?_⟩
    have hW1 := hW.grew k1 hG1
    obtain ⟨hR1, dx1, h1⟩ := hW1.draw.choose_spec.b
    refine ⟨_, rfl, d.d, _, dx1, _, _, rfl, h1, T.c_Drawing, T.n_Drawing_own_pen, dfs_pen _ _ _ _, d.g.p, rfl, hR1.1, fun tr0 H2 htr0 s2 hT0 => ?_⟩
    have hW2 := hW1.same s2
    obtain ⟨hR2, dx2, h2⟩ := hW2.draw.choose_spec.b
    obtain ⟨_, _, gx2, a2⟩ := hW2.grow.choose_spec.choose_spec.b
    refine ⟨_, rfl, d.d, _, dx2, _, _, rfl, h2, T.c_Drawing, T.n_Drawing_growth, dfs_growth _ _ _ _, d.g.a, gx2, _, rfl, a2, gfs_no _ _ _ _ (by decide +kernel), _, rfl, _, rfl, _, rfl, d.g, n, b, e, rfl, hn, hW2.grow, hbe, he, fun q H3 as cs hq k3 hG3 hP hcl hin hex => ?_⟩
    have hW3 := hW2.grew k3 hG3
    have nqS : ¬ q ∈ d.S := not_S hW2.lists hq
    have nq : ¬ q ∈ [d.dl] := fun e => nqS (List.mem_cons_of_mem _ (List.mem_cons_of_mem _ e))
    have ok := hR2.2.1
    have k13 : Kp d.S H H3 := (k1.wide.trans (Same.kp s2)).trans k3.wide
    have hlF : (d.g.F n).length ≤ d.g.st.length * 8 ^ n := flat_len ok _ hst.win
    have hsl : (exps d.g.rd.wd cs).length ≤ (d.g.F n).length := by rw [hex, List.length_drop, List.length_take]; omega
    refine ⟨q, rfl, ⟨_, SqL.of hP.1⟩, ?_⟩
    refine for_list (K := K) (a := q) (xs := as.map V.ref) (fun i σ H' => ∃ (v5 v6 : Option V) (tr : Addr), σ = [some (.ref d.d), some (.int (n : Nat)), some (.int (b : Nat)), some (.int (e : Nat)), some (.ref tr), v5, v6] ∧ Kp d.S H H' ∧ DW K κ H' d ∧ PairsAt H' q as cs ∧ TrackOf K κ H' d.g.p tr ((exps d.g.rd.wd (cs.take i)).map d.g.rd.dd))
      ⟨none, none, tr0, rfl, k13, hW3, hP, hT0.kp k3.wide hW2.lists⟩ (fun i σ H' _ ⟨_, _, _, _, _, _, t, _⟩ => SqL.of t.1) ?_ ?_
    · rintro i y σ H' hy ⟨v5, v6, tr, rfl, k4, hW4, hP4, hT4⟩
      obtain ⟨a, ha, rfl⟩ := refs_at hy
      have hi := (List.getElem?_eq_some_iff.mp ha).1
      have hlen := hP4.2.1
      obtain ⟨⟨c, r⟩, hc⟩ : ∃ c, cs[i]? = some c := ⟨cs[i]'(by omega), List.getElem?_eq_getElem (by omega)⟩
      obtain ⟨hcm, hrn⟩ := hin (c, r) (List.mem_of_getElem? hc)
      have hcm' : c ∈ d.g.rd.ls := hcm
      have hrn' : r ≤ n := hrn
      have hac : H' a = some (.tup [.str (sg c), .int (r : Nat)]) := hP4.2.2 i a (c, r) ha hc
      refine ⟨a, _, rfl, SqT.of hac, rfl, _, _, rfl, _, _, rfl, rfl, ?_⟩
      obtain ⟨hR4, dx4, h4⟩ := hW4.draw.choose_spec.b
      obtain ⟨cc, ⟨tdx, r', g1, g2⟩, hcc⟩ := id hT4
      refine ⟨_, rfl, tr, tdx, _, rfl, g1, tfs_no _ _ (by decide +kernel), _, rfl, d.d, dx4, _, rfl, h4, dfs_no _ _ _ _ (by decide +kernel), _, rfl, d, r, rfl, by omega, hW4.draw, fun tb H5 k5 hD5 hTb => ?_⟩
      have L4 : Lists [d.dl] H' := lists_one hW4.draw.choose_spec.ht
      have hT5 := hT4.kp k5 L4
      have hP5 := hP4.kp k5 L4 nq
      have hW5 := hW4.drew k5 hD5
      obtain ⟨fa, hfa1, hfa2⟩ := id hTb
      obtain ⟨hR5, _⟩ := hD5.choose_spec.b
      refine ⟨_, rfl, tb, .ref (fa c), rfl, ?_, d.g.p, tr, fa c, _, dds d.g.rd r c, rfl, hT5, hfa2 c hcm', hR5.1, ?_, ?_, fun tr2 H6 htr2 s6 hT6 => ?_⟩
      · rw [← valL_in (ls := d.g.rd.ls) (fun c => V.ref (fa c)) hcm']
        exact DGet.k (k := Sum.inr (sg c)) hfa1
      · rw [List.length_map]
        exact len_small (Nat.le_trans exps_take_len (Nat.le_trans hsl hlF)) hst.len hn
      · unfold dds
        rw [List.length_map]
        exact len_small (n := 1) (by rw [Nat.one_mul]; exact sz_le (wd := d.g.rd.wd) (ls := d.g.rd.ls) (fun c hc => ⟨ok.wlen c hc, ok.win c hc⟩) r c hcm') (by decide) (by omega)
      · refine ⟨_, _, tr2, rfl, (k4.trans k5.wideD).trans (Same.kp s6), hW5.same s6, hP5.same s6, ?_⟩
        rw [exps_snoc hc, List.map_append]
        exact hT6
    · rintro σ H' ⟨v5, v6, tr, rfl, k4, hW4, hP4, hT4⟩
      rw [List.length_map, List.take_of_length_le (by rw [hP4.2.1]; exact Nat.le_refl _), hex] at hT4
      exact ⟨_, rfl, k tr H' k4 hW4 hT4⟩
end
end SG

/-! ## SgDraw3 -/
set_option autoImplicit true
set_option Elab.async false
set_option maxRecDepth 100000
set_option maxHeartbeats 4000000
namespace SG
open PySem PySem.Spec PyProof.Rows L2
/-! ### a drawing made -/
/-- all is kept but at one fresh instance of a class that is no pen's -/
theorem RulesAt.over {K : PySem.W.Frag} {κ : Bool} {H H' : Hp} {x C dx p a : Addr} {rd : RD} (hx : H x = some (.ins C dx [])) (hC : pC K κ ≠ C) (k : ∀ b o, H b = some o → b ≠ x → H' b = some o) (h : RulesAt K κ H p a rd) : RulesAt K κ H' p a rd := by
  obtain ⟨⟨dp, hp⟩, ok, dr, kd, f, r1, r2, r3⟩ := h
  have nx : ∀ {b : Addr} {o : HO}, H b = some o → o ≠ .ins C dx [] → H' b = some o := fun e h => k _ _ e (ne_of e hx h)
  exact ⟨⟨dp, nx hp fun e => by injection e with e1 _ _; exact hC e1⟩, ok, dr, kd, f, nx r1 (fun e => by injection e with _ _ e3; cases e3), nx r2 (fun e => by cases e), fun c hc => nx (r3 c hc) (fun e => by cases e)⟩
theorem GrowAt.over {K : PySem.W.Frag} {κ : Bool} {H H' : Hp} {x C dx : Addr} {g : GI} (hx : H x = some (.ins C dx [])) (hC : pC K κ ≠ C) (k : ∀ b o, H b = some o → b ≠ x → H' b = some o) (h : GrowAt K κ H g) : GrowAt K κ H' g := by
  obtain ⟨ss, ts, q⟩ := h
  obtain ⟨hR, hst, gx, ha⟩ := q.b
  have nx : ∀ {b : Addr} {o : HO}, H b = some o → o ≠ .ins C dx [] → H' b = some o := fun e h => k _ _ e (ne_of e hx h)
  refine ⟨ss, ts, ⟨hR.over hx hC k, hst, gx, nx ha fun e => by injection e with _ _ e3; cases e3⟩, q.ne, nx q.hs (fun e => by cases e), nx q.ht (fun e => by cases e), q.len, q.le, fun r z e => nx (q.sz r z e) (fun e => by cases e), fun r z e => ?_⟩
  obtain ⟨f, h1, h2⟩ := q.tb r z e
  exact ⟨f, nx h1 (fun e => by cases e), fun c hc => let ⟨y, e1, e2⟩ := h2 c hc; ⟨y, nx e1 (fun e => by cases e), e2⟩⟩
def spDrawInit (K : PySem.W.Frag) (κ : Bool) : Sp := fun vs H Q _ => ∃ (x dx : Addr) (g : GI), vs = [.ref x, .ref g.a] ∧ H x = some (.ins (gA K "Drawing") dx []) ∧ GrowAt K κ H g ∧
  ∀ dl H', (∀ b o, H b = some o → b ≠ x → H' b = some o) → DW K κ H' ⟨g, x, dl⟩ → H dl = none → Q .non H'
section
variable {P : Program} {w : World} {K : PySem.W.Frag} {mg : Str → Option Value} {base : Heap}
theorem sc_dinit : FnScope ["self", "growth"] ["self", "growth"] (defScope s_Drawing_init) := ⟨rfl, rfl, rfl, by decide +kernel, rfl, by decide +kernel, by decide +kernel⟩
theorem has_dinit (T : Tx K mg) (κ : Bool) : Has P w K mg base 2 (mA K "Drawing" "__init__") ["self", "growth"] (spDrawInit K κ) [] := by
  obtain ⟨fd, F⟩ := T.fd_Drawing_init
  refine hasD F sc_dinit (fun vs H Q E h => ?_) (fun _ _ _ _ _ _ us hl => match us, hl with | [_, _], _ => rfl) (fun cdv A outer s H vs Q E hr h => ?_)
  · obtain ⟨x, dx, g, rfl, _⟩ := h
    rfl
  · obtain ⟨x, dx, g, rfl, hx, hG, k⟩ := h
    have hC : pC K κ ≠ gA K "Drawing" := fun e => by
      have i1 := T.mk_Drawing.init
      cases κ
      · have i2 := (mk0S T).ini
        rw [show gA K "Sixth" = gA K "Drawing" from e] at i2
        rw [i1] at i2
        cases i2
      · have i2 := (mk0Q T).ini
        rw [show gA K "Quarter" = gA K "Drawing" from e] at i2
        rw [i1] at i2
        cases i2
    refine ⟨_, (pss_cons (ps_fld (pv 0) (pv 1) rfl)
        (pss_cons (ps_fld (pv 0) (pm0 (pv 1) T.c_Growth T.m_Growth_rules_told (has_gtold T κ) hr) rfl)
        (pss_cons (ps_fld (pv 0) (pm0 (pe_fld (pv 0) rfl) T.c_Rules T.m_Rules_pen (has_pen T κ) hr) rfl)
        (pss_one (ps_fld (pv 0) (pe_lst pa_nil) rfl))))), ?_⟩
    refine ⟨_, rfl, _, rfl, x, _, dx, [], rfl, hx, T.c_Drawing, T.n_Drawing_growth, (by show 0 < 1000; decide), ?_⟩
    rw [put1]
    have k1 : ∀ b o, H b = some o → b ≠ x → (upd H x (.ins (gA K "Drawing") dx [("growth", .ref g.a)])) b = some o := fun b o e hb => (upd_ne hb).trans e
    have hG1 := hG.over hx hC k1
    obtain ⟨_, _, gx1, a1⟩ := id hG1.choose_spec.choose_spec.b
    refine ⟨_, rfl, g.a, gx1, _, rfl, a1, gfs_no _ _ _ _ (by decide +kernel), g, rfl, hG1.choose_spec.choose_spec.b, ?_⟩
    refine ⟨_, rfl, x, _, dx, _, rfl, upd_same, T.c_Drawing, T.n_Drawing_rules, (by show 1 < 1000; decide), ?_⟩
    rw [put2 (by decide +kernel), upd_upd]
    have k2 : ∀ b o, H b = some o → b ≠ x → (upd H x (.ins (gA K "Drawing") dx [("growth", .ref g.a), ("rules", .ref g.ra)])) b = some o := fun b o e hb => (upd_ne hb).trans e
    have hG2 := hG.over hx hC k2
    have hR2 := (hG2.choose_spec.choose_spec.b).1
    obtain ⟨_, _, dr, kd, f, r2, _⟩ := id hR2
    refine ⟨_, rfl, x, _, dx, _, _, rfl, upd_same, T.c_Drawing, T.n_Drawing_rules, ?_, g.ra, dr, _, rfl, r2, rfs_no _ _ (by decide +kernel), g.p, g.ra, g.rd, rfl, hR2, ?_⟩
    · rw [look_cons _ (by decide +kernel), look_here]
    refine ⟨_, rfl, x, _, dx, _, rfl, upd_same, T.c_Drawing, T.n_Drawing_own_pen, (by show 2 < 1000; decide), ?_⟩
    rw [put3 (by decide +kernel) (by decide +kernel), upd_upd]
    refine ⟨Nat.zero_le _, fun dl hdl => ?_⟩
    have nxd : x ≠ dl := fun e => by rw [← e, upd_same] at hdl; cases hdl
    have fdl : H dl = none := by
      rw [upd_ne nxd.symm] at hdl
      exact hdl
    refine ⟨_, rfl, x, _, dx, _, rfl, (upd_ne nxd).trans upd_same, T.c_Drawing, T.n_Drawing_tables, (by show 3 < 1000; decide), ?_⟩
    rw [put4 (by decide +kernel) (by decide +kernel) (by decide +kernel)]
    have kall : ∀ b o, H b = some o → b ≠ x → (upd (upd (upd H x (.ins (gA K "Drawing") dx [("growth", .ref g.a), ("rules", .ref g.ra), ("own_pen", .ref g.p)])) dl (.lst [])) x (.ins (gA K "Drawing") dx (dfs g.a g.ra g.p dl))) b = some o := fun b o e hb => by
      rw [upd_ne hb, upd_ne (ne_of_none e fdl), upd_ne hb]
      exact e
    have hGa := hG.over hx hC kall
    have LS := hG.lists
    refine k dl _ kall ⟨hGa, ⟨[], ⟨(hGa.choose_spec.choose_spec.b).1, dx, upd_same⟩, ?_, Nat.zero_le _, fun r q h => (by cases h)⟩, fun e => ?_, fun e => ?_⟩ fdl
    · show (upd _ x _) dl = _
      rw [upd_ne nxd.symm, upd_same]
      rfl
    · exact not_S LS fdl (show dl ∈ g.S from (show dl = g.sl from e) ▸ List.mem_cons_self)
    · exact not_S LS fdl (show dl ∈ g.S from (show dl = g.tl from e) ▸ List.mem_cons_of_mem _ List.mem_cons_self)
end
end SG

/-! ## SgLaw1 -/
set_option autoImplicit true
set_option Elab.async false
set_option maxRecDepth 100000
set_option maxHeartbeats 4000000
namespace SG
open PySem PySem.Spec PyProof.Rows L2
/-! ### the law's helpers: promises -/
theorem SqL.sm {K : PySem.W.Frag} {H H' : Hp} {a : Addr} {xs : List V} (h : SqL K H a xs) (e : Same H H') : SqL K H' a xs := L2.SqL.ext h e
def spCell (K : PySem.W.Frag) : Sp := fun vs H Q _ => ∃ (l : Addr) (ns : List Int) (k : Nat), vs = [.ref l, .int (k : Nat)] ∧ SqL K H l (ns.map V.int) ∧ k ≤ 1000 ∧ ∀ z : Int, Q (.int z) H
def spBig (K : PySem.W.Frag) : Sp := fun vs H Q _ => ∃ (l : Addr) (ns : List Int) (k : Nat), vs = [.ref l, .int (k : Nat)] ∧ SqL K H l (ns.map V.int) ∧ k ≤ 900 ∧ ∀ z : Int, Q (.int z) H
def spWhole : Sp := fun vs H Q _ => ∃ z : Int, vs = [.int z] ∧ Q (.bl true) H
def spAlphabet : Sp := fun vs H Q _ => ∃ (c : Int) (m : Nat), vs = [.int c, .int (m : Nat)] ∧ m ≤ 6 ∧ ∀ ls : List Nat, ls.Nodup → (∀ c ∈ ls, 97 ≤ c ∧ c ≤ 122) → ls.length = m → Q (.str (tx ls)) H
def spText : Sp := fun vs H Q _ => ∃ (n : Int) (ls : List Nat) (m : Nat), vs = [.int n, .str (tx ls), .int (m : Nat)] ∧ ls ≠ [] ∧ ls.length ≤ 6 ∧ 1 ≤ m ∧ m ≤ 8 ∧ ∀ wd : List Nat, wd ≠ [] → wd.length ≤ m → (∀ c ∈ wd, c ∈ ls) → Q (.str (tx wd)) H
def algs (κ : Bool) (s : Spot) : List Int := (List.range (nW κ)).map fun v => alg κ v s
def spLAlong (κ : Bool) : Sp := fun vs H Q _ => ∃ (a : Addr) (s : Spot), vs = [.int (nW κ : Nat), .ref a] ∧ SpotAt H a s ∧ ∀ q H', H q = none → Same H H' → H' q = some (.lst ((algs κ s).map V.int)) → Q (.ref q) H'
theorem tx_append (a b : List Nat) : tx a ++ tx b = tx (a ++ b) := by
  show (⟨a.toArray ++ b.toArray⟩ : Str) = ⟨(a ++ b).toArray⟩
  rw [List.append_toArray]
theorem at_ofA {α : Type} {xs : List α} {i : Int} {j : Nat} {v : α} (hj : (j : Int) = i) (h : xs[j]? = some v) : atI xs i = some v := by
  have hl := (List.getElem?_eq_some_iff.mp h).1
  unfold atI ixN
  rw [if_pos (by omega), if_pos (by omega)]
  have e : i.toNat = j := by omega
  rw [e]
  exact h
theorem far_pow : (10 : Int) ^ (59 : Int).toNat = 100000000000000000000000000000000000000000000000000000000000 := by decide +kernel
theorem perm_pick {fo fr : List Nat} {p x : Nat} (h : fr[p]? = some x) : ((fo ++ [x]) ++ (fr.take p ++ fr.drop (p + 1))).Perm (fo ++ fr) := by
  have hp := (List.getElem?_eq_some_iff.mp h).1
  have e : fr = fr.take p ++ x :: fr.drop (p + 1) := by
    rw [show x :: fr.drop (p + 1) = fr.drop p from (by rw [List.drop_eq_getElem_cons hp, (List.getElem?_eq_some_iff.mp h).2]), List.take_append_drop]
  have e2 : (fo ++ [x]) ++ (fr.take p ++ fr.drop (p + 1)) = fo ++ (x :: (fr.take p ++ fr.drop (p + 1))) := by simp
  rw [e2]
  refine List.Perm.append_left fo ?_
  have h3 : (fr.take p ++ x :: fr.drop (p + 1)).Perm (x :: (fr.take p ++ fr.drop (p + 1))) := List.perm_middle
  rw [← e] at h3
  exact h3.symm
theorem cut_to {l : List Nat} {p : Nat} (h : p ≤ l.length) : cutS (tx l) none (some (p : Nat)) = tx (l.take p) := by
  unfold cutS
  rw [HT.sIx_none, HT.sIx_nat, tx_length, tx_list, List.drop_zero, Nat.sub_zero, Nat.min_eq_left h]
  rfl
theorem cut_from {l : List Nat} {p : Nat} (h : p ≤ l.length) : cutS (tx l) (some (p : Nat)) none = tx (l.drop p) := by
  unfold cutS
  rw [HT.sIx_none, HT.sIx_nat, tx_length, tx_list, Nat.min_eq_left h, List.take_of_length_le (by rw [List.length_drop]; exact Nat.le_refl _)]
  rfl
section
variable {P : Program} {w : World} {K : PySem.W.Frag} {mg : Str → Option Value} {base : Heap}
theorem sc_lcell : FnScope ["_law_script", "_law_k", "_law_cell_here", "_law_low"] ["_law_script", "_law_k"] (defScope s_law_cell) := ⟨rfl, rfl, rfl, by decide +kernel, rfl, by decide +kernel, by decide +kernel⟩
theorem has_lcell (T : Tx K mg) : Has P w K mg base 1 (gA K "_law_cell") ["_law_script", "_law_k"] (spCell K) [] := by
  obtain ⟨fd, F⟩ := T.fd_law_cell
  refine hasD F sc_lcell (fun vs H Q E h => ?_) (fun _ _ _ _ _ _ us hl => match us, hl with | [_, _], _ => rfl) (fun cdv A outer s H vs Q E hr h => ?_)
  · obtain ⟨l, ns, k, rfl, _⟩ := h
    rfl
  · obtain ⟨l, ns, k, rfl, hS, hk, hQ⟩ := h
    have nd := sc_lcell.nd
    have R : ∃ t, PSs (cxOf CX0 P w K mg base ["_law_script", "_law_k", "_law_cell_here", "_law_low"] "_law_cell" (defScope s_law_cell) (gA K "_law_cell") cdv A outer s H E).nox ((defBody s_law_cell).drop 2) t ∧
        ∀ c : Int, t { nx := fun _ H' => Q .non H', rt := Q } [some (.ref l), some (.int (k : Nat)), some (.int c), none] H := by
      refine ⟨_, (pss_cons (ps_set (i := 3) nd rfl (Or.inl rfl) (pe_op op_mod (pe_op op_mul (pe_op op_add (pv 2) (pe_op op_mul pe_int (pe_op op_add (pv 1) pe_int))) pe_int) pe_int))
        (pss_one (ps_ret (pe_op op_add (pe_op op_mul (pe_op op_fdivW (pe_op op_mod (pv 2) (pe_op op_pow pe_int pe_int)) pe_int) pe_int) (pv 3))))), fun c => ?_⟩
      refine ⟨_, rfl, _, rfl, _, _, rfl, rfl, _, _, rfl, rfl, .inl ⟨by decide, by decide⟩, _, _, rfl, rfl, _, _, rfl, rfl, .inr ⟨by decide, by decide⟩, _, _, rfl, rfl, by show (0 : Int) < 2305843009213693951; decide, ?_⟩
      refine ⟨_, rfl, _, _, rfl, rfl, ⟨by decide, by decide, by decide⟩, _, _, rfl, rfl, by show (0 : Int) < 10 ^ (60 : Int).toNat; decide +kernel, _, _, rfl, rfl, ⟨by decide, by decide +kernel⟩, _, _, rfl, rfl, .inr ⟨by decide, by decide⟩, _, rfl, _, _, rfl, rfl, ?_⟩
      exact hQ _
    obtain ⟨t, pt, ht⟩ := R
    refine ⟨_, pss_cons (ps_set (i := 2) nd rfl (Or.inl rfl) pe_int) (pss_cons (ps_if (pt_cmpR op_gt (pe_callB call_len_seq (by rfl) T.f_len PySem.boot_len (pa_cons (pv 0) pa_nil)) pe_int (nomark _)) (pss_one (ps_set (i := 2) nd rfl (Or.inl rfl) (pe_ix ix_list (pv 0) (pe_op op_mod (pv 1) (pe_callB call_len_seq (by rfl) T.f_len PySem.boot_len (pa_cons (pv 0) pa_nil))) (fun _ _ => rfl)))) pss_nil) pt), ?_⟩
    refine ⟨_, rfl, l, _, rfl, .inl hS, _, _, rfl, rfl, ?_⟩
    rw [List.length_map]
    refine ⟨_, rfl, ite2d (fun hc => ?_) (fun hc => ?_)⟩
    · have hn : 0 < ns.length := by omega
      have hm : k % ns.length < ns.length := Nat.mod_lt _ hn
      refine ⟨_, rfl, _, rfl, _, rfl, l, _, rfl, .inl hS, _, _, rfl, rfl, ?_, l, _, _, .int ns[k % ns.length], rfl, rfl, hS, at_of (j := k % ns.length) ?_ ?_, ht _⟩
      · rw [List.length_map]; omega
      · rw [List.length_map]; exact (Int.natCast_emod _ _).symm
      · rw [List.getElem?_map, List.getElem?_eq_getElem hm]; rfl
    · exact ht _
theorem sc_lwhole : FnScope ["_law_found"] ["_law_found"] (defScope s_law_whole) := ⟨rfl, rfl, rfl, by decide +kernel, rfl, by decide +kernel, by decide +kernel⟩
theorem has_lwhole (T : Tx K mg) : Has P w K mg base 1 (gA K "_law_whole") ["_law_found"] spWhole [] := by
  obtain ⟨fd, F⟩ := T.fd_law_whole
  refine hasD F sc_lwhole (fun vs H Q E h => ?_) (fun _ _ _ _ _ _ us hl => match us, hl with | [_], _ => rfl) (fun cdv A outer s H vs Q E hr h => ?_)
  · obtain ⟨z, rfl, _⟩ := h
    rfl
  · obtain ⟨z, rfl, k⟩ := h
    refine ⟨_, (pss_one (ps_ret (pe_and (pe_callB call_isi (by rfl) T.f_isinstance (by decide +kernel) (pa_cons (pv 0) (pa_cons (pe_bltn (v := .ty "int") (by rfl) T.f_int (u := .type "int") (by decide +kernel) rfl) pa_nil)))
        (pe_one (pe_not (pe_callB call_isi (by rfl) T.f_isinstance (by decide +kernel) (pa_cons (pv 0) (pa_cons (pe_bltn (v := .ty "bool") (by rfl) T.f_bool (u := .type "bool") (by decide +kernel) rfl) pa_nil)))))))), ?_⟩
    refine ⟨_, rfl, _, _, _, _, true, rfl, ClsV.ty "int", .base (.int z), kit_ty (by decide +kernel), ?_⟩
    exact ⟨_, rfl, iteT ⟨_, rfl, _, _, _, _, false, rfl, ClsV.ty "bool", .base (.int z), kit_ty (by decide +kernel), _, rfl, k⟩⟩
theorem sc_lbig : FnScope ["_law_script", "_law_k", "_law_far", "_law_number"] ["_law_script", "_law_k"] (defScope s_law_big) := ⟨rfl, rfl, rfl, by decide +kernel, rfl, by decide +kernel, by decide +kernel⟩
theorem has_lbig (T : Tx K mg) : Has P w K mg base 2 (gA K "_law_big") ["_law_script", "_law_k"] (spBig K) [] := by
  obtain ⟨fd, F⟩ := T.fd_law_big
  refine hasD F sc_lbig (fun vs H Q E h => ?_) (fun _ _ _ _ _ _ us hl => match us, hl with | [_, _], _ => rfl) (fun cdv A outer s H vs Q E hr h => ?_)
  · obtain ⟨l, ns, k, rfl, _⟩ := h
    rfl
  · obtain ⟨l, ns, k, rfl, hS, hk, hQ⟩ := h
    have nd := sc_lbig.nd
    refine ⟨_, (pss_cons (ps_set (i := 2) nd rfl (Or.inl rfl) (pe_op op_pow pe_int pe_int))
        (pss_cons (ps_set (i := 3) nd rfl (Or.inl rfl) (pe_op op_add (pe_op op_mulW (pe_op op_mod (pcl T.g__law_cell (has_lcell T) hr (pa_cons (pv 0) (pa_cons (pv 1) pa_nil))) (pv 2)) (pv 2)) (pe_op op_mod (pcl T.g__law_cell (has_lcell T) hr (pa_cons (pv 0) (pa_cons (pe_op op_add (pv 1) pe_int) pa_nil))) (pv 2))))
        (pss_one (ps_ret (pe_op op_add (pe_op op_mulW (pv 3) (pv 2)) (pe_op op_mod (pcl T.g__law_cell (has_lcell T) hr (pa_cons (pv 0) (pa_cons (pe_op op_add (pv 1) pe_int) pa_nil))) (pv 2))))))), ?_⟩
    refine ⟨_, _, rfl, rfl, ⟨by decide, by decide, by decide⟩, ?_⟩
    dsimp only
    rw [far_pow]
    generalize hF : (100000000000000000000000000000000000000000000000000000000000 : Int) = F
    have F0 : 0 < F := by rw [← hF]; decide
    have Fb : F.natAbs < 2 ^ 200 := by rw [← hF]; decide
    have md : ∀ z : Int, (z % F).natAbs < 2 ^ 200 := fun z => by
      have h1 := Int.emod_nonneg z (by omega : F ≠ 0)
      have h2 := Int.emod_lt_of_pos z F0
      exact Nat.lt_of_lt_of_le (by omega : (z % F).natAbs < F.natAbs) (Nat.le_of_lt Fb)
    refine ⟨_, rfl, _, rfl, l, ns, k, rfl, hS, by omega, fun z1 => ⟨_, rfl, _, _, rfl, rfl, F0, _, rfl, _, _, rfl, rfl, wide_mul (md z1) Fb (by decide) (by decide) (by decide), ?_⟩⟩
    refine ⟨_, rfl, _, rfl, _, _, rfl, rfl, l, ns, k + 1, by rw [Int.natCast_succ]; rfl, hS, by omega, fun z2 => ⟨_, rfl, _, _, rfl, rfl, F0, _, _, rfl, rfl, ?_⟩⟩
    have hw : (z1 % F * F + z2 % F).natAbs < 2 ^ 401 := by
      have h1 := wide_lt (md z1) Fb
      have h2 := md z2
      have h3 := Int.natAbs_add_le (z1 % F * F) (z2 % F)
      have e1 : (2 : Nat) ^ (200 + 200) = 2 ^ 400 := rfl
      have e2 : (2 : Nat) ^ 401 = 2 ^ 400 + 2 ^ 400 := by rw [Nat.pow_succ]; omega
      have e3 : (2 : Nat) ^ 200 ≤ 2 ^ 400 := Nat.pow_le_pow_right (by decide) (by decide)
      omega
    refine ⟨_, rfl, _, rfl, _, _, rfl, rfl, wide_mul hw Fb (by decide) (by decide) (by decide), _, rfl, _, rfl, _, _, rfl, rfl, l, ns, k + 2, ?_, hS, by omega, fun z3 => ⟨_, rfl, _, _, rfl, rfl, F0, _, _, rfl, rfl, hQ _⟩⟩
    have e : ((k : Nat) : Int) + 2 = ((k + 2 : Nat) : Int) := by omega
    dsimp only
    rw [e]
    rfl
theorem sc_lalong : FnScope ["_law_ways", "_law_spot", "_law_x", "_law_y"] ["_law_ways", "_law_spot"] (defScope s_law_along) := ⟨rfl, rfl, rfl, by decide +kernel, rfl, by decide +kernel, by decide +kernel⟩
theorem has_lalong (T : Tx K mg) (κ : Bool) : Has P w K mg base 1 (gA K "_law_along") ["_law_ways", "_law_spot"] (spLAlong κ) [] := by
  obtain ⟨fd, F⟩ := T.fd_law_along
  refine hasD F sc_lalong (fun vs H Q E h => ?_) (fun _ _ _ _ _ _ us hl => match us, hl with | [_, _], _ => rfl) (fun cdv A outer s H vs Q E hr h => ?_)
  · obtain ⟨a, sp, rfl, _⟩ := h
    rfl
  · obtain ⟨a, sp, rfl, ha, k⟩ := h
    have nd := sc_lalong.nd
    obtain ⟨x, y⟩ := sp
    refine ⟨_, (pss_cons (ps_asg (pv 1) (pg_tup rfl (pgs_cons (pg_name (i := 2) nd rfl (Or.inl rfl)) (pgs_cons (pg_name (i := 3) nd rfl (Or.inl rfl)) pgs_nil))))
        (pss_cons (ps_if (pt_cmpR op_eq (pv 0) pe_int (nomark _)) (pss_one (ps_ret (pe_lst (pa_cons (pv 2) (pa_cons (pv 3) (pa_cons (pe_un un_neg (pv 2)) (pa_cons (pe_un un_neg (pv 3)) pa_nil))))))) pss_nil)
        (pss_one (ps_ret (pe_lst (pa_cons (pe_op op_add (pe_op op_mul pe_int (pv 2)) (pv 3)) (pa_cons (pe_op op_add (pv 2) (pe_op op_mul pe_int (pv 3))) (pa_cons (pe_op op_sub (pv 3) (pv 2)) (pa_cons (pe_op op_sub (pe_op op_mul (pe_un un_neg pe_int) (pv 2)) (pv 3)) (pa_cons (pe_op op_sub (pe_un un_neg (pv 2)) (pe_op op_mul pe_int (pv 3))) (pa_cons (pe_op op_sub (pv 2) (pv 3)) pa_nil))))))))))), ?_⟩
    refine ⟨_, rfl, a, _, rfl, SqT.of ha, rfl, _, _, rfl, _, _, rfl, rfl, ?_⟩
    cases κ
    · refine ⟨_, rfl, rfl, _, rfl, iteN (by decide) ?_⟩
      refine ⟨_, rfl, _, _, rfl, rfl, .inl ⟨by decide, by decide⟩, _, rfl, _, _, rfl, rfl, ?_⟩
      refine ⟨_, rfl, _, rfl, _, _, rfl, rfl, .inl ⟨by decide, by decide⟩, _, _, rfl, rfl, ?_⟩
      refine ⟨_, rfl, _, rfl, _, _, rfl, rfl, ?_⟩
      refine ⟨_, rfl, _, rfl, _, _, rfl, rfl, .inl ⟨by decide, by decide⟩, _, rfl, _, _, rfl, rfl, ?_⟩
      refine ⟨_, rfl, _, rfl, _, rfl, _, _, rfl, rfl, .inl ⟨by decide, by decide⟩, _, _, rfl, rfl, ?_⟩
      refine ⟨_, rfl, _, rfl, _, _, rfl, rfl, ?_⟩
      refine ⟨by show 6 ≤ sizeLine; decide, fun q hq => k q _ hq (Same.new hq) ?_⟩
      rw [upd_same]
      have e1 : -2 * x - y = -(2 * x + y) := by omega
      have e2 : -x - 2 * y = -(x + 2 * y) := by omega
      have e3 : x - y = -(y - x) := by omega
      dsimp only
      rw [e1, e2, e3]
      rfl
    · refine ⟨_, rfl, rfl, _, rfl, iteD rfl ?_⟩
      refine ⟨_, rfl, _, rfl, _, rfl, _, rfl, _, rfl, _, rfl, by show 4 ≤ sizeLine; decide, fun q hq => k q _ hq (Same.new hq) ?_⟩
      rw [upd_same]
      rfl
theorem sc_lalphabet : FnScope ["_law_cell_here", "_law_many", "_law_free", "_law_found", "_law_k", "_law_at"] ["_law_cell_here", "_law_many"] (defScope s_law_alphabet) := ⟨rfl, rfl, rfl, by decide +kernel, rfl, by decide +kernel, by decide +kernel⟩
theorem has_lalphabet (T : Tx K mg) : Has P w K mg base 1 (gA K "_law_alphabet") ["_law_cell_here", "_law_many"] spAlphabet [] := by
  obtain ⟨fd, F⟩ := T.fd_law_alphabet
  refine hasD F sc_lalphabet (fun vs H Q E h => ?_) (fun _ _ _ _ _ _ us hl => match us, hl with | [_, _], _ => rfl) (fun cdv A outer s H vs Q E hr h => ?_)
  · obtain ⟨c, m, rfl, _⟩ := h
    rfl
  · obtain ⟨c, m, rfl, hm, k⟩ := h
    have nd := sc_lalphabet.nd
    refine ⟨_, (pss_cons (ps_set (i := 2) nd rfl (Or.inl rfl) pe_str)
        (pss_cons (ps_set (i := 3) nd rfl (Or.inl rfl) pe_str)
        (pss_cons (ps_for PassesOwn.never rfl (pi_range1 rfl T.f_range (pa_cons (pv 1) pa_nil)) (pg_name (i := 4) nd rfl (Or.inl rfl))
        (pss_cons (ps_set (i := 5) nd rfl (Or.inl rfl) (pe_op op_mod (pv 0) (pe_callB call_len_str (by rfl) T.f_len PySem.boot_len (pa_cons (pv 2) pa_nil))))
        (pss_cons (ps_set (i := 0) nd rfl (Or.inl rfl) (pe_op op_fdiv (pv 0) (pe_callB call_len_str (by rfl) T.f_len PySem.boot_len (pa_cons (pv 2) pa_nil))))
        (pss_cons (ps_set (i := 3) nd rfl (Or.inl rfl) (pe_op op_add_str (pv 3) (pe_ix ix_str (pv 2) (pv 5) (fun _ _ => rfl))))
        (pss_one (ps_set (i := 2) nd rfl (Or.inl rfl) (pe_op op_add_str (pe_slice sl_str (pv 2) po_none (po_some (pv 5))) (pe_slice sl_str (pv 2) (po_some (pe_op op_add (pv 5) pe_int)) po_none))))))))
        (pss_one (ps_ret (pv 3)))))), ?_⟩
    refine ⟨_, rfl, _, rfl, by omega, by omega, ?_⟩
    refine for_range (lo := 0) (n := (m : Int).toNat) (fun j σ H' => ∃ (c : Int) (fr fo : List Nat) (v4 v5 : Option V), σ = [some (.int c), some (.int (m : Nat)), some (.str (tx fr)), some (.str (tx fo)), v4, v5] ∧ H' = H ∧ fo.length = j ∧ (fo ++ fr).Perm (List.range' 97 26))
      ⟨c, List.range' 97 26, [], none, none, by rw [show tx (List.range' 97 26) = Str.ofString "abcdefghijklmnopqrstuvwxyz" from by decide +kernel, show tx [] = Str.ofString "" from by decide +kernel]; rfl, rfl, rfl, by rw [List.nil_append]⟩ ?_ ?_
    · rintro j σ H' hj ⟨c, fr, fo, v4, v5, rfl, rfl, hfo, hp⟩
      have hl := hp.length_eq
      rw [List.length_append, List.length_range'] at hl
      have hj' : j < m := by omega
      have hfr : 20 < fr.length := by omega
      have hn0 : (0 : Int) < (fr.length : Nat) := by omega
      have h1 := Int.emod_nonneg c (by omega : ((fr.length : Nat) : Int) ≠ 0)
      have h2 := Int.emod_lt_of_pos c hn0
      generalize hpe : c % ((fr.length : Nat) : Int) = pz at h1 h2
      obtain ⟨p, rfl⟩ := Int.eq_ofNat_of_zero_le h1
      have hpl : p < fr.length := by omega
      have hx : fr[p]? = some fr[p] := List.getElem?_eq_getElem hpl
      have slen : ∀ {l : List Nat}, l.length ≤ 26 → l.length ≤ sizeLine := fun h => Nat.le_of_lt (small_line (by omega))
      have tl : (tx fr).length ≤ sizeLine := by rw [tx_length]; exact slen (by omega)
      refine ⟨_, rfl, _, rfl, _, rfl, tl, ?_⟩
      dsimp only
      rw [tx_length]
      refine ⟨_, _, rfl, rfl, hn0, ?_⟩
      dsimp only
      rw [hpe]
      refine ⟨_, rfl, _, rfl, _, rfl, tl, ?_⟩
      dsimp only
      rw [tx_length]
      refine ⟨_, _, rfl, rfl, ⟨hn0, by omega⟩, ?_⟩
      have hat : atI (tx fr).cps.toList ((p : Nat) : Int) = some fr[p] := by
        have hx' : (tx fr).cps.toList[p]? = some fr[p] := by rw [tx_list]; exact hx
        exact at_ofA (j := p) rfl hx'
      refine ⟨_, rfl, _, rfl, _, rfl, tx fr, _, fr[p], rfl, rfl, tl, hat, _, _, rfl, rfl, ?_, ?_⟩
      · rw [tx_length]
        exact Nat.le_of_lt (small_line (by show fo.length + 1 ≤ 1000000; omega))
      have e0 : (⟨#[fr[p]]⟩ : Str) = tx [fr[p]] := rfl
      have e1 : cutS (tx fr) none (some ((p : Nat) : Int)) = tx (fr.take p) := cut_to (by omega)
      have e2 : cutS (tx fr) (some (((p : Nat) : Int) + 1)) none = tx (fr.drop (p + 1)) := cut_from (p := p + 1) (by omega)
      refine ⟨_, rfl, _, rfl, _, rfl, _, rfl, tl, _, rfl, _, rfl, _, _, rfl, rfl, _, rfl, _, rfl, tl, _, _, rfl, rfl, ?_, ?_⟩
      · rw [e1]
        rw [e2, tx_length, tx_length, List.length_take, List.length_drop]
        exact Nat.le_of_lt (small_line (by omega))
      rw [e1]
      dsimp only
      rw [e0, e2, tx_append, tx_append]
      exact ⟨_, fr.take p ++ fr.drop (p + 1), fo ++ [fr[p]], _, _, rfl, rfl, by rw [List.length_append, hfo]; rfl, (perm_pick hx).trans hp⟩
    · rintro σ H' ⟨c, fr, fo, v4, v5, rfl, rfl, hfo, hp⟩
      have hnd : (fo ++ fr).Nodup := hp.symm.nodup List.nodup_range'
      refine ⟨_, rfl, k fo (List.nodup_append.mp hnd).1 (fun x hx => ?_) (by omega)⟩
      have := (hp.mem_iff (a := x)).mp (List.mem_append_left _ hx)
      rw [List.mem_range'_1] at this
      omega
end
end SG

/-! ## SgLaw2 -/
set_option autoImplicit true
set_option Elab.async false
set_option maxRecDepth 100000
set_option maxHeartbeats 4000000
namespace SG
open PySem PySem.Spec PyProof.Rows L2
/-- a script's growth: ways, rows, start, age -/
def ShapeAt (H : Hp) (q rl : Addr) (κ : Bool) (rd : RD) (st : List Nat) (age : Nat) : Prop := H q = some (.tup [.int (nW κ : Nat), .ref rl, .str (tx st), .int (age : Nat)]) ∧ RowsAt H rl rd
def spShape (K : PySem.W.Frag) : Sp := fun vs H Q _ => ∃ (l : Addr) (ns : List Int), vs = [.ref l, .int 16] ∧ SqL K H l (ns.map V.int) ∧
  ∀ (κ : Bool) (rd : RD) (st : List Nat) (age : Nat) q rl H', Same H H' → RdOk rd → StOk rd st → age ≤ 200 → ShapeAt H' q rl κ rd st age → Q (.ref q) H'
section
variable {P : Program} {w : World} {K : PySem.W.Frag} {mg : Str → Option Value} {base : Heap}
theorem sc_ltext : FnScope ["_law_number", "_law_alphabet_here", "_law_most", "_law_found", "_law_size", "_law_k"] ["_law_number", "_law_alphabet_here", "_law_most"] (defScope s_law_text) := ⟨rfl, rfl, rfl, by decide +kernel, rfl, by decide +kernel, by decide +kernel⟩
theorem has_ltext (T : Tx K mg) : Has P w K mg base 1 (gA K "_law_text") ["_law_number", "_law_alphabet_here", "_law_most"] spText [] := by
  obtain ⟨fd, F⟩ := T.fd_law_text
  refine hasD F sc_ltext (fun vs H Q E h => ?_) (fun _ _ _ _ _ _ us hl => match us, hl with | [_, _, _], _ => rfl) (fun cdv A outer s H vs Q E hr h => ?_)
  · obtain ⟨n, ls, m, rfl, _⟩ := h
    rfl
  · obtain ⟨n, ls, m, rfl, hne, h6, hm1, hm8, k⟩ := h
    have nd := sc_ltext.nd
    refine ⟨_, (pss_cons (ps_set (i := 3) nd rfl (Or.inl rfl) pe_str)
        (pss_cons (ps_set (i := 4) nd rfl (Or.inl rfl) (pe_op op_add pe_int (pe_op op_mod (pv 0) (pv 2))))
        (pss_cons (ps_set (i := 0) nd rfl (Or.inl rfl) (pe_op op_fdiv (pv 0) (pv 2)))
        (pss_cons (ps_for PassesOwn.never rfl (pi_range1 rfl T.f_range (pa_cons (pv 4) pa_nil)) (pg_name (i := 5) nd rfl (Or.inl rfl))
        (pss_cons (ps_set (i := 3) nd rfl (Or.inl rfl) (pe_op op_add_str (pv 3) (pe_ix ix_str (pv 1) (pe_op op_mod (pv 0) (pe_callB call_len_str (by rfl) T.f_len PySem.boot_len (pa_cons (pv 1) pa_nil))) (fun _ _ => rfl))))
        (pss_one (ps_set (i := 0) nd rfl (Or.inl rfl) (pe_op op_fdiv (pv 0) (pe_callB call_len_str (by rfl) T.f_len PySem.boot_len (pa_cons (pv 1) pa_nil)))))))
        (pss_one (ps_ret (pv 3))))))), ?_⟩
    have m0 : (0 : Int) < (m : Nat) := by omega
    have h1 := Int.emod_nonneg n (by omega : ((m : Nat) : Int) ≠ 0)
    have h2 := Int.emod_lt_of_pos n m0
    have l0 : 0 < ls.length := List.length_pos_iff.mpr hne
    have tl : (tx ls).length ≤ sizeLine := by rw [tx_length]; exact Nat.le_of_lt (small_line (by omega))
    refine ⟨_, rfl, _, rfl, _, _, rfl, rfl, m0, _, _, rfl, rfl, _, rfl, _, rfl, _, _, rfl, rfl, ⟨m0, by omega⟩, _, rfl, _, rfl, ?_⟩
    dsimp only
    generalize hz : n % ((m : Nat) : Int) = z at h1 h2
    obtain ⟨y, rfl⟩ := Int.eq_ofNat_of_zero_le h1
    refine ⟨by omega, by omega, ?_⟩
    refine for_range (lo := 0) (n := (1 + (y : Int)).toNat) (D := { nx := tRet (tVar 3) { nx := fun _ H' => Q .non H', rt := Q }, rt := Q }) (fun j σ H' => ∃ (c : Int) (wd : List Nat) (v5 : Option V), σ = [some (.int c), some (.str (tx ls)), some (.int (m : Nat)), some (.str (tx wd)), some (.int (1 + (y : Nat))), v5] ∧ H' = H ∧ wd.length = j ∧ ∀ c ∈ wd, c ∈ ls)
      ⟨n / ((m : Nat) : Int), [], none, by rw [show tx [] = Str.ofString "" from by decide +kernel]; rfl, rfl, rfl, fun c h => (by cases h)⟩ ?_ ?_
    · rintro j σ H' hj ⟨c, wd, v5, rfl, rfl, hw, hin⟩
      have hn0 : (0 : Int) < (ls.length : Nat) := by omega
      have g1 := Int.emod_nonneg c (by omega : ((ls.length : Nat) : Int) ≠ 0)
      have g2 := Int.emod_lt_of_pos c hn0
      generalize hpe : c % ((ls.length : Nat) : Int) = pz at g1 g2
      obtain ⟨p, rfl⟩ := Int.eq_ofNat_of_zero_le g1
      have hpl : p < ls.length := by omega
      have hx : ls[p]? = some ls[p] := List.getElem?_eq_getElem hpl
      have hat : atI (tx ls).cps.toList ((p : Nat) : Int) = some ls[p] := by
        have hx' : (tx ls).cps.toList[p]? = some ls[p] := by rw [tx_list]; exact hx
        exact at_ofA (j := p) rfl hx'
      refine ⟨_, rfl, _, rfl, _, rfl, _, rfl, _, rfl, tl, ?_⟩
      dsimp only
      rw [tx_length]
      refine ⟨_, _, rfl, rfl, hn0, ?_⟩
      dsimp only
      rw [hpe]
      refine ⟨tx ls, _, ls[p], rfl, rfl, tl, hat, _, _, rfl, rfl, ?_, ?_⟩
      · rw [tx_length]
        exact Nat.le_of_lt (small_line (by show wd.length + 1 ≤ 1000000; omega))
      refine ⟨_, rfl, _, rfl, _, rfl, tl, ?_⟩
      dsimp only
      rw [tx_length, show (⟨#[ls[p]]⟩ : Str) = tx [ls[p]] from rfl, tx_append]
      refine ⟨_, _, rfl, rfl, ⟨hn0, by omega⟩, ?_⟩
      refine ⟨_, wd ++ [ls[p]], _, rfl, rfl, by rw [List.length_append, hw]; rfl, fun c hc => ?_⟩
      rcases List.mem_append.mp hc with h | h
      · exact hin c h
      · rw [List.mem_singleton.mp h]
        exact List.getElem_mem hpl
    · rintro σ H' ⟨c, wd, v5, rfl, rfl, hw, hin⟩
      exact ⟨_, rfl, k wd (fun e => by rw [e] at hw; have : 0 = (1 + (y : Int)).toNat := hw; omega) (by omega) hin⟩
abbrev nSh : List Str := ["_law_script", "_law_far", "_law_first", "_law_way", "_law_age", "_law_many", "_law_most", "_law_alphabet_here", "_law_rows", "_law_k", "_law_cell_here", "_law_deed", "_law_start"]
theorem sc_lshape : FnScope nSh ["_law_script", "_law_far"] (defScope s_law_shape) := ⟨rfl, rfl, rfl, by decide +kernel, rfl, by decide +kernel, by decide +kernel⟩
theorem deed5 {z : Int} : ∃ d, d ∈ deeds ∧ atI ([V.str "stroke", V.str "left", V.str "right", V.str "step", V.str "rest"]) (z % 5) = some (.str d) := by
  have h1 := Int.emod_nonneg z (by decide : (5 : Int) ≠ 0)
  have h2 := Int.emod_lt_of_pos z (by decide : (0 : Int) < 5)
  have h : z % 5 = 0 ∨ z % 5 = 1 ∨ z % 5 = 2 ∨ z % 5 = 3 ∨ z % 5 = 4 := by omega
  rcases h with h | h | h | h | h
  · exact ⟨"stroke", by simp [deeds], by rw [h]; exact ix0⟩
  · exact ⟨"left", by simp [deeds], by rw [h]; exact ix1⟩
  · exact ⟨"right", by simp [deeds], by rw [h]; exact ix2⟩
  · exact ⟨"step", by simp [deeds], by rw [h]; exact ix3⟩
  · exact ⟨"rest", by simp [deeds], by rw [h]; exact ix4⟩
theorem has_lshape (T : Tx K mg) : Has P w K mg base 2 (gA K "_law_shape") ["_law_script", "_law_far"] (spShape K) [] := by
  obtain ⟨fd, F⟩ := T.fd_law_shape
  refine hasD F sc_lshape (fun vs H Q E h => ?_) (fun _ _ _ _ _ _ us hl => match us, hl with | [_, _], _ => rfl) (fun cdv A outer s H vs Q E hr h => ?_)
  · obtain ⟨l, ns, rfl, _⟩ := h
    rfl
  · obtain ⟨l, ns, rfl, hS, k⟩ := h
    have nd := sc_lshape.nd
    have R7 : ∃ t, PSs (cxOf CX0 P w K mg base nSh "_law_shape" (defScope s_law_shape) (gA K "_law_shape") cdv A outer s H E).nox ((defBody s_law_shape).drop 7) t ∧
        ∀ f w a m M : Int, 0 ≤ a → a ≤ 200 → 1 ≤ m → m ≤ 6 → 1 ≤ M → M ≤ 8 → t { nx := fun _ H' => Q .non H', rt := Q } [some (.ref l), some (.int 16), some (.int f), some (.int w), some (.int a), some (.int m), some (.int M), none, none, none, none, none, none] H := by
      refine ⟨_, (pss_cons (ps_set (i := 7) nd rfl (Or.inl rfl) (pcl T.g__law_alphabet (has_lalphabet T) hr (pa_cons (pe_op op_fdiv (pv 2) pe_int) (pa_cons (pv 5) pa_nil))))
        (pss_cons (ps_set (i := 8) nd rfl (Or.inl rfl) (pe_lst pa_nil))
        (pss_cons (ps_for PassesOwn.never rfl (pi_range1 rfl T.f_range (pa_cons (pv 5) pa_nil)) (pg_name (i := 9) nd rfl (Or.inl rfl))
          (pss_cons (ps_set (i := 10) nd rfl (Or.inl rfl) (pcl T.g__law_cell (has_lcell T) hr (pa_cons (pv 0) (pa_cons (pe_op op_add pe_int (pv 9)) pa_nil))))
        (pss_cons (ps_set (i := 11) nd rfl (Or.inl rfl) (pe_ix ix_tup (pe_tup (pa_cons (pe_str) (pa_cons (pe_str) (pa_cons (pe_str) (pa_cons (pe_str) (pa_cons (pe_str) pa_nil)))))) (pe_op op_mod (pv 10) pe_int) (fun _ _ => rfl)))
        (pss_one (ps_expr (pe_bm PySem.F.plainAttrs_list PySem.F.slot_list_append PySem.F.type_list_append mt_append (pv 8) (pa_cons (pe_tup (pa_cons (pe_ix ix_str (pv 7) (pv 9) (fun _ _ => rfl)) (pa_cons (pv 11) (pa_cons (pcl T.g__law_text (has_ltext T) hr (pa_cons (pe_op op_fdiv (pv 10) pe_int) (pa_cons (pv 7) (pa_cons (pv 6) pa_nil)))) pa_nil)))) pa_nil)))))))
        (pss_cons (ps_set (i := 12) nd rfl (Or.inl rfl) (pcl T.g__law_text (has_ltext T) hr (pa_cons (pcl T.g__law_cell (has_lcell T) hr (pa_cons (pv 0) (pa_cons (pe_int) pa_nil))) (pa_cons (pv 7) (pa_cons (pe_int) pa_nil)))))
        (pss_one (ps_ret (pe_tup (pa_cons (pe_op op_add pe_int (pe_op op_mul pe_int (pe_op op_mod (pv 2) pe_int))) (pa_cons (pv 8) (pa_cons (pv 12) (pa_cons (pv 4) pa_nil))))))))))), fun f w a m M a0 a1 m1 m6 M1 M8 => ?_⟩
      obtain ⟨a, rfl⟩ := Int.eq_ofNat_of_zero_le a0
      obtain ⟨m, rfl⟩ := Int.eq_ofNat_of_zero_le (by omega : 0 ≤ m)
      obtain ⟨M, rfl⟩ := Int.eq_ofNat_of_zero_le (by omega : 0 ≤ M)
      refine ⟨_, rfl, _, _, rfl, rfl, ⟨by decide, by decide⟩, _, rfl, _, m, rfl, by omega, fun ls lnd lsm llen => ?_⟩
      have lne : ls ≠ [] := fun e => by rw [e] at llen; have : 0 = m := llen; omega
      have tl : (tx ls).length ≤ sizeLine := by rw [tx_length]; exact Nat.le_of_lt (small_line (by omega))
      refine ⟨Nat.zero_le _, fun rl hrl => ?_⟩
      have s1 := Same.new (o := .lst []) hrl
      refine ⟨_, rfl, _, rfl, by omega, by omega, ?_⟩
      refine for_range (lo := 0) (n := (m : Int).toNat) (fun j σ H' => ∃ (v9 v10 v11 : Option V) (dd : Nat → Str) (ww : Nat → List Nat) (as : List Addr), σ = [some (.ref l), some (.int 16), some (.int f), some (.int w), some (.int (a : Nat)), some (.int (m : Nat)), some (.int (M : Nat)), some (.str (tx ls)), some (.ref rl), v9, v10, v11, none] ∧
          Same H H' ∧ H' rl = some (.lst (as.map V.ref)) ∧ as.length = j ∧ (∀ (i : Nat) a c, as[i]? = some a → ls[i]? = some c → H' a = some (.tup [.str (sg c), .str (dd c), .str (tx (ww c))])) ∧
          (∀ c ∈ ls.take j, dd c ∈ deeds ∧ ww c ≠ [] ∧ (ww c).length ≤ 8 ∧ ∀ x ∈ ww c, x ∈ ls))
        ⟨none, none, none, fun _ => "", fun _ => [], [], rfl, s1, upd_same, rfl, fun i a c h => (by cases h), fun c h => (by simp at h)⟩ ?_ ?_
      · rintro j σ H' hj ⟨v9, v10, v11, dd, ww, as, rfl, t, hL, hal, hrow, hfn⟩
        have hjm : j < ls.length := by omega
        have hc : ls[j]? = some ls[j] := List.getElem?_eq_getElem hjm
        generalize ls[j] = c at hc
        have hcm := List.mem_of_getElem? hc
        refine ⟨_, rfl, _, rfl, _, _, rfl, rfl, l, ns, 3 + j, ?_, SqL.sm hS t, by omega, fun z => ?_⟩
        · have e : (3 : Int) + (0 + (j : Int)) = ((3 + j : Nat) : Int) := by omega
          dsimp only
          rw [e]
          rfl
        refine ⟨by show 5 ≤ sizeLine; decide, fun q0 hq0 => ?_⟩
        have s2 := Same.new (o := .tup [V.str "stroke", V.str "left", V.str "right", V.str "step", V.str "rest"]) hq0
        obtain ⟨d, hd, hdat⟩ := deed5 (z := z)
        refine ⟨_, rfl, _, _, rfl, rfl, by show (0 : Int) < 5; decide, q0, _, _, _, rfl, rfl, SqT.of upd_same, hdat, ?_⟩
        have hL2 := s2 _ _ hL
        have hat : atI (tx ls).cps.toList (0 + ((j : Nat) : Int)) = some c := by
          have hx' : (tx ls).cps.toList[j]? = some c := by rw [tx_list]; exact hc
          exact at_ofA (j := j) (by omega) hx'
        refine ⟨_, rfl, .inl ⟨rfl, _, SqL.of hL2⟩, _, rfl, _, rfl, tx ls, _, c, rfl, rfl, tl, hat, _, rfl, _, rfl, _, _, rfl, rfl, ⟨by decide, by decide⟩, _, rfl, _, rfl, ?_⟩
        refine ⟨_, ls, M, rfl, lne, by omega, by omega, by omega, fun wd wne wlen win => ?_⟩
        refine ⟨by show 3 ≤ sizeLine; decide, fun q hq => ?_⟩
        have s3 := Same.new (o := .tup [V.str (sg c), V.str d, V.str (tx wd)]) hq
        refine ⟨rl, _, _, rfl, rfl, s3 _ _ hL2, by rw [List.length_map, hal]; exact small_line (by omega), ?_⟩
        rw [append_refs]
        have hno : ∀ (i : Nat) x, i < j → ls[i]? = some x → x ≠ c := fun i x hij hx e => by
          subst e
          have := nd_ix lnd hx hc
          omega
        have s23 := s2.trans s3
        have hrlH := hrl
        refine ⟨_, _, _, fun x => if x = c then d else dd x, fun x => if x = c then wd else ww x, as ++ [q], rfl, mut_same (t.trans s23) hrl, upd_same, by rw [List.length_append, hal]; rfl, fun i b x hb hx => ?_, fun x hx => ?_⟩
        · rcases snoc_at hb with hb | ⟨hi, hb⟩
          · have hij : i < j := by rw [← hal]; exact (List.getElem?_eq_some_iff.mp hb).1
            have nx := hno i x hij hx
            have hbr := hrow i b x hb hx
            have nb : b ≠ rl := ne_of hbr hL (by intro z; cases z)
            show _ = some (HO.tup [V.str (sg x), V.str (if x = c then d else dd x), V.str (tx (if x = c then wd else ww x))])
            rw [if_neg nx, if_neg nx, upd_ne nb]
            exact s23 _ _ hbr
          · have ex : x = c := by
              rw [hi, hal, hc] at hx
              exact (Option.some.inj hx).symm
            have nb : q ≠ rl := fun e => by rw [e, hL2] at hq; cases hq
            show _ = some (HO.tup [V.str (sg x), V.str (if x = c then d else dd x), V.str (tx (if x = c then wd else ww x))])
            rw [if_pos ex, if_pos ex, hb, ex, upd_ne nb, upd_same]
            rfl
        · show (if x = c then d else dd x) ∈ deeds ∧ (if x = c then wd else ww x) ≠ [] ∧ (if x = c then wd else ww x).length ≤ 8 ∧ ∀ y ∈ (if x = c then wd else ww x), y ∈ ls
          by_cases e : x = c
          · rw [if_pos e, if_pos e]
            exact ⟨hd, wne, by omega, win⟩
          · rw [if_neg e, if_neg e]
            rw [take_snoc hc] at hx
            rcases List.mem_append.mp hx with h | h
            · exact hfn x h
            · exact absurd (List.mem_singleton.mp h) e
      · rintro σ H' ⟨v9, v10, v11, dd, ww, as, rfl, t, hL, hal, hrow, hfn⟩
        rw [List.take_of_length_le (by omega)] at hfn
        refine ⟨_, rfl, l, ns, 2, rfl, SqL.sm hS t, by decide, fun z => ⟨_, rfl, _, ls, 8, rfl, lne, by omega, by decide, by decide, fun st sne slen sin => ?_⟩⟩
        refine ⟨_, rfl, _, _, rfl, rfl, by show (0 : Int) < 2; decide, _, _, rfl, rfl, .inl ⟨by decide, by decide⟩, _, _, rfl, rfl, _, rfl, _, rfl, _, rfl, by show 4 ≤ sizeLine; decide, fun q hq => ?_⟩
        have hκ : ∃ κ : Bool, (4 : Int) + 2 * (f % 2) = (nW κ : Nat) := by
          have h1 := Int.emod_nonneg f (by decide : (2 : Int) ≠ 0)
          have h2 := Int.emod_lt_of_pos f (by decide : (0 : Int) < 2)
          rcases (by omega : f % 2 = 0 ∨ f % 2 = 1) with h | h
          · exact ⟨true, by rw [h]; rfl⟩
          · exact ⟨false, by rw [h]; rfl⟩
        obtain ⟨κ, hκ⟩ := hκ
        have s4 := Same.new (o := .tup [V.int (4 + 2 * (f % 2)), V.ref rl, V.str (tx st), V.int (a : Nat)]) hq
        refine k κ ⟨ls, dd, ww⟩ st a q rl _ (t.trans s4) ⟨lnd, lne, by show ls.length ≤ 6; omega, lsm, fun c hc => (hfn c hc).1, fun c hc => (hfn c hc).2.1, fun c hc => (hfn c hc).2.2.1, fun c hc => (hfn c hc).2.2.2⟩ ⟨sne, slen, sin⟩ (by omega) ⟨?_, as, s4 _ _ hL, ?_, fun i b c hb hx => s4 _ _ (hrow i b c hb hx)⟩
        · show (upd H' q _) q = _
          rw [upd_same]
          dsimp only
          rw [hκ]
        · show as.length = ls.length
          omega
    obtain ⟨t7, p7, k7⟩ := R7
    have R6 : ∃ t, PSs (cxOf CX0 P w K mg base nSh "_law_shape" (defScope s_law_shape) (gA K "_law_shape") cdv A outer s H E).nox ((defBody s_law_shape).drop 6) t ∧
        ∀ f w a m M : Int, 0 ≤ a → a ≤ 200 → 1 ≤ m → m ≤ 6 → 1 ≤ M → M ≤ 8 → t { nx := fun _ H' => Q .non H', rt := Q } [some (.ref l), some (.int 16), some (.int f), some (.int w), some (.int a), some (.int m), some (.int M), none, none, none, none, none, none] H := by
      refine ⟨_, pss_cons (ps_if (pt_cmpR op_eq (pv 3) pe_int (nomark _))
        (pss_cons (ps_set (i := 4) nd rfl (Or.inl rfl) (pe_op op_sub pe_int (pe_op op_mod (pe_op op_fdiv (pcl T.g__law_cell (has_lcell T) hr (pa_cons (pv 0) (pa_cons (pe_int) pa_nil))) pe_int) pe_int)))
        (pss_cons (ps_set (i := 5) nd rfl (Or.inl rfl) (pe_op op_add pe_int (pe_op op_mod (pe_op op_fdiv (pv 2) pe_int) pe_int)))
        (pss_one (ps_set (i := 6) nd rfl (Or.inl rfl) pe_int)))) pss_nil) p7, fun f w a m M a0 a1 m1 m6 M1 M8 => ?_⟩
      refine ⟨_, rfl, rfl, _, rfl, ite2d (fun hc => ?_) (fun hc => ?_)⟩
      · refine ⟨_, rfl, l, ns, 1, rfl, hS, by decide, fun z => ⟨_, _, rfl, rfl, ⟨by decide, by decide⟩, _, _, rfl, rfl, by show (0 : Int) < 100; decide, _, _, rfl, rfl, ?_⟩⟩
        refine ⟨_, rfl, _, _, rfl, rfl, ⟨by decide, by decide⟩, _, _, rfl, rfl, by show (0 : Int) < 2; decide, _, _, rfl, rfl, ?_⟩
        have h1 := Int.emod_nonneg (z / 8) (by decide : (100 : Int) ≠ 0)
        have h2 := Int.emod_lt_of_pos (z / 8) (by decide : (0 : Int) < 100)
        have h3 := Int.emod_nonneg (f / 2) (by decide : (2 : Int) ≠ 0)
        have h4 := Int.emod_lt_of_pos (f / 2) (by decide : (0 : Int) < 2)
        exact k7 _ _ _ _ _ (by omega) (by omega) (by omega) (by omega) (by decide) (by decide)
      · exact k7 _ _ _ _ _ a0 a1 m1 m6 M1 M8
    obtain ⟨t6, p6, k6⟩ := R6
    refine ⟨_, pss_cons (ps_set (i := 2) nd rfl (Or.inl rfl) (pcl T.g__law_cell (has_lcell T) hr (pa_cons (pv 0) (pa_cons (pe_int) pa_nil))))
      (pss_cons (ps_set (i := 3) nd rfl (Or.inl rfl) (pe_op op_mod (pcl T.g__law_cell (has_lcell T) hr (pa_cons (pv 0) (pa_cons (pe_int) pa_nil))) pe_int))
      (pss_cons (ps_set (i := 4) nd rfl (Or.inl rfl) (pe_op op_mod (pe_op op_fdiv (pcl T.g__law_cell (has_lcell T) hr (pa_cons (pv 0) (pa_cons (pe_int) pa_nil))) pe_int) pe_int))
      (pss_cons (ps_set (i := 5) nd rfl (Or.inl rfl) (pe_op op_add pe_int (pe_op op_mod (pe_op op_fdiv (pv 2) pe_int) pe_int)))
      (pss_cons (ps_set (i := 6) nd rfl (Or.inl rfl) pe_int)
      (pss_cons (ps_if (pt_cmpR op_eq (pv 3) pe_int (nomark _)) (pss_one (ps_set (i := 4) nd rfl (Or.inl rfl) (pe_op op_mod (pe_op op_fdiv (pcl T.g__law_cell (has_lcell T) hr (pa_cons (pv 0) (pa_cons (pe_int) pa_nil))) pe_int) (pe_op op_add (pv 1) pe_int)))) pss_nil) p6))))), ?_⟩
    refine ⟨_, rfl, l, ns, 0, rfl, hS, by decide, fun f => ⟨_, rfl, l, ns, 1, rfl, hS, by decide, fun z1 => ⟨_, _, rfl, rfl, by show (0 : Int) < 8; decide, ?_⟩⟩⟩
    refine ⟨_, rfl, l, ns, 1, rfl, hS, by decide, fun z2 => ⟨_, _, rfl, rfl, ⟨by decide, by decide⟩, _, _, rfl, rfl, by show (0 : Int) < 13; decide, ?_⟩⟩
    refine ⟨_, rfl, _, _, rfl, rfl, ⟨by decide, by decide⟩, _, _, rfl, rfl, by show (0 : Int) < 6; decide, _, _, rfl, rfl, ?_⟩
    have h1 := Int.emod_nonneg (z2 / 8) (by decide : (13 : Int) ≠ 0)
    have h2 := Int.emod_lt_of_pos (z2 / 8) (by decide : (0 : Int) < 13)
    have h3 := Int.emod_nonneg (f / 2) (by decide : (6 : Int) ≠ 0)
    have h4 := Int.emod_lt_of_pos (f / 2) (by decide : (0 : Int) < 6)
    refine ⟨_, rfl, rfl, _, rfl, ite2d (fun hc => ?_) (fun hc => ?_)⟩
    · refine ⟨_, rfl, l, ns, 1, rfl, hS, by decide, fun z => ⟨_, _, rfl, rfl, ⟨by decide, by decide⟩, _, rfl, _, _, rfl, rfl, _, _, rfl, rfl, by show (0 : Int) < 16 + 1; decide, ?_⟩⟩
      have h5 := Int.emod_nonneg (z / 8) (by decide : (16 + 1 : Int) ≠ 0)
      have h6 := Int.emod_lt_of_pos (z / 8) (by decide : (0 : Int) < 16 + 1)
      exact k6 _ _ _ _ _ h5 (by omega) (by omega) (by omega) (by decide) (by decide)
    · exact k6 _ _ _ _ _ h1 (by omega) (by omega) (by omega) (by decide) (by decide)
end
end SG

/-! ## SgMath4 -/
set_option autoImplicit true
set_option Elab.async false
set_option maxRecDepth 100000
set_option maxHeartbeats 4000000
namespace SG
open PySem PySem.Spec PyProof.Rows L2
/-! ### the plain law -/
theorem cut_take {F : List Nat} {b e t : Nat} (h : t ≤ e - b) : (F.take (b + t)).drop b = ((F.take e).drop b).take t := by
  rw [List.drop_take, List.drop_take, List.take_take, Nat.min_eq_left h, Nat.add_sub_cancel_left]
theorem cut_len {F : List Nat} {b e : Nat} (hbe : b ≤ e) (he : e ≤ F.length) : ((F.take e).drop b).length = e - b := by
  rw [List.length_drop, List.length_take, Nat.min_eq_left he]
theorem rnd_up {rd : RD} (ok : RdOk rd) {r : Nat} : ∀ {st : List Nat}, (∀ c ∈ st, c ∈ rd.ls) → (rnd rd.wd r st).length ≤ (rnd rd.wd (r + 1) st).length
  | [], _ => Nat.le_refl _
  | c :: st, h => by
    have h1 := (sz_mono (wd := rd.wd) (ls := rd.ls) (fun c hc => ⟨ok.wne c hc, ok.win c hc⟩) r c (h c List.mem_cons_self)).2
    have h2 := rnd_up (r := r) ok (st := st) fun x hx => h x (List.mem_cons_of_mem _ hx)
    unfold rnd at h2 ⊢
    rw [List.flatMap_cons, List.flatMap_cons, List.length_append, List.length_append]
    have h1' : (gr rd.wd r c).length ≤ (gr rd.wd (r + 1) c).length := h1
    omega
theorem rnd_younger {rd : RD} (ok : RdOk rd) {age : Nat} {st : List Nat} (h : ∀ c ∈ st, c ∈ rd.ls) : (rnd rd.wd (age - 1) st).length ≤ (rnd rd.wd age st).length := by
  cases age with
  | zero => exact Nat.le_refl _
  | succ n => exact rnd_up ok h
theorem algs_at {κ : Bool} {s : Spot} {v : Nat} (hv : v < nW κ) : atI ((algs κ s).map V.int) ((v : Nat) : Int) = some (.int (alg κ v s)) := by
  refine at_ofA (j := v) rfl ?_
  unfold algs
  rw [List.getElem?_map, List.getElem?_map, List.getElem?_range hv]
  rfl
theorem seen_at {κ : Bool} {row : List Int} {f : Int} {u : Nat} (hl : row.length = nW κ) (hu : u < nW κ) : atI ((seenF κ row f).map V.int) ((u : Nat) : Int) = some (.int (row.getD (((u : Int) - f) % (nW κ : Nat)).toNat 0)) := by
  refine at_ofA (j := u) rfl ?_
  unfold seenF
  rw [List.getElem?_map, List.getElem?_map, List.getElem?_range (by omega)]
  rfl
theorem seen_at0 {κ : Bool} {row : List Int} {u : Nat} (hl : row.length = nW κ) (hu : u < nW κ) : atI ((seenF κ row 0).map V.int) ((u : Nat) : Int) = some (.int (row.getD u 0)) := by
  rw [seen_at hl hu]
  have e : (((u : Int) - 0) % (nW κ : Nat)).toNat = u := by
    rw [Int.sub_zero, ← Int.natCast_emod, Nat.mod_eq_of_lt hu]
    rfl
  rw [e]
theorem seen_turned {κ : Bool} {row : List Int} {wy : Nat} {f : Int} (hl : row.length = nW κ) (hw : wy < nW κ) : ∃ u : Nat, (u : Int) = ((wy : Int) + f) % (nW κ : Nat) ∧ atI ((seenF κ row f).map V.int) ((u : Nat) : Int) = some (.int (row.getD wy 0)) := by
  have n0 := nW_pos κ
  have h1 := Int.emod_nonneg ((wy : Int) + f) (by omega : ((nW κ : Nat) : Int) ≠ 0)
  have h2 := Int.emod_lt_of_pos ((wy : Int) + f) (by omega : (0 : Int) < (nW κ : Nat))
  obtain ⟨u, hu⟩ := Int.eq_ofNat_of_zero_le h1
  refine ⟨u, hu.symm, ?_⟩
  rw [seen_at hl (by omega)]
  have e : (((u : Int) - f) % (nW κ : Nat)).toNat = wy := by
    rw [← hu]
    cases κ
    · have hw' : wy < 6 := hw
      show ((((wy : Int) + f) % 6 - f) % 6).toNat = wy
      omega
    · have hw' : wy < 4 := hw
      show ((((wy : Int) + f) % 4 - f) % 4).toNat = wy
      omega
  rw [e]
theorem shift0 {κ : Bool} {s : Spot} : rotN κ ((0 : Int) % (nW κ : Nat)).toNat s = s := by
  rw [Int.zero_emod]
  rfl
/-! ### the law's world -/
theorem TrackAt.kp {S : List Addr} {H H' : Hp} {K : PySem.W.Frag} {κ : Bool} (k : Kp S H H') (L : Lists S H) {p a : Addr} {c : Rec} (hR : c.R.length = nW κ) (hT : c.T.length = nW κ) (h : TrackAt K H p a c) : TrackAt K H' p a c := by
  obtain ⟨dx, r, h1, ss, rl, tl, h2, h3, h4, h5⟩ := h
  have n0 := nW_pos κ
  exact ⟨dx, r, k.at_ L h1 ins_nl, ss, rl, tl, k.at_ L h2 tup_nl, k.at_ L h3 tup_nl, k.at_ L h4 (ints_nl (by rw [hR]; exact n0)), k.at_ L h5 (ints_nl (by rw [hT]; exact n0))⟩
theorem kpSame {S : List Addr} {H0 H H' : Hp} (s : Same H0 H) (k : Kp S H H') (f : ∀ a ∈ S, H0 a = none) : Same H0 H' := fun b o e => k b o (s b o e) fun hm => by
  rw [f b hm] at e; cases e
theorem madeSame {H1 H2 H3 : Hp} {x : Addr} (hx : H1 x = none) (s : Same H1 H2) (k : ∀ b o, H2 b = some o → b ≠ x → H3 b = some o) : Same H1 H3 := fun b o e => k b o (s b o e) (ne_of_none e hx)
def dsOf (d : DI) (age b e : Nat) : List Dd := (((d.g.F age).take e).drop b).map d.g.rd.dd
structure LP (κ : Bool) (H0 : Hp) (d : DI) (c : Rec) (age b e wy t : Nat) (R : Int) : Prop where
  fresh : ∀ a ∈ d.S, H0 a = none
  a200 : age ≤ 200
  be : b ≤ e
  el : e ≤ (d.g.F age).length
  wyl : wy < nW κ
  it : IsTr κ (dsOf d age b e) c
  hR : c.R.getD wy 0 = R
  hT : c.T.getD wy 0 = (t : Int)
structure LF (K : PySem.W.Frag) (κ : Bool) (H0 H : Hp) (d : DI) (tr : Addr) (c : Rec) : Prop where
  same : Same H0 H
  dw : DW K κ H d
  tk : TrackAt K H d.g.p tr c
theorem LF.next {K : PySem.W.Frag} {κ : Bool} {H0 H H1 H2 : Hp} {d : DI} {tr : Addr} {c : Rec} (h : LF K κ H0 H d tr c) (f : ∀ a ∈ d.S, H0 a = none) (hR : c.R.length = nW κ) (hT : c.T.length = nW κ) (k : Kp d.S H H1) (w : DW K κ H1 d) (s : Same H1 H2) : LF K κ H0 H2 d tr c :=
  ⟨fun b o e => s b o (kpSame h.same k f b o e), w.same s, (h.tk.kp k h.dw.lists hR hT).same s⟩
theorem LF.sm {K : PySem.W.Frag} {κ : Bool} {H0 H H1 : Hp} {d : DI} {tr : Addr} {c : Rec} (h : LF K κ H0 H d tr c) (s : Same H H1) : LF K κ H0 H1 d tr c :=
  ⟨fun b o e => s b o (h.same b o e), h.dw.same s, h.tk.same s⟩
theorem DW.pen {K : PySem.W.Frag} {κ : Bool} {H : Hp} {d : DI} (h : DW K κ H d) : PenAt K κ H d.g.p := h.draw.choose_spec.b.1.1
theorem dsOf_len {d : DI} {age b e : Nat} (hbe : b ≤ e) (he : e ≤ (d.g.F age).length) : (dsOf d age b e).length = e - b := by
  unfold dsOf
  rw [List.length_map, cut_len hbe he]
theorem dsOf_take {d : DI} {age b e p : Nat} (h : p ≤ e - b) : dsOf d age b (b + p) = (dsOf d age b e).take p := by
  unfold dsOf
  rw [cut_take h, List.map_take]
section
variable {κ : Bool} {H0 : Hp} {d : DI} {c : Rec} {age b e wy t : Nat} {R : Int}
theorem LP.reach (h : LP κ H0 d c age b e wy t R) : IsReach κ (dsOf d age b e) wy R (t : Int) := by
  have := h.it.re wy h.wyl
  rw [h.hR, h.hT] at this
  exact this
theorem LP.tle (h : LP κ H0 d c age b e wy t R) : t ≤ e - b := by
  obtain ⟨t', e1, e2, _⟩ := h.reach.at_
  rw [dsOf_len h.be h.el] at e2
  omega
theorem LP.far_le (h : LP κ H0 d c age b e wy t R) {p : Nat} (hp : p ≤ e - b) : alg κ wy (pos κ (dsOf d age b (b + p))) ≤ R := by
  rw [dsOf_take hp]
  exact h.reach.le p (by rw [dsOf_len h.be h.el]; exact hp)
theorem LP.far_eq (h : LP κ H0 d c age b e wy t R) : alg κ wy (pos κ (dsOf d age b (b + t))) = R := by
  rw [dsOf_take h.tle]
  obtain ⟨t', e1, e2, e3, _⟩ := h.reach.at_
  have : t = t' := by omega
  subst this
  exact e3
theorem LP.far_lt (h : LP κ H0 d c age b e wy t R) {p : Nat} (hp : p < t) : alg κ wy (pos κ (dsOf d age b (b + p))) < R := by
  have htl := h.tle
  rw [dsOf_take (e := e) (by omega)]
  obtain ⟨t', e1, e2, e3, e4⟩ := h.reach.at_
  have : t = t' := by omega
  subst this
  exact e4 p hp
end
end SG

/-! ## SgLaw3 -/
set_option autoImplicit true
set_option Elab.async false
set_option maxRecDepth 100000
set_option maxHeartbeats 4000000
namespace SG
open PySem PySem.Spec PyProof.Rows L2
def spLaw (K : PySem.W.Frag) : Sp := fun vs H Q _ => ∃ (l : Addr) (ns : List Int), vs = [.ref l] ∧ ns.length ≤ 63 ∧ SqL K H l (ns.map V.int) ∧ ∀ H', Q (.bl true) H'
abbrev nLw : List Str := ["_law_script", "_law_ways", "_law_rows", "_law_start", "_law_age", "_law_growth", "_law_drawing", "_law_younger", "_law_size", "_law_begin", "_law_end", "_law_way", "_law_track", "_law_reach", "_law_touch", "_law_asked", "_law_k", "_law_place", "_law_far", "_law_first", "_law_v"]
theorem ge0 {a : Nat} : (if ((a : Nat) : Int) - 1 > 0 then ((a : Nat) : Int) - 1 else 0) = ((a - 1 : Nat) : Int) := by
  split <;> omega
section
variable {P : Program} {w : World} {K : PySem.W.Frag} {mg : Str → Option Value} {base : Heap}
theorem sc_law : FnScope nLw ["_law_script"] (defScope s_law) := ⟨rfl, rfl, rfl, by decide +kernel, rfl, by decide +kernel, by decide +kernel⟩
theorem has_law (T : Tx K mg) : Has P w K mg base 11 (gA K "law") ["_law_script"] (spLaw K) [] := by
  obtain ⟨fd, F⟩ := T.fd_law
  refine hasD F sc_law (fun vs H Q E h => ?_) (fun _ _ _ _ _ _ us hl => match us, hl with | [_], _ => rfl) (fun cdv A outer s H vs Q E hr h => ?_)
  · obtain ⟨l, ns, rfl, _⟩ := h
    rfl
  · obtain ⟨l, ns, rfl, hn63, hS, kQ⟩ := h
    have nd := sc_law.nd
    -- from the list of places on
    have R15 : ∃ t, PSs (cxOf CX0 P w K mg base nLw "law" (defScope s_law) (gA K "law") cdv A outer s H E).nox ((defBody s_law).drop 15) t ∧
        ∀ (κ : Bool) (H1 : Hp) (d : DI) (c : Rec) (age b e wy t0 : Nat) (R : Int) (tr rl qa : Addr) (yz sz : Int) (asks : List Nat) (v16 : Option V), LP κ H d c age b e wy t0 R → LF K κ H H1 d tr c → H qa = none → H1 qa = some (.lst ((asks.map fun n : Nat => (n : Int)).map V.int)) → ¬ qa ∈ d.S → (∀ a ∈ asks, a ≤ e - b) →
          t { nx := fun _ H' => Q .non H', rt := Q } [some (.ref l), some (.int (nW κ : Nat)), some (.ref rl), some (.str (tx d.g.st)), some (.int (age : Nat)), some (.ref d.g.a), some (.ref d.d), some (.int yz), some (.int sz), some (.int (b : Nat)), some (.int (e : Nat)), some (.int (wy : Nat)), some (.ref tr), some (.int R), some (.int (t0 : Nat)), some (.ref qa), v16, none, none, none, none] H1 := by
      refine ⟨_, (pss_cons (ps_for PassesOwn.never rfl (pi_list (pv 15)) (pg_name (i := 17) nd rfl (Or.inl rfl))
          (pss_cons (ps_set (i := 18) nd rfl (Or.inl rfl) (pe_ix ix_list (pcl T.g__law_along (Has.any true fun κ => has_lalong T κ) hr (pa_cons (pv 1) (pa_cons (pm0 (pm (pv 6) T.c_Drawing T.m_Drawing_stretch (Has.any true fun κ => has_stretch T κ) hr (pa_cons (pv 4) (pa_cons (pv 9) (pa_cons (pe_op op_add (pv 9) (pv 17)) pa_nil)))) T.c_Track T.m_Track_shift (Has.any true fun κ => has_shift0 T κ) hr) pa_nil))) (pv 11) (fun _ _ => rfl)))
        (pss_one (ps_if (PW.pt (pw_or (pt_cmpR op_gt (pv 18) (pv 13) (nomark _)) (pw_or1 (PW.pt (pw_and (pt_cmpR op_lt (pv 17) (pv 14) (nomark _)) (pw_and1 (pt_cmpR op_eq (pv 18) (pv 13) (nomark _)))))))) (pss_one (ps_never)) pss_nil))))
        (pss_cons (ps_set (i := 19) nd rfl (Or.inl rfl) (pe_op op_sub (pe_op op_mod (pe_op op_fdiv (pcl T.g__law_cell (has_lcell T) hr (pa_cons (pv 0) (pa_cons (pe_int) pa_nil))) pe_int) pe_int) pe_int))
        (pss_cons (ps_set (i := 19) nd rfl (Or.inl rfl) (pe_op op_mod (pv 19) (pv 1)))
        (pss_cons (ps_set (i := 20) nd rfl (Or.inl rfl) (pe_op op_mod (pe_op op_add (pv 11) (pv 19)) (pv 1)))
        (pss_one (ps_ret (pe_and (pe_cmpR op_eq (pe_ix ix_list (pm (pv 12) T.c_Track T.m_Track_reach (Has.any true fun κ => has_reach1 T κ) hr (pa_cons (pv 19) pa_nil)) (pv 20) (fun _ _ => rfl)) (pv 13) (nomark _))
            (pe_one (pe_cmpR op_eq (pe_ix ix_list (pm (pv 12) T.c_Track T.m_Track_touch (Has.any true fun κ => has_touch1 T κ) hr (pa_cons (pv 19) pa_nil)) (pv 20) (fun _ _ => rfl)) (pv 14) (nomark _)))))))))), ?_⟩
      intro κ H1 d c age b e wy t0 R tr rl qa yz sz asks v16 lp lf hqa hasks nqa hin
      have fr := lp.fresh
      have lR := lp.it.R
      have lT := lp.it.T
      have be := lp.be
      have el := lp.el
      refine ⟨_, rfl, qa, rfl, ⟨_, SqL.of hasks⟩, ?_⟩
      refine for_list (K := K) (a := qa) (xs := (asks.map fun n : Nat => (n : Int)).map V.int) (fun i σ H' => ∃ (v17 v18 : Option V), σ = [some (.ref l), some (.int (nW κ : Nat)), some (.ref rl), some (.str (tx d.g.st)), some (.int (age : Nat)), some (.ref d.g.a), some (.ref d.d), some (.int yz), some (.int sz), some (.int (b : Nat)), some (.int (e : Nat)), some (.int (wy : Nat)), some (.ref tr), some (.int R), some (.int (t0 : Nat)), some (.ref qa), v16, v17, v18, none, none] ∧
          LF K κ H H' d tr c ∧ H' qa = some (.lst ((asks.map fun n : Nat => (n : Int)).map V.int)))
        ⟨none, none, rfl, lf, hasks⟩ (fun i σ H' _ ⟨_, _, _, _, h⟩ => SqL.of h) ?_ ?_
      · rintro i x σ H2 hx ⟨v17, v18, rfl, lf2, ha2⟩
        obtain ⟨p, hp, rfl⟩ : ∃ p : Nat, asks[i]? = some p ∧ x = .int (p : Nat) := by
          rw [List.getElem?_map, List.getElem?_map] at hx
          cases q : asks[i]? with
          | none => rw [q] at hx; cases hx
          | some p => rw [q] at hx; exact ⟨p, rfl, (Option.some.inj hx).symm⟩
        have hpl := hin p (List.mem_of_getElem? hp)
        obtain ⟨_, dx, hd⟩ := lf2.dw.draw.choose_spec.b
        refine ⟨_, rfl, _, rfl, d.d, dx, _, rfl, hd, dfs_no _ _ _ _ (by decide +kernel), _, rfl, _, rfl, _, rfl, _, rfl, _, _, rfl, rfl, κ, d, age, b, b + p, ?_, lp.a200, lf2.dw, by omega, by omega, fun tq H3 k3 hW3 hT3 => ?_⟩
        · rw [Int.natCast_add]; rfl
        obtain ⟨cq, hTq, itq⟩ := id hT3
        obtain ⟨tdx, r', g1, g2⟩ := id hTq
        refine ⟨tq, tdx, _, rfl, g1, tfs_no _ _ (by decide +kernel), κ, d.g.p, tq, cq, 0, rfl, hTq, hW3.pen, fun sq H4 s4 hs4 => ?_⟩
        refine ⟨κ, sq, _, rfl, hs4, fun q H5 hq s5 hl5 => ⟨_, rfl, q, _, _, _, rfl, rfl, SqL.of hl5, algs_at lp.wyl, ?_⟩⟩
        rw [shift0, itq.pos]
        have lf5 := lf2.next fr lR lT k3 hW3 (fun b o e => s5 b o (s4 b o e))
        have ha5 : H5 qa = some (.lst ((asks.map fun n : Nat => (n : Int)).map V.int)) := s5 _ _ (s4 _ _ (k3 _ _ ha2 nqa))
        have f1 : alg κ wy (pos κ (dsOf d age b (b + p))) ≤ R := lp.far_le hpl
        refine ⟨_, rfl, _, rfl, _, _, rfl, rfl, _, rfl, iteN (by show ¬ R < alg κ wy (pos κ (dsOf d age b (b + p))); omega) ⟨_, rfl, _, rfl, _, _, rfl, rfl, _, rfl, ite2d (fun hlt => ?_) (fun hlt => ?_)⟩⟩
        · have f2 : alg κ wy (pos κ (dsOf d age b (b + p))) < R := lp.far_lt (by omega)
          refine ⟨_, rfl, _, rfl, rfl, _, rfl, iteN (fun h => ?_) ⟨_, _, rfl, lf5, ha5⟩⟩
          have h2 : alg κ wy (pos κ (dsOf d age b (b + p))) = R := V.int.inj h
          omega
        · exact ⟨_, _, rfl, lf5, ha5⟩
      · rintro σ H2 ⟨v17, v18, rfl, lf2, ha2⟩
        have n0 := nW_pos κ
        refine ⟨_, rfl, l, ns, 15, rfl, SqL.sm hS lf2.same, by decide, fun z => ⟨_, _, rfl, rfl, ⟨by decide, by decide⟩, _, _, rfl, rfl, by show (0 : Int) < 13; decide, _, _, rfl, rfl, ?_⟩⟩
        refine ⟨_, rfl, _, rfl, _, _, rfl, rfl, by show (0 : Int) < (nW κ : Nat); omega, ?_⟩
        refine ⟨_, rfl, _, rfl, _, _, rfl, rfl, _, rfl, _, _, rfl, rfl, by show (0 : Int) < (nW κ : Nat); omega, ?_⟩
        obtain ⟨tdx, r', g1, g2⟩ := id lf2.tk
        obtain ⟨u, hu, hu1⟩ := seen_turned (row := c.R) (f := (z / 6 % 13 - 6) % ((nW κ : Nat) : Int)) lR lp.wyl
        obtain ⟨u2, hu2, hu3⟩ := seen_turned (row := c.T) (f := (z / 6 % 13 - 6) % ((nW κ : Nat) : Int)) lT lp.wyl
        rw [lp.hR, hu] at hu1
        rw [lp.hT, hu2] at hu3
        refine ⟨_, rfl, tr, tdx, _, rfl, g1, tfs_no _ _ (by decide +kernel), _, rfl, κ, d.g.p, tr, c, (z / 6 % 13 - 6) % ((nW κ : Nat) : Int), rfl, lf2.tk, lf2.dw.pen, lR, fun q H3 hq s3 hl3 => ?_⟩
        refine ⟨_, rfl, q, _, _, _, rfl, rfl, SqL.of hl3, hu1, _, rfl, rfl, _, rfl, iteD rfl ?_⟩
        have lf3 := lf2.sm s3
        obtain ⟨tdx3, r3, g3, _⟩ := id lf3.tk
        refine ⟨_, rfl, tr, tdx3, _, rfl, g3, tfs_no _ _ (by decide +kernel), _, rfl, κ, d.g.p, tr, c, (z / 6 % 13 - 6) % ((nW κ : Nat) : Int), rfl, lf3.tk, lf3.dw.pen, lT, fun q2 H4 hq2 s4 hl4 => ?_⟩
        refine ⟨_, rfl, q2, _, _, _, rfl, rfl, SqL.of hl4, hu3, _, rfl, rfl, ?_⟩
        have e1 : decide (V.int (t0 : Nat) = V.int (t0 : Nat)) = true := decide_eq_true rfl
        rw [e1]
        exact kQ _
    obtain ⟨t15, p15, k15⟩ := R15
    -- from the track on
    have R8 : ∃ t, PSs (cxOf CX0 P w K mg base nLw "law" (defScope s_law) (gA K "law") cdv A outer s H E).nox ((defBody s_law).drop 8) t ∧
        ∀ (κ : Bool) (H1 : Hp) (d : DI) (age b e wy : Nat) (rl : Addr) (yz sz : Int), (∀ a ∈ d.S, H a = none) → age ≤ 200 → b ≤ e → e ≤ (d.g.F age).length → wy < nW κ → Same H H1 → DW K κ H1 d →
          t { nx := fun _ H' => Q .non H', rt := Q } [some (.ref l), some (.int (nW κ : Nat)), some (.ref rl), some (.str (tx d.g.st)), some (.int (age : Nat)), some (.ref d.g.a), some (.ref d.d), some (.int yz), some (.int sz), some (.int (b : Nat)), some (.int (e : Nat)), some (.int (wy : Nat)), none, none, none, none, none, none, none, none, none] H1 := by
      refine ⟨_, pss_cons (ps_set (i := 12) nd rfl (Or.inl rfl) (pm (pv 6) T.c_Drawing T.m_Drawing_stretch (Has.any true fun κ => has_stretch T κ) hr (pa_cons (pv 4) (pa_cons (pv 9) (pa_cons (pv 10) pa_nil)))))
        (pss_cons (ps_set (i := 13) nd rfl (Or.inl rfl) (pe_ix ix_list (pm0 (pv 12) T.c_Track T.m_Track_reach (Has.any true fun κ => has_reach0 T κ) hr) (pv 11) (fun _ _ => rfl)))
        (pss_cons (ps_set (i := 14) nd rfl (Or.inl rfl) (pe_ix ix_list (pm0 (pv 12) T.c_Track T.m_Track_touch (Has.any true fun κ => has_touch0 T κ) hr) (pv 11) (fun _ _ => rfl)))
        (pss_cons (ps_if (PW.pt (pw_or (pt_not (pt_truth (pcl T.g__law_whole (has_lwhole T) hr (pa_cons (pv 14) pa_nil)) (fun _ => rfl))) (pw_or (pt_not (pt_chain op_le op_le pe_int (pv 14) (pe_op op_sub (pv 10) (pv 9))))
            (pw_or1 (pt_not (pt_truth (pcl T.g__law_whole (has_lwhole T) hr (pa_cons (pv 13) pa_nil)) (fun _ => rfl))))))) (pss_one (ps_never)) pss_nil)
        (pss_cons (ps_if (pt_cmpR op_ne (pe_ix ix_list (pcl T.g__law_along (Has.any true fun κ => has_lalong T κ) hr (pa_cons (pv 1) (pa_cons (pm0 (pm (pv 6) T.c_Drawing T.m_Drawing_stretch (Has.any true fun κ => has_stretch T κ) hr (pa_cons (pv 4) (pa_cons (pv 9) (pa_cons (pe_op op_add (pv 9) (pv 14)) pa_nil)))) T.c_Track T.m_Track_shift (Has.any true fun κ => has_shift0 T κ) hr) pa_nil))) (pv 11) (fun _ _ => rfl)) (pv 13) (nomark _)) (pss_one (ps_never)) pss_nil)
        (pss_cons (ps_set (i := 15) nd rfl (Or.inl rfl) (pe_lst (pa_cons (pe_callB (call_max2 rfl) (by rfl) T.f_max (by decide +kernel) (pa_cons (pe_int) (pa_cons (pe_op op_sub (pv 14) pe_int) pa_nil))) pa_nil)))
        (pss_cons (ps_if (pt_cmpR op_lt (pv 4) pe_int (nomark _))
          (pss_cons (ps_set (i := 15) nd rfl (Or.inl rfl) (pe_op op_cat (pv 15) (pe_lst (pa_cons (pe_int) (pa_cons (pe_op op_sub (pv 10) (pv 9)) pa_nil)))))
        (pss_one (ps_for PassesOwn.never rfl (pi_range1 rfl T.f_range (pa_cons (pe_callB (call_max2 rfl) (by rfl) T.f_max (by decide +kernel) (pa_cons (pe_int) (pa_cons (pe_callB (call_min2 rfl) (by rfl) T.f_min (by decide +kernel) (pa_cons (pe_int) (pa_cons (pe_op op_sub (pe_callB call_len_seq (by rfl) T.f_len PySem.boot_len (pa_cons (pv 0) pa_nil)) pe_int) pa_nil))) pa_nil))) pa_nil)) (pg_name (i := 16) nd rfl (Or.inl rfl))
              (pss_one (ps_expr (pe_bm PySem.F.plainAttrs_list PySem.F.slot_list_append PySem.F.type_list_append mt_append (pv 15) (pa_cons (pe_op op_mod (pcl T.g__law_big (has_lbig T) hr (pa_cons (pv 0) (pa_cons (pe_op op_add pe_int (pv 16)) pa_nil))) (pe_op op_add (pe_op op_sub (pv 10) (pv 9)) pe_int)) pa_nil))))))) pss_nil) p15)))))), ?_⟩
      intro κ H1 d age b e wy rl yz sz fr a200 be el wyl same dw
      obtain ⟨_, dx, hd⟩ := dw.draw.choose_spec.b
      refine ⟨_, rfl, d.d, dx, _, rfl, hd, dfs_no _ _ _ _ (by decide +kernel), _, rfl, _, rfl, _, rfl, κ, d, age, b, e, rfl, a200, dw, be, el, fun tr H2 k2 hW2 hT2 => ?_⟩
      obtain ⟨c, hTk, it⟩ := id hT2
      have lf2 : LF K κ H H2 d tr c := ⟨kpSame same k2 fr, hW2, hTk⟩
      have lR := it.R
      have lT := it.T
      obtain ⟨t0, hT0, _⟩ := (it.re wy wyl).at_
      have lp : LP κ H d c age b e wy t0 (c.R.getD wy 0) := ⟨fr, a200, be, el, wyl, it, rfl, hT0⟩
      have htl := lp.tle
      generalize hRR : c.R.getD wy 0 = R at lp
      have hatT : atI ((seenF κ c.T 0).map V.int) ((wy : Nat) : Int) = some (.int ((t0 : Nat) : Int)) := by rw [← hT0]; exact seen_at0 lT wyl
      have hatR : atI ((seenF κ c.R 0).map V.int) ((wy : Nat) : Int) = some (.int R) := by rw [← hRR]; exact seen_at0 lR wyl
      obtain ⟨tdx, r', g1, _⟩ := id hTk
      refine ⟨_, rfl, tr, tdx, _, rfl, g1, tfs_no _ _ (by decide +kernel), κ, d.g.p, tr, c, 0, rfl, hTk, hW2.pen, lR, fun q3 H3 hq3 s3 hl3 => ⟨_, rfl, q3, _, _, _, rfl, rfl, SqL.of hl3, hatR, ?_⟩⟩
      have lf3 := lf2.sm s3
      obtain ⟨tdx3, r3, g3, _⟩ := id lf3.tk
      refine ⟨_, rfl, tr, tdx3, _, rfl, g3, tfs_no _ _ (by decide +kernel), κ, d.g.p, tr, c, 0, rfl, lf3.tk, lf3.dw.pen, lT, fun q4 H4 hq4 s4 hl4 => ⟨_, rfl, q4, _, _, _, rfl, rfl, SqL.of hl4, hatT, ?_⟩⟩
      have lf4 := lf3.sm s4
      have h0 : (0 : Int) ≤ ((t0 : Nat) : Int) := by omega
      have h1 : ((t0 : Nat) : Int) ≤ ((e : Nat) : Int) - ((b : Nat) : Int) := by omega
      refine ⟨_, rfl, _, rfl, true, rfl, iteF ?_⟩
      refine ⟨_, rfl, _, _, rfl, rfl, _, rfl, iteD h0 ⟨_, rfl, _, rfl, _, _, rfl, rfl, _, _, rfl, rfl, _, rfl, ?_⟩⟩
      rw [decide_eq_true h1]
      refine iteF ⟨_, rfl, _, rfl, true, rfl, iteF ?_⟩
      -- the place's own distance
      obtain ⟨_, dx4, hd4⟩ := lf4.dw.draw.choose_spec.b
      refine ⟨_, rfl, _, rfl, d.d, dx4, _, rfl, hd4, dfs_no _ _ _ _ (by decide +kernel), _, rfl, _, rfl, _, rfl, _, rfl, _, _, rfl, rfl, κ, d, age, b, b + t0, ?_, a200, lf4.dw, by omega, by omega, fun tq H5 k5 hW5 hT5 => ?_⟩
      · rw [Int.natCast_add]; rfl
      obtain ⟨cq, hTq, itq⟩ := id hT5
      obtain ⟨tdx5, r5, g5, _⟩ := id hTq
      refine ⟨tq, tdx5, _, rfl, g5, tfs_no _ _ (by decide +kernel), κ, d.g.p, tq, cq, 0, rfl, hTq, hW5.pen, fun sq H6 s6 hs6 => ?_⟩
      refine ⟨κ, sq, _, rfl, hs6, fun q7 H7 hq7 s7 hl7 => ⟨_, rfl, q7, _, _, _, rfl, rfl, SqL.of hl7, algs_at wyl, _, rfl, rfl, _, rfl, ?_⟩⟩
      rw [shift0, itq.pos]
      have lf7 := lf4.next fr lR lT k5 hW5 (fun b o e => s7 b o (s6 b o e))
      have hfar : alg κ wy (pos κ (dsOf d age b (b + t0))) = R := lp.far_eq
      rw [show pos κ ((((d.g.F age).take (b + t0)).drop b).map d.g.rd.dd) = pos κ (dsOf d age b (b + t0)) from rfl, hfar]
      have e7 : (!decide (V.int R = V.int R)) = false := by rw [decide_eq_true rfl]; rfl
      rw [e7]
      refine iteF ?_
      refine ⟨_, rfl, _, _, rfl, rfl, 0, ((t0 : Nat) : Int) - 1, rfl, by show 1 ≤ sizeLine; decide, fun qa hqa => ?_⟩
      dsimp only
      rw [ge0]
      have lf8 := lf7.sm (Same.new (o := .lst [V.int ((t0 - 1 : Nat) : Int)]) hqa)
      have nS : ∀ {H' : Hp} {z : Addr}, DW K κ H' d → H' z = none → ¬ z ∈ d.S := fun w h => not_S w.lists h
      refine ⟨_, rfl, _, _, rfl, rfl, _, rfl, ite2d (fun hc => ?_) (fun hc => ?_)⟩
      · refine ⟨_, rfl, _, rfl, _, rfl, _, _, rfl, rfl, by show 2 ≤ sizeLine; decide, fun q8 hq8 => ?_⟩
        have s9 := Same.new (o := .lst [V.int 0, V.int (((e : Nat) : Int) - ((b : Nat) : Int))]) hq8
        have lf9 := lf8.sm s9
        refine ⟨qa, q8, _, _, rfl, rfl, s9 _ _ upd_same, upd_same, by show 1 + 2 ≤ sizeLine; decide, fun q9 hq9 => ?_⟩
        have qaH : H q9 = none := lf9.same.free hq9
        have n9 := nS lf9.dw hq9
        -- the loop's range
        refine ⟨_, rfl, l, _, rfl, .inl (SqL.sm (SqL.sm hS lf9.same) (Same.new hq9)), _, _, rfl, rfl, 4, _, rfl, 0, _, rfl, _, rfl, ?_⟩
        rw [List.length_map]
        generalize hJ : (if (if ((ns.length : Nat) : Int) - 16 < 4 then ((ns.length : Nat) : Int) - 16 else 4) > 0 then (if ((ns.length : Nat) : Int) - 16 < 4 then ((ns.length : Nat) : Int) - 16 else 4) else 0) = J
        have hJ1 : 0 ≤ J ∧ J ≤ 4 := by rw [← hJ]; split <;> split <;> omega
        refine ⟨by omega, by omega, ?_⟩
        have e9 : ([V.int ((t0 - 1 : Nat) : Int)] ++ [V.int 0, V.int (((e : Nat) : Int) - ((b : Nat) : Int))]) = (([t0 - 1, 0, e - b].map fun n : Nat => (n : Int)).map V.int) := by
          have : ((e : Nat) : Int) - ((b : Nat) : Int) = ((e - b : Nat) : Int) := by omega
          rw [this]
          rfl
        rw [e9]
        refine for_range (lo := 0) (n := J.toNat) (D := { nx := t15 { nx := fun _ H' => Q .non H', rt := Q }, rt := Q }) (fun j σ H' => ∃ (v16 : Option V) (asks : List Nat), σ = [some (.ref l), some (.int (nW κ : Nat)), some (.ref rl), some (.str (tx d.g.st)), some (.int (age : Nat)), some (.ref d.g.a), some (.ref d.d), some (.int yz), some (.int sz), some (.int (b : Nat)), some (.int (e : Nat)), some (.int (wy : Nat)), some (.ref tr), some (.int R), some (.int (t0 : Nat)), some (.ref q9), v16, none, none, none, none] ∧
            Same (upd (upd H7 qa (.lst [V.int ((t0 - 1 : Nat) : Int)])) q8 (.lst [V.int 0, V.int (((e : Nat) : Int) - ((b : Nat) : Int))])) H' ∧ H' q9 = some (.lst ((asks.map fun n : Nat => (n : Int)).map V.int)) ∧ asks.length = 3 + j ∧ ∀ a ∈ asks, a ≤ e - b)
          ⟨none, [t0 - 1, 0, e - b], rfl, Same.new hq9, upd_same, rfl, fun a ha => ?_⟩ ?_ ?_
        · rcases List.mem_cons.mp ha with h | ha
          · omega
          · rcases List.mem_cons.mp ha with h | ha
            · omega
            · rw [List.mem_singleton.mp ha]
              exact Nat.le_refl _
        · rintro j σ H' hj ⟨v16, asks, rfl, sj, hqj, hlen, hin⟩
          have hSj := SqL.sm (SqL.sm hS lf9.same) sj
          refine ⟨_, rfl, .inl ⟨rfl, _, SqL.of hqj⟩, _, rfl, _, rfl, _, _, rfl, rfl, l, ns, 16 + j, ?_, hSj, by omega, fun z => ?_⟩
          · have e : (16 : Int) + (0 + (j : Int)) = ((16 + j : Nat) : Int) := by omega
            dsimp only
            rw [e]
            rfl
          have hp : (0 : Int) < ((e : Nat) : Int) - ((b : Nat) : Int) + 1 := by omega
          have m1 := Int.emod_nonneg z (by omega : ((e : Nat) : Int) - ((b : Nat) : Int) + 1 ≠ 0)
          have m2 := Int.emod_lt_of_pos z hp
          obtain ⟨m, hm⟩ := Int.eq_ofNat_of_zero_le m1
          refine ⟨_, rfl, _, rfl, _, _, rfl, rfl, _, _, rfl, rfl, _, _, rfl, rfl, hp, q9, _, _, rfl, rfl, hqj, ?_, ?_⟩
          · rw [List.length_map, List.length_map, hlen]
            exact small_line (by omega)
          · have e10 : (asks.map fun n : Nat => (n : Int)).map V.int ++ [V.int (z % (((e : Nat) : Int) - ((b : Nat) : Int) + 1))] = ((asks ++ [m]).map fun n : Nat => (n : Int)).map V.int := by
              rw [hm, List.map_append, List.map_append]
              rfl
            dsimp only
            rw [e10]
            refine ⟨_, asks ++ [m], rfl, mut_same sj hq9, upd_same, by rw [List.length_append, hlen]; rfl, fun a ha => ?_⟩
            rcases List.mem_append.mp ha with h | h
            · exact hin a h
            · rw [List.mem_singleton.mp h]
              omega
        · rintro σ H' ⟨v16, asks, rfl, sj, hqj, hlen, hin⟩
          exact k15 κ _ d c age b e wy t0 R tr rl q9 yz sz asks v16 lp (lf9.sm sj) qaH hqj n9 hin
      · exact k15 κ _ d c age b e wy t0 R tr rl qa yz sz [t0 - 1] none lp lf8 (lf7.same.free hqa) upd_same (nS lf7.dw hqa) (fun a ha => by rw [List.mem_singleton.mp ha]; omega)
    obtain ⟨t8, p8, k8⟩ := R8
    refine ⟨_, pss_cons (ps_asg (pcl T.g__law_shape (has_lshape T) hr (pa_cons (pv 0) (pa_cons (pe_int) pa_nil))) (pg_tup rfl (pgs_cons (pg_name (i := 1) nd rfl (Or.inl rfl)) (pgs_cons (pg_name (i := 2) nd rfl (Or.inl rfl)) (pgs_cons (pg_name (i := 3) nd rfl (Or.inl rfl)) (pgs_cons (pg_name (i := 4) nd rfl (Or.inl rfl)) pgs_nil))))))
      (pss_cons (ps_set (i := 5) nd rfl (Or.inl rfl) (pmake T.mk_Growth T.g_Growth (Has.any true fun κ => has_ginit T κ) hr (pa_cons (pmake T.mk_Rules T.g_Rules (Has.any true fun κ => has_rinit T κ) hr (pa_cons (pv 1) (pa_cons (pe_callTy call_list_of (by rfl) T.f_list (by decide +kernel) (pa_cons (pv 2) pa_nil)) pa_nil))) (pa_cons (pv 3) pa_nil))))
      (pss_cons (ps_set (i := 6) nd rfl (Or.inl rfl) (pmake T.mk_Drawing T.g_Drawing (Has.any true fun κ => has_dinit T κ) hr (pa_cons (pv 5) pa_nil)))
      (pss_cons (ps_set (i := 7) nd rfl (Or.inl rfl) (pe_callB (call_max2 rfl) (by rfl) T.f_max (by decide +kernel) (pa_cons (pe_int) (pa_cons (pe_op op_sub (pv 4) pe_int) pa_nil))))
      (pss_cons (ps_set (i := 8) nd rfl (Or.inl rfl) (pm (pv 5) T.c_Growth T.m_Growth_length (Has.any true fun κ => has_length T κ) hr (pa_cons (pe_ix ix_list (pe_lst (pa_cons (pv 4) (pa_cons (pv 7) pa_nil))) (pe_op op_mod (pe_op op_fdiv (pcl T.g__law_cell (has_lcell T) hr (pa_cons (pv 0) (pa_cons (pe_int) pa_nil))) pe_int) pe_int) (fun _ _ => rfl)) pa_nil)))
      (pss_cons (ps_asg (pe_callB cr_sorted (by rfl) T.f_sorted (by decide +kernel) (pa_cons (pe_lst (pa_cons (pe_op op_mod (pcl T.g__law_big (has_lbig T) hr (pa_cons (pv 0) (pa_cons (pe_int) pa_nil))) (pe_op op_add (pv 8) pe_int)) (pa_cons (pe_op op_mod (pcl T.g__law_big (has_lbig T) hr (pa_cons (pv 0) (pa_cons (pe_int) pa_nil))) (pe_op op_add (pv 8) pe_int)) pa_nil))) pa_nil)) (pg_unl rfl (pgs_cons (pg_name (i := 9) nd rfl (Or.inl rfl)) (pgs_cons (pg_name (i := 10) nd rfl (Or.inl rfl)) pgs_nil))))
      (pss_cons (ps_set (i := 11) nd rfl (Or.inl rfl) (pe_op op_mod (pcl T.g__law_cell (has_lcell T) hr (pa_cons (pv 0) (pa_cons (pe_int) pa_nil))) (pv 1)))
      (pss_cons (ps_if (pt_cmpR op_le (pv 10) (pm (pv 5) T.c_Growth T.m_Growth_length (Has.any true fun κ => has_length T κ) hr (pa_cons (pv 7) pa_nil)) (nomark _)) (pss_one (ps_expr (pm (pv 6) T.c_Drawing T.m_Drawing_stretch (Has.any true fun κ => has_stretch T κ) hr (pa_cons (pv 7) (pa_cons (pv 9) (pa_cons (pv 10) pa_nil)))))) pss_nil) p8))))))), ?_⟩
    refine ⟨_, rfl, l, ns, rfl, hS, fun κ rd st age q0 rl H1 s1 ok sok a200 ⟨hq0, hrows⟩ => ⟨q0, _, rfl, SqT.of hq0, rfl, _, _, rfl, _, _, rfl, _, _, rfl, _, _, rfl, rfl, ?_⟩⟩
    obtain ⟨as, hr1, hr2, hr3⟩ := id hrows
    -- the rules
    refine ⟨_, rfl, _, rfl, rl, _, rfl, .inl (SqL.of hr1), fun l2 hl2 => ?_⟩
    have s2 := Same.new (o := .lst (as.map V.ref)) hl2
    intro x dx hx hdx hne
    have s3 : Same (upd H1 l2 (.lst (as.map V.ref))) (upd (upd (upd H1 l2 (.lst (as.map V.ref))) dx (.own x)) x (.ins (gA K "Rules") dx [])) := mut_same (Same.new hdx) hx
    have u3 : Same H (upd (upd (upd H1 l2 (.lst (as.map V.ref))) dx (.own x)) x (.ins (gA K "Rules") dx [])) := fun b o e => s3 b o (s2 b o (s1 b o e))
    refine ⟨κ, x, dx, l2, rd, rfl, upd_same, ok, ⟨as, s3 _ _ upd_same, hr2, fun i a c h1 h2 => s3 _ _ (s2 _ _ (hr3 i a c h1 h2))⟩, fun p H3 keep3 hR3 => ⟨rfl, ?_⟩⟩
    have t3 := madeSame hx s3 keep3
    have v3 : Same H H3 := fun b o e => t3 b o (s2 b o (s1 b o e))
    -- the growth
    refine ⟨_, rfl, ?_⟩
    intro x2 dx2 hx2 hdx2 hne2
    have s4 : Same H3 (upd (upd H3 dx2 (.own x2)) x2 (.ins (gA K "Growth") dx2 [])) := mut_same (Same.new hdx2) hx2
    have v4 := v3.trans s4
    refine ⟨κ, x2, dx2, p, x, rd, st, rfl, upd_same, hR3.same s4, sok, fun sl tl H4 keep4 hG4 hsl htl => ⟨rfl, ?_⟩⟩
    have t4 := madeSame hx2 s4 keep4
    have w4 := v3.trans t4
    -- the drawing
    refine ⟨_, rfl, ?_⟩
    intro x3 dx3 hx3 hdx3 hne3
    have s5 : Same H4 (upd (upd H4 dx3 (.own x3)) x3 (.ins (gA K "Drawing") dx3 [])) := mut_same (Same.new hdx3) hx3
    have v5 := w4.trans s5
    refine ⟨κ, x3, dx3, ⟨p, x, x2, sl, tl, rd, st⟩, rfl, upd_same, hG4.same s5, fun dl H5 keep5 hW5 hdl => ⟨rfl, ?_⟩⟩
    have t5 := madeSame hx3 s5 keep5
    have w5 := w4.trans t5
    have fr : ∀ a ∈ (⟨⟨p, x, x2, sl, tl, rd, st⟩, x3, dl⟩ : DI).S, H a = none := fun a ha => by
      rcases List.mem_cons.mp ha with e | ha
      · rw [e]; exact v4.free hsl
      · rcases List.mem_cons.mp ha with e | ha
        · rw [e]; exact v4.free htl
        · rw [List.mem_singleton.mp ha]; exact v5.free hdl
    obtain ⟨d, hd⟩ : ∃ d : DI, d = ⟨⟨p, x, x2, sl, tl, rd, st⟩, x3, dl⟩ := ⟨_, rfl⟩
    rw [← hd] at hW5 fr
    have ed : x3 = d.d := by rw [hd]
    have eg : x2 = d.g.a := by rw [hd]
    have est : st = d.g.st := by rw [hd]
    have erd : rd = d.g.rd := by rw [hd]
    rw [ed, eg, est]
    rw [erd] at ok sok
    rw [est] at sok
    -- younger
    refine ⟨_, rfl, _, _, rfl, rfl, 0, ((age : Nat) : Int) - 1, rfl, ?_⟩
    dsimp only
    rw [ge0]
    -- the size
    obtain ⟨_, _, gx5, a5⟩ := id hW5.grow.choose_spec.choose_spec.b
    refine ⟨_, rfl, d.g.a, gx5, _, rfl, a5, gfs_no _ _ _ _ (by decide +kernel), _, rfl, _, rfl, by show 2 ≤ sizeLine; decide, fun qq hqq => ?_⟩
    have s6 := Same.new (o := .lst [V.int ((age : Nat) : Int), V.int ((age - 1 : Nat) : Int)]) hqq
    have v6 := w5.trans s6
    have hW6 := hW5.same s6
    refine ⟨_, rfl, l, ns, 15, rfl, SqL.sm hS v6, by decide, fun z => ?_⟩
    obtain ⟨r, hr200, hrle, hat⟩ : ∃ r : Nat, r ≤ 200 ∧ (rnd d.g.rd.wd r d.g.st).length ≤ (d.g.F age).length ∧ atI [V.int ((age : Nat) : Int), V.int ((age - 1 : Nat) : Int)] (z / 101 % 2) = some (.int ((r : Nat) : Int)) := by
      have h1 := Int.emod_nonneg (z / 101) (by decide : (2 : Int) ≠ 0)
      have h2 := Int.emod_lt_of_pos (z / 101) (by decide : (0 : Int) < 2)
      rcases (by omega : z / 101 % 2 = 0 ∨ z / 101 % 2 = 1) with h | h
      · exact ⟨age, a200, Nat.le_refl _, by rw [h]; exact ix0⟩
      · exact ⟨age - 1, by omega, rnd_younger ok sok.win, by rw [h]; exact ix1⟩
    refine ⟨_, _, rfl, rfl, ⟨by decide, by decide⟩, _, _, rfl, rfl, by show (0 : Int) < 2; decide, qq, _, _, _, rfl, rfl, SqL.of upd_same, hat, κ, d.g, r, rfl, hr200, hW6.grow, fun H7 k7 hG7 => ?_⟩
    have hW7 := hW6.grew k7 hG7
    have w7 := kpSame v6 k7.wide fr
    obtain ⟨sz, hsz⟩ : ∃ sz, sz = (rnd d.g.rd.wd r d.g.st).length := ⟨_, rfl⟩
    rw [← hsz] at hrle ⊢
    have sz0 : (0 : Int) < ((sz : Nat) : Int) + 1 := by omega
    -- begin and end
    refine ⟨_, rfl, l, ns, 9, rfl, SqL.sm hS w7, by decide, fun z1 => ⟨_, rfl, _, _, rfl, rfl, _, _, rfl, rfl, sz0, ?_⟩⟩
    refine ⟨_, rfl, l, ns, 12, rfl, SqL.sm hS w7, by decide, fun z2 => ⟨_, rfl, _, _, rfl, rfl, _, _, rfl, rfl, sz0, by show 2 ≤ sizeLine; decide, fun q8 hq8 => ?_⟩⟩
    have s8 := Same.new (o := .lst [V.int (z1 % (((sz : Nat) : Int) + 1)), V.int (z2 % (((sz : Nat) : Int) + 1))]) hq8
    refine ⟨q8, [z1 % (((sz : Nat) : Int) + 1), z2 % (((sz : Nat) : Int) + 1)], rfl, SqL.of upd_same, by show 2 < 64; decide, fun ns' p9 hperm hpw hp9 => ?_⟩
    obtain ⟨x1, y1, rfl⟩ : ∃ x1 y1, ns' = [x1, y1] := by
      have hl := hperm.length_eq
      match ns', hl with
      | [x1, y1], _ => exact ⟨x1, y1, rfl⟩
    have mem : ∀ x ∈ [x1, y1], 0 ≤ x ∧ x ≤ ((sz : Nat) : Int) := fun x hx => by
      have h := hperm.mem_iff.mp hx
      have b1 := Int.emod_nonneg z1 (by omega : ((sz : Nat) : Int) + 1 ≠ 0)
      have b2 := Int.emod_lt_of_pos z1 sz0
      have b3 := Int.emod_nonneg z2 (by omega : ((sz : Nat) : Int) + 1 ≠ 0)
      have b4 := Int.emod_lt_of_pos z2 sz0
      rcases List.mem_cons.mp h with h | h
      · omega
      · rw [List.mem_singleton] at h
        omega
    obtain ⟨x0, x2'⟩ := mem x1 List.mem_cons_self
    obtain ⟨y0, y2'⟩ := mem y1 (List.mem_cons_of_mem _ List.mem_cons_self)
    have hxy : x1 ≤ y1 := (List.pairwise_cons.mp hpw).1 y1 List.mem_cons_self
    obtain ⟨b, rfl⟩ := Int.eq_ofNat_of_zero_le x0
    obtain ⟨e, rfl⟩ := Int.eq_ofNat_of_zero_le y0
    have be : b ≤ e := by omega
    have el : e ≤ (d.g.F age).length := by omega
    have s9 := Same.new (o := .lst [V.int ((b : Nat) : Int), V.int ((e : Nat) : Int)]) hp9
    refine ⟨p9, _, rfl, SqL.of upd_same, rfl, _, _, rfl, _, _, rfl, rfl, ?_⟩
    have w9 := (w7.trans s8).trans s9
    have hW9 := (hW7.same s8).same s9
    -- the way
    have n0 : (0 : Int) < (nW κ : Nat) := by have := nW_pos κ; omega
    refine ⟨_, rfl, l, ns, 15, rfl, SqL.sm hS w9, by decide, fun z3 => ⟨_, rfl, _, _, rfl, rfl, n0, ?_⟩⟩
    have g1 := Int.emod_nonneg z3 (by omega : ((nW κ : Nat) : Int) ≠ 0)
    have g2 := Int.emod_lt_of_pos z3 n0
    dsimp only
    obtain ⟨wy, hwy⟩ := Int.eq_ofNat_of_zero_le g1
    rw [hwy]
    have wyl : wy < nW κ := by omega
    -- the younger's stretch
    obtain ⟨_, _, gx9, a9⟩ := id hW9.grow.choose_spec.choose_spec.b
    refine ⟨_, rfl, _, rfl, d.g.a, gx9, _, rfl, a9, gfs_no _ _ _ _ (by decide +kernel), _, rfl, κ, d.g, age - 1, rfl, by omega, hW9.grow, fun H10 k10 hG10 => ?_⟩
    have hW10 := hW9.grew k10 hG10
    have w10 := kpSame w9 k10.wide fr
    refine ⟨_, _, rfl, rfl, _, rfl, ite2d (fun hc => ?_) (fun hc => ?_)⟩
    · obtain ⟨_, dx10, d10⟩ := hW10.draw.choose_spec.b
      have ey : e ≤ (d.g.F (age - 1)).length := by
        have : ((e : Nat) : Int) ≤ ((rnd d.g.rd.wd (age - 1) d.g.st).length : Nat) := hc
        show e ≤ (rnd d.g.rd.wd (age - 1) d.g.st).length
        omega
      exact ⟨_, rfl, d.d, dx10, _, rfl, d10, dfs_no _ _ _ _ (by decide +kernel), _, rfl, _, rfl, _, rfl, κ, d, age - 1, b, e, rfl, by omega, hW10, be, ey, fun tq H11 k11 hW11 _ => k8 κ H11 d age b e wy rl _ _ fr a200 be el wyl (kpSame w10 k11 fr) hW11⟩
    · exact k8 κ H10 d age b e wy rl _ _ fr a200 be el wyl w10 hW10
end
end SG

/-! ## SgHead -/
set_option autoImplicit true
set_option Elab.async false
set_option linter.all false
set_option maxRecDepth 100000
set_option maxHeartbeats 0
namespace SG
open PySem PySem.Spec PyProof.Rows L2
abbrev RR : PySem.W.OpenRow := PySem.W.OpenLaw.row PySem.Challenge.rw_strokegrow_k55_whole_reach_touched
/-! ### the heap's part that the module's names reach, each object once -/
section
variable {R : Type}
def oneB (b : Addr) (m : Nat) (acc : List Addr) (k : Nat → List Addr → R) : R := HandSHeadRun.frNat b fun b => match Nat.testBit m b with
  | true => k m acc
  | false => HandSHeadRun.frNat (Nat.lor m (Nat.shiftLeft 1 b)) fun m' => k m' (b :: acc)
def manyB : List Addr → Nat → List Addr → (Nat → List Addr → R) → R
  | [], m, acc, k => k m acc
  | b :: r, m, acc, k => oneB b m acc fun m' acc' => manyB r m' acc' k
def rowB (g : Addr → Option Obj) : List Addr → Nat → List Addr → (Nat → List Addr → R) → R
  | [], m, acc, k => k m acc
  | a :: r, m, acc, k => match g a with
    | some o => manyB (He.refsD o) m acc fun m' acc' => rowB g r m' acc' k
    | none => rowB g r m acc k
end
def levB (g : Addr → Option Obj) : Nat → List Addr → Nat → List Addr → List Addr
  | 0, _, _, al => al
  | n + 1, fr, m, al => rowB g fr m [] fun m' new => levB g n new m' (al ++ new)
def asB (g : Addr → Option Obj) (n : Nat) : List Addr := levB g n [mainGlobals] (Nat.shiftLeft 1 mainGlobals) [mainGlobals]
def loose1 : List Str := ["_wall", "GrowError", "NoPen", "NoDeed", "NoRules", "NoWord", "NoLetter", "NoRound", "NoPlace", "added", "cross", "Pen", "Quarter", "Sixth", "pen_of", "Track", "still", "area_of", "track_of"]
def loose2 : List Str := ["Drawing", "MOST_START", "Growth", "ALPHABET", "DEEDS", "MOST_ROWS", "MOST_SIGNS", "small_letter", "good_row", "look_at_rows", "Rules", "_law_cell", "_law_whole", "_law_alphabet", "_law_text", "_law_shape", "_law_big", "_law_along"]
def loose : List Str := loose1 ++ loose2
/-! ### the Hook -/
def frB (g : Addr → Option Obj) : PySem.W.Frag := He.frG g (asB g 6)
theorem frB_in {h : Heap} : (frB h.get?).In h := He.frG_in
abbrev AlB : Type := He.AlD × Bool
def obB (g : Addr → Option Obj) : AlB := (He.obsD fa fn (frB g), exB (frB g))
def hk : PySem.W.Hook where
  α := AlB
  obs := fun s => obB s.heap.get?
  val := fun _ => (He.valD fn, true)
  says := fun _ h => ∃ K : PySem.W.Frag, K.In h ∧ He.SaysD fa fn K ∧ exB K = true
  of := fun _ _ e => ⟨_, frB_in, congrArg (fun z : AlB => z.1) e, congrArg (fun z : AlB => z.2) e⟩
  keeps := fun _ _ _ ⟨K, hK, c⟩ k => ⟨K, PySem.W.Frag.In.keeps hK k, c⟩
def ob (s : PySem.W.SharedT) : AlB := obB (HandSHeadRun.getT s)
theorem ob_eq (s : PySem.W.SharedT) : ob s = hk.obs s.abs := by
  have e : HandSHeadRun.getT s = s.abs.heap.get? := funext (HandSHeadRun.getT_eq s)
  show obB (HandSHeadRun.getT s) = obB s.abs.heap.get?
  rw [e]
theorem run (w : World) : HandSHeadRun.RunEq RR (PySem.W.view RR.prog [44]) hk ob 6100 loose w := by
  intro os
  kernel_rfl
end SG

/-! ## SgFinal -/
set_option autoImplicit true
set_option Elab.async false
set_option linter.all false
set_option maxRecDepth 100000
set_option maxHeartbeats 0
namespace SG
open PySem PySem.Spec PyProof.Rows L2
theorem facts {P : Program} {w : World} {K : PySem.W.Frag} {h : Heap} {mg : Str → Option Value} {f : Addr} (X : K.In h) (G : h.Ns mainGlobals mg) (hfa : mg ("law" : Str) = some (.ref f)) (c : He.SaysD fa fn K) (ex : exB K = true) :
    ∃ fd : FuncData, (∀ (s : Shared) (v : Value), BindsTo s fd ⟨[v], []⟩ [("_law_script", v)]) ∧ ∀ base : Heap, K.In base → base.Ns mainGlobals mg → FnOk P w K mg base CX0 11 f fd ["_law_script"] (spLaw K) := by
  have T : Tx K mg := ⟨⟨h, X, G⟩, c, ex⟩
  obtain ⟨fd, F⟩ := T.fd_law
  have e := hfa.symm.trans T.g_law
  cases e
  have b := FunD.bindsA (ps := ["_law_script"]) F fun _ _ _ _ _ _ us hl => match us, hl with | [_], _ => rfl
  have ef := fdOf_eq F
  subst ef
  exact ⟨_, fun s v => b s [v] rfl, fun base _ _ => (has_law T).ok⟩
end SG
open PySem PySem.W PySem.Calls PyProof.Rows
theorem PySem.Challenge.cw_strokegrow_k55_whole_reach_touched_holds : PySem.Challenge.rw_strokegrow_k55_whole_reach_touched.Holds := by
  w_on; o_law
  refine HandSHeadRun.head_any (r := OpenLaw.row PySem.Challenge.rw_strokegrow_k55_whole_reach_touched) (q := view (OpenLaw.row PySem.Challenge.rw_strokegrow_k55_whole_reach_touched).prog [44]) (H := SG.hk) (ob := SG.ob) (M := 6100) (loose := SG.loose) (d := HandSHeadRun.topDef (OpenLaw.row PySem.Challenge.rw_strokegrow_k55_whole_reach_touched).prog 44) (kwd := []) SG.ob_eq
    (by kernel_rfl) (fun s => by kernel_rfl) SG.run (by kernel_rfl) (by kernel_rfl) (by kernel_rfl) (by rfl) (by first | assumption | decide +kernel) (by decide +kernel) ⟨rfl, rfl, rfl, rfl, rfl, by decide +kernel⟩ ?hw ?hc
  case hw => w_witness2
  case hc =>
    refine L2.walk_ofE (l := PySem.Challenge.rw_strokegrow_k55_whole_reach_touched) (n := 63) (k := 11) (x := "_law_script") (CX := L2.CX0) rfl (by decide) (by kernel_rfl) ⟨rfl, by decide, by decide⟩ ?F (fun _ _ _ _ z => z)
    intro w mg fa h Y G hmg0
    obtain ⟨K, KX, c, ex⟩ := Y
    have hmg : mg ("law" : PySem.Str) = some (.ref fa) := by
      have e : (HandSHeadRun.topDef (OpenLaw.row PySem.Challenge.rw_strokegrow_k55_whole_reach_touched).prog 44).name = ("law" : PySem.Str) := by kernel_rfl
      rw [← e]
      exact hmg0
    obtain ⟨fd, hb, hF⟩ := SG.facts (P := (PySem.Challenge.rw_strokegrow_k55_whole_reach_touched).prog) (w := w) KX G hmg c ex
    exact ⟨K, fd, SG.spLaw K, KX, hb, fun H a ns hl _ hS => ⟨a, ns, rfl, hl, hS, fun _ => rfl⟩, hF⟩

