import PyProof.Rows.All
import Wide.All
import OpenK.AllK
import Wide.FinOn
import HandS.ForMost
import HandS.Exc
import HandS.TryOnly
import HandS.ExcOwn
import HandS.WordsExc
import HandS.ExcIs
import HandS.IsInst
import HandS.Wide
import HandS.Defaults
import HandS.More
import HandS.Rev
import HandS.Walk
import HandS.CallSlots
import HandS.Codes
import PySem.Challenge.RW_poisescale_k09_whole_reckoning
set_option Elab.async false
set_option linter.all false
set_option maxRecDepth 100000
set_option maxHeartbeats 4000000
namespace Pz
open PySem PySem.Spec PyProof.Rows L2
/-! ### what stands where -/
/-- a thing of a kind that the laws hand in -/
def WOk (H : Hp) : V → Prop
  | .non => True
  | .bl _ => True
  | .int _ => True
  | .str _ => True
  | .ref a => (∃ xs, H a = some (.lst xs)) ∨ (∃ xs, H a = some (.tup xs)) ∨ (∃ kvs, H a = some (.dK kvs))
  | _ => False
def tyN (H : Hp) : V → String
  | .non => "NoneType"
  | .bl _ => "bool"
  | .int _ => "int"
  | .str _ => "str"
  | .ref a => match H a with
    | some (.lst _) => "list"
    | some (.tup _) => "tuple"
    | _ => "dict"
  | _ => "object"
theorem WOk.ty {K : PySem.W.Frag} {H : Hp} : ∀ {x : V}, WOk H x → TyX K H x (.type (tyN H x))
  | .non, _ => .base .non
  | .bl b, _ => .base (.bl b)
  | .int i, _ => .base (.int i)
  | .str z, _ => .base (.str z)
  | .ref a, h => by
    rcases h with ⟨xs, e⟩ | ⟨xs, e⟩ | ⟨kvs, e⟩
    · have q : tyN H (.ref a) = "list" := by show (match H a with | some (.lst _) => "list" | some (.tup _) => "tuple" | _ => "dict") = "list"; rw [e]
      rw [q]; exact .base (.lst e)
    · have q : tyN H (.ref a) = "tuple" := by show (match H a with | some (.lst _) => "list" | some (.tup _) => "tuple" | _ => "dict") = "tuple"; rw [e]
      rw [q]; exact .base (.tup e)
    · have q : tyN H (.ref a) = "dict" := by show (match H a with | some (.lst _) => "list" | some (.tup _) => "tuple" | _ => "dict") = "dict"; rw [e]
      rw [q]; exact .base (.dK e)
theorem tyN_ref {H : Hp} {a : Addr} : WOk H (.ref a) → tyN H (.ref a) = "list" ∨ tyN H (.ref a) = "tuple" ∨ tyN H (.ref a) = "dict" := by
  intro h
  show (match H a with | some (.lst _) => "list" | some (.tup _) => "tuple" | _ => "dict") = "list" ∨ (match H a with | some (.lst _) => "list" | some (.tup _) => "tuple" | _ => "dict") = "tuple" ∨ (match H a with | some (.lst _) => "list" | some (.tup _) => "tuple" | _ => "dict") = "dict"
  rcases h with ⟨xs, e⟩ | ⟨xs, e⟩ | ⟨kvs, e⟩
  · rw [e]; exact .inl rfl
  · rw [e]; exact .inr (.inl rfl)
  · rw [e]; exact .inr (.inr rfl)
theorem tyN_list {H : Hp} {a : Addr} {xs : List V} (e : H a = some (.lst xs)) : tyN H (.ref a) = "list" := by
  show (match H a with | some (.lst _) => "list" | some (.tup _) => "tuple" | _ => "dict") = "list"
  rw [e]
theorem tyN_tup {H : Hp} {a : Addr} {xs : List V} (e : H a = some (.tup xs)) : tyN H (.ref a) = "tuple" := by
  show (match H a with | some (.lst _) => "list" | some (.tup _) => "tuple" | _ => "dict") = "tuple"
  rw [e]
/-- a whole number, and no truth -/
def isW : V → Bool
  | .int _ => true
  | _ => false
def isB : V → Bool
  | .bl _ => true
  | _ => false
def isS : V → Bool
  | .str _ => true
  | _ => false
def isL (H : Hp) : V → Bool
  | .ref a => match H a with
    | some (.lst _) => true
    | _ => false
  | _ => false
def isT (H : Hp) : V → Bool
  | .ref a => match H a with
    | some (.tup _) => true
    | _ => false
  | _ => false
theorem isL_of {H : Hp} {a : Addr} {xs : List V} (e : H a = some (.lst xs)) : isL H (.ref a) = true := by
  show (match H a with | some (.lst _) => true | _ => false) = true
  rw [e]
theorem isT_of {H : Hp} {a : Addr} {xs : List V} (e : H a = some (.tup xs)) : isT H (.ref a) = true := by
  show (match H a with | some (.tup _) => true | _ => false) = true
  rw [e]
theorem isL_ref {H : Hp} {x : V} (h : isL H x = true) : ∃ a xs, x = .ref a ∧ H a = some (.lst xs) := by
  cases x with
  | ref a =>
    have h' : (match H a with | some (.lst _) => true | _ => false) = true := h
    split at h'
    · rename_i xs e
      exact ⟨a, xs, rfl, e⟩
    · cases h'
  | _ => cases h
theorem kb_NoneType_int : kitB "NoneType" "int" = some false := by decide +kernel
theorem kb_bool_int : kitB "bool" "int" = some true := by decide +kernel
theorem kb_int_int : kitB "int" "int" = some true := by decide +kernel
theorem kb_str_int : kitB "str" "int" = some false := by decide +kernel
theorem kb_list_int : kitB "list" "int" = some false := by decide +kernel
theorem kb_tuple_int : kitB "tuple" "int" = some false := by decide +kernel
theorem kb_dict_int : kitB "dict" "int" = some false := by decide +kernel
theorem kb_NoneType_bool : kitB "NoneType" "bool" = some false := by decide +kernel
theorem kb_bool_bool : kitB "bool" "bool" = some true := by decide +kernel
theorem kb_int_bool : kitB "int" "bool" = some false := by decide +kernel
theorem kb_str_bool : kitB "str" "bool" = some false := by decide +kernel
theorem kb_list_bool : kitB "list" "bool" = some false := by decide +kernel
theorem kb_tuple_bool : kitB "tuple" "bool" = some false := by decide +kernel
theorem kb_dict_bool : kitB "dict" "bool" = some false := by decide +kernel
theorem kb_NoneType_str : kitB "NoneType" "str" = some false := by decide +kernel
theorem kb_bool_str : kitB "bool" "str" = some false := by decide +kernel
theorem kb_int_str : kitB "int" "str" = some false := by decide +kernel
theorem kb_str_str : kitB "str" "str" = some true := by decide +kernel
theorem kb_list_str : kitB "list" "str" = some false := by decide +kernel
theorem kb_tuple_str : kitB "tuple" "str" = some false := by decide +kernel
theorem kb_dict_str : kitB "dict" "str" = some false := by decide +kernel
theorem kb_NoneType_list : kitB "NoneType" "list" = some false := by decide +kernel
theorem kb_bool_list : kitB "bool" "list" = some false := by decide +kernel
theorem kb_int_list : kitB "int" "list" = some false := by decide +kernel
theorem kb_str_list : kitB "str" "list" = some false := by decide +kernel
theorem kb_list_list : kitB "list" "list" = some true := by decide +kernel
theorem kb_tuple_list : kitB "tuple" "list" = some false := by decide +kernel
theorem kb_dict_list : kitB "dict" "list" = some false := by decide +kernel
theorem kb_NoneType_tuple : kitB "NoneType" "tuple" = some false := by decide +kernel
theorem kb_bool_tuple : kitB "bool" "tuple" = some false := by decide +kernel
theorem kb_int_tuple : kitB "int" "tuple" = some false := by decide +kernel
theorem kb_str_tuple : kitB "str" "tuple" = some false := by decide +kernel
theorem kb_list_tuple : kitB "list" "tuple" = some false := by decide +kernel
theorem kb_tuple_tuple : kitB "tuple" "tuple" = some true := by decide +kernel
theorem kb_dict_tuple : kitB "dict" "tuple" = some false := by decide +kernel
theorem kit_int {H : Hp} : ∀ {x : V}, WOk H x → kitB (tyN H x) "int" = some (isW x || isB x)
  | .non, _ => kb_NoneType_int
  | .bl _, _ => kb_bool_int
  | .int _, _ => kb_int_int
  | .str _, _ => kb_str_int
  | .ref a, h => by
    show kitB (tyN H (.ref a)) "int" = some false
    rcases tyN_ref h with e | e | e <;> rw [e]
    · exact kb_list_int
    · exact kb_tuple_int
    · exact kb_dict_int
theorem kit_bool {H : Hp} : ∀ {x : V}, WOk H x → kitB (tyN H x) "bool" = some (isB x)
  | .non, _ => kb_NoneType_bool
  | .bl _, _ => kb_bool_bool
  | .int _, _ => kb_int_bool
  | .str _, _ => kb_str_bool
  | .ref a, h => by
    show kitB (tyN H (.ref a)) "bool" = some false
    rcases tyN_ref h with e | e | e <;> rw [e]
    · exact kb_list_bool
    · exact kb_tuple_bool
    · exact kb_dict_bool
theorem kit_str {H : Hp} : ∀ {x : V}, WOk H x → kitB (tyN H x) "str" = some (isS x)
  | .non, _ => kb_NoneType_str
  | .bl _, _ => kb_bool_str
  | .int _, _ => kb_int_str
  | .str _, _ => kb_str_str
  | .ref a, h => by
    show kitB (tyN H (.ref a)) "str" = some false
    rcases tyN_ref h with e | e | e <;> rw [e]
    · exact kb_list_str
    · exact kb_tuple_str
    · exact kb_dict_str
theorem kit_list {H : Hp} : ∀ {x : V}, WOk H x → kitB (tyN H x) "list" = some (isL H x)
  | .non, _ => kb_NoneType_list
  | .bl _, _ => kb_bool_list
  | .int _, _ => kb_int_list
  | .str _, _ => kb_str_list
  | .ref a, h => by
    show kitB (match H a with | some (.lst _) => "list" | some (.tup _) => "tuple" | _ => "dict") "list" = some (match H a with | some (.lst _) => true | _ => false)
    rcases h with ⟨xs, e⟩ | ⟨xs, e⟩ | ⟨kvs, e⟩ <;> rw [e]
    · exact kb_list_list
    · exact kb_tuple_list
    · exact kb_dict_list
theorem kit_tuple {H : Hp} : ∀ {x : V}, WOk H x → kitB (tyN H x) "tuple" = some (isT H x)
  | .non, _ => kb_NoneType_tuple
  | .bl _, _ => kb_bool_tuple
  | .int _, _ => kb_int_tuple
  | .str _, _ => kb_str_tuple
  | .ref a, h => by
    show kitB (match H a with | some (.lst _) => "list" | some (.tup _) => "tuple" | _ => "dict") "tuple" = some (match H a with | some (.tup _) => true | _ => false)
    rcases h with ⟨xs, e⟩ | ⟨xs, e⟩ | ⟨kvs, e⟩ <;> rw [e]
    · exact kb_list_tuple
    · exact kb_tuple_tuple
    · exact kb_dict_tuple
theorem WOk.same {H H' : Hp} (s : Same H H') : ∀ {x : V}, WOk H x → WOk H' x
  | .non, _ => trivial
  | .bl _, _ => trivial
  | .int _, _ => trivial
  | .str _, _ => trivial
  | .ref a, h => by
    rcases h with ⟨xs, e⟩ | ⟨xs, e⟩ | ⟨kvs, e⟩
    · exact .inl ⟨xs, s _ _ e⟩
    · exact .inr (.inl ⟨xs, s _ _ e⟩)
    · exact .inr (.inr ⟨kvs, s _ _ e⟩)
theorem isL_same {H H' : Hp} (s : Same H H') : ∀ {x : V}, WOk H x → isL H' x = isL H x
  | .ref a, h => by
    show (match H' a with | some (.lst _) => true | _ => false) = (match H a with | some (.lst _) => true | _ => false)
    rcases h with ⟨xs, e⟩ | ⟨xs, e⟩ | ⟨kvs, e⟩ <;> rw [e, s _ _ e]
  | .non, _ => rfl
  | .bl _, _ => rfl
  | .int _, _ => rfl
  | .str _, _ => rfl
theorem same_upd {H : Hp} {p : Addr} {o : HO} (h : H p = Option.none) : Same H (upd H p o) := fun b x e => by
  rw [upd_ne (ne_of_none e h)]
  exact e
/-- what was free at the start stays beside what is changed there -/
theorem same_put {H H' : Hp} {p : Addr} {o : HO} (s : Same H H') (h : H p = Option.none) : Same H (upd H' p o) := fun b x e => by
  rw [upd_ne (ne_of_none e h)]
  exact s b x e
theorem ints_get {ns : List Int} {i : Nat} {x : V} (h : (ns.map V.int)[i]? = some x) : ∃ z, ns[i]? = some z ∧ x = V.int z := by
  rw [List.getElem?_map] at h
  cases e : ns[i]? with
  | none => rw [e] at h; cases h
  | some z => rw [e] at h; exact ⟨z, rfl, (Option.some.inj h).symm⟩
theorem ints_at {ns : List Int} {i : Nat} {z : Int} (h : ns[i]? = some z) : (ns.map V.int)[i]? = some (V.int z) := by
  rw [List.getElem?_map, h]; rfl
theorem take_more {α : Type} : ∀ {l : List α} {i : Nat} {x : α}, l[i]? = some x → l.take (i + 1) = l.take i ++ [x]
  | [], i, x, h => by simp at h
  | a :: l, 0, x, h => by
    have e : a = x := Option.some.inj h
    subst e
    rfl
  | a :: l, i + 1, x, h => by
    have ih := take_more (l := l) (i := i) (x := x) h
    show a :: l.take (i + 1) = a :: l.take i ++ [x]
    rw [ih]; rfl
theorem map_int_inj : ∀ {a b : List Int}, a.map V.int = b.map V.int → a = b
  | [], [], _ => rfl
  | [], _ :: _, h => by cases h
  | _ :: _, [], h => by cases h
  | x :: a, y :: b, h => by
    have h1 : V.int x = V.int y := (List.cons.inj h).1
    have h2 := map_int_inj (List.cons.inj h).2
    cases h1
    rw [h2]
/-! ### defs that stand ready to be called -/
def Cal (P : Program) (w : World) (K : PySem.W.Frag) (mg : Str → Option Value) (base : Heap) (CX : CXT) (k : Nat) (x : Str) (ps : List Str) (sp : Sp) : Prop :=
  ∃ (f : Addr) (fd : FuncData), FnOk P w K mg base CX k f fd ps sp ∧ mg x = some (.ref f) ∧ PySem.W.keepIn K (.ref f) = true ∧ L2.Binds K fd ps []
/-- a def of the text as the top leaves it -/
def Src (K : PySem.W.Frag) (mg : Str → Option Value) (x : Str) (st : Stmt) (ps : List Str) : Prop :=
  ∃ (f : Addr) (fd : FuncData), Fun K x x st f fd ∧ mg x = some (.ref f) ∧ L2.Binds K fd ps []
theorem Src.cal {P : Program} {w : World} {K : PySem.W.Frag} {mg : Str → Option Value} {base : Heap} {CX : CXT} {k : Nat} {x : Str} {st : Stmt} {ps : List Str} {sp : Sp} (S : Src K mg x st ps)
    (h : ∀ (f : Addr) (fd : FuncData), Fun K x x st f fd → FnOk P w K mg base CX k f fd ps sp) : Cal P w K mg base CX k x ps sp := by
  obtain ⟨f, fd, F, g, b⟩ := S
  exact ⟨f, fd, h f fd F, g, F.kp, b⟩
/-! ### the refusals -/
/-- an own error class under ScaleError (at S), as the top leaves it -/
structure ErrC (K : PySem.W.Frag) (mg : Str → Option Value) (x : Str) (C S : Addr) : Prop where
  g : mg x = some (.ref C)
  x : PySem.W.excIn K C [.type "ValueError", .type "Exception", .type "BaseException", .type "object"] "ValueError.__new__" = true
  k : PySem.W.keepIn K (.ref C) = true
  b : PySem.W.subIn K (.ref C) (.type "BaseException") = some true
  t : PySem.W.typeIn K (.ref C) = some (.type "type")
  m : PySem.W.exmOne K (.ref C) (.ref S) = some true
  c : ExcC K C
  v : PySem.W.kitOne K (.ref C) (.type "ValueError") = some true
theorem kit_self {K : PySem.W.Frag} {C : Addr} : PySem.W.kitOne K (.ref C) (.ref C) = some true := by
  show (if (Value.ref C == Value.ref C) = true then some true else PySem.W.kitCls K (.ref C) (.ref C)) = some true
  rw [if_pos (by simp)]
/-- a block's reading weakened -/
theorem pss_imp {X : Cx} {st : List Stmt} {t u : TS} (h : PSs X st t) (i : ∀ D σ H, u D σ H → t D σ H) : PSs X st u := ⟨fun pins s σ H D I q => h.run pins s σ H D I (i D σ H q)⟩
/-- the ways behind a statement are brought together under J -/
def tJoin (t : TS) : TS := fun D σ H => ∃ J : L2.St → Hp → Prop, (∀ σ' H', J σ' H' → D.nx σ' H') ∧ t { D with nx := J } σ H
theorem ps_join {X : Cx} {st : Stmt} {t : TS} (h : PS X st t) : PS X st (tJoin t) := by
  refine ⟨fun pins s σ H D I hw => ?_⟩
  obtain ⟨J, hJ, q⟩ := hw
  refine thn (h.run pins s σ H _ I q) fun f s' hs => ?_
  cases f with
  | next =>
    obtain ⟨σ', H', I', j⟩ := hs
    exact ⟨σ', H', I', hJ _ _ j⟩
  | _ => exact hs
/-- a slice of ints -/
def cutI (ns : List Int) (lo hi : Option Int) : List Int := (ns.drop (HT.sIx ns.length 0 lo)).take (HT.sIx ns.length ns.length hi - HT.sIx ns.length 0 lo)
theorem cut_ints (ns : List Int) (lo hi : Option Int) : cutV (ns.map V.int) lo hi = (cutI ns lo hi).map V.int := by
  unfold cutV cutI
  rw [List.length_map, List.map_take, List.map_drop]
theorem cutI_mem {ns : List Int} {lo hi : Option Int} {x : Int} (h : x ∈ cutI ns lo hi) : x ∈ ns := List.mem_of_mem_drop (List.mem_of_mem_take h)
theorem cutI_len (ns : List Int) (lo hi : Option Int) : (cutI ns lo hi).length ≤ ns.length := by
  unfold cutI
  rw [List.length_take, List.length_drop]; omega
theorem small {n : Nat} (h : n ≤ 16000000) : n < sizeLine := Nat.lt_of_le_of_lt h (by decide)
theorem small' {n : Nat} (h : n ≤ 16000000) : n ≤ sizeLine := Nat.le_of_lt (small h)
theorem ints_len {ns : List Int} {n : Nat} (h : ns.length ≤ n) : (ns.map V.int).length ≤ n := by rw [List.length_map]; exact h
/-- the own error classes -/
structure Errs (K : PySem.W.Frag) (mg : Str → Option Value) (cS cF cN cT cP : Addr) : Prop where
  gS : mg "ScaleError" = some (.ref cS)
  F : ErrC K mg "NoForm" cF cS
  N : ErrC K mg "NoNumber" cN cS
  T : ErrC K mg "NoText" cT cS
  P : ErrC K mg "NoPlace" cP cS
  FN : PySem.W.kitOne K (.ref cF) (.ref cN) = some false
  FT : PySem.W.kitOne K (.ref cF) (.ref cT) = some false
  FP : PySem.W.kitOne K (.ref cF) (.ref cP) = some false
  NF : PySem.W.kitOne K (.ref cN) (.ref cF) = some false
  NT : PySem.W.kitOne K (.ref cN) (.ref cT) = some false
  NP : PySem.W.kitOne K (.ref cN) (.ref cP) = some false
  TF : PySem.W.kitOne K (.ref cT) (.ref cF) = some false
  TN : PySem.W.kitOne K (.ref cT) (.ref cN) = some false
  TP : PySem.W.kitOne K (.ref cT) (.ref cP) = some false
  PF : PySem.W.kitOne K (.ref cP) (.ref cF) = some false
  PN : PySem.W.kitOne K (.ref cP) (.ref cN) = some false
  PT : PySem.W.kitOne K (.ref cP) (.ref cT) = some false
/-- an except suite, where the error's class is asked -/
def tCls (K : PySem.W.Frag) (cls : Value) (d : Option Addr) (t : Addr → TS) : TS := fun D σ H => ∃ D0, cls = .ref D0 ∧ d = none ∧ ExcC K D0 ∧ t D0 D σ H
theorem pss_cls {X : Cx} {cls : Value} {d : Option Addr} {oe : Obj} {st : List Stmt} {t : Addr → TS} (hz : Zc cls d oe) (h : ∀ D0, Zc (.ref D0) none oe → ExcC X.K D0 → PSs X st (t D0)) : PSs X st (tCls X.K cls d t) := by
  refine ⟨fun pins s σ H D I hw => ?_⟩
  obtain ⟨D0, rfl, rfl, xc, q⟩ := hw
  exact (h D0 hz xc).run pins s σ H D I q
def tIs (K : PySem.W.Frag) (D a : Addr) (i : Nat) (c : V) : TE := tCB (rIsE K D a) (tCons (tVar i) (tCons (tC c) tNil))
/-- if isinstance(e, c1) or isinstance(e, c2) or isinstance(e, c3): return r; return isinstance(e, c4) and isinstance(e, ValueError) -/
def tSuite (K : PySem.W.Frag) (a : Addr) (i : Nat) (c1 c2 c3 r c4 : V) : Addr → TS := fun D =>
  tSeq (tIfS (tOr (tB (tIs K D a i c1)) (tOr (tB (tIs K D a i c2)) (tB (tIs K D a i c3)))) (tRet (tC r)) tNext) (tRet (tAndV (tIs K D a i c4) (tIs K D a i (.ty "ValueError"))))
theorem suite_is {K : PySem.W.Frag} {D a c : Addr} {i : Nat} {σ : L2.St} {H : Hp} {Q : VK} {b : Bool} (hi : σ[i]? = some (some (.ref a))) (h : PySem.W.kitOne K (.ref D) (.ref c) = some b) (q : Q (.bl b) H) : tIs K D a i (.ref c) σ H Q :=
  ⟨_, hi, _, _, _, rfl, fun _ r => r, h, q⟩
theorem suite_ve {K : PySem.W.Frag} {D a : Addr} {i : Nat} {σ : L2.St} {H : Hp} {Q : VK} {b : Bool} (hi : σ[i]? = some (some (.ref a))) (h : PySem.W.kitOne K (.ref D) (.type "ValueError") = some b) (q : Q (.bl b) H) : tIs K D a i (.ty "ValueError") σ H Q :=
  ⟨_, hi, _, _, _, rfl, fun _ r => r, h, q⟩
theorem suite_ok {K : PySem.W.Frag} {D a c1 c2 c3 c4 : Addr} {i : Nat} {σ : L2.St} {H : Hp} {E : Ends} {r : V} (hi : σ[i]? = some (some (.ref a))) (h1 : PySem.W.kitOne K (.ref D) (.ref c1) = some false) (h2 : PySem.W.kitOne K (.ref D) (.ref c2) = some false)
    (h3 : PySem.W.kitOne K (.ref D) (.ref c3) = some false) (h4 : PySem.W.kitOne K (.ref D) (.ref c4) = some true) (h5 : PySem.W.kitOne K (.ref D) (.type "ValueError") = some true) (q : E.rt (.bl true) H) : tSuite K a i (.ref c1) (.ref c2) (.ref c3) r (.ref c4) D E σ H := by
  refine suite_is hi h1 ⟨_, rfl, iteF ?_⟩
  refine suite_is hi h2 ⟨_, rfl, iteF ?_⟩
  refine suite_is hi h3 ⟨_, rfl, iteF ?_⟩
  exact suite_is hi h4 ⟨_, rfl, iteT (suite_ve hi h5 q)⟩
theorem kit_ve {K : PySem.W.Frag} {C : Addr} (s : PySem.W.subIn K (.ref C) (.type "ValueError") = some true) : PySem.W.kitOne K (.ref C) (.type "ValueError") = some true := by
  have m : PySem.W.kitMeta "ValueError" = true := by decide +kernel
  show (if (Value.ref C == Value.type "ValueError") = true then some true else (if PySem.W.kitMeta "ValueError" = true then PySem.W.subIn K (.ref C) (.type "ValueError") else none)) = some true
  rw [if_pos m, s]
  split <;> rfl
theorem kit_no {K : PySem.W.Frag} {C N : Addr} (hd : PySem.W.hasDictIn K N = true) (ht : PySem.W.typeIn K (.ref N) = some (.type "type")) (ss : PySem.W.subIn K (.ref C) (.ref C) = some true) (s : PySem.W.subIn K (.ref C) (.ref N) = some false) :
    PySem.W.kitOne K (.ref C) (.ref N) = some false := by
  have ne : ¬ (Value.ref C == Value.ref N) = true := fun e => by
    have e2 : C = N := Value.ref.inj (beq_iff_eq.mp e)
    subst e2
    rw [ss] at s
    cases s
  obtain ⟨cd, hc, _⟩ := PySem.W.any_some hd
  have e2 : ((PySem.W.clsIn K N).isSome && PySem.W.typeIn K (.ref N) == some (.type "type")) = true := by rw [hc, ht]; rfl
  show (if (Value.ref C == Value.ref N) = true then some true else (if ((PySem.W.clsIn K N).isSome && PySem.W.typeIn K (.ref N) == some (.type "type")) = true then PySem.W.subIn K (.ref C) (.ref N) else none)) = some false
  rw [if_neg ne, if_pos e2]
  exact s
theorem at0 {α : Type} {xs : List α} {i : Nat} {v : α} (h : xs[i]? = some v) : atI xs (0 + (i : Int)) = some v := by
  rw [Int.zero_add]
  exact atI_nat h
theorem nat_lo (n : Nat) : -(2 ^ 62) ≤ ((n : Nat) : Int) := by omega
theorem nat_hi {n : Nat} (h : n ≤ 16000000) : ((n : Nat) : Int) < 2 ^ 62 := by omega
/-! ### forms -/
def Lays (ns : List Int) : Prop := ∀ x ∈ ns, -1 ≤ x ∧ x ≤ 1
def Form (ns : List Int) : Prop := Lays ns ∧ ns.getLast? ≠ some 0
def okLay : V → Bool
  | .int i => decide (-1 ≤ i ∧ i ≤ 1)
  | _ => false
def formV (xs : List V) : Bool := xs.all okLay && decide (xs.getLast? ≠ some (.int 0))
theorem getLast_map {ns : List Int} : (ns.map V.int).getLast? = ns.getLast?.map V.int := List.getLast?_map ..
theorem formV_ints {ns : List Int} : formV (ns.map V.int) = true ↔ Form ns := by
  unfold formV Form Lays
  rw [Bool.and_eq_true, List.all_eq_true, decide_eq_true_iff, getLast_map]
  constructor
  · rintro ⟨h1, h2⟩
    refine ⟨fun x hx => of_decide_eq_true (h1 (V.int x) (List.mem_map.mpr ⟨x, hx, rfl⟩)), fun e => h2 (by rw [e]; rfl)⟩
  · rintro ⟨h1, h2⟩
    refine ⟨fun y hy => ?_, fun e => h2 ?_⟩
    · obtain ⟨x, hx, rfl⟩ := List.mem_map.mp hy
      exact decide_eq_true (h1 x hx)
    · cases q : ns.getLast? with
      | none => rw [q] at e; cases e
      | some z =>
        rw [q] at e
        have e2 : V.int z = V.int 0 := Option.some.inj e
        cases e2
        rfl
def isF (H : Hp) : V → Bool
  | .ref a => match H a with
    | some (.lst xs) => formV xs
    | _ => false
  | _ => false
theorem isF_list {H : Hp} {a : Addr} {xs : List V} (e : H a = some (.lst xs)) : isF H (.ref a) = formV xs := by
  show (match H a with | some (.lst xs) => formV xs | _ => false) = formV xs
  rw [e]
theorem isF_not {H : Hp} : ∀ {x : V}, isL H x = false → isF H x = false
  | .ref a, h => by
    show (match H a with | some (.lst xs) => formV xs | _ => false) = false
    split
    · rename_i xs e
      rw [isL_of e] at h
      cases h
    · rfl
  | .non, _ => rfl
  | .bl _, _ => rfl
  | .int _, _ => rfl
  | .str _, _ => rfl
  | .byt _, _ => rfl
  | .flt _, _ => rfl
  | .ty _, _ => rfl
theorem isF_same {H H' : Hp} (s : Same H H') : ∀ {x : V}, WOk H x → isF H' x = isF H x
  | .ref a, h => by
    show (match H' a with | some (.lst xs) => formV xs | _ => false) = (match H a with | some (.lst xs) => formV xs | _ => false)
    rcases h with ⟨xs, e⟩ | ⟨xs, e⟩ | ⟨kvs, e⟩ <;> rw [e, s _ _ e]
  | .non, _ => rfl
  | .bl _, _ => rfl
  | .int _, _ => rfl
  | .str _, _ => rfl
/-- what is handed in to be looked at: of a known kind, a list's items too -/
def Hand (H : Hp) (x : V) : Prop := WOk H x ∧ ∀ a xs, x = .ref a → H a = some (.lst xs) → ∀ y ∈ xs, WOk H y
theorem Hand.same {H H' : Hp} {x : V} (h : Hand H x) (s : Same H H') : Hand H' x := by
  refine ⟨h.1.same s, fun a xs e q y hy => ?_⟩
  subst e
  rcases h.1 with ⟨ys, e⟩ | ⟨ys, e⟩ | ⟨kvs, e⟩
  · have e2 := HO.lst.inj (Option.some.inj ((s _ _ e).symm.trans q))
    subst e2
    exact (h.2 a _ rfl e y hy).same s
  · rw [s _ _ e] at q
    cases q
  · rw [s _ _ e] at q
    cases q
theorem hand_ints {H : Hp} {a : Addr} {ns : List Int} (e : H a = some (.lst (ns.map V.int))) : Hand H (.ref a) := by
  refine ⟨.inl ⟨_, e⟩, fun b xs q h y hy => ?_⟩
  cases q
  have h2 := HO.lst.inj (Option.some.inj (e.symm.trans h))
  subst h2
  obtain ⟨x, _, rfl⟩ := List.mem_map.mp hy
  trivial
theorem isF_ints {H : Hp} {a : Addr} {ns : List Int} (e : H a = some (.lst (ns.map V.int))) (h : Form ns) : isF H (.ref a) = true := (isF_list e).trans (formV_ints.mpr h)
/-- a form stands at a -/
def FormAt (H : Hp) (a : Addr) (ns : List Int) : Prop := H a = some (.lst (ns.map V.int)) ∧ Form ns
theorem formV_bad {xs : List V} {i : Nat} {y : V} (hi : xs[i]? = some y) (h : okLay y = false) : formV xs = false := by
  have q : xs.all okLay = false := by
    rw [List.all_eq_false]
    exact ⟨y, List.mem_of_getElem? hi, by rw [h]; decide⟩
  unfold formV
  rw [q]; rfl
theorem all_more {xs : List V} {i : Nat} {y : V} (hi : xs[i]? = some y) (ok : (xs.take i).all okLay = true) (h : okLay y = true) : (xs.take (i + 1)).all okLay = true := by
  rw [take_more hi, List.all_append, ok, List.all_cons, h]; rfl
theorem last_cases {α : Type} (xs : List α) : xs = [] ∨ ∃ ys l, xs = ys ++ [l] := by
  rcases List.eq_nil_or_concat xs with h | ⟨ys, l, h⟩
  · exact .inl h
  · exact .inr ⟨ys, l, by rw [h, List.concat_eq_append]⟩
theorem formV_last {ys : List V} {z : Int} (ok : (ys ++ [V.int z]).all okLay = true) : formV (ys ++ [V.int z]) = !decide (V.int z = V.int 0) := by
  unfold formV
  rw [ok, List.getLast?_concat, Bool.true_and]
  by_cases h : z = 0
  · subst h; rfl
  · have h2 : ¬ V.int z = V.int 0 := fun e => h (V.int.inj e)
    have h3 : some (V.int z) ≠ some (V.int 0) := fun e => h2 (Option.some.inj e)
    rw [decide_eq_true h3, decide_eq_false h2]; rfl
theorem int_of_okLay {y : V} (h : okLay y = true) : ∃ z, y = .int z ∧ -1 ≤ z ∧ z ≤ 1 := by
  cases y with
  | int z =>
    have := of_decide_eq_true (show decide (-1 ≤ z ∧ z ≤ 1) = true from h)
    exact ⟨z, rfl, this.1, this.2⟩
  | _ => cases h
theorem ints_of_all : ∀ {xs : List V}, xs.all okLay = true → ∃ ns : List Int, xs = ns.map V.int
  | [], _ => ⟨[], rfl⟩
  | x :: xs, h => by
    rw [List.all_cons, Bool.and_eq_true] at h
    obtain ⟨z, rfl, _⟩ := int_of_okLay h.1
    obtain ⟨ns, rfl⟩ := ints_of_all h.2
    exact ⟨z :: ns, rfl⟩
theorem isF_true {H : Hp} {x : V} (h : isF H x = true) : ∃ a ns, x = .ref a ∧ FormAt H a ns := by
  cases x with
  | ref a =>
    have h' : (match H a with | some (.lst xs) => formV xs | _ => false) = true := h
    split at h'
    · rename_i xs e
      have ok := h'
      unfold formV at ok
      rw [Bool.and_eq_true] at ok
      obtain ⟨ns, rfl⟩ := ints_of_all ok.1
      exact ⟨a, ns, rfl, e, formV_ints.mp h'⟩
    · cases h'
  | _ => cases h
theorem FormAt.isF {H : Hp} {a : Addr} {ns : List Int} (h : FormAt H a ns) : isF H (.ref a) = true := isF_ints h.1 h.2
theorem FormAt.hand {H : Hp} {a : Addr} {ns : List Int} (h : FormAt H a ns) : Hand H (.ref a) := hand_ints h.1
/-- a form is asked for: C the class that refuses what is none -/
def Asks (C : Addr) (x : V) (H : Hp) (E : XK) (good : Addr → List Int → Prop) : Prop :=
  Hand H x ∧ (∀ a ns, x = .ref a → FormAt H a ns → good a ns) ∧ (isF H x = false → ∀ H', Same H H' → E (.ref C) none H')
theorem Asks.of {C a : Addr} {ns : List Int} {H : Hp} {E : XK} {good : Addr → List Int → Prop} (h : FormAt H a ns) (g : good a ns) : Asks C (.ref a) H E good := by
  refine ⟨h.hand, fun b ms e q => ?_, fun e => ?_⟩
  · cases e
    have e2 := map_int_inj (HO.lst.inj (Option.some.inj (h.1.symm.trans q.1)))
    rw [← e2]
    exact g
  · rw [h.isF] at e
    cases e
theorem Asks.bad {C : Addr} {x : V} {H : Hp} {E : XK} {good : Addr → List Int → Prop} (h : Hand H x) (f : isF H x = false) (e : ∀ H', Same H H' → E (.ref C) none H') : Asks C x H E good := by
  refine ⟨h, fun a ns ea q => ?_, fun _ => e⟩
  subst ea
  rw [q.isF] at f
  cases f
/-! ### what lays weigh -/
def wt : List Int → Int
  | [] => 0
  | a :: r => a + 3 * wt r
theorem wt_append : ∀ (a b : List Int), wt (a ++ b) = wt a + 3 ^ a.length * wt b
  | [], b => by show wt b = 0 + 3 ^ 0 * wt b; simp
  | x :: a, b => by
    show x + 3 * wt (a ++ b) = x + 3 * wt a + 3 ^ (a.length + 1) * wt b
    rw [wt_append a b, Int.mul_add, Int.pow_succ, Int.mul_comm (3 ^ a.length) 3, Int.mul_assoc, Int.add_assoc]
theorem wt_back {ns : List Int} {i : Nat} {z : Int} (hi : i < ns.length) (h : ns[ns.length - 1 - i]? = some z) : wt (ns.drop (ns.length - (i + 1))) = 3 * wt (ns.drop (ns.length - i)) + z := by
  have h1 : ns.length - 1 - i < ns.length := by omega
  have e1 : ns.length - (i + 1) = ns.length - 1 - i := by omega
  have e2 : ns.length - i = ns.length - 1 - i + 1 := by omega
  rw [e1, List.drop_eq_getElem_cons h1, e2]
  rw [List.getElem?_eq_getElem h1] at h
  have h2 := Option.some.inj h
  rw [h2]
  show z + 3 * _ = _
  exact Int.add_comm ..
theorem wt_one (z : Int) : wt [z] = z := by show z + 3 * 0 = z; omega
theorem wt_turn {ns : List Int} {i : Nat} {z : Int} (h : ns[i]? = some z) : wt (ns.take (i + 1)) = wt (ns.take i) + z * 3 ^ i := by
  have hi : i < ns.length := (List.getElem?_eq_some_iff.mp h).1
  rw [take_more h, wt_append, List.length_take, Nat.min_eq_left (Nat.le_of_lt hi), wt_one, Int.mul_comm]
theorem lays_nil : Lays [] := fun _ h => nomatch h
theorem lays_more {ns : List Int} {z : Int} (h : Lays ns) (h1 : -1 ≤ z) (h2 : z ≤ 1) : Lays (ns ++ [z]) := fun x hx => by
  rcases List.mem_append.mp hx with q | q
  · exact h x q
  · rw [List.mem_singleton.mp q]; exact ⟨h1, h2⟩
theorem lays_sub {ns ms : List Int} (h : Lays ns) (s : ∀ x ∈ ms, x ∈ ns) : Lays ms := fun x hx => h x (s x hx)
theorem pop_int {ns : List Int} {z : Int} : (ns.map V.int ++ [V.int z]).dropLast = ns.map V.int := by rw [List.dropLast_concat]
/-! ### what is no form -/
/-- data that == compares -/
def ItmD (K : PySem.W.Frag) (H : Hp) (y : V) : Prop := ∃ d : PyData, Dp K H y d ∧ d.canLay0 = true ∧ d.depth ≤ 8
theorem seqT_same {K : PySem.W.Frag} {H H' : Hp} {a : Addr} {xs : List V} (e : Same H H') (h : SqT K H a xs) : SqT K H' a xs := by
  rcases h with (h | ⟨o, h⟩) | h
  · exact .inl (.inl (e _ _ h))
  · exact .inl (.inr ⟨o, e _ _ h⟩)
  · exact .inr h
mutual
theorem dp_same {K : PySem.W.Frag} {H H' : Hp} (s : Same H H') : ∀ {v : V} {d : PyData}, Dp K H v d → Dp K H' v d
  | _, _, .non => .non
  | _, _, .bl b => .bl b
  | _, _, .int i => .int i
  | _, _, .str x => .str x
  | _, _, .lst e h => .lst (s.seq e) (dpAll_same s h)
  | _, _, .tup e h => .tup (seqT_same s e) (dpAll_same s h)
theorem dpAll_same {K : PySem.W.Frag} {H H' : Hp} (s : Same H H') : ∀ {vs : List V} {ds : List PyData}, DpAll K H vs ds → DpAll K H' vs ds
  | _, _, .nil => .nil
  | _, _, .cons a b => .cons (dp_same s a) (dpAll_same s b)
end
theorem ItmD.same {K : PySem.W.Frag} {H H' : Hp} {y : V} (h : ItmD K H y) (s : Same H H') : ItmD K H' y :=
  let ⟨d, a, b, c⟩ := h
  ⟨d, dp_same s a, b, c⟩
theorem itm_int {K : PySem.W.Frag} {H : Hp} (i : Int) : ItmD K H (.int i) := ⟨_, .int i, rfl, Nat.zero_le _⟩
theorem itms {K : PySem.W.Frag} {H : Hp} : ∀ {xs : List V}, (∀ y ∈ xs, ItmD K H y) → ∃ ds, DpAll K H xs ds ∧ PyData.canLayAll0 ds = true ∧ PyData.depthAll ds ≤ 8
  | [], _ => ⟨[], .nil, rfl, Nat.zero_le _⟩
  | x :: xs, h => by
    obtain ⟨d, h1, h2, h3⟩ := h x List.mem_cons_self
    obtain ⟨ds, g1, g2, g3⟩ := itms (xs := xs) fun y hy => h y (List.mem_cons_of_mem _ hy)
    refine ⟨d :: ds, .cons h1 g1, by rw [PyData.canLayAll0, h2, g2]; rfl, ?_⟩
    rw [PyData.depthAll]
    exact Nat.max_le.mpr ⟨h3, g3⟩
theorem itm_list {K : PySem.W.Frag} {H : Hp} {a : Addr} {xs : List V} (e : SqL K H a xs) (h : ∀ y ∈ xs, ItmD K H y) : ∃ ds, Dp K H (.ref a) (.list ds) ∧ DpAll K H xs ds ∧ SeqAt.shaped (.list ds) = true := by
  obtain ⟨ds, g1, g2, g3⟩ := itms h
  refine ⟨ds, .lst e g1, g1, ?_⟩
  unfold SeqAt.shaped
  rw [Bool.and_eq_true, decide_eq_true_iff, PyData.canLay0, PyData.depth]
  exact ⟨g2, by omega⟩
theorem itm_list1 {K : PySem.W.Frag} {H : Hp} {a : Addr} {i : Int} (e : H a = some (.lst [.int i])) : ItmD K H (.ref a) :=
  ⟨.list [.int i], .lst (SqL.of e) (.cons (.int i) .nil), by rw [PyData.canLay0, PyData.canLayAll0, PyData.canLay0, PyData.canLayAll0]; rfl, by rw [PyData.depth, PyData.depthAll, PyData.depth, PyData.depthAll]; decide⟩
theorem itm_tup1 {K : PySem.W.Frag} {H : Hp} {a : Addr} {i : Int} (e : H a = some (.tup [.int i])) : ItmD K H (.ref a) :=
  ⟨.tuple [.int i], .tup (SqT.of e) (.cons (.int i) .nil), by rw [PyData.canLay0, PyData.canLayAll0, PyData.canLay0, PyData.canLayAll0]; rfl, by rw [PyData.depth, PyData.depthAll, PyData.depth, PyData.depthAll]; decide⟩
/-- one of a written list's items, at a remainder -/
theorem at_mod {α : Type} {xs : List α} {z n : Int} (h : (xs.length : Int) = n) (hn : 0 < n) : ∃ x, atI xs (z % n) = some x ∧ x ∈ xs := by
  have h1 := Int.emod_nonneg z (show n ≠ 0 by omega)
  have h2 := Int.emod_lt_of_pos z hn
  have h3 : (z % n).toNat < xs.length := by omega
  have e : ((z % n).toNat : Int) = z % n := Int.toNat_of_nonneg h1
  refine ⟨xs[(z % n).toNat], ?_, List.getElem_mem h3⟩
  have := atI_nat (List.getElem?_eq_getElem h3)
  rw [e] at this
  exact this
/-- a thing that is no form, and can be compared where it is a list -/
def Bad (K : PySem.W.Frag) (H : Hp) (x : V) : Prop := Hand H x ∧ isF H x = false ∧ ∀ a xs, x = .ref a → H a = some (.lst xs) → ∀ y ∈ xs, ItmD K H y
theorem Bad.flat {K : PySem.W.Frag} {H : Hp} {x : V} (h : WOk H x) (n : ∀ a xs, x = .ref a → H a = some (.lst xs) → False) : Bad K H x := by
  refine ⟨⟨h, fun a xs e q => (n a xs e q).elim⟩, ?_, fun a xs e q => (n a xs e q).elim⟩
  refine isF_not ?_
  cases q : isL H x with
  | false => rfl
  | true =>
    obtain ⟨a, xs, e1, e2⟩ := isL_ref q
    exact (n a xs e1 e2).elim
theorem Bad.list {K : PySem.W.Frag} {H : Hp} {a : Addr} {xs : List V} (e : H a = some (.lst xs)) (f : formV xs = false) (hw : ∀ y ∈ xs, WOk H y) (hd : ∀ y ∈ xs, ItmD K H y) : Bad K H (.ref a) := by
  have u : ∀ b zs, V.ref a = V.ref b → H b = some (.lst zs) → zs = xs := fun b zs q1 q2 => by
    cases q1
    exact (HO.lst.inj (Option.some.inj (e.symm.trans q2))).symm
  exact ⟨⟨.inl ⟨xs, e⟩, fun b zs q1 q2 y hy => hw y (by rw [← u b zs q1 q2]; exact hy)⟩, (isF_list e).trans f, fun b zs q1 q2 y hy => hd y (by rw [← u b zs q1 q2]; exact hy)⟩
theorem Bad.tup {K : PySem.W.Frag} {H : Hp} {a : Addr} {xs : List V} (e : H a = some (.tup xs)) : Bad K H (.ref a) :=
  .flat (.inr (.inl ⟨xs, e⟩)) fun b zs q1 q2 => by
    cases q1
    rw [e] at q2
    cases q2
theorem Bad.dict {K : PySem.W.Frag} {H : Hp} {a : Addr} {xs : List (Key × V)} (e : H a = some (.dK xs)) : Bad K H (.ref a) :=
  .flat (.inr (.inr ⟨xs, e⟩)) fun b zs q1 q2 => by
    cases q1
    rw [e] at q2
    cases q2
theorem formV_mid {as bs : List V} {x : V} (h : okLay x = false) : formV (as ++ [x] ++ bs) = false :=
  formV_bad (i := as.length) (y := x) (by rw [List.append_assoc, List.getElem?_append_right (Nat.le_refl _), Nat.sub_self]; rfl) h
theorem Bad.ins {K : PySem.W.Frag} {H : Hp} {a : Addr} {ns ms : List Int} {x : V} (e : H a = some (.lst (ns.map V.int ++ [x] ++ ms.map V.int))) (ok : okLay x = false) (hw : WOk H x) (hd : ItmD K H x) : Bad K H (.ref a) := by
  refine .list e (formV_mid ok) (fun y hy => ?_) (fun y hy => ?_)
  · rcases List.mem_append.mp hy with hy | hy
    · rcases List.mem_append.mp hy with hy | hy
      · obtain ⟨z, _, rfl⟩ := List.mem_map.mp hy
        trivial
      · rw [List.mem_singleton.mp hy]; exact hw
    · obtain ⟨z, _, rfl⟩ := List.mem_map.mp hy
      trivial
  · rcases List.mem_append.mp hy with hy | hy
    · rcases List.mem_append.mp hy with hy | hy
      · obtain ⟨z, _, rfl⟩ := List.mem_map.mp hy
        exact itm_int z
      · rw [List.mem_singleton.mp hy]; exact hd
    · obtain ⟨z, _, rfl⟩ := List.mem_map.mp hy
      exact itm_int z
theorem Bad.zero {K : PySem.W.Frag} {H : Hp} {a : Addr} {ns : List Int} (e : H a = some (.lst (ns.map V.int ++ [.int 0]))) : Bad K H (.ref a) := by
  have e2 : ns.map V.int ++ [V.int 0] = (ns ++ [0]).map V.int := by rw [List.map_append]; rfl
  rw [e2] at e
  have f : formV ((ns ++ [0]).map V.int) = false := by
    rw [Bool.eq_false_iff]
    intro q
    have := (formV_ints.mp q).2
    rw [List.getLast?_concat] at this
    exact this rfl
  refine .list e f (fun y hy => ?_) (fun y hy => ?_)
  · obtain ⟨z, _, rfl⟩ := List.mem_map.mp hy
    trivial
  · obtain ⟨z, _, rfl⟩ := List.mem_map.mp hy
    exact itm_int z
/-- lays[:at] + [x] + lays[at:], from where [x] is made -/
theorem ins_end {K : PySem.W.Frag} {H H1 : Hp} {Q : VK} {a s1 : Addr} {ns : List Int} {at' : Int} {x : V} {σ : L2.St} {i j : Nat} (hi : σ[i]? = some (some (.ref a))) (hj : σ[j]? = some (some (.int at'))) (ea : H a = some (.lst (ns.map V.int))) (hlen : ns.length ≤ 100000)
    (n1 : H s1 = none) (sm : Same (upd H s1 (.lst (cutV (ns.map V.int) none (some at')))) H1) (ok : okLay x = false) (hw : WOk H1 x) (hd : ∀ H', Same H1 H' → ItmD K H' x) (q : ∀ H' v, Same H H' → Bad K H' v → Q v H') {s2 : Addr} (n2 : H1 s2 = none) :
    rCat (.ref s1) (.ref s2) (upd H1 s2 (.lst [x])) fun y H4 => tSl (rSlL K) (tVar i) (tPart (tVar j)) tNoPart σ H4 fun z H5 => rCat y z H5 Q := by
  have m1 : Same H H1 := (same_upd n1).trans sm
  have m2 := same_upd (o := .lst [x]) n2
  have l1 := cutI_len ns none (some at')
  have l2 := cutI_len ns (some at') none
  rw [cut_ints] at sm
  have e1 := m2 _ _ (sm _ _ upd_same)
  refine ⟨s1, s2, _, _, rfl, rfl, e1, upd_same, small' (by rw [List.length_map, List.length_singleton]; omega), fun s3 n3 => ?_⟩
  have m3 := same_upd (o := .lst ((cutI ns none (some at')).map V.int ++ [x])) n3
  refine ⟨_, hi, _, hj, _, rfl, a, _, rfl, SqL.of (m3 _ _ (m2 _ _ (m1 _ _ ea))), fun s4 n4 => ?_⟩
  have m4 := same_upd (o := .lst (cutV (ns.map V.int) (some at') none)) n4
  refine ⟨s3, s4, _, _, rfl, rfl, m4 _ _ upd_same, upd_same, small' (by rw [cut_ints, List.length_append, List.length_map, List.length_map, List.length_singleton]; omega), fun s5 n5 => ?_⟩
  have m5 := same_upd (o := .lst ((cutI ns none (some at')).map V.int ++ [x] ++ cutV (ns.map V.int) (some at') none)) n5
  have mm := m2.trans (m3.trans (m4.trans m5))
  refine q _ _ (m1.trans mm) (.ins (ns := cutI ns none (some at')) (ms := cutI ns (some at') none) ?_ ok (hw.same mm) (hd _ mm))
  rw [← cut_ints ns (some at') none]
  exact upd_same
/-! ### lists of ints compared -/
theorem data_ints {K : PySem.W.Frag} {H : Hp} {b c : Addr} {ns : List Int} (e1 : H b = some (.lst (ns.map V.int))) (e2 : H c = some (.lst (ns.map V.int))) : ∃ d, Dp K H (.ref b) d ∧ Dp K H (.ref c) d ∧ SeqAt.shaped d = true ∧ PyData.eqv d d = true := by
  obtain ⟨ds, d1, d2, d3⟩ := itm_list (K := K) (SqL.of e1) (fun y hy => by obtain ⟨x, _, rfl⟩ := List.mem_map.mp hy; exact itm_int x)
  exact ⟨_, d1, .lst (SqL.of e2) d2, d3, SeqAt.eqv_refl _ (SeqAt.canLay_of_shaped d3)⟩
/-- list(x), by the fragment's own letter (for a comprehension's own frame) -/
def rListOf (K : PySem.W.Frag) (xs : List V) (H : Hp) (Q : VK) : Prop := ∃ (p : Addr) (ys : List V), xs = [.ref p] ∧ (SqL K H p ys ∨ SqT K H p ys) ∧ ∀ l : Addr, H l = none → Q (.ref l) (upd H l (.lst ys))
/-! ### a def with defaults -/
def CalD (P : Program) (w : World) (K : PySem.W.Frag) (mg : Str → Option Value) (base : Heap) (CX : CXT) (k : Nat) (x : Str) (ps : List Str) (sp : Sp) (dvs : List V) : Prop :=
  ∃ (f : Addr) (fd : FuncData), FnOk P w K mg base CX k f fd ps sp ∧ mg x = some (.ref f) ∧ PySem.W.keepIn K (.ref f) = true ∧ L2.Binds K fd ps [] ∧ ∃ ds, Vals dvs ds ∧ L2.Binds K fd ps ds
def SrcD (K : PySem.W.Frag) (mg : Str → Option Value) (x : Str) (st : Stmt) (ps : List Str) (dvs : List V) : Prop :=
  ∃ (f : Addr) (fd : FuncData), FunD K x x (defArgs st) (defBody st) (defScope st) dvs [] f fd ∧ mg x = some (.ref f) ∧ L2.Binds K fd ps [] ∧ ∃ ds, Vals dvs ds ∧ L2.Binds K fd ps ds
theorem SrcD.cal {P : Program} {w : World} {K : PySem.W.Frag} {mg : Str → Option Value} {base : Heap} {CX : CXT} {k : Nat} {x : Str} {st : Stmt} {ps : List Str} {sp : Sp} {dvs : List V} (S : SrcD K mg x st ps dvs)
    (h : ∀ (f : Addr) (fd : FuncData), FunD K x x (defArgs st) (defBody st) (defScope st) dvs [] f fd → FnOk P w K mg base CX k f fd ps sp) : CalD P w K mg base CX k x ps sp dvs := by
  obtain ⟨f, fd, F, g, b, d⟩ := S
  exact ⟨f, fd, h f fd F, g, F.kp, b, d⟩
/-- two parameters, the second with a default -/
theorem SrcD.mk1 {K : PySem.W.Frag} {mg : Str → Option Value} {x p1 p2 : Str} {st : Stmt} {v : V} {f : Addr} {fd : FuncData} (F : FunD K x x (defArgs st) (defBody st) (defScope st) [v] [] f fd) (g : mg x = some (.ref f))
    (h1 : ∀ (T : Addr) (kV doc pm : Value) (an : Option Addr) (cdv ct : Value) (us its : List Value), us.length = 1 → its.length = 1 →
      ∃ k, bindArgs (PySem.W.fnOf x x (defArgs st) (defBody st) (defScope st) (.ref T) kV doc pm an cdv ct) ⟨us, []⟩ = seqItems? (.ref T) >>= k ∧ k (some its.toArray) = pure ([p1, p2].zip (us ++ its.drop 0)))
    (h2 : ∀ (T : Addr) (kV doc pm : Value) (an : Option Addr) (cdv ct : Value) (us its : List Value), us.length = 2 → its.length = 1 →
      ∃ k, bindArgs (PySem.W.fnOf x x (defArgs st) (defBody st) (defScope st) (.ref T) kV doc pm an cdv ct) ⟨us, []⟩ = seqItems? (.ref T) >>= k ∧ k (some its.toArray) = pure ([p1, p2].zip (us ++ its.drop 1))) : SrcD K mg x st [p1, p2] [v] := by
  refine ⟨f, fd, F, g, ?_, ?_⟩
  · obtain ⟨ds, v1, b⟩ := F.binds1 (ps := [p1, p2]) 2 1 (by simp) rfl h2
    cases v1
    exact b
  · exact F.binds1 (ps := [p1, p2]) 1 0 (by simp) rfl h1
theorem vals_one {i : Int} {tk : Tok} : Vals [V.int i] [Value.int i tk] := .cons ⟨_, rfl⟩ .nil
/-! ### reversed(a text) -/
namespace Rs
theorem norev_str : typeLookup (.type "str") "__reversed__" = pure none := by rw [typeLookup_type, builtinLookup_eq_fast]; kernel_rfl
theorem get_str : typeLookup (.type "str") "__getitem__" = pure (some (.builtin "str.__getitem__")) := by rw [typeLookup_type, builtinLookup_eq_fast]; kernel_rfl
def obj (z : Str) (t : Tok) (i : Int) : Obj := { cls := .type "reversed", data := .fields #[.str z t, rawInt i] }
/-- at a stands reversed(z), the next place is i -/
def At (h : Heap) (a : Addr) (z : Str) (t : Tok) (i : Int) : Prop := ∃ o, h.get? a = some o ∧ o.cls = .type "reversed" ∧ o.data = .fields #[.str z t, rawInt i]
theorem At.kept {h h' : Heap} {a : Addr} {z : Str} {t : Tok} {i : Int} (x : At h a z t i) (e : ∀ o, h.get? a = some o → h'.get? a = some o) : At h' a z t i := by
  obtain ⟨o, ho, r⟩ := x
  exact ⟨o, e o ho, r⟩
section
variable {prog : Program} {w : World} {A : Around} {E : Value → Shared → Prop} {s : Shared} {z : Str} {t : Tok}
theorem At.isTy {a : Addr} {i : Int} (x : At s.heap a z t i) : s.TypeIs (.ref a) "reversed" := by
  obtain ⟨o, ho, hc, _⟩ := x
  exact ⟨o, ho, hc⟩
theorem made {Q : Value → Shared → Prop} (hz : ¬ (z.length : Int) ≥ 2 ^ 63) (h : Q (.ref s.heap.objs.size) { s with heap := s.heap.push (obj z t ((z.length : Int) - 1)), toks := s.toks + 1 + 1 }) :
    codeAny (model prog w) A (.call (.builtin "reversed.__new__") ⟨[.type "reversed", .str z t], []⟩) (wants Q E) s := by
  have ty := typeIs_str s z t
  refine codeAny_of_tree ?_
  show wpAny _ A.in1 (do checkBuiltinCall "reversed.__new__" ⟨[.type "reversed", .str z t], []⟩; again (.builtin "reversed.__new__" ⟨[.type "reversed", .str z t], []⟩)) _ _ s
  refine wpAny_bind (wpAny_of_eq (F.newCall_reversed_1 _) (wpAny_pure ⟨plainId_quiet F.plain_reversed_new _, codeAny_builtin F.entry_reversed_new ?_⟩)); rw [Around.under_plainId F.plain_reversed_new _]
  unfold Builtin.«reversed.__new__»
  refine wpAny_bind (wpAny_of_eq (newClass_reversed _) ?_) <;> try dsimp only
  iterate 2 (refine wpAny_bind (wpAny_of_eq (a := ()) (by first | rfl | kernel_rfl) ?_) <;> try dsimp only)
  refine wpAny_bind (wpAny_specialOf ty norev_str ?_) <;> try dsimp only
  refine wpAny_bind ?_; wp_delta
  refine wpAny_bind (wpAny_isInstance (T := "str") (U := "dict") (b := false) ty PySem.F.sub_str_dict ?_) <;> try dsimp only
  (try rw [if_neg Bool.false_ne_true]); try dsimp only
  refine wpAny_bind (wpAny_specialOf ty get_str ?_) <;> try dsimp only
  (try rw [if_pos (by decide +kernel)]); refine wpAny_pure ?_; (try dsimp only); (try rw [if_neg (by decide)]); try dsimp only
  refine wpAny_bind (P.len_str hz ?_)
  refine wpAny_bind (wpAny_of_eq (a := some ((z.length : Nat) : Int)) rfl ?_) <;> try dsimp only
  refine wpAny_bind ?_; show wpAny _ _ (newObj (.type "reversed") (.fields #[.str z t, rawInt ((z.length : Int) - 1)])) _ _ _
  exact wpAny_newObj_type (wpAny_pure h)
theorem called {Q : Value → Shared → Prop} (hz : ¬ (z.length : Int) ≥ 2 ^ 63) (h : Q (.ref s.heap.objs.size) { s with heap := s.heap.push (obj z t ((z.length : Int) - 1)), toks := s.toks + 1 + 1 }) :
    wpAny (model prog w) A (call (.type "reversed") [.str z t]) Q E s := by
  refine callType_codes (Q₁ := fun v s₁ => s₁.TypeIs v "reversed" ∧ Q v s₁) RT.called_rt (F.typeCall_reversed_1 _) F.entry_object_init (made (A := A.in1) hz ⟨⟨_, Heap.get?_push_size _ rfl, rfl⟩, h⟩) fun v s₁ k => ?_
  exact ⟨k.1, F.args_object_init_2 v _, object_init_meets RT.called_rt.init.lookup RT.called_rt.made (by decide) prog w A.in1 _ s₁ ⟨k.1, rfl, k.2⟩⟩
theorem next {it : Addr} {i c : Nat} {Q : Option Value → Shared → Prop} (hit : At s.heap it z t (i : Int)) (hi : i < z.cps.size) (hc : z.cps[i]? = some c) (hsz : z.cps.size ≤ sizeLine)
    (hQ : ∀ h' tk, At h' it z t ((i : Int) - 1) → Heap.SameBut it s.heap h' → Q (some (.str ⟨#[c]⟩ tk)) { s with heap := h', toks := s.toks + 1 + 1 }) : wpAny (model prog w) A (pyNext (.ref it)) Q E s := by
  obtain ⟨o, ho, hcl, hd⟩ := id hit
  have ty := typeIs_str s z t
  rw [sizeLine_eq] at hsz
  unfold pyNext
  refine wpAny_bind (wpAny_attempt (wpAny_callSpecial?_slot (name := Str.ofString "__next__") hit.isTy RT.slot_rt_next (wpAny_call_entry RT.slot_rt_next hit.isTy RT.entry_rt_next ?_ (RT.args_rt_next _))))
  unfold Builtin.«reversed.__next__»
  refine wpAny_bind (wpAny_of_eq (a := (Value.ref it, [])) rfl ?_) <;> try dsimp only
  refine wpAny_bind (wpAny_field ho hd (x := .str z t) rfl ?_) <;> try dsimp only
  refine wpAny_bind (wpAny_field ho hd (x := rawInt (i : Int)) rfl ?_); show wpAny _ _ (if (i : Int) < 0 then _ else _) _ _ s
  rw [if_neg (by omega)]; try dsimp only
  refine wpAny_bind (wpAny_specialOf ty get_str ?_) <;> try dsimp only
  (try rw [if_neg (by decide)]); try dsimp only
  refine wpAny_bind (wpAny_mkInt ?_); refine wpAny_bind (wpAny_attempt ?_)
  have fin : (seqIndex? (i : Int) z.length).bind (z.cps[·]?) = some c := by
    have e : seqIndex? (i : Int) z.length = some i := seqIndex_of (by omega) (by show (i : Int) < (z.cps.size : Nat); omega)
    rw [e]; exact hc
  refine P.getItem_str (s := { s with toks := s.toks + 1 }) (by simp; omega) fin ?_ <;> try dsimp only
  refine wpAny_bind (wpAny_field (s := { s with toks := s.toks + 1 + 1 }) ho hd (x := rawInt (i : Int)) rfl ?_) <;> try dsimp only
  refine wpAny_bind (wpAny_setField (s := { s with toks := s.toks + 1 + 1 }) ho hd (by simp) ?_)
  have st : At (s.heap.update it (Obj.mapFields (·.setIfInBounds 1 (rawInt ((i : Int) - 1))))) it z t ((i : Int) - 1) :=
    ⟨_, Heap.get?_update_self _ ho (Obj.isFreed_of_fields (Obj.data_mapFields hd _)), (Obj.cls_mapFields ..).trans hcl, by rw [Obj.data_mapFields hd]; simp⟩
  first
    | exact wpAny_pure ⟨_, rfl, wpAny_pure (hQ _ _ st (Heap.SameBut.update ..))⟩
    | exact wpAny_bind (wpAny_pure (wpAny_pure ⟨_, rfl, wpAny_pure (hQ _ _ st (Heap.SameBut.update ..))⟩))
theorem ends {it : Addr} {Q : Option Value → Shared → Prop} (hh : A.handled = none) (hit : At s.heap it z t (-1)) (hQ : ∀ h', Heap.ExtBut it s.heap h' → Q none { s with heap := h' }) : wpAny (model prog w) A (pyNext (.ref it)) Q E s := by
  obtain ⟨o, ho, hcl, hd⟩ := id hit
  unfold pyNext
  refine wpAny_bind (wpAny_attempt (wpAny_callSpecial?_slot (name := Str.ofString "__next__") hit.isTy RT.slot_rt_next (wpAny_call_entry RT.slot_rt_next hit.isTy RT.entry_rt_next ?_ (RT.args_rt_next _))))
  unfold Builtin.«reversed.__next__»
  refine wpAny_bind (wpAny_of_eq (a := (Value.ref it, [])) rfl ?_) <;> try dsimp only
  refine wpAny_bind (wpAny_field ho hd (x := .str z t) rfl ?_) <;> try dsimp only
  refine wpAny_bind (wpAny_field ho hd (x := rawInt (-1)) rfl ?_); show wpAny _ _ (if (-1 : Int) < 0 then _ else _) _ _ s
  rw [if_pos (by decide)]; try dsimp only
  refine wpAny_bind (wpAny_rule ?_); refine wpAny_bind ?_; wp_delta; refine wpAny_bind (wpAny_setField ho hd (by simp) ?_)
  have ho2 := Heap.get?_update_self (Obj.mapFields (·.setIfInBounds 1 (rawInt (-1)))) ho (Obj.isFreed_of_fields (Obj.data_mapFields hd _)) -- the place is put
  refine wpAny_setField (s := { s with heap := s.heap.update it (Obj.mapFields (·.setIfInBounds 1 (rawInt (-1)))) }) ho2 (Obj.data_mapFields hd _) (by simp) ?_ <;> try dsimp only
  first
    | show wpAny _ _ (newExc (.type "StopIteration") [] >>= _) _ _ _
    | (refine wpAny_bind ?_; show wpAny _ _ (newExc (.type "StopIteration") [] >>= _) _ _ _)
    | (refine wpAny_bind ?_; wp_delta; show wpAny _ _ (newExc (.type "StopIteration") [] >>= _) _ _ _)
  refine wpAny_bind ?_; simp only [newExc, newTuple]
  refine wpAny_bind (wpAny_newObj_type ?_ (by size_fits)); refine wpAny_bind (m := firstArgMember _ _) (wpAny_of_eq (a := Value.none) (by first | rfl | (simp only [firstArgMember]; rfl)) ?_)
  refine wpAny_newObj_type ?_ (by size_fits); simp only [raiseNew]; refine wpAny_bind (wpAny_handled ?_)
  first | rw [show A.in1.handled = none from hh] | rw [hh]
  refine wpAny_bind (wpAny_pure (wpAny_throw ?_)); refine wpAny_bind (wpAny_isInstance (T := "StopIteration") (b := true) ⟨_, Heap.get?_push_size _ rfl, rfl⟩ isSubtype_stop ?_)
  refine wpAny_pure (hQ _ (Heap.ExtBut.push (Heap.ExtBut.push ?_ _) _))
  intro b ob hb e
  exact (Heap.get?_update_other _ _ (Ne.symm hb)).trans ((Heap.get?_update_other _ _ (Ne.symm hb)).trans e)
theorem self_iter {it : Addr} {i : Int} {Q : Value → Shared → Prop} (hit : At s.heap it z t i) (h : Q (.ref it) s) : wpAny (model prog w) A (pyIter (.ref it)) Q E s :=
  wpAny_pyIter_slot hit.isTy RT.slot_rt_iter (wpAny_call_entry RT.slot_rt_iter hit.isTy RT.entry_rt_iter (show wpAny _ _ (ret (.ref it)) _ _ s from wpAny_pure ⟨_, rfl, "reversed", _, hit.isTy, RT.slot_rt_next.lookup, h⟩) (RT.args_rt_iter _))
end
/-- the walk over it: sign by sign from behind -/
def Itz (z : Str) : It :=
  ⟨fun i _ => i < z.cps.size, fun i H v H' => H' = H ∧ ∃ c, z.cps[z.cps.size - 1 - i]? = some c ∧ v = .str ⟨#[c]⟩, fun i _ => z.cps.size ≤ i⟩
theorem turn {P : Program} {w : World} {K : PySem.W.Frag} {tg : Expr} (it : Addr) (z : Str) (t : Tok) (hsz : z.cps.size ≤ sizeLine) : Turn P w K tg (Itz z) [it] it (fun i h => i ≤ z.cps.size ∧ At h it z t ((z.cps.size : Int) - 1 - (i : Nat))) where
  mem := List.mem_singleton.mpr rfl
  obj := fun i h st b hb => by
    rw [List.mem_singleton.mp hb]
    obtain ⟨_, o, e, c, d⟩ := st
    exact ⟨o, e, fun v q => by rw [d] at q; cases q⟩
  keep := fun i h h' st k => ⟨st.1, st.2.kept fun o e => k it (List.mem_singleton.mpr rfl) o e⟩
  item := by
    intro X hP hw hK hc i pins s σ H E I hf st hg
    subst hP hw hK
    obtain ⟨f0, f1, _, f3, f4, f5⟩ := hf it (List.mem_singleton.mpr rfl)
    obtain ⟨_, hit⟩ := st
    have hin : i < z.cps.size := hg
    have hlt : z.cps.size - 1 - i < z.cps.size := by omega
    have e1 : (z.cps.size : Int) - 1 - ((i : Nat) : Int) = ((z.cps.size - 1 - i : Nat) : Int) := by omega
    have e2 : ((z.cps.size - 1 - i : Nat) : Int) - 1 = (z.cps.size : Int) - 1 - ((i + 1 : Nat) : Int) := by omega
    rw [e1] at hit
    have ec : z.cps[z.cps.size - 1 - i]? = some z.cps[z.cps.size - 1 - i] := Array.getElem?_eq_getElem hlt
    refine next hit hlt ec hsz fun h' tk st' sb => ?_
    rw [e2] at st'
    have I1 : Inv X pins σ H { s with heap := h', toks := s.toks + 1 + 1 } := I.turned (t' := s.toks + 1 + 1) (fun b o hb e => by rw [sb.2 b hb]; exact e) f0 f1 f3 f4 f5
    obtain ⟨o, e, c, d⟩ := id st'
    exact ⟨_, rfl, go_of (s := { s with heap := h', toks := s.toks + 1 + 1 }) e c d (by decide) ⟨.str ⟨#[z.cps[z.cps.size - 1 - i]]⟩, H, I1, ⟨_, rfl⟩, ⟨rfl, _, ec, rfl⟩, ⟨hin, st'⟩, fun b hb => (hf b hb).1⟩⟩
  done := by
    intro X hP hw hK hc i pins s σ H E I hf st hg
    subst hP hw hK
    obtain ⟨f0, f1, _, f3, f4, f5⟩ := hf it (List.mem_singleton.mpr rfl)
    obtain ⟨hin, hit⟩ := st
    have hge : z.cps.size ≤ i := hg
    rw [show (z.cps.size : Int) - 1 - ((i : Nat) : Int) = -1 by omega] at hit
    exact ends (I.ok.hd hc) hit fun h' eb => ⟨rfl, I.turned (t' := s.toks) (fun b o hb e => eb b o hb e) f0 f1 f3 f4 f5⟩
  self := fun A i s Q E st h => self_iter st.2 h
/-- reversed(x), x a text -/
def iRev (te : TE) : TI := fun σ H R => te σ H fun v H1 => ∃ z : Str, v = .str z ∧ z.cps.size ≤ sizeLine ∧ R (Itz z) H1
theorem pi_revStr {X : Cx} {tg e : Expr} {te : TE} {p pos : Pos} (hg : Gl X "reversed") (hm : X.mg "reversed" = none) (he : PE X e te) (hs : starEach [e] X.env = (false, eval e X.env) :: starEach [] X.env := by rfl) : PI X tg (.Call (.Name "reversed" p) [e] [] pos) (iRev te) := by
  refine ⟨fun pins s σ H R I h => Call_ (ld_blt I hg hm PyProof.Rows.boot_reversed (PyProof.Rows.callWith_type1 (args_cons (thn (he.run pins s σ H _ I h) fun u s1 ⟨v, H1, I1, r1, q1⟩ => args_nil ?_) hs) hs rfl))⟩
  obtain ⟨z, ev, hz, q⟩ := q1
  subst ev
  obtain ⟨t, rfl⟩ := r1
  have hz2 := hz
  rw [sizeLine_eq] at hz2
  refine called (by show ¬ ((z.cps.size : Nat) : Int) ≥ 2 ^ 63; omega) (self_iter (z := z) (t := t) (i := (z.length : Int) - 1) ⟨_, Heap.get?_push_size _ rfl, rfl, rfl⟩ ?_)
  refine pi_one (tk := s1.toks + 1 + 1) I1 _ (turn s1.heap.objs.size z t hz) ⟨Nat.zero_le _, _, Heap.get?_push_size _ rfl, rfl, ?_⟩ q
  have e : (z.length : Int) - 1 = (z.cps.size : Int) - 1 - ((0 : Nat) : Int) := by show (z.cps.size : Int) - 1 = _; omega
  rw [← e]; rfl
theorem walk {z : Str} : Walk (Itz z) z.cps.size (fun _ => True) (fun i H v H' => H' = H ∧ ∃ c, z.cps[z.cps.size - 1 - i]? = some c ∧ v = .str ⟨#[c]⟩) :=
  ⟨fun _ _ h _ => h, fun _ _ => Nat.le_refl _, fun _ _ _ _ _ _ y => y⟩
end Rs
/-! ### one form for each number -/
theorem form_tail {x : Int} {r : List Int} (h : Form (x :: r)) : Form r := by
  refine ⟨fun y hy => h.1 y (List.mem_cons_of_mem _ hy), fun e => h.2 ?_⟩
  cases r with
  | nil => cases e
  | cons y s => rw [List.getLast?_cons_cons]; exact e
theorem form_zero : ∀ {b : List Int}, Form b → wt b = 0 → b = []
  | [], _, _ => rfl
  | y :: s, h, e => by
    have hy := h.1 y List.mem_cons_self
    have e2 : y + 3 * wt s = 0 := e
    have hs := form_zero (form_tail h) (by omega)
    subst hs
    have y0 : y = 0 := by
      have e3 : y + 3 * 0 = 0 := e
      omega
    subst y0
    exact (h.2 rfl).elim
theorem form_eq : ∀ {a b : List Int}, Form a → Form b → wt a = wt b → a = b
  | [], b, _, hb, e => (form_zero hb e.symm).symm
  | x :: r, [], ha, _, e => form_zero ha e
  | x :: r, y :: s, ha, hb, e => by
    have hx := ha.1 x List.mem_cons_self
    have hy := hb.1 y List.mem_cons_self
    have e2 : x + 3 * wt r = y + 3 * wt s := e
    have e3 : x = y := by omega
    subst e3
    rw [form_eq (form_tail ha) (form_tail hb) (by omega)]
theorem wt_nat : ∀ {ls : List Int}, Lays ls → (wt ls).natAbs < 2 ^ (2 * ls.length)
  | [], _ => by show (0 : Int).natAbs < 2 ^ 0; decide
  | x :: r, h => by
    have ih := wt_nat (ls := r) fun y hy => h y (List.mem_cons_of_mem _ hy)
    have hx := h x List.mem_cons_self
    show (x + 3 * wt r).natAbs < 2 ^ (2 * (r.length + 1))
    rw [show 2 * (r.length + 1) = 2 * r.length + 1 + 1 by omega, Nat.pow_succ, Nat.pow_succ]
    omega
theorem wt_lt {ls : List Int} {n : Nat} (h : Lays ls) (hl : ls.length ≤ n) : (wt ls).natAbs < 2 ^ (2 * n) :=
  Nat.lt_of_lt_of_le (wt_nat h) (Nat.pow_le_pow_right (by decide) (by omega))
theorem form_of_turn {ls : List Int} {n N : Int} (e : wt ls + 3 ^ ls.length * n = N) : wt (ls ++ [(n + 1) % 3 - 1]) + 3 ^ (ls ++ [(n + 1) % 3 - 1]).length * ((n + 1) / 3) = N := by
  rw [wt_append, wt_one, List.length_append, List.length_singleton, Int.pow_succ, ← e, Int.add_assoc, Int.mul_assoc, ← Int.mul_add]
  have e2 : (n + 1) % 3 - 1 + 3 * ((n + 1) / 3) = n := by omega
  rw [e2]
theorem half_pow {n : Int} {k : Nat} (hn : n ≠ 0) (h : n.natAbs < 2 ^ k) : ∃ j, k = j + 1 ∧ ((n + 1) / 3).natAbs < 2 ^ j := by
  cases k with
  | zero => rw [Nat.pow_zero] at h; omega
  | succ j =>
    rw [Nat.pow_succ] at h
    exact ⟨j, rfl, by omega⟩
/-! ### lays by place -/
def lz (ns : List Int) (i : Nat) : Int := ns.getD i 0
theorem lz_lt {ns : List Int} {i : Nat} (h : i < ns.length) : ns[i]? = some (lz ns i) := by
  unfold lz
  rw [List.getD_eq_getElem?_getD, List.getElem?_eq_getElem h]
  rfl
theorem lz_ge {ns : List Int} {i : Nat} (h : ns.length ≤ i) : lz ns i = 0 := by
  unfold lz
  rw [List.getD_eq_getElem?_getD, List.getElem?_eq_none h]
  rfl
theorem lz_get {ns : List Int} {i : Nat} {z : Int} (h : ns[i]? = some z) : lz ns i = z := by
  unfold lz
  rw [List.getD_eq_getElem?_getD, h]
  rfl
theorem lz_lay {ns : List Int} (h : Lays ns) (i : Nat) : -1 ≤ lz ns i ∧ lz ns i ≤ 1 := by
  by_cases hi : i < ns.length
  · exact h _ (List.mem_of_getElem? (lz_lt hi))
  · rw [lz_ge (by omega)]; omega
theorem lz_cons (x : Int) (r : List Int) (i : Nat) : lz (x :: r) (i + 1) = lz r i := rfl
theorem lz_tail (ns : List Int) (i : Nat) : lz ns.tail i = lz ns (i + 1) := by
  cases ns with
  | nil => rfl
  | cons x r => rfl
theorem wt_hd (ns : List Int) : wt ns = lz ns 0 + 3 * wt ns.tail := by
  cases ns with
  | nil => rfl
  | cons x r => rfl
theorem lays_tail {ns : List Int} (h : Lays ns) : Lays ns.tail := lays_sub h fun x hx => List.mem_of_mem_tail hx
theorem wt_congr_n : ∀ (n : Nat) {a b : List Int}, a.length ≤ n → b.length ≤ n → (∀ i, lz a i = lz b i) → wt a = wt b
  | 0, a, b, ha, hb, _ => by
    rw [List.length_eq_zero_iff.mp (Nat.le_zero.mp ha), List.length_eq_zero_iff.mp (Nat.le_zero.mp hb)]
  | n + 1, a, b, ha, hb, h => by
    rw [wt_hd a, wt_hd b, h 0, wt_congr_n n (a := a.tail) (b := b.tail) (by rw [List.length_tail]; omega) (by rw [List.length_tail]; omega) fun i => by rw [lz_tail, lz_tail]; exact h (i + 1)]
theorem wt_congr {a b : List Int} (h : ∀ i, lz a i = lz b i) : wt a = wt b := wt_congr_n (max a.length b.length) (Nat.le_max_left ..) (Nat.le_max_right ..) h
theorem lz_take (ns : List Int) (m i : Nat) : lz (ns.take m) i = if i < m then lz ns i else 0 := by
  unfold lz
  rw [List.getD_eq_getElem?_getD, List.getD_eq_getElem?_getD, List.getElem?_take]
  split <;> rfl
theorem lz_drop (ns : List Int) (m i : Nat) : lz (ns.drop m) i = lz ns (m + i) := by
  unfold lz
  rw [List.getD_eq_getElem?_getD, List.getD_eq_getElem?_getD, List.getElem?_drop]
theorem lz_append (a b : List Int) (i : Nat) : lz (a ++ b) i = if i < a.length then lz a i else lz b (i - a.length) := by
  unfold lz
  rw [List.getD_eq_getElem?_getD, List.getD_eq_getElem?_getD, List.getD_eq_getElem?_getD]
  split
  · rename_i h
    rw [List.getElem?_append_left h]
  · rename_i h
    rw [List.getElem?_append_right (by omega)]
theorem lz_zeros (n i : Nat) : lz (List.replicate n 0) i = 0 := by
  unfold lz
  rw [List.getD_eq_getElem?_getD, List.getElem?_replicate]
  split <;> rfl
theorem lz_pad (a : List Int) (n i : Nat) : lz (a ++ List.replicate n 0) i = lz a i := by
  rw [lz_append]
  split
  · rfl
  · rename_i h
    rw [lz_zeros, lz_ge (by omega)]
theorem lays_append {a b : List Int} (ha : Lays a) (hb : Lays b) : Lays (a ++ b) := fun x hx => (List.mem_append.mp hx).elim (ha x) (hb x)
theorem lays_zeros (n : Nat) : Lays (List.replicate n 0) := fun x hx => by
  rw [(List.mem_replicate.mp hx).2]; omega
theorem cutI_to (ns : List Int) (m : Nat) : cutI ns none (some (m : Int)) = ns.take m := by
  unfold cutI
  rw [HT.sIx_none, HT.sIx_nat, List.drop_zero, Nat.sub_zero]
  by_cases h : m ≤ ns.length
  · rw [Nat.min_eq_left h]
  · rw [Nat.min_eq_right (by omega), List.take_length, List.take_of_length_le (by omega)]
theorem cutI_from (ns : List Int) (m : Nat) : cutI ns (some (m : Int)) none = ns.drop m := by
  unfold cutI
  rw [HT.sIx_none, HT.sIx_nat]
  by_cases h : m ≤ ns.length
  · rw [Nat.min_eq_left h, List.take_of_length_le (by rw [List.length_drop]; omega)]
  · rw [Nat.min_eq_right (by omega), List.drop_length, List.drop_of_length_le (by omega), List.take_nil]
/-! ### the noughts behind the last lay left out -/
def TrimOf (ns ms : List Int) : Prop := (∀ i, lz ms i = lz ns i) ∧ ms.length ≤ ns.length ∧ (∀ x ∈ ms, x ∈ ns) ∧ ms.getLast? ≠ some 0
theorem TrimOf.form {ns ms : List Int} (t : TrimOf ns ms) (h : Lays ns) : Form ms := ⟨lays_sub h t.2.2.1, t.2.2.2⟩
theorem TrimOf.wt {ns ms : List Int} (t : TrimOf ns ms) : wt ms = wt ns := wt_congr t.1
theorem trim_take {ns : List Int} {m : Nat} (hm : m ≤ ns.length) (h0 : ∀ i, m ≤ i → lz ns i = 0) (hl : m = 0 ∨ lz ns (m - 1) ≠ 0) : TrimOf ns (ns.take m) := by
  refine ⟨fun i => ?_, ?_, fun x hx => List.mem_of_mem_take hx, ?_⟩
  · rw [lz_take]
    split
    · rfl
    · rename_i h
      exact (h0 i (by omega)).symm
  · rw [List.length_take]; omega
  · intro e
    rcases hl with rfl | hl
    · rw [List.take_zero] at e
      cases e
    · have h1 : 0 < m := by
        cases m with
        | zero => rw [List.take_zero] at e; cases e
        | succ k => omega
      rw [List.getLast?_eq_getElem?, List.length_take, Nat.min_eq_left hm, List.getElem?_take, if_pos (by omega)] at e
      exact hl (lz_get e)
/-! ### where two forms part -/
def Parts (a b : List Int) : Option Nat → Prop
  | none => ∀ i, lz a i = lz b i
  | some p => lz a p ≠ lz b p ∧ ∀ i, p < i → lz a i = lz b i
def oV : Option Nat → V
  | none => .non
  | some p => .int (p : Int)
theorem Parts.uniq {a b : List Int} : ∀ {o o' : Option Nat}, Parts a b o → Parts a b o' → o = o'
  | none, none, _, _ => rfl
  | none, some p, h, h' => (h'.1 (h p)).elim
  | some p, none, h, h' => (h.1 (h' p)).elim
  | some p, some q, h, h' => by
    rcases Nat.lt_trichotomy p q with l | e | l
    · exact (h'.1 (h.2 q l)).elim
    · rw [e]
    · exact (h.1 (h'.2 p l)).elim
theorem Parts.symm {a b : List Int} : ∀ {o : Option Nat}, Parts a b o → Parts b a o
  | none, h => fun i => (h i).symm
  | some _, h => ⟨fun e => h.1 e.symm, fun i hi => (h.2 i hi).symm⟩
theorem parts_lt : ∀ (p : Nat) {a b : List Int}, Lays a → Lays b → (∀ i, p < i → lz a i = lz b i) → lz a p < lz b p → wt a < wt b
  | 0, a, b, _, _, h, l => by
    rw [wt_hd a, wt_hd b, wt_congr (a := a.tail) (b := b.tail) fun i => by rw [lz_tail, lz_tail]; exact h (i + 1) (by omega)]
    omega
  | p + 1, a, b, ha, hb, h, l => by
    have ih := parts_lt p (lays_tail ha) (lays_tail hb) (fun i hi => by rw [lz_tail, lz_tail]; exact h (i + 1) (by omega)) (by rw [lz_tail, lz_tail]; exact l)
    have h1 := lz_lay ha 0
    have h2 := lz_lay hb 0
    rw [wt_hd a, wt_hd b]
    omega
theorem parts_wt {a b : List Int} (ha : Lays a) (hb : Lays b) : ∀ {o : Option Nat}, Parts a b o → decide (wt b < wt a) = match o with | none => false | some p => decide (lz b p < lz a p)
  | none, h => by
    rw [wt_congr h]
    exact decide_eq_false (by omega)
  | some p, h => by
    show decide (wt b < wt a) = decide (lz b p < lz a p)
    by_cases l : lz b p < lz a p
    · rw [decide_eq_true l, decide_eq_true (parts_lt p hb ha (fun i hi => (h.2 i hi).symm) l)]
    · have l2 : lz a p < lz b p := by
        have := h.1
        omega
      have := parts_lt p ha hb h.2 l2
      rw [decide_eq_false l, decide_eq_false (by omega)]
/-! ### turned about -/
def neg (ns : List Int) : List Int := ns.map fun x => -x
theorem lz_neg (ns : List Int) (i : Nat) : lz (neg ns) i = -lz ns i := by
  unfold lz neg
  rw [List.getD_eq_getElem?_getD, List.getD_eq_getElem?_getD, List.getElem?_map]
  cases ns[i]? <;> rfl
theorem lays_neg {ns : List Int} (h : Lays ns) : Lays (neg ns) := fun x hx => by
  obtain ⟨y, hy, rfl⟩ := List.mem_map.mp hx
  have := h y hy
  omega
theorem form_neg {ns : List Int} (h : Form ns) : Form (neg ns) := by
  refine ⟨lays_neg h.1, ?_⟩
  unfold neg
  rw [List.getLast?_map]
  intro e
  cases q : ns.getLast? with
  | none => rw [q] at e; cases e
  | some z =>
    rw [q] at e
    have e2 : -z = 0 := Option.some.inj e
    exact h.2 (by rw [q, show z = 0 by omega])
theorem wt_neg : ∀ ns : List Int, wt (neg ns) = -wt ns
  | [] => rfl
  | x :: r => by
    show -x + 3 * wt (neg r) = -(x + 3 * wt r)
    rw [wt_neg r]
    omega
theorem Parts.neg {a b : List Int} : ∀ {o : Option Nat}, Parts a b o → Parts (neg a) (neg b) o
  | none, h => fun i => by rw [lz_neg, lz_neg, h i]
  | some p, h => ⟨fun e => h.1 (by rw [lz_neg, lz_neg] at e; omega), fun i hi => by rw [lz_neg, lz_neg, h.2 i hi]⟩
/-! ### sums by carries -/
theorem wt_take_lz (ns : List Int) (i : Nat) : wt (ns.take (i + 1)) = wt (ns.take i) + lz ns i * 3 ^ i := by
  by_cases h : i < ns.length
  · exact wt_turn (lz_lt h)
  · rw [lz_ge (by omega), List.take_of_length_le (by omega), List.take_of_length_le (by omega), Int.zero_mul, Int.add_zero]
def SumOf (a b ls os : List Int) : Prop := wt ls = wt a + wt b ∧ os.length = max a.length b.length ∧ ls.length ≤ os.length + 1 ∧ Lays os ∧ (∀ j, j < os.length → lz a j + lz b j + lz (0 :: os) j = lz ls j + 3 * lz os j) ∧ lz ls os.length = lz (0 :: os) os.length
/-- so far, at i places -/
structure SumTo (a b : List Int) (i : Nat) (ls os : List Int) (c : Int) : Prop where
  l1 : ls.length = i
  l2 : os.length = i
  y1 : Lays ls
  y2 : Lays os
  c1 : -1 ≤ c
  c2 : c ≤ 1
  w : wt ls + c * 3 ^ i = wt (a.take i) + wt (b.take i)
  p : ∀ j, j < i → lz a j + lz b j + lz (0 :: os) j = lz ls j + 3 * lz os j
  e : lz (0 :: os) i = c
theorem SumTo.zero {a b : List Int} : SumTo a b 0 [] [] 0 := ⟨rfl, rfl, lays_nil, lays_nil, by decide, by decide, rfl, fun j h => absurd h (Nat.not_lt_zero j), rfl⟩
theorem lz_last {ls : List Int} {i : Nat} (h : ls.length = i) (z : Int) : lz (ls ++ [z]) i = z := by
  rw [lz_append, if_neg (by omega), h, Nat.sub_self]; rfl
theorem lz_init {ls : List Int} {i j : Nat} (h : ls.length = i) (hj : j < i) (z : Int) : lz (ls ++ [z]) j = lz ls j := by
  rw [lz_append, if_pos (by omega)]
theorem SumTo.turn {a b : List Int} {i : Nat} {ls os : List Int} {c : Int} (h : SumTo a b i ls os c) (ha : Lays a) (hb : Lays b) :
    SumTo a b (i + 1) (ls ++ [(lz a i + lz b i + c + 1) % 3 - 1]) (os ++ [(lz a i + lz b i + c + 1) / 3]) ((lz a i + lz b i + c + 1) / 3) := by
  have ra := lz_lay ha i
  have rb := lz_lay hb i
  have c1 := h.c1
  have c2 := h.c2
  generalize hz : (lz a i + lz b i + c + 1) % 3 - 1 = z
  generalize hc : (lz a i + lz b i + c + 1) / 3 = c'
  have ez : z + 3 * c' = lz a i + lz b i + c := by omega
  have z1 : -1 ≤ z ∧ z ≤ 1 := by omega
  have d1 : -1 ≤ c' ∧ c' ≤ 1 := by omega
  have l3 : ((0 : Int) :: os).length = i + 1 := by rw [List.length_cons, h.l2]
  refine ⟨by rw [List.length_append, h.l1]; rfl, by rw [List.length_append, h.l2]; rfl, lays_more h.y1 z1.1 z1.2, lays_more h.y2 d1.1 d1.2, d1.1, d1.2, ?_, fun j hj => ?_, ?_⟩
  · have hw := h.w
    rw [wt_append, wt_one, h.l1, wt_take_lz, wt_take_lz, Int.pow_succ]
    generalize (3 : Int) ^ i = T at hw
    have e2 : z * T + 3 * c' * T = lz a i * T + lz b i * T + c * T := by rw [← Int.add_mul, ← Int.add_mul, ← Int.add_mul, ez]
    have e3 : c' * (T * 3) = 3 * c' * T := by rw [Int.mul_comm T 3, ← Int.mul_assoc, Int.mul_comm c' 3]
    rw [Int.mul_comm T z, e3]
    omega
  · by_cases e : j = i
    · subst e
      rw [lz_last h.l1, lz_last h.l2]
      have e4 : lz (0 :: (os ++ [c'])) j = lz (0 :: os) j := lz_init (ls := 0 :: os) (i := j + 1) l3 (by omega) c'
      rw [e4, h.e]
      omega
    · rw [lz_init h.l1 (by omega), lz_init h.l2 (by omega)]
      have e4 : lz (0 :: (os ++ [c'])) j = lz (0 :: os) j := lz_init (ls := 0 :: os) (i := i + 1) l3 (by omega) c'
      rw [e4]
      exact h.p j (by omega)
  · show lz (os ++ [c']) i = c'
    exact lz_last h.l2 c'
theorem SumTo.done {a b : List Int} {n : Nat} {ls os ms : List Int} {c : Int} (h : SumTo a b n ls os c) (hn : n = max a.length b.length) (t : TrimOf (ls ++ [c]) ms) : Form ms ∧ SumOf a b ms os := by
  refine ⟨t.form (lays_more h.y1 h.c1 h.c2), ?_, by rw [h.l2, hn], ?_, h.y2, fun j hj => ?_, ?_⟩
  · have hw := h.w
    rw [List.take_of_length_le (by omega), List.take_of_length_le (by omega)] at hw
    rw [t.wt, wt_append, wt_one, h.l1, Int.mul_comm, hw]
  · have := t.2.1
    rw [List.length_append, h.l1] at this
    rw [h.l2]
    exact this
  · rw [h.l2] at hj
    rw [t.1, lz_init h.l1 hj]
    exact h.p j hj
  · rw [h.l2, t.1, lz_last h.l1, h.e]
/-! ### halves -/
def nz (ns : List Int) : List Int := ns.filter fun x => !decide (x = 0)
def odd (ns : List Int) : Int := ((nz ns).length : Int) % 2
theorem odd_two (ns : List Int) : odd ns = 0 ∨ odd ns = 1 := by
  unfold odd
  omega
theorem nz_more {ns : List Int} {i : Nat} {z : Int} (h : ns[i]? = some z) : nz (ns.take (i + 1)) = if z = 0 then nz (ns.take i) else nz (ns.take i) ++ [z] := by
  rw [take_more h]
  unfold nz
  rw [List.filter_append]
  by_cases hz : z = 0
  · rw [if_pos hz, List.filter_cons_of_neg (by rw [decide_eq_true hz]; decide), List.filter_nil, List.append_nil]
  · rw [if_neg hz, List.filter_cons_of_pos (by rw [decide_eq_false hz]; rfl), List.filter_nil]
theorem nz_len (ns : List Int) : (nz ns).length ≤ ns.length := List.length_filter_le ..
theorem wt_odd : ∀ {ns : List Int}, Lays ns → wt ns % 2 = odd ns
  | [], _ => rfl
  | x :: r, h => by
    have hx := h x List.mem_cons_self
    have ih := wt_odd (ns := r) fun y hy => h y (List.mem_cons_of_mem _ hy)
    unfold odd at ih ⊢
    show (x + 3 * wt r) % 2 = _
    unfold nz at ih ⊢
    by_cases hz : x = 0
    · rw [List.filter_cons_of_neg (by rw [decide_eq_true hz]; decide)]
      omega
    · rw [List.filter_cons_of_pos (by rw [decide_eq_false hz]; rfl), List.length_cons]
      have hz2 : x = 1 ∨ x = -1 := by omega
      rcases hz2 with e | e <;> rw [e] <;> omega
/-- halved so far, at i places: b what came last, c what is carried -/
structure HalfTo (ev : List Int) (i : Nat) (ls : List Int) (b c : Int) : Prop where
  l1 : ls.length = i
  y1 : Lays ls
  b1 : -1 ≤ b ∧ b ≤ 1
  c1 : -1 ≤ c ∧ c ≤ 1
  bc : -3 ≤ b + 3 * c ∧ b + 3 * c ≤ 3
  w : 2 * wt ls = wt (ev.take i) + (b + c) * 3 ^ i
theorem HalfTo.zero {ev : List Int} : HalfTo ev 0 [] 0 0 := ⟨rfl, lays_nil, by decide, by decide, by decide, rfl⟩
theorem HalfTo.turn {ev : List Int} {i : Nat} {ls : List Int} {b c e : Int} (h : HalfTo ev i ls b c) (he : ev[i]? = some e) (hl : -1 ≤ e ∧ e ≤ 1) :
    HalfTo ev (i + 1) (ls ++ [(b - e + c + 1) % 3 - 1]) ((b - e + c + 1) % 3 - 1) ((b - e + c + 1) / 3) := by
  have b1 := h.b1
  have c1 := h.c1
  generalize hz : (b - e + c + 1) % 3 - 1 = z
  generalize hc : (b - e + c + 1) / 3 = c'
  have ez : z + 3 * c' = b - e + c := by omega
  have z1 : -1 ≤ z ∧ z ≤ 1 := by omega
  have d1 : -1 ≤ c' ∧ c' ≤ 1 := by omega
  refine ⟨by rw [List.length_append, h.l1]; rfl, lays_more h.y1 z1.1 z1.2, z1, d1, by omega, ?_⟩
  have hw := h.w
  rw [wt_append, wt_one, h.l1, wt_turn he, Int.pow_succ]
  generalize (3 : Int) ^ i = T at hw
  have e2 : (z + c') * (T * 3) = 3 * z * T + 3 * c' * T := by rw [Int.add_mul, Int.mul_comm T 3, ← Int.mul_assoc, ← Int.mul_assoc, Int.mul_comm z 3, Int.mul_comm c' 3]
  have e3 : z * T + 3 * c' * T = b * T - e * T + c * T := by rw [← Int.add_mul, ← Int.sub_mul, ← Int.add_mul, ez]
  have e4 : 3 * z * T = 3 * (z * T) := Int.mul_assoc ..
  have e5 : (b + c) * T = b * T + c * T := Int.add_mul ..
  rw [e5] at hw
  rw [e2, e4, Int.mul_comm T z]
  omega
theorem pow3_odd : ∀ n : Nat, (3 : Int) ^ n % 2 = 1
  | 0 => rfl
  | n + 1 => by
    have := pow3_odd n
    rw [Int.pow_succ]
    omega
theorem HalfTo.done {ev ls : List Int} {b c : Int} (h : HalfTo ev ev.length ls b c) (he : wt ev % 2 = 0) : 2 * wt ls = wt ev := by
  have hw := h.w
  rw [List.take_length] at hw
  have b1 := h.b1
  have c1 := h.c1
  have bc := h.bc
  have h3 := pow3_odd ev.length
  generalize (3 : Int) ^ ev.length = T at hw h3
  have k : b + c = 0 ∨ b + c = 1 ∨ b + c = -1 := by omega
  rcases k with k | k | k <;> rw [k] at hw
  · rw [Int.zero_mul] at hw; omega
  · rw [Int.one_mul] at hw; omega
  · rw [Int.neg_mul, Int.one_mul] at hw; omega
/-! ### parted at a place -/
theorem form_drop {ns : List Int} (h : Form ns) (k : Nat) : Form (ns.drop k) := by
  refine ⟨lays_sub h.1 fun x hx => List.mem_of_mem_drop hx, fun e => h.2 ?_⟩
  by_cases hk : k < ns.length
  · rw [List.getLast?_drop, if_neg (by omega)] at e
    exact e
  · rw [List.drop_of_length_le (by omega)] at e
    cases e
theorem wt_parts (ns : List Int) (k : Nat) : wt (ns.drop k) * 3 ^ k + wt (ns.take k) = wt ns := by
  by_cases hk : k ≤ ns.length
  · have e := wt_append (ns.take k) (ns.drop k)
    rw [List.take_append_drop, List.length_take, Nat.min_eq_left hk] at e
    rw [e, Int.mul_comm, Int.add_comm]
  · rw [List.drop_of_length_le (by omega), List.take_of_length_le (by omega)]
    show 0 * 3 ^ k + wt ns = wt ns
    rw [Int.zero_mul, Int.zero_add]
theorem wt_small : ∀ {ls : List Int} {k : Nat}, Lays ls → ls.length ≤ k → -(3 ^ k) < 2 * wt ls ∧ 2 * wt ls < 3 ^ k
  | [], k, _, _ => by
    have := Int.pow_pos (n := 3) (m := k) (by decide)
    show -(3 ^ k) < 2 * (0 : Int) ∧ 2 * (0 : Int) < 3 ^ k
    omega
  | x :: r, 0, _, h => by simp at h
  | x :: r, k + 1, h, hl => by
    have hx := h x List.mem_cons_self
    have ih := wt_small (ls := r) (k := k) (fun y hy => h y (List.mem_cons_of_mem _ hy)) (by rw [List.length_cons] at hl; omega)
    show -(3 ^ (k + 1)) < 2 * (x + 3 * wt r) ∧ 2 * (x + 3 * wt r) < 3 ^ (k + 1)
    rw [Int.pow_succ]
    omega
/-- a number of places -/
def isPl : V → Bool
  | .int i => decide (0 ≤ i)
  | _ => false
/-! ### products by rows -/
theorem wt_scale (z : Int) : ∀ ns : List Int, wt (ns.map fun x => z * x) = z * wt ns
  | [] => by show (0 : Int) = z * 0; rw [Int.mul_zero]
  | x :: r => by
    show z * x + 3 * wt (r.map fun x => z * x) = z * (x + 3 * wt r)
    rw [wt_scale z r, Int.mul_add, ← Int.mul_assoc, ← Int.mul_assoc, Int.mul_comm 3 z]
theorem wt_zeros : ∀ k : Nat, wt (List.replicate k 0) = 0
  | 0 => rfl
  | k + 1 => by
    rw [List.replicate_succ]
    show (0 : Int) + 3 * wt (List.replicate k 0) = 0
    rw [wt_zeros k]; rfl
def times (k : Nat) (z : Int) (ns : List Int) : List Int := List.replicate k 0 ++ ns.map fun x => z * x
theorem wt_times (k : Nat) (z : Int) (ns : List Int) : wt (times k z ns) = 3 ^ k * (z * wt ns) := by
  unfold times
  rw [wt_append, wt_zeros, wt_scale, List.length_replicate, Int.zero_add]
theorem times_len (k : Nat) (z : Int) (ns : List Int) : (times k z ns).length = k + ns.length := by
  unfold times
  rw [List.length_append, List.length_replicate, List.length_map]
theorem form_times {k : Nat} {z : Int} {ns : List Int} (hz : z = 1 ∨ z = -1) (h : Form ns) (hn : ns ≠ []) : Form (times k z ns) := by
  refine ⟨fun x hx => ?_, ?_⟩
  · rcases List.mem_append.mp hx with q | q
    · exact lays_zeros k x q
    · obtain ⟨y, hy, rfl⟩ := List.mem_map.mp q
      have hq : -1 ≤ z * y ∧ z * y ≤ 1 := by
        have := h.1 y hy
        rcases hz with rfl | rfl
        · rw [Int.one_mul]; exact this
        · rw [Int.neg_mul, Int.one_mul]; omega
      exact hq
  · rcases last_cases ns with e | ⟨ys, l, rfl⟩
    · exact (hn e).elim
    · unfold times
      rw [List.map_append, ← List.append_assoc]
      show (_ ++ [z * l]).getLast? ≠ some 0
      rw [List.getLast?_concat]
      intro e
      have e2 : z * l = 0 := Option.some.inj e
      have h2 := h.2
      rw [List.getLast?_concat] at h2
      apply h2
      rcases hz with rfl | rfl
      · rw [Int.one_mul] at e2; rw [e2]
      · rw [Int.neg_mul, Int.one_mul] at e2
        rw [show l = 0 by omega]
/-- the places with a lay that is not 0, ahead of i -/
def laid (ms : List Int) : Nat → List Nat
  | 0 => []
  | i + 1 => if lz ms i = 0 then laid ms i else laid ms i ++ [i]
theorem laid_lt {ms : List Int} : ∀ {i j : Nat}, j ∈ laid ms i → j < i ∧ lz ms j ≠ 0
  | 0, j, h => nomatch h
  | i + 1, j, h => by
    unfold laid at h
    split at h
    · have := laid_lt h
      exact ⟨by omega, this.2⟩
    · rename_i hz
      rcases List.mem_append.mp h with q | q
      · have := laid_lt q
        exact ⟨by omega, this.2⟩
      · rw [List.mem_singleton.mp q]
        exact ⟨by omega, hz⟩
theorem laid_len (ms : List Int) : ∀ i : Nat, (laid ms i).length ≤ i
  | 0 => Nat.le_refl _
  | i + 1 => by
    have := laid_len ms i
    unfold laid
    split
    · omega
    · rw [List.length_append, List.length_singleton]; omega
/-- a row: the place, its tuple, its form -/
structure R where
  j : Nat
  t : Addr
  p : Addr
  ls : List Int
structure RowAt (H0 H : Hp) (f : Addr) (ns ms : List Int) (r : R) : Prop where
  et : H r.t = some (.tup [.int (r.j : Int), .int (lz ms r.j), .ref r.p])
  fp : FormAt H r.p r.ls
  w : wt r.ls = wt ns * wt (ms.take (r.j + 1))
  np : H0 r.p = none
  nf : r.p ≠ f
  len : r.ls.length ≤ ns.length + r.j + 1
structure RowsOk (H0 H : Hp) (f : Addr) (ns ms : List Int) (i : Nat) (rs : List R) : Prop where
  js : rs.map R.j = laid ms i
  at_ : ∀ r ∈ rs, RowAt H0 H f ns ms r
  nd : (rs.map R.p).Nodup
theorem RowAt.same {H0 H H' : Hp} {f : Addr} {ns ms : List Int} {r : R} (h : RowAt H0 H f ns ms r) (s : ∀ b o, b ≠ f → H b = some o → H' b = some o) (ef : ∃ xs, H f = some (.lst xs)) : RowAt H0 H' f ns ms r := by
  obtain ⟨xs, ef⟩ := ef
  refine ⟨s _ _ (fun e => ?_) h.et, ⟨s _ _ h.nf h.fp.1, h.fp.2⟩, h.w, h.np, h.nf, h.len⟩
  have et := h.et
  rw [e, ef] at et
  cases et
theorem rows_len {H0 H : Hp} {f : Addr} {ns ms : List Int} {i : Nat} {rs : List R} (h : RowsOk H0 H f ns ms i rs) : rs.length ≤ i := by
  have e : (rs.map R.j).length = rs.length := List.length_map ..
  have := laid_len ms i
  rw [h.js] at e
  omega
/-! ### texts of three signs -/
open SX in
abbrev tx (l : List Nat) : Str := S l
theorem signs_tl : (Str.ofString "<.>").cps.toList = [60, 46, 62] := by decide +kernel
theorem dot_S : Str.ofString "." = tx [46] := by decide +kernel
theorem none_S : Str.ofString "" = tx [] := by decide +kernel
theorem tx_of (z : Str) : z = tx z.cps.toList := (SX.S_tl z).symm
theorem tx_len (l : List Nat) : (tx l).length = l.length := SX.S_len l
theorem tx_inj {a b : List Nat} (h : tx a = tx b) : a = b := SX.S_inj h
def isG (c : Nat) : Bool := decide (c = 60) || decide (c = 46) || decide (c = 62)
theorem isG_mem (c : Nat) : decide (c ∈ (Str.ofString "<.>").cps.toList) = isG c := by
  rw [signs_tl]
  unfold isG
  by_cases h1 : c = 60
  · subst h1; rfl
  · by_cases h2 : c = 46
    · subst h2; rfl
    · by_cases h3 : c = 62
      · subst h3; rfl
      · rw [decide_eq_false h1, decide_eq_false h2, decide_eq_false h3]
        refine decide_eq_false fun h => ?_
        simp only [List.mem_cons, List.not_mem_nil, or_false] at h
        rcases h with h | h | h
        · exact h1 h
        · exact h2 h
        · exact h3 h
theorem isG_or {c : Nat} (h : isG c = true) : c = 60 ∨ c = 46 ∨ c = 62 := by
  unfold isG at h
  rw [Bool.or_eq_true, Bool.or_eq_true, decide_eq_true_iff, decide_eq_true_iff, decide_eq_true_iff] at h
  omega
/-- a sign's lay, a lay's sign -/
def va (c : Nat) : Int := if c = 60 then -1 else if c = 46 then 0 else 1
def sg (z : Int) : Nat := if z = -1 then 60 else if z = 0 then 46 else 62
theorem va_sg {z : Int} (h : -1 ≤ z ∧ z ≤ 1) : va (sg z) = z := by
  have : z = -1 ∨ z = 0 ∨ z = 1 := by omega
  rcases this with e | e | e <;> rw [e] <;> rfl
theorem isG_sg (z : Int) : isG (sg z) = true := by
  unfold sg
  split
  · rfl
  · split <;> rfl
theorem va_lay (c : Nat) : -1 ≤ va c ∧ va c ≤ 1 := by
  unfold va
  split
  · decide
  · split <;> decide
theorem sg_at {z : Int} (h : -1 ≤ z ∧ z ≤ 1) : atI (Str.ofString "<.>").cps.toList (z + 1) = some (sg z) := by
  rw [signs_tl]
  have : z = -1 ∨ z = 0 ∨ z = 1 := by omega
  rcases this with e | e | e <;> rw [e] <;> rfl
theorem find_sign {c : Nat} (h : isG c = true) : Txt.find (Str.ofString "<.>") ⟨#[c]⟩ - 1 = va c := by
  rcases isG_or h with e | e | e <;> rw [e] <;> decide +kernel
theorem starts_dot (l : List Nat) : Txt.startswith (tx l) (Str.ofString ".") = decide (l.head? = some 46) := by
  have h1 : (Str.ofString ".").length = 1 := by decide +kernel
  have h2 : (Str.ofString ".").cps.toList = [46] := by decide +kernel
  unfold Txt.startswith
  rw [StrLaws.subAt_eq, h2, h1, List.drop_zero, tx_len]
  cases l with
  | nil => rfl
  | cons c r =>
    have e : (tx (c :: r)).cps.toList.take 1 = [c] := by simp [tx]
    rw [e, decide_eq_true (by rw [List.length_cons]; omega), Bool.true_and]
    by_cases hc : c = 46
    · subst hc; rfl
    · rw [decide_eq_false (by simp; exact hc)]
      exact beq_eq_false_iff_ne.mpr (by simp; exact hc)
/-- the text that writes lays -/
def tl (ns : List Int) : List Nat := (ns.map sg).reverse
def txt (ns : List Int) : List Nat := if ns = [] then [46] else tl ns
/-- what a text writes -/
def okT (l : List Nat) : Bool := !decide (l = []) && l.all isG && (!decide (l.head? = some 46) || decide (l = [46]))
def okV : V → Bool
  | .str z => okT z.cps.toList
  | _ => false
def rd (l : List Nat) : List Int := if l = [46] then [] else (l.map va).reverse
theorem rd_lays (l : List Nat) : Lays (rd l) := fun x hx => by
  unfold rd at hx
  split at hx
  · cases hx
  · rw [List.mem_reverse] at hx
    obtain ⟨c, _, rfl⟩ := List.mem_map.mp hx
    exact va_lay c
theorem rd_len (l : List Nat) : (rd l).length ≤ l.length := by
  unfold rd
  split
  · exact Nat.zero_le _
  · rw [List.length_reverse, List.length_map]; exact Nat.le_refl _
theorem join_ones (l : List Nat) : TL.joinL [] (l.map fun c => [c]) = l := by
  induction l with
  | nil => rfl
  | cons c r ih =>
    cases r with
    | nil => rfl
    | cons d s =>
      show [c] ++ [] ++ TL.joinL [] ((d :: s).map fun c => [c]) = c :: d :: s
      rw [ih]; rfl
theorem join_signs (l : List Nat) : Txt.join (Str.ofString "") (l.map fun c => (⟨#[c]⟩ : Str)) = tx l := by
  have e := SX.join_S [] (l.map fun c => [c])
  rw [join_ones, List.map_map] at e
  rw [none_S]
  exact e
theorem tl_rd {ns : List Int} (h : Form ns) : okT (txt ns) = true ∧ rd (txt ns) = ns := by
  unfold txt
  by_cases hn : ns = []
  · rw [if_pos hn, hn]
    exact ⟨by decide, rfl⟩
  · rw [if_neg hn]
    rcases last_cases ns with e | ⟨ys, l, rfl⟩
    · exact (hn e).elim
    · have hl : l ≠ 0 := fun e => h.2 (by rw [List.getLast?_concat, e])
      have hs : sg l ≠ 46 := by
        have hb := h.1 l (List.mem_append.mpr (.inr (List.mem_singleton.mpr rfl)))
        have : l = -1 ∨ l = 1 := by omega
        rcases this with e | e <;> rw [e] <;> decide
      have et : tl (ys ++ [l]) = sg l :: tl ys := by
        unfold tl
        rw [List.map_append, List.reverse_append]; rfl
      have n46 : ¬ tl (ys ++ [l]) = [46] := fun e => by
        rw [et] at e
        exact hs (List.cons.inj e).1
      refine ⟨?_, ?_⟩
      · unfold okT
        rw [Bool.and_eq_true, Bool.and_eq_true]
        refine ⟨⟨?_, ?_⟩, ?_⟩
        · rw [et, decide_eq_false (by simp)]; rfl
        · rw [List.all_eq_true]
          intro c hc
          unfold tl at hc
          rw [List.mem_reverse] at hc
          obtain ⟨z, _, rfl⟩ := List.mem_map.mp hc
          exact isG_sg z
        · rw [et, decide_eq_false (by simp; exact hs)]; rfl
      · unfold rd
        rw [if_neg n46]
        unfold tl
        rw [List.map_reverse, List.reverse_reverse, List.map_map]
        have : ∀ ms : List Int, Lays ms → ms.map (va ∘ sg) = ms := fun ms hm => by
          induction ms with
          | nil => rfl
          | cons x r ih =>
            rw [List.map_cons, ih fun y hy => hm y (List.mem_cons_of_mem _ hy)]
            show va (sg x) :: r = x :: r
            rw [va_sg (hm x List.mem_cons_self)]
        exact this _ h.1
theorem rd_form {l : List Nat} (h : okT l = true) : Form (rd l) := by
  refine ⟨rd_lays l, ?_⟩
  unfold okT at h
  rw [Bool.and_eq_true, Bool.and_eq_true] at h
  unfold rd
  split
  · simp
  · rename_i hn
    cases l with
    | nil => simp
    | cons c r =>
      have h3 := h.2
      rw [decide_eq_false hn, Bool.or_false] at h3
      have hc : c ≠ 46 := fun e => by rw [e] at h3; exact absurd h3 (by simp)
      rw [List.map_cons, List.reverse_cons, List.getLast?_concat]
      intro e
      have e2 : va c = 0 := Option.some.inj e
      have h2 := h.1.2
      rw [List.all_cons, Bool.and_eq_true] at h2
      rcases isG_or h2.1 with q | q | q
      · rw [q] at e2; exact absurd e2 (by decide)
      · exact hc q
      · rw [q] at e2; exact absurd e2 (by decide)
/-! ### the nearest multiple -/
theorem pow3_64 {k : Nat} (h : k ≤ 40) : (0 : Int) < 3 ^ k ∧ (3 : Int) ^ k < 2 ^ 64 := by
  have h1 : (3 : Nat) ^ k ≤ 3 ^ 40 := Nat.pow_le_pow_right (by decide) h
  have h2 : (3 : Nat) ^ 40 = 12157665459056928801 := by decide
  have e : (3 : Int) ^ k = (((3 : Nat) ^ k : Nat) : Int) := by rw [Int.natCast_pow]; rfl
  have h3 := Int.pow_pos (n := 3) (m := k) (by decide)
  refine ⟨h3, ?_⟩
  rw [e]
  omega
def nearK (N : Int) (k : Nat) : Int := (N + 3 ^ k / 2) / 3 ^ k
theorem near_of {N D R : Int} {k : Nat} (e : D * 3 ^ k + R = N) (h : -(3 ^ k) < 2 * R ∧ 2 * R < 3 ^ k) : nearK N k = D ∧ N - nearK N k * 3 ^ k = R := by
  have ho := pow3_odd k
  have hp := Int.pow_pos (n := 3) (m := k) (by decide)
  have e1 : nearK N k = D := by
    unfold nearK
    generalize (3 : Int) ^ k = T at e h ho hp
    have e2 : N + T / 2 = (R + T / 2) + D * T := by omega
    rw [e2, Int.add_mul_ediv_right _ _ (by omega), Int.ediv_eq_zero_of_lt (by omega) (by omega), Int.zero_add]
  refine ⟨e1, ?_⟩
  rw [e1]
  omega
theorem near_parts {ns : List Int} (h : Lays ns) (k : Nat) : nearK (wt ns) k = wt (ns.drop k) ∧ wt ns - nearK (wt ns) k * 3 ^ k = wt (ns.take k) :=
  near_of (wt_parts ns k) (wt_small (lays_sub h fun x hx => List.mem_of_mem_take hx) (by rw [List.length_take]; omega))
/-- the number to which a deed comes -/
def dueF (w one other load : Int) : Int :=
  if w = 0 then load else if w = 1 then one + other else if w = 2 then one - other else if w = 3 then one * (other - nearK other 5 * 3 ^ 5) else if w = 4 then one / 2 else if w = 5 then nearK one (load % 40).toNat else if w = 6 then one else -one
theorem dueF0 {w a b c : Int} (h : w = 0) : dueF w a b c = c := by unfold dueF; rw [if_pos h]
theorem dueF1 {w a b c : Int} (h0 : ¬ w = 0) (h : w = 1) : dueF w a b c = a + b := by unfold dueF; rw [if_neg h0, if_pos h]
theorem dueF2 {w a b c : Int} (h0 : ¬ w = 0) (h1 : ¬ w = 1) (h : w = 2) : dueF w a b c = a - b := by unfold dueF; rw [if_neg h0, if_neg h1, if_pos h]
theorem dueF3 {w a b c : Int} (h0 : ¬ w = 0) (h1 : ¬ w = 1) (h2 : ¬ w = 2) (h : w = 3) : dueF w a b c = a * (b - nearK b 5 * 3 ^ 5) := by unfold dueF; rw [if_neg h0, if_neg h1, if_neg h2, if_pos h]
theorem dueF4 {w a b c : Int} (h0 : ¬ w = 0) (h1 : ¬ w = 1) (h2 : ¬ w = 2) (h3 : ¬ w = 3) (h : w = 4) : dueF w a b c = a / 2 := by unfold dueF; rw [if_neg h0, if_neg h1, if_neg h2, if_neg h3, if_pos h]
theorem dueF5 {w a b c : Int} (h0 : ¬ w = 0) (h1 : ¬ w = 1) (h2 : ¬ w = 2) (h3 : ¬ w = 3) (h4 : ¬ w = 4) (h : w = 5) : dueF w a b c = nearK a (c % 40).toNat := by unfold dueF; rw [if_neg h0, if_neg h1, if_neg h2, if_neg h3, if_neg h4, if_pos h]
theorem dueF6 {w a b c : Int} (h0 : ¬ w = 0) (h1 : ¬ w = 1) (h2 : ¬ w = 2) (h3 : ¬ w = 3) (h4 : ¬ w = 4) (h5 : ¬ w = 5) (h : w = 6) : dueF w a b c = a := by unfold dueF; rw [if_neg h0, if_neg h1, if_neg h2, if_neg h3, if_neg h4, if_neg h5, if_pos h]
theorem dueF7 {w a b c : Int} (h0 : ¬ w = 0) (h1 : ¬ w = 1) (h2 : ¬ w = 2) (h3 : ¬ w = 3) (h4 : ¬ w = 4) (h5 : ¬ w = 5) (h6 : ¬ w = 6) : dueF w a b c = -a := by unfold dueF; rw [if_neg h0, if_neg h1, if_neg h2, if_neg h3, if_neg h4, if_neg h5, if_neg h6]
theorem wd {a b : Int} (h : decide (V.int a = V.int b) = true) : a = b := V.int.inj (of_decide_eq_true h)
theorem wn {a b : Int} (h : ¬ decide (V.int a = V.int b) = true) : ¬ a = b := fun e => h (decide_eq_true (congrArg V.int e))
/-! ### four of a kind -/
def four (g : Nat → V) : List V := [g 0, g 1, g 2, g 3]
theorem four_at {g : Nat → V} {j : Nat} (h : j < 4) : (four g)[j]? = some (g j) := by
  have : j = 0 ∨ j = 1 ∨ j = 2 ∨ j = 3 := by omega
  rcases this with e | e | e | e <;> rw [e] <;> rfl
theorem four_set {g : Nat → V} {j : Nat} {x : V} (h : j < 4) : (four g).set j x = four fun k => if k = j then x else g k := by
  have : j = 0 ∨ j = 1 ∨ j = 2 ∨ j = 3 := by omega
  rcases this with e | e | e | e <;> rw [e] <;> rfl
theorem four_congr {g h : Nat → V} (e : ∀ k, g k = h k) : four g = four h := by
  unfold four
  rw [e 0, e 1, e 2, e 3]
theorem ixN_nat {n k : Nat} (h : k < n) : ixN n (k : Int) = some k := by
  unfold ixN
  rw [if_pos (by omega), if_pos (by omega), Int.toNat_natCast]
theorem four_ix {g : Nat → V} {j : Nat} (h : j < 4) : ixN (four g).length (j : Int) = some j := ixN_nat h
def topS (i : Nat) : Stmt := PySem.Challenge.pw_poisescale_k09_whole_reckoning.main.body.getD i (.Pass ⟨0, 0, 0, 0⟩)
/-- built-in names that the text leaves as they are -/
structure Bi (mg : Str → Option Value) : Prop where
  abs : mg "abs" = none
  bool : mg "bool" = none
  divmod : mg "divmod" = none
  enumerate : mg "enumerate" = none
  int : mg "int" = none
  isinstance : mg "isinstance" = none
  len : mg "len" = none
  list : mg "list" = none
  max : mg "max" = none
  range : mg "range" = none
  reversed : mg "reversed" = none
  str : mg "str" = none
/-! ### is_whole, is_form, checked -/
section
variable {P : Program} {w : World} {K : PySem.W.Frag} {mg : Str → Option Value} {base : Heap}
abbrev s_is_whole : Stmt := topS 7
abbrev N_is_whole : List Str := ["thing"]
theorem sc_is_whole : FnScope N_is_whole ["thing"] (defScope s_is_whole) := ⟨rfl, rfl, rfl, by decide +kernel, rfl, by decide +kernel, by decide +kernel⟩
def sp_is_whole : Sp := fun vs H Q _ => ∃ x : V, vs = [x] ∧ WOk H x ∧ Q (.bl (isW x)) H
theorem ok_is_whole (S : Src K mg "is_whole" s_is_whole ["thing"]) (B : Bi mg) : Cal P w K mg base CX0 1 "is_whole" ["thing"] sp_is_whole := by
  refine S.cal fun f fd F => F.ok sc_is_whole (fun vs H Q E h => ?_) (fun cdv A outer s H vs Q E hr h => ?_)
  · obtain ⟨x, rfl, _⟩ := h
    rfl
  · obtain ⟨x, rfl, hx, q⟩ := h
    refine ⟨_, (pss_one (ps_ret (pe_and (pe_callB call_isi (by rfl) B.isinstance (by decide +kernel) (pa_cons (pv 0) (pa_cons (pe_bltn (v := .ty "int") (by rfl) B.int (by decide +kernel) rfl) pa_nil))) (pe_one (pe_not (pe_callB call_isi (by rfl) B.isinstance (by decide +kernel) (pa_cons (pv 0) (pa_cons (pe_bltn (v := .ty "bool") (by rfl) B.bool (by decide +kernel) rfl) pa_nil)))))))), ?_⟩
    refine ⟨_, rfl, _, _, _, _, _, rfl, .ty _, hx.ty, kit_ty (kit_int hx), _, rfl, ?_⟩
    cases x with
    | int i => exact iteT ⟨_, rfl, _, _, _, _, _, rfl, .ty _, hx.ty, kit_ty (kit_bool hx), _, rfl, q⟩
    | bl b => exact iteT ⟨_, rfl, _, _, _, _, _, rfl, .ty _, hx.ty, kit_ty (kit_bool hx), _, rfl, q⟩
    | _ => exact iteF q
abbrev s_is_form : Stmt := topS 8
abbrev N_is_form : List Str := ["thing", "lay"]
theorem sc_is_form : FnScope N_is_form ["thing"] (defScope s_is_form) := ⟨rfl, rfl, rfl, by decide +kernel, rfl, by decide +kernel, by decide +kernel⟩
def sp_is_form : Sp := fun vs H Q _ => ∃ x : V, vs = [x] ∧ Hand H x ∧ Q (.bl (isF H x)) H
theorem ok_is_form (S : Src K mg "is_form" s_is_form ["thing"]) (B : Bi mg) (C1 : Cal P w K mg base CX0 1 "is_whole" ["thing"] sp_is_whole) : Cal P w K mg base CX0 2 "is_form" ["thing"] sp_is_form := by
  obtain ⟨_, _, G_is_whole, g_is_whole, k_is_whole, b_is_whole⟩ := C1
  refine S.cal fun f fd F => F.ok sc_is_form (fun vs H Q E h => ?_) (fun cdv A outer s H vs Q E hr h => ?_)
  · obtain ⟨x, rfl, _⟩ := h
    rfl
  · obtain ⟨x, rfl, hx, q⟩ := h
    refine ⟨_, (pss_cons (ps_if (pt_not (pt_val (pe_callB call_isi (by rfl) B.isinstance (by decide +kernel) (pa_cons (pv 0) (pa_cons (pe_bltn (v := .ty "list") (by rfl) B.list (by decide +kernel) rfl) pa_nil))))) (pss_one (ps_ret pe_bl)) pss_nil)
      (pss_cons (ps_for PassesOwn.never rfl (pi_list (pv 0)) (pg_name (i := 1) sc_is_form.nd rfl (.inl rfl))
        (pss_one (ps_if (PW.pt (pw_or (pt_not (pt_val (pe_call G_is_whole (hr.mono (by decide)) rfl g_is_whole k_is_whole b_is_whole .nil pass0 (pa_cons (pv 1) pa_nil)))) (pw_or (pt_cmpR op_lt (pv 1) (pe_un un_neg pe_int) (nomark _)) (pw_or1 (pt_cmpR op_gt (pv 1) pe_int (nomark _)))))) (pss_one (ps_ret pe_bl)) pss_nil)))
      (pss_one (ps_ret (pe_or (pe_cmpR op_eq (pe_callB call_len_seq (by rfl) B.len PySem.boot_len (pa_cons (pv 0) pa_nil)) pe_int (nomark _)) (pe_one (pe_cmpR op_ne (pe_ix ix_list (pv 0) (pe_un un_neg pe_int) (fun _ _ => rfl)) pe_int (nomark _)))))))), ?_⟩
    refine ⟨_, rfl, _, _, _, _, _, rfl, .ty _, hx.1.ty, kit_ty (kit_list hx.1), _, rfl, ?_⟩
    cases e : isL H x with
    | false =>
      rw [isF_not e] at q
      exact iteT q
    | true =>
      refine iteF ?_
      obtain ⟨a, xs, rfl, ea⟩ := isL_ref e
      have hys := hx.2 a xs rfl ea
      refine ⟨_, rfl, a, rfl, ⟨_, SqL.of ea⟩, for_list (K := K) (a := a) (xs := xs) (fun i σ H' => ∃ v : Option V, σ = [some (.ref a), v] ∧ H' = H ∧ (xs.take i).all okLay = true)
        ⟨none, rfl, rfl, rfl⟩ (fun i σ H' _ ⟨_, _, e, _⟩ => by rw [e]; exact SqL.of ea) ?_ ?_⟩
      · rintro i y σ H' hi ⟨v, rfl, rfl, ok⟩
        have hy := hys y (List.mem_of_getElem? hi)
        refine ⟨_, rfl, y, rfl, hy, _, rfl, ?_⟩
        have bad : okLay y = false → Q (.bl false) H' := fun hb => by
          have q2 := q
          rw [isF_list ea, formV_bad hi hb] at q2
          exact q2
        cases y with
        | int z =>
          refine iteF ?_
          refine ⟨_, rfl, _, rfl, _, _, rfl, rfl, _, rfl, ?_⟩
          by_cases h1 : z < -1
          · rw [decide_eq_true h1]
            exact iteT (iteT (bad (decide_eq_false (by omega))))
          · rw [decide_eq_false h1]
            refine iteF ⟨_, rfl, _, _, rfl, rfl, _, rfl, ?_⟩
            by_cases h2 : 1 < z
            · rw [decide_eq_true h2]
              exact iteT (bad (decide_eq_false (by omega)))
            · rw [decide_eq_false h2]
              exact iteF ⟨_, rfl, rfl, all_more hi ok (decide_eq_true (by omega))⟩
        | _ => exact iteT (iteT (bad rfl))
      · rintro σ H' ⟨v, rfl, rfl, ok⟩
        rw [List.take_length] at ok
        rw [isF_list ea] at q
        refine ⟨_, rfl, a, _, rfl, .inl (SqL.of ea), rfl, _, rfl, ?_⟩
        rcases last_cases xs with rfl | ⟨ys, l, rfl⟩
        · exact iteT q
        · rw [decide_eq_false (by rw [List.length_append]; intro e; have e2 := V.int.inj e; simp at e2; omega)]
          have okl := List.all_eq_true.mp ok l (by simp)
          obtain ⟨z, rfl, _, _⟩ := int_of_okLay okl
          refine iteF ⟨_, rfl, _, rfl, a, _, _, _, rfl, rfl, SqL.of ea, atI_last ys _, rfl, ?_⟩
          rw [formV_last ok] at q
          exact q
/-! ### checked: NF is NoForm's class -/
abbrev s_checked : Stmt := topS 9
abbrev N_checked : List Str := ["thing"]
theorem sc_checked : FnScope N_checked ["thing"] (defScope s_checked) := ⟨rfl, rfl, rfl, by decide +kernel, rfl, by decide +kernel, by decide +kernel⟩
def sp_checked (C : Addr) : Sp := fun vs H Q E => ∃ x : V, vs = [x] ∧ Hand H x ∧ (isF H x = true → Q x H) ∧ (isF H x = false → E (.ref C) none H)
theorem ok_checked {cF cS : Addr} (S : Src K mg "checked" s_checked ["thing"]) (C1 : Cal P w K mg base CX0 2 "is_form" ["thing"] sp_is_form) (ZF : ErrC K mg "NoForm" cF cS) : Cal P w K mg base (L2.CX P w) 3 "checked" ["thing"] (sp_checked cF) := by
  obtain ⟨_, _, G_is_form, g_is_form, k_is_form, b_is_form⟩ := C1
  refine S.cal fun f fd F => F.okX sc_checked (fun vs H Q E h => ?_) (fun cdv A outer s H vs Q E hr h => ?_)
  · obtain ⟨x, rfl, _⟩ := h
    rfl
  · obtain ⟨x, rfl, hx, q1, q2⟩ := h
    refine ⟨_, (pss_cons (ps_if (pt_not (pt_val (pe_call G_is_form (hr.mono (by decide)) rfl g_is_form k_is_form b_is_form .nil pass0 (pa_cons (pv 0) pa_nil)))) (pss_one (ps_raise rfl (takes_of rfl rfl rfl rfl) (pmk_own PySem.F.excBase_ValueError ZF.x ZF.g ZF.k (raises_own ZF.b ZF.t) (by exact rfl)))) pss_nil)
      (pss_one (ps_ret (pv 0)))), ?_⟩
    refine ⟨_, rfl, x, rfl, hx, _, rfl, ?_⟩
    cases e : isF H x with
    | true => exact iteF ⟨_, rfl, q1 e⟩
    | false => exact iteT (q2 e)
end
/-! ### number_of -/
section
variable {P : Program} {w : World} {K : PySem.W.Frag} {mg : Str → Option Value} {base : Heap}
abbrev s_number_of : Stmt := topS 11
abbrev N_number_of : List Str := ["form", "found", "lay"]
theorem sc_number_of : FnScope N_number_of ["form"] (defScope s_number_of) := ⟨rfl, rfl, rfl, by decide +kernel, rfl, by decide +kernel, by decide +kernel⟩
def sp_number_of (C : Addr) : Sp := fun vs H Q E => ∃ x : V, vs = [x] ∧ Asks C x H E fun _ ns => Q (.int (wt ns)) H
theorem ok_number_of {cF : Addr} (S : Src K mg "number_of" s_number_of ["form"]) (B : Bi mg) (C1 : Cal P w K mg base (L2.CX P w) 3 "checked" ["thing"] (sp_checked cF)) : Cal P w K mg base (L2.CX P w) 4 "number_of" ["form"] (sp_number_of cF) := by
  obtain ⟨_, _, G_checked, g_checked, k_checked, b_checked⟩ := C1
  refine S.cal fun f fd F => F.okX sc_number_of (fun vs H Q E h => ?_) (fun cdv A outer s H vs Q E hr h => ?_)
  · obtain ⟨x, rfl, _⟩ := h
    rfl
  · obtain ⟨x, rfl, hx, q1, q2⟩ := h
    refine ⟨_, (pss_cons (ps_set (i := 1) sc_number_of.nd rfl (.inl rfl) pe_int)
      (pss_cons (ps_for (passes_of rfl) rfl (pi_reversed (by rfl) B.reversed (pa_cons (pe_call G_checked (hr.mono (by decide)) rfl g_checked k_checked b_checked .nil (passes_call (takes_of rfl rfl rfl rfl) (fun _ _ _ _ h => h)) (pa_cons (pv 0) pa_nil)) pa_nil)) (pg_name (i := 2) sc_number_of.nd rfl (.inl rfl))
        (pss_one (ps_set (i := 1) sc_number_of.nd rfl (.inl rfl) (pe_op op_add (pe_op op_mul pe_int (pv 1)) (pv 2)))))
      (pss_one (ps_ret (pv 1))))), ?_⟩
    refine ⟨_, rfl, x, rfl, hx, fun ok => ?_, fun e => q2 e H (Same.refl H)⟩
    obtain ⟨a, ns, rfl, fa⟩ := isF_true ok
    have q := q1 a ns rfl fa
    refine ⟨a, ns.map V.int, rfl, SqL.of fa.1, RT.for_Itv (K := K) (fun i σ H' => ∃ v : Option V, σ = [some (.ref a), some (.int (wt (ns.drop (ns.length - i)))), v] ∧ H' = H)
      ⟨none, ?_, rfl⟩ (fun i σ H' ⟨_, _, e⟩ => by rw [e]; exact SqL.of fa.1) ?_ ?_⟩
    · rw [Nat.sub_zero, List.drop_length]; rfl
    · rintro i y σ H' hi hy ⟨v, rfl, rfl⟩
      rw [List.length_map] at hi hy
      obtain ⟨z, hz, rfl⟩ := ints_get hy
      refine ⟨_, rfl, _, _, rfl, rfl, .inl (by decide), _, rfl, _, _, rfl, rfl, ?_⟩
      refine ⟨some (.int z), ?_, rfl⟩
      rw [wt_back hi hz]; rfl
    · rintro σ H' ⟨v, rfl, rfl⟩
      rw [List.length_map, Nat.sub_self]
      exact ⟨_, rfl, q⟩
end
/-! ### form_of -/
section
variable {P : Program} {w : World} {K : PySem.W.Frag} {mg : Str → Option Value} {base : Heap}
abbrev s_form_of : Stmt := topS 12
abbrev N_form_of : List Str := ["number", "lays", "over"]
theorem sc_form_of : FnScope N_form_of ["number"] (defScope s_form_of) := ⟨rfl, rfl, rfl, by decide +kernel, rfl, by decide +kernel, by decide +kernel⟩
def sp_form_of (C : Addr) : Sp := fun vs H Q E => ∃ x : V, vs = [x] ∧ WOk H x ∧ (∀ N, x = .int N → ∃ b : Nat, N.natAbs < 2 ^ b ∧ b ≤ 1000000 ∧ ∀ H' p ls, Same H H' → H p = none → FormAt H' p ls → wt ls = N → ls.length ≤ b → Q (.ref p) H') ∧ (isW x = false → E (.ref C) none H)
theorem ok_form_of {cN cS : Addr} (S : Src K mg "form_of" s_form_of ["number"]) (B : Bi mg) (C1 : Cal P w K mg base CX0 1 "is_whole" ["thing"] sp_is_whole) (ZN : ErrC K mg "NoNumber" cN cS) : Cal P w K mg base (L2.CX P w) 2 "form_of" ["number"] (sp_form_of cN) := by
  obtain ⟨_, _, G_is_whole, g_is_whole, k_is_whole, b_is_whole⟩ := C1
  refine S.cal fun f fd F => F.okX sc_form_of (fun vs H Q E h => ?_) (fun cdv A outer s H vs Q E hr h => ?_)
  · obtain ⟨x, rfl, _⟩ := h
    rfl
  · obtain ⟨x, rfl, hx, q1, q2⟩ := h
    refine ⟨_, (pss_cons (ps_if (pt_not (pt_val (pe_call G_is_whole (hr.mono (by decide)) rfl g_is_whole k_is_whole b_is_whole .nil pass0 (pa_cons (pv 0) pa_nil)))) (pss_one (ps_raise rfl (takes_of rfl rfl rfl rfl) (pmk_own PySem.F.excBase_ValueError ZN.x ZN.g ZN.k (raises_own ZN.b ZN.t) (by exact rfl)))) pss_nil)
      (pss_cons (ps_set (i := 1) sc_form_of.nd rfl (.inl rfl) (pe_lst pa_nil))
      (pss_cons (ps_while (passes_of rfl) (pt_cmpR op_ne (pv 0) pe_int (nomark _)) (pss_cons (ps_asg (pe_callB call_divmod (by rfl) B.divmod (by decide +kernel) (pa_cons (pe_op op_add (pv 0) pe_int) (pa_cons pe_int pa_nil))) (pg_tup rfl (pgs_cons (pg_name (i := 0) sc_form_of.nd rfl (.inl rfl)) (pgs_cons (pg_name (i := 2) sc_form_of.nd rfl (.inl rfl)) pgs_nil))))
        (pss_one (ps_expr (pe_bm PySem.F.plainAttrs_list PySem.F.slot_list_append PySem.F.type_list_append mt_append (pv 1) (pa_cons (pe_op op_sub (pv 2) pe_int) pa_nil))))))
      (pss_one (ps_ret (pv 1)))))), ?_⟩
    refine ⟨_, rfl, x, rfl, hx, _, rfl, ?_⟩
    cases e : isW x with
    | false => exact iteT (q2 e)
    | true =>
      refine iteF ?_
      obtain ⟨N, rfl⟩ : ∃ N, x = .int N := by
        cases x with
        | int N => exact ⟨N, rfl⟩
        | _ => cases e
      obtain ⟨b, hb, hb2, q⟩ := q1 N rfl
      refine ⟨Nat.zero_le _, fun p np => ?_⟩
      refine ⟨fun m σ H' => ∃ (n : Int) (v : Option V) (ls : List Int) (k : Nat), σ = [some (.int n), some (.ref p), v] ∧ Same H H' ∧ H' p = some (.lst (ls.map V.int)) ∧ Lays ls ∧ wt ls + 3 ^ ls.length * n = N ∧ (n = 0 → ls.getLast? ≠ some 0) ∧ n.natAbs < 2 ^ k ∧ ls.length + k = b ∧ m = n.natAbs,
        ⟨_, N, none, [], b, rfl, same_upd np, upd_same, lays_nil, ?_, (by simp), hb, Nat.zero_add _, rfl⟩, ?_⟩
      · show 0 + 3 ^ 0 * N = N
        rw [Int.pow_zero, Int.one_mul, Int.zero_add]
      rintro m σ H' ⟨n, v, ls, k, rfl, sm, ep, hl, e1, hlast, hk, hbk, rfl⟩
      refine ⟨_, rfl, rfl, _, rfl, ?_⟩
      by_cases h0 : n = 0
      · subst h0
        rw [decide_eq_true rfl]
        refine iteF ⟨_, rfl, q _ _ ls sm np ⟨ep, hl, hlast rfl⟩ ?_ (by omega)⟩
        rw [Int.mul_zero, Int.add_zero] at e1
        exact e1
      · rw [decide_eq_false (fun e => h0 (V.int.inj e))]
        obtain ⟨j, rfl, hj⟩ := half_pow h0 hk
        refine iteT ⟨_, fun _ _ h => h, ?_⟩
        refine ⟨_, rfl, _, _, rfl, rfl, _, _, rfl, ⟨by decide, by decide⟩, fun t nt => ?_⟩
        have st := same_upd (o := .tup [V.int ((n + 1) / 3), .int ((n + 1) % 3)]) nt
        refine ⟨t, _, rfl, SqT.of upd_same, rfl, _, _, rfl, _, _, rfl, rfl, ?_⟩
        refine ⟨_, rfl, .inl ⟨rfl, _, SqL.of (st _ _ ep)⟩, _, rfl, _, _, rfl, rfl, p, _, _, rfl, rfl, st _ _ ep, small (ints_len (by omega)), ?_⟩
        refine ⟨((n + 1) / 3).natAbs, by omega, _, _, ls ++ [(n + 1) % 3 - 1], j, rfl, same_put (sm.trans st) np, ?_, lays_more hl (by omega) (by omega), form_of_turn e1, ?_, hj, ?_, rfl⟩
        · rw [upd_same, List.map_append]; rfl
        · intro hz e2
          rw [List.getLast?_concat] at e2
          have e3 := Option.some.inj e2
          omega
        · rw [List.length_append, List.length_singleton]; omega
end
/-! ### trimmed -/
section
variable {P : Program} {w : World} {K : PySem.W.Frag} {mg : Str → Option Value} {base : Heap}
abbrev s_trimmed : Stmt := topS 10
abbrev N_trimmed : List Str := ["lays", "many"]
theorem sc_trimmed : FnScope N_trimmed ["lays"] (defScope s_trimmed) := ⟨rfl, rfl, rfl, by decide +kernel, rfl, by decide +kernel, by decide +kernel⟩
def sp_trimmed : Sp := fun vs H Q _ => ∃ (a : Addr) (ns : List Int), vs = [.ref a] ∧ H a = some (.lst (ns.map V.int)) ∧ ∀ H' p ms, Same H H' → H p = none → H' p = some (.lst (ms.map V.int)) → TrimOf ns ms → Q (.ref p) H'
theorem ok_trimmed (S : Src K mg "trimmed" s_trimmed ["lays"]) (B : Bi mg) : Cal P w K mg base CX0 1 "trimmed" ["lays"] sp_trimmed := by
  refine S.cal fun f fd F => F.ok sc_trimmed (fun vs H Q E h => ?_) (fun cdv A outer s H vs Q E hr h => ?_)
  · obtain ⟨a, ns, rfl, _⟩ := h
    rfl
  · obtain ⟨a, ns, rfl, ea, q⟩ := h
    refine ⟨_, (pss_cons (ps_set (i := 1) sc_trimmed.nd rfl (.inl rfl) (pe_callB call_len_seq (by rfl) B.len PySem.boot_len (pa_cons (pv 0) pa_nil)))
      (pss_cons (ps_while PassesOwn.never (PW.pt (pw_and (pt_cmpR op_gt (pv 1) pe_int (nomark _)) (pw_and1 (pt_cmpR op_eq (pe_ix ix_list (pv 0) (pe_op op_sub (pv 1) pe_int) (fun _ _ => rfl)) pe_int (nomark _))))) (pss_one (ps_aug (i := 1) sc_trimmed.nd rfl (.inl rfl) pe_int ip_sub)))
      (pss_one (ps_ret (pe_slice sl_list (pv 0) po_none (po_some (pv 1))))))), ?_⟩
    refine ⟨_, rfl, a, _, rfl, .inl (SqL.of ea), ?_⟩
    refine ⟨fun m σ H' => ∃ (z : Int) (k : Nat), σ = [some (.ref a), some (.int z)] ∧ z = (k : Int) ∧ H' = H ∧ k ≤ ns.length ∧ (∀ i, k ≤ i → lz ns i = 0) ∧ k = m,
      ⟨_, _, ns.length, rfl, by rw [List.length_map], rfl, Nat.le_refl _, fun i hi => lz_ge hi, rfl⟩, ?_⟩
    rintro m σ H' ⟨z, k, rfl, ez, rfl, hk, h0, rfl⟩
    have fin : (k = 0 ∨ lz ns (k - 1) ≠ 0) → ∀ p, H' p = none → Q (.ref p) (upd H' p (.lst (cutV (ns.map V.int) none (some z)))) := fun hl p np => by
      refine q _ p (ns.take k) (same_upd np) np ?_ (trim_take hk h0 hl)
      rw [upd_same, cut_ints, ez, cutI_to]
    refine ⟨_, rfl, _, _, rfl, rfl, _, rfl, ?_⟩
    cases k with
    | zero =>
      rw [decide_eq_false (by omega)]
      exact iteF (iteF ⟨_, rfl, _, rfl, _, rfl, a, _, rfl, SqL.of ea, fin (.inl rfl)⟩)
    | succ j =>
      rw [decide_eq_true (by omega)]
      refine iteT ⟨_, rfl, _, rfl, _, _, rfl, rfl, a, _, _, _, rfl, rfl, SqL.of ea, at_of (j := j) (by omega) (ints_at (lz_lt (by omega))), rfl, _, rfl, ?_⟩
      by_cases hz : lz ns j = 0
      · rw [hz, decide_eq_true rfl]
        refine iteT ⟨_, fun _ _ h => h, _, rfl, _, _, rfl, rfl, j, by omega, _, j, rfl, (by show z - 1 = (j : Int); omega), rfl, by omega, fun i hi => ?_, rfl⟩
        by_cases hij : i = j
        · rw [hij]; exact hz
        · exact h0 i (by omega)
      · rw [decide_eq_false (fun e => hz (V.int.inj e))]
        exact iteF ⟨_, rfl, _, rfl, _, rfl, a, _, rfl, SqL.of ea, fin (.inr hz)⟩
end
/-! ### lay_at, turned, parting, heavier -/
section
variable {P : Program} {w : World} {K : PySem.W.Frag} {mg : Str → Option Value} {base : Heap}
abbrev s_lay_at : Stmt := topS 14
abbrev N_lay_at : List Str := ["form", "place"]
theorem sc_lay_at : FnScope N_lay_at ["form", "place"] (defScope s_lay_at) := ⟨rfl, rfl, rfl, by decide +kernel, rfl, by decide +kernel, by decide +kernel⟩
def sp_lay_at : Sp := fun vs H Q _ => ∃ (a : Addr) (ns : List Int) (k : Nat), vs = [.ref a, .int (k : Int)] ∧ H a = some (.lst (ns.map V.int)) ∧ Q (.int (lz ns k)) H
theorem ok_lay_at (S : Src K mg "lay_at" s_lay_at ["form", "place"]) (B : Bi mg) : Cal P w K mg base CX0 1 "lay_at" ["form", "place"] sp_lay_at := by
  refine S.cal fun f fd F => F.ok sc_lay_at (fun vs H Q E h => ?_) (fun cdv A outer s H vs Q E hr h => ?_)
  · obtain ⟨a, ns, k, rfl, _⟩ := h
    rfl
  · obtain ⟨a, ns, k, rfl, ea, q⟩ := h
    refine ⟨_, (pss_cons (ps_if (pt_cmpR op_lt (pv 1) (pe_callB call_len_seq (by rfl) B.len PySem.boot_len (pa_cons (pv 0) pa_nil)) (nomark _)) (pss_one (ps_ret (pe_ix ix_list (pv 0) (pv 1) (fun _ _ => rfl)))) pss_nil)
      (pss_one (ps_ret pe_int))), ?_⟩
    refine ⟨_, rfl, _, rfl, a, _, rfl, .inl (SqL.of ea), _, _, rfl, rfl, _, rfl, ?_⟩
    by_cases hk : k < ns.length
    · rw [decide_eq_true (by rw [List.length_map]; omega)]
      exact iteT ⟨_, rfl, _, rfl, a, _, _, _, rfl, rfl, SqL.of ea, atI_nat (ints_at (lz_lt hk)), q⟩
    · rw [decide_eq_false (by rw [List.length_map]; omega)]
      rw [lz_ge (by omega)] at q
      exact iteF q
abbrev s_turned : Stmt := topS 15
abbrev N_turned : List Str := ["form", "lay"]
theorem sc_turned : FnScope N_turned ["form"] (defScope s_turned) := ⟨rfl, rfl, rfl, by decide +kernel, rfl, by decide +kernel, by decide +kernel⟩
def sp_turned (C : Addr) : Sp := fun vs H Q E => ∃ x : V, vs = [x] ∧ Asks C x H E fun _ ns => ns.length ≤ 1000000 ∧ ∀ H' p, Same H H' → H p = none → FormAt H' p (neg ns) → Q (.ref p) H'
theorem ok_turned {cF : Addr} (S : Src K mg "turned" s_turned ["form"]) (C1 : Cal P w K mg base (L2.CX P w) 3 "checked" ["thing"] (sp_checked cF)) : Cal P w K mg base (L2.CX P w) 4 "turned" ["form"] (sp_turned cF) := by
  obtain ⟨_, _, G_checked, g_checked, k_checked, b_checked⟩ := C1
  refine S.cal fun f fd F => F.okX sc_turned (fun vs H Q E h => ?_) (fun cdv A outer s H vs Q E hr h => ?_)
  · obtain ⟨x, rfl, _⟩ := h
    rfl
  · obtain ⟨x, rfl, hx, q1, q2⟩ := h
    refine ⟨_, (pss_one (ps_ret (pe_lc (own := [("lay", 1)]) (g := gName 1) rfl sc_turned.nd (pi_list (pe_call G_checked (hr.mono (by decide)) rfl g_checked k_checked b_checked .nil (passes_call (takes_of rfl rfl rfl rfl) (fun _ _ _ _ h => h)) (pa_cons (pv 0) pa_nil))) (blkOk_by (own := [("lay", 1)]) (N := N_turned) (sc := defScope s_turned) (by decide +kernel)) (fun _ _ _ _ _ => pg_name (i := 1) sc_turned.nd rfl (Or.inl rfl)) (fun _ _ _ _ _ => pts_nil) (fun _ _ _ _ _ => (pe_un un_neg (pv 1)))))), ?_⟩
    refine ⟨_, rfl, x, rfl, hx, fun ok => ?_, fun e => q2 e H (Same.refl H)⟩
    obtain ⟨a, ns, rfl, fa⟩ := isF_true ok
    obtain ⟨hl, q⟩ := q1 a ns rfl fa
    refine ⟨a, rfl, ⟨_, SqL.of fa.1⟩, fun D nD => ?_⟩
    refine lc_list (K := K) (a := a) (xs := ns.map V.int) (fun i H' => Same H H' ∧ H' D = some (.lst ((neg (ns.take i)).map V.int))) ⟨same_upd nD, upd_same⟩ (fun i H' _ h => SqL.of (h.1 _ _ fa.1)) ?_ ?_
    · rintro i y H' hi ⟨sm, eD⟩
      obtain ⟨z, hz, rfl⟩ := ints_get hi
      have hi2 : i < ns.length := (List.getElem?_eq_some_iff.mp hz).1
      refine ⟨rfl, ?_⟩
      dsimp only [tYes]
      refine iteT ?_
      refine ⟨_, rfl, _, rfl, _, eD, small (ints_len (by unfold neg; rw [List.length_map, List.length_take]; omega)), same_put sm nD, ?_⟩
      rw [upd_same, take_more hz]
      unfold neg
      rw [List.map_append, List.map_append]
      rfl
    · rintro H' ⟨sm, eD⟩
      rw [List.length_map, List.take_length] at eD
      exact q H' D sm nD ⟨eD, form_neg fa.2⟩
abbrev s_parting : Stmt := topS 16
abbrev N_parting : List Str := ["one", "other", "place"]
theorem sc_parting : FnScope N_parting ["one", "other"] (defScope s_parting) := ⟨rfl, rfl, rfl, by decide +kernel, rfl, by decide +kernel, by decide +kernel⟩
def sp_parting (C : Addr) : Sp := fun vs H Q E => ∃ x y : V, vs = [x, y] ∧ Asks C x H E fun _ ns => Asks C y H E fun _ ms => ns.length ≤ 1000000 ∧ ms.length ≤ 1000000 ∧ ∀ o, Parts ns ms o → Q (oV o) H
theorem ok_parting {cF : Addr} (S : Src K mg "parting" s_parting ["one", "other"]) (B : Bi mg) (C1 : Cal P w K mg base (L2.CX P w) 3 "checked" ["thing"] (sp_checked cF)) (C2 : Cal P w K mg base CX0 1 "lay_at" ["form", "place"] sp_lay_at) : Cal P w K mg base (L2.CX P w) 4 "parting" ["one", "other"] (sp_parting cF) := by
  obtain ⟨_, _, G_checked, g_checked, k_checked, b_checked⟩ := C1
  obtain ⟨_, _, G_lay_at, g_lay_at, k_lay_at, b_lay_at⟩ := C2
  refine S.cal fun f fd F => F.okX sc_parting (fun vs H Q E h => ?_) (fun cdv A outer s H vs Q E hr h => ?_)
  · obtain ⟨x, y, rfl, _⟩ := h
    rfl
  · obtain ⟨x, y, rfl, hx, q1, q2⟩ := h
    refine ⟨_, (pss_cons (ps_set (i := 2) sc_parting.nd rfl (.inl rfl) (pe_op op_sub (pe_callB (call_max2 rfl) (by rfl) B.max (by decide +kernel) (pa_cons (pe_callB call_len_seq (by rfl) B.len PySem.boot_len (pa_cons (pe_call G_checked (hr.mono (by decide)) rfl g_checked k_checked b_checked .nil (passes_call (takes_of rfl rfl rfl rfl) (fun _ _ _ _ h => h)) (pa_cons (pv 0) pa_nil)) pa_nil)) (pa_cons (pe_callB call_len_seq (by rfl) B.len PySem.boot_len (pa_cons (pe_call G_checked (hr.mono (by decide)) rfl g_checked k_checked b_checked .nil (passes_call (takes_of rfl rfl rfl rfl) (fun _ _ _ _ h => h)) (pa_cons (pv 1) pa_nil)) pa_nil)) pa_nil))) pe_int))
      (pss_cons (ps_while (passes_of rfl) (PW.pt (pw_and (pt_cmpR op_ge (pv 2) pe_int (nomark _)) (pw_and1 (pt_cmpR op_eq (pe_call G_lay_at (hr.mono (by decide)) rfl g_lay_at k_lay_at b_lay_at .nil pass0 (pa_cons (pv 0) (pa_cons (pv 2) pa_nil))) (pe_call G_lay_at (hr.mono (by decide)) rfl g_lay_at k_lay_at b_lay_at .nil pass0 (pa_cons (pv 1) (pa_cons (pv 2) pa_nil))) (nomark _))))) (pss_one (ps_aug (i := 2) sc_parting.nd rfl (.inl rfl) pe_int ip_sub)))
      (pss_cons (ps_if (pt_cmpR op_lt (pv 2) pe_int (nomark _)) (pss_one (ps_ret pe_non)) pss_nil)
      (pss_one (ps_ret (pv 2)))))), ?_⟩
    refine ⟨_, rfl, x, rfl, hx, fun ok => ?_, fun e => q2 e H (Same.refl H)⟩
    obtain ⟨a, ns, rfl, fa⟩ := isF_true ok
    obtain ⟨hy, r1, r2⟩ := q1 a ns rfl fa
    refine ⟨a, _, rfl, .inl (SqL.of fa.1), _, rfl, y, rfl, hy, fun ok2 => ?_, fun e => r2 e H (Same.refl H)⟩
    obtain ⟨b, ms, rfl, fb⟩ := isF_true ok2
    obtain ⟨ln, lm, q⟩ := r1 b ms rfl fb
    refine ⟨b, _, rfl, .inl (SqL.of fb.1), _, _, rfl, _, _, rfl, rfl, ?_⟩
    dsimp only
    rw [List.length_map, List.length_map]
    generalize hz : (if ((ms.length : Nat) : Int) > ((ns.length : Nat) : Int) then ((ms.length : Nat) : Int) else ((ns.length : Nat) : Int)) - 1 = z0
    have z1 : (ns.length : Int) ≤ z0 + 1 ∧ (ms.length : Int) ≤ z0 + 1 := by
      split at hz <;> omega
    refine ⟨fun m σ H' => ∃ z : Int, σ = [some (.ref a), some (.ref b), some (.int z)] ∧ H' = H ∧ (∀ i : Nat, z < i → lz ns i = lz ms i) ∧ m = (z + 1).toNat, ⟨_, z0, rfl, rfl, fun i hi => ?_, rfl⟩, ?_⟩
    · rw [lz_ge (by omega), lz_ge (by omega)]
    rintro m σ H' ⟨z, rfl, rfl, hg, rfl⟩
    refine ⟨_, rfl, _, _, rfl, rfl, _, rfl, ?_⟩
    by_cases h0 : 0 ≤ z
    · rw [decide_eq_true h0]
      obtain ⟨k, rfl⟩ : ∃ k : Nat, z = (k : Int) := ⟨z.toNat, (Int.toNat_of_nonneg h0).symm⟩
      refine iteT ⟨_, rfl, _, rfl, a, ns, k, rfl, fa.1, _, rfl, _, rfl, b, ms, k, rfl, fb.1, rfl, _, rfl, ?_⟩
      by_cases he : lz ns k = lz ms k
      · rw [he, decide_eq_true rfl]
        refine iteT ⟨_, fun _ _ h => h, _, rfl, _, _, rfl, rfl, ((k : Int) - 1 + 1).toNat, by omega, _, rfl, rfl, fun i hi => ?_, rfl⟩
        have hi' : (k : Int) - 1 < i := hi
        by_cases hk : i = k
        · rw [hk]; exact he
        · exact hg i (by omega)
      · rw [decide_eq_false (fun e => he (V.int.inj e))]
        refine iteF ⟨_, rfl, _, _, rfl, rfl, _, rfl, ?_⟩
        rw [decide_eq_false (by omega)]
        exact iteF ⟨_, rfl, q (some k) ⟨he, fun i hi => hg i (by omega)⟩⟩
    · rw [decide_eq_false h0]
      refine iteF (iteF ⟨_, rfl, _, _, rfl, rfl, _, rfl, ?_⟩)
      rw [decide_eq_true (by omega)]
      exact iteT (q none fun i => hg i (by omega))
abbrev s_heavier : Stmt := topS 17
abbrev N_heavier : List Str := ["one", "other", "place"]
theorem sc_heavier : FnScope N_heavier ["one", "other"] (defScope s_heavier) := ⟨rfl, rfl, rfl, by decide +kernel, rfl, by decide +kernel, by decide +kernel⟩
def sp_heavier (C : Addr) : Sp := fun vs H Q E => ∃ x y : V, vs = [x, y] ∧ Asks C x H E fun _ ns => Asks C y H E fun _ ms => ns.length ≤ 1000000 ∧ ms.length ≤ 1000000 ∧ Q (.bl (decide (wt ms < wt ns))) H
theorem ok_heavier {cF : Addr} (S : Src K mg "heavier" s_heavier ["one", "other"]) (C1 : Cal P w K mg base (L2.CX P w) 4 "parting" ["one", "other"] (sp_parting cF)) (C2 : Cal P w K mg base CX0 1 "lay_at" ["form", "place"] sp_lay_at) : Cal P w K mg base (L2.CX P w) 5 "heavier" ["one", "other"] (sp_heavier cF) := by
  obtain ⟨_, _, G_parting, g_parting, k_parting, b_parting⟩ := C1
  obtain ⟨_, _, G_lay_at, g_lay_at, k_lay_at, b_lay_at⟩ := C2
  refine S.cal fun f fd F => F.okX sc_heavier (fun vs H Q E h => ?_) (fun cdv A outer s H vs Q E hr h => ?_)
  · obtain ⟨x, y, rfl, _⟩ := h
    rfl
  · obtain ⟨x, y, rfl, hx, q1, q2⟩ := h
    refine ⟨_, (pss_cons (ps_set (i := 2) sc_heavier.nd rfl (.inl rfl) (pe_call G_parting (hr.mono (by decide)) rfl g_parting k_parting b_parting .nil (passes_call (takes_of rfl rfl rfl rfl) (fun _ _ _ _ h => h)) (pa_cons (pv 0) (pa_cons (pv 1) pa_nil))))
      (pss_one (ps_ret (pe_and (pe_cmpR op_notN (pv 2) pe_non (nomark _)) (pe_one (pe_cmpR op_gt (pe_call G_lay_at (hr.mono (by decide)) rfl g_lay_at k_lay_at b_lay_at .nil pass0 (pa_cons (pv 0) (pa_cons (pv 2) pa_nil))) (pe_call G_lay_at (hr.mono (by decide)) rfl g_lay_at k_lay_at b_lay_at .nil pass0 (pa_cons (pv 1) (pa_cons (pv 2) pa_nil))) (nomark _))))))), ?_⟩
    refine ⟨_, rfl, _, rfl, x, y, rfl, hx, fun a ns e fa => ?_, q2⟩
    obtain ⟨hy, r1, r2⟩ := q1 a ns e fa
    refine ⟨hy, fun b ms e2 fb => ?_, r2⟩
    obtain ⟨ln, lm, q⟩ := r1 b ms e2 fb
    refine ⟨ln, lm, fun o ho => ?_⟩
    rw [parts_wt fa.2.1 fb.2.1 ho] at q
    subst e e2
    cases o with
    | none => exact ⟨_, rfl, rfl, _, rfl, iteF q⟩
    | some p => exact ⟨_, rfl, rfl, _, rfl, iteT ⟨_, rfl, _, rfl, a, ns, p, rfl, fa.1, _, rfl, _, rfl, b, ms, p, rfl, fb.1, _, _, rfl, rfl, q⟩⟩
end
/-! ### walked, added, carries -/
section
variable {P : Program} {w : World} {K : PySem.W.Frag} {mg : Str → Option Value} {base : Heap}
abbrev s_walked : Stmt := topS 19
abbrev N_walked : List Str := ["one", "other", "lays", "out", "carry", "place", "come", "over"]
theorem sc_walked : FnScope N_walked ["one", "other"] (defScope s_walked) := ⟨rfl, rfl, rfl, by decide +kernel, rfl, by decide +kernel, by decide +kernel⟩
def sp_walked : Sp := fun vs H Q _ => ∃ (a b : Addr) (ns ms : List Int), vs = [.ref a, .ref b] ∧ H a = some (.lst (ns.map V.int)) ∧ H b = some (.lst (ms.map V.int)) ∧ Lays ns ∧ Lays ms ∧ ns.length ≤ 1000000 ∧ ms.length ≤ 1000000 ∧
  ∀ H' t p q ls os, Same H H' → H t = none → H p = none → H q = none → p ≠ q → H' t = some (.tup [.ref p, .ref q]) → FormAt H' p ls → H' q = some (.lst (os.map V.int)) → SumOf ns ms ls os → Q (.ref t) H'
theorem ok_walked (S : Src K mg "walked" s_walked ["one", "other"]) (B : Bi mg) (C1 : Cal P w K mg base CX0 1 "lay_at" ["form", "place"] sp_lay_at) (C2 : Cal P w K mg base CX0 1 "trimmed" ["lays"] sp_trimmed) : Cal P w K mg base CX0 2 "walked" ["one", "other"] sp_walked := by
  obtain ⟨_, _, G_lay_at, g_lay_at, k_lay_at, b_lay_at⟩ := C1
  obtain ⟨_, _, G_trimmed, g_trimmed, k_trimmed, b_trimmed⟩ := C2
  refine S.cal fun f fd F => F.ok sc_walked (fun vs H Q E h => ?_) (fun cdv A outer s H vs Q E hr h => ?_)
  · obtain ⟨a, b, ns, ms, rfl, _⟩ := h
    rfl
  · obtain ⟨a, b, ns, ms, rfl, ea, eb, ha, hb, l1, l2, q⟩ := h
    have e1 : (ns.map V.int).length = ns.length := List.length_map ..
    have e2 : (ms.map V.int).length = ms.length := List.length_map ..
    refine ⟨_, (pss_cons (ps_set (i := 2) sc_walked.nd rfl (.inl rfl) (pe_lst pa_nil))
      (pss_cons (ps_set (i := 3) sc_walked.nd rfl (.inl rfl) (pe_lst pa_nil))
      (pss_cons (ps_set (i := 4) sc_walked.nd rfl (.inl rfl) pe_int)
      (pss_cons (ps_for PassesOwn.never rfl (pi_range1 (by rfl) B.range (pa_cons (pe_callB (call_max2 rfl) (by rfl) B.max (by decide +kernel) (pa_cons (pe_callB call_len_seq (by rfl) B.len PySem.boot_len (pa_cons (pv 0) pa_nil)) (pa_cons (pe_callB call_len_seq (by rfl) B.len PySem.boot_len (pa_cons (pv 1) pa_nil)) pa_nil))) pa_nil)) (pg_name (i := 5) sc_walked.nd rfl (.inl rfl))
        (pss_cons (ps_set (i := 6) sc_walked.nd rfl (.inl rfl) (pe_op op_add (pe_op op_add (pe_call G_lay_at (hr.mono (by decide)) rfl g_lay_at k_lay_at b_lay_at .nil pass0 (pa_cons (pv 0) (pa_cons (pv 5) pa_nil))) (pe_call G_lay_at (hr.mono (by decide)) rfl g_lay_at k_lay_at b_lay_at .nil pass0 (pa_cons (pv 1) (pa_cons (pv 5) pa_nil)))) (pv 4)))
        (pss_cons (ps_asg (pe_callB call_divmod (by rfl) B.divmod (by decide +kernel) (pa_cons (pe_op op_add (pv 6) pe_int) (pa_cons pe_int pa_nil))) (pg_tup rfl (pgs_cons (pg_name (i := 4) sc_walked.nd rfl (.inl rfl)) (pgs_cons (pg_name (i := 7) sc_walked.nd rfl (.inl rfl)) pgs_nil))))
        (pss_cons (ps_expr (pe_bm PySem.F.plainAttrs_list PySem.F.slot_list_append PySem.F.type_list_append mt_append (pv 2) (pa_cons (pe_op op_sub (pv 7) pe_int) pa_nil)))
        (pss_one (ps_expr (pe_bm PySem.F.plainAttrs_list PySem.F.slot_list_append PySem.F.type_list_append mt_append (pv 3) (pa_cons (pv 4) pa_nil))))))))
      (pss_cons (ps_expr (pe_bm PySem.F.plainAttrs_list PySem.F.slot_list_append PySem.F.type_list_append mt_append (pv 2) (pa_cons (pv 4) pa_nil)))
      (pss_one (ps_ret (pe_tup (pa_cons (pe_call G_trimmed (hr.mono (by decide)) rfl g_trimmed k_trimmed b_trimmed .nil pass0 (pa_cons (pv 2) pa_nil)) (pa_cons (pv 3) pa_nil)))))))))), ?_⟩
    refine ⟨Nat.zero_le _, fun p np => ⟨Nat.zero_le _, fun r nr => ?_⟩⟩
    have npr : r ≠ p := fun e => by
      rw [e, upd_same] at nr
      cases nr
    have nr0 : H r = none := (same_upd np).free nr
    have s2 : Same H (upd (upd H p (.lst [])) r (.lst [])) := (same_upd np).trans (same_upd nr)
    refine ⟨_, rfl, a, _, rfl, .inl (SqL.of (s2 _ _ ea)), _, rfl, b, _, rfl, .inl (SqL.of (s2 _ _ eb)), _, _, rfl, ?_⟩
    dsimp only
    rw [e1, e2]
    obtain ⟨n, hn, hm⟩ : ∃ n : Nat, (if ((ms.length : Nat) : Int) > ((ns.length : Nat) : Int) then ((ms.length : Nat) : Int) else ((ns.length : Nat) : Int)) = (n : Int) ∧ n = max ns.length ms.length := by
      split
      · exact ⟨_, rfl, by omega⟩
      · exact ⟨_, rfl, by omega⟩
    rw [hn]
    refine ⟨_, rfl, by omega, by omega, ?_⟩
    rw [Int.toNat_natCast]
    refine for_range (lo := 0) (n := n) (D := ⟨_, _, fun _ _ => False, fun _ _ => False⟩) (fun i σ H' => ∃ (ls os : List Int) (c : Int) (k u v : Option V), σ = [some (.ref a), some (.ref b), some (.ref p), some (.ref r), some (.int c), k, u, v] ∧ Same H H' ∧ H' p = some (.lst (ls.map V.int)) ∧ H' r = some (.lst (os.map V.int)) ∧ SumTo ns ms i ls os c)
      ⟨[], [], 0, none, none, none, rfl, s2, by rw [upd_ne npr.symm, upd_same]; rfl, upd_same, .zero⟩ ?_ ?_
    · rintro i σ H' hi ⟨ls, os, c, k, u, v, rfl, sm, ep, er, st⟩
      have i1 : i ≤ 1000000 := by omega
      refine ⟨_, rfl, _, rfl, a, ns, i, (by rw [Int.zero_add]; rfl), sm _ _ ea, _, rfl, _, rfl, b, ms, i, (by rw [Int.zero_add]; rfl), sm _ _ eb, _, _, rfl, rfl, _, rfl, _, _, rfl, rfl, ?_⟩
      refine ⟨_, rfl, _, _, rfl, rfl, _, _, rfl, ⟨by decide, by decide⟩, fun t nt => ?_⟩
      have k1 := same_upd (o := .tup [V.int ((lz ns i + lz ms i + c + 1) / 3), .int ((lz ns i + lz ms i + c + 1) % 3)]) nt
      refine ⟨t, _, rfl, SqT.of upd_same, rfl, _, _, rfl, _, _, rfl, rfl, ?_⟩
      refine ⟨_, rfl, .inl ⟨rfl, _, SqL.of (k1 _ _ ep)⟩, _, rfl, _, _, rfl, rfl, p, _, _, rfl, rfl, k1 _ _ ep, small (ints_len (by have := st.l1; omega)), ?_⟩
      have er2 : upd (upd H' t (.tup [V.int ((lz ns i + lz ms i + c + 1) / 3), .int ((lz ns i + lz ms i + c + 1) % 3)])) p (.lst (ls.map V.int ++ [V.int ((lz ns i + lz ms i + c + 1) % 3 - 1)])) r = some (.lst (os.map V.int)) := by
        rw [upd_ne npr]; exact k1 _ _ er
      refine ⟨_, rfl, .inl ⟨rfl, _, SqL.of er2⟩, _, rfl, r, _, _, rfl, rfl, er2, small (ints_len (by have := st.l2; omega)), ?_⟩
      refine ⟨_, _, _, _, _, _, rfl, same_put (same_put (sm.trans k1) np) nr0, ?_, ?_, st.turn ha hb⟩
      · rw [upd_ne npr.symm, upd_same, List.map_append]; rfl
      · rw [upd_same, List.map_append]; rfl
    · rintro σ H' ⟨ls, os, c, k, u, v, rfl, sm, ep, er, st⟩
      refine ⟨_, rfl, .inl ⟨rfl, _, SqL.of ep⟩, _, rfl, p, _, _, rfl, rfl, ep, small (ints_len (by have := st.l1; omega)), ?_⟩
      have s3 := same_put (o := .lst (ls.map V.int ++ [V.int c])) sm np
      refine ⟨_, rfl, p, ls ++ [c], rfl, by rw [upd_same, List.map_append]; rfl, fun H9 p9 m9 s9 n9 e9 t9 => ⟨_, rfl, small' (by simp), fun t nt => ?_⟩⟩
      obtain ⟨f9, so⟩ := st.done hm t9
      have s10 := same_upd (o := .tup [V.ref p9, .ref r]) nt
      have er9 : H9 r = some (.lst (os.map V.int)) := s9 _ _ (by rw [upd_ne npr]; exact er)
      have n0 := s3.free n9
      refine q _ t p9 r m9 os (s3.trans (s9.trans s10)) ((s3.trans s9).free nt) n0 nr0 (fun e => ?_) upd_same ⟨s10 _ _ e9, f9⟩ (s10 _ _ er9) so
      rw [e, upd_ne npr, er] at n9
      cases n9
abbrev s_added : Stmt := topS 20
abbrev N_added : List Str := ["one", "other"]
theorem sc_added : FnScope N_added ["one", "other"] (defScope s_added) := ⟨rfl, rfl, rfl, by decide +kernel, rfl, by decide +kernel, by decide +kernel⟩
def sp_added (C : Addr) : Sp := fun vs H Q E => ∃ x y : V, vs = [x, y] ∧ Asks C x H E fun _ ns => Asks C y H E fun _ ms => ns.length ≤ 1000000 ∧ ms.length ≤ 1000000 ∧ ∀ H' p ls os, Same H H' → H p = none → FormAt H' p ls → SumOf ns ms ls os → Q (.ref p) H'
theorem ok_added {cF : Addr} (S : Src K mg "added" s_added ["one", "other"]) (C1 : Cal P w K mg base (L2.CX P w) 3 "checked" ["thing"] (sp_checked cF)) (C2 : Cal P w K mg base CX0 2 "walked" ["one", "other"] sp_walked) : Cal P w K mg base (L2.CX P w) 4 "added" ["one", "other"] (sp_added cF) := by
  obtain ⟨_, _, G_checked, g_checked, k_checked, b_checked⟩ := C1
  obtain ⟨_, _, G_walked, g_walked, k_walked, b_walked⟩ := C2
  refine S.cal fun f fd F => F.okX sc_added (fun vs H Q E h => ?_) (fun cdv A outer s H vs Q E hr h => ?_)
  · obtain ⟨x, y, rfl, _⟩ := h
    rfl
  · obtain ⟨x, y, rfl, hx, q1, q2⟩ := h
    refine ⟨_, (pss_one (ps_ret (pe_ix ix_tup (pe_call G_walked (hr.mono (by decide)) rfl g_walked k_walked b_walked .nil pass0 (pa_cons (pe_call G_checked (hr.mono (by decide)) rfl g_checked k_checked b_checked .nil (passes_call (takes_of rfl rfl rfl rfl) (fun _ _ _ _ h => h)) (pa_cons (pv 0) pa_nil)) (pa_cons (pe_call G_checked (hr.mono (by decide)) rfl g_checked k_checked b_checked .nil (passes_call (takes_of rfl rfl rfl rfl) (fun _ _ _ _ h => h)) (pa_cons (pv 1) pa_nil)) pa_nil))) pe_int (fun _ _ => rfl)))), ?_⟩
    refine ⟨_, rfl, x, rfl, hx, fun ok => ?_, fun e => q2 e H (Same.refl H)⟩
    obtain ⟨a, ns, rfl, fa⟩ := isF_true ok
    obtain ⟨hy, r1, r2⟩ := q1 a ns rfl fa
    refine ⟨_, rfl, y, rfl, hy, fun ok2 => ?_, fun e => r2 e H (Same.refl H)⟩
    obtain ⟨b, ms, rfl, fb⟩ := isF_true ok2
    obtain ⟨ln, lm, q⟩ := r1 b ms rfl fb
    refine ⟨a, b, ns, ms, rfl, fa.1, fb.1, fa.2.1, fb.2.1, ln, lm, fun H' t p r ls os sm nt np nr npr et fp er so => ?_⟩
    exact ⟨t, _, _, _, rfl, rfl, SqT.of et, (rfl : atI [V.ref p, V.ref r] 0 = some (V.ref p)), q H' p ls os sm np fp so⟩
end
/-! ### halved, parted -/
section
variable {P : Program} {w : World} {K : PySem.W.Frag} {mg : Str → Option Value} {base : Heap}
abbrev s_halved : Stmt := topS 22
abbrev N_halved : List Str := ["form", "lay", "rest", "even", "lays", "below", "carry", "over"]
theorem sc_halved : FnScope N_halved ["form"] (defScope s_halved) := ⟨rfl, rfl, rfl, by decide +kernel, rfl, by decide +kernel, by decide +kernel⟩
def sp_halved (C : Addr) : Sp := fun vs H Q E => ∃ x : V, vs = [x] ∧ Asks C x H E fun _ ns => ns.length ≤ 100000 ∧
  ∀ H' t p ls, Same H H' → H t = none → H p = none → H' t = some (.tup [.ref p, .int (odd ns)]) → FormAt H' p ls → 2 * wt ls + odd ns = wt ns → ls.length ≤ ns.length + 2 → Q (.ref t) H'
theorem rep_neg1 {r : Int} (h : r = 0 ∨ r = 1) : ∃ ms : List Int, (List.replicate r.toNat [V.int (-1)]).flatten = ms.map V.int ∧ Form ms ∧ wt ms = -r ∧ ms.length ≤ 1 := by
  rcases h with rfl | rfl
  · exact ⟨[], rfl, ⟨lays_nil, by simp⟩, rfl, by simp⟩
  · refine ⟨[-1], rfl, ⟨fun x hx => ?_, by simp⟩, rfl, by simp⟩
    rw [List.mem_singleton.mp hx]; decide
theorem ok_halved {cF : Addr} (S : Src K mg "halved" s_halved ["form"]) (B : Bi mg) (C1 : Cal P w K mg base (L2.CX P w) 3 "checked" ["thing"] (sp_checked cF)) (C2 : Cal P w K mg base (L2.CX P w) 4 "added" ["one", "other"] (sp_added cF)) (C3 : Cal P w K mg base CX0 1 "trimmed" ["lays"] sp_trimmed) :
    Cal P w K mg base (L2.CX P w) 5 "halved" ["form"] (sp_halved cF) := by
  obtain ⟨_, _, G_checked, g_checked, k_checked, b_checked⟩ := C1
  obtain ⟨_, _, G_added, g_added, k_added, b_added⟩ := C2
  obtain ⟨_, _, G_trimmed, g_trimmed, k_trimmed, b_trimmed⟩ := C3
  refine S.cal fun f fd F => F.okX sc_halved (fun vs H Q E h => ?_) (fun cdv A outer s H vs Q E hr h => ?_)
  · obtain ⟨x, rfl, _⟩ := h
    rfl
  · obtain ⟨x, rfl, hx, q1, q2⟩ := h
    refine ⟨_, (pss_cons (ps_set (i := 2) sc_halved.nd rfl (.inl rfl) (pe_op op_mod (pe_callB call_len_seq (by rfl) B.len PySem.boot_len (pa_cons (pe_lc (own := [("lay", 1)]) (g := gName 1) rfl sc_halved.nd (pi_list (pe_call G_checked (hr.mono (by decide)) rfl g_checked k_checked b_checked .nil (passes_call (takes_of rfl rfl rfl rfl) (fun _ _ _ _ h => h)) (pa_cons (pv 0) pa_nil))) (blkOk_by (own := [("lay", 1)]) (N := N_halved) (sc := defScope s_halved) (by decide +kernel)) (fun _ _ _ _ _ => pg_name (i := 1) sc_halved.nd rfl (Or.inl rfl)) (fun _ _ _ _ _ => pts_one (pt_cmpR op_ne (pv 1) pe_int (nomark _))) (fun _ _ _ _ _ => (pv 1))) pa_nil)) pe_int))
      (pss_cons (ps_set (i := 3) sc_halved.nd rfl (.inl rfl) (pe_call G_added (hr.mono (by decide)) rfl g_added k_added b_added .nil (passes_call (takes_of rfl rfl rfl rfl) (fun _ _ _ _ h => h)) (pa_cons (pv 0) (pa_cons (pe_op op_rep (pe_lst (pa_cons (pe_un un_neg pe_int) pa_nil)) (pv 2)) pa_nil))))
      (pss_cons (ps_set (i := 4) sc_halved.nd rfl (.inl rfl) (pe_lst pa_nil))
      (pss_cons (ps_set (i := 5) sc_halved.nd rfl (.inl rfl) pe_int)
      (pss_cons (ps_set (i := 6) sc_halved.nd rfl (.inl rfl) pe_int)
      (pss_cons (ps_for (passes_of rfl) rfl (pi_list (pv 3)) (pg_name (i := 1) sc_halved.nd rfl (.inl rfl))
        (pss_cons (ps_asg (pe_callB call_divmod (by rfl) B.divmod (by decide +kernel) (pa_cons (pe_op op_add (pe_op op_add (pe_op op_sub (pv 5) (pv 1)) (pv 6)) pe_int) (pa_cons pe_int pa_nil))) (pg_tup rfl (pgs_cons (pg_name (i := 6) sc_halved.nd rfl (.inl rfl)) (pgs_cons (pg_name (i := 7) sc_halved.nd rfl (.inl rfl)) pgs_nil))))
        (pss_cons (ps_set (i := 5) sc_halved.nd rfl (.inl rfl) (pe_op op_sub (pv 7) pe_int))
        (pss_one (ps_expr (pe_bm PySem.F.plainAttrs_list PySem.F.slot_list_append PySem.F.type_list_append mt_append (pv 4) (pa_cons (pv 5) pa_nil)))))))
      (pss_one (ps_ret (pe_tup (pa_cons (pe_call G_trimmed (hr.mono (by decide)) rfl g_trimmed k_trimmed b_trimmed .nil pass0 (pa_cons (pv 4) pa_nil)) (pa_cons (pv 2) pa_nil))))))))))), ?_⟩
    refine ⟨_, rfl, x, rfl, hx, fun ok => ?_, fun e => q2 e H (Same.refl H)⟩
    obtain ⟨a, ns, rfl, fa⟩ := isF_true ok
    obtain ⟨ln, q⟩ := q1 a ns rfl fa
    refine ⟨a, rfl, ⟨_, SqL.of fa.1⟩, fun D nD => ?_⟩
    refine lc_list (K := K) (a := a) (xs := ns.map V.int) (fun i H' => Same H H' ∧ H' D = some (.lst ((nz (ns.take i)).map V.int))) ⟨same_upd nD, upd_same⟩ (fun i H' _ h => SqL.of (h.1 _ _ fa.1)) ?_ ?_
    · rintro i y H1 hi ⟨sm, eD⟩
      obtain ⟨z, hz, rfl⟩ := ints_get hi
      have hi2 : i < ns.length := (List.getElem?_eq_some_iff.mp hz).1
      have hm := nz_more hz
      refine ⟨rfl, ?_⟩
      refine ⟨_, rfl, rfl, _, rfl, ?_⟩
      by_cases h0 : z = 0
      · rw [if_pos h0] at hm
        rw [decide_eq_true (congrArg V.int h0)]
        refine iteF ⟨sm, ?_⟩
        rw [hm]; exact eD
      · rw [if_neg h0] at hm
        rw [decide_eq_false (fun e => h0 (V.int.inj e))]
        refine iteT ⟨_, rfl, _, eD, small (ints_len (by have := nz_len (ns.take i); rw [List.length_take] at this; omega)), same_put sm nD, ?_⟩
        rw [upd_same, hm, List.map_append]; rfl
    rintro H1 ⟨s1, eD⟩
    rw [List.length_map, List.take_length] at eD
    have e0 : ((nz ns).map V.int).length = (nz ns).length := List.length_map ..
    refine ⟨D, _, rfl, .inl (SqL.of eD), _, _, rfl, rfl, (by show (0 : Int) < _; decide), ?_⟩
    dsimp only
    rw [e0]
    have ho : ((nz ns).length : Int) % 2 = odd ns := rfl
    rw [ho]
    obtain ⟨ms, em, fm, wm, lm⟩ := rep_neg1 (odd_two ns)
    -- even
    refine ⟨_, rfl, _, rfl, small' (by simp), fun t nt => ?_⟩
    have st := same_upd (o := .lst [V.int (-1)]) nt
    have rng : 0 ≤ odd ns ∧ odd ns ≤ 1 := by
      have := odd_two ns
      omega
    refine ⟨_, rfl, t, _, _, rfl, rfl, upd_same, (by omega), (by omega), small' (by simp only [List.length_singleton]; omega), fun u nu => ?_⟩
    rw [em]
    have k3 := s1.trans (st.trans (same_upd (o := .lst (ms.map V.int)) nu))
    refine ⟨.ref a, .ref u, rfl, .of (show FormAt _ a ns from ⟨k3 _ _ fa.1, fa.2⟩) (.of (show FormAt _ u ms from ⟨upd_same, fm⟩) ⟨by omega, by omega, fun H4 p4 ev os s4 n4 f4 so => ?_⟩)⟩
    have k4 := k3.trans s4
    have wev : wt ev = wt ns - odd ns := by
      rw [so.1, wm]; omega
    have evn : wt ev % 2 = 0 := by
      have := wt_odd fa.2.1
      rw [wev]
      omega
    have lev : ev.length ≤ ns.length + 2 := by
      have h1 := so.2.1
      have h2 := so.2.2.1
      omega
    refine ⟨Nat.zero_le _, fun p np => ?_⟩
    have k5 := k4.trans (same_upd (o := .lst []) np)
    have np0 : H p = none := k4.free np
    have e5 := (same_upd (o := .lst []) np) _ _ f4.1
    refine ⟨_, rfl, p4, rfl, ⟨_, SqL.of e5⟩, for_list (K := K) (a := p4) (xs := ev.map V.int) (D := ⟨_, _, fun _ _ => False, fun _ _ => False⟩) (fun i σ H' => ∃ (ls : List Int) (b c : Int) (k v : Option V), σ = [some (.ref a), k, some (.int (odd ns)), some (.ref p4), some (.ref p), some (.int b), some (.int c), v] ∧ Same H H' ∧ H' p4 = some (.lst (ev.map V.int)) ∧ H' p = some (.lst (ls.map V.int)) ∧ p ≠ p4 ∧ HalfTo ev i ls b c)
      ⟨[], 0, 0, none, none, rfl, k5, e5, upd_same, fun e => ?_, .zero⟩ (fun i σ H' _ ⟨_, _, _, _, _, _, _, h, _⟩ => SqL.of h) ?_ ?_⟩
    · rw [e, f4.1] at np
      cases np
    · rintro i y σ H' hi ⟨ls, b, c, k, v, rfl, sm, e4, ep, npp, st⟩
      obtain ⟨z, hz, rfl⟩ := ints_get hi
      have hi2 : i < ev.length := (List.getElem?_eq_some_iff.mp hz).1
      have hzl := f4.2.1 z (List.mem_of_getElem? hz)
      have l1 := st.l1
      refine ⟨_, rfl, _, rfl, _, _, rfl, rfl, _, rfl, _, _, rfl, rfl, _, _, rfl, rfl, _, _, rfl, ⟨by decide, by decide⟩, fun t nt => ?_⟩
      have k1 := same_upd (o := .tup [V.int ((b - z + c + 1) / 3), .int ((b - z + c + 1) % 3)]) nt
      refine ⟨t, _, rfl, SqT.of upd_same, rfl, _, _, rfl, _, _, rfl, rfl, ?_⟩
      refine ⟨_, rfl, _, _, rfl, rfl, ?_⟩
      refine ⟨_, rfl, .inl ⟨rfl, _, SqL.of (k1 _ _ ep)⟩, _, rfl, p, _, _, rfl, rfl, k1 _ _ ep, small (ints_len (by omega)), ?_⟩
      refine ⟨_, _, _, _, _, rfl, same_put (sm.trans k1) np0, ?_, ?_, npp, st.turn hz hzl⟩
      · rw [upd_ne npp.symm]; exact k1 _ _ e4
      · rw [upd_same, List.map_append]; rfl
    · rintro σ H' ⟨ls, b, c, k, v, rfl, sm, e4, ep, npp, st⟩
      rw [List.length_map] at st
      have hw := st.done evn
      refine ⟨_, rfl, p, ls, rfl, ep, fun H9 p9 m9 s9 n9 e9 t9 => ⟨_, rfl, small' (by simp), fun t nt => ?_⟩⟩
      have s10 := same_upd (o := .tup [V.ref p9, .int (odd ns)]) nt
      refine q _ t p9 m9 (sm.trans (s9.trans s10)) ((sm.trans s9).free nt) (sm.free n9) upd_same ⟨s10 _ _ e9, t9.form st.y1⟩ ?_ ?_
      · rw [t9.wt]; omega
      · have := t9.2.1
        have := st.l1
        omega
abbrev s_parted : Stmt := topS 23
abbrev N_parted : List Str := ["form", "places"]
theorem sc_parted : FnScope N_parted ["form", "places"] (defScope s_parted) := ⟨rfl, rfl, rfl, by decide +kernel, rfl, by decide +kernel, by decide +kernel⟩
def sp_parted (C D : Addr) : Sp := fun vs H Q E => ∃ x y : V, vs = [x, y] ∧ WOk H y ∧ Asks C x H E fun _ ns => ns.length ≤ 100000 ∧
  (∀ k : Nat, y = .int (k : Int) → ∀ H' t p q ms, Same H H' → H t = none → H p = none → H q = none → p ≠ q → H' t = some (.tup [.ref p, .ref q]) → FormAt H' p (ns.drop k) → FormAt H' q ms → TrimOf (ns.take k) ms → Q (.ref t) H') ∧
  (isPl y = false → ∀ H', Same H H' → E (.ref D) none H')
theorem ok_parted {cF cP cS : Addr} (S : SrcD K mg "parted" s_parted ["form", "places"] [.int 1]) (ZP : ErrC K mg "NoPlace" cP cS) (C1 : Cal P w K mg base (L2.CX P w) 3 "checked" ["thing"] (sp_checked cF)) (C2 : Cal P w K mg base CX0 1 "trimmed" ["lays"] sp_trimmed)
    (C3 : Cal P w K mg base CX0 1 "is_whole" ["thing"] sp_is_whole) : CalD P w K mg base (L2.CX P w) 4 "parted" ["form", "places"] (sp_parted cF cP) [.int 1] := by
  obtain ⟨_, _, G_checked, g_checked, k_checked, b_checked⟩ := C1
  obtain ⟨_, _, G_trimmed, g_trimmed, k_trimmed, b_trimmed⟩ := C2
  obtain ⟨_, _, G_is_whole, g_is_whole, k_is_whole, b_is_whole⟩ := C3
  refine S.cal fun f fd F => F.ok (CX := L2.CX P w) sc_parted (fun vs H Q E h => ?_) (fun cdv A outer s H vs Q E hr h => ?_)
  · obtain ⟨x, y, rfl, _⟩ := h
    rfl
  · obtain ⟨x, y, rfl, hy, hx, q1, q2⟩ := h
    refine ⟨_, (pss_cons (ps_expr (pe_call G_checked (hr.mono (by decide)) rfl g_checked k_checked b_checked .nil (passes_call (takes_of rfl rfl rfl rfl) (fun _ _ _ _ h => h)) (pa_cons (pv 0) pa_nil)))
      (pss_cons (ps_if (PW.pt (pw_or (pt_not (pt_val (pe_call G_is_whole (hr.mono (by decide)) rfl g_is_whole k_is_whole b_is_whole .nil pass0 (pa_cons (pv 1) pa_nil)))) (pw_or1 (pt_cmpR op_lt (pv 1) pe_int (nomark _))))) (pss_one (ps_raise rfl (takes_of rfl rfl rfl rfl) (pmk_own PySem.F.excBase_ValueError ZP.x ZP.g ZP.k (raises_own ZP.b ZP.t) (by exact rfl)))) pss_nil)
      (pss_one (ps_ret (pe_tup (pa_cons (pe_slice sl_list (pv 0) (po_some (pv 1)) po_none) (pa_cons (pe_call G_trimmed (hr.mono (by decide)) rfl g_trimmed k_trimmed b_trimmed .nil pass0 (pa_cons (pe_slice sl_list (pv 0) po_none (po_some (pv 1))) pa_nil)) pa_nil))))))), ?_⟩
    refine ⟨_, rfl, x, rfl, hx, fun ok => ?_, fun e => q2 e H (Same.refl H)⟩
    obtain ⟨a, ns, rfl, fa⟩ := isF_true ok
    obtain ⟨ln, q, r⟩ := q1 a ns rfl fa
    refine ⟨_, rfl, y, rfl, hy, _, rfl, ?_⟩
    cases y with
    | int i =>
      refine iteF ⟨_, rfl, _, _, rfl, rfl, _, rfl, ?_⟩
      by_cases h0 : i < 0
      · rw [decide_eq_true h0]
        exact iteT (r (decide_eq_false (by omega)) H (Same.refl H))
      · rw [decide_eq_false h0]
        obtain ⟨k, rfl⟩ : ∃ k : Nat, i = (k : Int) := ⟨i.toNat, (Int.toNat_of_nonneg (by omega)).symm⟩
        refine iteF ⟨_, rfl, _, rfl, _, rfl, a, _, rfl, SqL.of fa.1, fun p np => ?_⟩
        have e1 : cutV (ns.map V.int) (some (k : Int)) none = (ns.drop k).map V.int := by rw [cut_ints, cutI_from]
        have e2 : cutV (ns.map V.int) none (some (k : Int)) = (ns.take k).map V.int := by rw [cut_ints, cutI_to]
        rw [e1]
        have s1 := same_upd (o := .lst ((ns.drop k).map V.int)) np
        refine ⟨_, rfl, _, rfl, _, rfl, a, _, rfl, SqL.of (s1 _ _ fa.1), fun u nu => ?_⟩
        rw [e2]
        have s2 := same_upd (o := .lst ((ns.take k).map V.int)) nu
        refine ⟨u, ns.take k, rfl, upd_same, fun H9 p9 m9 s9 n9 e9 t9 => ⟨small' (by simp), fun t nt => ?_⟩⟩
        have s10 := same_upd (o := .tup [V.ref p, .ref p9]) nt
        have s29 := s2.trans s9
        have ep := s29 _ _ (upd_same (H := H) (a := p) (o := .lst ((ns.drop k).map V.int)))
        refine q k rfl _ t p p9 m9 (s1.trans (s29.trans s10)) ((s1.trans s29).free nt) np (s1.free (s2.free n9)) (fun e => ?_) upd_same ⟨s10 _ _ ep, form_drop fa.2 k⟩ ⟨s10 _ _ e9, t9.form (lays_sub fa.2.1 fun x hx => List.mem_of_mem_take hx)⟩ t9
        have n9' := s2.free n9
        rw [← e, upd_same] at n9'
        cases n9'
    | _ => exact iteT (iteT (r rfl H (Same.refl H)))
end
/-! ### shifted, rows, multiplied -/
section
variable {P : Program} {w : World} {K : PySem.W.Frag} {mg : Str → Option Value} {base : Heap}
theorem rep_ints1 (k : Nat) : (List.replicate ((k : Int)).toNat [V.int 0]).flatten = (List.replicate k (0 : Int)).map V.int := by
  rw [Int.toNat_natCast]
  induction k with
  | zero => rfl
  | succ n ih => rw [List.replicate_succ, List.flatten_cons, ih, List.replicate_succ, List.map_cons]; rfl
abbrev s_shifted : Stmt := topS 25
abbrev N_shifted : List Str := ["form", "place", "lay", "one"]
theorem sc_shifted : FnScope N_shifted ["form", "place", "lay"] (defScope s_shifted) := ⟨rfl, rfl, rfl, by decide +kernel, rfl, by decide +kernel, by decide +kernel⟩
def sp_shifted : Sp := fun vs H Q _ => ∃ (a : Addr) (ns : List Int) (k : Nat) (z : Int), vs = [.ref a, .int (k : Int), .int z] ∧ FormAt H a ns ∧ (z = 1 ∨ z = -1) ∧ ns.length ≤ 1000000 ∧ k ≤ 1000000 ∧
  ∀ H' p ls, Same H H' → H p = none → FormAt H' p ls → wt ls = 3 ^ k * (z * wt ns) → ls.length ≤ k + ns.length → Q (.ref p) H'
theorem ok_shifted (S : Src K mg "shifted" s_shifted ["form", "place", "lay"]) (B : Bi mg) : Cal P w K mg base CX0 1 "shifted" ["form", "place", "lay"] sp_shifted := by
  refine S.cal fun f fd F => F.ok sc_shifted (fun vs H Q E h => ?_) (fun cdv A outer s H vs Q E hr h => ?_)
  · obtain ⟨a, ns, k, z, rfl, _⟩ := h
    rfl
  · obtain ⟨a, ns, k, z, rfl, fa, hz, l1, l2, q⟩ := h
    have ez : (ns.map V.int).length = ns.length := List.length_map ..
    refine ⟨_, (pss_cons (ps_if (pt_cmpR op_eq (pe_callB call_len_seq (by rfl) B.len PySem.boot_len (pa_cons (pv 0) pa_nil)) pe_int (nomark _)) (pss_one (ps_ret (pe_lst pa_nil))) pss_nil)
      (pss_one (ps_ret (pe_op op_cat (pe_op op_rep (pe_lst (pa_cons pe_int pa_nil)) (pv 1)) (pe_lc (own := [("one", 3)]) (g := gName 3) rfl sc_shifted.nd (pi_list (pv 0)) (blkOk_by (own := [("one", 3)]) (N := N_shifted) (sc := defScope s_shifted) (by decide +kernel)) (fun _ _ _ _ _ => pg_name (i := 3) sc_shifted.nd rfl (Or.inl rfl)) (fun _ _ _ _ _ => pts_nil) (fun _ _ _ _ _ => (pe_op op_mul (pv 2) (pv 3)))))))), ?_⟩
    refine ⟨_, rfl, a, _, rfl, .inl (SqL.of fa.1), rfl, _, rfl, ?_⟩
    cases ns with
    | nil =>
      rw [decide_eq_true (show V.int (((([] : List Int).map V.int).length : Nat) : Int) = V.int 0 from rfl)]
      refine iteT ⟨Nat.zero_le _, fun p np => ?_⟩
      refine q _ p [] (same_upd np) np ⟨upd_same, lays_nil, (by simp)⟩ ?_ (by simp)
      show (0 : Int) = 3 ^ k * (z * 0)
      rw [Int.mul_zero, Int.mul_zero]
    | cons x r =>
      rw [ez, decide_eq_false (by intro e; have e2 := V.int.inj e; rw [List.length_cons] at e2; omega)]
      generalize hn : x :: r = ns at ez fa l1 q ⊢
      have hne : ns ≠ [] := by rw [← hn]; intro e; cases e
      refine iteF ⟨by decide, fun t nt => ?_⟩
      have s1 := same_upd (o := .lst [V.int 0]) nt
      refine ⟨_, rfl, t, _, _, rfl, rfl, upd_same, (by omega), (by omega), small' (by simp only [List.length_singleton]; omega), fun u nu => ?_⟩
      rw [rep_ints1]
      have s2 := s1.trans (same_upd (o := .lst ((List.replicate k (0 : Int)).map V.int)) nu)
      have eu : upd (upd H t (.lst [V.int 0])) u (.lst ((List.replicate k (0 : Int)).map V.int)) u = some (.lst ((List.replicate k (0 : Int)).map V.int)) := upd_same
      generalize upd (upd H t (.lst [V.int 0])) u (.lst ((List.replicate k (0 : Int)).map V.int)) = H2 at s2 eu ⊢
      refine ⟨_, rfl, a, rfl, ⟨_, SqL.of (s2 _ _ fa.1)⟩, fun D nD => ?_⟩
      refine lc_list (K := K) (a := a) (xs := ns.map V.int) (fun i H' => Same H2 H' ∧ H' D = some (.lst (((ns.take i).map fun x => z * x).map V.int))) ⟨same_upd nD, upd_same⟩ (fun i H' _ h => SqL.of (h.1 _ _ (s2 _ _ fa.1))) ?_ ?_
      · rintro i y H' hi ⟨sm, eD⟩
        obtain ⟨c, hc, rfl⟩ := ints_get hi
        refine ⟨rfl, ?_⟩
        dsimp only [tYes]
        refine iteT ?_
        refine ⟨_, rfl, _, rfl, _, _, rfl, rfl, .inl (by omega), _, eD, small (ints_len (by rw [List.length_map, List.length_take]; omega)), same_put sm nD, ?_⟩
        rw [upd_same, take_more hc, List.map_append, List.map_append]
        rfl
      · rintro H' ⟨sm, eD⟩
        rw [List.length_map, List.take_length] at eD
        refine ⟨u, D, _, _, rfl, rfl, sm _ _ eu, eD, small' (by rw [List.length_map, List.length_map, List.length_map, List.length_replicate]; omega), fun v nv => ?_⟩
        have e9 : (List.replicate k (0 : Int)).map V.int ++ ((ns.map fun x => z * x).map V.int) = (times k z ns).map V.int := by
          unfold times
          rw [List.map_append]
        rw [e9]
        exact q _ v (times k z ns) ((s2.trans sm).trans (same_upd nv)) ((s2.trans sm).free nv) ⟨upd_same, form_times hz fa.2 hne⟩ (wt_times k z ns) (Nat.le_of_eq (times_len k z ns))
abbrev s_rows : Stmt := topS 26
abbrev N_rows : List Str := ["one", "other", "found", "whole", "place", "lay"]
theorem sc_rows : FnScope N_rows ["one", "other"] (defScope s_rows) := ⟨rfl, rfl, rfl, by decide +kernel, rfl, by decide +kernel, by decide +kernel⟩
def sp_rows (C : Addr) : Sp := fun vs H Q E => ∃ x y : V, vs = [x, y] ∧ Asks C x H E fun _ ns => Asks C y H E fun _ ms => ns.length ≤ 100000 ∧ ms.length ≤ 100000 ∧
  ∀ H' f rs, Same H H' → H f = none → H' f = some (.lst (rs.map fun r => V.ref r.t)) → RowsOk H H' f ns ms ms.length rs → Q (.ref f) H'
theorem ok_rows {cF : Addr} (S : Src K mg "rows" s_rows ["one", "other"]) (B : Bi mg) (C1 : Cal P w K mg base (L2.CX P w) 3 "checked" ["thing"] (sp_checked cF)) (C2 : Cal P w K mg base (L2.CX P w) 4 "added" ["one", "other"] (sp_added cF)) (C3 : Cal P w K mg base CX0 1 "shifted" ["form", "place", "lay"] sp_shifted) :
    Cal P w K mg base (L2.CX P w) 5 "rows" ["one", "other"] (sp_rows cF) := by
  obtain ⟨_, _, G_checked, g_checked, k_checked, b_checked⟩ := C1
  obtain ⟨_, _, G_added, g_added, k_added, b_added⟩ := C2
  obtain ⟨_, _, G_shifted, g_shifted, k_shifted, b_shifted⟩ := C3
  refine S.cal fun f fd F => F.okX sc_rows (fun vs H Q E h => ?_) (fun cdv A outer s H vs Q E hr h => ?_)
  · obtain ⟨x, y, rfl, _⟩ := h
    rfl
  · obtain ⟨x, y, rfl, hx, q1, q2⟩ := h
    refine ⟨_, (pss_cons (ps_expr (pe_call G_checked (hr.mono (by decide)) rfl g_checked k_checked b_checked .nil (passes_call (takes_of rfl rfl rfl rfl) (fun _ _ _ _ h => h)) (pa_cons (pv 0) pa_nil)))
      (pss_cons (ps_set (i := 2) sc_rows.nd rfl (.inl rfl) (pe_lst pa_nil))
      (pss_cons (ps_set (i := 3) sc_rows.nd rfl (.inl rfl) (pe_lst pa_nil))
      (pss_cons (ps_for (passes_of rfl) rfl (pi_enum (by rfl) B.enumerate (pa_cons (pe_call G_checked (hr.mono (by decide)) rfl g_checked k_checked b_checked .nil (passes_call (takes_of rfl rfl rfl rfl) (fun _ _ _ _ h => h)) (pa_cons (pv 1) pa_nil)) pa_nil)) (pg_tup rfl (pgs_cons (pg_name (i := 4) sc_rows.nd rfl (.inl rfl)) (pgs_cons (pg_name (i := 5) sc_rows.nd rfl (.inl rfl)) pgs_nil)))
        (pss_cons (ps_if (pt_cmpR op_eq (pv 5) pe_int (nomark _)) (pss_one ps_continue) pss_nil)
        (pss_cons (ps_set (i := 3) sc_rows.nd rfl (.inl rfl) (pe_call G_added (hr.mono (by decide)) rfl g_added k_added b_added .nil (passes_call (takes_of rfl rfl rfl rfl) (fun _ _ _ _ h => h)) (pa_cons (pv 3) (pa_cons (pe_call G_shifted (hr.mono (by decide)) rfl g_shifted k_shifted b_shifted .nil pass0 (pa_cons (pv 0) (pa_cons (pv 4) (pa_cons (pv 5) pa_nil)))) pa_nil))))
        (pss_one (ps_expr (pe_bm PySem.F.plainAttrs_list PySem.F.slot_list_append PySem.F.type_list_append mt_append (pv 2) (pa_cons (pe_tup (pa_cons (pv 4) (pa_cons (pv 5) (pa_cons (pv 3) pa_nil)))) pa_nil)))))))
      (pss_one (ps_ret (pv 2))))))), ?_⟩
    refine ⟨_, rfl, x, rfl, hx, fun ok => ?_, fun e => q2 e H (Same.refl H)⟩
    obtain ⟨a, ns, rfl, fa⟩ := isF_true ok
    obtain ⟨hy, r1, r2⟩ := q1 a ns rfl fa
    refine ⟨Nat.zero_le _, fun F nF => ⟨Nat.zero_le _, fun p np => ?_⟩⟩
    have npF : p ≠ F := fun e => by
      rw [e, upd_same] at np
      cases np
    have np0 : H p = none := (same_upd nF).free np
    have s2 : Same H (upd (upd H F (.lst [])) p (.lst [])) := (same_upd nF).trans (same_upd np)
    have eF2 : upd (upd H F (.lst [])) p (.lst []) F = some (.lst []) := by rw [upd_ne npF.symm, upd_same]
    have ep2 : upd (upd H F (.lst [])) p (.lst []) p = some (.lst []) := upd_same
    generalize upd (upd H F (.lst [])) p (.lst []) = H2 at s2 eF2 ep2 ⊢
    refine ⟨_, rfl, y, rfl, hy.same s2, fun ok2 => ?_, fun e => r2 (by rw [isF_same s2 hy.1] at e; exact e) _ s2⟩
    rw [isF_same s2 hy.1] at ok2
    obtain ⟨b, ms, rfl, fb⟩ := isF_true ok2
    obtain ⟨ln, lm, q⟩ := r1 b ms rfl fb
    have e2 : (ms.map V.int).length = ms.length := List.length_map ..
    refine ⟨b, _, rfl, SqL.of (s2 _ _ fb.1), for_it (walk_enum (K := K) (a := b) (xs := ms.map V.int)) (fun i σ H' => ∃ (p : Addr) (ls : List Int) (rs : List R) (k v : Option V), σ = [some (.ref a), some (.ref b), some (.ref F), some (.ref p), k, v] ∧ Same H H' ∧
        H' F = some (.lst (rs.map fun r => V.ref r.t)) ∧ FormAt H' p ls ∧ wt ls = wt ns * wt (ms.take i) ∧ ls.length ≤ ns.length + i ∧ RowsOk H H' F ns ms i rs)
      ⟨p, [], [], none, none, rfl, s2, eF2, ⟨ep2, lays_nil, (by simp)⟩, (Int.mul_zero _).symm, Nat.zero_le _, rfl, fun _ h => (nomatch h), List.nodup_nil⟩ (fun i σ H' _ ⟨_, _, _, _, _, _, sm, _⟩ => SqL.of (sm _ _ fb.1)) ?_ ?_⟩
    · rintro i y σ H0 H' hi ⟨p, ls, rs, k, v, rfl, sm, eF, fp, hw, hl, ro⟩ ⟨T, x1, y1, rfl, nT, rfl, ex, ey⟩
      cases ex
      obtain ⟨z, hz, rfl⟩ := ints_get ey
      rw [e2] at hi
      have kT := same_upd (o := .tup [V.int ((i : Nat) : Int), .int z]) nT
      have e1 : z = lz ms i := (lz_get hz).symm
      refine ⟨T, _, rfl, SqT.of upd_same, rfl, _, _, rfl, _, _, rfl, rfl, ?_⟩
      refine ⟨_, rfl, rfl, _, rfl, ?_⟩
      have ht : wt (ms.take (i + 1)) = wt (ms.take i) + z * 3 ^ i := wt_turn hz
      by_cases h0 : z = 0
      · rw [decide_eq_true (congrArg V.int h0)]
        refine iteT ⟨p, ls, rs, _, _, rfl, sm.trans kT, kT _ _ eF, ⟨kT _ _ fp.1, fp.2⟩, ?_, by omega, ?_, fun r hr => (ro.at_ r hr).same (fun b o _ e => kT _ _ e) ⟨_, eF⟩, ro.nd⟩
        · rw [ht, h0, Int.zero_mul, Int.add_zero]; exact hw
        · rw [ro.js]
          show laid ms i = if lz ms i = 0 then laid ms i else laid ms i ++ [i]
          rw [if_pos (by omega)]
      · rw [decide_eq_false (fun e => h0 (V.int.inj e))]
        have hz2 : z = 1 ∨ z = -1 := by
          have := fb.2.1 z (List.mem_of_getElem? hz)
          omega
        have sT := sm.trans kT
        refine iteF ⟨_, rfl, _, rfl, _, rfl, _, rfl, a, ns, i, z, rfl, ⟨sT _ _ fa.1, fa.2⟩, hz2, by omega, by omega, fun H4 s l4 m4 n4 f4 w4 c4 => ?_⟩
        have k4 := kT.trans m4
        refine ⟨.ref p, .ref s, rfl, .of (show FormAt H4 p ls from ⟨k4 _ _ fp.1, fp.2⟩) (.of f4 ⟨by omega, by omega, fun H5 p5 l5 os m5 n5 f5 so => ?_⟩)⟩
        have k5 := k4.trans m5
        have eF5 := k5 _ _ eF
        have np5 : H0 p5 = none := k4.free n5
        have npF5 : p5 ≠ F := fun e => by
          rw [e, eF] at np5
          cases np5
        have hlr := rows_len ro
        -- found.append((place, lay, whole))
        refine ⟨_, rfl, .inl ⟨rfl, _, SqL.of eF5⟩, _, rfl, _, rfl, _, rfl, small' (by simp), fun t nt => ?_⟩
        have kt := same_upd (o := .tup [V.int ((i : Nat) : Int), .int z, .ref p5]) nt
        refine ⟨F, _, _, rfl, rfl, kt _ _ eF5, small (by rw [List.length_map]; omega), ?_⟩
        have k6 := k5.trans kt
        have ntF : t ≠ F := fun e => by
          rw [e, eF5] at nt
          cases nt
        refine ⟨p5, l5, rs ++ [⟨i, t, p5, l5⟩], _, _, rfl, same_put ((sT.trans (m4.trans m5)).trans kt) nF, ?_, ⟨?_, f5.2⟩, ?_, ?_, ?_, ?_, ?_⟩
        · rw [upd_same, List.map_append]; rfl
        · rw [upd_ne npF5]; exact kt _ _ f5.1
        · rw [so.1, hw, w4, ht, Int.mul_add, Int.mul_comm (3 ^ i), Int.mul_assoc z, Int.mul_comm z, Int.mul_assoc, Int.mul_comm (3 ^ i)]
        · have h1 := so.2.1
          have h2 := so.2.2.1
          omega
        · rw [List.map_append, ro.js]
          show laid ms i ++ [i] = if lz ms i = 0 then laid ms i else laid ms i ++ [i]
          rw [if_neg (by omega)]
        · intro r hr
          rcases List.mem_append.mp hr with h | h
          · exact (ro.at_ r h).same (fun b o hb e => by rw [upd_ne hb]; exact k6 _ _ e) ⟨_, eF⟩
          · rw [List.mem_singleton.mp h]
            refine ⟨?_, ⟨?_, f5.2⟩, ?_, sm.free np5, npF5, ?_⟩
            · show upd (upd H5 t _) F _ t = some (.tup [.int (i : Int), .int (lz ms i), .ref p5])
              rw [upd_ne ntF, upd_same, e1]
            · show upd (upd H5 t _) F _ p5 = _
              rw [upd_ne npF5]; exact kt _ _ f5.1
            · show wt l5 = wt ns * wt (ms.take (i + 1))
              rw [so.1, hw, w4, ht, Int.mul_add, Int.mul_comm (3 ^ i), Int.mul_assoc z, Int.mul_comm z, Int.mul_assoc, Int.mul_comm (3 ^ i)]
            · show l5.length ≤ ns.length + i + 1
              have h1 := so.2.1
              have h2 := so.2.2.1
              omega
        · rw [List.map_append, List.nodup_append]
          refine ⟨ro.nd, List.nodup_cons.mpr ⟨fun h => (nomatch h), List.nodup_nil⟩, fun c hc d hd => ?_⟩
          rw [List.mem_singleton.mp hd]
          obtain ⟨r, hr, rfl⟩ := List.mem_map.mp hc
          intro e
          have e3 := (ro.at_ r hr).fp.1
          rw [e] at e3
          have e4 : H0 p5 = some _ := e3
          rw [np5] at e4
          cases e4
    · rintro σ H' ⟨p, ls, rs, k, v, rfl, sm, eF, fp, hw, hl, ro⟩
      rw [e2] at ro
      exact ⟨_, rfl, q H' F rs sm nF eF ro⟩
abbrev s_multiplied : Stmt := topS 27
abbrev N_multiplied : List Str := ["one", "other", "found"]
theorem sc_multiplied : FnScope N_multiplied ["one", "other"] (defScope s_multiplied) := ⟨rfl, rfl, rfl, by decide +kernel, rfl, by decide +kernel, by decide +kernel⟩
def sp_multiplied (C : Addr) : Sp := fun vs H Q E => ∃ x y : V, vs = [x, y] ∧ Asks C x H E fun _ ns => Asks C y H E fun _ ms => ns.length ≤ 100000 ∧ ms.length ≤ 100000 ∧
  ∀ H' p ls, Same H H' → H p = none → FormAt H' p ls → wt ls = wt ns * wt ms → ls.length ≤ ns.length + ms.length → Q (.ref p) H'
theorem laid_last {ms : List Int} : ∀ {i : Nat}, i ≤ ms.length → (laid ms i = [] ∧ ∀ j, j < i → lz ms j = 0) ∨ ∃ js j, laid ms i = js ++ [j] ∧ j < i ∧ ∀ k, j < k → k < i → lz ms k = 0
  | 0, _ => .inl ⟨rfl, fun j h => absurd h (Nat.not_lt_zero j)⟩
  | i + 1, hi => by
    show ((if lz ms i = 0 then laid ms i else laid ms i ++ [i]) = [] ∧ _) ∨ ∃ js j, (if lz ms i = 0 then laid ms i else laid ms i ++ [i]) = js ++ [j] ∧ _
    by_cases h : lz ms i = 0
    · rw [if_pos h]
      rcases laid_last (ms := ms) (i := i) (by omega) with ⟨e, h2⟩ | ⟨js, j, e, hj, h2⟩
      · refine .inl ⟨e, fun k hk => ?_⟩
        by_cases e2 : k = i
        · rw [e2]; exact h
        · exact h2 k (by omega)
      · refine .inr ⟨js, j, e, by omega, fun k h3 hk => ?_⟩
        by_cases e2 : k = i
        · rw [e2]; exact h
        · exact h2 k h3 (by omega)
    · rw [if_neg h]
      exact .inr ⟨_, i, rfl, by omega, fun k h3 hk => by omega⟩
theorem form_last_laid {ms : List Int} (h : Form ms) : (laid ms ms.length = [] ∧ ms = []) ∨ ∃ js, laid ms ms.length = js ++ [ms.length - 1] ∧ 0 < ms.length := by
  rcases last_cases ms with rfl | ⟨ys, l, rfl⟩
  · exact .inl ⟨rfl, rfl⟩
  · have hl : l ≠ 0 := fun e => by
      have := h.2
      rw [List.getLast?_concat, e] at this
      exact this rfl
    have e : (ys ++ [l]).length = ys.length + 1 := by rw [List.length_append]; rfl
    rw [e]
    refine .inr ⟨laid (ys ++ [l]) ys.length, ?_, by omega⟩
    show (if lz (ys ++ [l]) ys.length = 0 then _ else laid (ys ++ [l]) ys.length ++ [ys.length]) = _
    rw [if_neg (by rw [lz_append, if_neg (by omega), Nat.sub_self]; exact hl)]
    rfl
theorem rows_last {H0 H : Hp} {f : Addr} {ns ms : List Int} {rs : List R} (h : RowsOk H0 H f ns ms ms.length rs) (hm : Form ms) : (rs = [] ∧ ms = []) ∨ ∃ qs r, rs = qs ++ [r] ∧ RowAt H0 H f ns ms r ∧ wt r.ls = wt ns * wt ms ∧ r.ls.length ≤ ns.length + ms.length := by
  rcases last_cases rs with rfl | ⟨qs, r, rfl⟩
  · rcases form_last_laid hm with ⟨_, e⟩ | ⟨js, e, _⟩
    · exact .inl ⟨rfl, e⟩
    · have := h.js
      rw [e] at this
      have l := congrArg List.length this
      rw [List.length_append] at l
      simp at l
  · have hj := h.js
    rcases form_last_laid hm with ⟨e, _⟩ | ⟨js, e, h0⟩
    · rw [e] at hj
      have l := congrArg List.length hj
      simp at l
    · rw [e, List.map_append] at hj
      have e2 : r.j = ms.length - 1 := by
        have e3 := congrArg List.getLast? hj
        rw [List.getLast?_concat] at e3
        have e4 : (qs.map R.j ++ [r.j]).getLast? = some (ms.length - 1) := e3
        rw [List.getLast?_concat] at e4
        exact Option.some.inj e4
      have ra := h.at_ r (List.mem_append.mpr (.inr (List.mem_singleton.mpr rfl)))
      refine .inr ⟨qs, r, rfl, ra, ?_, ?_⟩
      · have hw := ra.w
        rw [List.take_of_length_le (by omega)] at hw
        exact hw
      · have := ra.len
        omega
theorem ok_multiplied {cF : Addr} (S : Src K mg "multiplied" s_multiplied ["one", "other"]) (B : Bi mg) (C1 : Cal P w K mg base (L2.CX P w) 5 "rows" ["one", "other"] (sp_rows cF)) : Cal P w K mg base (L2.CX P w) 6 "multiplied" ["one", "other"] (sp_multiplied cF) := by
  obtain ⟨_, _, G_rows, g_rows, k_rows, b_rows⟩ := C1
  refine S.cal fun f fd F => F.okX sc_multiplied (fun vs H Q E h => ?_) (fun cdv A outer s H vs Q E hr h => ?_)
  · obtain ⟨x, y, rfl, _⟩ := h
    rfl
  · obtain ⟨x, y, rfl, hx, q1, q2⟩ := h
    refine ⟨_, (pss_cons (ps_set (i := 2) sc_multiplied.nd rfl (.inl rfl) (pe_call G_rows (hr.mono (by decide)) rfl g_rows k_rows b_rows .nil (passes_call (takes_of rfl rfl rfl rfl) (fun _ _ _ _ h => h)) (pa_cons (pv 0) (pa_cons (pv 1) pa_nil))))
      (pss_cons (ps_if (pt_cmpR op_eq (pe_callB call_len_seq (by rfl) B.len PySem.boot_len (pa_cons (pv 2) pa_nil)) pe_int (nomark _)) (pss_one (ps_ret (pe_lst pa_nil))) pss_nil)
      (pss_one (ps_ret (pe_ix ix_tup (pe_ix ix_list (pv 2) (pe_un un_neg pe_int) (fun _ _ => rfl)) pe_int (fun _ _ => rfl)))))), ?_⟩
    refine ⟨_, rfl, _, rfl, x, y, rfl, hx, fun a ns e fa => ?_, q2⟩
    obtain ⟨hy, r1, r2⟩ := q1 a ns e fa
    refine ⟨hy, fun b ms e2 fb => ?_, r2⟩
    obtain ⟨ln, lm, q⟩ := r1 b ms e2 fb
    refine ⟨ln, lm, fun H' f rs sm nf ef ro => ?_⟩
    have hlr := rows_len ro
    refine ⟨_, rfl, f, _, rfl, .inl (SqL.of ef), rfl, _, rfl, ?_⟩
    rcases rows_last ro fb.2 with ⟨rfl, rfl⟩ | ⟨qs, r, rfl, ra, hw, hl⟩
    · rw [decide_eq_true (show V.int (((([] : List R).map fun r => V.ref r.t).length : Nat) : Int) = V.int 0 from rfl)]
      refine iteT ⟨Nat.zero_le _, fun p np => ?_⟩
      exact q _ p [] (sm.trans (same_upd np)) (sm.free np) ⟨upd_same, lays_nil, (by simp)⟩ (Int.mul_zero _).symm (Nat.zero_le _)
    · rw [decide_eq_false (by intro e; have e2 := V.int.inj e; rw [List.length_map, List.length_append, List.length_singleton] at e2; omega)]
      have el : atI ((qs ++ [r]).map fun r => V.ref r.t) (-1) = some (.ref r.t) := by
        rw [List.map_append]
        exact atI_last _ _
      refine iteF ⟨_, rfl, _, rfl, f, _, _, _, rfl, rfl, SqL.of ef, el, r.t, _, _, _, rfl, rfl, SqT.of ra.et, (rfl : atI [V.int (r.j : Int), .int (lz ms r.j), .ref r.p] 2 = some (V.ref r.p)), ?_⟩
      exact q H' r.p r.ls sm ra.np ra.fp hw hl
end
/-! ### shown, read -/
section
variable {P : Program} {w : World} {K : PySem.W.Frag} {mg : Str → Option Value} {base : Heap}
theorem ones_map (l : List Nat) : (l.map fun c => (⟨#[c]⟩ : Str)).map V.str = l.map fun c => V.str ⟨#[c]⟩ := by rw [List.map_map]; rfl
theorem ones_sum (l : List Nat) : ((l.map fun c => (⟨#[c]⟩ : Str)).map (·.length)).sum = l.length := by
  induction l with
  | nil => rfl
  | cons c r ih =>
    rw [List.map_cons, List.map_cons, List.sum_cons, ih, List.length_cons]
    show 1 + r.length = r.length + 1
    omega
theorem tl_turn {ns : List Int} {i : Nat} {z : Int} (h : ns[ns.length - 1 - i]? = some z) (hi : i < ns.length) : ((ns.drop (ns.length - (i + 1))).map sg).reverse = ((ns.drop (ns.length - i)).map sg).reverse ++ [sg z] := by
  have h1 : ns.length - 1 - i < ns.length := by omega
  rw [show ns.length - (i + 1) = ns.length - 1 - i by omega, List.drop_eq_getElem_cons h1, show ns.length - i = ns.length - 1 - i + 1 by omega]
  rw [List.getElem?_eq_getElem h1] at h
  rw [Option.some.inj h, List.map_cons, List.reverse_cons]
abbrev s_shown : Stmt := topS 30
abbrev N_shown : List Str := ["form", "lay"]
theorem sc_shown : FnScope N_shown ["form"] (defScope s_shown) := ⟨rfl, rfl, rfl, by decide +kernel, rfl, by decide +kernel, by decide +kernel⟩
def sp_shown (C : Addr) : Sp := fun vs H Q E => ∃ x : V, vs = [x] ∧ Asks C x H E fun _ ns => ns.length ≤ 100000 ∧ ∀ H', Same H H' → Q (.str (tx (txt ns))) H'
theorem ok_shown {cF : Addr} {tk : Tok} (S : Src K mg "shown" s_shown ["form"]) (B : Bi mg) (g_SIGNS : mg "SIGNS" = some (.str "<.>" tk)) (C1 : Cal P w K mg base (L2.CX P w) 3 "checked" ["thing"] (sp_checked cF)) : Cal P w K mg base (L2.CX P w) 4 "shown" ["form"] (sp_shown cF) := by
  obtain ⟨_, _, G_checked, g_checked, k_checked, b_checked⟩ := C1
  refine S.cal fun f fd F => F.okX sc_shown (fun vs H Q E h => ?_) (fun cdv A outer s H vs Q E hr h => ?_)
  · obtain ⟨x, rfl, _⟩ := h
    rfl
  · obtain ⟨x, rfl, hx, q1, q2⟩ := h
    refine ⟨_, (pss_cons (ps_if (pt_cmpR op_eq (pe_callB call_len_seq (by rfl) B.len PySem.boot_len (pa_cons (pe_call G_checked (hr.mono (by decide)) rfl g_checked k_checked b_checked .nil (passes_call (takes_of rfl rfl rfl rfl) (fun _ _ _ _ h => h)) (pa_cons (pv 0) pa_nil)) pa_nil)) pe_int (nomark _)) (pss_one (ps_ret pe_str)) pss_nil)
      (pss_one (ps_ret (pe_join pe_str (pe_lc (own := [("lay", 1)]) (g := gName 1) rfl sc_shown.nd (pi_reversed (by rfl) B.reversed (pa_cons (pv 0) pa_nil)) (blkOk_by (own := [("lay", 1)]) (N := N_shown) (sc := defScope s_shown) (by decide +kernel)) (fun _ _ _ _ _ => pg_name (i := 1) sc_shown.nd rfl (Or.inl rfl)) (fun _ _ _ _ _ => pts_nil) (fun _ _ _ _ _ => (pe_ix (r := rIxS) ix_str (pe_glob (v := .str "<.>") rfl g_SIGNS ⟨_, rfl⟩) (pe_op op_add (pv 1) pe_int) (fun _ _ => rfl)))))))), ?_⟩
    refine ⟨_, rfl, x, rfl, hx, fun ok => ?_, fun e => q2 e H (Same.refl H)⟩
    obtain ⟨a, ns, rfl, fa⟩ := isF_true ok
    obtain ⟨ln, q⟩ := q1 a ns rfl fa
    have e1 : (ns.map V.int).length = ns.length := List.length_map ..
    refine ⟨a, _, rfl, .inl (SqL.of fa.1), rfl, _, rfl, ?_⟩
    by_cases hn : ns = []
    · rw [e1, hn, decide_eq_true (show V.int ((([] : List Int).length : Nat) : Int) = V.int 0 from rfl)]
      have e2 := q H (Same.refl H)
      unfold txt at e2
      rw [if_pos hn, ← dot_S] at e2
      exact iteT e2
    · have n0 : ns.length ≠ 0 := fun e => hn (List.length_eq_zero_iff.mp e)
      rw [e1, decide_eq_false (by intro e; have e2 := V.int.inj e; omega)]
      refine iteF ⟨⟨_, rfl⟩, _, rfl, a, ns.map V.int, rfl, SqL.of fa.1, fun D nD => ?_⟩
      refine lc_it (walk_rev (K := K) (a := a) (xs := ns.map V.int)) (fun i H' => Same H H' ∧ H' D = some (.lst ((((ns.drop (ns.length - i)).map sg).reverse).map fun c => V.str ⟨#[c]⟩))) ⟨same_upd nD, ?_⟩ (fun i H' _ h => SqL.of (h.1 _ _ fa.1)) ?_ ?_
      · rw [upd_same, Nat.sub_zero, List.drop_length]; rfl
      · rintro i y H1 H2 hi ⟨sm, eD⟩ ⟨rfl, hy⟩
        rw [e1] at hi hy
        obtain ⟨z, hz, rfl⟩ := ints_get hy
        have hl := fa.2.1 z (List.mem_of_getElem? hz)
        refine ⟨rfl, ?_⟩
        dsimp only [tYes]
        refine iteT ?_
        refine ⟨_, rfl, _, _, rfl, rfl, _, _, sg z, rfl, rfl, ?_, sg_at hl, _, eD, small (by rw [List.length_map, List.length_reverse, List.length_map, List.length_drop]; omega), same_put sm nD, ?_⟩
        · exact Nat.le_trans (m := 3) (by decide +kernel) (by decide)
        · rw [upd_same, tl_turn hz hi, List.map_append]; rfl
      · rintro H1 ⟨sm, eD⟩
        rw [e1, Nat.sub_self, List.drop_zero] at eD
        refine ⟨_, D, (tl ns).map fun c => ⟨#[c]⟩, rfl, rfl, .inl (SqL.of (by rw [ones_map]; exact eD)), ?_, ?_⟩
        · rw [ones_sum, List.length_map]
          have l0 : (Str.ofString "").length = 0 := by decide +kernel
          rw [l0]
          unfold tl
          rw [List.length_reverse, List.length_map]
          omega
        · rw [join_signs]
          have e2 := q H1 sm
          unfold txt at e2
          rw [if_neg hn] at e2
          exact e2
abbrev s_read : Stmt := topS 31
abbrev N_read : List Str := ["text", "sign"]
theorem sc_read : FnScope N_read ["text"] (defScope s_read) := ⟨rfl, rfl, rfl, by decide +kernel, rfl, by decide +kernel, by decide +kernel⟩
def sp_read (C : Addr) : Sp := fun vs H Q E => ∃ x : V, vs = [x] ∧ WOk H x ∧ (∀ l, x = .str (tx l) → l.length ≤ 100000) ∧ (∀ l, x = .str (tx l) → okT l = true → ∀ H' p, Same H H' → H p = none → H' p = some (.lst ((rd l).map V.int)) → Q (.ref p) H') ∧ (okV x = false → ∀ H', Same H H' → E (.ref C) none H')
theorem ok_read {cT cS : Addr} {tk : Tok} (S : Src K mg "read" s_read ["text"]) (B : Bi mg) (g_SIGNS : mg "SIGNS" = some (.str "<.>" tk)) (ZT : ErrC K mg "NoText" cT cS) : Cal P w K mg base (L2.CX P w) 1 "read" ["text"] (sp_read cT) := by
  refine S.cal fun f fd F => F.okX sc_read (fun vs H Q E h => ?_) (fun cdv A outer s H vs Q E hr h => ?_)
  · obtain ⟨x, rfl, _⟩ := h
    rfl
  · obtain ⟨x, rfl, hx, hlen, q1, q2⟩ := h
    refine ⟨_, (pss_cons (ps_if (PW.pt (pw_or (pt_not (pt_val (pe_callB call_isi (by rfl) B.isinstance (by decide +kernel) (pa_cons (pv 0) (pa_cons (pe_bltn (v := .ty "str") (by rfl) B.str (by decide +kernel) rfl) pa_nil))))) (pw_or1 (pt_cmpR op_eq (pv 0) pe_str (nomark _))))) (pss_one (ps_raise rfl (takes_of rfl rfl rfl rfl) (pmk_own PySem.F.excBase_ValueError ZT.x ZT.g ZT.k (raises_own ZT.b ZT.t) (by exact rfl)))) pss_nil)
      (pss_cons (ps_for (passes_of rfl) rfl (pi_str (pv 0)) (pg_name (i := 1) sc_read.nd rfl (.inl rfl))
        (pss_one (ps_if (pt_cmpR op_notIn_sign (pv 1) (pe_glob (v := .str "<.>") rfl g_SIGNS ⟨_, rfl⟩) (by rfl)) (pss_one (ps_raise rfl (takes_of rfl rfl rfl rfl) (pmk_own PySem.F.excBase_ValueError ZT.x ZT.g ZT.k (raises_own ZT.b ZT.t) (by exact rfl)))) pss_nil)))
      (pss_cons (ps_if (pt_cmpR op_eq (pv 0) pe_str (nomark _)) (pss_one (ps_ret (pe_lst pa_nil))) pss_nil)
      (pss_cons (ps_if (pt_val (pe_m1 PySem.F.slot_str_startswith PySem.F.type_str_startswith mt_startswith (pv 0) pe_str)) (pss_one (ps_raise rfl (takes_of rfl rfl rfl rfl) (pmk_own PySem.F.excBase_ValueError ZT.x ZT.g ZT.k (raises_own ZT.b ZT.t) (by exact rfl)))) pss_nil)
      (pss_one (ps_ret (pe_lc (own := [("sign", 1)]) (g := gName 1) rfl sc_read.nd (Rs.pi_revStr (by rfl) B.reversed (pv 0)) (blkOk_by (own := [("sign", 1)]) (N := N_read) (sc := defScope s_read) (by decide +kernel)) (fun _ _ _ _ _ => pg_name (i := 1) sc_read.nd rfl (Or.inl rfl)) (fun _ _ _ _ _ => pts_nil) (fun _ _ _ _ _ => (pe_op op_sub (pe_m1 PySem.F.slot_str_find PySem.F.type_str_find mt_find (pe_glob (v := .str "<.>") rfl g_SIGNS ⟨_, rfl⟩) (pv 1)) pe_int))))))))), ?_⟩
    refine ⟨_, rfl, _, _, _, _, _, rfl, .ty _, hx.ty, kit_ty (kit_str hx), _, rfl, ?_⟩
    cases x with
    | str z =>
      obtain ⟨l, rfl⟩ : ∃ l, z = tx l := ⟨_, tx_of z⟩
      have ln := hlen l rfl
      have bad : okT l = false → E (.ref cT) none H := fun e => q2 e H (Same.refl H)
      refine iteF ⟨_, rfl, rfl, _, rfl, ?_⟩
      by_cases h0 : l = []
      · have e9 : V.str (tx l) = V.str (Str.ofString "") := by rw [h0, none_S]
        rw [decide_eq_true e9]
        exact iteT (bad (by rw [h0]; rfl))
      · have e9 : ¬ V.str (tx l) = V.str (Str.ofString "") := fun e => h0 (tx_inj ((V.str.inj e).trans none_S))
        rw [decide_eq_false e9]
        refine iteF ⟨_, rfl, tx l, rfl, for_it (walk_str (z := tx l)) (D := ⟨_, _, fun _ _ => False, fun _ _ => False⟩) (fun i σ H' => ∃ v : Option V, σ = [some (.str (tx l)), v] ∧ H' = H ∧ (l.take i).all isG = true) ⟨none, rfl, rfl, rfl⟩ (fun _ _ _ _ _ => trivial) ?_ ?_⟩
        · rintro i y σ H1 H2 hi ⟨v, rfl, rfl, hg⟩ ⟨rfl, c, hc, rfl⟩
          have hc2 : l[i]? = some c := by
            have : (l.toArray)[i]? = some c := hc
            rw [List.getElem?_toArray] at this
            exact this
          refine ⟨_, rfl, c, _, rfl, rfl, _, rfl, ?_⟩
          rw [isG_mem]
          cases hgc : isG c with
          | false =>
            refine iteT (bad ?_)
            unfold okT
            have : l.all isG = false := by
              rw [List.all_eq_false]
              exact ⟨c, List.mem_of_getElem? hc2, by rw [hgc]; decide⟩
            rw [this, Bool.and_false]; rfl
          | true =>
            refine iteF ⟨_, rfl, rfl, ?_⟩
            rw [take_more hc2, List.all_append, hg, List.all_cons, hgc]; rfl
        · rintro σ H1 ⟨v, rfl, rfl, hg⟩
          have hsz : (tx l).cps.size = l.length := tx_len l
          rw [hsz, List.take_length] at hg
          refine ⟨_, rfl, rfl, _, rfl, ?_⟩
          by_cases h1 : l = [46]
          · have e9 : V.str (tx l) = V.str (Str.ofString ".") := by rw [h1, dot_S]
            rw [decide_eq_true e9]
            refine iteT ⟨Nat.zero_le _, fun p np => ?_⟩
            refine q1 l rfl (by rw [h1]; decide) _ p (same_upd np) np ?_
            rw [upd_same, h1]; rfl
          · have e9 : ¬ V.str (tx l) = V.str (Str.ofString ".") := fun e => h1 (tx_inj ((V.str.inj e).trans dot_S))
            rw [decide_eq_false e9]
            refine iteF ⟨_, rfl, ⟨_, rfl⟩, tx l, _, rfl, rfl, _, rfl, ?_⟩
            rw [starts_dot]
            have hok : okT l = !decide (l.head? = some 46) := by
              unfold okT
              rw [hg, decide_eq_false h0, decide_eq_false h1, Bool.or_false]; rfl
            by_cases h2 : l.head? = some 46
            · rw [decide_eq_true h2] at hok ⊢
              exact iteT (bad hok)
            · rw [decide_eq_false h2] at hok ⊢
              refine iteF ⟨_, rfl, tx l, rfl, small' (by rw [hsz]; omega), fun D nD => ?_⟩
              have er : rd l = (l.map va).reverse := by
                unfold rd
                rw [if_neg h1]
              refine lc_it (Rs.walk (z := tx l)) (fun i H' => Same H1 H' ∧ H' D = some (.lst ((((l.drop (l.length - i)).map va).reverse).map V.int))) ⟨same_upd nD, ?_⟩ (fun _ _ _ _ => trivial) ?_ ?_
              · rw [upd_same, Nat.sub_zero, List.drop_length]; rfl
              · rintro i y H3 H4 hi ⟨sm, eD⟩ ⟨rfl, c, hc, rfl⟩
                rw [hsz] at hi hc
                have hc2 : l[l.length - 1 - i]? = some c := by
                  have : (l.toArray)[l.length - 1 - i]? = some c := hc
                  rw [List.getElem?_toArray] at this
                  exact this
                have hgc : isG c = true := List.all_eq_true.mp hg c (List.mem_of_getElem? hc2)
                refine ⟨rfl, ?_⟩
                dsimp only [tYes]
                refine iteT ?_
                refine ⟨⟨_, rfl⟩, _, rfl, _, _, rfl, rfl, _, _, rfl, rfl, _, eD, small (ints_len (by rw [List.length_reverse, List.length_map, List.length_drop]; omega)), same_put sm nD, ?_⟩
                have h9 : l.length - 1 - i < l.length := by omega
                rw [upd_same, show l.length - (i + 1) = l.length - 1 - i by omega, List.drop_eq_getElem_cons h9]
                rw [List.getElem?_eq_getElem h9] at hc2
                rw [Option.some.inj hc2, show l.length - 1 - i + 1 = l.length - i by omega, List.map_cons, List.reverse_cons, List.map_append]
                show some (HO.lst (_ ++ [V.int (Txt.find (Str.ofString "<.>") ⟨#[c]⟩ - 1)])) = _
                rw [find_sign hgc]; rfl
              · rintro H3 ⟨sm, eD⟩
                rw [hsz, Nat.sub_self, List.drop_zero, ← er] at eD
                exact q1 l rfl hok H3 D sm nD eD
    | _ => exact iteT (iteT (q2 rfl H (Same.refl H)))
end
/-! ### _law_whole -/
section
variable {P : Program} {w : World} {K : PySem.W.Frag} {mg : Str → Option Value} {base : Heap}
abbrev s__law_whole : Stmt := topS 33
abbrev N__law_whole : List Str := ["_law_found"]
theorem sc__law_whole : FnScope N__law_whole ["_law_found"] (defScope s__law_whole) := ⟨rfl, rfl, rfl, by decide +kernel, rfl, by decide +kernel, by decide +kernel⟩
theorem ok__law_whole (S : Src K mg "_law_whole" s__law_whole ["_law_found"]) (B : Bi mg) : Cal P w K mg base CX0 1 "_law_whole" ["_law_found"] sp_is_whole := by
  refine S.cal fun f fd F => F.ok sc__law_whole (fun vs H Q E h => ?_) (fun cdv A outer s H vs Q E hr h => ?_)
  · obtain ⟨x, rfl, _⟩ := h
    rfl
  · obtain ⟨x, rfl, hx, q⟩ := h
    refine ⟨_, (pss_one (ps_ret (pe_and (pe_callB call_isi (by rfl) B.isinstance (by decide +kernel) (pa_cons (pv 0) (pa_cons (pe_bltn (v := .ty "int") (by rfl) B.int (by decide +kernel) rfl) pa_nil))) (pe_one (pe_not (pe_callB call_isi (by rfl) B.isinstance (by decide +kernel) (pa_cons (pv 0) (pa_cons (pe_bltn (v := .ty "bool") (by rfl) B.bool (by decide +kernel) rfl) pa_nil)))))))), ?_⟩
    refine ⟨_, rfl, _, _, _, _, _, rfl, .ty _, hx.ty, kit_ty (kit_int hx), _, rfl, ?_⟩
    cases x with
    | int i => exact iteT ⟨_, rfl, _, _, _, _, _, rfl, .ty _, hx.ty, kit_ty (kit_bool hx), _, rfl, q⟩
    | bl b => exact iteT ⟨_, rfl, _, _, _, _, _, rfl, .ty _, hx.ty, kit_ty (kit_bool hx), _, rfl, q⟩
    | _ => exact iteF q
end
/-! ### _law_is_form -/
section
variable {P : Program} {w : World} {K : PySem.W.Frag} {mg : Str → Option Value} {base : Heap}
abbrev s__law_is_form : Stmt := topS 34
abbrev N__law_is_form : List Str := ["_law_found", "_law_lay"]
theorem sc__law_is_form : FnScope N__law_is_form ["_law_found"] (defScope s__law_is_form) := ⟨rfl, rfl, rfl, by decide +kernel, rfl, by decide +kernel, by decide +kernel⟩
theorem ok__law_is_form (S : Src K mg "_law_is_form" s__law_is_form ["_law_found"]) (B : Bi mg) (C1 : Cal P w K mg base CX0 1 "_law_whole" ["_law_found"] sp_is_whole) : Cal P w K mg base CX0 2 "_law_is_form" ["_law_found"] sp_is_form := by
  obtain ⟨_, _, G__law_whole, g__law_whole, k__law_whole, b__law_whole⟩ := C1
  refine S.cal fun f fd F => F.ok sc__law_is_form (fun vs H Q E h => ?_) (fun cdv A outer s H vs Q E hr h => ?_)
  · obtain ⟨x, rfl, _⟩ := h
    rfl
  · obtain ⟨x, rfl, hx, q⟩ := h
    refine ⟨_, (pss_cons (ps_if (pt_not (pt_val (pe_callB call_isi (by rfl) B.isinstance (by decide +kernel) (pa_cons (pv 0) (pa_cons (pe_bltn (v := .ty "list") (by rfl) B.list (by decide +kernel) rfl) pa_nil))))) (pss_one (ps_ret pe_bl)) pss_nil)
      (pss_cons (ps_for PassesOwn.never rfl (pi_list (pv 0)) (pg_name (i := 1) sc__law_is_form.nd rfl (.inl rfl))
        (pss_one (ps_if (PW.pt (pw_or (pt_not (pt_val (pe_call G__law_whole (hr.mono (by decide)) rfl g__law_whole k__law_whole b__law_whole .nil pass0 (pa_cons (pv 1) pa_nil)))) (pw_or (pt_cmpR op_lt (pv 1) (pe_un un_neg pe_int) (nomark _)) (pw_or1 (pt_cmpR op_gt (pv 1) pe_int (nomark _)))))) (pss_one (ps_ret pe_bl)) pss_nil)))
      (pss_one (ps_ret (pe_or (pe_cmpR op_eq (pe_callB call_len_seq (by rfl) B.len PySem.boot_len (pa_cons (pv 0) pa_nil)) pe_int (nomark _)) (pe_one (pe_cmpR op_ne (pe_ix ix_list (pv 0) (pe_un un_neg pe_int) (fun _ _ => rfl)) pe_int (nomark _)))))))), ?_⟩
    refine ⟨_, rfl, _, _, _, _, _, rfl, .ty _, hx.1.ty, kit_ty (kit_list hx.1), _, rfl, ?_⟩
    cases e : isL H x with
    | false =>
      rw [isF_not e] at q
      exact iteT q
    | true =>
      refine iteF ?_
      obtain ⟨a, xs, rfl, ea⟩ := isL_ref e
      have hys := hx.2 a xs rfl ea
      refine ⟨_, rfl, a, rfl, ⟨_, SqL.of ea⟩, for_list (K := K) (a := a) (xs := xs) (fun i σ H' => ∃ v : Option V, σ = [some (.ref a), v] ∧ H' = H ∧ (xs.take i).all okLay = true)
        ⟨none, rfl, rfl, rfl⟩ (fun i σ H' _ ⟨_, _, e, _⟩ => by rw [e]; exact SqL.of ea) ?_ ?_⟩
      · rintro i y σ H' hi ⟨v, rfl, rfl, ok⟩
        have hy := hys y (List.mem_of_getElem? hi)
        refine ⟨_, rfl, y, rfl, hy, _, rfl, ?_⟩
        have bad : okLay y = false → Q (.bl false) H' := fun hb => by
          have q2 := q
          rw [isF_list ea, formV_bad hi hb] at q2
          exact q2
        cases y with
        | int z =>
          refine iteF ?_
          refine ⟨_, rfl, _, rfl, _, _, rfl, rfl, _, rfl, ?_⟩
          by_cases h1 : z < -1
          · rw [decide_eq_true h1]
            exact iteT (iteT (bad (decide_eq_false (by omega))))
          · rw [decide_eq_false h1]
            refine iteF ⟨_, rfl, _, _, rfl, rfl, _, rfl, ?_⟩
            by_cases h2 : 1 < z
            · rw [decide_eq_true h2]
              exact iteT (bad (decide_eq_false (by omega)))
            · rw [decide_eq_false h2]
              exact iteF ⟨_, rfl, rfl, all_more hi ok (decide_eq_true (by omega))⟩
        | _ => exact iteT (iteT (bad rfl))
      · rintro σ H' ⟨v, rfl, rfl, ok⟩
        rw [List.take_length] at ok
        rw [isF_list ea] at q
        refine ⟨_, rfl, a, _, rfl, .inl (SqL.of ea), rfl, _, rfl, ?_⟩
        rcases last_cases xs with rfl | ⟨ys, l, rfl⟩
        · exact iteT q
        · rw [decide_eq_false (by rw [List.length_append]; intro e; have e2 := V.int.inj e; simp at e2; omega)]
          have okl := List.all_eq_true.mp ok l (by simp)
          obtain ⟨z, rfl, _, _⟩ := int_of_okLay okl
          refine iteF ⟨_, rfl, _, rfl, a, _, _, _, rfl, rfl, SqL.of ea, atI_last ys _, rfl, ?_⟩
          rw [formV_last ok] at q
          exact q
end
/-! ### _law_weight -/
section
variable {P : Program} {w : World} {K : PySem.W.Frag} {mg : Str → Option Value} {base : Heap}
abbrev s__law_weight : Stmt := topS 35
abbrev N__law_weight : List Str := ["_law_lays", "_law_found", "_law_lay"]
theorem sc__law_weight : FnScope N__law_weight ["_law_lays"] (defScope s__law_weight) := ⟨rfl, rfl, rfl, by decide +kernel, rfl, by decide +kernel, by decide +kernel⟩
def sp__law_weight : Sp := fun vs H Q _ => ∃ (a : Addr) (ns : List Int), vs = [.ref a] ∧ H a = some (.lst (ns.map V.int)) ∧ Q (.int (wt ns)) H
theorem ok__law_weight (S : Src K mg "_law_weight" s__law_weight ["_law_lays"]) (B : Bi mg) : Cal P w K mg base CX0 1 "_law_weight" ["_law_lays"] sp__law_weight := by
  refine S.cal fun f fd F => F.ok sc__law_weight (fun vs H Q E h => ?_) (fun cdv A outer s H vs Q E hr h => ?_)
  · obtain ⟨a, ns, rfl, _⟩ := h
    rfl
  · obtain ⟨a, ns, rfl, ea, q⟩ := h
    refine ⟨_, (pss_cons (ps_set (i := 1) sc__law_weight.nd rfl (.inl rfl) pe_int)
      (pss_cons (ps_for PassesOwn.never rfl (pi_reversed (by rfl) B.reversed (pa_cons (pv 0) pa_nil)) (pg_name (i := 2) sc__law_weight.nd rfl (.inl rfl))
        (pss_one (ps_set (i := 1) sc__law_weight.nd rfl (.inl rfl) (pe_op op_add (pe_op op_mul pe_int (pv 1)) (pv 2)))))
      (pss_one (ps_ret (pv 1))))), ?_⟩
    refine ⟨_, rfl, a, ns.map V.int, rfl, SqL.of ea, RT.for_Itv (K := K) (fun i σ H' => ∃ v : Option V, σ = [some (.ref a), some (.int (wt (ns.drop (ns.length - i)))), v] ∧ H' = H)
      ⟨none, ?_, rfl⟩ (fun i σ H' ⟨_, _, e⟩ => by rw [e]; exact SqL.of ea) ?_ ?_⟩
    · rw [Nat.sub_zero, List.drop_length]; rfl
    · rintro i y σ H' hi hy ⟨v, rfl, rfl⟩
      rw [List.length_map] at hi hy
      obtain ⟨z, hz, rfl⟩ := ints_get hy
      refine ⟨_, rfl, _, _, rfl, rfl, .inl (by decide), _, rfl, _, _, rfl, rfl, ?_⟩
      refine ⟨some (.int z), ?_, rfl⟩
      rw [wt_back hi hz]; rfl
    · rintro σ H' ⟨v, rfl, rfl⟩
      rw [List.length_map, Nat.sub_self]
      exact ⟨_, rfl, q⟩
end
/-! ### _law_near -/
section
variable {P : Program} {w : World} {K : PySem.W.Frag} {mg : Str → Option Value} {base : Heap}
abbrev s__law_near : Stmt := topS 36
abbrev N__law_near : List Str := ["_law_number", "_law_places", "_law_weight_here", "_law_k", "_law_kept"]
theorem sc__law_near : FnScope N__law_near ["_law_number", "_law_places"] (defScope s__law_near) := ⟨rfl, rfl, rfl, by decide +kernel, rfl, by decide +kernel, by decide +kernel⟩
def sp__law_near : Sp := fun vs H Q _ => ∃ (N : Int) (k : Nat), vs = [.int N, .int (k : Int)] ∧ k ≤ 40 ∧ ∀ H' t, Same H H' → H' t = some (.tup [.int (nearK N k), .int (N - nearK N k * 3 ^ k)]) → Q (.ref t) H'
theorem ok__law_near (S : Src K mg "_law_near" s__law_near ["_law_number", "_law_places"]) (B : Bi mg) : Cal P w K mg base CX0 1 "_law_near" ["_law_number", "_law_places"] sp__law_near := by
  refine S.cal fun f fd F => F.ok sc__law_near (fun vs H Q E h => ?_) (fun cdv A outer s H vs Q E hr h => ?_)
  · obtain ⟨N, k, rfl, _⟩ := h
    rfl
  · obtain ⟨N, k, rfl, hk, q⟩ := h
    have p := pow3_64 hk
    refine ⟨_, (pss_cons (ps_set (i := 2) sc__law_near.nd rfl (.inl rfl) pe_int)
      (pss_cons (ps_for PassesOwn.never rfl (pi_range1 (by rfl) B.range (pa_cons (pv 1) pa_nil)) (pg_name (i := 3) sc__law_near.nd rfl (.inl rfl))
        (pss_one (ps_set (i := 2) sc__law_near.nd rfl (.inl rfl) (pe_op op_mul (pv 2) pe_int))))
      (pss_cons (ps_set (i := 4) sc__law_near.nd rfl (.inl rfl) (pe_op op_fdivW (pe_op op_add (pv 0) (pe_op op_fdiv (pv 2) pe_int)) (pv 2)))
      (pss_one (ps_ret (pe_tup (pa_cons (pv 4) (pa_cons (pe_op op_sub (pv 0) (pe_op op_mul (pv 4) (pv 2))) pa_nil)))))))), ?_⟩
    refine ⟨_, rfl, _, rfl, by omega, by omega, for_range (lo := 0) (n := k) (D := ⟨_, _, fun _ _ => False, fun _ _ => False⟩) (fun i σ H' => ∃ v : Option V, σ = [some (.int N), some (.int (k : Int)), some (.int (3 ^ i)), v, none] ∧ H' = H) ⟨none, rfl, rfl⟩ ?_ ?_⟩
    · rintro i σ H' hi ⟨v, rfl, rfl⟩
      refine ⟨_, rfl, _, _, rfl, rfl, .inr (by decide), some (.int (0 + (i : Int))), ?_, rfl⟩
      rw [Int.pow_succ]; rfl
    · rintro σ H' ⟨v, rfl, rfl⟩
      refine ⟨_, rfl, _, rfl, _, _, rfl, rfl, ⟨by decide, by decide⟩, _, _, rfl, rfl, _, rfl, _, _, rfl, rfl, wide_div p.1 (b := 64) (by have := p.2; omega) (by decide) (by decide), ?_⟩
      refine ⟨_, rfl, _, rfl, _, rfl, _, rfl, _, _, rfl, rfl, .inr ⟨by have := p.1; omega, p.2⟩, _, _, rfl, rfl, small' (by simp), fun t nt => ?_⟩
      exact q _ t (same_upd nt) upd_same
end
/-! ### _law_told, _law_due -/
section
variable {P : Program} {w : World} {K : PySem.W.Frag} {mg : Str → Option Value} {base : Heap} {cF cN cT cP : Addr}
abbrev s__law_told : Stmt := topS 37
abbrev N__law_told : List Str := ["_law_word", "_law_one", "_law_other", "_law_load"]
theorem sc__law_told : FnScope N__law_told ["_law_word", "_law_one", "_law_other", "_law_load"] (defScope s__law_told) := ⟨rfl, rfl, rfl, by decide +kernel, rfl, by decide +kernel, by decide +kernel⟩
def sp__law_told : Sp := fun vs H Q _ => ∃ (word load : Int) (a b : Addr) (ns ms : List Int), vs = [.int word, .ref a, .ref b, .int load] ∧ FormAt H a ns ∧ FormAt H b ms ∧ ns.length ≤ 10000 ∧ ms.length ≤ ns.length + ms.length ∧ ms.length ≤ 10000 ∧ load.natAbs < 2 ^ 64 ∧
  ∀ H' p ls, Same H H' → H p = none → FormAt H' p ls → wt ls = dueF word (wt ns) (wt ms) load → ls.length ≤ max 64 (max ns.length ms.length + 5) → Q (.ref p) H'
theorem ok__law_told (S : Src K mg "_law_told" s__law_told ["_law_word", "_law_one", "_law_other", "_law_load"]) (C1 : Cal P w K mg base (L2.CX P w) 4 "turned" ["form"] (sp_turned cF)) (C2 : Cal P w K mg base (L2.CX P w) 2 "form_of" ["number"] (sp_form_of cN))
    (C3 : Cal P w K mg base (L2.CX P w) 4 "added" ["one", "other"] (sp_added cF)) (C4 : Cal P w K mg base (L2.CX P w) 6 "multiplied" ["one", "other"] (sp_multiplied cF)) (C5 : Cal P w K mg base (L2.CX P w) 1 "read" ["text"] (sp_read cT))
    (C6 : Cal P w K mg base (L2.CX P w) 5 "halved" ["form"] (sp_halved cF)) (C7 : CalD P w K mg base (L2.CX P w) 4 "parted" ["form", "places"] (sp_parted cF cP) [.int 1]) (C8 : Cal P w K mg base (L2.CX P w) 4 "shown" ["form"] (sp_shown cF)) :
    Cal P w K mg base CX0 7 "_law_told" ["_law_word", "_law_one", "_law_other", "_law_load"] sp__law_told := by
  obtain ⟨_, _, G_turned, g_turned, k_turned, b_turned⟩ := C1
  obtain ⟨_, _, G_form_of, g_form_of, k_form_of, b_form_of⟩ := C2
  obtain ⟨_, _, G_added, g_added, k_added, b_added⟩ := C3
  obtain ⟨_, _, G_multiplied, g_multiplied, k_multiplied, b_multiplied⟩ := C4
  obtain ⟨_, _, G_read, g_read, k_read, b_read⟩ := C5
  obtain ⟨_, _, G_halved, g_halved, k_halved, b_halved⟩ := C6
  obtain ⟨_, _, G_parted, g_parted, k_parted, b_parted, _, d_parted1, b_parted1⟩ := C7
  obtain ⟨_, _, G_shown, g_shown, k_shown, b_shown⟩ := C8
  refine S.cal fun f fd F => F.ok sc__law_told (fun vs H Q E h => ?_) (fun cdv A outer s H vs Q E hr h => ?_)
  · obtain ⟨word, load, a, b, ns, ms, rfl, _⟩ := h
    rfl
  · obtain ⟨word, load, a, b, ns, ms, rfl, fa, fb, ln, _, lm, hld, q⟩ := h
    refine ⟨_, (pss_cons (ps_if (pt_cmpR op_eq (pv 0) pe_int (nomark _)) (pss_one (ps_ret (pe_call G_form_of (hr.mono (by decide)) rfl g_form_of k_form_of b_form_of .nil passL (pa_cons (pv 3) pa_nil)))) pss_nil)
      (pss_cons (ps_if (pt_cmpR op_eq (pv 0) pe_int (nomark _)) (pss_one (ps_ret (pe_call G_added (hr.mono (by decide)) rfl g_added k_added b_added .nil passL (pa_cons (pv 1) (pa_cons (pv 2) pa_nil))))) pss_nil)
      (pss_cons (ps_if (pt_cmpR op_eq (pv 0) pe_int (nomark _)) (pss_one (ps_ret (pe_call G_added (hr.mono (by decide)) rfl g_added k_added b_added .nil passL (pa_cons (pv 1) (pa_cons (pe_call G_turned (hr.mono (by decide)) rfl g_turned k_turned b_turned .nil passL (pa_cons (pv 2) pa_nil)) pa_nil))))) pss_nil)
      (pss_cons (ps_if (pt_cmpR op_eq (pv 0) pe_int (nomark _)) (pss_one (ps_ret (pe_call G_multiplied (hr.mono (by decide)) rfl g_multiplied k_multiplied b_multiplied .nil passL (pa_cons (pv 1) (pa_cons (pe_ix ix_tup (pe_call G_parted (hr.mono (by decide)) rfl g_parted k_parted b_parted .nil passL (pa_cons (pv 2) (pa_cons pe_int pa_nil))) pe_int (fun _ _ => rfl)) pa_nil))))) pss_nil)
      (pss_cons (ps_if (pt_cmpR op_eq (pv 0) pe_int (nomark _)) (pss_one (ps_ret (pe_ix ix_tup (pe_call G_halved (hr.mono (by decide)) rfl g_halved k_halved b_halved .nil passL (pa_cons (pv 1) pa_nil)) pe_int (fun _ _ => rfl)))) pss_nil)
      (pss_cons (ps_if (pt_cmpR op_eq (pv 0) pe_int (nomark _)) (pss_one (ps_ret (pe_ix ix_tup (pe_call G_parted (hr.mono (by decide)) rfl g_parted k_parted b_parted .nil passL (pa_cons (pv 1) (pa_cons (pe_op op_mod (pv 3) pe_int) pa_nil))) pe_int (fun _ _ => rfl)))) pss_nil)
      (pss_cons (ps_if (pt_cmpR op_eq (pv 0) pe_int (nomark _)) (pss_one (ps_ret (pe_call G_read (hr.mono (by decide)) rfl g_read k_read b_read .nil passL (pa_cons (pe_call G_shown (hr.mono (by decide)) rfl g_shown k_shown b_shown .nil passL (pa_cons (pv 1) pa_nil)) pa_nil)))) pss_nil)
      (pss_one (ps_ret (pe_call G_turned (hr.mono (by decide)) rfl g_turned k_turned b_turned .nil passL (pa_cons (pv 1) pa_nil))))))))))), ?_⟩
    refine ⟨_, rfl, rfl, _, rfl, ite2 (fun h => ?_) (fun h0 => ?_)⟩
    · exact ⟨_, rfl, _, rfl, trivial, fun N e => ⟨64, by cases e; exact hld, by decide, fun H' p ls sm np fp e2 hl => q H' p ls sm np fp (by rw [dueF0 (wd h), e2]; exact (V.int.inj e).symm) (by omega)⟩, fun e => nomatch e⟩
    have h0 := wn h0
    refine ⟨_, rfl, rfl, _, rfl, ite2 (fun h => ?_) (fun h1 => ?_)⟩
    · refine ⟨_, rfl, _, rfl, .ref a, .ref b, rfl, .of fa (.of fb ⟨by omega, by omega, fun H' p ls os sm np fp so => ?_⟩)⟩
      have s1 := so.2.1
      have s2 := so.2.2.1
      exact q H' p ls sm np fp (by rw [dueF1 h0 (wd h), so.1]) (by omega)
    have h1 := wn h1
    refine ⟨_, rfl, rfl, _, rfl, ite2 (fun h => ?_) (fun h2 => ?_)⟩
    · refine ⟨_, rfl, _, rfl, .ref b, rfl, .of fb ⟨by omega, fun H1 t s1 nt ft => ⟨.ref a, .ref t, rfl, .of (show FormAt H1 a ns from ⟨s1 _ _ fa.1, fa.2⟩) (.of ft ⟨by omega, by unfold neg; rw [List.length_map]; omega, fun H' p ls os sm np fp so => ?_⟩)⟩⟩⟩
      have e1 := so.2.1
      have e2 := so.2.2.1
      unfold neg at e1
      rw [List.length_map] at e1
      exact q H' p ls (s1.trans sm) (s1.free np) fp (by rw [dueF2 h0 h1 (wd h), so.1, wt_neg]; omega) (by omega)
    have h2 := wn h2
    refine ⟨_, rfl, rfl, _, rfl, ite2 (fun h => ?_) (fun h3 => ?_)⟩
    · refine ⟨_, rfl, _, rfl, .ref b, .int 5, rfl, trivial, .of fb ⟨by omega, fun k e H1 t qa r ms1 s1 nt nq nr nqr et fq fr tr => ?_, fun e => absurd e (by decide)⟩⟩
      have e5 : k = 5 := by
        have := V.int.inj e
        omega
      subst e5
      have lt := tr.2.1
      rw [List.length_take] at lt
      refine ⟨t, _, _, _, rfl, rfl, SqT.of et, (rfl : atI [V.ref qa, .ref r] 1 = some (V.ref r)), .ref a, .ref r, rfl, .of (show FormAt H1 a ns from ⟨s1 _ _ fa.1, fa.2⟩) (.of fr ⟨by omega, by omega, fun H' p ls sm np fp hw hl => ?_⟩)⟩
      exact q H' p ls (s1.trans sm) (s1.free np) fp (by rw [dueF3 h0 h1 h2 (wd h), hw, tr.wt, (near_parts fb.2.1 5).2]) (by omega)
    have h3 := wn h3
    refine ⟨_, rfl, rfl, _, rfl, ite2 (fun h => ?_) (fun h4 => ?_)⟩
    · refine ⟨_, rfl, .ref a, rfl, .of fa ⟨by omega, fun H1 t p ls s1 nt np et fp hw hl => ⟨t, _, _, _, rfl, rfl, SqT.of et, (rfl : atI [V.ref p, .int (odd ns)] 0 = some (V.ref p)), ?_⟩⟩⟩
      have ho := odd_two ns
      exact q H1 p ls s1 np fp (by rw [dueF4 h0 h1 h2 h3 (wd h)]; omega) (by omega)
    have h4 := wn h4
    refine ⟨_, rfl, rfl, _, rfl, ite2 (fun h => ?_) (fun h5 => ?_)⟩
    · refine ⟨_, rfl, _, rfl, _, _, rfl, rfl, (by show (0 : Int) < _; decide), .ref a, .int (load % 40), rfl, trivial, .of fa ⟨by omega, fun k e H1 t qa r ms1 s1 nt nq nr nqr et fq fr tr => ?_, fun e => ?_⟩⟩
      · have e5 : (load % 40).toNat = k := by
          have := V.int.inj e
          omega
        refine ⟨t, _, _, _, rfl, rfl, SqT.of et, (rfl : atI [V.ref qa, .ref r] 0 = some (V.ref qa)), q H1 qa (ns.drop k) s1 nq fq ?_ (by rw [List.length_drop]; omega)⟩
        rw [dueF5 h0 h1 h2 h3 h4 (wd h), e5, (near_parts fa.2.1 k).1]
      · have e9 : decide (0 ≤ load % 40) = false := e
        rw [decide_eq_true (Int.emod_nonneg load (by decide))] at e9
        cases e9
    have h5 := wn h5
    refine ⟨_, rfl, rfl, _, rfl, ite2 (fun h => ?_) (fun h6 => ?_)⟩
    · have tr := tl_rd fa.2
      have lt : (txt ns).length ≤ 100000 := by
        unfold txt
        split
        · decide
        · unfold tl
          rw [List.length_reverse, List.length_map]; omega
      refine ⟨_, rfl, .ref a, rfl, .of fa ⟨by omega, fun H1 s1 => ⟨.str (tx (txt ns)), rfl, trivial, fun l e => ?_, fun l e ok H' p sm np ep => ?_, fun e => ?_⟩⟩⟩
      · have e2 : txt ns = l := tx_inj (V.str.inj e)
        rw [← e2]; exact lt
      · have e2 : txt ns = l := tx_inj (V.str.inj e)
        rw [← e2, tr.2] at ep
        exact q H' p ns (s1.trans sm) (s1.free np) ⟨ep, fa.2⟩ (by rw [dueF6 h0 h1 h2 h3 h4 h5 (wd h)]) (by omega)
      · have e2 : okT (txt ns) = false := e
        rw [tr.1] at e2
        cases e2
    have h6 := wn h6
    refine ⟨_, rfl, .ref a, rfl, .of fa ⟨by omega, fun H' p sm np fp => q H' p (neg ns) sm np fp (by rw [dueF7 h0 h1 h2 h3 h4 h5 h6, wt_neg]) (by unfold neg; rw [List.length_map]; omega)⟩⟩
abbrev s__law_due : Stmt := topS 38
abbrev N__law_due : List Str := ["_law_word", "_law_one", "_law_other", "_law_load"]
theorem sc__law_due : FnScope N__law_due ["_law_word", "_law_one", "_law_other", "_law_load"] (defScope s__law_due) := ⟨rfl, rfl, rfl, by decide +kernel, rfl, by decide +kernel, by decide +kernel⟩
def sp__law_due : Sp := fun vs H Q _ => ∃ word one other load : Int, vs = [.int word, .int one, .int other, .int load] ∧ one.natAbs < 2 ^ 64 ∧ ∀ H', Same H H' → Q (.int (dueF word one other load)) H'
theorem ok__law_due (S : Src K mg "_law_due" s__law_due ["_law_word", "_law_one", "_law_other", "_law_load"]) (C1 : Cal P w K mg base CX0 1 "_law_near" ["_law_number", "_law_places"] sp__law_near) : Cal P w K mg base CX0 2 "_law_due" ["_law_word", "_law_one", "_law_other", "_law_load"] sp__law_due := by
  obtain ⟨_, _, G__law_near, g__law_near, k__law_near, b__law_near⟩ := C1
  refine S.cal fun f fd F => F.ok sc__law_due (fun vs H Q E h => ?_) (fun cdv A outer s H vs Q E hr h => ?_)
  · obtain ⟨word, one, other, load, rfl, _⟩ := h
    rfl
  · obtain ⟨word, one, other, load, rfl, ho, q⟩ := h
    refine ⟨_, (pss_cons (ps_if (pt_cmpR op_eq (pv 0) pe_int (nomark _)) (pss_one (ps_ret (pv 3))) pss_nil)
      (pss_cons (ps_if (pt_cmpR op_eq (pv 0) pe_int (nomark _)) (pss_one (ps_ret (pe_op op_add (pv 1) (pv 2)))) pss_nil)
      (pss_cons (ps_if (pt_cmpR op_eq (pv 0) pe_int (nomark _)) (pss_one (ps_ret (pe_op op_sub (pv 1) (pv 2)))) pss_nil)
      (pss_cons (ps_if (pt_cmpR op_eq (pv 0) pe_int (nomark _)) (pss_one (ps_ret (pe_op op_mul (pv 1) (pe_ix ix_tup (pe_call G__law_near (hr.mono (by decide)) rfl g__law_near k__law_near b__law_near .nil pass0 (pa_cons (pv 2) (pa_cons pe_int pa_nil))) pe_int (fun _ _ => rfl))))) pss_nil)
      (pss_cons (ps_if (pt_cmpR op_eq (pv 0) pe_int (nomark _)) (pss_one (ps_ret (pe_op op_fdiv (pv 1) pe_int))) pss_nil)
      (pss_cons (ps_if (pt_cmpR op_eq (pv 0) pe_int (nomark _)) (pss_one (ps_ret (pe_ix ix_tup (pe_call G__law_near (hr.mono (by decide)) rfl g__law_near k__law_near b__law_near .nil pass0 (pa_cons (pv 1) (pa_cons (pe_op op_mod (pv 3) pe_int) pa_nil))) pe_int (fun _ _ => rfl)))) pss_nil)
      (pss_cons (ps_if (pt_cmpR op_eq (pv 0) pe_int (nomark _)) (pss_one (ps_ret (pv 1))) pss_nil)
      (pss_one (ps_ret (pe_un un_neg (pv 1))))))))))), ?_⟩
    have q0 := q H (Same.refl H)
    refine ⟨_, rfl, rfl, _, rfl, ite2 (fun h => ?_) (fun h0 => ?_)⟩
    · rw [dueF0 (wd h)] at q0
      exact ⟨_, rfl, q0⟩
    have h0 := wn h0
    refine ⟨_, rfl, rfl, _, rfl, ite2 (fun h => ?_) (fun h1 => ?_)⟩
    · rw [dueF1 h0 (wd h)] at q0
      exact ⟨_, rfl, _, rfl, _, _, rfl, rfl, q0⟩
    have h1 := wn h1
    refine ⟨_, rfl, rfl, _, rfl, ite2 (fun h => ?_) (fun h2 => ?_)⟩
    · rw [dueF2 h0 h1 (wd h)] at q0
      exact ⟨_, rfl, _, rfl, _, _, rfl, rfl, q0⟩
    have h2 := wn h2
    refine ⟨_, rfl, rfl, _, rfl, ite2 (fun h => ?_) (fun h3 => ?_)⟩
    · refine ⟨_, rfl, _, rfl, other, 5, rfl, by decide, fun H1 t s1 et => ?_⟩
      have q1 := q H1 s1
      rw [dueF3 h0 h1 h2 (wd h)] at q1
      exact ⟨t, _, _, _, rfl, rfl, SqT.of et, (rfl : atI [V.int (nearK other 5), .int (other - nearK other 5 * 3 ^ 5)] 1 = some (V.int (other - nearK other 5 * 3 ^ 5))), _, _, rfl, rfl, .inl (by omega), q1⟩
    have h3 := wn h3
    refine ⟨_, rfl, rfl, _, rfl, ite2 (fun h => ?_) (fun h4 => ?_)⟩
    · rw [dueF4 h0 h1 h2 h3 (wd h)] at q0
      exact ⟨_, rfl, _, _, rfl, rfl, ⟨by decide, by decide⟩, q0⟩
    have h4 := wn h4
    refine ⟨_, rfl, rfl, _, rfl, ite2 (fun h => ?_) (fun h5 => ?_)⟩
    · have m0 := Int.emod_nonneg load (show (40 : Int) ≠ 0 by decide)
      have m1 := Int.emod_lt_of_pos load (show (0 : Int) < 40 by decide)
      refine ⟨_, rfl, _, rfl, _, _, rfl, rfl, (by show (0 : Int) < _; decide), one, (load % 40).toNat, by rw [Int.toNat_of_nonneg m0]; rfl, by omega, fun H1 t s1 et => ?_⟩
      have q1 := q H1 s1
      rw [dueF5 h0 h1 h2 h3 h4 (wd h)] at q1
      exact ⟨t, _, _, _, rfl, rfl, SqT.of et, (rfl : atI [V.int (nearK one (load % 40).toNat), .int (one - nearK one (load % 40).toNat * 3 ^ (load % 40).toNat)] 0 = some (V.int (nearK one (load % 40).toNat))), q1⟩
    have h5 := wn h5
    refine ⟨_, rfl, rfl, _, rfl, ite2 (fun h => ?_) (fun h6 => ?_)⟩
    · rw [dueF6 h0 h1 h2 h3 h4 h5 (wd h)] at q0
      exact ⟨_, rfl, q0⟩
    have h6 := wn h6
    rw [dueF7 h0 h1 h2 h3 h4 h5 h6] at q0
    exact ⟨_, rfl, _, rfl, q0⟩
end
/-! ### _law_ends, where it is so -/
section
variable {P : Program} {w : World} {K : PySem.W.Frag} {mg : Str → Option Value} {base : Heap} {cF cN : Addr}
/-- the four forms at F, the numbers that they weigh at G -/
structure Four (H : Hp) (F G : Addr) (A : Nat → Addr) (N : Nat → List Int) (L : Nat) : Prop where
  eF : H F = some (.lst (four fun k => .ref (A k)))
  eG : H G = some (.lst (four fun k => .int (wt (N k))))
  ne : F ≠ G
  f : ∀ k, k < 4 → FormAt H (A k) (N k) ∧ A k ≠ F ∧ A k ≠ G ∧ (N k).length ≤ L ∧ (wt (N k)).natAbs ≤ 10000000000000
theorem Four.same {H H' : Hp} {F G : Addr} {A : Nat → Addr} {N : Nat → List Int} {L : Nat} (h : Four H F G A N L) (s : Same H H') : Four H' F G A N L :=
  ⟨s _ _ h.eF, s _ _ h.eG, h.ne, fun k hk => ⟨⟨s _ _ (h.f k hk).1.1, (h.f k hk).1.2⟩, (h.f k hk).2⟩⟩
theorem bits64 {x : Int} (h : x.natAbs ≤ 10000000000000) : x.natAbs < 2 ^ 64 := Nat.lt_of_le_of_lt h (by decide)
abbrev s__law_ends : Stmt := topS 39
abbrev N__law_ends : List Str := ["_law_forms", "_law_numbers", "_law_k", "_law_found", "_law_j"]
theorem sc__law_ends : FnScope N__law_ends ["_law_forms", "_law_numbers"] (defScope s__law_ends) := ⟨rfl, rfl, rfl, by decide +kernel, rfl, by decide +kernel, by decide +kernel⟩
def sp__law_ends : Sp := fun vs H Q _ => ∃ (F G : Addr) (A : Nat → Addr) (N : Nat → List Int), vs = [.ref F, .ref G] ∧ Four H F G A N 10000 ∧ ∀ H', Same H H' → Q (.bl true) H'
theorem ok__law_ends (S : Src K mg "_law_ends" s__law_ends ["_law_forms", "_law_numbers"]) (B : Bi mg) (C1 : Cal P w K mg base (L2.CX P w) 4 "number_of" ["form"] (sp_number_of cF)) (C2 : Cal P w K mg base (L2.CX P w) 5 "heavier" ["one", "other"] (sp_heavier cF))
    (C3 : Cal P w K mg base CX0 1 "_law_whole" ["_law_found"] sp_is_whole) (C4 : Cal P w K mg base (L2.CX P w) 2 "form_of" ["number"] (sp_form_of cN)) : Cal P w K mg base CX0 6 "_law_ends" ["_law_forms", "_law_numbers"] sp__law_ends := by
  obtain ⟨_, _, G_number_of, g_number_of, k_number_of, b_number_of⟩ := C1
  obtain ⟨_, _, G_heavier, g_heavier, k_heavier, b_heavier⟩ := C2
  obtain ⟨_, _, G__law_whole, g__law_whole, k__law_whole, b__law_whole⟩ := C3
  obtain ⟨_, _, G_form_of, g_form_of, k_form_of, b_form_of⟩ := C4
  refine S.cal fun f fd F => F.ok sc__law_ends (fun vs H Q E h => ?_) (fun cdv A outer s H vs Q E hr h => ?_)
  · obtain ⟨F, G, A, N, rfl, _⟩ := h
    rfl
  · obtain ⟨F, G, A, N, rfl, h4, q⟩ := h
    refine ⟨_, (pss_cons (ps_for PassesOwn.never rfl (pi_range1 (by rfl) B.range (pa_cons pe_int pa_nil)) (pg_name (i := 2) sc__law_ends.nd rfl (.inl rfl))
        (pss_cons (ps_set (i := 3) sc__law_ends.nd rfl (.inl rfl) (pe_call G_number_of (hr.mono (by decide)) rfl g_number_of k_number_of b_number_of .nil passL (pa_cons (pe_ix ix_list (pv 0) (pv 2) (fun _ _ => rfl)) pa_nil)))
        (pss_cons (ps_if (PW.pt (pw_or (pt_not (pt_val (pe_call G__law_whole (hr.mono (by decide)) rfl g__law_whole k__law_whole b__law_whole .nil pass0 (pa_cons (pv 3) pa_nil)))) (pw_or (pt_cmpR op_ne (pv 3) (pe_ix ix_list (pv 1) (pv 2) (fun _ _ => rfl)) (nomark _)) (pw_or1 (pt_cmpR (op_neD hr.units) (pe_call G_form_of (hr.mono (by decide)) rfl g_form_of k_form_of b_form_of .nil passL (pa_cons (pe_ix ix_list (pv 1) (pv 2) (fun _ _ => rfl)) pa_nil)) (pe_ix ix_list (pv 0) (pv 2) (fun _ _ => rfl)) (nomark _)))))) (pss_one (ps_ret pe_bl)) pss_nil)
        (pss_one (ps_for PassesOwn.never rfl (pi_range1 (by rfl) B.range (pa_cons pe_int pa_nil)) (pg_name (i := 4) sc__law_ends.nd rfl (.inl rfl))
          (pss_cons (ps_set (i := 3) sc__law_ends.nd rfl (.inl rfl) (pe_call G_heavier (hr.mono (by decide)) rfl g_heavier k_heavier b_heavier .nil passL (pa_cons (pe_ix ix_list (pv 0) (pv 2) (fun _ _ => rfl)) (pa_cons (pe_ix ix_list (pv 0) (pv 4) (fun _ _ => rfl)) pa_nil))))
          (pss_one (ps_if (PW.pt (pw_or (pt_not (pt_val (pe_callB call_isi (by rfl) B.isinstance (by decide +kernel) (pa_cons (pv 3) (pa_cons (pe_bltn (v := .ty "bool") (by rfl) B.bool (by decide +kernel) rfl) pa_nil))))) (pw_or1 (pt_cmpR op_ne (pv 3) (pe_cmpR op_gt (pe_ix ix_list (pv 1) (pv 2) (fun _ _ => rfl)) (pe_ix ix_list (pv 1) (pv 4) (fun _ _ => rfl)) (nomark _)) (nomark _))))) (pss_one (ps_ret pe_bl)) pss_nil))))))))
      (pss_one (ps_ret pe_bl))), ?_⟩
    refine ⟨4, rfl, by decide, by decide, for_range (lo := 0) (n := 4) (D := ⟨_, _, fun _ _ => False, fun _ _ => False⟩) (fun i σ H' => ∃ k u v : Option V, σ = [some (.ref F), some (.ref G), k, u, v] ∧ Same H H') ⟨none, none, none, rfl, Same.refl _⟩ ?_ ?_⟩
    · rintro i σ H1 hi ⟨k, u, v, rfl, s1⟩
      have g4 := h4.same s1
      have fi := g4.f i hi
      have aF : ∀ {j : Nat}, j < 4 → atI (four fun k => V.ref (A k)) (0 + (j : Int)) = some (.ref (A j)) := fun hj => at0 (four_at hj)
      have aG : ∀ {j : Nat}, j < 4 → atI (four fun k => V.int (wt (N k))) (0 + (j : Int)) = some (.int (wt (N j))) := fun hj => at0 (four_at hj)
      refine ⟨_, rfl, _, rfl, F, _, _, _, rfl, rfl, SqL.of g4.eF, aF hi, .ref (A i), rfl, .of fi.1 ?_⟩
      refine ⟨_, rfl, _, rfl, trivial, _, rfl, iteF ?_⟩
      refine ⟨_, rfl, _, rfl, _, rfl, G, _, _, _, rfl, rfl, SqL.of g4.eG, aG hi, rfl, _, rfl, ?_⟩
      rw [decide_eq_true rfl]
      refine iteF ⟨_, rfl, _, rfl, G, _, _, _, rfl, rfl, SqL.of g4.eG, aG hi, _, rfl, trivial, fun M e => ⟨64, by cases e; exact bits64 fi.2.2.2.2, by decide, fun H2 p ls s2 np fp e2 hl => ?_⟩, fun e => nomatch e⟩
      have e3 : ls = N i := form_eq fp.2 fi.1.2 (e2.trans (V.int.inj e).symm)
      subst e3
      have g5 := g4.same s2
      have s12 := s1.trans s2
      obtain ⟨d, d1, d2, d3, d4⟩ := data_ints (K := K) fp.1 (g5.f i hi).1.1
      refine ⟨_, rfl, _, rfl, F, _, _, _, rfl, rfl, SqL.of g5.eF, aF hi, d, d, d1, d2, d3, d3, _, rfl, ?_⟩
      rw [d4]
      refine iteF ⟨4, rfl, by decide, by decide, for_range (lo := 0) (n := 4) (D := ⟨_, _, fun _ _ => False, fun _ _ => False⟩) (fun j σ H' => ∃ u v : Option V, σ = [some (.ref F), some (.ref G), some (.int (0 + (i : Int))), u, v] ∧ Same H H') ⟨_, _, rfl, s12⟩ ?_ ?_⟩
      · rintro j σ H3 hj ⟨u, v, rfl, s3⟩
        have g6 := h4.same s3
        have fi := g6.f i hi
        have fj := g6.f j hj
        refine ⟨_, rfl, _, rfl, F, _, _, _, rfl, rfl, SqL.of g6.eF, aF hi, _, rfl, _, rfl, F, _, _, _, rfl, rfl, SqL.of g6.eF, aF hj, .ref (A i), .ref (A j), rfl, .of fi.1 (.of fj.1 ⟨by omega, by omega, ?_⟩)⟩
        refine ⟨_, rfl, _, _, _, _, _, rfl, .ty _, (WOk.ty (x := .bl (decide (wt (N j) < wt (N i)))) trivial), kit_ty (kit_bool (x := .bl (decide (wt (N j) < wt (N i)))) trivial), _, rfl, iteF ?_⟩
        refine ⟨_, rfl, _, rfl, _, rfl, G, _, _, _, rfl, rfl, SqL.of g6.eG, aG hi, _, rfl, _, rfl, G, _, _, _, rfl, rfl, SqL.of g6.eG, aG hj, _, _, rfl, rfl, rfl, _, rfl, ?_⟩
        rw [decide_eq_true (rfl : V.bl (decide (wt (N j) < wt (N i))) = _)]
        exact iteF ⟨_, _, rfl, s3⟩
      · rintro σ H3 ⟨u, v, rfl, s3⟩
        exact ⟨_, _, _, rfl, s3⟩
    · rintro σ H1 ⟨k, u, v, rfl, s1⟩
      exact q H1 s1
end
/-! ### the law -/
section
variable {P : Program} {w : World} {K : PySem.W.Frag} {mg : Str → Option Value} {base : Heap} {cF cP : Addr}
theorem Four.mono {H : Hp} {F G : Addr} {A : Nat → Addr} {N : Nat → List Int} {L M : Nat} (h : Four H F G A N L) (l : L ≤ M) : Four H F G A N M :=
  ⟨h.eF, h.eG, h.ne, fun k hk => let ⟨a, b, c, d, e⟩ := h.f k hk; ⟨a, b, c, Nat.le_trans d l, e⟩⟩
theorem Four.put {H : Hp} {F G md : Addr} {A : Nat → Addr} {N : Nat → List Int} {ls : List Int} {L M j : Nat} (h : Four H F G A N L) (hj : j < 4) (l : L ≤ M) (fm : FormAt H md ls) (nF : md ≠ F) (nG : md ≠ G) (hl : ls.length ≤ M) (hb : (wt ls).natAbs ≤ 10000000000000) :
    Four (upd (upd H F (.lst ((four fun k => V.ref (A k)).set j (.ref md)))) G (.lst ((four fun k => V.int (wt (N k))).set j (.int (wt ls))))) F G (fun k => if k = j then md else A k) (fun k => if k = j then ls else N k) M := by
  refine ⟨?_, ?_, h.ne, fun k hk => ?_⟩
  · rw [upd_ne h.ne, upd_same, four_set hj]
    refine congrArg (fun x => some (HO.lst x)) (four_congr fun k => ?_)
    by_cases e : k = j
    · rw [if_pos e, if_pos e]
    · rw [if_neg e, if_neg e]
  · rw [upd_same, four_set hj]
    refine congrArg (fun x => some (HO.lst x)) (four_congr fun k => ?_)
    by_cases e : k = j
    · rw [if_pos e, if_pos e]
    · rw [if_neg e, if_neg e]
  · by_cases e : k = j
    · show FormAt _ (if k = j then md else A k) (if k = j then ls else N k) ∧ (if k = j then md else A k) ≠ F ∧ (if k = j then md else A k) ≠ G ∧ (if k = j then ls else N k).length ≤ M ∧ (wt (if k = j then ls else N k)).natAbs ≤ 10000000000000
      rw [if_pos e, if_pos e]
      exact ⟨⟨by rw [upd_ne nG, upd_ne nF]; exact fm.1, fm.2⟩, nF, nG, hl, hb⟩
    · show FormAt _ (if k = j then md else A k) (if k = j then ls else N k) ∧ (if k = j then md else A k) ≠ F ∧ (if k = j then md else A k) ≠ G ∧ (if k = j then ls else N k).length ≤ M ∧ (wt (if k = j then ls else N k)).natAbs ≤ 10000000000000
      rw [if_neg e, if_neg e]
      obtain ⟨g1, g2, g3, g4, g5⟩ := h.f k hk
      exact ⟨⟨by rw [upd_ne g3, upd_ne g2]; exact g1.1, g1.2⟩, g2, g3, Nat.le_trans g4 l, g5⟩
abbrev s_law : Stmt := topS 40
abbrev N_law : List Str := ["_law_script", "_law_forms", "_law_numbers", "_law_cell", "_law_mixed", "_law_word", "_law_first", "_law_second", "_law_to", "_law_load", "_law_kept", "_law_told_here", "_law_due_here", "_law_made"]
theorem sc_law : FnScope N_law ["_law_script"] (defScope s_law) := ⟨rfl, rfl, rfl, by decide +kernel, rfl, by decide +kernel, by decide +kernel⟩
def sp_law (K : PySem.W.Frag) : Sp := fun vs H Q _ => ∃ (a : Addr) (ns : List Int), vs = [.ref a] ∧ SqL K H a (ns.map V.int) ∧ ns.length ≤ 63 ∧ ∀ H', Q (.bl true) H'
theorem ok_law {f : Addr} {fd : FuncData} (F : Fun K "law" "law" s_law f fd) (B : Bi mg) (C1 : Cal P w K mg base CX0 7 "_law_told" ["_law_word", "_law_one", "_law_other", "_law_load"] sp__law_told) (C2 : Cal P w K mg base CX0 2 "_law_due" ["_law_word", "_law_one", "_law_other", "_law_load"] sp__law_due)
    (C3 : Cal P w K mg base CX0 2 "_law_is_form" ["_law_found"] sp_is_form) (C4 : Cal P w K mg base CX0 1 "_law_weight" ["_law_lays"] sp__law_weight) (C5 : CalD P w K mg base (L2.CX P w) 4 "parted" ["form", "places"] (sp_parted cF cP) [.int 1])
    (C6 : Cal P w K mg base CX0 1 "_law_near" ["_law_number", "_law_places"] sp__law_near) (C7 : Cal P w K mg base CX0 6 "_law_ends" ["_law_forms", "_law_numbers"] sp__law_ends) : FnOk P w K mg base CX0 8 f fd ["_law_script"] (sp_law K) := by
  obtain ⟨_, _, G__law_told, g__law_told, k__law_told, b__law_told⟩ := C1
  obtain ⟨_, _, G__law_due, g__law_due, k__law_due, b__law_due⟩ := C2
  obtain ⟨_, _, G__law_is_form, g__law_is_form, k__law_is_form, b__law_is_form⟩ := C3
  obtain ⟨_, _, G__law_weight, g__law_weight, k__law_weight, b__law_weight⟩ := C4
  obtain ⟨_, _, G_parted, g_parted, k_parted, b_parted, _, d_parted1, b_parted1⟩ := C5
  obtain ⟨_, _, G__law_near, g__law_near, k__law_near, b__law_near⟩ := C6
  obtain ⟨_, _, G__law_ends, g__law_ends, k__law_ends, b__law_ends⟩ := C7
  refine F.ok sc_law (fun vs H Q E h => ?_) (fun cdv A outer s H vs Q E hr h => ?_)
  · obtain ⟨a, ns, rfl, _⟩ := h
    rfl
  · obtain ⟨a, ns, rfl, hS, hlen, q⟩ := h
    refine ⟨_, (pss_cons (ps_set (i := 1) sc_law.nd rfl (.inl rfl) (pe_lst (pa_cons (pe_lst pa_nil) (pa_cons (pe_lst pa_nil) (pa_cons (pe_lst pa_nil) (pa_cons (pe_lst pa_nil) pa_nil))))))
      (pss_cons (ps_set (i := 2) sc_law.nd rfl (.inl rfl) (pe_lst (pa_cons pe_int (pa_cons pe_int (pa_cons pe_int (pa_cons pe_int pa_nil))))))
      (pss_cons (ps_for PassesOwn.never rfl (pi_list (pv 0)) (pg_name (i := 3) sc_law.nd rfl (.inl rfl))
        (pss_cons (ps_set (i := 4) sc_law.nd rfl (.inl rfl) (pe_op op_mod (pe_op op_mul (pv 3) pe_int) (pe_op op_pow pe_int pe_int)))
        (pss_cons (ps_set (i := 5) sc_law.nd rfl (.inl rfl) (pe_op op_mod (pv 4) pe_int))
        (pss_cons (ps_set (i := 6) sc_law.nd rfl (.inl rfl) (pe_op op_mod (pe_op op_fdiv (pv 4) pe_int) pe_int))
        (pss_cons (ps_set (i := 7) sc_law.nd rfl (.inl rfl) (pe_op op_mod (pe_op op_fdiv (pv 4) pe_int) pe_int))
        (pss_cons (ps_set (i := 8) sc_law.nd rfl (.inl rfl) (pe_op op_mod (pe_op op_fdiv (pv 4) pe_int) pe_int))
        (pss_cons (ps_set (i := 9) sc_law.nd rfl (.inl rfl) (pe_op op_sub (pe_op op_fdiv (pv 4) pe_int) (pe_op op_pow pe_int pe_int)))
        (pss_cons (ps_join (ps_if (pt_cmpR op_eq (pe_op op_mod (pv 7) pe_int) pe_int (nomark _)) (pss_one (ps_set (i := 9) sc_law.nd rfl (.inl rfl) (pe_op op_sub (pe_op op_mod (pv 9) pe_int) pe_int))) pss_nil))
        (pss_cons (ps_set (i := 10) sc_law.nd rfl (.inl rfl) (pe_lst (pa_cons (pe_callTy call_list_of (by rfl) B.list (by decide +kernel) (pa_cons (pe_ix ix_list (pv 1) (pv 6) (fun _ _ => rfl)) pa_nil)) (pa_cons (pe_callTy call_list_of (by rfl) B.list (by decide +kernel) (pa_cons (pe_ix ix_list (pv 1) (pv 7) (fun _ _ => rfl)) pa_nil)) pa_nil))))
        (pss_cons (ps_set (i := 11) sc_law.nd rfl (.inl rfl) (pe_call G__law_told (hr.mono (by decide)) rfl g__law_told k__law_told b__law_told .nil pass0 (pa_cons (pv 5) (pa_cons (pe_ix ix_list (pv 1) (pv 6) (fun _ _ => rfl)) (pa_cons (pe_ix ix_list (pv 1) (pv 7) (fun _ _ => rfl)) (pa_cons (pv 9) pa_nil))))))
        (pss_cons (ps_set (i := 12) sc_law.nd rfl (.inl rfl) (pe_call G__law_due (hr.mono (by decide)) rfl g__law_due k__law_due b__law_due .nil pass0 (pa_cons (pv 5) (pa_cons (pe_ix ix_list (pv 2) (pv 6) (fun _ _ => rfl)) (pa_cons (pe_ix ix_list (pv 2) (pv 7) (fun _ _ => rfl)) (pa_cons (pv 9) pa_nil))))))
        (pss_cons (ps_if (PW.pt (pw_or (pt_not (pt_val (pe_call G__law_is_form (hr.mono (by decide)) rfl g__law_is_form k__law_is_form b__law_is_form .nil pass0 (pa_cons (pv 11) pa_nil)))) (pw_or1 (pt_cmpR op_ne (pe_call G__law_weight (hr.mono (by decide)) rfl g__law_weight k__law_weight b__law_weight .nil pass0 (pa_cons (pv 11) pa_nil)) (pv 12) (nomark _))))) (pss_one (ps_ret pe_bl)) pss_nil)
        (pss_cons (ps_join (ps_if (pt_cmpR op_gt (pe_callB call_abs (by rfl) B.abs (by decide +kernel) (pa_cons (pv 12) pa_nil)) (pe_op op_pow pe_int pe_int) (nomark _)) (pss_cons (ps_set (i := 11) sc_law.nd rfl (.inl rfl) (pe_ix ix_tup (pe_call G_parted (hr.mono (by decide)) rfl g_parted k_parted b_parted .nil passL (pa_cons (pv 11) (pa_cons pe_int pa_nil))) pe_int (fun _ _ => rfl)))
          (pss_cons (ps_set (i := 12) sc_law.nd rfl (.inl rfl) (pe_ix ix_tup (pe_call G__law_near (hr.mono (by decide)) rfl g__law_near k__law_near b__law_near .nil pass0 (pa_cons (pv 12) (pa_cons pe_int pa_nil))) pe_int (fun _ _ => rfl)))
          (pss_one (ps_if (PW.pt (pw_or (pt_not (pt_val (pe_call G__law_is_form (hr.mono (by decide)) rfl g__law_is_form k__law_is_form b__law_is_form .nil pass0 (pa_cons (pv 11) pa_nil)))) (pw_or1 (pt_cmpR op_ne (pe_call G__law_weight (hr.mono (by decide)) rfl g__law_weight k__law_weight b__law_weight .nil pass0 (pa_cons (pv 11) pa_nil)) (pv 12) (nomark _))))) (pss_one (ps_ret pe_bl)) pss_nil)))) pss_nil))
        (pss_cons (ps_set (i := 13) sc_law.nd rfl (.inl rfl) (pe_callTy call_list_of (by rfl) B.list (by decide +kernel) (pa_cons (pv 11) pa_nil)))
        (pss_cons (ps_expr (pe_bm PySem.F.plainAttrs_list PySem.F.slot_list_append PySem.F.type_list_append mt_append (pv 11) (pa_cons pe_int pa_nil)))
        (pss_cons (ps_if (PW.pt (pw_or (pt_cmpR (op_neD hr.units) (pe_ix ix_list (pv 1) (pv 6) (fun _ _ => rfl)) (pe_ix ix_list (pv 10) pe_int (fun _ _ => rfl)) (nomark _)) (pw_or1 (pt_cmpR (op_neD hr.units) (pe_ix ix_list (pv 1) (pv 7) (fun _ _ => rfl)) (pe_ix ix_list (pv 10) pe_int (fun _ _ => rfl)) (nomark _))))) (pss_one (ps_ret pe_bl)) pss_nil)
        (pss_cons (ps_asg (pv 13) (pg_sub (pv 1) (pv 8) set_list))
        (pss_one (ps_asg (pv 12) (pg_sub (pv 2) (pv 8) set_list))))))))))))))))))))
      (pss_one (ps_ret (pe_call G__law_ends (hr.mono (by decide)) rfl g__law_ends k__law_ends b__law_ends .nil pass0 (pa_cons (pv 1) (pa_cons (pv 2) pa_nil)))))))), ?_⟩
    refine ⟨Nat.zero_le _, fun e0 n0 => ⟨Nat.zero_le _, fun e1 n1 => ⟨Nat.zero_le _, fun e2 n2 => ⟨Nat.zero_le _, fun e3 n3 => ⟨small' (by simp), fun F nF => ⟨small' (by simp), fun G nG => ?_⟩⟩⟩⟩⟩⟩
    have k0 := same_upd (o := .lst []) n0
    have k1 := same_upd (o := .lst []) n1
    have k2 := same_upd (o := .lst []) n2
    have k3 := same_upd (o := .lst []) n3
    have k4 := same_upd (o := .lst [V.ref e0, .ref e1, .ref e2, .ref e3]) nF
    have k5 := same_upd (o := .lst [V.int 0, .int 0, .int 0, .int 0]) nG
    have t3 := k0.trans (k1.trans (k2.trans k3))
    have nF0 : H F = none := t3.free nF
    have nG0 : H G = none := (t3.trans k4).free nG
    have t5 := t3.trans (k4.trans k5)
    have eF := k5 _ _ (upd_same (H := upd (upd (upd (upd H e0 (.lst [])) e1 (.lst [])) e2 (.lst [])) e3 (.lst [])) (a := F) (o := .lst [V.ref e0, .ref e1, .ref e2, .ref e3]))
    have eG := upd_same (H := upd (upd (upd (upd (upd H e0 (.lst [])) e1 (.lst [])) e2 (.lst [])) e3 (.lst [])) F (.lst [V.ref e0, .ref e1, .ref e2, .ref e3])) (a := G) (o := .lst [V.int 0, .int 0, .int 0, .int 0])
    have neFG : F ≠ G := fun e => by
      rw [← e, upd_same] at nG
      cases nG
    have a0 := k3 _ _ (k2 _ _ (k1 _ _ (upd_same (H := H) (a := e0) (o := .lst []))))
    have a1 := k3 _ _ (k2 _ _ (upd_same (H := upd H e0 (.lst [])) (a := e1) (o := .lst [])))
    have a2 := k3 _ _ (upd_same (H := upd (upd H e0 (.lst [])) e1 (.lst [])) (a := e2) (o := .lst []))
    have a3 := upd_same (H := upd (upd (upd H e0 (.lst [])) e1 (.lst [])) e2 (.lst [])) (a := e3) (o := .lst [])
    have ini : ∀ {e : Addr}, upd (upd (upd (upd H e0 (.lst [])) e1 (.lst [])) e2 (.lst [])) e3 (.lst []) e = some (.lst []) →
        FormAt (upd (upd (upd (upd (upd (upd H e0 (.lst [])) e1 (.lst [])) e2 (.lst [])) e3 (.lst [])) F (.lst [V.ref e0, .ref e1, .ref e2, .ref e3])) G (.lst [V.int 0, .int 0, .int 0, .int 0])) e [] ∧ e ≠ F ∧ e ≠ G ∧ ([] : List Int).length ≤ 100 + 10 * 0 ∧ (wt []).natAbs ≤ 10000000000000 := fun {e} h => by
      refine ⟨⟨k5 _ _ (k4 _ _ h), lays_nil, by simp⟩, fun q => ?_, fun q => ?_, by decide, by decide⟩
      · rw [q, nF] at h
        cases h
      · have h2 := k4 _ _ h
        rw [q, nG] at h2
        cases h2
    have four0 : Four (upd (upd (upd (upd (upd (upd H e0 (.lst [])) e1 (.lst [])) e2 (.lst [])) e3 (.lst [])) F (.lst [V.ref e0, .ref e1, .ref e2, .ref e3])) G (.lst [V.int 0, .int 0, .int 0, .int 0])) F G (fun k => [e0, e1, e2, e3].getD k e0) (fun _ => []) (100 + 10 * 0) := by
      refine ⟨eF, eG, neFG, fun k hk => ?_⟩
      have hk2 : k = 0 ∨ k = 1 ∨ k = 2 ∨ k = 3 := by omega
      rcases hk2 with e | e | e | e <;> subst e
      · exact ini a0
      · exact ini a1
      · exact ini a2
      · exact ini a3
    generalize upd (upd (upd (upd (upd (upd H e0 (.lst [])) e1 (.lst [])) e2 (.lst [])) e3 (.lst [])) F (.lst [V.ref e0, .ref e1, .ref e2, .ref e3])) G (.lst [V.int 0, .int 0, .int 0, .int 0]) = H0 at t5 four0 ⊢
    refine ⟨_, rfl, a, rfl, ⟨_, t5.seq hS⟩, for_list (K := K) (a := a) (xs := ns.map V.int) (D := ⟨_, _, fun _ _ => False, fun _ _ => False⟩) (fun i σ H' => ∃ (A : Nat → Addr) (N : Nat → List Int) (c m w f s t l k u d v : Option V), σ = [some (.ref a), some (.ref F), some (.ref G), c, m, w, f, s, t, l, k, u, d, v] ∧ Same H H' ∧ Four H' F G A N (100 + 10 * i))
      ⟨_, _, none, none, none, none, none, none, none, none, none, none, none, rfl, t5, four0⟩ (fun i σ H' _ ⟨_, _, _, _, _, _, _, _, _, _, _, _, _, _, sm, _⟩ => sm.seq hS) ?_ ?_⟩
    · rintro i y σ H1 hi ⟨A, N, c, m, w, f, s, t, l, k, u, d, v, rfl, sm, g4⟩
      obtain ⟨z, hz, rfl⟩ := ints_get hi
      have hi63 : i < ns.length := (List.getElem?_eq_some_iff.mp hz).1
      -- what is drawn
      refine ⟨_, rfl, _, _, rfl, rfl, .inr (by decide), _, _, rfl, rfl, ⟨by decide, by decide, by decide⟩, _, _, rfl, rfl, Int.pow_pos (by decide), ?_⟩
      have p15 : (10 : Int) ^ (15 : Int).toNat = 1000000000000000 := by decide
      have b0 := Int.emod_nonneg (z * 381966011250107) (show (10 : Int) ^ (15 : Int).toNat ≠ 0 by rw [p15]; decide)
      have b1 := Int.emod_lt_of_pos (z * 381966011250107) (show (0 : Int) < 10 ^ (15 : Int).toNat by rw [p15]; decide)
      dsimp only
      generalize z * 381966011250107 % 10 ^ (15 : Int).toNat = mx at b0 b1 ⊢
      rw [p15] at b1
      refine ⟨_, rfl, _, _, rfl, rfl, (by show (0 : Int) < _; decide), ?_⟩
      refine ⟨_, rfl, _, _, rfl, rfl, ⟨by decide, by decide⟩, _, _, rfl, rfl, (by show (0 : Int) < _; decide), ?_⟩
      refine ⟨_, rfl, _, _, rfl, rfl, ⟨by decide, by decide⟩, _, _, rfl, rfl, (by show (0 : Int) < _; decide), ?_⟩
      refine ⟨_, rfl, _, _, rfl, rfl, ⟨by decide, by decide⟩, _, _, rfl, rfl, (by show (0 : Int) < _; decide), ?_⟩
      refine ⟨_, rfl, _, _, rfl, rfl, ⟨by decide, by decide⟩, _, _, rfl, rfl, ⟨by decide, by decide, by decide⟩, _, _, rfl, rfl, ?_⟩
      have p12 : (10 : Int) ^ (12 : Int).toNat = 1000000000000 := by decide
      have lb : (mx / 512 - 10 ^ (12 : Int).toNat).natAbs < 2 ^ 64 := by rw [p12]; omega
      dsimp only
      generalize mx / 512 - 10 ^ (12 : Int).toNat = ld0 at lb ⊢
      generalize mx % 8 = wrd
      have f0 := Int.emod_nonneg (mx / 8) (show (4 : Int) ≠ 0 by decide)
      have f1 := Int.emod_lt_of_pos (mx / 8) (show (0 : Int) < 4 by decide)
      generalize mx / 8 % 4 = fi at f0 f1 ⊢
      obtain ⟨j1, rfl⟩ : ∃ n : Nat, fi = (n : Int) := ⟨fi.toNat, (Int.toNat_of_nonneg f0).symm⟩
      have f0 := Int.emod_nonneg (mx / 32) (show (4 : Int) ≠ 0 by decide)
      have f2 := Int.emod_lt_of_pos (mx / 32) (show (0 : Int) < 4 by decide)
      generalize mx / 32 % 4 = fi at f0 f2 ⊢
      obtain ⟨j2, rfl⟩ : ∃ n : Nat, fi = (n : Int) := ⟨fi.toNat, (Int.toNat_of_nonneg f0).symm⟩
      have f0 := Int.emod_nonneg (mx / 128) (show (4 : Int) ≠ 0 by decide)
      have f3 := Int.emod_lt_of_pos (mx / 128) (show (0 : Int) < 4 by decide)
      generalize mx / 128 % 4 = fi at f0 f3 ⊢
      obtain ⟨j3, rfl⟩ : ∃ n : Nat, fi = (n : Int) := ⟨fi.toNat, (Int.toNat_of_nonneg f0).symm⟩
      have h1 : j1 < 4 := by omega
      have h2 : j2 < 4 := by omega
      have h3 : j3 < 4 := by omega
      have aF : ∀ {j : Nat}, j < 4 → atI (four fun k => V.ref (A k)) (j : Int) = some (.ref (A j)) := fun hj => atI_nat (four_at hj)
      have aG : ∀ {j : Nat}, j < 4 → atI (four fun k => V.int (wt (N k))) (j : Int) = some (.int (wt (N j))) := fun hj => atI_nat (four_at hj)
      refine ⟨fun σ' H' => ∃ ld : Int, σ' = [some (.ref a), some (.ref F), some (.ref G), some (.int z), some (.int mx), some (.int wrd), some (.int (j1 : Int)), some (.int (j2 : Int)), some (.int (j3 : Int)), some (.int ld), k, u, d, v] ∧ H' = H1 ∧ ld.natAbs < 2 ^ 64, ?_, ?_⟩
      · rintro σ' H' ⟨ld, rfl, rfl, hld⟩
        -- kept
        refine ⟨_, rfl, _, rfl, F, _, _, _, rfl, rfl, SqL.of g4.eF, aF h1, A j1, _, rfl, .inl (SqL.of (g4.f j1 h1).1.1), fun x nx => ?_⟩
        have k7 := same_upd (o := .lst ((N j1).map V.int)) nx
        refine ⟨_, rfl, _, rfl, F, _, _, _, rfl, rfl, SqL.of (k7 _ _ g4.eF), aF h2, A j2, _, rfl, .inl (SqL.of (k7 _ _ (g4.f j2 h2).1.1)), fun y ny => ⟨small' (by simp), fun kp nkp => ?_⟩⟩
        have k8 := same_upd (o := .lst ((N j2).map V.int)) ny
        have k9 := same_upd (o := .lst [V.ref x, .ref y]) nkp
        have u9 := k7.trans (k8.trans k9)
        have ex := k9 _ _ (k8 _ _ (upd_same (o := .lst ((N j1).map V.int))))
        have ey := k9 _ _ (upd_same (o := .lst ((N j2).map V.int)))
        have ek := upd_same (H := upd (upd H' x (.lst ((N j1).map V.int))) y (.lst ((N j2).map V.int))) (a := kp) (o := .lst [V.ref x, .ref y])
        have s9 := sm.trans u9
        have g9 := g4.same u9
        generalize upd (upd (upd H' x (.lst ((N j1).map V.int))) y (.lst ((N j2).map V.int))) kp (.lst [.ref x, .ref y]) = H9 at s9 g9 ex ey ek ⊢
        -- told, due
        have l1 := (g9.f j1 h1).2.2.2.1
        have l2 := (g9.f j2 h2).2.2.2.1
        refine ⟨_, rfl, _, rfl, _, rfl, F, _, _, _, rfl, rfl, SqL.of g9.eF, aF h1, _, rfl, _, rfl, F, _, _, _, rfl, rfl, SqL.of g9.eF, aF h2, _, rfl, wrd, ld, A j1, A j2, N j1, N j2, rfl, (g9.f j1 h1).1, (g9.f j2 h2).1, by omega, by omega, by omega, hld, fun H10 p ls s10 np fp hw hl => ?_⟩
        have g10 := g9.same s10
        refine ⟨_, rfl, _, rfl, _, rfl, G, _, _, _, rfl, rfl, SqL.of g10.eG, aG h1, _, rfl, _, rfl, G, _, _, _, rfl, rfl, SqL.of g10.eG, aG h2, _, rfl, wrd, wt (N j1), wt (N j2), ld, rfl, bits64 (g9.f j1 h1).2.2.2.2, fun H11 s11 => ?_⟩
        generalize dueF wrd (wt (N j1)) (wt (N j2)) ld = dv at hw ⊢
        have u11 := s10.trans s11
        have fp11 : FormAt H11 p ls := ⟨s11 _ _ fp.1, fp.2⟩
        refine ⟨_, rfl, .ref p, rfl, fp11.hand, _, rfl, ?_⟩
        rw [fp11.isF]
        refine iteF ⟨_, rfl, p, ls, rfl, fp11.1, _, rfl, rfl, _, rfl, ?_⟩
        rw [decide_eq_true (congrArg V.int hw)]
        have lls : ls.length ≤ 105 + 10 * i := by omega
        refine iteF ⟨fun σ' H' => ∃ (p2 : Addr) (ls2 : List Int), σ' = [some (.ref a), some (.ref F), some (.ref G), some (.int z), some (.int mx), some (.int wrd), some (.int (j1 : Int)), some (.int (j2 : Int)), some (.int (j3 : Int)), some (.int ld), some (.ref kp), some (.ref p2), some (.int (wt ls2)), v] ∧ Same H9 H' ∧ FormAt H' p2 ls2 ∧ (wt ls2).natAbs ≤ 10000000000000 ∧ ls2.length ≤ 105 + 10 * i ∧ H9 p2 = none, ?_, ?_⟩
        · rintro σ' H12 ⟨p2, ls2, rfl, u12, fp2, hb2, hl2, np2⟩
          -- made, told.append(5)
          refine ⟨_, rfl, p2, _, rfl, .inl (SqL.of fp2.1), fun md nmd => ?_⟩
          have k13 := same_upd (o := .lst (ls2.map V.int)) nmd
          have u13 := u12.trans k13
          have ep2 := k13 _ _ fp2.1
          have emd := upd_same (H := H12) (a := md) (o := .lst (ls2.map V.int))
          have nmd9 : H9 md = none := u12.free nmd
          have nmp : md ≠ p2 := fun e => by
            rw [e, fp2.1] at nmd
            cases nmd
          generalize upd H12 md (.lst (ls2.map V.int)) = H13 at u13 ep2 emd ⊢
          refine ⟨_, rfl, .inl ⟨rfl, _, SqL.of ep2⟩, p2, _, _, rfl, rfl, ep2, small (ints_len (by omega)), ?_⟩
          have u14 := same_put (o := .lst (ls2.map V.int ++ [V.int 5])) u13 np2
          have emd14 : upd H13 p2 (.lst (ls2.map V.int ++ [V.int 5])) md = some (.lst (ls2.map V.int)) := by rw [upd_ne nmp]; exact emd
          generalize upd H13 p2 (.lst (ls2.map V.int ++ [V.int 5])) = H14 at u14 emd14 ⊢
          have g14 := g9.same u14
          obtain ⟨d, d1, d2, d3, d4⟩ := data_ints (K := K) (g14.f j1 h1).1.1 (u14 _ _ ex)
          refine ⟨_, rfl, _, rfl, F, _, _, _, rfl, rfl, SqL.of g14.eF, aF h1, _, rfl, kp, _, _, _, rfl, rfl, SqL.of (u14 _ _ ek), (rfl : atI [V.ref x, V.ref y] 0 = some (V.ref x)), d, d, d1, d2, d3, d3, _, rfl, ?_⟩
          rw [d4]
          obtain ⟨d', d1', d2', d3', d4'⟩ := data_ints (K := K) (g14.f j2 h2).1.1 (u14 _ _ ey)
          refine iteF ⟨_, rfl, _, rfl, F, _, _, _, rfl, rfl, SqL.of g14.eF, aF h2, _, rfl, kp, _, _, _, rfl, rfl, SqL.of (u14 _ _ ek), (rfl : atI [V.ref x, V.ref y] 1 = some (V.ref y)), d', d', d1', d2', d3', d3', _, rfl, ?_⟩
          rw [d4']
          -- put
          have nmF : md ≠ F := fun e => by
            rw [e, g9.eF] at nmd9
            cases nmd9
          have nmG : md ≠ G := fun e => by
            rw [e, g9.eG] at nmd9
            cases nmd9
          refine iteF ⟨_, rfl, _, rfl, _, rfl, F, _, _, j3, rfl, rfl, g14.eF, four_ix h3, ?_⟩
          refine ⟨_, rfl, _, rfl, _, rfl, G, _, _, j3, rfl, rfl, by rw [upd_ne g14.ne.symm]; exact g14.eG, four_ix h3, ?_⟩
          exact ⟨_, _, _, _, _, _, _, _, _, _, _, _, _, rfl, same_put (same_put (s9.trans u14) nF0) nG0, g14.put h3 (by omega) ⟨emd14, fp2.2⟩ nmF nmG (by omega) hb2⟩
        · have p13 : (10 : Int) ^ (13 : Int).toNat = 10000000000000 := by decide
          refine ⟨_, rfl, _, rfl, _, _, rfl, rfl, ⟨by decide, by decide, by decide⟩, _, _, rfl, rfl, _, rfl, ite2 (fun _ => ?_) (fun hb => ⟨p, ls, by rw [hw]; rfl, u11, fp11, ?_, lls, np⟩)⟩
          · refine ⟨_, rfl, .ref p, .int 27, rfl, trivial, .of fp11 ⟨by omega, fun k e H12 t qa r ms s12 nt nq nr nqr et fq fr tr => ?_, fun e => absurd e (by decide)⟩⟩
            have e9 : k = 27 := by
              have := V.int.inj e
              omega
            subst e9
            refine ⟨t, _, _, _, rfl, rfl, SqT.of et, (rfl : atI [V.ref qa, .ref r] 1 = some (V.ref r)), ?_⟩
            refine ⟨_, rfl, dv, 27, rfl, by decide, fun H13 t2 s13 et2 => ⟨t2, _, _, _, rfl, rfl, SqT.of et2, (rfl : atI [V.int (nearK dv 27), .int (dv - nearK dv 27 * 3 ^ 27)] 1 = some (V.int (dv - nearK dv 27 * 3 ^ 27))), ?_⟩⟩
            have fr13 : FormAt H13 r ms := ⟨s13 _ _ fr.1, fr.2⟩
            have hw2 : wt ms = dv - nearK dv 27 * 3 ^ 27 := by
              rw [tr.wt, ← (near_parts fp.2.1 27).2, hw]
            refine ⟨_, rfl, .ref r, rfl, fr13.hand, _, rfl, ?_⟩
            rw [fr13.isF]
            refine iteF ⟨_, rfl, r, ms, rfl, fr13.1, _, rfl, rfl, _, rfl, ?_⟩
            rw [decide_eq_true (congrArg V.int hw2)]
            have wsm := wt_small (k := 27) fr.2.1 (Nat.le_trans tr.2.1 (by rw [List.length_take]; omega))
            have p27 : (3 : Int) ^ 27 = 7625597484987 := by decide
            rw [p27] at wsm
            refine iteF ⟨r, ms, by rw [hw2]; rfl, u11.trans (s12.trans s13), fr13, by omega, ?_, u11.free nr⟩
            have := tr.2.1
            rw [List.length_take] at this
            omega
          · rw [hw]
            have hb' : ¬ ((10 : Int) ^ (13 : Int).toNat < if dv < 0 then -dv else dv) := fun h => hb (decide_eq_true h)
            rw [p13] at hb'
            split at hb' <;> omega
      · refine ⟨_, rfl, _, _, rfl, rfl, (by show (0 : Int) < _; decide), rfl, _, rfl, ite2 (fun _ => ?_) (fun _ => ⟨ld0, rfl, rfl, lb⟩)⟩
        refine ⟨_, rfl, _, _, rfl, rfl, (by show (0 : Int) < _; decide), _, _, rfl, rfl, ?_⟩
        have m0 := Int.emod_nonneg ld0 (show (2001 : Int) ≠ 0 by decide)
        have m1 := Int.emod_lt_of_pos ld0 (show (0 : Int) < 2001 by decide)
        exact ⟨ld0 % 2001 - 1000, rfl, rfl, by omega⟩
    · rintro σ H1 ⟨A, N, c, m, w, f, s, t, l, k, u, d, v, rfl, sm, g4⟩
      rw [List.length_map] at g4
      exact ⟨_, rfl, _, rfl, F, G, A, N, rfl, g4.mono (by omega), fun H' _ => q H'⟩
end
end Pz
namespace Pz
open PySem PySem.Spec PyProof.Rows L2
/-! ### what the top leaves -/
theorem all_mk {l : PySem.W.OpenLaw} {w : World} {K : PySem.W.Frag} {h : Heap} {mg : Str → Option Value} {fa cS cF cN cT cP f1 f2 f3 f4 f5 f6 f7 f8 f9 f10 f11 f12 f13 f14 f15 f16 f17 f18 f19 f20 f21 f22 f23 f24 f25 f26 f27 : Addr} (X : K.In h) (G : h.Ns mainGlobals mg) (hfa : mg "law" = some (.ref fa))
    {od1 an1 od2 an2 od3 an3 od4 an4 od5 an5 od6 an6 od7 an7 od8 an8 od9 an9 od10 an10 od11 an11 od12 an12 od13 an13 oD14 od14 an14 od15 an15 od16 an16 od17 an17 od18 an18 od19 an19 od20 an20 od21 an21 od22 an22 od23 an23 od24 an24 od25 an25 od26 an26 od27 an27 : Option Addr} {sl1 sl2 sl3 sl4 sl5 sl6 sl7 sl8 sl9 sl10 sl11 sl12 sl13 sT14 sl14 sl15 sl16 sl17 sl18 sl19 sl20 sl21 sl22 sl23 sl24 sl25 sl26 sl27 : Array (Option Value)} {oc1 kV1 dc1 pm1 cd1 ct1 oc2 kV2 dc2 pm2 cd2 ct2 oc3 kV3 dc3 pm3 cd3 ct3 oc4 kV4 dc4 pm4 cd4 ct4 oc5 kV5 dc5 pm5 cd5 ct5 oc6 kV6 dc6 pm6 cd6 ct6 oc7 kV7 dc7 pm7 cd7 ct7 oc8 kV8 dc8 pm8 cd8 ct8 oc9 kV9 dc9 pm9 cd9 ct9 oc10 kV10 dc10 pm10 cd10 ct10 oc11 kV11 dc11 pm11 cd11 ct11 oc12 kV12 dc12 pm12 cd12 ct12 oc13 kV13 dc13 pm13 cd13 ct13 oT14 oc14 kV14 dc14 pm14 cd14 ct14 oc15 kV15 dc15 pm15 cd15 ct15 oc16 kV16 dc16 pm16 cd16 ct16 oc17 kV17 dc17 pm17 cd17 ct17 oc18 kV18 dc18 pm18 cd18 ct18 oc19 kV19 dc19 pm19 cd19 ct19 oc20 kV20 dc20 pm20 cd20 ct20 oc21 kV21 dc21 pm21 cd21 ct21 oc22 kV22 dc22 pm22 cd22 ct22 oc23 kV23 dc23 pm23 cd23 ct23 oc24 kV24 dc24 pm24 cd24 ct24 oc25 kV25 dc25 pm25 cd25 ct25 oc26 kV26 dc26 pm26 cd26 ct26 oc27 kV27 dc27 pm27 cd27 ct27 : Value} {dT14 : Addr} {tk14 : Tok} {nT14 : Nat} {tkSIGNS : Tok}
    (a1 : PySem.W.nsIn K mainGlobals "is_whole" = some (some (.ref f1)))
    (l1 : K.lookup f1 = some ⟨oc1, od1, .func (PySem.W.fnOf "is_whole" "is_whole" (defArgs s_is_whole) (defBody s_is_whole) (defScope s_is_whole) .none kV1 dc1 pm1 an1 cd1 ct1), sl1⟩)
    (c1 : PySem.W.codeIn K cd1 "is_whole" = true)
    (k1 : PySem.W.keepIn K (.ref f1) = true)
    (a2 : PySem.W.nsIn K mainGlobals "is_form" = some (some (.ref f2)))
    (l2 : K.lookup f2 = some ⟨oc2, od2, .func (PySem.W.fnOf "is_form" "is_form" (defArgs s_is_form) (defBody s_is_form) (defScope s_is_form) .none kV2 dc2 pm2 an2 cd2 ct2), sl2⟩)
    (c2 : PySem.W.codeIn K cd2 "is_form" = true)
    (k2 : PySem.W.keepIn K (.ref f2) = true)
    (a3 : PySem.W.nsIn K mainGlobals "checked" = some (some (.ref f3)))
    (l3 : K.lookup f3 = some ⟨oc3, od3, .func (PySem.W.fnOf "checked" "checked" (defArgs s_checked) (defBody s_checked) (defScope s_checked) .none kV3 dc3 pm3 an3 cd3 ct3), sl3⟩)
    (c3 : PySem.W.codeIn K cd3 "checked" = true)
    (k3 : PySem.W.keepIn K (.ref f3) = true)
    (a4 : PySem.W.nsIn K mainGlobals "trimmed" = some (some (.ref f4)))
    (l4 : K.lookup f4 = some ⟨oc4, od4, .func (PySem.W.fnOf "trimmed" "trimmed" (defArgs s_trimmed) (defBody s_trimmed) (defScope s_trimmed) .none kV4 dc4 pm4 an4 cd4 ct4), sl4⟩)
    (c4 : PySem.W.codeIn K cd4 "trimmed" = true)
    (k4 : PySem.W.keepIn K (.ref f4) = true)
    (a5 : PySem.W.nsIn K mainGlobals "number_of" = some (some (.ref f5)))
    (l5 : K.lookup f5 = some ⟨oc5, od5, .func (PySem.W.fnOf "number_of" "number_of" (defArgs s_number_of) (defBody s_number_of) (defScope s_number_of) .none kV5 dc5 pm5 an5 cd5 ct5), sl5⟩)
    (c5 : PySem.W.codeIn K cd5 "number_of" = true)
    (k5 : PySem.W.keepIn K (.ref f5) = true)
    (a6 : PySem.W.nsIn K mainGlobals "form_of" = some (some (.ref f6)))
    (l6 : K.lookup f6 = some ⟨oc6, od6, .func (PySem.W.fnOf "form_of" "form_of" (defArgs s_form_of) (defBody s_form_of) (defScope s_form_of) .none kV6 dc6 pm6 an6 cd6 ct6), sl6⟩)
    (c6 : PySem.W.codeIn K cd6 "form_of" = true)
    (k6 : PySem.W.keepIn K (.ref f6) = true)
    (a7 : PySem.W.nsIn K mainGlobals "lay_at" = some (some (.ref f7)))
    (l7 : K.lookup f7 = some ⟨oc7, od7, .func (PySem.W.fnOf "lay_at" "lay_at" (defArgs s_lay_at) (defBody s_lay_at) (defScope s_lay_at) .none kV7 dc7 pm7 an7 cd7 ct7), sl7⟩)
    (c7 : PySem.W.codeIn K cd7 "lay_at" = true)
    (k7 : PySem.W.keepIn K (.ref f7) = true)
    (a8 : PySem.W.nsIn K mainGlobals "turned" = some (some (.ref f8)))
    (l8 : K.lookup f8 = some ⟨oc8, od8, .func (PySem.W.fnOf "turned" "turned" (defArgs s_turned) (defBody s_turned) (defScope s_turned) .none kV8 dc8 pm8 an8 cd8 ct8), sl8⟩)
    (c8 : PySem.W.codeIn K cd8 "turned" = true)
    (k8 : PySem.W.keepIn K (.ref f8) = true)
    (a9 : PySem.W.nsIn K mainGlobals "parting" = some (some (.ref f9)))
    (l9 : K.lookup f9 = some ⟨oc9, od9, .func (PySem.W.fnOf "parting" "parting" (defArgs s_parting) (defBody s_parting) (defScope s_parting) .none kV9 dc9 pm9 an9 cd9 ct9), sl9⟩)
    (c9 : PySem.W.codeIn K cd9 "parting" = true)
    (k9 : PySem.W.keepIn K (.ref f9) = true)
    (a10 : PySem.W.nsIn K mainGlobals "heavier" = some (some (.ref f10)))
    (l10 : K.lookup f10 = some ⟨oc10, od10, .func (PySem.W.fnOf "heavier" "heavier" (defArgs s_heavier) (defBody s_heavier) (defScope s_heavier) .none kV10 dc10 pm10 an10 cd10 ct10), sl10⟩)
    (c10 : PySem.W.codeIn K cd10 "heavier" = true)
    (k10 : PySem.W.keepIn K (.ref f10) = true)
    (a11 : PySem.W.nsIn K mainGlobals "walked" = some (some (.ref f11)))
    (l11 : K.lookup f11 = some ⟨oc11, od11, .func (PySem.W.fnOf "walked" "walked" (defArgs s_walked) (defBody s_walked) (defScope s_walked) .none kV11 dc11 pm11 an11 cd11 ct11), sl11⟩)
    (c11 : PySem.W.codeIn K cd11 "walked" = true)
    (k11 : PySem.W.keepIn K (.ref f11) = true)
    (a12 : PySem.W.nsIn K mainGlobals "added" = some (some (.ref f12)))
    (l12 : K.lookup f12 = some ⟨oc12, od12, .func (PySem.W.fnOf "added" "added" (defArgs s_added) (defBody s_added) (defScope s_added) .none kV12 dc12 pm12 an12 cd12 ct12), sl12⟩)
    (c12 : PySem.W.codeIn K cd12 "added" = true)
    (k12 : PySem.W.keepIn K (.ref f12) = true)
    (a13 : PySem.W.nsIn K mainGlobals "halved" = some (some (.ref f13)))
    (l13 : K.lookup f13 = some ⟨oc13, od13, .func (PySem.W.fnOf "halved" "halved" (defArgs s_halved) (defBody s_halved) (defScope s_halved) .none kV13 dc13 pm13 an13 cd13 ct13), sl13⟩)
    (c13 : PySem.W.codeIn K cd13 "halved" = true)
    (k13 : PySem.W.keepIn K (.ref f13) = true)
    (a14 : PySem.W.nsIn K mainGlobals "parted" = some (some (.ref f14)))
    (l14 : K.lookup f14 = some ⟨oc14, od14, .func (PySem.W.fnOf "parted" "parted" (defArgs s_parted) (defBody s_parted) (defScope s_parted) (.ref dT14) kV14 dc14 pm14 an14 cd14 ct14), sl14⟩)
    (y14 : K.lookup dT14 = some ⟨oT14, oD14, .seq #[.int 1 tk14] nT14, sT14⟩)
    (c14 : PySem.W.codeIn K cd14 "parted" = true)
    (k14 : PySem.W.keepIn K (.ref f14) = true)
    (a15 : PySem.W.nsIn K mainGlobals "shifted" = some (some (.ref f15)))
    (l15 : K.lookup f15 = some ⟨oc15, od15, .func (PySem.W.fnOf "shifted" "shifted" (defArgs s_shifted) (defBody s_shifted) (defScope s_shifted) .none kV15 dc15 pm15 an15 cd15 ct15), sl15⟩)
    (c15 : PySem.W.codeIn K cd15 "shifted" = true)
    (k15 : PySem.W.keepIn K (.ref f15) = true)
    (a16 : PySem.W.nsIn K mainGlobals "rows" = some (some (.ref f16)))
    (l16 : K.lookup f16 = some ⟨oc16, od16, .func (PySem.W.fnOf "rows" "rows" (defArgs s_rows) (defBody s_rows) (defScope s_rows) .none kV16 dc16 pm16 an16 cd16 ct16), sl16⟩)
    (c16 : PySem.W.codeIn K cd16 "rows" = true)
    (k16 : PySem.W.keepIn K (.ref f16) = true)
    (a17 : PySem.W.nsIn K mainGlobals "multiplied" = some (some (.ref f17)))
    (l17 : K.lookup f17 = some ⟨oc17, od17, .func (PySem.W.fnOf "multiplied" "multiplied" (defArgs s_multiplied) (defBody s_multiplied) (defScope s_multiplied) .none kV17 dc17 pm17 an17 cd17 ct17), sl17⟩)
    (c17 : PySem.W.codeIn K cd17 "multiplied" = true)
    (k17 : PySem.W.keepIn K (.ref f17) = true)
    (a18 : PySem.W.nsIn K mainGlobals "shown" = some (some (.ref f18)))
    (l18 : K.lookup f18 = some ⟨oc18, od18, .func (PySem.W.fnOf "shown" "shown" (defArgs s_shown) (defBody s_shown) (defScope s_shown) .none kV18 dc18 pm18 an18 cd18 ct18), sl18⟩)
    (c18 : PySem.W.codeIn K cd18 "shown" = true)
    (k18 : PySem.W.keepIn K (.ref f18) = true)
    (a19 : PySem.W.nsIn K mainGlobals "read" = some (some (.ref f19)))
    (l19 : K.lookup f19 = some ⟨oc19, od19, .func (PySem.W.fnOf "read" "read" (defArgs s_read) (defBody s_read) (defScope s_read) .none kV19 dc19 pm19 an19 cd19 ct19), sl19⟩)
    (c19 : PySem.W.codeIn K cd19 "read" = true)
    (k19 : PySem.W.keepIn K (.ref f19) = true)
    (a20 : PySem.W.nsIn K mainGlobals "_law_whole" = some (some (.ref f20)))
    (l20 : K.lookup f20 = some ⟨oc20, od20, .func (PySem.W.fnOf "_law_whole" "_law_whole" (defArgs s__law_whole) (defBody s__law_whole) (defScope s__law_whole) .none kV20 dc20 pm20 an20 cd20 ct20), sl20⟩)
    (c20 : PySem.W.codeIn K cd20 "_law_whole" = true)
    (k20 : PySem.W.keepIn K (.ref f20) = true)
    (a21 : PySem.W.nsIn K mainGlobals "_law_is_form" = some (some (.ref f21)))
    (l21 : K.lookup f21 = some ⟨oc21, od21, .func (PySem.W.fnOf "_law_is_form" "_law_is_form" (defArgs s__law_is_form) (defBody s__law_is_form) (defScope s__law_is_form) .none kV21 dc21 pm21 an21 cd21 ct21), sl21⟩)
    (c21 : PySem.W.codeIn K cd21 "_law_is_form" = true)
    (k21 : PySem.W.keepIn K (.ref f21) = true)
    (a22 : PySem.W.nsIn K mainGlobals "_law_weight" = some (some (.ref f22)))
    (l22 : K.lookup f22 = some ⟨oc22, od22, .func (PySem.W.fnOf "_law_weight" "_law_weight" (defArgs s__law_weight) (defBody s__law_weight) (defScope s__law_weight) .none kV22 dc22 pm22 an22 cd22 ct22), sl22⟩)
    (c22 : PySem.W.codeIn K cd22 "_law_weight" = true)
    (k22 : PySem.W.keepIn K (.ref f22) = true)
    (a23 : PySem.W.nsIn K mainGlobals "_law_near" = some (some (.ref f23)))
    (l23 : K.lookup f23 = some ⟨oc23, od23, .func (PySem.W.fnOf "_law_near" "_law_near" (defArgs s__law_near) (defBody s__law_near) (defScope s__law_near) .none kV23 dc23 pm23 an23 cd23 ct23), sl23⟩)
    (c23 : PySem.W.codeIn K cd23 "_law_near" = true)
    (k23 : PySem.W.keepIn K (.ref f23) = true)
    (a24 : PySem.W.nsIn K mainGlobals "_law_told" = some (some (.ref f24)))
    (l24 : K.lookup f24 = some ⟨oc24, od24, .func (PySem.W.fnOf "_law_told" "_law_told" (defArgs s__law_told) (defBody s__law_told) (defScope s__law_told) .none kV24 dc24 pm24 an24 cd24 ct24), sl24⟩)
    (c24 : PySem.W.codeIn K cd24 "_law_told" = true)
    (k24 : PySem.W.keepIn K (.ref f24) = true)
    (a25 : PySem.W.nsIn K mainGlobals "_law_due" = some (some (.ref f25)))
    (l25 : K.lookup f25 = some ⟨oc25, od25, .func (PySem.W.fnOf "_law_due" "_law_due" (defArgs s__law_due) (defBody s__law_due) (defScope s__law_due) .none kV25 dc25 pm25 an25 cd25 ct25), sl25⟩)
    (c25 : PySem.W.codeIn K cd25 "_law_due" = true)
    (k25 : PySem.W.keepIn K (.ref f25) = true)
    (a26 : PySem.W.nsIn K mainGlobals "_law_ends" = some (some (.ref f26)))
    (l26 : K.lookup f26 = some ⟨oc26, od26, .func (PySem.W.fnOf "_law_ends" "_law_ends" (defArgs s__law_ends) (defBody s__law_ends) (defScope s__law_ends) .none kV26 dc26 pm26 an26 cd26 ct26), sl26⟩)
    (c26 : PySem.W.codeIn K cd26 "_law_ends" = true)
    (k26 : PySem.W.keepIn K (.ref f26) = true)
    (a27 : PySem.W.nsIn K mainGlobals "law" = some (some (.ref f27)))
    (l27 : K.lookup f27 = some ⟨oc27, od27, .func (PySem.W.fnOf "law" "law" (defArgs s_law) (defBody s_law) (defScope s_law) .none kV27 dc27 pm27 an27 cd27 ct27), sl27⟩)
    (c27 : PySem.W.codeIn K cd27 "law" = true)
    (k27 : PySem.W.keepIn K (.ref f27) = true)
    (eS : PySem.W.nsIn K mainGlobals "ScaleError" = some (some (.ref cS)))
    (bS : PySem.W.subIn K (.ref cS) (.type "BaseException") = some true)
    (dS : PySem.W.hasDictIn K cS = true)
    (tS : PySem.W.typeIn K (.ref cS) = some (.type "type"))
    (hn : PySem.W.specialIn K (.builtin "object.__class__") "__get__" = some (some (.builtin "getset_descriptor.__get__")))
    (ht : PySem.W.takesIn K (.builtin "object.__class__") = some true)
    (eF : PySem.W.nsIn K mainGlobals "NoForm" = some (some (.ref cF)))
    (xF : PySem.W.excIn K cF [.type "ValueError", .type "Exception", .type "BaseException", .type "object"] "ValueError.__new__" = true)
    (qF : PySem.W.keepIn K (.ref cF) = true)
    (bF : PySem.W.subIn K (.ref cF) (.type "BaseException") = some true)
    (tF : PySem.W.typeIn K (.ref cF) = some (.type "type"))
    (sF : PySem.W.subIn K (.ref cF) (.ref cS) = some true)
    (gF : PySem.W.findIn K (.ref cF) "__getattribute__" = some (some (.builtin "BaseException.__getattribute__")))
    (uF : PySem.W.findIn K (.ref cF) "__getattr__" = some none)
    (dF : PySem.W.hasDictIn K cF = true)
    (rF : PySem.W.findIn K (.ref cF) "__class__" = some (some (.builtin "object.__class__")))
    (mF : PySem.W.mroIn K cF (.type "object") = some true)
    (vF : PySem.W.subIn K (.ref cF) (.type "ValueError") = some true)
    (wF : PySem.W.subIn K (.ref cF) (.ref cF) = some true)
    (eN : PySem.W.nsIn K mainGlobals "NoNumber" = some (some (.ref cN)))
    (xN : PySem.W.excIn K cN [.type "ValueError", .type "Exception", .type "BaseException", .type "object"] "ValueError.__new__" = true)
    (qN : PySem.W.keepIn K (.ref cN) = true)
    (bN : PySem.W.subIn K (.ref cN) (.type "BaseException") = some true)
    (tN : PySem.W.typeIn K (.ref cN) = some (.type "type"))
    (sN : PySem.W.subIn K (.ref cN) (.ref cS) = some true)
    (gN : PySem.W.findIn K (.ref cN) "__getattribute__" = some (some (.builtin "BaseException.__getattribute__")))
    (uN : PySem.W.findIn K (.ref cN) "__getattr__" = some none)
    (dN : PySem.W.hasDictIn K cN = true)
    (rN : PySem.W.findIn K (.ref cN) "__class__" = some (some (.builtin "object.__class__")))
    (mN : PySem.W.mroIn K cN (.type "object") = some true)
    (vN : PySem.W.subIn K (.ref cN) (.type "ValueError") = some true)
    (wN : PySem.W.subIn K (.ref cN) (.ref cN) = some true)
    (eT : PySem.W.nsIn K mainGlobals "NoText" = some (some (.ref cT)))
    (xT : PySem.W.excIn K cT [.type "ValueError", .type "Exception", .type "BaseException", .type "object"] "ValueError.__new__" = true)
    (qT : PySem.W.keepIn K (.ref cT) = true)
    (bT : PySem.W.subIn K (.ref cT) (.type "BaseException") = some true)
    (tT : PySem.W.typeIn K (.ref cT) = some (.type "type"))
    (sT : PySem.W.subIn K (.ref cT) (.ref cS) = some true)
    (gT : PySem.W.findIn K (.ref cT) "__getattribute__" = some (some (.builtin "BaseException.__getattribute__")))
    (uT : PySem.W.findIn K (.ref cT) "__getattr__" = some none)
    (dT : PySem.W.hasDictIn K cT = true)
    (rT : PySem.W.findIn K (.ref cT) "__class__" = some (some (.builtin "object.__class__")))
    (mT : PySem.W.mroIn K cT (.type "object") = some true)
    (vT : PySem.W.subIn K (.ref cT) (.type "ValueError") = some true)
    (wT : PySem.W.subIn K (.ref cT) (.ref cT) = some true)
    (eP : PySem.W.nsIn K mainGlobals "NoPlace" = some (some (.ref cP)))
    (xP : PySem.W.excIn K cP [.type "ValueError", .type "Exception", .type "BaseException", .type "object"] "ValueError.__new__" = true)
    (qP : PySem.W.keepIn K (.ref cP) = true)
    (bP : PySem.W.subIn K (.ref cP) (.type "BaseException") = some true)
    (tP : PySem.W.typeIn K (.ref cP) = some (.type "type"))
    (sP : PySem.W.subIn K (.ref cP) (.ref cS) = some true)
    (gP : PySem.W.findIn K (.ref cP) "__getattribute__" = some (some (.builtin "BaseException.__getattribute__")))
    (uP : PySem.W.findIn K (.ref cP) "__getattr__" = some none)
    (dP : PySem.W.hasDictIn K cP = true)
    (rP : PySem.W.findIn K (.ref cP) "__class__" = some (some (.builtin "object.__class__")))
    (mP : PySem.W.mroIn K cP (.type "object") = some true)
    (vP : PySem.W.subIn K (.ref cP) (.type "ValueError") = some true)
    (wP : PySem.W.subIn K (.ref cP) (.ref cP) = some true)
    (zFN : PySem.W.subIn K (.ref cF) (.ref cN) = some false)
    (zFT : PySem.W.subIn K (.ref cF) (.ref cT) = some false)
    (zFP : PySem.W.subIn K (.ref cF) (.ref cP) = some false)
    (zNF : PySem.W.subIn K (.ref cN) (.ref cF) = some false)
    (zNT : PySem.W.subIn K (.ref cN) (.ref cT) = some false)
    (zNP : PySem.W.subIn K (.ref cN) (.ref cP) = some false)
    (zTF : PySem.W.subIn K (.ref cT) (.ref cF) = some false)
    (zTN : PySem.W.subIn K (.ref cT) (.ref cN) = some false)
    (zTP : PySem.W.subIn K (.ref cT) (.ref cP) = some false)
    (zPF : PySem.W.subIn K (.ref cP) (.ref cF) = some false)
    (zPN : PySem.W.subIn K (.ref cP) (.ref cN) = some false)
    (zPT : PySem.W.subIn K (.ref cP) (.ref cT) = some false)
    (n_abs : PySem.W.nsIn K mainGlobals "abs" = some none)
    (n_bool : PySem.W.nsIn K mainGlobals "bool" = some none)
    (n_divmod : PySem.W.nsIn K mainGlobals "divmod" = some none)
    (n_enumerate : PySem.W.nsIn K mainGlobals "enumerate" = some none)
    (n_int : PySem.W.nsIn K mainGlobals "int" = some none)
    (n_isinstance : PySem.W.nsIn K mainGlobals "isinstance" = some none)
    (n_len : PySem.W.nsIn K mainGlobals "len" = some none)
    (n_list : PySem.W.nsIn K mainGlobals "list" = some none)
    (n_max : PySem.W.nsIn K mainGlobals "max" = some none)
    (n_range : PySem.W.nsIn K mainGlobals "range" = some none)
    (n_reversed : PySem.W.nsIn K mainGlobals "reversed" = some none)
    (n_str : PySem.W.nsIn K mainGlobals "str" = some none)
    (kSIGNS : PySem.W.nsIn K mainGlobals "SIGNS" = some (some (.str "<.>" tkSIGNS))) :
    ∃ fd : FuncData, (∀ (s : Shared) (v : Value), BindsTo s fd ⟨[v], []⟩ [("_law_script", v)]) ∧ ∀ base : Heap, K.In base → base.Ns mainGlobals mg → FnOk l.prog w K mg base CX0 8 fa fd ["_law_script"] (sp_law K) := by
  have e := hfa.symm.trans (PySem.W.mg_of X G a27)
  cases e
  have B : Bi mg := ⟨PySem.W.mg_none_of X G n_abs, PySem.W.mg_none_of X G n_bool, PySem.W.mg_none_of X G n_divmod, PySem.W.mg_none_of X G n_enumerate, PySem.W.mg_none_of X G n_int, PySem.W.mg_none_of X G n_isinstance, PySem.W.mg_none_of X G n_len, PySem.W.mg_none_of X G n_list, PySem.W.mg_none_of X G n_max, PySem.W.mg_none_of X G n_range, PySem.W.mg_none_of X G n_reversed, PySem.W.mg_none_of X G n_str⟩
  have ZF : ErrC K mg "NoForm" cF cS := ⟨PySem.W.mg_of X G eF, xF, qF, bF, tF, PySem.W.exm_ref bS dS tS sF, ⟨gF, uF, bF, dF, rF, hn, ht, mF⟩, kit_ve vF⟩
  have ZN : ErrC K mg "NoNumber" cN cS := ⟨PySem.W.mg_of X G eN, xN, qN, bN, tN, PySem.W.exm_ref bS dS tS sN, ⟨gN, uN, bN, dN, rN, hn, ht, mN⟩, kit_ve vN⟩
  have ZT : ErrC K mg "NoText" cT cS := ⟨PySem.W.mg_of X G eT, xT, qT, bT, tT, PySem.W.exm_ref bS dS tS sT, ⟨gT, uT, bT, dT, rT, hn, ht, mT⟩, kit_ve vT⟩
  have ZP : ErrC K mg "NoPlace" cP cS := ⟨PySem.W.mg_of X G eP, xP, qP, bP, tP, PySem.W.exm_ref bS dS tS sP, ⟨gP, uP, bP, dP, rP, hn, ht, mP⟩, kit_ve vP⟩
  have Z : Errs K mg cS cF cN cT cP := ⟨PySem.W.mg_of X G eS, ZF, ZN, ZT, ZP, kit_no dN tN wF zFN, kit_no dT tT wF zFT, kit_no dP tP wF zFP, kit_no dF tF wN zNF, kit_no dT tT wN zNT, kit_no dP tP wN zNP, kit_no dF tF wT zTF, kit_no dN tN wT zTN, kit_no dP tP wT zTP, kit_no dF tF wP zPF, kit_no dN tN wP zPN, kit_no dT tT wP zPT⟩
  have g_SIGNS := PySem.W.mg_of X G kSIGNS
  have S_is_whole : Src K mg "is_whole" s_is_whole ["thing"] := ⟨f1, _, fun_mk (st := s_is_whole) l1 c1 k1, PySem.W.mg_of X G a1, (fun_mk (st := s_is_whole) l1 c1 k1).binds (ps := ["thing"]) fun _ _ _ _ _ _ us hl => match us, hl with | [_], _ => rfl⟩
  have S_is_form : Src K mg "is_form" s_is_form ["thing"] := ⟨f2, _, fun_mk (st := s_is_form) l2 c2 k2, PySem.W.mg_of X G a2, (fun_mk (st := s_is_form) l2 c2 k2).binds (ps := ["thing"]) fun _ _ _ _ _ _ us hl => match us, hl with | [_], _ => rfl⟩
  have S_checked : Src K mg "checked" s_checked ["thing"] := ⟨f3, _, fun_mk (st := s_checked) l3 c3 k3, PySem.W.mg_of X G a3, (fun_mk (st := s_checked) l3 c3 k3).binds (ps := ["thing"]) fun _ _ _ _ _ _ us hl => match us, hl with | [_], _ => rfl⟩
  have S_trimmed : Src K mg "trimmed" s_trimmed ["lays"] := ⟨f4, _, fun_mk (st := s_trimmed) l4 c4 k4, PySem.W.mg_of X G a4, (fun_mk (st := s_trimmed) l4 c4 k4).binds (ps := ["lays"]) fun _ _ _ _ _ _ us hl => match us, hl with | [_], _ => rfl⟩
  have S_number_of : Src K mg "number_of" s_number_of ["form"] := ⟨f5, _, fun_mk (st := s_number_of) l5 c5 k5, PySem.W.mg_of X G a5, (fun_mk (st := s_number_of) l5 c5 k5).binds (ps := ["form"]) fun _ _ _ _ _ _ us hl => match us, hl with | [_], _ => rfl⟩
  have S_form_of : Src K mg "form_of" s_form_of ["number"] := ⟨f6, _, fun_mk (st := s_form_of) l6 c6 k6, PySem.W.mg_of X G a6, (fun_mk (st := s_form_of) l6 c6 k6).binds (ps := ["number"]) fun _ _ _ _ _ _ us hl => match us, hl with | [_], _ => rfl⟩
  have S_lay_at : Src K mg "lay_at" s_lay_at ["form", "place"] := ⟨f7, _, fun_mk (st := s_lay_at) l7 c7 k7, PySem.W.mg_of X G a7, (fun_mk (st := s_lay_at) l7 c7 k7).binds (ps := ["form", "place"]) fun _ _ _ _ _ _ us hl => match us, hl with | [_, _], _ => rfl⟩
  have S_turned : Src K mg "turned" s_turned ["form"] := ⟨f8, _, fun_mk (st := s_turned) l8 c8 k8, PySem.W.mg_of X G a8, (fun_mk (st := s_turned) l8 c8 k8).binds (ps := ["form"]) fun _ _ _ _ _ _ us hl => match us, hl with | [_], _ => rfl⟩
  have S_parting : Src K mg "parting" s_parting ["one", "other"] := ⟨f9, _, fun_mk (st := s_parting) l9 c9 k9, PySem.W.mg_of X G a9, (fun_mk (st := s_parting) l9 c9 k9).binds (ps := ["one", "other"]) fun _ _ _ _ _ _ us hl => match us, hl with | [_, _], _ => rfl⟩
  have S_heavier : Src K mg "heavier" s_heavier ["one", "other"] := ⟨f10, _, fun_mk (st := s_heavier) l10 c10 k10, PySem.W.mg_of X G a10, (fun_mk (st := s_heavier) l10 c10 k10).binds (ps := ["one", "other"]) fun _ _ _ _ _ _ us hl => match us, hl with | [_, _], _ => rfl⟩
  have S_walked : Src K mg "walked" s_walked ["one", "other"] := ⟨f11, _, fun_mk (st := s_walked) l11 c11 k11, PySem.W.mg_of X G a11, (fun_mk (st := s_walked) l11 c11 k11).binds (ps := ["one", "other"]) fun _ _ _ _ _ _ us hl => match us, hl with | [_, _], _ => rfl⟩
  have S_added : Src K mg "added" s_added ["one", "other"] := ⟨f12, _, fun_mk (st := s_added) l12 c12 k12, PySem.W.mg_of X G a12, (fun_mk (st := s_added) l12 c12 k12).binds (ps := ["one", "other"]) fun _ _ _ _ _ _ us hl => match us, hl with | [_, _], _ => rfl⟩
  have S_halved : Src K mg "halved" s_halved ["form"] := ⟨f13, _, fun_mk (st := s_halved) l13 c13 k13, PySem.W.mg_of X G a13, (fun_mk (st := s_halved) l13 c13 k13).binds (ps := ["form"]) fun _ _ _ _ _ _ us hl => match us, hl with | [_], _ => rfl⟩
  have S_parted : SrcD K mg "parted" s_parted ["form", "places"] [.int 1] := .mk1 ⟨⟨oc14, od14, .ref dT14, kV14, dc14, pm14, an14, cd14, ct14, sl14, rfl, l14, c14, .inr ⟨(by simp), dT14, _, _, nT14, rfl, y14, rfl, vals_one⟩, .inl rfl⟩, k14⟩ (PySem.W.mg_of X G a14) (fun T kV doc pm an cdv ct us its hu hi => match us, its, hu, hi with | [_], [_], _, _ => ⟨_, rfl, rfl⟩) (fun T kV doc pm an cdv ct us its hu hi => match us, its, hu, hi with | [_, _], [_], _, _ => ⟨_, rfl, rfl⟩)
  have S_shifted : Src K mg "shifted" s_shifted ["form", "place", "lay"] := ⟨f15, _, fun_mk (st := s_shifted) l15 c15 k15, PySem.W.mg_of X G a15, (fun_mk (st := s_shifted) l15 c15 k15).binds (ps := ["form", "place", "lay"]) fun _ _ _ _ _ _ us hl => match us, hl with | [_, _, _], _ => rfl⟩
  have S_rows : Src K mg "rows" s_rows ["one", "other"] := ⟨f16, _, fun_mk (st := s_rows) l16 c16 k16, PySem.W.mg_of X G a16, (fun_mk (st := s_rows) l16 c16 k16).binds (ps := ["one", "other"]) fun _ _ _ _ _ _ us hl => match us, hl with | [_, _], _ => rfl⟩
  have S_multiplied : Src K mg "multiplied" s_multiplied ["one", "other"] := ⟨f17, _, fun_mk (st := s_multiplied) l17 c17 k17, PySem.W.mg_of X G a17, (fun_mk (st := s_multiplied) l17 c17 k17).binds (ps := ["one", "other"]) fun _ _ _ _ _ _ us hl => match us, hl with | [_, _], _ => rfl⟩
  have S_shown : Src K mg "shown" s_shown ["form"] := ⟨f18, _, fun_mk (st := s_shown) l18 c18 k18, PySem.W.mg_of X G a18, (fun_mk (st := s_shown) l18 c18 k18).binds (ps := ["form"]) fun _ _ _ _ _ _ us hl => match us, hl with | [_], _ => rfl⟩
  have S_read : Src K mg "read" s_read ["text"] := ⟨f19, _, fun_mk (st := s_read) l19 c19 k19, PySem.W.mg_of X G a19, (fun_mk (st := s_read) l19 c19 k19).binds (ps := ["text"]) fun _ _ _ _ _ _ us hl => match us, hl with | [_], _ => rfl⟩
  have S__law_whole : Src K mg "_law_whole" s__law_whole ["_law_found"] := ⟨f20, _, fun_mk (st := s__law_whole) l20 c20 k20, PySem.W.mg_of X G a20, (fun_mk (st := s__law_whole) l20 c20 k20).binds (ps := ["_law_found"]) fun _ _ _ _ _ _ us hl => match us, hl with | [_], _ => rfl⟩
  have S__law_is_form : Src K mg "_law_is_form" s__law_is_form ["_law_found"] := ⟨f21, _, fun_mk (st := s__law_is_form) l21 c21 k21, PySem.W.mg_of X G a21, (fun_mk (st := s__law_is_form) l21 c21 k21).binds (ps := ["_law_found"]) fun _ _ _ _ _ _ us hl => match us, hl with | [_], _ => rfl⟩
  have S__law_weight : Src K mg "_law_weight" s__law_weight ["_law_lays"] := ⟨f22, _, fun_mk (st := s__law_weight) l22 c22 k22, PySem.W.mg_of X G a22, (fun_mk (st := s__law_weight) l22 c22 k22).binds (ps := ["_law_lays"]) fun _ _ _ _ _ _ us hl => match us, hl with | [_], _ => rfl⟩
  have S__law_near : Src K mg "_law_near" s__law_near ["_law_number", "_law_places"] := ⟨f23, _, fun_mk (st := s__law_near) l23 c23 k23, PySem.W.mg_of X G a23, (fun_mk (st := s__law_near) l23 c23 k23).binds (ps := ["_law_number", "_law_places"]) fun _ _ _ _ _ _ us hl => match us, hl with | [_, _], _ => rfl⟩
  have S__law_told : Src K mg "_law_told" s__law_told ["_law_word", "_law_one", "_law_other", "_law_load"] := ⟨f24, _, fun_mk (st := s__law_told) l24 c24 k24, PySem.W.mg_of X G a24, (fun_mk (st := s__law_told) l24 c24 k24).binds (ps := ["_law_word", "_law_one", "_law_other", "_law_load"]) fun _ _ _ _ _ _ us hl => match us, hl with | [_, _, _, _], _ => rfl⟩
  have S__law_due : Src K mg "_law_due" s__law_due ["_law_word", "_law_one", "_law_other", "_law_load"] := ⟨f25, _, fun_mk (st := s__law_due) l25 c25 k25, PySem.W.mg_of X G a25, (fun_mk (st := s__law_due) l25 c25 k25).binds (ps := ["_law_word", "_law_one", "_law_other", "_law_load"]) fun _ _ _ _ _ _ us hl => match us, hl with | [_, _, _, _], _ => rfl⟩
  have S__law_ends : Src K mg "_law_ends" s__law_ends ["_law_forms", "_law_numbers"] := ⟨f26, _, fun_mk (st := s__law_ends) l26 c26 k26, PySem.W.mg_of X G a26, (fun_mk (st := s__law_ends) l26 c26 k26).binds (ps := ["_law_forms", "_law_numbers"]) fun _ _ _ _ _ _ us hl => match us, hl with | [_, _], _ => rfl⟩
  refine ⟨PySem.W.fnOf "law" "law" (defArgs s_law) (defBody s_law) (defScope s_law) .none kV27 dc27 pm27 an27 cd27 ct27, fun s v => .of_eq rfl, fun base _ _ => ?_⟩
  have C_is_whole := ok_is_whole (P := l.prog) (w := w) (base := base) S_is_whole B
  have C_is_form := ok_is_form (P := l.prog) (w := w) (base := base) S_is_form B C_is_whole
  have C_checked := ok_checked (P := l.prog) (w := w) (base := base) S_checked C_is_form Z.F
  have C_trimmed := ok_trimmed (P := l.prog) (w := w) (base := base) S_trimmed B
  have C_number_of := ok_number_of (P := l.prog) (w := w) (base := base) S_number_of B C_checked
  have C_form_of := ok_form_of (P := l.prog) (w := w) (base := base) S_form_of B C_is_whole Z.N
  have C_lay_at := ok_lay_at (P := l.prog) (w := w) (base := base) S_lay_at B
  have C_turned := ok_turned (P := l.prog) (w := w) (base := base) S_turned C_checked
  have C_parting := ok_parting (P := l.prog) (w := w) (base := base) S_parting B C_checked C_lay_at
  have C_heavier := ok_heavier (P := l.prog) (w := w) (base := base) S_heavier C_parting C_lay_at
  have C_walked := ok_walked (P := l.prog) (w := w) (base := base) S_walked B C_lay_at C_trimmed
  have C_added := ok_added (P := l.prog) (w := w) (base := base) S_added C_checked C_walked
  have C_halved := ok_halved (P := l.prog) (w := w) (base := base) S_halved B C_checked C_added C_trimmed
  have C_parted := ok_parted (P := l.prog) (w := w) (base := base) S_parted Z.P C_checked C_trimmed C_is_whole
  have C_shifted := ok_shifted (P := l.prog) (w := w) (base := base) S_shifted B
  have C_rows := ok_rows (P := l.prog) (w := w) (base := base) S_rows B C_checked C_added C_shifted
  have C_multiplied := ok_multiplied (P := l.prog) (w := w) (base := base) S_multiplied B C_rows
  have C_shown := ok_shown (P := l.prog) (w := w) (base := base) S_shown B g_SIGNS C_checked
  have C_read := ok_read (P := l.prog) (w := w) (base := base) S_read B g_SIGNS Z.T
  have C__law_whole := ok__law_whole (P := l.prog) (w := w) (base := base) S__law_whole B
  have C__law_is_form := ok__law_is_form (P := l.prog) (w := w) (base := base) S__law_is_form B C__law_whole
  have C__law_weight := ok__law_weight (P := l.prog) (w := w) (base := base) S__law_weight B
  have C__law_near := ok__law_near (P := l.prog) (w := w) (base := base) S__law_near B
  have C__law_told := ok__law_told (P := l.prog) (w := w) (base := base) S__law_told C_turned C_form_of C_added C_multiplied C_read C_halved C_parted C_shown
  have C__law_due := ok__law_due (P := l.prog) (w := w) (base := base) S__law_due C__law_near
  have C__law_ends := ok__law_ends (P := l.prog) (w := w) (base := base) S__law_ends B C_number_of C_heavier C__law_whole C_form_of
  exact ok_law (P := l.prog) (w := w) (base := base) (fun_mk (st := s_law) l27 c27 k27) B C__law_told C__law_due C__law_is_form C__law_weight C_parted C__law_near C__law_ends
theorem walk {l : PySem.W.OpenLaw} {q : Program} {loose : List Str} {XP : (Str → Option Value) → Heap → Prop} {YP : World → Heap → Prop} {d : DefRec} {K : Params → PySem.W.Frag} (hn : l.most = some 63) (hdf : d.params.defaults = [])
    (hY : ∀ (w : World) (h : Heap), YP w h → (K w.params).In h)
    (F : ∀ (w : World) (mg : Str → Option Value) (fa : Addr) (h : Heap), (K w.params).In h → h.Ns mainGlobals mg → mg d.name = some (.ref fa) →
      ∃ fd : FuncData, (∀ (s : Shared) (u : Value), BindsTo s fd ⟨[u], []⟩ [("_law_script", u)]) ∧ ∀ base : Heap, (K w.params).In base → base.Ns mainGlobals mg → FnOk l.prog w (K w.params) mg base CX0 8 fa fd ["_law_script"] (sp_law (K w.params))) :
    PySem.W.WalkO q loose XP YP l.row.toRowW d [] (fun f vs => PySem.call f vs) :=
  L2.walk_of (n := 63) (k := 8) (x := "_law_script") (CX := fun _ => CX0) (sp := fun w => sp_law (K w.params)) hn (by decide) hdf ⟨rfl, by decide, by decide⟩ hY F (fun _ _ a ns hl _ hS => ⟨a, ns, rfl, hS, hl, fun _ => rfl⟩) fun _ _ _ _ _ z => z
end Pz
open PySem PySem.W PyProof.Rows in
set_option maxRecDepth 100000 in
set_option maxHeartbeats 0 in
theorem PySem.Challenge.cw_poisescale_k09_whole_reckoning_holds : PySem.Challenge.rw_poisescale_k09_whole_reckoning.Holds := by
  w_on; o_law; k_head; (case hw => w_witness2)
  k_fill
  refine Pz.walk (l := PySem.Challenge.rw_poisescale_k09_whole_reckoning) rfl rfl (fun w h Y => PySem.W.kIn_of Y) ?F
  case F =>
    intro w mg fa h KX G hmg
    refine' Pz.all_mk KX G hmg ?a1 ?l1 ?c1 ?k1 ?a2 ?l2 ?c2 ?k2 ?a3 ?l3 ?c3 ?k3 ?a4 ?l4 ?c4 ?k4 ?a5 ?l5 ?c5 ?k5 ?a6 ?l6 ?c6 ?k6 ?a7 ?l7 ?c7 ?k7 ?a8 ?l8 ?c8 ?k8 ?a9 ?l9 ?c9 ?k9 ?a10 ?l10 ?c10 ?k10 ?a11 ?l11 ?c11 ?k11 ?a12 ?l12 ?c12 ?k12 ?a13 ?l13 ?c13 ?k13 ?a14 ?l14 ?y14 ?c14 ?k14 ?a15 ?l15 ?c15 ?k15 ?a16 ?l16 ?c16 ?k16 ?a17 ?l17 ?c17 ?k17 ?a18 ?l18 ?c18 ?k18 ?a19 ?l19 ?c19 ?k19 ?a20 ?l20 ?c20 ?k20 ?a21 ?l21 ?c21 ?k21 ?a22 ?l22 ?c22 ?k22 ?a23 ?l23 ?c23 ?k23 ?a24 ?l24 ?c24 ?k24 ?a25 ?l25 ?c25 ?k25 ?a26 ?l26 ?c26 ?k26 ?a27 ?l27 ?c27 ?k27 ?eS ?bS ?dS ?tS ?hn ?ht ?eF ?xF ?qF ?bF ?tF ?sF ?gF ?uF ?dF ?rF ?mF ?vF ?wF ?eN ?xN ?qN ?bN ?tN ?sN ?gN ?uN ?dN ?rN ?mN ?vN ?wN ?eT ?xT ?qT ?bT ?tT ?sT ?gT ?uT ?dT ?rT ?mT ?vT ?wT ?eP ?xP ?qP ?bP ?tP ?sP ?gP ?uP ?dP ?rP ?mP ?vP ?wP ?zFN ?zFT ?zFP ?zNF ?zNT ?zNP ?zTF ?zTN ?zTP ?zPF ?zPN ?zPT ?n_abs ?n_bool ?n_divmod ?n_enumerate ?n_int ?n_isinstance ?n_len ?n_list ?n_max ?n_range ?n_reversed ?n_str ?kSIGNS
    (case a1 => k_is)
    (case l1 => k_is)
    (case c1 => k_is)
    (case k1 => k_is)
    (case a2 => k_is)
    (case l2 => k_is)
    (case c2 => k_is)
    (case k2 => k_is)
    (case a3 => k_is)
    (case l3 => k_is)
    (case c3 => k_is)
    (case k3 => k_is)
    (case a4 => k_is)
    (case l4 => k_is)
    (case c4 => k_is)
    (case k4 => k_is)
    (case a5 => k_is)
    (case l5 => k_is)
    (case c5 => k_is)
    (case k5 => k_is)
    (case a6 => k_is)
    (case l6 => k_is)
    (case c6 => k_is)
    (case k6 => k_is)
    (case a7 => k_is)
    (case l7 => k_is)
    (case c7 => k_is)
    (case k7 => k_is)
    (case a8 => k_is)
    (case l8 => k_is)
    (case c8 => k_is)
    (case k8 => k_is)
    (case a9 => k_is)
    (case l9 => k_is)
    (case c9 => k_is)
    (case k9 => k_is)
    (case a10 => k_is)
    (case l10 => k_is)
    (case c10 => k_is)
    (case k10 => k_is)
    (case a11 => k_is)
    (case l11 => k_is)
    (case c11 => k_is)
    (case k11 => k_is)
    (case a12 => k_is)
    (case l12 => k_is)
    (case c12 => k_is)
    (case k12 => k_is)
    (case a13 => k_is)
    (case l13 => k_is)
    (case c13 => k_is)
    (case k13 => k_is)
    (case a14 => k_is)
    (case l14 => k_is)
    (case y14 => k_is)
    (case c14 => k_is)
    (case k14 => k_is)
    (case a15 => k_is)
    (case l15 => k_is)
    (case c15 => k_is)
    (case k15 => k_is)
    (case a16 => k_is)
    (case l16 => k_is)
    (case c16 => k_is)
    (case k16 => k_is)
    (case a17 => k_is)
    (case l17 => k_is)
    (case c17 => k_is)
    (case k17 => k_is)
    (case a18 => k_is)
    (case l18 => k_is)
    (case c18 => k_is)
    (case k18 => k_is)
    (case a19 => k_is)
    (case l19 => k_is)
    (case c19 => k_is)
    (case k19 => k_is)
    (case a20 => k_is)
    (case l20 => k_is)
    (case c20 => k_is)
    (case k20 => k_is)
    (case a21 => k_is)
    (case l21 => k_is)
    (case c21 => k_is)
    (case k21 => k_is)
    (case a22 => k_is)
    (case l22 => k_is)
    (case c22 => k_is)
    (case k22 => k_is)
    (case a23 => k_is)
    (case l23 => k_is)
    (case c23 => k_is)
    (case k23 => k_is)
    (case a24 => k_is)
    (case l24 => k_is)
    (case c24 => k_is)
    (case k24 => k_is)
    (case a25 => k_is)
    (case l25 => k_is)
    (case c25 => k_is)
    (case k25 => k_is)
    (case a26 => k_is)
    (case l26 => k_is)
    (case c26 => k_is)
    (case k26 => k_is)
    (case a27 => k_is)
    (case l27 => k_is)
    (case c27 => k_is)
    (case k27 => k_is)
    (case eS => k_is)
    (case bS => k_is)
    (case dS => k_is)
    (case tS => k_is)
    (case hn => k_is)
    (case ht => k_is)
    (case eF => k_is)
    (case xF => k_exc)
    (case qF => k_is)
    (case bF => k_is)
    (case tF => k_is)
    (case sF => k_is)
    (case gF => k_is)
    (case uF => k_is)
    (case dF => k_is)
    (case rF => k_is)
    (case mF => k_is)
    (case vF => k_is)
    (case wF => first | rfl | k_is)
    (case eN => k_is)
    (case xN => k_exc)
    (case qN => k_is)
    (case bN => k_is)
    (case tN => k_is)
    (case sN => k_is)
    (case gN => k_is)
    (case uN => k_is)
    (case dN => k_is)
    (case rN => k_is)
    (case mN => k_is)
    (case vN => k_is)
    (case wN => first | rfl | k_is)
    (case eT => k_is)
    (case xT => k_exc)
    (case qT => k_is)
    (case bT => k_is)
    (case tT => k_is)
    (case sT => k_is)
    (case gT => k_is)
    (case uT => k_is)
    (case dT => k_is)
    (case rT => k_is)
    (case mT => k_is)
    (case vT => k_is)
    (case wT => first | rfl | k_is)
    (case eP => k_is)
    (case xP => k_exc)
    (case qP => k_is)
    (case bP => k_is)
    (case tP => k_is)
    (case sP => k_is)
    (case gP => k_is)
    (case uP => k_is)
    (case dP => k_is)
    (case rP => k_is)
    (case mP => k_is)
    (case vP => k_is)
    (case wP => first | rfl | k_is)
    (case zFN => k_is)
    (case zFT => k_is)
    (case zFP => k_is)
    (case zNF => k_is)
    (case zNT => k_is)
    (case zNP => k_is)
    (case zTF => k_is)
    (case zTN => k_is)
    (case zTP => k_is)
    (case zPF => k_is)
    (case zPN => k_is)
    (case zPT => k_is)
    (case n_abs => k_is)
    (case n_bool => k_is)
    (case n_divmod => k_is)
    (case n_enumerate => k_is)
    (case n_int => k_is)
    (case n_isinstance => k_is)
    (case n_len => k_is)
    (case n_list => k_is)
    (case n_max => k_is)
    (case n_range => k_is)
    (case n_reversed => k_is)
    (case n_str => k_is)
    (case kSIGNS => k_is)
#print axioms PySem.Challenge.cw_poisescale_k09_whole_reckoning_holds
