import PyProof.Rows.All
import Wide.All
import OpenK.AllK
import Wide.FinOn
import HandS.ForMost
import HandS.Exc
import HandS.TryOnly
import HandS.ExcOwn
import HandS.WordsExc
import HandS.ExcIs
import HandS.IsInst
import HandS.Wide
import HandS.Defaults
import HandS.More
import HandS.Rev
import HandS.Walk
import HandS.CallSlots
import HandS.Codes
import PySem.Challenge.RW_poisescale_k04_written_and_read
set_option Elab.async false
set_option linter.all false
set_option maxRecDepth 100000
set_option maxHeartbeats 4000000
namespace Pz
open PySem PySem.Spec PyProof.Rows L2
/-! ### what stands where -/
/-- a thing of a kind that the laws hand in -/
def WOk (H : Hp) : V → Prop
  | .non => True
  | .bl _ => True
  | .int _ => True
  | .str _ => True
  | .ref a => (∃ xs, H a = some (.lst xs)) ∨ (∃ xs, H a = some (.tup xs)) ∨ (∃ kvs, H a = some (.dK kvs))
  | _ => False
def tyN (H : Hp) : V → String
  | .non => "NoneType"
  | .bl _ => "bool"
  | .int _ => "int"
  | .str _ => "str"
  | .ref a => match H a with
    | some (.lst _) => "list"
    | some (.tup _) => "tuple"
    | _ => "dict"
  | _ => "object"
theorem WOk.ty {K : PySem.W.Frag} {H : Hp} : ∀ {x : V}, WOk H x → TyX K H x (.type (tyN H x))
  | .non, _ => .base .non
  | .bl b, _ => .base (.bl b)
  | .int i, _ => .base (.int i)
  | .str z, _ => .base (.str z)
  | .ref a, h => by
    rcases h with ⟨xs, e⟩ | ⟨xs, e⟩ | ⟨kvs, e⟩
    · have q : tyN H (.ref a) = "list" := by show (match H a with | some (.lst _) => "list" | some (.tup _) => "tuple" | _ => "dict") = "list"; rw [e]
      rw [q]; exact .base (.lst e)
    · have q : tyN H (.ref a) = "tuple" := by show (match H a with | some (.lst _) => "list" | some (.tup _) => "tuple" | _ => "dict") = "tuple"; rw [e]
      rw [q]; exact .base (.tup e)
    · have q : tyN H (.ref a) = "dict" := by show (match H a with | some (.lst _) => "list" | some (.tup _) => "tuple" | _ => "dict") = "dict"; rw [e]
      rw [q]; exact .base (.dK e)
theorem tyN_ref {H : Hp} {a : Addr} : WOk H (.ref a) → tyN H (.ref a) = "list" ∨ tyN H (.ref a) = "tuple" ∨ tyN H (.ref a) = "dict" := by
  intro h
  show (match H a with | some (.lst _) => "list" | some (.tup _) => "tuple" | _ => "dict") = "list" ∨ (match H a with | some (.lst _) => "list" | some (.tup _) => "tuple" | _ => "dict") = "tuple" ∨ (match H a with | some (.lst _) => "list" | some (.tup _) => "tuple" | _ => "dict") = "dict"
  rcases h with ⟨xs, e⟩ | ⟨xs, e⟩ | ⟨kvs, e⟩
  · rw [e]; exact .inl rfl
  · rw [e]; exact .inr (.inl rfl)
  · rw [e]; exact .inr (.inr rfl)
theorem tyN_list {H : Hp} {a : Addr} {xs : List V} (e : H a = some (.lst xs)) : tyN H (.ref a) = "list" := by
  show (match H a with | some (.lst _) => "list" | some (.tup _) => "tuple" | _ => "dict") = "list"
  rw [e]
theorem tyN_tup {H : Hp} {a : Addr} {xs : List V} (e : H a = some (.tup xs)) : tyN H (.ref a) = "tuple" := by
  show (match H a with | some (.lst _) => "list" | some (.tup _) => "tuple" | _ => "dict") = "tuple"
  rw [e]
/-- a whole number, and no truth -/
def isW : V → Bool
  | .int _ => true
  | _ => false
def isB : V → Bool
  | .bl _ => true
  | _ => false
def isS : V → Bool
  | .str _ => true
  | _ => false
def isL (H : Hp) : V → Bool
  | .ref a => match H a with
    | some (.lst _) => true
    | _ => false
  | _ => false
def isT (H : Hp) : V → Bool
  | .ref a => match H a with
    | some (.tup _) => true
    | _ => false
  | _ => false
theorem isL_of {H : Hp} {a : Addr} {xs : List V} (e : H a = some (.lst xs)) : isL H (.ref a) = true := by
  show (match H a with | some (.lst _) => true | _ => false) = true
  rw [e]
theorem isT_of {H : Hp} {a : Addr} {xs : List V} (e : H a = some (.tup xs)) : isT H (.ref a) = true := by
  show (match H a with | some (.tup _) => true | _ => false) = true
  rw [e]
theorem isL_ref {H : Hp} {x : V} (h : isL H x = true) : ∃ a xs, x = .ref a ∧ H a = some (.lst xs) := by
  cases x with
  | ref a =>
    have h' : (match H a with | some (.lst _) => true | _ => false) = true := h
    split at h'
    · rename_i xs e
      exact ⟨a, xs, rfl, e⟩
    · cases h'
  | _ => cases h
theorem kb_NoneType_int : kitB "NoneType" "int" = some false := by decide +kernel
theorem kb_bool_int : kitB "bool" "int" = some true := by decide +kernel
theorem kb_int_int : kitB "int" "int" = some true := by decide +kernel
theorem kb_str_int : kitB "str" "int" = some false := by decide +kernel
theorem kb_list_int : kitB "list" "int" = some false := by decide +kernel
theorem kb_tuple_int : kitB "tuple" "int" = some false := by decide +kernel
theorem kb_dict_int : kitB "dict" "int" = some false := by decide +kernel
theorem kb_NoneType_bool : kitB "NoneType" "bool" = some false := by decide +kernel
theorem kb_bool_bool : kitB "bool" "bool" = some true := by decide +kernel
theorem kb_int_bool : kitB "int" "bool" = some false := by decide +kernel
theorem kb_str_bool : kitB "str" "bool" = some false := by decide +kernel
theorem kb_list_bool : kitB "list" "bool" = some false := by decide +kernel
theorem kb_tuple_bool : kitB "tuple" "bool" = some false := by decide +kernel
theorem kb_dict_bool : kitB "dict" "bool" = some false := by decide +kernel
theorem kb_NoneType_str : kitB "NoneType" "str" = some false := by decide +kernel
theorem kb_bool_str : kitB "bool" "str" = some false := by decide +kernel
theorem kb_int_str : kitB "int" "str" = some false := by decide +kernel
theorem kb_str_str : kitB "str" "str" = some true := by decide +kernel
theorem kb_list_str : kitB "list" "str" = some false := by decide +kernel
theorem kb_tuple_str : kitB "tuple" "str" = some false := by decide +kernel
theorem kb_dict_str : kitB "dict" "str" = some false := by decide +kernel
theorem kb_NoneType_list : kitB "NoneType" "list" = some false := by decide +kernel
theorem kb_bool_list : kitB "bool" "list" = some false := by decide +kernel
theorem kb_int_list : kitB "int" "list" = some false := by decide +kernel
theorem kb_str_list : kitB "str" "list" = some false := by decide +kernel
theorem kb_list_list : kitB "list" "list" = some true := by decide +kernel
theorem kb_tuple_list : kitB "tuple" "list" = some false := by decide +kernel
theorem kb_dict_list : kitB "dict" "list" = some false := by decide +kernel
theorem kb_NoneType_tuple : kitB "NoneType" "tuple" = some false := by decide +kernel
theorem kb_bool_tuple : kitB "bool" "tuple" = some false := by decide +kernel
theorem kb_int_tuple : kitB "int" "tuple" = some false := by decide +kernel
theorem kb_str_tuple : kitB "str" "tuple" = some false := by decide +kernel
theorem kb_list_tuple : kitB "list" "tuple" = some false := by decide +kernel
theorem kb_tuple_tuple : kitB "tuple" "tuple" = some true := by decide +kernel
theorem kb_dict_tuple : kitB "dict" "tuple" = some false := by decide +kernel
theorem kit_int {H : Hp} : ∀ {x : V}, WOk H x → kitB (tyN H x) "int" = some (isW x || isB x)
  | .non, _ => kb_NoneType_int
  | .bl _, _ => kb_bool_int
  | .int _, _ => kb_int_int
  | .str _, _ => kb_str_int
  | .ref a, h => by
    show kitB (tyN H (.ref a)) "int" = some false
    rcases tyN_ref h with e | e | e <;> rw [e]
    · exact kb_list_int
    · exact kb_tuple_int
    · exact kb_dict_int
theorem kit_bool {H : Hp} : ∀ {x : V}, WOk H x → kitB (tyN H x) "bool" = some (isB x)
  | .non, _ => kb_NoneType_bool
  | .bl _, _ => kb_bool_bool
  | .int _, _ => kb_int_bool
  | .str _, _ => kb_str_bool
  | .ref a, h => by
    show kitB (tyN H (.ref a)) "bool" = some false
    rcases tyN_ref h with e | e | e <;> rw [e]
    · exact kb_list_bool
    · exact kb_tuple_bool
    · exact kb_dict_bool
theorem kit_str {H : Hp} : ∀ {x : V}, WOk H x → kitB (tyN H x) "str" = some (isS x)
  | .non, _ => kb_NoneType_str
  | .bl _, _ => kb_bool_str
  | .int _, _ => kb_int_str
  | .str _, _ => kb_str_str
  | .ref a, h => by
    show kitB (tyN H (.ref a)) "str" = some false
    rcases tyN_ref h with e | e | e <;> rw [e]
    · exact kb_list_str
    · exact kb_tuple_str
    · exact kb_dict_str
theorem kit_list {H : Hp} : ∀ {x : V}, WOk H x → kitB (tyN H x) "list" = some (isL H x)
  | .non, _ => kb_NoneType_list
  | .bl _, _ => kb_bool_list
  | .int _, _ => kb_int_list
  | .str _, _ => kb_str_list
  | .ref a, h => by
    show kitB (match H a with | some (.lst _) => "list" | some (.tup _) => "tuple" | _ => "dict") "list" = some (match H a with | some (.lst _) => true | _ => false)
    rcases h with ⟨xs, e⟩ | ⟨xs, e⟩ | ⟨kvs, e⟩ <;> rw [e]
    · exact kb_list_list
    · exact kb_tuple_list
    · exact kb_dict_list
theorem kit_tuple {H : Hp} : ∀ {x : V}, WOk H x → kitB (tyN H x) "tuple" = some (isT H x)
  | .non, _ => kb_NoneType_tuple
  | .bl _, _ => kb_bool_tuple
  | .int _, _ => kb_int_tuple
  | .str _, _ => kb_str_tuple
  | .ref a, h => by
    show kitB (match H a with | some (.lst _) => "list" | some (.tup _) => "tuple" | _ => "dict") "tuple" = some (match H a with | some (.tup _) => true | _ => false)
    rcases h with ⟨xs, e⟩ | ⟨xs, e⟩ | ⟨kvs, e⟩ <;> rw [e]
    · exact kb_list_tuple
    · exact kb_tuple_tuple
    · exact kb_dict_tuple
theorem WOk.same {H H' : Hp} (s : Same H H') : ∀ {x : V}, WOk H x → WOk H' x
  | .non, _ => trivial
  | .bl _, _ => trivial
  | .int _, _ => trivial
  | .str _, _ => trivial
  | .ref a, h => by
    rcases h with ⟨xs, e⟩ | ⟨xs, e⟩ | ⟨kvs, e⟩
    · exact .inl ⟨xs, s _ _ e⟩
    · exact .inr (.inl ⟨xs, s _ _ e⟩)
    · exact .inr (.inr ⟨kvs, s _ _ e⟩)
theorem isL_same {H H' : Hp} (s : Same H H') : ∀ {x : V}, WOk H x → isL H' x = isL H x
  | .ref a, h => by
    show (match H' a with | some (.lst _) => true | _ => false) = (match H a with | some (.lst _) => true | _ => false)
    rcases h with ⟨xs, e⟩ | ⟨xs, e⟩ | ⟨kvs, e⟩ <;> rw [e, s _ _ e]
  | .non, _ => rfl
  | .bl _, _ => rfl
  | .int _, _ => rfl
  | .str _, _ => rfl
theorem same_upd {H : Hp} {p : Addr} {o : HO} (h : H p = Option.none) : Same H (upd H p o) := fun b x e => by
  rw [upd_ne (ne_of_none e h)]
  exact e
/-- what was free at the start stays beside what is changed there -/
theorem same_put {H H' : Hp} {p : Addr} {o : HO} (s : Same H H') (h : H p = Option.none) : Same H (upd H' p o) := fun b x e => by
  rw [upd_ne (ne_of_none e h)]
  exact s b x e
theorem ints_get {ns : List Int} {i : Nat} {x : V} (h : (ns.map V.int)[i]? = some x) : ∃ z, ns[i]? = some z ∧ x = V.int z := by
  rw [List.getElem?_map] at h
  cases e : ns[i]? with
  | none => rw [e] at h; cases h
  | some z => rw [e] at h; exact ⟨z, rfl, (Option.some.inj h).symm⟩
theorem ints_at {ns : List Int} {i : Nat} {z : Int} (h : ns[i]? = some z) : (ns.map V.int)[i]? = some (V.int z) := by
  rw [List.getElem?_map, h]; rfl
theorem take_more {α : Type} : ∀ {l : List α} {i : Nat} {x : α}, l[i]? = some x → l.take (i + 1) = l.take i ++ [x]
  | [], i, x, h => by simp at h
  | a :: l, 0, x, h => by
    have e : a = x := Option.some.inj h
    subst e
    rfl
  | a :: l, i + 1, x, h => by
    have ih := take_more (l := l) (i := i) (x := x) h
    show a :: l.take (i + 1) = a :: l.take i ++ [x]
    rw [ih]; rfl
theorem map_int_inj : ∀ {a b : List Int}, a.map V.int = b.map V.int → a = b
  | [], [], _ => rfl
  | [], _ :: _, h => by cases h
  | _ :: _, [], h => by cases h
  | x :: a, y :: b, h => by
    have h1 : V.int x = V.int y := (List.cons.inj h).1
    have h2 := map_int_inj (List.cons.inj h).2
    cases h1
    rw [h2]
/-! ### defs that stand ready to be called -/
def Cal (P : Program) (w : World) (K : PySem.W.Frag) (mg : Str → Option Value) (base : Heap) (CX : CXT) (k : Nat) (x : Str) (ps : List Str) (sp : Sp) : Prop :=
  ∃ (f : Addr) (fd : FuncData), FnOk P w K mg base CX k f fd ps sp ∧ mg x = some (.ref f) ∧ PySem.W.keepIn K (.ref f) = true ∧ L2.Binds K fd ps []
/-- a def of the text as the top leaves it -/
def Src (K : PySem.W.Frag) (mg : Str → Option Value) (x : Str) (st : Stmt) (ps : List Str) : Prop :=
  ∃ (f : Addr) (fd : FuncData), Fun K x x st f fd ∧ mg x = some (.ref f) ∧ L2.Binds K fd ps []
theorem Src.cal {P : Program} {w : World} {K : PySem.W.Frag} {mg : Str → Option Value} {base : Heap} {CX : CXT} {k : Nat} {x : Str} {st : Stmt} {ps : List Str} {sp : Sp} (S : Src K mg x st ps)
    (h : ∀ (f : Addr) (fd : FuncData), Fun K x x st f fd → FnOk P w K mg base CX k f fd ps sp) : Cal P w K mg base CX k x ps sp := by
  obtain ⟨f, fd, F, g, b⟩ := S
  exact ⟨f, fd, h f fd F, g, F.kp, b⟩
/-! ### the refusals -/
/-- an own error class under ScaleError (at S), as the top leaves it -/
structure ErrC (K : PySem.W.Frag) (mg : Str → Option Value) (x : Str) (C S : Addr) : Prop where
  g : mg x = some (.ref C)
  x : PySem.W.excIn K C [.type "ValueError", .type "Exception", .type "BaseException", .type "object"] "ValueError.__new__" = true
  k : PySem.W.keepIn K (.ref C) = true
  b : PySem.W.subIn K (.ref C) (.type "BaseException") = some true
  t : PySem.W.typeIn K (.ref C) = some (.type "type")
  m : PySem.W.exmOne K (.ref C) (.ref S) = some true
  c : ExcC K C
  v : PySem.W.kitOne K (.ref C) (.type "ValueError") = some true
theorem kit_self {K : PySem.W.Frag} {C : Addr} : PySem.W.kitOne K (.ref C) (.ref C) = some true := by
  show (if (Value.ref C == Value.ref C) = true then some true else PySem.W.kitCls K (.ref C) (.ref C)) = some true
  rw [if_pos (by simp)]
/-- a block's reading weakened -/
theorem pss_imp {X : Cx} {st : List Stmt} {t u : TS} (h : PSs X st t) (i : ∀ D σ H, u D σ H → t D σ H) : PSs X st u := ⟨fun pins s σ H D I q => h.run pins s σ H D I (i D σ H q)⟩
/-- the ways behind a statement are brought together under J -/
def tJoin (t : TS) : TS := fun D σ H => ∃ J : L2.St → Hp → Prop, (∀ σ' H', J σ' H' → D.nx σ' H') ∧ t { D with nx := J } σ H
theorem ps_join {X : Cx} {st : Stmt} {t : TS} (h : PS X st t) : PS X st (tJoin t) := by
  refine ⟨fun pins s σ H D I hw => ?_⟩
  obtain ⟨J, hJ, q⟩ := hw
  refine thn (h.run pins s σ H _ I q) fun f s' hs => ?_
  cases f with
  | next =>
    obtain ⟨σ', H', I', j⟩ := hs
    exact ⟨σ', H', I', hJ _ _ j⟩
  | _ => exact hs
/-- a slice of ints -/
def cutI (ns : List Int) (lo hi : Option Int) : List Int := (ns.drop (HT.sIx ns.length 0 lo)).take (HT.sIx ns.length ns.length hi - HT.sIx ns.length 0 lo)
theorem cut_ints (ns : List Int) (lo hi : Option Int) : cutV (ns.map V.int) lo hi = (cutI ns lo hi).map V.int := by
  unfold cutV cutI
  rw [List.length_map, List.map_take, List.map_drop]
theorem cutI_mem {ns : List Int} {lo hi : Option Int} {x : Int} (h : x ∈ cutI ns lo hi) : x ∈ ns := List.mem_of_mem_drop (List.mem_of_mem_take h)
theorem cutI_len (ns : List Int) (lo hi : Option Int) : (cutI ns lo hi).length ≤ ns.length := by
  unfold cutI
  rw [List.length_take, List.length_drop]; omega
theorem small {n : Nat} (h : n ≤ 16000000) : n < sizeLine := Nat.lt_of_le_of_lt h (by decide)
theorem small' {n : Nat} (h : n ≤ 16000000) : n ≤ sizeLine := Nat.le_of_lt (small h)
theorem ints_len {ns : List Int} {n : Nat} (h : ns.length ≤ n) : (ns.map V.int).length ≤ n := by rw [List.length_map]; exact h
/-- the own error classes -/
structure Errs (K : PySem.W.Frag) (mg : Str → Option Value) (cS cF cN cT cP : Addr) : Prop where
  gS : mg "ScaleError" = some (.ref cS)
  F : ErrC K mg "NoForm" cF cS
  N : ErrC K mg "NoNumber" cN cS
  T : ErrC K mg "NoText" cT cS
  P : ErrC K mg "NoPlace" cP cS
  FN : PySem.W.kitOne K (.ref cF) (.ref cN) = some false
  FT : PySem.W.kitOne K (.ref cF) (.ref cT) = some false
  FP : PySem.W.kitOne K (.ref cF) (.ref cP) = some false
  NF : PySem.W.kitOne K (.ref cN) (.ref cF) = some false
  NT : PySem.W.kitOne K (.ref cN) (.ref cT) = some false
  NP : PySem.W.kitOne K (.ref cN) (.ref cP) = some false
  TF : PySem.W.kitOne K (.ref cT) (.ref cF) = some false
  TN : PySem.W.kitOne K (.ref cT) (.ref cN) = some false
  TP : PySem.W.kitOne K (.ref cT) (.ref cP) = some false
  PF : PySem.W.kitOne K (.ref cP) (.ref cF) = some false
  PN : PySem.W.kitOne K (.ref cP) (.ref cN) = some false
  PT : PySem.W.kitOne K (.ref cP) (.ref cT) = some false
/-- an except suite, where the error's class is asked -/
def tCls (K : PySem.W.Frag) (cls : Value) (d : Option Addr) (t : Addr → TS) : TS := fun D σ H => ∃ D0, cls = .ref D0 ∧ d = none ∧ ExcC K D0 ∧ t D0 D σ H
theorem pss_cls {X : Cx} {cls : Value} {d : Option Addr} {oe : Obj} {st : List Stmt} {t : Addr → TS} (hz : Zc cls d oe) (h : ∀ D0, Zc (.ref D0) none oe → ExcC X.K D0 → PSs X st (t D0)) : PSs X st (tCls X.K cls d t) := by
  refine ⟨fun pins s σ H D I hw => ?_⟩
  obtain ⟨D0, rfl, rfl, xc, q⟩ := hw
  exact (h D0 hz xc).run pins s σ H D I q
def tIs (K : PySem.W.Frag) (D a : Addr) (i : Nat) (c : V) : TE := tCB (rIsE K D a) (tCons (tVar i) (tCons (tC c) tNil))
/-- if isinstance(e, c1) or isinstance(e, c2) or isinstance(e, c3): return r; return isinstance(e, c4) and isinstance(e, ValueError) -/
def tSuite (K : PySem.W.Frag) (a : Addr) (i : Nat) (c1 c2 c3 r c4 : V) : Addr → TS := fun D =>
  tSeq (tIfS (tOr (tB (tIs K D a i c1)) (tOr (tB (tIs K D a i c2)) (tB (tIs K D a i c3)))) (tRet (tC r)) tNext) (tRet (tAndV (tIs K D a i c4) (tIs K D a i (.ty "ValueError"))))
theorem suite_is {K : PySem.W.Frag} {D a c : Addr} {i : Nat} {σ : L2.St} {H : Hp} {Q : VK} {b : Bool} (hi : σ[i]? = some (some (.ref a))) (h : PySem.W.kitOne K (.ref D) (.ref c) = some b) (q : Q (.bl b) H) : tIs K D a i (.ref c) σ H Q :=
  ⟨_, hi, _, _, _, rfl, fun _ r => r, h, q⟩
theorem suite_ve {K : PySem.W.Frag} {D a : Addr} {i : Nat} {σ : L2.St} {H : Hp} {Q : VK} {b : Bool} (hi : σ[i]? = some (some (.ref a))) (h : PySem.W.kitOne K (.ref D) (.type "ValueError") = some b) (q : Q (.bl b) H) : tIs K D a i (.ty "ValueError") σ H Q :=
  ⟨_, hi, _, _, _, rfl, fun _ r => r, h, q⟩
theorem suite_ok {K : PySem.W.Frag} {D a c1 c2 c3 c4 : Addr} {i : Nat} {σ : L2.St} {H : Hp} {E : Ends} {r : V} (hi : σ[i]? = some (some (.ref a))) (h1 : PySem.W.kitOne K (.ref D) (.ref c1) = some false) (h2 : PySem.W.kitOne K (.ref D) (.ref c2) = some false)
    (h3 : PySem.W.kitOne K (.ref D) (.ref c3) = some false) (h4 : PySem.W.kitOne K (.ref D) (.ref c4) = some true) (h5 : PySem.W.kitOne K (.ref D) (.type "ValueError") = some true) (q : E.rt (.bl true) H) : tSuite K a i (.ref c1) (.ref c2) (.ref c3) r (.ref c4) D E σ H := by
  refine suite_is hi h1 ⟨_, rfl, iteF ?_⟩
  refine suite_is hi h2 ⟨_, rfl, iteF ?_⟩
  refine suite_is hi h3 ⟨_, rfl, iteF ?_⟩
  exact suite_is hi h4 ⟨_, rfl, iteT (suite_ve hi h5 q)⟩
theorem kit_ve {K : PySem.W.Frag} {C : Addr} (s : PySem.W.subIn K (.ref C) (.type "ValueError") = some true) : PySem.W.kitOne K (.ref C) (.type "ValueError") = some true := by
  have m : PySem.W.kitMeta "ValueError" = true := by decide +kernel
  show (if (Value.ref C == Value.type "ValueError") = true then some true else (if PySem.W.kitMeta "ValueError" = true then PySem.W.subIn K (.ref C) (.type "ValueError") else none)) = some true
  rw [if_pos m, s]
  split <;> rfl
theorem kit_no {K : PySem.W.Frag} {C N : Addr} (hd : PySem.W.hasDictIn K N = true) (ht : PySem.W.typeIn K (.ref N) = some (.type "type")) (ss : PySem.W.subIn K (.ref C) (.ref C) = some true) (s : PySem.W.subIn K (.ref C) (.ref N) = some false) :
    PySem.W.kitOne K (.ref C) (.ref N) = some false := by
  have ne : ¬ (Value.ref C == Value.ref N) = true := fun e => by
    have e2 : C = N := Value.ref.inj (beq_iff_eq.mp e)
    subst e2
    rw [ss] at s
    cases s
  obtain ⟨cd, hc, _⟩ := PySem.W.any_some hd
  have e2 : ((PySem.W.clsIn K N).isSome && PySem.W.typeIn K (.ref N) == some (.type "type")) = true := by rw [hc, ht]; rfl
  show (if (Value.ref C == Value.ref N) = true then some true else (if ((PySem.W.clsIn K N).isSome && PySem.W.typeIn K (.ref N) == some (.type "type")) = true then PySem.W.subIn K (.ref C) (.ref N) else none)) = some false
  rw [if_neg ne, if_pos e2]
  exact s
theorem at0 {α : Type} {xs : List α} {i : Nat} {v : α} (h : xs[i]? = some v) : atI xs (0 + (i : Int)) = some v := by
  rw [Int.zero_add]
  exact atI_nat h
theorem nat_lo (n : Nat) : -(2 ^ 62) ≤ ((n : Nat) : Int) := by omega
theorem nat_hi {n : Nat} (h : n ≤ 16000000) : ((n : Nat) : Int) < 2 ^ 62 := by omega
/-! ### forms -/
def Lays (ns : List Int) : Prop := ∀ x ∈ ns, -1 ≤ x ∧ x ≤ 1
def Form (ns : List Int) : Prop := Lays ns ∧ ns.getLast? ≠ some 0
def okLay : V → Bool
  | .int i => decide (-1 ≤ i ∧ i ≤ 1)
  | _ => false
def formV (xs : List V) : Bool := xs.all okLay && decide (xs.getLast? ≠ some (.int 0))
theorem getLast_map {ns : List Int} : (ns.map V.int).getLast? = ns.getLast?.map V.int := List.getLast?_map ..
theorem formV_ints {ns : List Int} : formV (ns.map V.int) = true ↔ Form ns := by
  unfold formV Form Lays
  rw [Bool.and_eq_true, List.all_eq_true, decide_eq_true_iff, getLast_map]
  constructor
  · rintro ⟨h1, h2⟩
    refine ⟨fun x hx => of_decide_eq_true (h1 (V.int x) (List.mem_map.mpr ⟨x, hx, rfl⟩)), fun e => h2 (by rw [e]; rfl)⟩
  · rintro ⟨h1, h2⟩
    refine ⟨fun y hy => ?_, fun e => h2 ?_⟩
    · obtain ⟨x, hx, rfl⟩ := List.mem_map.mp hy
      exact decide_eq_true (h1 x hx)
    · cases q : ns.getLast? with
      | none => rw [q] at e; cases e
      | some z =>
        rw [q] at e
        have e2 : V.int z = V.int 0 := Option.some.inj e
        cases e2
        rfl
def isF (H : Hp) : V → Bool
  | .ref a => match H a with
    | some (.lst xs) => formV xs
    | _ => false
  | _ => false
theorem isF_list {H : Hp} {a : Addr} {xs : List V} (e : H a = some (.lst xs)) : isF H (.ref a) = formV xs := by
  show (match H a with | some (.lst xs) => formV xs | _ => false) = formV xs
  rw [e]
theorem isF_not {H : Hp} : ∀ {x : V}, isL H x = false → isF H x = false
  | .ref a, h => by
    show (match H a with | some (.lst xs) => formV xs | _ => false) = false
    split
    · rename_i xs e
      rw [isL_of e] at h
      cases h
    · rfl
  | .non, _ => rfl
  | .bl _, _ => rfl
  | .int _, _ => rfl
  | .str _, _ => rfl
  | .byt _, _ => rfl
  | .flt _, _ => rfl
  | .ty _, _ => rfl
theorem isF_same {H H' : Hp} (s : Same H H') : ∀ {x : V}, WOk H x → isF H' x = isF H x
  | .ref a, h => by
    show (match H' a with | some (.lst xs) => formV xs | _ => false) = (match H a with | some (.lst xs) => formV xs | _ => false)
    rcases h with ⟨xs, e⟩ | ⟨xs, e⟩ | ⟨kvs, e⟩ <;> rw [e, s _ _ e]
  | .non, _ => rfl
  | .bl _, _ => rfl
  | .int _, _ => rfl
  | .str _, _ => rfl
/-- what is handed in to be looked at: of a known kind, a list's items too -/
def Hand (H : Hp) (x : V) : Prop := WOk H x ∧ ∀ a xs, x = .ref a → H a = some (.lst xs) → ∀ y ∈ xs, WOk H y
theorem Hand.same {H H' : Hp} {x : V} (h : Hand H x) (s : Same H H') : Hand H' x := by
  refine ⟨h.1.same s, fun a xs e q y hy => ?_⟩
  subst e
  rcases h.1 with ⟨ys, e⟩ | ⟨ys, e⟩ | ⟨kvs, e⟩
  · have e2 := HO.lst.inj (Option.some.inj ((s _ _ e).symm.trans q))
    subst e2
    exact (h.2 a _ rfl e y hy).same s
  · rw [s _ _ e] at q
    cases q
  · rw [s _ _ e] at q
    cases q
theorem hand_ints {H : Hp} {a : Addr} {ns : List Int} (e : H a = some (.lst (ns.map V.int))) : Hand H (.ref a) := by
  refine ⟨.inl ⟨_, e⟩, fun b xs q h y hy => ?_⟩
  cases q
  have h2 := HO.lst.inj (Option.some.inj (e.symm.trans h))
  subst h2
  obtain ⟨x, _, rfl⟩ := List.mem_map.mp hy
  trivial
theorem isF_ints {H : Hp} {a : Addr} {ns : List Int} (e : H a = some (.lst (ns.map V.int))) (h : Form ns) : isF H (.ref a) = true := (isF_list e).trans (formV_ints.mpr h)
/-- a form stands at a -/
def FormAt (H : Hp) (a : Addr) (ns : List Int) : Prop := H a = some (.lst (ns.map V.int)) ∧ Form ns
theorem formV_bad {xs : List V} {i : Nat} {y : V} (hi : xs[i]? = some y) (h : okLay y = false) : formV xs = false := by
  have q : xs.all okLay = false := by
    rw [List.all_eq_false]
    exact ⟨y, List.mem_of_getElem? hi, by rw [h]; decide⟩
  unfold formV
  rw [q]; rfl
theorem all_more {xs : List V} {i : Nat} {y : V} (hi : xs[i]? = some y) (ok : (xs.take i).all okLay = true) (h : okLay y = true) : (xs.take (i + 1)).all okLay = true := by
  rw [take_more hi, List.all_append, ok, List.all_cons, h]; rfl
theorem last_cases {α : Type} (xs : List α) : xs = [] ∨ ∃ ys l, xs = ys ++ [l] := by
  rcases List.eq_nil_or_concat xs with h | ⟨ys, l, h⟩
  · exact .inl h
  · exact .inr ⟨ys, l, by rw [h, List.concat_eq_append]⟩
theorem formV_last {ys : List V} {z : Int} (ok : (ys ++ [V.int z]).all okLay = true) : formV (ys ++ [V.int z]) = !decide (V.int z = V.int 0) := by
  unfold formV
  rw [ok, List.getLast?_concat, Bool.true_and]
  by_cases h : z = 0
  · subst h; rfl
  · have h2 : ¬ V.int z = V.int 0 := fun e => h (V.int.inj e)
    have h3 : some (V.int z) ≠ some (V.int 0) := fun e => h2 (Option.some.inj e)
    rw [decide_eq_true h3, decide_eq_false h2]; rfl
theorem int_of_okLay {y : V} (h : okLay y = true) : ∃ z, y = .int z ∧ -1 ≤ z ∧ z ≤ 1 := by
  cases y with
  | int z =>
    have := of_decide_eq_true (show decide (-1 ≤ z ∧ z ≤ 1) = true from h)
    exact ⟨z, rfl, this.1, this.2⟩
  | _ => cases h
theorem ints_of_all : ∀ {xs : List V}, xs.all okLay = true → ∃ ns : List Int, xs = ns.map V.int
  | [], _ => ⟨[], rfl⟩
  | x :: xs, h => by
    rw [List.all_cons, Bool.and_eq_true] at h
    obtain ⟨z, rfl, _⟩ := int_of_okLay h.1
    obtain ⟨ns, rfl⟩ := ints_of_all h.2
    exact ⟨z :: ns, rfl⟩
theorem isF_true {H : Hp} {x : V} (h : isF H x = true) : ∃ a ns, x = .ref a ∧ FormAt H a ns := by
  cases x with
  | ref a =>
    have h' : (match H a with | some (.lst xs) => formV xs | _ => false) = true := h
    split at h'
    · rename_i xs e
      have ok := h'
      unfold formV at ok
      rw [Bool.and_eq_true] at ok
      obtain ⟨ns, rfl⟩ := ints_of_all ok.1
      exact ⟨a, ns, rfl, e, formV_ints.mp h'⟩
    · cases h'
  | _ => cases h
theorem FormAt.isF {H : Hp} {a : Addr} {ns : List Int} (h : FormAt H a ns) : isF H (.ref a) = true := isF_ints h.1 h.2
theorem FormAt.hand {H : Hp} {a : Addr} {ns : List Int} (h : FormAt H a ns) : Hand H (.ref a) := hand_ints h.1
/-- a form is asked for: C the class that refuses what is none -/
def Asks (C : Addr) (x : V) (H : Hp) (E : XK) (good : Addr → List Int → Prop) : Prop :=
  Hand H x ∧ (∀ a ns, x = .ref a → FormAt H a ns → good a ns) ∧ (isF H x = false → ∀ H', Same H H' → E (.ref C) none H')
theorem Asks.of {C a : Addr} {ns : List Int} {H : Hp} {E : XK} {good : Addr → List Int → Prop} (h : FormAt H a ns) (g : good a ns) : Asks C (.ref a) H E good := by
  refine ⟨h.hand, fun b ms e q => ?_, fun e => ?_⟩
  · cases e
    have e2 := map_int_inj (HO.lst.inj (Option.some.inj (h.1.symm.trans q.1)))
    rw [← e2]
    exact g
  · rw [h.isF] at e
    cases e
theorem Asks.bad {C : Addr} {x : V} {H : Hp} {E : XK} {good : Addr → List Int → Prop} (h : Hand H x) (f : isF H x = false) (e : ∀ H', Same H H' → E (.ref C) none H') : Asks C x H E good := by
  refine ⟨h, fun a ns ea q => ?_, fun _ => e⟩
  subst ea
  rw [q.isF] at f
  cases f
/-! ### what lays weigh -/
def wt : List Int → Int
  | [] => 0
  | a :: r => a + 3 * wt r
theorem wt_append : ∀ (a b : List Int), wt (a ++ b) = wt a + 3 ^ a.length * wt b
  | [], b => by show wt b = 0 + 3 ^ 0 * wt b; simp
  | x :: a, b => by
    show x + 3 * wt (a ++ b) = x + 3 * wt a + 3 ^ (a.length + 1) * wt b
    rw [wt_append a b, Int.mul_add, Int.pow_succ, Int.mul_comm (3 ^ a.length) 3, Int.mul_assoc, Int.add_assoc]
theorem wt_back {ns : List Int} {i : Nat} {z : Int} (hi : i < ns.length) (h : ns[ns.length - 1 - i]? = some z) : wt (ns.drop (ns.length - (i + 1))) = 3 * wt (ns.drop (ns.length - i)) + z := by
  have h1 : ns.length - 1 - i < ns.length := by omega
  have e1 : ns.length - (i + 1) = ns.length - 1 - i := by omega
  have e2 : ns.length - i = ns.length - 1 - i + 1 := by omega
  rw [e1, List.drop_eq_getElem_cons h1, e2]
  rw [List.getElem?_eq_getElem h1] at h
  have h2 := Option.some.inj h
  rw [h2]
  show z + 3 * _ = _
  exact Int.add_comm ..
theorem wt_one (z : Int) : wt [z] = z := by show z + 3 * 0 = z; omega
theorem wt_turn {ns : List Int} {i : Nat} {z : Int} (h : ns[i]? = some z) : wt (ns.take (i + 1)) = wt (ns.take i) + z * 3 ^ i := by
  have hi : i < ns.length := (List.getElem?_eq_some_iff.mp h).1
  rw [take_more h, wt_append, List.length_take, Nat.min_eq_left (Nat.le_of_lt hi), wt_one, Int.mul_comm]
theorem lays_nil : Lays [] := fun _ h => nomatch h
theorem lays_more {ns : List Int} {z : Int} (h : Lays ns) (h1 : -1 ≤ z) (h2 : z ≤ 1) : Lays (ns ++ [z]) := fun x hx => by
  rcases List.mem_append.mp hx with q | q
  · exact h x q
  · rw [List.mem_singleton.mp q]; exact ⟨h1, h2⟩
theorem lays_sub {ns ms : List Int} (h : Lays ns) (s : ∀ x ∈ ms, x ∈ ns) : Lays ms := fun x hx => h x (s x hx)
theorem pop_int {ns : List Int} {z : Int} : (ns.map V.int ++ [V.int z]).dropLast = ns.map V.int := by rw [List.dropLast_concat]
/-! ### what is no form -/
/-- data that == compares -/
def ItmD (K : PySem.W.Frag) (H : Hp) (y : V) : Prop := ∃ d : PyData, Dp K H y d ∧ d.canLay0 = true ∧ d.depth ≤ 8
theorem seqT_same {K : PySem.W.Frag} {H H' : Hp} {a : Addr} {xs : List V} (e : Same H H') (h : SqT K H a xs) : SqT K H' a xs := by
  rcases h with (h | ⟨o, h⟩) | h
  · exact .inl (.inl (e _ _ h))
  · exact .inl (.inr ⟨o, e _ _ h⟩)
  · exact .inr h
mutual
theorem dp_same {K : PySem.W.Frag} {H H' : Hp} (s : Same H H') : ∀ {v : V} {d : PyData}, Dp K H v d → Dp K H' v d
  | _, _, .non => .non
  | _, _, .bl b => .bl b
  | _, _, .int i => .int i
  | _, _, .str x => .str x
  | _, _, .lst e h => .lst (s.seq e) (dpAll_same s h)
  | _, _, .tup e h => .tup (seqT_same s e) (dpAll_same s h)
theorem dpAll_same {K : PySem.W.Frag} {H H' : Hp} (s : Same H H') : ∀ {vs : List V} {ds : List PyData}, DpAll K H vs ds → DpAll K H' vs ds
  | _, _, .nil => .nil
  | _, _, .cons a b => .cons (dp_same s a) (dpAll_same s b)
end
theorem ItmD.same {K : PySem.W.Frag} {H H' : Hp} {y : V} (h : ItmD K H y) (s : Same H H') : ItmD K H' y :=
  let ⟨d, a, b, c⟩ := h
  ⟨d, dp_same s a, b, c⟩
theorem itm_int {K : PySem.W.Frag} {H : Hp} (i : Int) : ItmD K H (.int i) := ⟨_, .int i, rfl, Nat.zero_le _⟩
theorem itms {K : PySem.W.Frag} {H : Hp} : ∀ {xs : List V}, (∀ y ∈ xs, ItmD K H y) → ∃ ds, DpAll K H xs ds ∧ PyData.canLayAll0 ds = true ∧ PyData.depthAll ds ≤ 8
  | [], _ => ⟨[], .nil, rfl, Nat.zero_le _⟩
  | x :: xs, h => by
    obtain ⟨d, h1, h2, h3⟩ := h x List.mem_cons_self
    obtain ⟨ds, g1, g2, g3⟩ := itms (xs := xs) fun y hy => h y (List.mem_cons_of_mem _ hy)
    refine ⟨d :: ds, .cons h1 g1, by rw [PyData.canLayAll0, h2, g2]; rfl, ?_⟩
    rw [PyData.depthAll]
    exact Nat.max_le.mpr ⟨h3, g3⟩
theorem itm_list {K : PySem.W.Frag} {H : Hp} {a : Addr} {xs : List V} (e : SqL K H a xs) (h : ∀ y ∈ xs, ItmD K H y) : ∃ ds, Dp K H (.ref a) (.list ds) ∧ DpAll K H xs ds ∧ SeqAt.shaped (.list ds) = true := by
  obtain ⟨ds, g1, g2, g3⟩ := itms h
  refine ⟨ds, .lst e g1, g1, ?_⟩
  unfold SeqAt.shaped
  rw [Bool.and_eq_true, decide_eq_true_iff, PyData.canLay0, PyData.depth]
  exact ⟨g2, by omega⟩
theorem itm_list1 {K : PySem.W.Frag} {H : Hp} {a : Addr} {i : Int} (e : H a = some (.lst [.int i])) : ItmD K H (.ref a) :=
  ⟨.list [.int i], .lst (SqL.of e) (.cons (.int i) .nil), by rw [PyData.canLay0, PyData.canLayAll0, PyData.canLay0, PyData.canLayAll0]; rfl, by rw [PyData.depth, PyData.depthAll, PyData.depth, PyData.depthAll]; decide⟩
theorem itm_tup1 {K : PySem.W.Frag} {H : Hp} {a : Addr} {i : Int} (e : H a = some (.tup [.int i])) : ItmD K H (.ref a) :=
  ⟨.tuple [.int i], .tup (SqT.of e) (.cons (.int i) .nil), by rw [PyData.canLay0, PyData.canLayAll0, PyData.canLay0, PyData.canLayAll0]; rfl, by rw [PyData.depth, PyData.depthAll, PyData.depth, PyData.depthAll]; decide⟩
/-- one of a written list's items, at a remainder -/
theorem at_mod {α : Type} {xs : List α} {z n : Int} (h : (xs.length : Int) = n) (hn : 0 < n) : ∃ x, atI xs (z % n) = some x ∧ x ∈ xs := by
  have h1 := Int.emod_nonneg z (show n ≠ 0 by omega)
  have h2 := Int.emod_lt_of_pos z hn
  have h3 : (z % n).toNat < xs.length := by omega
  have e : ((z % n).toNat : Int) = z % n := Int.toNat_of_nonneg h1
  refine ⟨xs[(z % n).toNat], ?_, List.getElem_mem h3⟩
  have := atI_nat (List.getElem?_eq_getElem h3)
  rw [e] at this
  exact this
/-- a thing that is no form, and can be compared where it is a list -/
def Bad (K : PySem.W.Frag) (H : Hp) (x : V) : Prop := Hand H x ∧ isF H x = false ∧ ∀ a xs, x = .ref a → H a = some (.lst xs) → ∀ y ∈ xs, ItmD K H y
theorem Bad.flat {K : PySem.W.Frag} {H : Hp} {x : V} (h : WOk H x) (n : ∀ a xs, x = .ref a → H a = some (.lst xs) → False) : Bad K H x := by
  refine ⟨⟨h, fun a xs e q => (n a xs e q).elim⟩, ?_, fun a xs e q => (n a xs e q).elim⟩
  refine isF_not ?_
  cases q : isL H x with
  | false => rfl
  | true =>
    obtain ⟨a, xs, e1, e2⟩ := isL_ref q
    exact (n a xs e1 e2).elim
theorem Bad.list {K : PySem.W.Frag} {H : Hp} {a : Addr} {xs : List V} (e : H a = some (.lst xs)) (f : formV xs = false) (hw : ∀ y ∈ xs, WOk H y) (hd : ∀ y ∈ xs, ItmD K H y) : Bad K H (.ref a) := by
  have u : ∀ b zs, V.ref a = V.ref b → H b = some (.lst zs) → zs = xs := fun b zs q1 q2 => by
    cases q1
    exact (HO.lst.inj (Option.some.inj (e.symm.trans q2))).symm
  exact ⟨⟨.inl ⟨xs, e⟩, fun b zs q1 q2 y hy => hw y (by rw [← u b zs q1 q2]; exact hy)⟩, (isF_list e).trans f, fun b zs q1 q2 y hy => hd y (by rw [← u b zs q1 q2]; exact hy)⟩
theorem Bad.tup {K : PySem.W.Frag} {H : Hp} {a : Addr} {xs : List V} (e : H a = some (.tup xs)) : Bad K H (.ref a) :=
  .flat (.inr (.inl ⟨xs, e⟩)) fun b zs q1 q2 => by
    cases q1
    rw [e] at q2
    cases q2
theorem Bad.dict {K : PySem.W.Frag} {H : Hp} {a : Addr} {xs : List (Key × V)} (e : H a = some (.dK xs)) : Bad K H (.ref a) :=
  .flat (.inr (.inr ⟨xs, e⟩)) fun b zs q1 q2 => by
    cases q1
    rw [e] at q2
    cases q2
theorem formV_mid {as bs : List V} {x : V} (h : okLay x = false) : formV (as ++ [x] ++ bs) = false :=
  formV_bad (i := as.length) (y := x) (by rw [List.append_assoc, List.getElem?_append_right (Nat.le_refl _), Nat.sub_self]; rfl) h
theorem Bad.ins {K : PySem.W.Frag} {H : Hp} {a : Addr} {ns ms : List Int} {x : V} (e : H a = some (.lst (ns.map V.int ++ [x] ++ ms.map V.int))) (ok : okLay x = false) (hw : WOk H x) (hd : ItmD K H x) : Bad K H (.ref a) := by
  refine .list e (formV_mid ok) (fun y hy => ?_) (fun y hy => ?_)
  · rcases List.mem_append.mp hy with hy | hy
    · rcases List.mem_append.mp hy with hy | hy
      · obtain ⟨z, _, rfl⟩ := List.mem_map.mp hy
        trivial
      · rw [List.mem_singleton.mp hy]; exact hw
    · obtain ⟨z, _, rfl⟩ := List.mem_map.mp hy
      trivial
  · rcases List.mem_append.mp hy with hy | hy
    · rcases List.mem_append.mp hy with hy | hy
      · obtain ⟨z, _, rfl⟩ := List.mem_map.mp hy
        exact itm_int z
      · rw [List.mem_singleton.mp hy]; exact hd
    · obtain ⟨z, _, rfl⟩ := List.mem_map.mp hy
      exact itm_int z
theorem Bad.zero {K : PySem.W.Frag} {H : Hp} {a : Addr} {ns : List Int} (e : H a = some (.lst (ns.map V.int ++ [.int 0]))) : Bad K H (.ref a) := by
  have e2 : ns.map V.int ++ [V.int 0] = (ns ++ [0]).map V.int := by rw [List.map_append]; rfl
  rw [e2] at e
  have f : formV ((ns ++ [0]).map V.int) = false := by
    rw [Bool.eq_false_iff]
    intro q
    have := (formV_ints.mp q).2
    rw [List.getLast?_concat] at this
    exact this rfl
  refine .list e f (fun y hy => ?_) (fun y hy => ?_)
  · obtain ⟨z, _, rfl⟩ := List.mem_map.mp hy
    trivial
  · obtain ⟨z, _, rfl⟩ := List.mem_map.mp hy
    exact itm_int z
/-- lays[:at] + [x] + lays[at:], from where [x] is made -/
theorem ins_end {K : PySem.W.Frag} {H H1 : Hp} {Q : VK} {a s1 : Addr} {ns : List Int} {at' : Int} {x : V} {σ : L2.St} {i j : Nat} (hi : σ[i]? = some (some (.ref a))) (hj : σ[j]? = some (some (.int at'))) (ea : H a = some (.lst (ns.map V.int))) (hlen : ns.length ≤ 100000)
    (n1 : H s1 = none) (sm : Same (upd H s1 (.lst (cutV (ns.map V.int) none (some at')))) H1) (ok : okLay x = false) (hw : WOk H1 x) (hd : ∀ H', Same H1 H' → ItmD K H' x) (q : ∀ H' v, Same H H' → Bad K H' v → Q v H') {s2 : Addr} (n2 : H1 s2 = none) :
    rCat (.ref s1) (.ref s2) (upd H1 s2 (.lst [x])) fun y H4 => tSl (rSlL K) (tVar i) (tPart (tVar j)) tNoPart σ H4 fun z H5 => rCat y z H5 Q := by
  have m1 : Same H H1 := (same_upd n1).trans sm
  have m2 := same_upd (o := .lst [x]) n2
  have l1 := cutI_len ns none (some at')
  have l2 := cutI_len ns (some at') none
  rw [cut_ints] at sm
  have e1 := m2 _ _ (sm _ _ upd_same)
  refine ⟨s1, s2, _, _, rfl, rfl, e1, upd_same, small' (by rw [List.length_map, List.length_singleton]; omega), fun s3 n3 => ?_⟩
  have m3 := same_upd (o := .lst ((cutI ns none (some at')).map V.int ++ [x])) n3
  refine ⟨_, hi, _, hj, _, rfl, a, _, rfl, SqL.of (m3 _ _ (m2 _ _ (m1 _ _ ea))), fun s4 n4 => ?_⟩
  have m4 := same_upd (o := .lst (cutV (ns.map V.int) (some at') none)) n4
  refine ⟨s3, s4, _, _, rfl, rfl, m4 _ _ upd_same, upd_same, small' (by rw [cut_ints, List.length_append, List.length_map, List.length_map, List.length_singleton]; omega), fun s5 n5 => ?_⟩
  have m5 := same_upd (o := .lst ((cutI ns none (some at')).map V.int ++ [x] ++ cutV (ns.map V.int) (some at') none)) n5
  have mm := m2.trans (m3.trans (m4.trans m5))
  refine q _ _ (m1.trans mm) (.ins (ns := cutI ns none (some at')) (ms := cutI ns (some at') none) ?_ ok (hw.same mm) (hd _ mm))
  rw [← cut_ints ns (some at') none]
  exact upd_same
/-! ### lists of ints compared -/
theorem data_ints {K : PySem.W.Frag} {H : Hp} {b c : Addr} {ns : List Int} (e1 : H b = some (.lst (ns.map V.int))) (e2 : H c = some (.lst (ns.map V.int))) : ∃ d, Dp K H (.ref b) d ∧ Dp K H (.ref c) d ∧ SeqAt.shaped d = true ∧ PyData.eqv d d = true := by
  obtain ⟨ds, d1, d2, d3⟩ := itm_list (K := K) (SqL.of e1) (fun y hy => by obtain ⟨x, _, rfl⟩ := List.mem_map.mp hy; exact itm_int x)
  exact ⟨_, d1, .lst (SqL.of e2) d2, d3, SeqAt.eqv_refl _ (SeqAt.canLay_of_shaped d3)⟩
/-- list(x), by the fragment's own letter (for a comprehension's own frame) -/
def rListOf (K : PySem.W.Frag) (xs : List V) (H : Hp) (Q : VK) : Prop := ∃ (p : Addr) (ys : List V), xs = [.ref p] ∧ (SqL K H p ys ∨ SqT K H p ys) ∧ ∀ l : Addr, H l = none → Q (.ref l) (upd H l (.lst ys))
/-! ### reversed(a text) -/
namespace Rs
theorem norev_str : typeLookup (.type "str") "__reversed__" = pure none := by rw [typeLookup_type, builtinLookup_eq_fast]; kernel_rfl
theorem get_str : typeLookup (.type "str") "__getitem__" = pure (some (.builtin "str.__getitem__")) := by rw [typeLookup_type, builtinLookup_eq_fast]; kernel_rfl
def obj (z : Str) (t : Tok) (i : Int) : Obj := { cls := .type "reversed", data := .fields #[.str z t, rawInt i] }
/-- at a stands reversed(z), the next place is i -/
def At (h : Heap) (a : Addr) (z : Str) (t : Tok) (i : Int) : Prop := ∃ o, h.get? a = some o ∧ o.cls = .type "reversed" ∧ o.data = .fields #[.str z t, rawInt i]
theorem At.kept {h h' : Heap} {a : Addr} {z : Str} {t : Tok} {i : Int} (x : At h a z t i) (e : ∀ o, h.get? a = some o → h'.get? a = some o) : At h' a z t i := by
  obtain ⟨o, ho, r⟩ := x
  exact ⟨o, e o ho, r⟩
section
variable {prog : Program} {w : World} {A : Around} {E : Value → Shared → Prop} {s : Shared} {z : Str} {t : Tok}
theorem At.isTy {a : Addr} {i : Int} (x : At s.heap a z t i) : s.TypeIs (.ref a) "reversed" := by
  obtain ⟨o, ho, hc, _⟩ := x
  exact ⟨o, ho, hc⟩
theorem made {Q : Value → Shared → Prop} (hz : ¬ (z.length : Int) ≥ 2 ^ 63) (h : Q (.ref s.heap.objs.size) { s with heap := s.heap.push (obj z t ((z.length : Int) - 1)), toks := s.toks + 1 + 1 }) :
    codeAny (model prog w) A (.call (.builtin "reversed.__new__") ⟨[.type "reversed", .str z t], []⟩) (wants Q E) s := by
  have ty := typeIs_str s z t
  refine codeAny_of_tree ?_
  show wpAny _ A.in1 (do checkBuiltinCall "reversed.__new__" ⟨[.type "reversed", .str z t], []⟩; again (.builtin "reversed.__new__" ⟨[.type "reversed", .str z t], []⟩)) _ _ s
  refine wpAny_bind (wpAny_of_eq (F.newCall_reversed_1 _) (wpAny_pure ⟨plainId_quiet F.plain_reversed_new _, codeAny_builtin F.entry_reversed_new ?_⟩)); rw [Around.under_plainId F.plain_reversed_new _]
  unfold Builtin.«reversed.__new__»
  refine wpAny_bind (wpAny_of_eq (newClass_reversed _) ?_) <;> try dsimp only
  iterate 2 (refine wpAny_bind (wpAny_of_eq (a := ()) (by first | rfl | kernel_rfl) ?_) <;> try dsimp only)
  refine wpAny_bind (wpAny_specialOf ty norev_str ?_) <;> try dsimp only
  refine wpAny_bind ?_; wp_delta
  refine wpAny_bind (wpAny_isInstance (T := "str") (U := "dict") (b := false) ty PySem.F.sub_str_dict ?_) <;> try dsimp only
  (try rw [if_neg Bool.false_ne_true]); try dsimp only
  refine wpAny_bind (wpAny_specialOf ty get_str ?_) <;> try dsimp only
  (try rw [if_pos (by decide +kernel)]); refine wpAny_pure ?_; (try dsimp only); (try rw [if_neg (by decide)]); try dsimp only
  refine wpAny_bind (P.len_str hz ?_)
  refine wpAny_bind (wpAny_of_eq (a := some ((z.length : Nat) : Int)) rfl ?_) <;> try dsimp only
  refine wpAny_bind ?_; show wpAny _ _ (newObj (.type "reversed") (.fields #[.str z t, rawInt ((z.length : Int) - 1)])) _ _ _
  exact wpAny_newObj_type (wpAny_pure h)
theorem called {Q : Value → Shared → Prop} (hz : ¬ (z.length : Int) ≥ 2 ^ 63) (h : Q (.ref s.heap.objs.size) { s with heap := s.heap.push (obj z t ((z.length : Int) - 1)), toks := s.toks + 1 + 1 }) :
    wpAny (model prog w) A (call (.type "reversed") [.str z t]) Q E s := by
  refine callType_codes (Q₁ := fun v s₁ => s₁.TypeIs v "reversed" ∧ Q v s₁) RT.called_rt (F.typeCall_reversed_1 _) F.entry_object_init (made (A := A.in1) hz ⟨⟨_, Heap.get?_push_size _ rfl, rfl⟩, h⟩) fun v s₁ k => ?_
  exact ⟨k.1, F.args_object_init_2 v _, object_init_meets RT.called_rt.init.lookup RT.called_rt.made (by decide) prog w A.in1 _ s₁ ⟨k.1, rfl, k.2⟩⟩
theorem next {it : Addr} {i c : Nat} {Q : Option Value → Shared → Prop} (hit : At s.heap it z t (i : Int)) (hi : i < z.cps.size) (hc : z.cps[i]? = some c) (hsz : z.cps.size ≤ sizeLine)
    (hQ : ∀ h' tk, At h' it z t ((i : Int) - 1) → Heap.SameBut it s.heap h' → Q (some (.str ⟨#[c]⟩ tk)) { s with heap := h', toks := s.toks + 1 + 1 }) : wpAny (model prog w) A (pyNext (.ref it)) Q E s := by
  obtain ⟨o, ho, hcl, hd⟩ := id hit
  have ty := typeIs_str s z t
  rw [sizeLine_eq] at hsz
  unfold pyNext
  refine wpAny_bind (wpAny_attempt (wpAny_callSpecial?_slot (name := Str.ofString "__next__") hit.isTy RT.slot_rt_next (wpAny_call_entry RT.slot_rt_next hit.isTy RT.entry_rt_next ?_ (RT.args_rt_next _))))
  unfold Builtin.«reversed.__next__»
  refine wpAny_bind (wpAny_of_eq (a := (Value.ref it, [])) rfl ?_) <;> try dsimp only
  refine wpAny_bind (wpAny_field ho hd (x := .str z t) rfl ?_) <;> try dsimp only
  refine wpAny_bind (wpAny_field ho hd (x := rawInt (i : Int)) rfl ?_); show wpAny _ _ (if (i : Int) < 0 then _ else _) _ _ s
  rw [if_neg (by omega)]; try dsimp only
  refine wpAny_bind (wpAny_specialOf ty get_str ?_) <;> try dsimp only
  (try rw [if_neg (by decide)]); try dsimp only
  refine wpAny_bind (wpAny_mkInt ?_); refine wpAny_bind (wpAny_attempt ?_)
  have fin : (seqIndex? (i : Int) z.length).bind (z.cps[·]?) = some c := by
    have e : seqIndex? (i : Int) z.length = some i := seqIndex_of (by omega) (by show (i : Int) < (z.cps.size : Nat); omega)
    rw [e]; exact hc
  refine P.getItem_str (s := { s with toks := s.toks + 1 }) (by simp; omega) fin ?_ <;> try dsimp only
  refine wpAny_bind (wpAny_field (s := { s with toks := s.toks + 1 + 1 }) ho hd (x := rawInt (i : Int)) rfl ?_) <;> try dsimp only
  refine wpAny_bind (wpAny_setField (s := { s with toks := s.toks + 1 + 1 }) ho hd (by simp) ?_)
  have st : At (s.heap.update it (Obj.mapFields (·.setIfInBounds 1 (rawInt ((i : Int) - 1))))) it z t ((i : Int) - 1) :=
    ⟨_, Heap.get?_update_self _ ho (Obj.isFreed_of_fields (Obj.data_mapFields hd _)), (Obj.cls_mapFields ..).trans hcl, by rw [Obj.data_mapFields hd]; simp⟩
  first
    | exact wpAny_pure ⟨_, rfl, wpAny_pure (hQ _ _ st (Heap.SameBut.update ..))⟩
    | exact wpAny_bind (wpAny_pure (wpAny_pure ⟨_, rfl, wpAny_pure (hQ _ _ st (Heap.SameBut.update ..))⟩))
theorem ends {it : Addr} {Q : Option Value → Shared → Prop} (hh : A.handled = none) (hit : At s.heap it z t (-1)) (hQ : ∀ h', Heap.ExtBut it s.heap h' → Q none { s with heap := h' }) : wpAny (model prog w) A (pyNext (.ref it)) Q E s := by
  obtain ⟨o, ho, hcl, hd⟩ := id hit
  unfold pyNext
  refine wpAny_bind (wpAny_attempt (wpAny_callSpecial?_slot (name := Str.ofString "__next__") hit.isTy RT.slot_rt_next (wpAny_call_entry RT.slot_rt_next hit.isTy RT.entry_rt_next ?_ (RT.args_rt_next _))))
  unfold Builtin.«reversed.__next__»
  refine wpAny_bind (wpAny_of_eq (a := (Value.ref it, [])) rfl ?_) <;> try dsimp only
  refine wpAny_bind (wpAny_field ho hd (x := .str z t) rfl ?_) <;> try dsimp only
  refine wpAny_bind (wpAny_field ho hd (x := rawInt (-1)) rfl ?_); show wpAny _ _ (if (-1 : Int) < 0 then _ else _) _ _ s
  rw [if_pos (by decide)]; try dsimp only
  refine wpAny_bind (wpAny_rule ?_); refine wpAny_bind ?_; wp_delta; refine wpAny_bind (wpAny_setField ho hd (by simp) ?_)
  have ho2 := Heap.get?_update_self (Obj.mapFields (·.setIfInBounds 1 (rawInt (-1)))) ho (Obj.isFreed_of_fields (Obj.data_mapFields hd _)) -- the place is put
  refine wpAny_setField (s := { s with heap := s.heap.update it (Obj.mapFields (·.setIfInBounds 1 (rawInt (-1)))) }) ho2 (Obj.data_mapFields hd _) (by simp) ?_ <;> try dsimp only
  first
    | show wpAny _ _ (newExc (.type "StopIteration") [] >>= _) _ _ _
    | (refine wpAny_bind ?_; show wpAny _ _ (newExc (.type "StopIteration") [] >>= _) _ _ _)
    | (refine wpAny_bind ?_; wp_delta; show wpAny _ _ (newExc (.type "StopIteration") [] >>= _) _ _ _)
  refine wpAny_bind ?_; simp only [newExc, newTuple]
  refine wpAny_bind (wpAny_newObj_type ?_ (by size_fits)); refine wpAny_bind (m := firstArgMember _ _) (wpAny_of_eq (a := Value.none) (by first | rfl | (simp only [firstArgMember]; rfl)) ?_)
  refine wpAny_newObj_type ?_ (by size_fits); simp only [raiseNew]; refine wpAny_bind (wpAny_handled ?_)
  first | rw [show A.in1.handled = none from hh] | rw [hh]
  refine wpAny_bind (wpAny_pure (wpAny_throw ?_)); refine wpAny_bind (wpAny_isInstance (T := "StopIteration") (b := true) ⟨_, Heap.get?_push_size _ rfl, rfl⟩ isSubtype_stop ?_)
  refine wpAny_pure (hQ _ (Heap.ExtBut.push (Heap.ExtBut.push ?_ _) _))
  intro b ob hb e
  exact (Heap.get?_update_other _ _ (Ne.symm hb)).trans ((Heap.get?_update_other _ _ (Ne.symm hb)).trans e)
theorem self_iter {it : Addr} {i : Int} {Q : Value → Shared → Prop} (hit : At s.heap it z t i) (h : Q (.ref it) s) : wpAny (model prog w) A (pyIter (.ref it)) Q E s :=
  wpAny_pyIter_slot hit.isTy RT.slot_rt_iter (wpAny_call_entry RT.slot_rt_iter hit.isTy RT.entry_rt_iter (show wpAny _ _ (ret (.ref it)) _ _ s from wpAny_pure ⟨_, rfl, "reversed", _, hit.isTy, RT.slot_rt_next.lookup, h⟩) (RT.args_rt_iter _))
end
/-- the walk over it: sign by sign from behind -/
def Itz (z : Str) : It :=
  ⟨fun i _ => i < z.cps.size, fun i H v H' => H' = H ∧ ∃ c, z.cps[z.cps.size - 1 - i]? = some c ∧ v = .str ⟨#[c]⟩, fun i _ => z.cps.size ≤ i⟩
theorem turn {P : Program} {w : World} {K : PySem.W.Frag} {tg : Expr} (it : Addr) (z : Str) (t : Tok) (hsz : z.cps.size ≤ sizeLine) : Turn P w K tg (Itz z) [it] it (fun i h => i ≤ z.cps.size ∧ At h it z t ((z.cps.size : Int) - 1 - (i : Nat))) where
  mem := List.mem_singleton.mpr rfl
  obj := fun i h st b hb => by
    rw [List.mem_singleton.mp hb]
    obtain ⟨_, o, e, c, d⟩ := st
    exact ⟨o, e, fun v q => by rw [d] at q; cases q⟩
  keep := fun i h h' st k => ⟨st.1, st.2.kept fun o e => k it (List.mem_singleton.mpr rfl) o e⟩
  item := by
    intro X hP hw hK hc i pins s σ H E I hf st hg
    subst hP hw hK
    obtain ⟨f0, f1, _, f3, f4, f5⟩ := hf it (List.mem_singleton.mpr rfl)
    obtain ⟨_, hit⟩ := st
    have hin : i < z.cps.size := hg
    have hlt : z.cps.size - 1 - i < z.cps.size := by omega
    have e1 : (z.cps.size : Int) - 1 - ((i : Nat) : Int) = ((z.cps.size - 1 - i : Nat) : Int) := by omega
    have e2 : ((z.cps.size - 1 - i : Nat) : Int) - 1 = (z.cps.size : Int) - 1 - ((i + 1 : Nat) : Int) := by omega
    rw [e1] at hit
    have ec : z.cps[z.cps.size - 1 - i]? = some z.cps[z.cps.size - 1 - i] := Array.getElem?_eq_getElem hlt
    refine next hit hlt ec hsz fun h' tk st' sb => ?_
    rw [e2] at st'
    have I1 : Inv X pins σ H { s with heap := h', toks := s.toks + 1 + 1 } := I.turned (t' := s.toks + 1 + 1) (fun b o hb e => by rw [sb.2 b hb]; exact e) f0 f1 f3 f4 f5
    obtain ⟨o, e, c, d⟩ := id st'
    exact ⟨_, rfl, go_of (s := { s with heap := h', toks := s.toks + 1 + 1 }) e c d (by decide) ⟨.str ⟨#[z.cps[z.cps.size - 1 - i]]⟩, H, I1, ⟨_, rfl⟩, ⟨rfl, _, ec, rfl⟩, ⟨hin, st'⟩, fun b hb => (hf b hb).1⟩⟩
  done := by
    intro X hP hw hK hc i pins s σ H E I hf st hg
    subst hP hw hK
    obtain ⟨f0, f1, _, f3, f4, f5⟩ := hf it (List.mem_singleton.mpr rfl)
    obtain ⟨hin, hit⟩ := st
    have hge : z.cps.size ≤ i := hg
    rw [show (z.cps.size : Int) - 1 - ((i : Nat) : Int) = -1 by omega] at hit
    exact ends (I.ok.hd hc) hit fun h' eb => ⟨rfl, I.turned (t' := s.toks) (fun b o hb e => eb b o hb e) f0 f1 f3 f4 f5⟩
  self := fun A i s Q E st h => self_iter st.2 h
/-- reversed(x), x a text -/
def iRev (te : TE) : TI := fun σ H R => te σ H fun v H1 => ∃ z : Str, v = .str z ∧ z.cps.size ≤ sizeLine ∧ R (Itz z) H1
theorem pi_revStr {X : Cx} {tg e : Expr} {te : TE} {p pos : Pos} (hg : Gl X "reversed") (hm : X.mg "reversed" = none) (he : PE X e te) (hs : starEach [e] X.env = (false, eval e X.env) :: starEach [] X.env := by rfl) : PI X tg (.Call (.Name "reversed" p) [e] [] pos) (iRev te) := by
  refine ⟨fun pins s σ H R I h => Call_ (ld_blt I hg hm PyProof.Rows.boot_reversed (PyProof.Rows.callWith_type1 (args_cons (thn (he.run pins s σ H _ I h) fun u s1 ⟨v, H1, I1, r1, q1⟩ => args_nil ?_) hs) hs rfl))⟩
  obtain ⟨z, ev, hz, q⟩ := q1
  subst ev
  obtain ⟨t, rfl⟩ := r1
  have hz2 := hz
  rw [sizeLine_eq] at hz2
  refine called (by show ¬ ((z.cps.size : Nat) : Int) ≥ 2 ^ 63; omega) (self_iter (z := z) (t := t) (i := (z.length : Int) - 1) ⟨_, Heap.get?_push_size _ rfl, rfl, rfl⟩ ?_)
  refine pi_one (tk := s1.toks + 1 + 1) I1 _ (turn s1.heap.objs.size z t hz) ⟨Nat.zero_le _, _, Heap.get?_push_size _ rfl, rfl, ?_⟩ q
  have e : (z.length : Int) - 1 = (z.cps.size : Int) - 1 - ((0 : Nat) : Int) := by show (z.cps.size : Int) - 1 = _; omega
  rw [← e]; rfl
theorem walk {z : Str} : Walk (Itz z) z.cps.size (fun _ => True) (fun i H v H' => H' = H ∧ ∃ c, z.cps[z.cps.size - 1 - i]? = some c ∧ v = .str ⟨#[c]⟩) :=
  ⟨fun _ _ h _ => h, fun _ _ => Nat.le_refl _, fun _ _ _ _ _ _ y => y⟩
end Rs
/-! ### one form for each number -/
theorem form_tail {x : Int} {r : List Int} (h : Form (x :: r)) : Form r := by
  refine ⟨fun y hy => h.1 y (List.mem_cons_of_mem _ hy), fun e => h.2 ?_⟩
  cases r with
  | nil => cases e
  | cons y s => rw [List.getLast?_cons_cons]; exact e
theorem form_zero : ∀ {b : List Int}, Form b → wt b = 0 → b = []
  | [], _, _ => rfl
  | y :: s, h, e => by
    have hy := h.1 y List.mem_cons_self
    have e2 : y + 3 * wt s = 0 := e
    have hs := form_zero (form_tail h) (by omega)
    subst hs
    have y0 : y = 0 := by
      have e3 : y + 3 * 0 = 0 := e
      omega
    subst y0
    exact (h.2 rfl).elim
theorem form_eq : ∀ {a b : List Int}, Form a → Form b → wt a = wt b → a = b
  | [], b, _, hb, e => (form_zero hb e.symm).symm
  | x :: r, [], ha, _, e => form_zero ha e
  | x :: r, y :: s, ha, hb, e => by
    have hx := ha.1 x List.mem_cons_self
    have hy := hb.1 y List.mem_cons_self
    have e2 : x + 3 * wt r = y + 3 * wt s := e
    have e3 : x = y := by omega
    subst e3
    rw [form_eq (form_tail ha) (form_tail hb) (by omega)]
theorem wt_nat : ∀ {ls : List Int}, Lays ls → (wt ls).natAbs < 2 ^ (2 * ls.length)
  | [], _ => by show (0 : Int).natAbs < 2 ^ 0; decide
  | x :: r, h => by
    have ih := wt_nat (ls := r) fun y hy => h y (List.mem_cons_of_mem _ hy)
    have hx := h x List.mem_cons_self
    show (x + 3 * wt r).natAbs < 2 ^ (2 * (r.length + 1))
    rw [show 2 * (r.length + 1) = 2 * r.length + 1 + 1 by omega, Nat.pow_succ, Nat.pow_succ]
    omega
theorem wt_lt {ls : List Int} {n : Nat} (h : Lays ls) (hl : ls.length ≤ n) : (wt ls).natAbs < 2 ^ (2 * n) :=
  Nat.lt_of_lt_of_le (wt_nat h) (Nat.pow_le_pow_right (by decide) (by omega))
theorem form_of_turn {ls : List Int} {n N : Int} (e : wt ls + 3 ^ ls.length * n = N) : wt (ls ++ [(n + 1) % 3 - 1]) + 3 ^ (ls ++ [(n + 1) % 3 - 1]).length * ((n + 1) / 3) = N := by
  rw [wt_append, wt_one, List.length_append, List.length_singleton, Int.pow_succ, ← e, Int.add_assoc, Int.mul_assoc, ← Int.mul_add]
  have e2 : (n + 1) % 3 - 1 + 3 * ((n + 1) / 3) = n := by omega
  rw [e2]
theorem half_pow {n : Int} {k : Nat} (hn : n ≠ 0) (h : n.natAbs < 2 ^ k) : ∃ j, k = j + 1 ∧ ((n + 1) / 3).natAbs < 2 ^ j := by
  cases k with
  | zero => rw [Nat.pow_zero] at h; omega
  | succ j =>
    rw [Nat.pow_succ] at h
    exact ⟨j, rfl, by omega⟩
/-! ### texts of three signs -/
open SX in
abbrev tx (l : List Nat) : Str := S l
theorem signs_tl : (Str.ofString "<.>").cps.toList = [60, 46, 62] := by decide +kernel
theorem dot_S : Str.ofString "." = tx [46] := by decide +kernel
theorem none_S : Str.ofString "" = tx [] := by decide +kernel
theorem tx_of (z : Str) : z = tx z.cps.toList := (SX.S_tl z).symm
theorem tx_len (l : List Nat) : (tx l).length = l.length := SX.S_len l
theorem tx_inj {a b : List Nat} (h : tx a = tx b) : a = b := SX.S_inj h
def isG (c : Nat) : Bool := decide (c = 60) || decide (c = 46) || decide (c = 62)
theorem isG_mem (c : Nat) : decide (c ∈ (Str.ofString "<.>").cps.toList) = isG c := by
  rw [signs_tl]
  unfold isG
  by_cases h1 : c = 60
  · subst h1; rfl
  · by_cases h2 : c = 46
    · subst h2; rfl
    · by_cases h3 : c = 62
      · subst h3; rfl
      · rw [decide_eq_false h1, decide_eq_false h2, decide_eq_false h3]
        refine decide_eq_false fun h => ?_
        simp only [List.mem_cons, List.not_mem_nil, or_false] at h
        rcases h with h | h | h
        · exact h1 h
        · exact h2 h
        · exact h3 h
theorem isG_or {c : Nat} (h : isG c = true) : c = 60 ∨ c = 46 ∨ c = 62 := by
  unfold isG at h
  rw [Bool.or_eq_true, Bool.or_eq_true, decide_eq_true_iff, decide_eq_true_iff, decide_eq_true_iff] at h
  omega
/-- a sign's lay, a lay's sign -/
def va (c : Nat) : Int := if c = 60 then -1 else if c = 46 then 0 else 1
def sg (z : Int) : Nat := if z = -1 then 60 else if z = 0 then 46 else 62
theorem va_sg {z : Int} (h : -1 ≤ z ∧ z ≤ 1) : va (sg z) = z := by
  have : z = -1 ∨ z = 0 ∨ z = 1 := by omega
  rcases this with e | e | e <;> rw [e] <;> rfl
theorem isG_sg (z : Int) : isG (sg z) = true := by
  unfold sg
  split
  · rfl
  · split <;> rfl
theorem va_lay (c : Nat) : -1 ≤ va c ∧ va c ≤ 1 := by
  unfold va
  split
  · decide
  · split <;> decide
theorem sg_at {z : Int} (h : -1 ≤ z ∧ z ≤ 1) : atI (Str.ofString "<.>").cps.toList (z + 1) = some (sg z) := by
  rw [signs_tl]
  have : z = -1 ∨ z = 0 ∨ z = 1 := by omega
  rcases this with e | e | e <;> rw [e] <;> rfl
theorem find_sign {c : Nat} (h : isG c = true) : Txt.find (Str.ofString "<.>") ⟨#[c]⟩ - 1 = va c := by
  rcases isG_or h with e | e | e <;> rw [e] <;> decide +kernel
theorem starts_dot (l : List Nat) : Txt.startswith (tx l) (Str.ofString ".") = decide (l.head? = some 46) := by
  have h1 : (Str.ofString ".").length = 1 := by decide +kernel
  have h2 : (Str.ofString ".").cps.toList = [46] := by decide +kernel
  unfold Txt.startswith
  rw [StrLaws.subAt_eq, h2, h1, List.drop_zero, tx_len]
  cases l with
  | nil => rfl
  | cons c r =>
    have e : (tx (c :: r)).cps.toList.take 1 = [c] := by simp [tx]
    rw [e, decide_eq_true (by rw [List.length_cons]; omega), Bool.true_and]
    by_cases hc : c = 46
    · subst hc; rfl
    · rw [decide_eq_false (by simp; exact hc)]
      exact beq_eq_false_iff_ne.mpr (by simp; exact hc)
/-- the text that writes lays -/
def tl (ns : List Int) : List Nat := (ns.map sg).reverse
def txt (ns : List Int) : List Nat := if ns = [] then [46] else tl ns
/-- what a text writes -/
def okT (l : List Nat) : Bool := !decide (l = []) && l.all isG && (!decide (l.head? = some 46) || decide (l = [46]))
def okV : V → Bool
  | .str z => okT z.cps.toList
  | _ => false
def rd (l : List Nat) : List Int := if l = [46] then [] else (l.map va).reverse
theorem rd_lays (l : List Nat) : Lays (rd l) := fun x hx => by
  unfold rd at hx
  split at hx
  · cases hx
  · rw [List.mem_reverse] at hx
    obtain ⟨c, _, rfl⟩ := List.mem_map.mp hx
    exact va_lay c
theorem rd_len (l : List Nat) : (rd l).length ≤ l.length := by
  unfold rd
  split
  · exact Nat.zero_le _
  · rw [List.length_reverse, List.length_map]; exact Nat.le_refl _
theorem join_ones (l : List Nat) : TL.joinL [] (l.map fun c => [c]) = l := by
  induction l with
  | nil => rfl
  | cons c r ih =>
    cases r with
    | nil => rfl
    | cons d s =>
      show [c] ++ [] ++ TL.joinL [] ((d :: s).map fun c => [c]) = c :: d :: s
      rw [ih]; rfl
theorem join_signs (l : List Nat) : Txt.join (Str.ofString "") (l.map fun c => (⟨#[c]⟩ : Str)) = tx l := by
  have e := SX.join_S [] (l.map fun c => [c])
  rw [join_ones, List.map_map] at e
  rw [none_S]
  exact e
theorem tl_rd {ns : List Int} (h : Form ns) : okT (txt ns) = true ∧ rd (txt ns) = ns := by
  unfold txt
  by_cases hn : ns = []
  · rw [if_pos hn, hn]
    exact ⟨by decide, rfl⟩
  · rw [if_neg hn]
    rcases last_cases ns with e | ⟨ys, l, rfl⟩
    · exact (hn e).elim
    · have hl : l ≠ 0 := fun e => h.2 (by rw [List.getLast?_concat, e])
      have hs : sg l ≠ 46 := by
        have hb := h.1 l (List.mem_append.mpr (.inr (List.mem_singleton.mpr rfl)))
        have : l = -1 ∨ l = 1 := by omega
        rcases this with e | e <;> rw [e] <;> decide
      have et : tl (ys ++ [l]) = sg l :: tl ys := by
        unfold tl
        rw [List.map_append, List.reverse_append]; rfl
      have n46 : ¬ tl (ys ++ [l]) = [46] := fun e => by
        rw [et] at e
        exact hs (List.cons.inj e).1
      refine ⟨?_, ?_⟩
      · unfold okT
        rw [Bool.and_eq_true, Bool.and_eq_true]
        refine ⟨⟨?_, ?_⟩, ?_⟩
        · rw [et, decide_eq_false (by simp)]; rfl
        · rw [List.all_eq_true]
          intro c hc
          unfold tl at hc
          rw [List.mem_reverse] at hc
          obtain ⟨z, _, rfl⟩ := List.mem_map.mp hc
          exact isG_sg z
        · rw [et, decide_eq_false (by simp; exact hs)]; rfl
      · unfold rd
        rw [if_neg n46]
        unfold tl
        rw [List.map_reverse, List.reverse_reverse, List.map_map]
        have : ∀ ms : List Int, Lays ms → ms.map (va ∘ sg) = ms := fun ms hm => by
          induction ms with
          | nil => rfl
          | cons x r ih =>
            rw [List.map_cons, ih fun y hy => hm y (List.mem_cons_of_mem _ hy)]
            show va (sg x) :: r = x :: r
            rw [va_sg (hm x List.mem_cons_self)]
        exact this _ h.1
theorem rd_form {l : List Nat} (h : okT l = true) : Form (rd l) := by
  refine ⟨rd_lays l, ?_⟩
  unfold okT at h
  rw [Bool.and_eq_true, Bool.and_eq_true] at h
  unfold rd
  split
  · simp
  · rename_i hn
    cases l with
    | nil => simp
    | cons c r =>
      have h3 := h.2
      rw [decide_eq_false hn, Bool.or_false] at h3
      have hc : c ≠ 46 := fun e => by rw [e] at h3; exact absurd h3 (by simp)
      rw [List.map_cons, List.reverse_cons, List.getLast?_concat]
      intro e
      have e2 : va c = 0 := Option.some.inj e
      have h2 := h.1.2
      rw [List.all_cons, Bool.and_eq_true] at h2
      rcases isG_or h2.1 with q | q | q
      · rw [q] at e2; exact absurd e2 (by decide)
      · exact hc q
      · rw [q] at e2; exact absurd e2 (by decide)
def topS (i : Nat) : Stmt := PySem.Challenge.pw_poisescale_k04_written_and_read.main.body.getD i (.Pass ⟨0, 0, 0, 0⟩)
/-- built-in names that the text leaves as they are -/
structure Bi (mg : Str → Option Value) : Prop where
  ValueError : mg "ValueError" = none
  bool : mg "bool" = none
  int : mg "int" = none
  isinstance : mg "isinstance" = none
  len : mg "len" = none
  list : mg "list" = none
  range : mg "range" = none
  reversed : mg "reversed" = none
  str : mg "str" = none
  tuple : mg "tuple" = none
/-! ### is_whole, is_form, checked -/
section
variable {P : Program} {w : World} {K : PySem.W.Frag} {mg : Str → Option Value} {base : Heap}
abbrev s_is_whole : Stmt := topS 7
abbrev N_is_whole : List Str := ["thing"]
theorem sc_is_whole : FnScope N_is_whole ["thing"] (defScope s_is_whole) := ⟨rfl, rfl, rfl, by decide +kernel, rfl, by decide +kernel, by decide +kernel⟩
def sp_is_whole : Sp := fun vs H Q _ => ∃ x : V, vs = [x] ∧ WOk H x ∧ Q (.bl (isW x)) H
theorem ok_is_whole (S : Src K mg "is_whole" s_is_whole ["thing"]) (B : Bi mg) : Cal P w K mg base CX0 1 "is_whole" ["thing"] sp_is_whole := by
  refine S.cal fun f fd F => F.ok sc_is_whole (fun vs H Q E h => ?_) (fun cdv A outer s H vs Q E hr h => ?_)
  · obtain ⟨x, rfl, _⟩ := h
    rfl
  · obtain ⟨x, rfl, hx, q⟩ := h
    refine ⟨_, (pss_one (ps_ret (pe_and (pe_callB call_isi (by rfl) B.isinstance (by decide +kernel) (pa_cons (pv 0) (pa_cons (pe_bltn (v := .ty "int") (by rfl) B.int (by decide +kernel) rfl) pa_nil))) (pe_one (pe_not (pe_callB call_isi (by rfl) B.isinstance (by decide +kernel) (pa_cons (pv 0) (pa_cons (pe_bltn (v := .ty "bool") (by rfl) B.bool (by decide +kernel) rfl) pa_nil)))))))), ?_⟩
    refine ⟨_, rfl, _, _, _, _, _, rfl, .ty _, hx.ty, kit_ty (kit_int hx), _, rfl, ?_⟩
    cases x with
    | int i => exact iteT ⟨_, rfl, _, _, _, _, _, rfl, .ty _, hx.ty, kit_ty (kit_bool hx), _, rfl, q⟩
    | bl b => exact iteT ⟨_, rfl, _, _, _, _, _, rfl, .ty _, hx.ty, kit_ty (kit_bool hx), _, rfl, q⟩
    | _ => exact iteF q
abbrev s_is_form : Stmt := topS 8
abbrev N_is_form : List Str := ["thing", "lay"]
theorem sc_is_form : FnScope N_is_form ["thing"] (defScope s_is_form) := ⟨rfl, rfl, rfl, by decide +kernel, rfl, by decide +kernel, by decide +kernel⟩
def sp_is_form : Sp := fun vs H Q _ => ∃ x : V, vs = [x] ∧ Hand H x ∧ Q (.bl (isF H x)) H
theorem ok_is_form (S : Src K mg "is_form" s_is_form ["thing"]) (B : Bi mg) (C1 : Cal P w K mg base CX0 1 "is_whole" ["thing"] sp_is_whole) : Cal P w K mg base CX0 2 "is_form" ["thing"] sp_is_form := by
  obtain ⟨_, _, G_is_whole, g_is_whole, k_is_whole, b_is_whole⟩ := C1
  refine S.cal fun f fd F => F.ok sc_is_form (fun vs H Q E h => ?_) (fun cdv A outer s H vs Q E hr h => ?_)
  · obtain ⟨x, rfl, _⟩ := h
    rfl
  · obtain ⟨x, rfl, hx, q⟩ := h
    refine ⟨_, (pss_cons (ps_if (pt_not (pt_val (pe_callB call_isi (by rfl) B.isinstance (by decide +kernel) (pa_cons (pv 0) (pa_cons (pe_bltn (v := .ty "list") (by rfl) B.list (by decide +kernel) rfl) pa_nil))))) (pss_one (ps_ret pe_bl)) pss_nil)
      (pss_cons (ps_for PassesOwn.never rfl (pi_list (pv 0)) (pg_name (i := 1) sc_is_form.nd rfl (.inl rfl))
        (pss_one (ps_if (PW.pt (pw_or (pt_not (pt_val (pe_call G_is_whole (hr.mono (by decide)) rfl g_is_whole k_is_whole b_is_whole .nil pass0 (pa_cons (pv 1) pa_nil)))) (pw_or (pt_cmpR op_lt (pv 1) (pe_un un_neg pe_int) (nomark _)) (pw_or1 (pt_cmpR op_gt (pv 1) pe_int (nomark _)))))) (pss_one (ps_ret pe_bl)) pss_nil)))
      (pss_one (ps_ret (pe_or (pe_cmpR op_eq (pe_callB call_len_seq (by rfl) B.len PySem.boot_len (pa_cons (pv 0) pa_nil)) pe_int (nomark _)) (pe_one (pe_cmpR op_ne (pe_ix ix_list (pv 0) (pe_un un_neg pe_int) (fun _ _ => rfl)) pe_int (nomark _)))))))), ?_⟩
    refine ⟨_, rfl, _, _, _, _, _, rfl, .ty _, hx.1.ty, kit_ty (kit_list hx.1), _, rfl, ?_⟩
    cases e : isL H x with
    | false =>
      rw [isF_not e] at q
      exact iteT q
    | true =>
      refine iteF ?_
      obtain ⟨a, xs, rfl, ea⟩ := isL_ref e
      have hys := hx.2 a xs rfl ea
      refine ⟨_, rfl, a, rfl, ⟨_, SqL.of ea⟩, for_list (K := K) (a := a) (xs := xs) (fun i σ H' => ∃ v : Option V, σ = [some (.ref a), v] ∧ H' = H ∧ (xs.take i).all okLay = true)
        ⟨none, rfl, rfl, rfl⟩ (fun i σ H' _ ⟨_, _, e, _⟩ => by rw [e]; exact SqL.of ea) ?_ ?_⟩
      · rintro i y σ H' hi ⟨v, rfl, rfl, ok⟩
        have hy := hys y (List.mem_of_getElem? hi)
        refine ⟨_, rfl, y, rfl, hy, _, rfl, ?_⟩
        have bad : okLay y = false → Q (.bl false) H' := fun hb => by
          have q2 := q
          rw [isF_list ea, formV_bad hi hb] at q2
          exact q2
        cases y with
        | int z =>
          refine iteF ?_
          refine ⟨_, rfl, _, rfl, _, _, rfl, rfl, _, rfl, ?_⟩
          by_cases h1 : z < -1
          · rw [decide_eq_true h1]
            exact iteT (iteT (bad (decide_eq_false (by omega))))
          · rw [decide_eq_false h1]
            refine iteF ⟨_, rfl, _, _, rfl, rfl, _, rfl, ?_⟩
            by_cases h2 : 1 < z
            · rw [decide_eq_true h2]
              exact iteT (bad (decide_eq_false (by omega)))
            · rw [decide_eq_false h2]
              exact iteF ⟨_, rfl, rfl, all_more hi ok (decide_eq_true (by omega))⟩
        | _ => exact iteT (iteT (bad rfl))
      · rintro σ H' ⟨v, rfl, rfl, ok⟩
        rw [List.take_length] at ok
        rw [isF_list ea] at q
        refine ⟨_, rfl, a, _, rfl, .inl (SqL.of ea), rfl, _, rfl, ?_⟩
        rcases last_cases xs with rfl | ⟨ys, l, rfl⟩
        · exact iteT q
        · rw [decide_eq_false (by rw [List.length_append]; intro e; have e2 := V.int.inj e; simp at e2; omega)]
          have okl := List.all_eq_true.mp ok l (by simp)
          obtain ⟨z, rfl, _, _⟩ := int_of_okLay okl
          refine iteF ⟨_, rfl, _, rfl, a, _, _, _, rfl, rfl, SqL.of ea, atI_last ys _, rfl, ?_⟩
          rw [formV_last ok] at q
          exact q
/-! ### checked: NF is NoForm's class -/
abbrev s_checked : Stmt := topS 9
abbrev N_checked : List Str := ["thing"]
theorem sc_checked : FnScope N_checked ["thing"] (defScope s_checked) := ⟨rfl, rfl, rfl, by decide +kernel, rfl, by decide +kernel, by decide +kernel⟩
def sp_checked (C : Addr) : Sp := fun vs H Q E => ∃ x : V, vs = [x] ∧ Hand H x ∧ (isF H x = true → Q x H) ∧ (isF H x = false → E (.ref C) none H)
theorem ok_checked {cF cS : Addr} (S : Src K mg "checked" s_checked ["thing"]) (C1 : Cal P w K mg base CX0 2 "is_form" ["thing"] sp_is_form) (ZF : ErrC K mg "NoForm" cF cS) : Cal P w K mg base (L2.CX P w) 3 "checked" ["thing"] (sp_checked cF) := by
  obtain ⟨_, _, G_is_form, g_is_form, k_is_form, b_is_form⟩ := C1
  refine S.cal fun f fd F => F.okX sc_checked (fun vs H Q E h => ?_) (fun cdv A outer s H vs Q E hr h => ?_)
  · obtain ⟨x, rfl, _⟩ := h
    rfl
  · obtain ⟨x, rfl, hx, q1, q2⟩ := h
    refine ⟨_, (pss_cons (ps_if (pt_not (pt_val (pe_call G_is_form (hr.mono (by decide)) rfl g_is_form k_is_form b_is_form .nil pass0 (pa_cons (pv 0) pa_nil)))) (pss_one (ps_raise rfl (takes_of rfl rfl rfl rfl) (pmk_own PySem.F.excBase_ValueError ZF.x ZF.g ZF.k (raises_own ZF.b ZF.t) (by exact rfl)))) pss_nil)
      (pss_one (ps_ret (pv 0)))), ?_⟩
    refine ⟨_, rfl, x, rfl, hx, _, rfl, ?_⟩
    cases e : isF H x with
    | true => exact iteF ⟨_, rfl, q1 e⟩
    | false => exact iteT (q2 e)
end
/-! ### shown, read -/
section
variable {P : Program} {w : World} {K : PySem.W.Frag} {mg : Str → Option Value} {base : Heap}
theorem ones_map (l : List Nat) : (l.map fun c => (⟨#[c]⟩ : Str)).map V.str = l.map fun c => V.str ⟨#[c]⟩ := by rw [List.map_map]; rfl
theorem ones_sum (l : List Nat) : ((l.map fun c => (⟨#[c]⟩ : Str)).map (·.length)).sum = l.length := by
  induction l with
  | nil => rfl
  | cons c r ih =>
    rw [List.map_cons, List.map_cons, List.sum_cons, ih, List.length_cons]
    show 1 + r.length = r.length + 1
    omega
theorem tl_turn {ns : List Int} {i : Nat} {z : Int} (h : ns[ns.length - 1 - i]? = some z) (hi : i < ns.length) : ((ns.drop (ns.length - (i + 1))).map sg).reverse = ((ns.drop (ns.length - i)).map sg).reverse ++ [sg z] := by
  have h1 : ns.length - 1 - i < ns.length := by omega
  rw [show ns.length - (i + 1) = ns.length - 1 - i by omega, List.drop_eq_getElem_cons h1, show ns.length - i = ns.length - 1 - i + 1 by omega]
  rw [List.getElem?_eq_getElem h1] at h
  rw [Option.some.inj h, List.map_cons, List.reverse_cons]
abbrev s_shown : Stmt := topS 12
abbrev N_shown : List Str := ["form", "lay"]
theorem sc_shown : FnScope N_shown ["form"] (defScope s_shown) := ⟨rfl, rfl, rfl, by decide +kernel, rfl, by decide +kernel, by decide +kernel⟩
def sp_shown (C : Addr) : Sp := fun vs H Q E => ∃ x : V, vs = [x] ∧ Asks C x H E fun _ ns => ns.length ≤ 100000 ∧ ∀ H', Same H H' → Q (.str (tx (txt ns))) H'
theorem ok_shown {cF : Addr} {tk : Tok} (S : Src K mg "shown" s_shown ["form"]) (B : Bi mg) (g_SIGNS : mg "SIGNS" = some (.str "<.>" tk)) (C1 : Cal P w K mg base (L2.CX P w) 3 "checked" ["thing"] (sp_checked cF)) : Cal P w K mg base (L2.CX P w) 4 "shown" ["form"] (sp_shown cF) := by
  obtain ⟨_, _, G_checked, g_checked, k_checked, b_checked⟩ := C1
  refine S.cal fun f fd F => F.okX sc_shown (fun vs H Q E h => ?_) (fun cdv A outer s H vs Q E hr h => ?_)
  · obtain ⟨x, rfl, _⟩ := h
    rfl
  · obtain ⟨x, rfl, hx, q1, q2⟩ := h
    refine ⟨_, (pss_cons (ps_if (pt_cmpR op_eq (pe_callB call_len_seq (by rfl) B.len PySem.boot_len (pa_cons (pe_call G_checked (hr.mono (by decide)) rfl g_checked k_checked b_checked .nil (passes_call (takes_of rfl rfl rfl rfl) (fun _ _ _ _ h => h)) (pa_cons (pv 0) pa_nil)) pa_nil)) pe_int (nomark _)) (pss_one (ps_ret pe_str)) pss_nil)
      (pss_one (ps_ret (pe_join pe_str (pe_lc (own := [("lay", 1)]) (g := gName 1) rfl sc_shown.nd (pi_reversed (by rfl) B.reversed (pa_cons (pv 0) pa_nil)) (blkOk_by (own := [("lay", 1)]) (N := N_shown) (sc := defScope s_shown) (by decide +kernel)) (fun _ _ _ _ _ => pg_name (i := 1) sc_shown.nd rfl (Or.inl rfl)) (fun _ _ _ _ _ => pts_nil) (fun _ _ _ _ _ => (pe_ix (r := rIxS) ix_str (pe_glob (v := .str "<.>") rfl g_SIGNS ⟨_, rfl⟩) (pe_op op_add (pv 1) pe_int) (fun _ _ => rfl)))))))), ?_⟩
    refine ⟨_, rfl, x, rfl, hx, fun ok => ?_, fun e => q2 e H (Same.refl H)⟩
    obtain ⟨a, ns, rfl, fa⟩ := isF_true ok
    obtain ⟨ln, q⟩ := q1 a ns rfl fa
    have e1 : (ns.map V.int).length = ns.length := List.length_map ..
    refine ⟨a, _, rfl, .inl (SqL.of fa.1), rfl, _, rfl, ?_⟩
    by_cases hn : ns = []
    · rw [e1, hn, decide_eq_true (show V.int ((([] : List Int).length : Nat) : Int) = V.int 0 from rfl)]
      have e2 := q H (Same.refl H)
      unfold txt at e2
      rw [if_pos hn, ← dot_S] at e2
      exact iteT e2
    · have n0 : ns.length ≠ 0 := fun e => hn (List.length_eq_zero_iff.mp e)
      rw [e1, decide_eq_false (by intro e; have e2 := V.int.inj e; omega)]
      refine iteF ⟨⟨_, rfl⟩, _, rfl, a, ns.map V.int, rfl, SqL.of fa.1, fun D nD => ?_⟩
      refine lc_it (walk_rev (K := K) (a := a) (xs := ns.map V.int)) (fun i H' => Same H H' ∧ H' D = some (.lst ((((ns.drop (ns.length - i)).map sg).reverse).map fun c => V.str ⟨#[c]⟩))) ⟨same_upd nD, ?_⟩ (fun i H' _ h => SqL.of (h.1 _ _ fa.1)) ?_ ?_
      · rw [upd_same, Nat.sub_zero, List.drop_length]; rfl
      · rintro i y H1 H2 hi ⟨sm, eD⟩ ⟨rfl, hy⟩
        rw [e1] at hi hy
        obtain ⟨z, hz, rfl⟩ := ints_get hy
        have hl := fa.2.1 z (List.mem_of_getElem? hz)
        refine ⟨rfl, ?_⟩
        dsimp only [tYes]
        refine iteT ?_
        refine ⟨_, rfl, _, _, rfl, rfl, _, _, sg z, rfl, rfl, ?_, sg_at hl, _, eD, small (by rw [List.length_map, List.length_reverse, List.length_map, List.length_drop]; omega), same_put sm nD, ?_⟩
        · exact Nat.le_trans (m := 3) (by decide +kernel) (by decide)
        · rw [upd_same, tl_turn hz hi, List.map_append]; rfl
      · rintro H1 ⟨sm, eD⟩
        rw [e1, Nat.sub_self, List.drop_zero] at eD
        refine ⟨_, D, (tl ns).map fun c => ⟨#[c]⟩, rfl, rfl, .inl (SqL.of (by rw [ones_map]; exact eD)), ?_, ?_⟩
        · rw [ones_sum, List.length_map]
          have l0 : (Str.ofString "").length = 0 := by decide +kernel
          rw [l0]
          unfold tl
          rw [List.length_reverse, List.length_map]
          omega
        · rw [join_signs]
          have e2 := q H1 sm
          unfold txt at e2
          rw [if_neg hn] at e2
          exact e2
abbrev s_read : Stmt := topS 13
abbrev N_read : List Str := ["text", "sign"]
theorem sc_read : FnScope N_read ["text"] (defScope s_read) := ⟨rfl, rfl, rfl, by decide +kernel, rfl, by decide +kernel, by decide +kernel⟩
def sp_read (C : Addr) : Sp := fun vs H Q E => ∃ x : V, vs = [x] ∧ WOk H x ∧ (∀ l, x = .str (tx l) → l.length ≤ 100000) ∧ (∀ l, x = .str (tx l) → okT l = true → ∀ H' p, Same H H' → H p = none → H' p = some (.lst ((rd l).map V.int)) → Q (.ref p) H') ∧ (okV x = false → ∀ H', Same H H' → E (.ref C) none H')
theorem ok_read {cT cS : Addr} {tk : Tok} (S : Src K mg "read" s_read ["text"]) (B : Bi mg) (g_SIGNS : mg "SIGNS" = some (.str "<.>" tk)) (ZT : ErrC K mg "NoText" cT cS) : Cal P w K mg base (L2.CX P w) 1 "read" ["text"] (sp_read cT) := by
  refine S.cal fun f fd F => F.okX sc_read (fun vs H Q E h => ?_) (fun cdv A outer s H vs Q E hr h => ?_)
  · obtain ⟨x, rfl, _⟩ := h
    rfl
  · obtain ⟨x, rfl, hx, hlen, q1, q2⟩ := h
    refine ⟨_, (pss_cons (ps_if (PW.pt (pw_or (pt_not (pt_val (pe_callB call_isi (by rfl) B.isinstance (by decide +kernel) (pa_cons (pv 0) (pa_cons (pe_bltn (v := .ty "str") (by rfl) B.str (by decide +kernel) rfl) pa_nil))))) (pw_or1 (pt_cmpR op_eq (pv 0) pe_str (nomark _))))) (pss_one (ps_raise rfl (takes_of rfl rfl rfl rfl) (pmk_own PySem.F.excBase_ValueError ZT.x ZT.g ZT.k (raises_own ZT.b ZT.t) (by exact rfl)))) pss_nil)
      (pss_cons (ps_for (passes_of rfl) rfl (pi_str (pv 0)) (pg_name (i := 1) sc_read.nd rfl (.inl rfl))
        (pss_one (ps_if (pt_cmpR op_notIn_sign (pv 1) (pe_glob (v := .str "<.>") rfl g_SIGNS ⟨_, rfl⟩) (by rfl)) (pss_one (ps_raise rfl (takes_of rfl rfl rfl rfl) (pmk_own PySem.F.excBase_ValueError ZT.x ZT.g ZT.k (raises_own ZT.b ZT.t) (by exact rfl)))) pss_nil)))
      (pss_cons (ps_if (pt_cmpR op_eq (pv 0) pe_str (nomark _)) (pss_one (ps_ret (pe_lst pa_nil))) pss_nil)
      (pss_cons (ps_if (pt_val (pe_m1 PySem.F.slot_str_startswith PySem.F.type_str_startswith mt_startswith (pv 0) pe_str)) (pss_one (ps_raise rfl (takes_of rfl rfl rfl rfl) (pmk_own PySem.F.excBase_ValueError ZT.x ZT.g ZT.k (raises_own ZT.b ZT.t) (by exact rfl)))) pss_nil)
      (pss_one (ps_ret (pe_lc (own := [("sign", 1)]) (g := gName 1) rfl sc_read.nd (Rs.pi_revStr (by rfl) B.reversed (pv 0)) (blkOk_by (own := [("sign", 1)]) (N := N_read) (sc := defScope s_read) (by decide +kernel)) (fun _ _ _ _ _ => pg_name (i := 1) sc_read.nd rfl (Or.inl rfl)) (fun _ _ _ _ _ => pts_nil) (fun _ _ _ _ _ => (pe_op op_sub (pe_m1 PySem.F.slot_str_find PySem.F.type_str_find mt_find (pe_glob (v := .str "<.>") rfl g_SIGNS ⟨_, rfl⟩) (pv 1)) pe_int))))))))), ?_⟩
    refine ⟨_, rfl, _, _, _, _, _, rfl, .ty _, hx.ty, kit_ty (kit_str hx), _, rfl, ?_⟩
    cases x with
    | str z =>
      obtain ⟨l, rfl⟩ : ∃ l, z = tx l := ⟨_, tx_of z⟩
      have ln := hlen l rfl
      have bad : okT l = false → E (.ref cT) none H := fun e => q2 e H (Same.refl H)
      refine iteF ⟨_, rfl, rfl, _, rfl, ?_⟩
      by_cases h0 : l = []
      · have e9 : V.str (tx l) = V.str (Str.ofString "") := by rw [h0, none_S]
        rw [decide_eq_true e9]
        exact iteT (bad (by rw [h0]; rfl))
      · have e9 : ¬ V.str (tx l) = V.str (Str.ofString "") := fun e => h0 (tx_inj ((V.str.inj e).trans none_S))
        rw [decide_eq_false e9]
        refine iteF ⟨_, rfl, tx l, rfl, for_it (walk_str (z := tx l)) (D := ⟨_, _, fun _ _ => False, fun _ _ => False⟩) (fun i σ H' => ∃ v : Option V, σ = [some (.str (tx l)), v] ∧ H' = H ∧ (l.take i).all isG = true) ⟨none, rfl, rfl, rfl⟩ (fun _ _ _ _ _ => trivial) ?_ ?_⟩
        · rintro i y σ H1 H2 hi ⟨v, rfl, rfl, hg⟩ ⟨rfl, c, hc, rfl⟩
          have hc2 : l[i]? = some c := by
            have : (l.toArray)[i]? = some c := hc
            rw [List.getElem?_toArray] at this
            exact this
          refine ⟨_, rfl, c, _, rfl, rfl, _, rfl, ?_⟩
          rw [isG_mem]
          cases hgc : isG c with
          | false =>
            refine iteT (bad ?_)
            unfold okT
            have : l.all isG = false := by
              rw [List.all_eq_false]
              exact ⟨c, List.mem_of_getElem? hc2, by rw [hgc]; decide⟩
            rw [this, Bool.and_false]; rfl
          | true =>
            refine iteF ⟨_, rfl, rfl, ?_⟩
            rw [take_more hc2, List.all_append, hg, List.all_cons, hgc]; rfl
        · rintro σ H1 ⟨v, rfl, rfl, hg⟩
          have hsz : (tx l).cps.size = l.length := tx_len l
          rw [hsz, List.take_length] at hg
          refine ⟨_, rfl, rfl, _, rfl, ?_⟩
          by_cases h1 : l = [46]
          · have e9 : V.str (tx l) = V.str (Str.ofString ".") := by rw [h1, dot_S]
            rw [decide_eq_true e9]
            refine iteT ⟨Nat.zero_le _, fun p np => ?_⟩
            refine q1 l rfl (by rw [h1]; decide) _ p (same_upd np) np ?_
            rw [upd_same, h1]; rfl
          · have e9 : ¬ V.str (tx l) = V.str (Str.ofString ".") := fun e => h1 (tx_inj ((V.str.inj e).trans dot_S))
            rw [decide_eq_false e9]
            refine iteF ⟨_, rfl, ⟨_, rfl⟩, tx l, _, rfl, rfl, _, rfl, ?_⟩
            rw [starts_dot]
            have hok : okT l = !decide (l.head? = some 46) := by
              unfold okT
              rw [hg, decide_eq_false h0, decide_eq_false h1, Bool.or_false]; rfl
            by_cases h2 : l.head? = some 46
            · rw [decide_eq_true h2] at hok ⊢
              exact iteT (bad hok)
            · rw [decide_eq_false h2] at hok ⊢
              refine iteF ⟨_, rfl, tx l, rfl, small' (by rw [hsz]; omega), fun D nD => ?_⟩
              have er : rd l = (l.map va).reverse := by
                unfold rd
                rw [if_neg h1]
              refine lc_it (Rs.walk (z := tx l)) (fun i H' => Same H1 H' ∧ H' D = some (.lst ((((l.drop (l.length - i)).map va).reverse).map V.int))) ⟨same_upd nD, ?_⟩ (fun _ _ _ _ => trivial) ?_ ?_
              · rw [upd_same, Nat.sub_zero, List.drop_length]; rfl
              · rintro i y H3 H4 hi ⟨sm, eD⟩ ⟨rfl, c, hc, rfl⟩
                rw [hsz] at hi hc
                have hc2 : l[l.length - 1 - i]? = some c := by
                  have : (l.toArray)[l.length - 1 - i]? = some c := hc
                  rw [List.getElem?_toArray] at this
                  exact this
                have hgc : isG c = true := List.all_eq_true.mp hg c (List.mem_of_getElem? hc2)
                refine ⟨rfl, ?_⟩
                dsimp only [tYes]
                refine iteT ?_
                refine ⟨⟨_, rfl⟩, _, rfl, _, _, rfl, rfl, _, _, rfl, rfl, _, eD, small (ints_len (by rw [List.length_reverse, List.length_map, List.length_drop]; omega)), same_put sm nD, ?_⟩
                have h9 : l.length - 1 - i < l.length := by omega
                rw [upd_same, show l.length - (i + 1) = l.length - 1 - i by omega, List.drop_eq_getElem_cons h9]
                rw [List.getElem?_eq_getElem h9] at hc2
                rw [Option.some.inj hc2, show l.length - 1 - i + 1 = l.length - i by omega, List.map_cons, List.reverse_cons, List.map_append]
                show some (HO.lst (_ ++ [V.int (Txt.find (Str.ofString "<.>") ⟨#[c]⟩ - 1)])) = _
                rw [find_sign hgc]; rfl
              · rintro H3 ⟨sm, eD⟩
                rw [hsz, Nat.sub_self, List.drop_zero, ← er] at eD
                exact q1 l rfl hok H3 D sm nD eD
    | _ => exact iteT (iteT (q2 rfl H (Same.refl H)))
end
/-! ### _law_cell_at: some int of the script's, or 0 -/
section
variable {P : Program} {w : World} {K : PySem.W.Frag} {mg : Str → Option Value} {base : Heap}
abbrev s__law_cell_at : Stmt := topS 15
abbrev N__law_cell_at : List Str := ["_law_script", "_law_k"]
theorem sc__law_cell_at : FnScope N__law_cell_at ["_law_script", "_law_k"] (defScope s__law_cell_at) := ⟨rfl, rfl, rfl, by decide +kernel, rfl, by decide +kernel, by decide +kernel⟩
def sp__law_cell_at (K : PySem.W.Frag) : Sp := fun vs H Q _ => ∃ (a : Addr) (ns : List Int) (k : Nat), vs = [.ref a, .int (k : Int)] ∧ SqL K H a (ns.map V.int) ∧ ∀ z : Int, Q (.int z) H
theorem ok__law_cell_at (S : Src K mg "_law_cell_at" s__law_cell_at ["_law_script", "_law_k"]) (B : Bi mg) : Cal P w K mg base CX0 1 "_law_cell_at" ["_law_script", "_law_k"] (sp__law_cell_at K) := by
  refine S.cal fun f fd F => F.ok sc__law_cell_at (fun vs H Q E h => ?_) (fun cdv A outer s H vs Q E hr h => ?_)
  · obtain ⟨a, ns, k, rfl, _⟩ := h
    rfl
  · obtain ⟨a, ns, k, rfl, hS, q⟩ := h
    refine ⟨_, (pss_cons (ps_if (pt_cmpR op_lt (pv 1) (pe_callB call_len_seq (by rfl) B.len PySem.boot_len (pa_cons (pv 0) pa_nil)) (nomark _)) (pss_one (ps_ret (pe_ix ix_list (pv 0) (pv 1) (fun _ _ => rfl)))) pss_nil)
      (pss_one (ps_ret pe_int))), ?_⟩
    refine ⟨_, rfl, _, rfl, a, _, rfl, .inl hS, _, _, rfl, rfl, _, rfl, ?_⟩
    refine ite2 (fun c => ?_) (fun _ => q 0)
    have hk : k < ns.length := by
      have c2 := of_decide_eq_true c
      rw [List.length_map] at c2
      omega
    exact ⟨_, rfl, _, rfl, a, _, _, _, rfl, rfl, hS, atI_nat (ints_at (List.getElem?_eq_getElem hk)), q _⟩
end
/-! ### _law_whole -/
section
variable {P : Program} {w : World} {K : PySem.W.Frag} {mg : Str → Option Value} {base : Heap}
abbrev s__law_whole : Stmt := topS 16
abbrev N__law_whole : List Str := ["_law_found"]
theorem sc__law_whole : FnScope N__law_whole ["_law_found"] (defScope s__law_whole) := ⟨rfl, rfl, rfl, by decide +kernel, rfl, by decide +kernel, by decide +kernel⟩
theorem ok__law_whole (S : Src K mg "_law_whole" s__law_whole ["_law_found"]) (B : Bi mg) : Cal P w K mg base CX0 1 "_law_whole" ["_law_found"] sp_is_whole := by
  refine S.cal fun f fd F => F.ok sc__law_whole (fun vs H Q E h => ?_) (fun cdv A outer s H vs Q E hr h => ?_)
  · obtain ⟨x, rfl, _⟩ := h
    rfl
  · obtain ⟨x, rfl, hx, q⟩ := h
    refine ⟨_, (pss_one (ps_ret (pe_and (pe_callB call_isi (by rfl) B.isinstance (by decide +kernel) (pa_cons (pv 0) (pa_cons (pe_bltn (v := .ty "int") (by rfl) B.int (by decide +kernel) rfl) pa_nil))) (pe_one (pe_not (pe_callB call_isi (by rfl) B.isinstance (by decide +kernel) (pa_cons (pv 0) (pa_cons (pe_bltn (v := .ty "bool") (by rfl) B.bool (by decide +kernel) rfl) pa_nil)))))))), ?_⟩
    refine ⟨_, rfl, _, _, _, _, _, rfl, .ty _, hx.ty, kit_ty (kit_int hx), _, rfl, ?_⟩
    cases x with
    | int i => exact iteT ⟨_, rfl, _, _, _, _, _, rfl, .ty _, hx.ty, kit_ty (kit_bool hx), _, rfl, q⟩
    | bl b => exact iteT ⟨_, rfl, _, _, _, _, _, rfl, .ty _, hx.ty, kit_ty (kit_bool hx), _, rfl, q⟩
    | _ => exact iteF q
end
/-! ### _law_form_by: some form -/
section
variable {P : Program} {w : World} {K : PySem.W.Frag} {mg : Str → Option Value} {base : Heap}
theorem at3 {a b c z : Int} : ∃ v : Int, atI ([a, b, c].map V.int) (z % 3) = some (V.int v) := by
  have h1 := Int.emod_nonneg z (show (3 : Int) ≠ 0 by decide)
  have h2 := Int.emod_lt_of_pos z (show (0 : Int) < 3 by decide)
  rcases (show z % 3 = 0 ∨ z % 3 = 1 ∨ z % 3 = 2 by omega) with e | e | e <;> rw [e]
  · exact ⟨a, rfl⟩
  · exact ⟨b, rfl⟩
  · exact ⟨c, rfl⟩
abbrev s__law_form_by : Stmt := topS 17
abbrev N__law_form_by : List Str := ["_law_way", "_law_cells", "_law_lays", "_law_cell", "_law_left", "_law_k"]
theorem sc__law_form_by : FnScope N__law_form_by ["_law_way", "_law_cells"] (defScope s__law_form_by) := ⟨rfl, rfl, rfl, by decide +kernel, rfl, by decide +kernel, by decide +kernel⟩
def sp__law_form_by (K : PySem.W.Frag) : Sp := fun vs H Q _ => ∃ (way : Int) (a : Addr) (cs : List Int), vs = [.int way, .ref a] ∧ SqL K H a (cs.map V.int) ∧ cs.length ≤ 63 ∧
  ∀ H' p ns, Same H H' → H p = none → FormAt H' p ns → ns.length ≤ 567 → Q (.ref p) H'
theorem ok__law_form_by (S : Src K mg "_law_form_by" s__law_form_by ["_law_way", "_law_cells"]) (B : Bi mg) : Cal P w K mg base CX0 1 "_law_form_by" ["_law_way", "_law_cells"] (sp__law_form_by K) := by
  refine S.cal fun f fd F => F.ok sc__law_form_by (fun vs H Q E h => ?_) (fun cdv A outer s H vs Q E hr h => ?_)
  · obtain ⟨way, a, cs, rfl, _⟩ := h
    rfl
  · obtain ⟨way, a, cs, rfl, hS, hlen, q⟩ := h
    refine ⟨_, (pss_cons (ps_set (i := 2) sc__law_form_by.nd rfl (.inl rfl) (pe_lst pa_nil))
      (pss_cons (ps_for PassesOwn.never rfl (pi_list (pv 1)) (pg_name (i := 3) sc__law_form_by.nd rfl (.inl rfl))
        (pss_cons (ps_set (i := 4) sc__law_form_by.nd rfl (.inl rfl) (pe_op op_mod (pe_op op_add (pe_op op_mul (pv 3) pe_int) pe_int) pe_int))
        (pss_cons (ps_join (ps_if (pt_cmpR op_eq (pe_op op_mod (pv 0) pe_int) pe_int (nomark _)) (pss_one (ps_set (i := 4) sc__law_form_by.nd rfl (.inl rfl) (pe_ix ix_list (pe_lst (pa_cons pe_int (pa_cons pe_int (pa_cons pe_int pa_nil)))) (pe_op op_mod (pv 3) pe_int) (fun _ _ => rfl)))) pss_nil))
        (pss_one (ps_for PassesOwn.never rfl (pi_range1 (by rfl) B.range (pa_cons pe_int pa_nil)) (pg_name (i := 5) sc__law_form_by.nd rfl (.inl rfl))
          (pss_cons (ps_expr (pe_bm PySem.F.plainAttrs_list PySem.F.slot_list_append PySem.F.type_list_append mt_append (pv 2) (pa_cons (pe_op op_sub (pe_op op_mod (pv 4) pe_int) pe_int) pa_nil)))
          (pss_one (ps_set (i := 4) sc__law_form_by.nd rfl (.inl rfl) (pe_op op_fdiv (pv 4) pe_int)))))))))
      (pss_cons (ps_join (ps_if (pt_cmpR op_eq (pe_op op_mod (pv 0) pe_int) pe_int (nomark _)) (pss_one (ps_set (i := 2) sc__law_form_by.nd rfl (.inl rfl) (pe_slice sl_list (pv 2) po_none (po_some (pe_op op_mod (pe_op op_fdiv (pv 0) pe_int) pe_int))))) pss_nil))
      (pss_cons (ps_while PassesOwn.never (PW.pt (pw_and (pt_cmpR op_gt (pe_callB call_len_seq (by rfl) B.len PySem.boot_len (pa_cons (pv 2) pa_nil)) pe_int (nomark _)) (pw_and1 (pt_cmpR op_eq (pe_ix ix_list (pv 2) (pe_un un_neg pe_int) (fun _ _ => rfl)) pe_int (nomark _))))) (pss_one (ps_expr (pe_bm0 PySem.F.plainAttrs_list PySem.F.slot_list_pop PySem.F.type_list_pop mt_pop (pv 2)))))
      (pss_one (ps_ret (pv 2))))))), ?_⟩
    refine ⟨Nat.zero_le _, fun p np => ?_⟩
    refine ⟨_, rfl, a, rfl, ⟨_, (same_upd np).seq hS⟩, for_list (K := K) (a := a) (xs := cs.map V.int) (fun i σ H' => ∃ (c l k : Option V) (ns : List Int), σ = [some (.int way), some (.ref a), some (.ref p), c, l, k] ∧ Same H H' ∧ H' p = some (.lst (ns.map V.int)) ∧ Lays ns ∧ ns.length = 9 * i)
      ⟨none, none, none, [], rfl, same_upd np, upd_same, lays_nil, rfl⟩ (fun i σ H' _ ⟨_, _, _, _, _, s, _⟩ => s.seq hS) ?_ ?_⟩
    · rintro i y σ H' hi ⟨c, l, k, ns, rfl, sm, ep, hl, en⟩
      obtain ⟨z, hz, rfl⟩ := ints_get hi
      have hi63 : i < cs.length := (List.getElem?_eq_some_iff.mp hz).1
      refine ⟨_, rfl, _, _, rfl, rfl, .inr (by decide), _, _, rfl, rfl, _, _, rfl, rfl, (by show (0 : Int) < _; decide), ?_⟩
      refine ⟨fun σ' H'' => ∃ (l2 : Int), σ' = [some (.int way), some (.ref a), some (.ref p), some (.int z), some (.int l2), k] ∧ Same H H'' ∧ H'' p = some (.lst (ns.map V.int)), ?_, ?_⟩
      · rintro σ' H'' ⟨l2, rfl, sm, ep⟩
        refine ⟨9, rfl, by decide, by decide, for_range (lo := 0) (n := 9) (fun j σ H' => ∃ (l2 : Int) (k : Option V) (ms : List Int), σ = [some (.int way), some (.ref a), some (.ref p), some (.int z), some (.int l2), k] ∧ Same H H' ∧ H' p = some (.lst (ms.map V.int)) ∧ Lays ms ∧ ms.length = 9 * i + j)
          ⟨l2, k, ns, rfl, sm, ep, hl, en⟩ ?_ ?_⟩
        · rintro j σ H3 hj ⟨l3, k3, ms, rfl, sm3, ep3, hl3, en3⟩
          refine ⟨_, rfl, .inl ⟨rfl, _, SqL.of ep3⟩, _, rfl, _, _, rfl, rfl, (by show (0 : Int) < _; decide), _, _, rfl, rfl, p, _, _, rfl, rfl, ep3, Nat.lt_of_le_of_lt (ints_len (n := 600) (by omega)) (by decide), ?_⟩
          refine ⟨_, rfl, _, _, rfl, rfl, ⟨by decide, by decide⟩, ?_⟩
          have h1 := Int.emod_nonneg l3 (show (3 : Int) ≠ 0 by decide)
          have h2 := Int.emod_lt_of_pos l3 (show (0 : Int) < 3 by decide)
          refine ⟨_, _, ms ++ [l3 % 3 - 1], rfl, same_put sm3 np, ?_, lays_more hl3 (by omega) (by omega), ?_⟩
          · rw [upd_same, List.map_append]; rfl
          · rw [List.length_append, List.length_singleton]; omega
        · rintro σ H3 ⟨l3, k3, ms, rfl, sm3, ep3, hl3, en3⟩
          exact ⟨_, _, _, ms, rfl, sm3, ep3, hl3, by omega⟩
      · refine ⟨_, rfl, _, _, rfl, rfl, (by show (0 : Int) < _; decide), rfl, _, rfl, ?_⟩
        refine ite2 (fun _ => ?_) (fun _ => ⟨_, rfl, sm, ep⟩)
        refine ⟨by decide, fun t nt => ?_⟩
        obtain ⟨v, hv⟩ := at3 (a := 9841) (b := 0) (c := 19682) (z := z)
        refine ⟨_, rfl, _, _, rfl, rfl, (by show (0 : Int) < _; decide), t, _, _, _, rfl, rfl, SqL.of upd_same, hv, v, rfl, sm.trans (same_upd nt), ?_⟩
        rw [upd_ne (ne_of_none ep nt)]
        exact ep
    · rintro σ H1 ⟨c, l, k, ns, rfl, sm, ep, hl, en⟩
      rw [List.length_map] at en
      refine ⟨fun σ' H' => ∃ (p' : Addr) (ms : List Int), σ' = [some (.int way), some (.ref a), some (.ref p'), c, l, k] ∧ Same H H' ∧ H p' = Option.none ∧ H' p' = some (.lst (ms.map V.int)) ∧ Lays ms ∧ ms.length ≤ 567, ?_, ?_⟩
      · rintro σ' H' ⟨p', ms, rfl, sm, np', ep, hl, en⟩
        refine ⟨fun m σ H' => ∃ (ms : List Int), σ = [some (.int way), some (.ref a), some (.ref p'), c, l, k] ∧ Same H H' ∧ H' p' = some (.lst (ms.map V.int)) ∧ Lays ms ∧ ms.length ≤ 567 ∧ m = ms.length,
          ⟨_, ms, rfl, sm, ep, hl, en, rfl⟩, ?_⟩
        rintro m σ H' ⟨ms, rfl, sm, ep, hl, en, rfl⟩
        refine ⟨_, rfl, p', _, rfl, .inl (SqL.of ep), _, _, rfl, rfl, _, rfl, ?_⟩
        rcases last_cases ms with rfl | ⟨ys, z, rfl⟩
        · refine iteF (iteF ⟨_, rfl, q _ _ [] sm np' ⟨ep, hl, by simp⟩ (by simp)⟩)
        · rw [decide_eq_true (by rw [List.length_map, List.length_append]; simp)]
          have eml : (ys ++ [z]).map V.int = ys.map V.int ++ [V.int z] := by rw [List.map_append]; rfl
          rw [eml] at ep
          refine iteT ⟨_, rfl, _, rfl, p', _, _, _, rfl, rfl, SqL.of ep, atI_last _ _, rfl, _, rfl, ?_⟩
          by_cases hz : z = 0
          · subst hz
            refine iteT ⟨_, fun _ _ h => h, _, rfl, .inl ⟨rfl, _, SqL.of ep⟩, p', _, V.int 0, rfl, rfl, ep, ?_, ?_⟩
            · rw [List.length_append, List.length_singleton, Nat.add_sub_cancel]
              exact List.getElem?_concat_length
            · rw [List.length_append, List.length_singleton] at en
              refine ⟨ys.length, ?_, ys, rfl, same_put sm np', ?_, lays_sub hl (fun x hx => List.mem_append_left _ hx), by omega, rfl⟩
              · rw [List.length_append, List.length_singleton]; omega
              · rw [upd_same, pop_int]
          · rw [decide_eq_false (fun e => hz (V.int.inj e))]
            rw [← eml] at ep
            refine iteF ⟨_, rfl, q _ _ _ sm np' ⟨ep, hl, ?_⟩ en⟩
            rw [List.getLast?_concat]
            exact fun e => hz (Option.some.inj e)
      · refine ⟨_, rfl, _, _, rfl, rfl, (by show (0 : Int) < _; decide), rfl, _, rfl, ?_⟩
        refine ite2 (fun _ => ?_) (fun _ => ⟨p, ns, rfl, sm, np, ep, hl, by omega⟩)
        refine ⟨_, rfl, _, rfl, _, _, rfl, rfl, ⟨by decide, by decide⟩, _, _, rfl, rfl, (by show (0 : Int) < _; decide), _, rfl, p, _, rfl, SqL.of ep, fun t nt => ?_⟩
        have hl9 := cutI_len ns none (some (way / 6 % 12))
        refine ⟨t, cutI ns none (some (way / 6 % 12)), rfl, sm.trans (same_upd nt), sm.free nt, ?_, lays_sub hl (fun x hx => cutI_mem hx), by omega⟩
        rw [upd_same, cut_ints]
end
/-! ### _law_bad_by: one of fifteen kinds of what is no form -/
section
variable {P : Program} {w : World} {K : PySem.W.Frag} {mg : Str → Option Value} {base : Heap}
abbrev s__law_bad_by : Stmt := topS 18
abbrev N__law_bad_by : List Str := ["_law_lays", "_law_cell", "_law_way", "_law_far", "_law_at"]
theorem sc__law_bad_by : FnScope N__law_bad_by ["_law_lays", "_law_cell"] (defScope s__law_bad_by) := ⟨rfl, rfl, rfl, by decide +kernel, rfl, by decide +kernel, by decide +kernel⟩
def sp__law_bad_by (K : PySem.W.Frag) : Sp := fun vs H Q _ => ∃ (a : Addr) (cell : Int) (ns : List Int), vs = [.ref a, .int cell] ∧ FormAt H a ns ∧ ns.length ≤ 100000 ∧ ∀ H' v, Same H H' → Bad K H' v → Q v H'
theorem ok__law_bad_by (S : Src K mg "_law_bad_by" s__law_bad_by ["_law_lays", "_law_cell"]) (B : Bi mg) : Cal P w K mg base CX0 1 "_law_bad_by" ["_law_lays", "_law_cell"] (sp__law_bad_by K) := by
  refine S.cal fun f fd F => F.ok sc__law_bad_by (fun vs H Q E h => ?_) (fun cdv A outer s H vs Q E hr h => ?_)
  · obtain ⟨a, cell, ns, rfl, _⟩ := h
    rfl
  · obtain ⟨a, cell, ns, rfl, ⟨ea, fa⟩, hlen, q⟩ := h
    refine ⟨_, (pss_cons (ps_set (i := 2) sc__law_bad_by.nd rfl (.inl rfl) (pe_op op_mod (pv 1) pe_int))
      (pss_cons (ps_set (i := 3) sc__law_bad_by.nd rfl (.inl rfl) (pe_op op_mod (pe_op op_fdiv (pv 1) pe_int) (pe_op op_pow pe_int pe_int)))
      (pss_cons (ps_set (i := 4) sc__law_bad_by.nd rfl (.inl rfl) (pe_op op_mod (pv 3) (pe_op op_add (pe_callB call_len_seq (by rfl) B.len PySem.boot_len (pa_cons (pv 0) pa_nil)) pe_int)))
      (pss_cons (ps_if (pt_cmpR op_eq (pv 2) pe_int (nomark _)) (pss_one (ps_ret (pe_op op_cat (pv 0) (pe_lst (pa_cons pe_int pa_nil))))) pss_nil)
      (pss_cons (ps_if (pt_cmpR op_lt (pv 2) pe_int (nomark _)) (pss_one (ps_ret (pe_op op_cat (pe_op op_cat (pe_slice sl_list (pv 0) po_none (po_some (pv 4))) (pe_lst (pa_cons (pe_ix ix_list (pe_lst (pa_cons (pe_op op_add pe_int (pv 3)) (pa_cons (pe_op op_sub (pe_un un_neg pe_int) (pv 3)) (pa_cons pe_bl (pa_cons pe_non (pa_cons pe_str pa_nil)))))) (pe_op op_sub (pv 2) pe_int) (fun _ _ => rfl)) pa_nil))) (pe_slice sl_list (pv 0) (po_some (pv 4)) po_none)))) pss_nil)
      (pss_cons (ps_if (pt_cmpR op_eq (pv 2) pe_int (nomark _)) (pss_one (ps_ret (pe_callTy call_tuple_of (by rfl) B.tuple (by decide +kernel) (pa_cons (pv 0) pa_nil)))) pss_nil)
      (pss_one (ps_ret (pe_ix ix_list (pe_lst (pa_cons pe_non (pa_cons pe_int (pa_cons pe_int (pa_cons pe_str (pa_cons pe_str (pa_cons (pe_tup pa_nil) (pa_cons pe_bl (pa_cons pe_dnewK pa_nil))))))))) (pe_op op_mod (pv 3) pe_int) (fun _ _ => rfl)))))))))), ?_⟩
    have hz : (ns.map V.int).length ≤ 100000 := ints_len hlen
    refine ⟨_, rfl, _, _, rfl, rfl, (by show (0 : Int) < _; decide), ?_⟩
    refine ⟨_, rfl, _, _, rfl, rfl, ⟨by decide, by decide⟩, _, _, rfl, rfl, ⟨by decide, by decide, by decide⟩, _, _, rfl, rfl, Int.pow_pos (by decide), ?_⟩
    refine ⟨_, rfl, _, rfl, a, _, rfl, .inl (SqL.of ea), _, _, rfl, rfl, _, _, rfl, rfl, (by show (0 : Int) < _; omega), ?_⟩
    have h0 : 0 ≤ cell / 8 % 10 ^ (60 : Int).toNat := Int.emod_nonneg _ (Int.ne_of_gt (Int.pow_pos (by decide)))
    have w0 := Int.emod_nonneg cell (show (8 : Int) ≠ 0 by decide)
    have w8 := Int.emod_lt_of_pos cell (show (0 : Int) < 8 by decide)
    dsimp only
    generalize cell / 8 % 10 ^ (60 : Int).toNat = far at h0 ⊢
    generalize cell % 8 = way at w0 w8 ⊢
    generalize far % (((ns.map V.int).length : Int) + 1) = at'
    refine ⟨_, rfl, rfl, _, rfl, ite2 (fun _ => ?_) (fun cw => ?_)⟩
    · refine ⟨_, rfl, by decide, fun t nt => ⟨a, t, _, _, rfl, rfl, same_upd nt _ _ ea, upd_same, small' (by simp only [List.length_singleton]; omega), fun u nu => ?_⟩⟩
      exact q _ _ ((same_upd nt).trans (same_upd nu)) (.zero upd_same)
    have way0 : way ≠ 0 := fun e => cw (by rw [e]; rfl)
    refine ⟨_, rfl, _, _, rfl, rfl, _, rfl, ite2 (fun c6 => ?_) (fun _ => ?_)⟩
    · have way6 : way < 6 := of_decide_eq_true c6
      refine ⟨_, rfl, _, rfl, _, rfl, a, _, rfl, SqL.of ea, fun s1 n1 => ?_⟩
      refine ⟨_, rfl, _, _, rfl, rfl, _, rfl, _, rfl, _, _, rfl, rfl, small' (by simp), fun t nt => ?_⟩
      have h5 : (way - 1).toNat < 5 := by omega
      have e5 : ((way - 1).toNat : Int) = way - 1 := by omega
      obtain ⟨x, hx, hm⟩ : ∃ x, atI [V.int (2 + far), .int (-2 - far), .bl true, .non, .str "1"] (way - 1) = some x ∧ x ∈ [V.int (2 + far), .int (-2 - far), .bl true, .non, .str "1"] := by
        refine ⟨[V.int (2 + far), .int (-2 - far), .bl true, .non, .str "1"][(way - 1).toNat], ?_, List.getElem_mem h5⟩
        have := atI_nat (List.getElem?_eq_getElem (l := [V.int (2 + far), .int (-2 - far), .bl true, .non, .str "1"]) h5)
        rw [e5] at this
        exact this
      refine ⟨_, rfl, _, _, rfl, rfl, t, _, _, x, rfl, rfl, SqL.of upd_same, hx, small' (by simp), fun s2 n2 => ?_⟩
      have good : okLay x = false ∧ (∀ H', WOk H' x) ∧ ∀ H', ItmD K H' x := by
        simp only [List.mem_cons, List.not_mem_nil, or_false] at hm
        rcases hm with rfl | rfl | rfl | rfl | rfl
        · exact ⟨show okLay (V.int _) = false from decide_eq_false (by omega), fun _ => trivial, fun _ => itm_int _⟩
        · exact ⟨show okLay (V.int _) = false from decide_eq_false (by omega), fun _ => trivial, fun _ => itm_int _⟩
        · exact ⟨rfl, fun _ => trivial, fun _ => ⟨_, .bl _, rfl, Nat.zero_le _⟩⟩
        · exact ⟨rfl, fun _ => trivial, fun _ => ⟨_, .non, rfl, Nat.zero_le _⟩⟩
        · exact ⟨rfl, fun _ => trivial, fun _ => ⟨_, .str _, by decide +kernel, Nat.zero_le _⟩⟩
      exact ins_end (i := 0) (j := 4) rfl rfl ea hlen n1 (same_upd nt) good.1 (good.2.1 _) (fun H' _ => good.2.2 H') q n2
    refine ⟨_, rfl, rfl, _, rfl, ite2 (fun _ => ?_) (fun _ => ?_)⟩
    · refine ⟨_, rfl, a, _, rfl, .inl ⟨SqL.of ea, fun t nt => ?_⟩⟩
      exact q _ _ (same_upd nt) (.tup upd_same)
    · refine ⟨small' (by simp), fun t nt => fun u nu => ⟨small' (by simp), fun v nv => ?_⟩⟩
      obtain ⟨x, hx, hm⟩ := at_mod (xs := [V.non, .int 0, .int 1, .str "", .str ">", .ref t, .bl true, .ref u]) (z := far) (n := 8) rfl (by decide)
      refine ⟨_, rfl, _, _, rfl, rfl, (by show (0 : Int) < _; decide), v, _, _, x, rfl, rfl, SqL.of upd_same, hx, ?_⟩
      have m3 := same_upd (o := .lst [V.non, .int 0, .int 1, .str "", .str ">", .ref t, .bl true, .ref u]) nv
      have sm := (same_upd (o := .tup []) nt).trans ((same_upd (o := .dK []) nu).trans m3)
      have et := m3 _ _ (same_upd (o := .dK []) nu _ _ (upd_same (o := .tup [])))
      have eu := m3 _ _ (upd_same (o := .dK []))
      refine q _ _ sm ?_
      simp only [List.mem_cons, List.not_mem_nil, or_false] at hm
      rcases hm with rfl | rfl | rfl | rfl | rfl | rfl | rfl | rfl
      · exact .flat trivial (fun _ _ e => nomatch e)
      · exact .flat trivial (fun _ _ e => nomatch e)
      · exact .flat trivial (fun _ _ e => nomatch e)
      · exact .flat trivial (fun _ _ e => nomatch e)
      · exact .flat trivial (fun _ _ e => nomatch e)
      · exact .tup et
      · exact .flat trivial (fun _ _ e => nomatch e)
      · exact .dict eu
end
/-! ### _law_sign_by: some sign -/
section
variable {P : Program} {w : World} {K : PySem.W.Frag} {mg : Str → Option Value} {base : Heap}
def some1 : Str := " !\"#$&'()*+,-./0123456789:;<=>?@ABCDEFGHIJKLMNOPQRSTUVWXYZ[\\]^_`"
def some2 : Str := "abcdefghijklmnopqrstuvwxyz{|}~"
theorem some_len : (some1 ++ some2).cps.toList.length = 94 := by decide +kernel
theorem at_signs {xs : List Nat} {z n : Int} (h : (xs.length : Int) = n) (hn : 0 < n) : ∃ c, atI xs (z % n) = some c :=
  let ⟨c, hc, _⟩ := at_mod (z := z) h hn
  ⟨c, hc⟩
abbrev s__law_sign_by : Stmt := topS 19
abbrev N__law_sign_by : List Str := ["_law_cell", "_law_some"]
theorem sc__law_sign_by : FnScope N__law_sign_by ["_law_cell"] (defScope s__law_sign_by) := ⟨rfl, rfl, rfl, by decide +kernel, rfl, by decide +kernel, by decide +kernel⟩
def sp__law_sign_by : Sp := fun vs H Q _ => ∃ cell : Int, vs = [.int cell] ∧ ∀ c : Nat, Q (.str ⟨#[c]⟩) H
theorem ok__law_sign_by (S : Src K mg "_law_sign_by" s__law_sign_by ["_law_cell"]) : Cal P w K mg base CX0 1 "_law_sign_by" ["_law_cell"] sp__law_sign_by := by
  refine S.cal fun f fd F => F.ok sc__law_sign_by (fun vs H Q E h => ?_) (fun cdv A outer s H vs Q E hr h => ?_)
  · obtain ⟨cell, rfl, _⟩ := h
    rfl
  · obtain ⟨cell, rfl, q⟩ := h
    refine ⟨_, (pss_cons (ps_set (i := 1) sc__law_sign_by.nd rfl (.inl rfl) pe_str)
      (pss_cons (ps_set (i := 1) sc__law_sign_by.nd rfl (.inl rfl) (pe_op op_add_str (pv 1) pe_str))
      (pss_cons (ps_if (pt_cmpR op_eq (pe_op op_mod (pv 0) pe_int) pe_int (nomark _)) (pss_one (ps_ret (pe_ix ix_str pe_str (pe_op op_mod (pe_op op_fdiv (pv 0) pe_int) pe_int) (fun _ _ => rfl)))) pss_nil)
      (pss_one (ps_ret (pe_ix ix_str (pv 1) (pe_op op_mod (pe_op op_fdiv (pv 0) pe_int) pe_int) (fun _ _ => rfl))))))), ?_⟩
    refine ⟨_, rfl, some1, some2, rfl, rfl, Nat.le_trans (m := 94) (by decide +kernel) (by decide), ?_⟩
    refine ⟨_, rfl, _, _, rfl, rfl, (by show (0 : Int) < _; decide), rfl, _, rfl, ite2 (fun _ => ?_) (fun _ => ?_)⟩
    · obtain ⟨c, hc⟩ := at_signs (xs := (Str.ofString "<.>").cps.toList) (z := cell / 2) (n := 3) (by rw [signs_tl]; rfl) (by decide)
      exact ⟨_, rfl, _, _, rfl, rfl, ⟨by decide, by decide⟩, _, _, rfl, rfl, (by show (0 : Int) < _; decide), _, _, c, rfl, rfl, Nat.le_trans (m := 3) (by decide +kernel) (by decide), hc, q c⟩
    · obtain ⟨c, hc⟩ := at_signs (xs := (some1 ++ some2).cps.toList) (z := cell / 2) (n := 94) (by rw [some_len]; rfl) (by decide)
      exact ⟨_, rfl, _, rfl, _, _, rfl, rfl, ⟨by decide, by decide⟩, _, _, rfl, rfl, (by show (0 : Int) < _; decide), some1 ++ some2, _, c, rfl, rfl, Nat.le_trans (m := 94) (by decide +kernel) (by decide), hc, q c⟩
end
/-! ### _law_line_by: some line -/
section
variable {P : Program} {w : World} {K : PySem.W.Frag} {mg : Str → Option Value} {base : Heap}
theorem cutS_le (z : Str) (lo hi : Option Int) : (cutS z lo hi).length ≤ z.length := by
  show ((z.cps.toList.drop _).take _).toArray.size ≤ z.cps.size
  rw [List.size_toArray, List.length_take, List.length_drop, Array.length_toList]
  omega
abbrev s__law_line_by : Stmt := topS 20
abbrev N__law_line_by : List Str := ["_law_way", "_law_line", "_law_cell", "_law_sign", "_law_at", "_law_made", "_law_left", "_law_k"]
theorem sc__law_line_by : FnScope N__law_line_by ["_law_way", "_law_line", "_law_cell", "_law_sign"] (defScope s__law_line_by) := ⟨rfl, rfl, rfl, by decide +kernel, rfl, by decide +kernel, by decide +kernel⟩
def sp__law_line_by : Sp := fun vs H Q _ => ∃ (way cell : Int) (z s : Str), vs = [.int way, .str z, .int cell, .str s] ∧ z.length ≤ 10000 ∧ s.length ≤ 10 ∧ ∀ z' : Str, z'.length ≤ 30000 → Q (.str z') H
theorem ok__law_line_by (S : Src K mg "_law_line_by" s__law_line_by ["_law_way", "_law_line", "_law_cell", "_law_sign"]) (B : Bi mg) (C1 : Cal P w K mg base CX0 1 "_law_sign_by" ["_law_cell"] sp__law_sign_by) : Cal P w K mg base CX0 2 "_law_line_by" ["_law_way", "_law_line", "_law_cell", "_law_sign"] sp__law_line_by := by
  obtain ⟨_, _, G__law_sign_by, g__law_sign_by, k__law_sign_by, b__law_sign_by⟩ := C1
  refine S.cal fun f fd F => F.ok sc__law_line_by (fun vs H Q E h => ?_) (fun cdv A outer s H vs Q E hr h => ?_)
  · obtain ⟨way, cell, z, s, rfl, _⟩ := h
    rfl
  · obtain ⟨way, cell, z, sn, rfl, hz, hs, q⟩ := h
    refine ⟨_, (pss_cons (ps_set (i := 4) sc__law_line_by.nd rfl (.inl rfl) (pe_op op_mod (pv 2) (pe_op op_add (pe_callB call_len_str (by rfl) B.len PySem.boot_len (pa_cons (pv 1) pa_nil)) pe_int)))
      (pss_cons (ps_if (PW.pt (pw_or (pt_cmpR op_eq (pv 0) pe_int (nomark _)) (pw_or1 (pt_cmpR op_eq (pv 0) pe_int (nomark _))))) (pss_one (ps_ret (pe_op op_add_str (pe_op op_add_str (pe_slice sl_str (pv 1) po_none (po_some (pv 4))) (pv 3)) (pe_slice sl_str (pv 1) (po_some (pv 4)) po_none)))) pss_nil)
      (pss_cons (ps_if (pt_cmpR op_eq (pv 0) pe_int (nomark _)) (pss_one (ps_ret (pe_slice sl_str (pv 1) (po_some (pv 4)) po_none))) pss_nil)
      (pss_cons (ps_set (i := 5) sc__law_line_by.nd rfl (.inl rfl) pe_str)
      (pss_cons (ps_set (i := 6) sc__law_line_by.nd rfl (.inl rfl) (pe_op op_fdiv (pv 2) pe_int))
      (pss_cons (ps_for PassesOwn.never rfl (pi_range1 (by rfl) B.range (pa_cons (pe_op op_mod (pv 2) pe_int) pa_nil)) (pg_name (i := 7) sc__law_line_by.nd rfl (.inl rfl))
        (pss_one (ps_if (pt_cmpR op_eq (pe_op op_mod (pe_op op_fdiv (pv 2) pe_int) pe_int) pe_int (nomark _)) (pss_cons (ps_set (i := 5) sc__law_line_by.nd rfl (.inl rfl) (pe_op op_add_str (pv 5) (pe_ix ix_str pe_str (pe_op op_mod (pv 6) pe_int) (fun _ _ => rfl))))
          (pss_one (ps_set (i := 6) sc__law_line_by.nd rfl (.inl rfl) (pe_op op_fdiv (pv 6) pe_int)))) (pss_cons (ps_set (i := 5) sc__law_line_by.nd rfl (.inl rfl) (pe_op op_add_str (pv 5) (pe_call G__law_sign_by (hr.mono (by decide)) rfl g__law_sign_by k__law_sign_by b__law_sign_by .nil pass0 (pa_cons (pe_op op_mod (pv 6) pe_int) pa_nil))))
          (pss_one (ps_set (i := 6) sc__law_line_by.nd rfl (.inl rfl) (pe_op op_fdiv (pv 6) pe_int)))))))
      (pss_one (ps_ret (pv 5))))))))), ?_⟩
    have sz : z.length ≤ sizeLine := small' (by omega)
    refine ⟨_, rfl, _, rfl, z, rfl, sz, _, _, rfl, rfl, _, _, rfl, rfl, (by show (0 : Int) < _; omega), ?_⟩
    dsimp only
    generalize cell % ((z.length : Int) + 1) = at'
    have c1 := cutS_le z none (some at')
    have c2 := cutS_le z (some at') none
    have put : ∀ {σ : L2.St} {D : Ends}, σ[1]? = some (some (.str z)) → σ[3]? = some (some (.str sn)) → σ[4]? = some (some (.int at')) → D.rt = Q →
        (tRet (tOp (fun x y H Q => ∃ i j, x = V.str i ∧ y = .str j ∧ i.length + j.length ≤ sizeLine ∧ Q (.str (i ++ j)) H) (tOp (fun x y H Q => ∃ i j, x = V.str i ∧ y = .str j ∧ i.length + j.length ≤ sizeLine ∧ Q (.str (i ++ j)) H) (tSl rSlS (tVar 1) tNoPart (tPart (tVar 4))) (tVar 3)) (tSl rSlS (tVar 1) (tPart (tVar 4)) tNoPart))) D σ H := by
      intro σ D h1 h3 h4 hD
      refine ⟨_, h1, _, h4, _, rfl, z, rfl, sz, _, h3, _, _, rfl, rfl, small' (by omega), _, h1, _, h4, _, rfl, z, rfl, sz, _, _, rfl, rfl, small' (by rw [Str.length_append]; omega), ?_⟩
      rw [hD]
      exact q _ (by rw [Str.length_append, Str.length_append]; omega)
    refine ⟨_, rfl, rfl, _, rfl, ?_⟩
    by_cases w0 : way = 0
    · rw [decide_eq_true (congrArg V.int w0)]
      exact iteT (iteT (put rfl rfl rfl rfl))
    rw [decide_eq_false (fun e => w0 (V.int.inj e))]
    refine iteF ⟨_, rfl, rfl, _, rfl, ite2 (fun _ => put rfl rfl rfl rfl) (fun _ => ?_)⟩
    refine ⟨_, rfl, rfl, _, rfl, ite2 (fun _ => ?_) (fun _ => ?_)⟩
    · exact ⟨_, rfl, _, rfl, _, rfl, z, rfl, sz, q _ (by omega)⟩
    refine ⟨_, rfl, _, _, rfl, rfl, ⟨by decide, by decide⟩, ?_⟩
    have m0 := Int.emod_nonneg cell (show (6 : Int) ≠ 0 by decide)
    have m1 := Int.emod_lt_of_pos cell (show (0 : Int) < 6 by decide)
    refine ⟨_, rfl, _, _, rfl, rfl, (by show (0 : Int) < _; decide), _, rfl, by show -(2 ^ 62) ≤ cell % 6; omega, by show cell % 6 < 2 ^ 62; omega, for_range (lo := 0) (n := (cell % 6).toNat) (D := ⟨_, _, fun _ _ => False, fun _ _ => False⟩) (fun i σ H' => ∃ (m : Str) (left : Int) (k : Option V), σ = [some (.int way), some (.str z), some (.int cell), some (.str sn), some (.int at'), some (.str m), some (.int left), k] ∧ H' = H ∧ m.length ≤ i)
      ⟨_, _, none, rfl, rfl, by decide +kernel⟩ ?_ ?_⟩
    · rintro i σ H' hi ⟨m, left, k, rfl, rfl, hm⟩
      refine ⟨_, rfl, _, _, rfl, rfl, ⟨by decide, by decide⟩, _, _, rfl, rfl, (by show (0 : Int) < _; decide), rfl, _, rfl, ite2 (fun _ => ?_) (fun _ => ?_)⟩
      · obtain ⟨c, hc⟩ := at_signs (xs := (Str.ofString "<.>").cps.toList) (z := left) (n := 3) (by rw [signs_tl]; rfl) (by decide)
        have l1 : (⟨#[c]⟩ : Str).length = 1 := rfl
        refine ⟨_, rfl, _, rfl, _, _, rfl, rfl, (by show (0 : Int) < _; decide), _, _, c, rfl, rfl, Nat.le_trans (m := 3) (by decide +kernel) (by decide), hc, _, _, rfl, rfl, small' (by rw [l1]; omega), ?_⟩
        exact ⟨_, rfl, _, _, rfl, rfl, ⟨by decide, by decide⟩, _, _, some (.int (0 + (i : Int))), rfl, rfl, by rw [Str.length_append, l1]; omega⟩
      · refine ⟨_, rfl, _, rfl, _, _, rfl, rfl, (by show (0 : Int) < _; decide), _, rfl, fun c => ?_⟩
        have l1 : (⟨#[c]⟩ : Str).length = 1 := rfl
        refine ⟨_, _, rfl, rfl, small' (by rw [l1]; omega), ?_⟩
        exact ⟨_, rfl, _, _, rfl, rfl, ⟨by decide, by decide⟩, _, _, some (.int (0 + (i : Int))), rfl, rfl, by rw [Str.length_append, l1]; omega⟩
    · rintro σ H' ⟨m, left, k, rfl, rfl, hm⟩
      exact ⟨_, rfl, q m (by omega)⟩
end
/-! ### _law_due: the form that a line writes -/
section
variable {P : Program} {w : World} {K : PySem.W.Frag} {mg : Str → Option Value} {base : Heap}
theorem less_S : Str.ofString "<" = tx [60] := by decide +kernel
theorem more_S : Str.ofString ">" = tx [62] := by decide +kernel
theorem one_is {c d : Nat} {z : Str} (e : z = tx [d]) : decide (V.str ⟨#[c]⟩ = V.str z) = decide (c = d) := by
  by_cases h : c = d
  · rw [decide_eq_true h, decide_eq_true (by rw [e, h])]
  · rw [decide_eq_false h, decide_eq_false (fun k => h ?_)]
    have k2 : tx [c] = tx [d] := (V.str.inj k).trans e
    exact (List.cons.inj (tx_inj k2)).1
theorem share {bad S G : Prop} (u : (¬ bad → S) → G) (r : ¬ bad → S) : G := u r
def rdp (l m : List Nat) : List Int := if l = [46] then [] else (m.map va).reverse
abbrev s__law_due : Stmt := topS 21
abbrev N__law_due : List Str := ["_law_line", "_law_found", "_law_sign"]
theorem sc__law_due : FnScope N__law_due ["_law_line"] (defScope s__law_due) := ⟨rfl, rfl, rfl, by decide +kernel, rfl, by decide +kernel, by decide +kernel⟩
def sp__law_due : Sp := fun vs H Q _ => ∃ x : V, vs = [x] ∧ WOk H x ∧ (∀ l, x = .str (tx l) → l.length ≤ 100000) ∧ (okV x = false → ∀ H', Same H H' → Q .non H') ∧ (∀ l, x = .str (tx l) → okT l = true → ∀ H' p, Same H H' → H' p = some (.lst ((rd l).map V.int)) → Q (.ref p) H')
theorem ok__law_due (S : Src K mg "_law_due" s__law_due ["_law_line"]) (B : Bi mg) : Cal P w K mg base CX0 1 "_law_due" ["_law_line"] sp__law_due := by
  refine S.cal fun f fd F => F.ok sc__law_due (fun vs H Q E h => ?_) (fun cdv A outer s H vs Q E hr h => ?_)
  · obtain ⟨x, rfl, _⟩ := h
    rfl
  · obtain ⟨x, rfl, hx, hlen, q1, q2⟩ := h
    refine ⟨_, (pss_cons (ps_if (PW.pt (pw_or (pt_not (pt_val (pe_callB call_isi (by rfl) B.isinstance (by decide +kernel) (pa_cons (pv 0) (pa_cons (pe_bltn (v := .ty "str") (by rfl) B.str (by decide +kernel) rfl) pa_nil))))) (pw_or (pt_cmpR op_eq (pv 0) pe_str (nomark _)) (pw_or1 (PW.pt (pw_and (pt_cmpR op_gt (pe_callB call_len_str (by rfl) B.len PySem.boot_len (pa_cons (pv 0) pa_nil)) pe_int (nomark _)) (pw_and1 (pt_cmpR op_eq (pe_ix ix_str (pv 0) pe_int (fun _ _ => rfl)) pe_str (nomark _))))))))) (pss_one (ps_ret pe_non)) pss_nil)
      (pss_cons (ps_set (i := 1) sc__law_due.nd rfl (.inl rfl) (pe_lst pa_nil))
      (pss_cons (ps_for PassesOwn.never rfl (pi_str (pv 0)) (pg_name (i := 2) sc__law_due.nd rfl (.inl rfl))
        (pss_cons (ps_if (pt_cmpR op_notIn_sign (pv 2) pe_str (by rfl)) (pss_one (ps_ret pe_non)) pss_nil)
        (pss_one (ps_if (pt_cmpR op_eq (pv 2) pe_str (nomark _)) (pss_one (ps_expr (pe_bm PySem.F.plainAttrs_list PySem.F.slot_list_insert PySem.F.type_list_insert mt_insert (pv 1) (pa_cons pe_int (pa_cons (pe_un un_neg pe_int) pa_nil))))) (pss_one (ps_if (pt_cmpR op_eq (pv 2) pe_str (nomark _)) (pss_one (ps_expr (pe_bm PySem.F.plainAttrs_list PySem.F.slot_list_insert PySem.F.type_list_insert mt_insert (pv 1) (pa_cons pe_int (pa_cons pe_int pa_nil))))) (pss_one (ps_if (pt_cmpR op_ne (pv 0) pe_str (nomark _)) (pss_one (ps_expr (pe_bm PySem.F.plainAttrs_list PySem.F.slot_list_insert PySem.F.type_list_insert mt_insert (pv 1) (pa_cons pe_int (pa_cons pe_int pa_nil))))) pss_nil))))))))
      (pss_one (ps_ret (pv 1)))))), ?_⟩
    refine ⟨_, rfl, _, _, _, _, _, rfl, .ty _, hx.ty, kit_ty (kit_str hx), _, rfl, ?_⟩
    cases x with
    | str z =>
      obtain ⟨l, rfl⟩ : ∃ l, z = tx l := ⟨_, tx_of z⟩
      have ln := hlen l rfl
      have sz : (tx l).length ≤ sizeLine := small' (by rw [tx_len]; omega)
      have bad : okT l = false → ∀ H', Same H H' → Q .non H' := fun e => q1 e
      refine iteF ⟨_, rfl, rfl, _, rfl, ?_⟩
      by_cases h0 : l = []
      · have e9 : V.str (tx l) = V.str (Str.ofString "") := by rw [h0, none_S]
        rw [decide_eq_true e9]
        exact iteT (iteT (bad (by rw [h0]; rfl) H (Same.refl H)))
      have e9 : ¬ V.str (tx l) = V.str (Str.ofString "") := fun e => h0 (tx_inj ((V.str.inj e).trans none_S))
      rw [decide_eq_false e9]
      refine iteF ⟨_, rfl, tx l, rfl, sz, _, _, rfl, rfl, _, rfl, ?_⟩
      obtain ⟨c, r, rfl⟩ : ∃ c r, l = c :: r := by
        cases l with
        | nil => exact (h0 rfl).elim
        | cons c r => exact ⟨c, r, rfl⟩
      have hd : okT (c :: r) = ((c :: r).all isG && (!decide (c = 46) || decide (c :: r = [46]))) := by
        unfold okT
        rw [decide_eq_false h0]
        have : decide ((c :: r).head? = some 46) = decide (c = 46) := by
          by_cases e : c = 46
          · rw [decide_eq_true e, decide_eq_true (by rw [e]; rfl)]
          · rw [decide_eq_false e]
            exact decide_eq_false (fun k => e (Option.some.inj k))
        rw [this]; rfl
      refine' share (bad := c = 46 ∧ r ≠ []) (fun hS => ?use) ?rest
      case use =>
        by_cases hl : r = []
        · rw [decide_eq_false (by rw [hl]; show ¬ (1 : Int) < 1; omega)]
          exact iteF (iteF (hS fun h => h.2 hl))
        · have l0 : 0 < r.length := by
            cases r with
            | nil => exact (hl rfl).elim
            | cons => rw [List.length_cons]; omega
          rw [decide_eq_true (by rw [tx_len, List.length_cons]; omega)]
          refine iteT ⟨_, rfl, tx (c :: r), 0, c, rfl, rfl, sz, (atI_nat (j := 0) (by simp [tx])), rfl, _, rfl, ?_⟩
          rw [one_is dot_S]
          by_cases hc : c = 46
          · rw [decide_eq_true hc]
            refine iteT (bad ?_ H (Same.refl H))
            rw [hd, decide_eq_true hc, decide_eq_false (fun e => hl (List.cons.inj e).2)]
            exact Bool.and_false _
          · rw [decide_eq_false hc]
            exact iteF (hS fun h => hc h.1)
      case rest =>
        intro nb
        have hd2 : okT (c :: r) = (c :: r).all isG := by
          rw [hd]
          by_cases hc : c = 46
          · have hr : r = [] := Classical.byContradiction fun h => nb ⟨hc, h⟩
            rw [decide_eq_true (show c :: r = [46] by rw [hc, hr]), Bool.or_true, Bool.and_true]
          · rw [decide_eq_false hc]
            exact Bool.and_true _
        generalize hL : c :: r = l at sz bad hd2 ln q2
        refine ⟨Nat.zero_le _, fun p np => ?_⟩
        refine ⟨_, rfl, tx l, rfl, for_it (walk_str (z := tx l)) (D := ⟨_, _, fun _ _ => False, fun _ _ => False⟩) (fun i σ H' => ∃ v : Option V, σ = [some (.str (tx l)), some (.ref p), v] ∧ Same H H' ∧ (l.take i).all isG = true ∧ H' p = some (.lst ((rdp l (l.take i)).map V.int)))
          ⟨none, rfl, same_upd np, rfl, ?_⟩ (fun _ _ _ _ _ => trivial) ?_ ?_⟩
        · rw [upd_same]
          unfold rdp
          split <;> rfl
        · rintro i y σ H1 H2 hi ⟨v, rfl, sm, hg, ep⟩ ⟨rfl, d, hc, rfl⟩
          have hc2 : l[i]? = some d := by
            have : (l.toArray)[i]? = some d := hc
            rw [List.getElem?_toArray] at this
            exact this
          have hi2 : i < l.length := (List.getElem?_eq_some_iff.mp hc2).1
          have lrd : (rdp l (l.take i)).length ≤ 100000 := by
            unfold rdp
            split
            · exact Nat.zero_le _
            · rw [List.length_reverse, List.length_map, List.length_take]; omega
          refine ⟨_, rfl, d, _, rfl, rfl, _, rfl, ?_⟩
          rw [isG_mem]
          cases hgd : isG d with
          | false =>
            refine iteT (bad ?_ _ sm)
            rw [hd2, List.all_eq_false]
            exact ⟨d, List.mem_of_getElem? hc2, by rw [hgd]; decide⟩
          | true =>
            have hg2 : (l.take (i + 1)).all isG = true := by rw [take_more hc2, List.all_append, hg, List.all_cons, hgd]; rfl
            have next : ∀ k : Int, va d = k → l ≠ [46] → rdp l (l.take (i + 1)) = k :: rdp l (l.take i) := fun k hk h46 => by
              unfold rdp
              rw [if_neg h46, if_neg h46, take_more hc2, List.map_append, List.reverse_append, ← hk]; rfl
            refine iteF ⟨_, rfl, rfl, _, rfl, ?_⟩
            rw [one_is less_S]
            by_cases h1 : d = 60
            · have n46 : l ≠ [46] := fun e => by
                rw [e] at hc2
                cases i with
                | zero => have := Option.some.inj hc2; omega
                | succ j => rw [e] at hi2; simp at hi2
              rw [decide_eq_true h1]
              refine iteT ⟨_, rfl, .inl ⟨rfl, _, SqL.of ep⟩, _, rfl, p, _, 0, _, rfl, rfl, ep, small (ints_len (Nat.le_trans lrd (by decide))), by decide, by decide, ?_⟩
              refine ⟨_, rfl, same_put sm np, hg2, ?_⟩
              rw [upd_same, next (-1) (by rw [h1]; rfl) n46]; rfl
            rw [decide_eq_false h1]
            refine iteF ⟨_, rfl, rfl, _, rfl, ?_⟩
            rw [one_is more_S]
            by_cases h2 : d = 62
            · have n46 : l ≠ [46] := fun e => by
                rw [e] at hc2
                cases i with
                | zero => have := Option.some.inj hc2; omega
                | succ j => rw [e] at hi2; simp at hi2
              rw [decide_eq_true h2]
              refine iteT ⟨_, rfl, .inl ⟨rfl, _, SqL.of ep⟩, p, _, 0, _, rfl, rfl, ep, small (ints_len (Nat.le_trans lrd (by decide))), by decide, by decide, ?_⟩
              refine ⟨_, rfl, same_put sm np, hg2, ?_⟩
              rw [upd_same, next 1 (by rw [h2]; rfl) n46]; rfl
            rw [decide_eq_false h2]
            have h3 : d = 46 := by
              have := isG_or hgd
              omega
            refine iteF ⟨_, rfl, rfl, _, rfl, ?_⟩
            by_cases h46 : l = [46]
            · rw [decide_eq_true (show V.str (tx l) = V.str (Str.ofString ".") by rw [h46, dot_S])]
              refine iteF ⟨_, rfl, sm, hg2, ?_⟩
              have e : rdp l (l.take (i + 1)) = rdp l (l.take i) := by
                unfold rdp
                rw [if_pos h46, if_pos h46]
              rw [e]; exact ep
            · rw [decide_eq_false (fun e : V.str (tx l) = V.str (Str.ofString ".") => h46 (tx_inj ((V.str.inj e).trans dot_S)))]
              refine iteT ⟨_, rfl, .inl ⟨rfl, _, SqL.of ep⟩, p, _, 0, _, rfl, rfl, ep, small (ints_len (Nat.le_trans lrd (by decide))), by decide, by decide, ?_⟩
              refine ⟨_, rfl, same_put sm np, hg2, ?_⟩
              rw [upd_same, next 0 (by rw [h3]; rfl) h46]; rfl
        · rintro σ H1 ⟨v, rfl, sm, hg, ep⟩
          have hsz : (tx l).cps.size = l.length := tx_len l
          rw [hsz, List.take_length] at hg ep
          exact ⟨_, rfl, q2 l rfl (hd2.trans hg) H1 p sm ep⟩
    | _ => exact iteT (iteT (q1 rfl H (Same.refl H)))
end
/-! ### _law_shows_none -/
section
variable {P : Program} {w : World} {K : PySem.W.Frag} {mg : Str → Option Value} {base : Heap} {cS cF cN cT cP : Addr}
abbrev s__law_shows_none : Stmt := topS 22
abbrev N__law_shows_none : List Str := ["_law_thing", "e"]
theorem sc__law_shows_none : FnScope N__law_shows_none ["_law_thing"] (defScope s__law_shows_none) := ⟨rfl, rfl, rfl, by decide +kernel, rfl, by decide +kernel, by decide +kernel⟩
def sp__law_shows_none : Sp := fun vs H Q _ => ∃ x : V, vs = [x] ∧ Hand H x ∧ isF H x = false ∧ ∀ H', Same H H' → Q (.bl true) H'
theorem ok__law_shows_none (S : Src K mg "_law_shows_none" s__law_shows_none ["_law_thing"]) (B : Bi mg) (Z : Errs K mg cS cF cN cT cP) (C1 : Cal P w K mg base (L2.CX P w) 4 "shown" ["form"] (sp_shown cF)) : Cal P w K mg base CX0 5 "_law_shows_none" ["_law_thing"] sp__law_shows_none := by
  obtain ⟨_, _, G_shown, g_shown, k_shown, b_shown⟩ := C1
  have gS := Z.gS
  have ZF := Z.F
  have ZN := Z.N
  have ZT := Z.T
  have ZP := Z.P
  refine S.cal fun f fd F => F.ok sc__law_shows_none (fun vs H Q E h => ?_) (fun cdv A outer s H vs Q E hr h => ?_)
  · obtain ⟨x, rfl, _⟩ := h
    rfl
  · obtain ⟨x, rfl, hx, hf, q⟩ := h
    refine ⟨_, (pss_cons (ps_try_as (i := 1) (tb := fun W => (tDrop (tCallS (sp_shown cF) (WE W) (tCons (tVar 0) tNil)))) (ts := fun a cls d => tCls K cls d (tSuite K a 1 (.ref cN) (.ref cT) (.ref cP) (.bl false) (.ref cF))) (Wout := fun _ _ _ _ => False) rfl rfl sc__law_shows_none.nd rfl rfl ⟨rfl, by decide, .inl gS⟩ takes0
        (fun W pn xe tk _ => (pss_one (ps_expr (by exact (pe_callS G_shown (hr.mono (by decide)) rfl g_shown k_shown b_shown (fun σ => passAt tk σ) (pa_cons (pv 0) pa_nil))))))
        (fun a oe cls d pn hz hf => pss_cls hz (fun D0 hz XC => (pss_cons (ps_if (PW.pt (pw_or (pt_val (pe_callB (call_isE XC hz hf) (by rfl) B.isinstance (by decide +kernel) (pa_cons (pv 1) (pa_cons (pe_glob rfl ZN.g rfl) pa_nil)))) (pw_or (pt_val (pe_callB (call_isE XC hz hf) (by rfl) B.isinstance (by decide +kernel) (pa_cons (pv 1) (pa_cons (pe_glob rfl ZT.g rfl) pa_nil)))) (pw_or1 (pt_val (pe_callB (call_isE XC hz hf) (by rfl) B.isinstance (by decide +kernel) (pa_cons (pv 1) (pa_cons (pe_glob rfl ZP.g rfl) pa_nil)))))))) (pss_one (ps_ret pe_bl)) pss_nil)
          (pss_one (ps_ret (pe_and (pe_callB (call_isE XC hz hf) (by rfl) B.isinstance (by decide +kernel) (pa_cons (pv 1) (pa_cons (pe_glob rfl ZF.g rfl) pa_nil))) (pe_one (pe_callB (call_isE XC hz hf) (by rfl) B.isinstance (by decide +kernel) (pa_cons (pv 1) (pa_cons (pe_bltn (v := .ty "ValueError") (by rfl) B.ValueError (by decide +kernel) rfl) pa_nil)))))))))))
      (pss_one (ps_ret pe_bl))), ?_⟩
    exact ⟨_, rfl, x, rfl, .bad hx hf fun H' sm => ⟨true, ZF.m, fun _ a ha => ⟨cF, rfl, rfl, ZF.c, suite_ok rfl Z.FN Z.FT Z.FP kit_self ZF.v (q H' sm)⟩, fun q => nomatch q⟩⟩
end
/-! ### _law_reads, where it is so -/
section
variable {P : Program} {w : World} {K : PySem.W.Frag} {mg : Str → Option Value} {base : Heap} {cS cF cN cT cP : Addr}
def rNo : R2 := fun x y H Q => y = V.non ∧ Q (.bl (decide (x = V.non))) H
/-- if isinstance(e, c1) or .. c2 or .. c3: return False; return due is None and isinstance(e, c4) and isinstance(e, ValueError) -/
def tReads (K : PySem.W.Frag) (a : Addr) (c1 c2 c3 c4 : V) : Addr → TS := fun D =>
  tSeq (tIfS (tOr (tB (tIs K D a 3 c1)) (tOr (tB (tIs K D a 3 c2)) (tB (tIs K D a 3 c3)))) (tRet (tC (.bl false))) tNext) (tRet (tAndV (tOp rNo (tVar 1) (tC .non)) (tAndV (tIs K D a 3 c4) (tIs K D a 3 (.ty "ValueError")))))
theorem reads_ok {D a c1 c2 c3 c4 : Addr} {σ : L2.St} {H : Hp} {E : Ends} (hi : σ[3]? = some (some (.ref a))) (hn : σ[1]? = some (some .non)) (h1 : PySem.W.kitOne K (.ref D) (.ref c1) = some false) (h2 : PySem.W.kitOne K (.ref D) (.ref c2) = some false)
    (h3 : PySem.W.kitOne K (.ref D) (.ref c3) = some false) (h4 : PySem.W.kitOne K (.ref D) (.ref c4) = some true) (hv : PySem.W.kitOne K (.ref D) (.type "ValueError") = some true) (q : E.rt (.bl true) H) : tReads K a (.ref c1) (.ref c2) (.ref c3) (.ref c4) D E σ H := by
  refine suite_is hi h1 ⟨_, rfl, iteF ?_⟩
  refine suite_is hi h2 ⟨_, rfl, iteF ?_⟩
  refine suite_is hi h3 ⟨_, rfl, iteF ?_⟩
  refine ⟨_, hn, rfl, _, rfl, ?_⟩
  rw [decide_eq_true rfl]
  exact iteT (suite_is hi h4 ⟨_, rfl, iteT (suite_ve hi hv q)⟩)
abbrev s__law_reads : Stmt := topS 23
abbrev N__law_reads : List Str := ["_law_line", "_law_due_here", "_law_found", "e", "_law_k"]
theorem sc__law_reads : FnScope N__law_reads ["_law_line", "_law_due_here"] (defScope s__law_reads) := ⟨rfl, rfl, rfl, by decide +kernel, rfl, by decide +kernel, by decide +kernel⟩
def sp__law_reads : Sp := fun vs H Q _ => ∃ x y : V, vs = [x, y] ∧ WOk H x ∧ (∀ l, x = .str (tx l) → l.length ≤ 100000) ∧ ((okV x = false ∧ y = .non) ∨ ∃ (l : List Nat) (d : Addr), x = .str (tx l) ∧ okT l = true ∧ y = .ref d ∧ H d = some (.lst ((rd l).map V.int))) ∧ ∀ H', Same H H' → Q (.bl true) H'
theorem ok__law_reads (S : Src K mg "_law_reads" s__law_reads ["_law_line", "_law_due_here"]) (B : Bi mg) (Z : Errs K mg cS cF cN cT cP) (C1 : Cal P w K mg base (L2.CX P w) 1 "read" ["text"] (sp_read cT)) (C2 : Cal P w K mg base CX0 1 "_law_whole" ["_law_found"] sp_is_whole) :
    Cal P w K mg base CX0 2 "_law_reads" ["_law_line", "_law_due_here"] sp__law_reads := by
  obtain ⟨_, _, G_read, g_read, k_read, b_read⟩ := C1
  obtain ⟨_, _, G__law_whole, g__law_whole, k__law_whole, b__law_whole⟩ := C2
  have gS := Z.gS
  have ZF := Z.F
  have ZN := Z.N
  have ZT := Z.T
  have ZP := Z.P
  refine S.cal fun f fd F => F.ok sc__law_reads (fun vs H Q E h => ?_) (fun cdv A outer s H vs Q E hr h => ?_)
  · obtain ⟨x, y, rfl, _⟩ := h
    rfl
  · obtain ⟨x, y, rfl, hx, hlen, hor, q⟩ := h
    refine ⟨_, (pss_cons (ps_set (i := 2) sc__law_reads.nd rfl (.inl rfl) pe_non)
      (pss_cons (ps_try_as (i := 3) (tb := fun W => (tAsg (tCallS (sp_read cT) (WE W) (tCons (tVar 0) tNil)) (gName 2))) (ts := fun a cls d => tCls K cls d (tReads K a (.ref cF) (.ref cN) (.ref cP) (.ref cT))) (Wout := fun _ _ _ _ => False) rfl rfl sc__law_reads.nd rfl rfl ⟨rfl, by decide, .inl gS⟩ takes0
        (fun W pn xe tk _ => (pss_one (ps_set (i := 2) sc__law_reads.nd rfl (.inl rfl) (by exact (pe_callS G_read (hr.mono (by decide)) rfl g_read k_read b_read (fun σ => passAt tk σ) (pa_cons (pv 0) pa_nil))))))
        (fun a oe cls d pn hz hf => pss_cls hz (fun D0 hz XC => (pss_cons (ps_if (PW.pt (pw_or (pt_val (pe_callB (call_isE XC hz hf) (by rfl) B.isinstance (by decide +kernel) (pa_cons (pv 3) (pa_cons (pe_glob rfl ZF.g rfl) pa_nil)))) (pw_or (pt_val (pe_callB (call_isE XC hz hf) (by rfl) B.isinstance (by decide +kernel) (pa_cons (pv 3) (pa_cons (pe_glob rfl ZN.g rfl) pa_nil)))) (pw_or1 (pt_val (pe_callB (call_isE XC hz hf) (by rfl) B.isinstance (by decide +kernel) (pa_cons (pv 3) (pa_cons (pe_glob rfl ZP.g rfl) pa_nil)))))))) (pss_one (ps_ret pe_bl)) pss_nil)
          (pss_one (ps_ret (pe_and (pe_cmpR op_isN (pv 1) pe_non (nomark _)) (pe_and (pe_callB (call_isE XC hz hf) (by rfl) B.isinstance (by decide +kernel) (pa_cons (pv 3) (pa_cons (pe_glob rfl ZT.g rfl) pa_nil))) (pe_one (pe_callB (call_isE XC hz hf) (by rfl) B.isinstance (by decide +kernel) (pa_cons (pv 3) (pa_cons (pe_bltn (v := .ty "ValueError") (by rfl) B.ValueError (by decide +kernel) rfl) pa_nil))))))))))))
      (pss_cons (ps_if (PW.pt (pw_or (pt_cmpR op_isN (pv 1) pe_non (nomark _)) (pw_or (pt_not (pt_val (pe_callB call_isi (by rfl) B.isinstance (by decide +kernel) (pa_cons (pv 2) (pa_cons (pe_bltn (v := .ty "list") (by rfl) B.list (by decide +kernel) rfl) pa_nil))))) (pw_or1 (pt_cmpR op_ne (pe_callB call_len_seq (by rfl) B.len PySem.boot_len (pa_cons (pv 2) pa_nil)) (pe_callB call_len_seq (by rfl) B.len PySem.boot_len (pa_cons (pv 1) pa_nil)) (nomark _)))))) (pss_one (ps_ret pe_bl)) pss_nil)
      (pss_cons (ps_for PassesOwn.never rfl (pi_range1 (by rfl) B.range (pa_cons (pe_callB call_len_seq (by rfl) B.len PySem.boot_len (pa_cons (pv 1) pa_nil)) pa_nil)) (pg_name (i := 4) sc__law_reads.nd rfl (.inl rfl))
        (pss_one (ps_if (PW.pt (pw_or (pt_not (pt_val (pe_call G__law_whole (hr.mono (by decide)) rfl g__law_whole k__law_whole b__law_whole .nil pass0 (pa_cons (pe_ix ix_list (pv 2) (pv 4) (fun _ _ => rfl)) pa_nil)))) (pw_or1 (pt_cmpR op_ne (pe_ix ix_list (pv 2) (pv 4) (fun _ _ => rfl)) (pe_ix ix_list (pv 1) (pv 4) (fun _ _ => rfl)) (nomark _))))) (pss_one (ps_ret pe_bl)) pss_nil)))
      (pss_one (ps_ret pe_bl)))))), ?_⟩
    refine ⟨_, rfl, x, rfl, hx, hlen, fun l e ok H1 p sm np ep => ?_, fun e H1 sm => ?_⟩
    · rcases hor with ⟨e2, _⟩ | ⟨l2, d, e2, _, rfl, ed⟩
      · rw [e] at e2
        have e3 : okT l = false := e2
        rw [ok] at e3
        cases e3
      · have el : l = l2 := tx_inj (V.str.inj (e.symm.trans e2))
        subst el
        have ed1 := sm _ _ ed
        have hw : WOk H1 (.ref p) := .inl ⟨_, ep⟩
        have ll := rd_len l
        have hl := hlen l e
        have e4 : ((rd l).map V.int).length = (rd l).length := List.length_map ..
        refine ⟨_, rfl, rfl, _, rfl, iteF ?_⟩
        refine ⟨_, rfl, _, _, _, _, _, rfl, .ty _, hw.ty, kit_ty (kit_list hw), _, rfl, ?_⟩
        rw [isL_of ep]
        refine iteF ⟨_, rfl, p, _, rfl, .inl (SqL.of ep), _, rfl, d, _, rfl, .inl (SqL.of ed1), rfl, _, rfl, ?_⟩
        rw [decide_eq_true rfl]
        refine iteF ⟨_, rfl, d, _, rfl, .inl (SqL.of ed1), _, rfl, nat_lo _, nat_hi (by omega), for_range (lo := 0) (n := ((rd l).map V.int).length) (fun i σ H' => ∃ k : Option V, σ = [some x, some (.ref d), some (.ref p), none, k] ∧ H' = H1) ⟨none, rfl, rfl⟩ ?_ ?_⟩
        · rintro i σ H' hi ⟨k, rfl, rfl⟩
          rw [e4] at hi
          have hz := ints_at (List.getElem?_eq_getElem hi)
          refine ⟨_, rfl, _, rfl, p, _, _, _, rfl, rfl, SqL.of ep, at0 hz, _, rfl, trivial, _, rfl, iteF ?_⟩
          refine ⟨_, rfl, _, rfl, p, _, _, _, rfl, rfl, SqL.of ep, at0 hz, _, rfl, _, rfl, d, _, _, _, rfl, rfl, SqL.of ed1, at0 hz, rfl, _, rfl, ?_⟩
          rw [decide_eq_true rfl]
          exact iteF ⟨_, rfl, rfl⟩
        · rintro σ H' ⟨k, rfl, rfl⟩
          exact q _ sm
    · rcases hor with ⟨_, rfl⟩ | ⟨l2, d, e2, ok, _⟩
      · exact ⟨true, ZT.m, fun _ a ha => ⟨cT, rfl, rfl, ZT.c, reads_ok rfl rfl Z.TF Z.TN Z.TP kit_self ZT.v (q H1 sm)⟩, fun q => nomatch q⟩
      · rw [e2] at e
        have e3 : okT l2 = false := e
        rw [ok] at e3
        cases e3
end
/-! ### the law -/
section
variable {P : Program} {w : World} {K : PySem.W.Frag} {mg : Str → Option Value} {base : Heap} {cF : Addr}
abbrev s_law : Stmt := topS 24
abbrev N_law : List Str := ["_law_script", "_law_head", "_law_lays", "_law_kept", "_law_lay", "_law_line", "_law_found", "_law_far"]
theorem sc_law : FnScope N_law ["_law_script"] (defScope s_law) := ⟨rfl, rfl, rfl, by decide +kernel, rfl, by decide +kernel, by decide +kernel⟩
def sp_law (K : PySem.W.Frag) : Sp := fun vs H Q _ => ∃ (a : Addr) (ns : List Int), vs = [.ref a] ∧ SqL K H a (ns.map V.int) ∧ ns.length ≤ 63 ∧ ∀ H', Q (.bl true) H'
theorem ok_law {f : Addr} {fd : FuncData} (F : Fun K "law" "law" s_law f fd) (B : Bi mg) (C1 : Cal P w K mg base CX0 1 "_law_cell_at" ["_law_script", "_law_k"] (sp__law_cell_at K)) (C2 : Cal P w K mg base CX0 1 "_law_form_by" ["_law_way", "_law_cells"] (sp__law_form_by K))
    (C3 : Cal P w K mg base (L2.CX P w) 4 "shown" ["form"] (sp_shown cF)) (C4 : Cal P w K mg base CX0 2 "_law_line_by" ["_law_way", "_law_line", "_law_cell", "_law_sign"] sp__law_line_by) (C5 : Cal P w K mg base CX0 1 "_law_sign_by" ["_law_cell"] sp__law_sign_by)
    (C6 : Cal P w K mg base CX0 1 "_law_due" ["_law_line"] sp__law_due) (C7 : Cal P w K mg base CX0 2 "_law_reads" ["_law_line", "_law_due_here"] sp__law_reads) (C8 : Cal P w K mg base CX0 5 "_law_shows_none" ["_law_thing"] sp__law_shows_none)
    (C9 : Cal P w K mg base CX0 1 "_law_bad_by" ["_law_lays", "_law_cell"] (sp__law_bad_by K)) : FnOk P w K mg base CX0 6 f fd ["_law_script"] (sp_law K) := by
  obtain ⟨_, _, G__law_cell_at, g__law_cell_at, k__law_cell_at, b__law_cell_at⟩ := C1
  obtain ⟨_, _, G__law_form_by, g__law_form_by, k__law_form_by, b__law_form_by⟩ := C2
  obtain ⟨_, _, G_shown, g_shown, k_shown, b_shown⟩ := C3
  obtain ⟨_, _, G__law_line_by, g__law_line_by, k__law_line_by, b__law_line_by⟩ := C4
  obtain ⟨_, _, G__law_sign_by, g__law_sign_by, k__law_sign_by, b__law_sign_by⟩ := C5
  obtain ⟨_, _, G__law_due, g__law_due, k__law_due, b__law_due⟩ := C6
  obtain ⟨_, _, G__law_reads, g__law_reads, k__law_reads, b__law_reads⟩ := C7
  obtain ⟨_, _, G__law_shows_none, g__law_shows_none, k__law_shows_none, b__law_shows_none⟩ := C8
  obtain ⟨_, _, G__law_bad_by, g__law_bad_by, k__law_bad_by, b__law_bad_by⟩ := C9
  refine F.ok sc_law (fun vs H Q E h => ?_) (fun cdv A outer s H vs Q E hr h => ?_)
  · obtain ⟨a, ns, rfl, _⟩ := h
    rfl
  · obtain ⟨a, ns, rfl, hS, hlen, q⟩ := h
    refine ⟨_, (pss_cons (ps_set (i := 1) sc_law.nd rfl (.inl rfl) (pe_call G__law_cell_at (hr.mono (by decide)) rfl g__law_cell_at k__law_cell_at b__law_cell_at .nil pass0 (pa_cons (pv 0) (pa_cons pe_int pa_nil))))
      (pss_cons (ps_set (i := 2) sc_law.nd rfl (.inl rfl) (pe_call G__law_form_by (hr.mono (by decide)) rfl g__law_form_by k__law_form_by b__law_form_by .nil pass0 (pa_cons (pe_op op_fdiv (pv 1) pe_int) (pa_cons (pe_slice sl_list (pv 0) (po_some pe_int) (po_some pe_int)) pa_nil))))
      (pss_cons (ps_set (i := 3) sc_law.nd rfl (.inl rfl) (pe_callTy call_list_of (by rfl) B.list (by decide +kernel) (pa_cons (pv 2) pa_nil)))
      (pss_cons (ps_set (i := 5) sc_law.nd rfl (.inl rfl) (pe_join pe_str (pe_lc (own := [("_law_lay", 4)]) (g := gName 4) rfl sc_law.nd (pi_reversed (by rfl) B.reversed (pa_cons (pv 3) pa_nil)) (blkOk_by (own := [("_law_lay", 4)]) (N := N_law) (sc := defScope s_law) (by decide +kernel)) (fun _ _ _ _ _ => pg_name (i := 4) sc_law.nd rfl (Or.inl rfl)) (fun _ _ _ _ _ => pts_nil) (fun _ _ _ _ _ => (pe_ix (r := rIxS) ix_str pe_str (pe_op op_add (pv 4) pe_int) (fun _ _ => rfl))))))
      (pss_cons (ps_join (ps_if (pt_cmpR op_eq (pv 5) pe_str (nomark _)) (pss_one (ps_set (i := 5) sc_law.nd rfl (.inl rfl) pe_str)) pss_nil))
      (pss_cons (ps_set (i := 6) sc_law.nd rfl (.inl rfl) (pe_call G_shown (hr.mono (by decide)) rfl g_shown k_shown b_shown .nil passL (pa_cons (pv 2) pa_nil)))
      (pss_cons (ps_if (PW.pt (pw_or (pt_not (pt_val (pe_callB call_isi (by rfl) B.isinstance (by decide +kernel) (pa_cons (pv 6) (pa_cons (pe_bltn (v := .ty "str") (by rfl) B.str (by decide +kernel) rfl) pa_nil))))) (pw_or (pt_cmpR op_ne (pv 6) (pv 5) (nomark _)) (pw_or1 (pt_cmpR (op_neD hr.units) (pv 2) (pv 3) (nomark _)))))) (pss_one (ps_ret pe_bl)) pss_nil)
      (pss_cons (ps_set (i := 7) sc_law.nd rfl (.inl rfl) (pe_call G__law_cell_at (hr.mono (by decide)) rfl g__law_cell_at k__law_cell_at b__law_cell_at .nil pass0 (pa_cons (pv 0) (pa_cons pe_int pa_nil))))
      (pss_cons (ps_join (ps_if (pt_cmpR op_lt (pe_op op_mod (pv 1) pe_int) pe_int (nomark _)) (pss_one (ps_set (i := 5) sc_law.nd rfl (.inl rfl) (pe_call G__law_line_by (hr.mono (by decide)) rfl g__law_line_by k__law_line_by b__law_line_by .nil pass0 (pa_cons (pe_op op_mod (pv 1) pe_int) (pa_cons (pv 5) (pa_cons (pe_op op_mod (pe_call G__law_cell_at (hr.mono (by decide)) rfl g__law_cell_at k__law_cell_at b__law_cell_at .nil pass0 (pa_cons (pv 0) (pa_cons pe_int pa_nil))) (pe_op op_pow pe_int pe_int)) (pa_cons (pe_call G__law_sign_by (hr.mono (by decide)) rfl g__law_sign_by k__law_sign_by b__law_sign_by .nil pass0 (pa_cons (pv 7) pa_nil)) pa_nil))))))) pss_nil))
      (pss_cons (ps_join (ps_if (pt_cmpR op_eq (pe_op op_mod (pv 1) pe_int) pe_int (nomark _)) (pss_one (ps_set (i := 5) sc_law.nd rfl (.inl rfl) (pe_ix ix_list (pe_lst (pa_cons pe_non (pa_cons pe_bl (pa_cons pe_int (pa_cons pe_int (pa_cons (pe_lst pa_nil) (pa_cons (pe_lst (pa_cons pe_str pa_nil)) (pa_cons (pe_tup (pa_cons pe_str pa_nil)) (pa_cons (pe_tup pa_nil) (pa_cons pe_dnewK pa_nil)))))))))) (pe_op op_mod (pv 7) pe_int) (fun _ _ => rfl)))) pss_nil))
      (pss_one (ps_ret (pe_and (pe_call G__law_reads (hr.mono (by decide)) rfl g__law_reads k__law_reads b__law_reads .nil pass0 (pa_cons (pv 5) (pa_cons (pe_call G__law_due (hr.mono (by decide)) rfl g__law_due k__law_due b__law_due .nil pass0 (pa_cons (pv 5) pa_nil)) pa_nil))) (pe_one (pe_call G__law_shows_none (hr.mono (by decide)) rfl g__law_shows_none k__law_shows_none b__law_shows_none .nil pass0 (pa_cons (pe_call G__law_bad_by (hr.mono (by decide)) rfl g__law_bad_by k__law_bad_by b__law_bad_by .nil pass0 (pa_cons (pv 3) (pa_cons (pe_call G__law_cell_at (hr.mono (by decide)) rfl g__law_cell_at k__law_cell_at b__law_cell_at .nil pass0 (pa_cons (pv 0) (pa_cons pe_int pa_nil))) pa_nil))) pa_nil)))))))))))))))), ?_⟩
    refine ⟨_, rfl, a, ns, 0, rfl, hS, fun head => ?_⟩
    refine ⟨_, rfl, _, _, rfl, rfl, ⟨by decide, by decide⟩, _, rfl, _, rfl, _, rfl, a, _, rfl, hS, fun t nt => ?_⟩
    have m2 := same_upd (o := .lst (cutV (ns.map V.int) (some 4) (some 204))) nt
    refine ⟨_, t, cutI ns (some 4) (some 204), rfl, SqL.of (by rw [upd_same, cut_ints]), Nat.le_trans (cutI_len ..) hlen, fun H1 p ls sm np fp1 hl => ?_⟩
    have m3 := m2.trans sm
    refine ⟨_, rfl, p, _, rfl, .inl (SqL.of fp1.1), fun kp nkp => ?_⟩
    have k1 := same_upd (o := .lst (ls.map V.int)) nkp
    have m4 := m3.trans k1
    have ep := k1 _ _ fp1.1
    have ek := upd_same (H := H1) (a := kp) (o := .lst (ls.map V.int))
    have fp := fp1.2
    generalize upd H1 kp (.lst (ls.map V.int)) = H2 at m4 ep ek ⊢
    have e1 : (ls.map V.int).length = ls.length := List.length_map ..
    -- the line
    refine ⟨⟨_, rfl⟩, _, rfl, kp, ls.map V.int, rfl, SqL.of ek, fun D nD => ?_⟩
    refine lc_it (walk_rev (K := K) (a := kp) (xs := ls.map V.int)) (fun i H' => Same H2 H' ∧ H' D = some (.lst ((((ls.drop (ls.length - i)).map sg).reverse).map fun c => V.str ⟨#[c]⟩))) ⟨same_upd nD, ?_⟩ (fun i H' _ h => SqL.of (h.1 _ _ ek)) ?_ ?_
    · rw [upd_same, Nat.sub_zero, List.drop_length]; rfl
    · rintro i y H3 H4 hi ⟨sm, eD⟩ ⟨rfl, hy⟩
      rw [e1] at hi hy
      obtain ⟨z, hz, rfl⟩ := ints_get hy
      have hll := fp.1 z (List.mem_of_getElem? hz)
      refine ⟨rfl, ?_⟩
      dsimp only [tYes]
      refine iteT ?_
      refine ⟨_, rfl, _, _, rfl, rfl, _, _, sg z, rfl, rfl, ?_, sg_at hll, _, eD, small (by rw [List.length_map, List.length_reverse, List.length_map, List.length_drop]; omega), same_put sm nD, ?_⟩
      · exact Nat.le_trans (m := 3) (by decide +kernel) (by decide)
      · rw [upd_same, tl_turn hz hi, List.map_append]; rfl
    rintro H3 ⟨s3, eD⟩
    rw [e1, Nat.sub_self, List.drop_zero] at eD
    refine ⟨_, D, (tl ls).map fun c => ⟨#[c]⟩, rfl, rfl, .inl (SqL.of (by rw [ones_map]; exact eD)), ?_, ?_⟩
    · rw [ones_sum, List.length_map]
      have l0 : (Str.ofString "").length = 0 := by decide +kernel
      rw [l0]
      unfold tl
      rw [List.length_reverse, List.length_map]
      omega
    rw [join_signs]
    have m5 := m4.trans s3
    have ltx : (txt ls).length ≤ 1000 := by
      unfold txt
      split
      · decide
      · unfold tl
        rw [List.length_reverse, List.length_map]; omega
    refine ⟨fun σ' H' => σ' = [some (.ref a), some (.int head), some (.ref p), some (.ref kp), none, some (.str (tx (txt ls))), none, none] ∧ H' = H3, ?_, ?_⟩
    · rintro σ' H' ⟨rfl, rfl⟩
      have ep3 := s3 _ _ ep
      have ek3 := s3 _ _ ek
      refine ⟨_, rfl, .ref p, rfl, .of (show FormAt H' p ls from ⟨ep3, fp⟩) ⟨by omega, fun H5 s5 => ?_⟩⟩
      have hw : WOk H5 (.str (tx (txt ls))) := trivial
      refine ⟨_, rfl, _, _, _, _, _, rfl, .ty _, hw.ty, kit_ty (kit_str hw), _, rfl, iteF ?_⟩
      refine ⟨_, rfl, _, rfl, rfl, _, rfl, ?_⟩
      rw [decide_eq_true (rfl : V.str (tx (txt ls)) = _)]
      obtain ⟨d, d1, d2, d3, d4⟩ := data_ints (K := K) (s5 _ _ ep3) (s5 _ _ ek3)
      refine iteF ⟨_, rfl, _, rfl, d, d, d1, d2, d3, d3, _, rfl, ?_⟩
      rw [d4]
      have m6 := m5.trans s5
      refine iteF ⟨_, rfl, a, ns, 2, rfl, m6.seq hS, fun far => ?_⟩
      have ek5 := s5 _ _ ek3
      -- another line
      refine ⟨fun σ' H' => ∃ z : Str, σ' = [some (.ref a), some (.int head), some (.ref p), some (.ref kp), none, some (.str z), some (.str (tx (txt ls))), some (.int far)] ∧ H' = H5 ∧ z.length ≤ 30000, ?_, ?_⟩
      · rintro σ' H' ⟨z, rfl, rfl, hz⟩
        refine ⟨fun σ' H6 => ∃ x : V, σ' = [some (.ref a), some (.int head), some (.ref p), some (.ref kp), none, some x, some (.str (tx (txt ls))), some (.int far)] ∧ Same H' H6 ∧ WOk H6 x ∧ ∀ l, x = .str (tx l) → l.length ≤ 100000, ?_, ?_⟩
        · rintro σ' H6 ⟨x, rfl, s6, hx, hxl⟩
          have m7 := m6.trans s6
          refine ⟨_, rfl, _, rfl, x, rfl, hx, hxl, fun e H7 s7 => ?_, fun l e ok H7 d s7 ed => ?_⟩
          · refine ⟨x, .non, rfl, hx.same s7, hxl, .inl ⟨e, rfl⟩, fun H8 s8 => ⟨_, rfl, iteT ?_⟩⟩
            have s78 := s7.trans s8
            refine ⟨_, rfl, _, rfl, a, ns, 3, rfl, (m7.trans s78).seq hS, fun c3 => ?_⟩
            refine ⟨kp, _, ls, rfl, ⟨s78 _ _ (s6 _ _ ek5), fp⟩, by omega, fun H10 b s10 bb => ?_⟩
            exact ⟨b, rfl, bb.1, bb.2.1, fun H' _ => q H'⟩
          · refine ⟨x, .ref d, rfl, hx.same s7, hxl, .inr ⟨l, d, e, ok, rfl, ed⟩, fun H8 s8 => ⟨_, rfl, iteT ?_⟩⟩
            have s78 := s7.trans s8
            refine ⟨_, rfl, _, rfl, a, ns, 3, rfl, (m7.trans s78).seq hS, fun c3 => ?_⟩
            refine ⟨kp, _, ls, rfl, ⟨s78 _ _ (s6 _ _ ek5), fp⟩, by omega, fun H10 b s10 bb => ?_⟩
            exact ⟨b, rfl, bb.1, bb.2.1, fun H' _ => q H'⟩
        · refine ⟨_, rfl, _, _, rfl, rfl, (by show (0 : Int) < _; decide), rfl, _, rfl, ite2 (fun _ => ?_) (fun _ => ⟨.str z, rfl, Same.refl _, trivial, fun l e => ?_⟩)⟩
          · refine ⟨small' (by simp), fun b1 n1 => ⟨small' (by simp), fun b2 n2 => ⟨small' (by simp), fun b3 n3 => ⟨small' (by simp), fun b4 n4 => fun b5 n5 => ⟨small' (by simp), fun b6 n6 => ?_⟩⟩⟩⟩⟩
            have k2 := same_upd (o := .lst [V.str ">"]) n2
            have k3 := same_upd (o := .tup [V.str ">"]) n3
            have k4 := same_upd (o := .tup []) n4
            have k5 := same_upd (o := .dK []) n5
            have k6 := same_upd (o := .lst [V.non, .bl true, .int 0, .int 1, .ref b1, .ref b2, .ref b3, .ref b4, .ref b5]) n6
            have sa := (same_upd (o := .lst []) n1).trans (k2.trans (k3.trans (k4.trans (k5.trans k6))))
            obtain ⟨x, hx, hm⟩ := at_mod (xs := [V.non, .bl true, .int 0, .int 1, .ref b1, .ref b2, .ref b3, .ref b4, .ref b5]) (z := far) (n := 9) rfl (by decide)
            refine ⟨_, rfl, _, _, rfl, rfl, (by show (0 : Int) < _; decide), b6, _, _, x, rfl, rfl, SqL.of upd_same, hx, ?_⟩
            refine ⟨x, rfl, sa, ?_, ?_⟩
            · simp only [List.mem_cons, List.not_mem_nil, or_false] at hm
              rcases hm with rfl | rfl | rfl | rfl | rfl | rfl | rfl | rfl | rfl
              · trivial
              · trivial
              · trivial
              · trivial
              · exact .inl ⟨_, k6 _ _ (k5 _ _ (k4 _ _ (k3 _ _ (k2 _ _ upd_same))))⟩
              · exact .inl ⟨_, k6 _ _ (k5 _ _ (k4 _ _ (k3 _ _ upd_same)))⟩
              · exact .inr (.inl ⟨_, k6 _ _ (k5 _ _ (k4 _ _ upd_same))⟩)
              · exact .inr (.inl ⟨_, k6 _ _ (k5 _ _ upd_same)⟩)
              · exact .inr (.inr ⟨_, k6 _ _ upd_same⟩)
            · intro l e
              simp only [List.mem_cons, List.not_mem_nil, or_false] at hm
              rcases hm with rfl | rfl | rfl | rfl | rfl | rfl | rfl | rfl | rfl <;> cases e
          · have e2 := V.str.inj e
            rw [e2, tx_len] at hz
            omega
      · refine ⟨_, rfl, _, _, rfl, rfl, (by show (0 : Int) < _; decide), _, _, rfl, rfl, _, rfl, ite2 (fun _ => ?_) (fun _ => ⟨_, rfl, rfl, by rw [tx_len]; omega⟩)⟩
        refine ⟨_, rfl, _, _, rfl, rfl, (by show (0 : Int) < _; decide), _, rfl, _, rfl, a, ns, 1, rfl, m6.seq hS, fun c1 => ?_⟩
        refine ⟨_, _, rfl, rfl, ⟨by decide, by decide, by decide⟩, _, _, rfl, rfl, Int.pow_pos (by decide), _, rfl, _, rfl, fun c => ?_⟩
        exact ⟨_, _, _, _, rfl, by rw [tx_len]; omega, by show 1 ≤ 10; decide, fun z' hz' => ⟨z', rfl, rfl, hz'⟩⟩
    · refine ⟨_, rfl, rfl, _, rfl, ?_⟩
      by_cases h0 : ls = []
      · have e9 : V.str (tx (tl ls)) = V.str (Str.ofString "") := by rw [h0, none_S]; rfl
        rw [decide_eq_true e9]
        have e8 : tx (txt ls) = Str.ofString "." := by
          unfold txt
          rw [if_pos h0, dot_S]
        rw [e8]
        exact iteT ⟨rfl, rfl⟩
      · have e9 : ¬ V.str (tx (tl ls)) = V.str (Str.ofString "") := fun e => by
          have e2 := tx_inj ((V.str.inj e).trans none_S)
          unfold tl at e2
          have e3 := congrArg List.length e2
          rw [List.length_reverse, List.length_map] at e3
          exact h0 (List.length_eq_zero_iff.mp e3)
        rw [decide_eq_false e9]
        have e8 : txt ls = tl ls := by
          unfold txt
          rw [if_neg h0]
        rw [e8]
        exact iteF ⟨rfl, rfl⟩
end
end Pz
namespace Pz
open PySem PySem.Spec PyProof.Rows L2
/-! ### what the top leaves -/
theorem all_mk {l : PySem.W.OpenLaw} {w : World} {K : PySem.W.Frag} {h : Heap} {mg : Str → Option Value} {fa cS cF cN cT cP f1 f2 f3 f4 f5 f6 f7 f8 f9 f10 f11 f12 f13 f14 f15 : Addr} (X : K.In h) (G : h.Ns mainGlobals mg) (hfa : mg "law" = some (.ref fa))
    {od1 an1 od2 an2 od3 an3 od4 an4 od5 an5 od6 an6 od7 an7 od8 an8 od9 an9 od10 an10 od11 an11 od12 an12 od13 an13 od14 an14 od15 an15 : Option Addr} {sl1 sl2 sl3 sl4 sl5 sl6 sl7 sl8 sl9 sl10 sl11 sl12 sl13 sl14 sl15 : Array (Option Value)} {oc1 kV1 dc1 pm1 cd1 ct1 oc2 kV2 dc2 pm2 cd2 ct2 oc3 kV3 dc3 pm3 cd3 ct3 oc4 kV4 dc4 pm4 cd4 ct4 oc5 kV5 dc5 pm5 cd5 ct5 oc6 kV6 dc6 pm6 cd6 ct6 oc7 kV7 dc7 pm7 cd7 ct7 oc8 kV8 dc8 pm8 cd8 ct8 oc9 kV9 dc9 pm9 cd9 ct9 oc10 kV10 dc10 pm10 cd10 ct10 oc11 kV11 dc11 pm11 cd11 ct11 oc12 kV12 dc12 pm12 cd12 ct12 oc13 kV13 dc13 pm13 cd13 ct13 oc14 kV14 dc14 pm14 cd14 ct14 oc15 kV15 dc15 pm15 cd15 ct15 : Value} {tkSIGNS : Tok}
    (a1 : PySem.W.nsIn K mainGlobals "is_whole" = some (some (.ref f1)))
    (l1 : K.lookup f1 = some ⟨oc1, od1, .func (PySem.W.fnOf "is_whole" "is_whole" (defArgs s_is_whole) (defBody s_is_whole) (defScope s_is_whole) .none kV1 dc1 pm1 an1 cd1 ct1), sl1⟩)
    (c1 : PySem.W.codeIn K cd1 "is_whole" = true)
    (k1 : PySem.W.keepIn K (.ref f1) = true)
    (a2 : PySem.W.nsIn K mainGlobals "is_form" = some (some (.ref f2)))
    (l2 : K.lookup f2 = some ⟨oc2, od2, .func (PySem.W.fnOf "is_form" "is_form" (defArgs s_is_form) (defBody s_is_form) (defScope s_is_form) .none kV2 dc2 pm2 an2 cd2 ct2), sl2⟩)
    (c2 : PySem.W.codeIn K cd2 "is_form" = true)
    (k2 : PySem.W.keepIn K (.ref f2) = true)
    (a3 : PySem.W.nsIn K mainGlobals "checked" = some (some (.ref f3)))
    (l3 : K.lookup f3 = some ⟨oc3, od3, .func (PySem.W.fnOf "checked" "checked" (defArgs s_checked) (defBody s_checked) (defScope s_checked) .none kV3 dc3 pm3 an3 cd3 ct3), sl3⟩)
    (c3 : PySem.W.codeIn K cd3 "checked" = true)
    (k3 : PySem.W.keepIn K (.ref f3) = true)
    (a4 : PySem.W.nsIn K mainGlobals "shown" = some (some (.ref f4)))
    (l4 : K.lookup f4 = some ⟨oc4, od4, .func (PySem.W.fnOf "shown" "shown" (defArgs s_shown) (defBody s_shown) (defScope s_shown) .none kV4 dc4 pm4 an4 cd4 ct4), sl4⟩)
    (c4 : PySem.W.codeIn K cd4 "shown" = true)
    (k4 : PySem.W.keepIn K (.ref f4) = true)
    (a5 : PySem.W.nsIn K mainGlobals "read" = some (some (.ref f5)))
    (l5 : K.lookup f5 = some ⟨oc5, od5, .func (PySem.W.fnOf "read" "read" (defArgs s_read) (defBody s_read) (defScope s_read) .none kV5 dc5 pm5 an5 cd5 ct5), sl5⟩)
    (c5 : PySem.W.codeIn K cd5 "read" = true)
    (k5 : PySem.W.keepIn K (.ref f5) = true)
    (a6 : PySem.W.nsIn K mainGlobals "_law_cell_at" = some (some (.ref f6)))
    (l6 : K.lookup f6 = some ⟨oc6, od6, .func (PySem.W.fnOf "_law_cell_at" "_law_cell_at" (defArgs s__law_cell_at) (defBody s__law_cell_at) (defScope s__law_cell_at) .none kV6 dc6 pm6 an6 cd6 ct6), sl6⟩)
    (c6 : PySem.W.codeIn K cd6 "_law_cell_at" = true)
    (k6 : PySem.W.keepIn K (.ref f6) = true)
    (a7 : PySem.W.nsIn K mainGlobals "_law_whole" = some (some (.ref f7)))
    (l7 : K.lookup f7 = some ⟨oc7, od7, .func (PySem.W.fnOf "_law_whole" "_law_whole" (defArgs s__law_whole) (defBody s__law_whole) (defScope s__law_whole) .none kV7 dc7 pm7 an7 cd7 ct7), sl7⟩)
    (c7 : PySem.W.codeIn K cd7 "_law_whole" = true)
    (k7 : PySem.W.keepIn K (.ref f7) = true)
    (a8 : PySem.W.nsIn K mainGlobals "_law_form_by" = some (some (.ref f8)))
    (l8 : K.lookup f8 = some ⟨oc8, od8, .func (PySem.W.fnOf "_law_form_by" "_law_form_by" (defArgs s__law_form_by) (defBody s__law_form_by) (defScope s__law_form_by) .none kV8 dc8 pm8 an8 cd8 ct8), sl8⟩)
    (c8 : PySem.W.codeIn K cd8 "_law_form_by" = true)
    (k8 : PySem.W.keepIn K (.ref f8) = true)
    (a9 : PySem.W.nsIn K mainGlobals "_law_bad_by" = some (some (.ref f9)))
    (l9 : K.lookup f9 = some ⟨oc9, od9, .func (PySem.W.fnOf "_law_bad_by" "_law_bad_by" (defArgs s__law_bad_by) (defBody s__law_bad_by) (defScope s__law_bad_by) .none kV9 dc9 pm9 an9 cd9 ct9), sl9⟩)
    (c9 : PySem.W.codeIn K cd9 "_law_bad_by" = true)
    (k9 : PySem.W.keepIn K (.ref f9) = true)
    (a10 : PySem.W.nsIn K mainGlobals "_law_sign_by" = some (some (.ref f10)))
    (l10 : K.lookup f10 = some ⟨oc10, od10, .func (PySem.W.fnOf "_law_sign_by" "_law_sign_by" (defArgs s__law_sign_by) (defBody s__law_sign_by) (defScope s__law_sign_by) .none kV10 dc10 pm10 an10 cd10 ct10), sl10⟩)
    (c10 : PySem.W.codeIn K cd10 "_law_sign_by" = true)
    (k10 : PySem.W.keepIn K (.ref f10) = true)
    (a11 : PySem.W.nsIn K mainGlobals "_law_line_by" = some (some (.ref f11)))
    (l11 : K.lookup f11 = some ⟨oc11, od11, .func (PySem.W.fnOf "_law_line_by" "_law_line_by" (defArgs s__law_line_by) (defBody s__law_line_by) (defScope s__law_line_by) .none kV11 dc11 pm11 an11 cd11 ct11), sl11⟩)
    (c11 : PySem.W.codeIn K cd11 "_law_line_by" = true)
    (k11 : PySem.W.keepIn K (.ref f11) = true)
    (a12 : PySem.W.nsIn K mainGlobals "_law_due" = some (some (.ref f12)))
    (l12 : K.lookup f12 = some ⟨oc12, od12, .func (PySem.W.fnOf "_law_due" "_law_due" (defArgs s__law_due) (defBody s__law_due) (defScope s__law_due) .none kV12 dc12 pm12 an12 cd12 ct12), sl12⟩)
    (c12 : PySem.W.codeIn K cd12 "_law_due" = true)
    (k12 : PySem.W.keepIn K (.ref f12) = true)
    (a13 : PySem.W.nsIn K mainGlobals "_law_shows_none" = some (some (.ref f13)))
    (l13 : K.lookup f13 = some ⟨oc13, od13, .func (PySem.W.fnOf "_law_shows_none" "_law_shows_none" (defArgs s__law_shows_none) (defBody s__law_shows_none) (defScope s__law_shows_none) .none kV13 dc13 pm13 an13 cd13 ct13), sl13⟩)
    (c13 : PySem.W.codeIn K cd13 "_law_shows_none" = true)
    (k13 : PySem.W.keepIn K (.ref f13) = true)
    (a14 : PySem.W.nsIn K mainGlobals "_law_reads" = some (some (.ref f14)))
    (l14 : K.lookup f14 = some ⟨oc14, od14, .func (PySem.W.fnOf "_law_reads" "_law_reads" (defArgs s__law_reads) (defBody s__law_reads) (defScope s__law_reads) .none kV14 dc14 pm14 an14 cd14 ct14), sl14⟩)
    (c14 : PySem.W.codeIn K cd14 "_law_reads" = true)
    (k14 : PySem.W.keepIn K (.ref f14) = true)
    (a15 : PySem.W.nsIn K mainGlobals "law" = some (some (.ref f15)))
    (l15 : K.lookup f15 = some ⟨oc15, od15, .func (PySem.W.fnOf "law" "law" (defArgs s_law) (defBody s_law) (defScope s_law) .none kV15 dc15 pm15 an15 cd15 ct15), sl15⟩)
    (c15 : PySem.W.codeIn K cd15 "law" = true)
    (k15 : PySem.W.keepIn K (.ref f15) = true)
    (eS : PySem.W.nsIn K mainGlobals "ScaleError" = some (some (.ref cS)))
    (bS : PySem.W.subIn K (.ref cS) (.type "BaseException") = some true)
    (dS : PySem.W.hasDictIn K cS = true)
    (tS : PySem.W.typeIn K (.ref cS) = some (.type "type"))
    (hn : PySem.W.specialIn K (.builtin "object.__class__") "__get__" = some (some (.builtin "getset_descriptor.__get__")))
    (ht : PySem.W.takesIn K (.builtin "object.__class__") = some true)
    (eF : PySem.W.nsIn K mainGlobals "NoForm" = some (some (.ref cF)))
    (xF : PySem.W.excIn K cF [.type "ValueError", .type "Exception", .type "BaseException", .type "object"] "ValueError.__new__" = true)
    (qF : PySem.W.keepIn K (.ref cF) = true)
    (bF : PySem.W.subIn K (.ref cF) (.type "BaseException") = some true)
    (tF : PySem.W.typeIn K (.ref cF) = some (.type "type"))
    (sF : PySem.W.subIn K (.ref cF) (.ref cS) = some true)
    (gF : PySem.W.findIn K (.ref cF) "__getattribute__" = some (some (.builtin "BaseException.__getattribute__")))
    (uF : PySem.W.findIn K (.ref cF) "__getattr__" = some none)
    (dF : PySem.W.hasDictIn K cF = true)
    (rF : PySem.W.findIn K (.ref cF) "__class__" = some (some (.builtin "object.__class__")))
    (mF : PySem.W.mroIn K cF (.type "object") = some true)
    (vF : PySem.W.subIn K (.ref cF) (.type "ValueError") = some true)
    (wF : PySem.W.subIn K (.ref cF) (.ref cF) = some true)
    (eN : PySem.W.nsIn K mainGlobals "NoNumber" = some (some (.ref cN)))
    (xN : PySem.W.excIn K cN [.type "ValueError", .type "Exception", .type "BaseException", .type "object"] "ValueError.__new__" = true)
    (qN : PySem.W.keepIn K (.ref cN) = true)
    (bN : PySem.W.subIn K (.ref cN) (.type "BaseException") = some true)
    (tN : PySem.W.typeIn K (.ref cN) = some (.type "type"))
    (sN : PySem.W.subIn K (.ref cN) (.ref cS) = some true)
    (gN : PySem.W.findIn K (.ref cN) "__getattribute__" = some (some (.builtin "BaseException.__getattribute__")))
    (uN : PySem.W.findIn K (.ref cN) "__getattr__" = some none)
    (dN : PySem.W.hasDictIn K cN = true)
    (rN : PySem.W.findIn K (.ref cN) "__class__" = some (some (.builtin "object.__class__")))
    (mN : PySem.W.mroIn K cN (.type "object") = some true)
    (vN : PySem.W.subIn K (.ref cN) (.type "ValueError") = some true)
    (wN : PySem.W.subIn K (.ref cN) (.ref cN) = some true)
    (eT : PySem.W.nsIn K mainGlobals "NoText" = some (some (.ref cT)))
    (xT : PySem.W.excIn K cT [.type "ValueError", .type "Exception", .type "BaseException", .type "object"] "ValueError.__new__" = true)
    (qT : PySem.W.keepIn K (.ref cT) = true)
    (bT : PySem.W.subIn K (.ref cT) (.type "BaseException") = some true)
    (tT : PySem.W.typeIn K (.ref cT) = some (.type "type"))
    (sT : PySem.W.subIn K (.ref cT) (.ref cS) = some true)
    (gT : PySem.W.findIn K (.ref cT) "__getattribute__" = some (some (.builtin "BaseException.__getattribute__")))
    (uT : PySem.W.findIn K (.ref cT) "__getattr__" = some none)
    (dT : PySem.W.hasDictIn K cT = true)
    (rT : PySem.W.findIn K (.ref cT) "__class__" = some (some (.builtin "object.__class__")))
    (mT : PySem.W.mroIn K cT (.type "object") = some true)
    (vT : PySem.W.subIn K (.ref cT) (.type "ValueError") = some true)
    (wT : PySem.W.subIn K (.ref cT) (.ref cT) = some true)
    (eP : PySem.W.nsIn K mainGlobals "NoPlace" = some (some (.ref cP)))
    (xP : PySem.W.excIn K cP [.type "ValueError", .type "Exception", .type "BaseException", .type "object"] "ValueError.__new__" = true)
    (qP : PySem.W.keepIn K (.ref cP) = true)
    (bP : PySem.W.subIn K (.ref cP) (.type "BaseException") = some true)
    (tP : PySem.W.typeIn K (.ref cP) = some (.type "type"))
    (sP : PySem.W.subIn K (.ref cP) (.ref cS) = some true)
    (gP : PySem.W.findIn K (.ref cP) "__getattribute__" = some (some (.builtin "BaseException.__getattribute__")))
    (uP : PySem.W.findIn K (.ref cP) "__getattr__" = some none)
    (dP : PySem.W.hasDictIn K cP = true)
    (rP : PySem.W.findIn K (.ref cP) "__class__" = some (some (.builtin "object.__class__")))
    (mP : PySem.W.mroIn K cP (.type "object") = some true)
    (vP : PySem.W.subIn K (.ref cP) (.type "ValueError") = some true)
    (wP : PySem.W.subIn K (.ref cP) (.ref cP) = some true)
    (zFN : PySem.W.subIn K (.ref cF) (.ref cN) = some false)
    (zFT : PySem.W.subIn K (.ref cF) (.ref cT) = some false)
    (zFP : PySem.W.subIn K (.ref cF) (.ref cP) = some false)
    (zNF : PySem.W.subIn K (.ref cN) (.ref cF) = some false)
    (zNT : PySem.W.subIn K (.ref cN) (.ref cT) = some false)
    (zNP : PySem.W.subIn K (.ref cN) (.ref cP) = some false)
    (zTF : PySem.W.subIn K (.ref cT) (.ref cF) = some false)
    (zTN : PySem.W.subIn K (.ref cT) (.ref cN) = some false)
    (zTP : PySem.W.subIn K (.ref cT) (.ref cP) = some false)
    (zPF : PySem.W.subIn K (.ref cP) (.ref cF) = some false)
    (zPN : PySem.W.subIn K (.ref cP) (.ref cN) = some false)
    (zPT : PySem.W.subIn K (.ref cP) (.ref cT) = some false)
    (n_ValueError : PySem.W.nsIn K mainGlobals "ValueError" = some none)
    (n_bool : PySem.W.nsIn K mainGlobals "bool" = some none)
    (n_int : PySem.W.nsIn K mainGlobals "int" = some none)
    (n_isinstance : PySem.W.nsIn K mainGlobals "isinstance" = some none)
    (n_len : PySem.W.nsIn K mainGlobals "len" = some none)
    (n_list : PySem.W.nsIn K mainGlobals "list" = some none)
    (n_range : PySem.W.nsIn K mainGlobals "range" = some none)
    (n_reversed : PySem.W.nsIn K mainGlobals "reversed" = some none)
    (n_str : PySem.W.nsIn K mainGlobals "str" = some none)
    (n_tuple : PySem.W.nsIn K mainGlobals "tuple" = some none)
    (kSIGNS : PySem.W.nsIn K mainGlobals "SIGNS" = some (some (.str "<.>" tkSIGNS))) :
    ∃ fd : FuncData, (∀ (s : Shared) (v : Value), BindsTo s fd ⟨[v], []⟩ [("_law_script", v)]) ∧ ∀ base : Heap, K.In base → base.Ns mainGlobals mg → FnOk l.prog w K mg base CX0 6 fa fd ["_law_script"] (sp_law K) := by
  have e := hfa.symm.trans (PySem.W.mg_of X G a15)
  cases e
  have B : Bi mg := ⟨PySem.W.mg_none_of X G n_ValueError, PySem.W.mg_none_of X G n_bool, PySem.W.mg_none_of X G n_int, PySem.W.mg_none_of X G n_isinstance, PySem.W.mg_none_of X G n_len, PySem.W.mg_none_of X G n_list, PySem.W.mg_none_of X G n_range, PySem.W.mg_none_of X G n_reversed, PySem.W.mg_none_of X G n_str, PySem.W.mg_none_of X G n_tuple⟩
  have ZF : ErrC K mg "NoForm" cF cS := ⟨PySem.W.mg_of X G eF, xF, qF, bF, tF, PySem.W.exm_ref bS dS tS sF, ⟨gF, uF, bF, dF, rF, hn, ht, mF⟩, kit_ve vF⟩
  have ZN : ErrC K mg "NoNumber" cN cS := ⟨PySem.W.mg_of X G eN, xN, qN, bN, tN, PySem.W.exm_ref bS dS tS sN, ⟨gN, uN, bN, dN, rN, hn, ht, mN⟩, kit_ve vN⟩
  have ZT : ErrC K mg "NoText" cT cS := ⟨PySem.W.mg_of X G eT, xT, qT, bT, tT, PySem.W.exm_ref bS dS tS sT, ⟨gT, uT, bT, dT, rT, hn, ht, mT⟩, kit_ve vT⟩
  have ZP : ErrC K mg "NoPlace" cP cS := ⟨PySem.W.mg_of X G eP, xP, qP, bP, tP, PySem.W.exm_ref bS dS tS sP, ⟨gP, uP, bP, dP, rP, hn, ht, mP⟩, kit_ve vP⟩
  have Z : Errs K mg cS cF cN cT cP := ⟨PySem.W.mg_of X G eS, ZF, ZN, ZT, ZP, kit_no dN tN wF zFN, kit_no dT tT wF zFT, kit_no dP tP wF zFP, kit_no dF tF wN zNF, kit_no dT tT wN zNT, kit_no dP tP wN zNP, kit_no dF tF wT zTF, kit_no dN tN wT zTN, kit_no dP tP wT zTP, kit_no dF tF wP zPF, kit_no dN tN wP zPN, kit_no dT tT wP zPT⟩
  have g_SIGNS := PySem.W.mg_of X G kSIGNS
  have S_is_whole : Src K mg "is_whole" s_is_whole ["thing"] := ⟨f1, _, fun_mk (st := s_is_whole) l1 c1 k1, PySem.W.mg_of X G a1, (fun_mk (st := s_is_whole) l1 c1 k1).binds (ps := ["thing"]) fun _ _ _ _ _ _ us hl => match us, hl with | [_], _ => rfl⟩
  have S_is_form : Src K mg "is_form" s_is_form ["thing"] := ⟨f2, _, fun_mk (st := s_is_form) l2 c2 k2, PySem.W.mg_of X G a2, (fun_mk (st := s_is_form) l2 c2 k2).binds (ps := ["thing"]) fun _ _ _ _ _ _ us hl => match us, hl with | [_], _ => rfl⟩
  have S_checked : Src K mg "checked" s_checked ["thing"] := ⟨f3, _, fun_mk (st := s_checked) l3 c3 k3, PySem.W.mg_of X G a3, (fun_mk (st := s_checked) l3 c3 k3).binds (ps := ["thing"]) fun _ _ _ _ _ _ us hl => match us, hl with | [_], _ => rfl⟩
  have S_shown : Src K mg "shown" s_shown ["form"] := ⟨f4, _, fun_mk (st := s_shown) l4 c4 k4, PySem.W.mg_of X G a4, (fun_mk (st := s_shown) l4 c4 k4).binds (ps := ["form"]) fun _ _ _ _ _ _ us hl => match us, hl with | [_], _ => rfl⟩
  have S_read : Src K mg "read" s_read ["text"] := ⟨f5, _, fun_mk (st := s_read) l5 c5 k5, PySem.W.mg_of X G a5, (fun_mk (st := s_read) l5 c5 k5).binds (ps := ["text"]) fun _ _ _ _ _ _ us hl => match us, hl with | [_], _ => rfl⟩
  have S__law_cell_at : Src K mg "_law_cell_at" s__law_cell_at ["_law_script", "_law_k"] := ⟨f6, _, fun_mk (st := s__law_cell_at) l6 c6 k6, PySem.W.mg_of X G a6, (fun_mk (st := s__law_cell_at) l6 c6 k6).binds (ps := ["_law_script", "_law_k"]) fun _ _ _ _ _ _ us hl => match us, hl with | [_, _], _ => rfl⟩
  have S__law_whole : Src K mg "_law_whole" s__law_whole ["_law_found"] := ⟨f7, _, fun_mk (st := s__law_whole) l7 c7 k7, PySem.W.mg_of X G a7, (fun_mk (st := s__law_whole) l7 c7 k7).binds (ps := ["_law_found"]) fun _ _ _ _ _ _ us hl => match us, hl with | [_], _ => rfl⟩
  have S__law_form_by : Src K mg "_law_form_by" s__law_form_by ["_law_way", "_law_cells"] := ⟨f8, _, fun_mk (st := s__law_form_by) l8 c8 k8, PySem.W.mg_of X G a8, (fun_mk (st := s__law_form_by) l8 c8 k8).binds (ps := ["_law_way", "_law_cells"]) fun _ _ _ _ _ _ us hl => match us, hl with | [_, _], _ => rfl⟩
  have S__law_bad_by : Src K mg "_law_bad_by" s__law_bad_by ["_law_lays", "_law_cell"] := ⟨f9, _, fun_mk (st := s__law_bad_by) l9 c9 k9, PySem.W.mg_of X G a9, (fun_mk (st := s__law_bad_by) l9 c9 k9).binds (ps := ["_law_lays", "_law_cell"]) fun _ _ _ _ _ _ us hl => match us, hl with | [_, _], _ => rfl⟩
  have S__law_sign_by : Src K mg "_law_sign_by" s__law_sign_by ["_law_cell"] := ⟨f10, _, fun_mk (st := s__law_sign_by) l10 c10 k10, PySem.W.mg_of X G a10, (fun_mk (st := s__law_sign_by) l10 c10 k10).binds (ps := ["_law_cell"]) fun _ _ _ _ _ _ us hl => match us, hl with | [_], _ => rfl⟩
  have S__law_line_by : Src K mg "_law_line_by" s__law_line_by ["_law_way", "_law_line", "_law_cell", "_law_sign"] := ⟨f11, _, fun_mk (st := s__law_line_by) l11 c11 k11, PySem.W.mg_of X G a11, (fun_mk (st := s__law_line_by) l11 c11 k11).binds (ps := ["_law_way", "_law_line", "_law_cell", "_law_sign"]) fun _ _ _ _ _ _ us hl => match us, hl with | [_, _, _, _], _ => rfl⟩
  have S__law_due : Src K mg "_law_due" s__law_due ["_law_line"] := ⟨f12, _, fun_mk (st := s__law_due) l12 c12 k12, PySem.W.mg_of X G a12, (fun_mk (st := s__law_due) l12 c12 k12).binds (ps := ["_law_line"]) fun _ _ _ _ _ _ us hl => match us, hl with | [_], _ => rfl⟩
  have S__law_shows_none : Src K mg "_law_shows_none" s__law_shows_none ["_law_thing"] := ⟨f13, _, fun_mk (st := s__law_shows_none) l13 c13 k13, PySem.W.mg_of X G a13, (fun_mk (st := s__law_shows_none) l13 c13 k13).binds (ps := ["_law_thing"]) fun _ _ _ _ _ _ us hl => match us, hl with | [_], _ => rfl⟩
  have S__law_reads : Src K mg "_law_reads" s__law_reads ["_law_line", "_law_due_here"] := ⟨f14, _, fun_mk (st := s__law_reads) l14 c14 k14, PySem.W.mg_of X G a14, (fun_mk (st := s__law_reads) l14 c14 k14).binds (ps := ["_law_line", "_law_due_here"]) fun _ _ _ _ _ _ us hl => match us, hl with | [_, _], _ => rfl⟩
  refine ⟨PySem.W.fnOf "law" "law" (defArgs s_law) (defBody s_law) (defScope s_law) .none kV15 dc15 pm15 an15 cd15 ct15, fun s v => .of_eq rfl, fun base _ _ => ?_⟩
  have C_is_whole := ok_is_whole (P := l.prog) (w := w) (base := base) S_is_whole B
  have C_is_form := ok_is_form (P := l.prog) (w := w) (base := base) S_is_form B C_is_whole
  have C_checked := ok_checked (P := l.prog) (w := w) (base := base) S_checked C_is_form Z.F
  have C_shown := ok_shown (P := l.prog) (w := w) (base := base) S_shown B g_SIGNS C_checked
  have C_read := ok_read (P := l.prog) (w := w) (base := base) S_read B g_SIGNS Z.T
  have C__law_cell_at := ok__law_cell_at (P := l.prog) (w := w) (base := base) S__law_cell_at B
  have C__law_whole := ok__law_whole (P := l.prog) (w := w) (base := base) S__law_whole B
  have C__law_form_by := ok__law_form_by (P := l.prog) (w := w) (base := base) S__law_form_by B
  have C__law_bad_by := ok__law_bad_by (P := l.prog) (w := w) (base := base) S__law_bad_by B
  have C__law_sign_by := ok__law_sign_by (P := l.prog) (w := w) (base := base) S__law_sign_by 
  have C__law_line_by := ok__law_line_by (P := l.prog) (w := w) (base := base) S__law_line_by B C__law_sign_by
  have C__law_due := ok__law_due (P := l.prog) (w := w) (base := base) S__law_due B
  have C__law_shows_none := ok__law_shows_none (P := l.prog) (w := w) (base := base) S__law_shows_none B Z C_shown
  have C__law_reads := ok__law_reads (P := l.prog) (w := w) (base := base) S__law_reads B Z C_read C__law_whole
  exact ok_law (P := l.prog) (w := w) (base := base) (fun_mk (st := s_law) l15 c15 k15) B C__law_cell_at C__law_form_by C_shown C__law_line_by C__law_sign_by C__law_due C__law_reads C__law_shows_none C__law_bad_by
theorem walk {l : PySem.W.OpenLaw} {q : Program} {loose : List Str} {XP : (Str → Option Value) → Heap → Prop} {YP : World → Heap → Prop} {d : DefRec} {K : Params → PySem.W.Frag} (hn : l.most = some 63) (hdf : d.params.defaults = [])
    (hY : ∀ (w : World) (h : Heap), YP w h → (K w.params).In h)
    (F : ∀ (w : World) (mg : Str → Option Value) (fa : Addr) (h : Heap), (K w.params).In h → h.Ns mainGlobals mg → mg d.name = some (.ref fa) →
      ∃ fd : FuncData, (∀ (s : Shared) (u : Value), BindsTo s fd ⟨[u], []⟩ [("_law_script", u)]) ∧ ∀ base : Heap, (K w.params).In base → base.Ns mainGlobals mg → FnOk l.prog w (K w.params) mg base CX0 6 fa fd ["_law_script"] (sp_law (K w.params))) :
    PySem.W.WalkO q loose XP YP l.row.toRowW d [] (fun f vs => PySem.call f vs) :=
  L2.walk_of (n := 63) (k := 6) (x := "_law_script") (CX := fun _ => CX0) (sp := fun w => sp_law (K w.params)) hn (by decide) hdf ⟨rfl, by decide, by decide⟩ hY F (fun _ _ a ns hl _ hS => ⟨a, ns, rfl, hS, hl, fun _ => rfl⟩) fun _ _ _ _ _ z => z
end Pz
open PySem PySem.W PyProof.Rows in
set_option maxRecDepth 100000 in
set_option maxHeartbeats 0 in
theorem PySem.Challenge.cw_poisescale_k04_written_and_read_holds : PySem.Challenge.rw_poisescale_k04_written_and_read.Holds := by
  w_on; o_law; k_head; (case hw => w_witness2)
  k_fill
  refine Pz.walk (l := PySem.Challenge.rw_poisescale_k04_written_and_read) rfl rfl (fun w h Y => PySem.W.kIn_of Y) ?F
  case F =>
    intro w mg fa h KX G hmg
    refine' Pz.all_mk KX G hmg ?a1 ?l1 ?c1 ?k1 ?a2 ?l2 ?c2 ?k2 ?a3 ?l3 ?c3 ?k3 ?a4 ?l4 ?c4 ?k4 ?a5 ?l5 ?c5 ?k5 ?a6 ?l6 ?c6 ?k6 ?a7 ?l7 ?c7 ?k7 ?a8 ?l8 ?c8 ?k8 ?a9 ?l9 ?c9 ?k9 ?a10 ?l10 ?c10 ?k10 ?a11 ?l11 ?c11 ?k11 ?a12 ?l12 ?c12 ?k12 ?a13 ?l13 ?c13 ?k13 ?a14 ?l14 ?c14 ?k14 ?a15 ?l15 ?c15 ?k15 ?eS ?bS ?dS ?tS ?hn ?ht ?eF ?xF ?qF ?bF ?tF ?sF ?gF ?uF ?dF ?rF ?mF ?vF ?wF ?eN ?xN ?qN ?bN ?tN ?sN ?gN ?uN ?dN ?rN ?mN ?vN ?wN ?eT ?xT ?qT ?bT ?tT ?sT ?gT ?uT ?dT ?rT ?mT ?vT ?wT ?eP ?xP ?qP ?bP ?tP ?sP ?gP ?uP ?dP ?rP ?mP ?vP ?wP ?zFN ?zFT ?zFP ?zNF ?zNT ?zNP ?zTF ?zTN ?zTP ?zPF ?zPN ?zPT ?n_ValueError ?n_bool ?n_int ?n_isinstance ?n_len ?n_list ?n_range ?n_reversed ?n_str ?n_tuple ?kSIGNS
    (case a1 => k_is)
    (case l1 => k_is)
    (case c1 => k_is)
    (case k1 => k_is)
    (case a2 => k_is)
    (case l2 => k_is)
    (case c2 => k_is)
    (case k2 => k_is)
    (case a3 => k_is)
    (case l3 => k_is)
    (case c3 => k_is)
    (case k3 => k_is)
    (case a4 => k_is)
    (case l4 => k_is)
    (case c4 => k_is)
    (case k4 => k_is)
    (case a5 => k_is)
    (case l5 => k_is)
    (case c5 => k_is)
    (case k5 => k_is)
    (case a6 => k_is)
    (case l6 => k_is)
    (case c6 => k_is)
    (case k6 => k_is)
    (case a7 => k_is)
    (case l7 => k_is)
    (case c7 => k_is)
    (case k7 => k_is)
    (case a8 => k_is)
    (case l8 => k_is)
    (case c8 => k_is)
    (case k8 => k_is)
    (case a9 => k_is)
    (case l9 => k_is)
    (case c9 => k_is)
    (case k9 => k_is)
    (case a10 => k_is)
    (case l10 => k_is)
    (case c10 => k_is)
    (case k10 => k_is)
    (case a11 => k_is)
    (case l11 => k_is)
    (case c11 => k_is)
    (case k11 => k_is)
    (case a12 => k_is)
    (case l12 => k_is)
    (case c12 => k_is)
    (case k12 => k_is)
    (case a13 => k_is)
    (case l13 => k_is)
    (case c13 => k_is)
    (case k13 => k_is)
    (case a14 => k_is)
    (case l14 => k_is)
    (case c14 => k_is)
    (case k14 => k_is)
    (case a15 => k_is)
    (case l15 => k_is)
    (case c15 => k_is)
    (case k15 => k_is)
    (case eS => k_is)
    (case bS => k_is)
    (case dS => k_is)
    (case tS => k_is)
    (case hn => k_is)
    (case ht => k_is)
    (case eF => k_is)
    (case xF => k_exc)
    (case qF => k_is)
    (case bF => k_is)
    (case tF => k_is)
    (case sF => k_is)
    (case gF => k_is)
    (case uF => k_is)
    (case dF => k_is)
    (case rF => k_is)
    (case mF => k_is)
    (case vF => k_is)
    (case wF => first | rfl | k_is)
    (case eN => k_is)
    (case xN => k_exc)
    (case qN => k_is)
    (case bN => k_is)
    (case tN => k_is)
    (case sN => k_is)
    (case gN => k_is)
    (case uN => k_is)
    (case dN => k_is)
    (case rN => k_is)
    (case mN => k_is)
    (case vN => k_is)
    (case wN => first | rfl | k_is)
    (case eT => k_is)
    (case xT => k_exc)
    (case qT => k_is)
    (case bT => k_is)
    (case tT => k_is)
    (case sT => k_is)
    (case gT => k_is)
    (case uT => k_is)
    (case dT => k_is)
    (case rT => k_is)
    (case mT => k_is)
    (case vT => k_is)
    (case wT => first | rfl | k_is)
    (case eP => k_is)
    (case xP => k_exc)
    (case qP => k_is)
    (case bP => k_is)
    (case tP => k_is)
    (case sP => k_is)
    (case gP => k_is)
    (case uP => k_is)
    (case dP => k_is)
    (case rP => k_is)
    (case mP => k_is)
    (case vP => k_is)
    (case wP => first | rfl | k_is)
    (case zFN => k_is)
    (case zFT => k_is)
    (case zFP => k_is)
    (case zNF => k_is)
    (case zNT => k_is)
    (case zNP => k_is)
    (case zTF => k_is)
    (case zTN => k_is)
    (case zTP => k_is)
    (case zPF => k_is)
    (case zPN => k_is)
    (case zPT => k_is)
    (case n_ValueError => k_is)
    (case n_bool => k_is)
    (case n_int => k_is)
    (case n_isinstance => k_is)
    (case n_len => k_is)
    (case n_list => k_is)
    (case n_range => k_is)
    (case n_reversed => k_is)
    (case n_str => k_is)
    (case n_tuple => k_is)
    (case kSIGNS => k_is)
#print axioms PySem.Challenge.cw_poisescale_k04_written_and_read_holds
