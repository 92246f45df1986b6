import PyProof.Rows.All
import Wide.All
import OpenK.AllK
import Wide.FinOn
import HandS.ForMost
import HandS.Exc
import HandS.TryOnly
import HandS.ExcOwn
import HandS.WordsExc
import HandS.ExcIs
import HandS.IsInst
import HandS.Wide
import HandS.Defaults
import HandS.More
import HandS.Rev
import HandS.Walk
import HandS.CallSlots
import PySem.Challenge.RW_poisescale_k08_halved_and_parted
set_option Elab.async false
set_option linter.all false
set_option maxRecDepth 100000
set_option maxHeartbeats 4000000
namespace Pz
open PySem PySem.Spec PyProof.Rows L2
/-! ### what stands where -/
/-- a thing of a kind that the laws hand in -/
def WOk (H : Hp) : V → Prop
  | .non => True
  | .bl _ => True
  | .int _ => True
  | .str _ => True
  | .ref a => (∃ xs, H a = some (.lst xs)) ∨ (∃ xs, H a = some (.tup xs)) ∨ (∃ kvs, H a = some (.dK kvs))
  | _ => False
def tyN (H : Hp) : V → String
  | .non => "NoneType"
  | .bl _ => "bool"
  | .int _ => "int"
  | .str _ => "str"
  | .ref a => match H a with
    | some (.lst _) => "list"
    | some (.tup _) => "tuple"
    | _ => "dict"
  | _ => "object"
theorem WOk.ty {K : PySem.W.Frag} {H : Hp} : ∀ {x : V}, WOk H x → TyX K H x (.type (tyN H x))
  | .non, _ => .base .non
  | .bl b, _ => .base (.bl b)
  | .int i, _ => .base (.int i)
  | .str z, _ => .base (.str z)
  | .ref a, h => by
    rcases h with ⟨xs, e⟩ | ⟨xs, e⟩ | ⟨kvs, e⟩
    · have q : tyN H (.ref a) = "list" := by show (match H a with | some (.lst _) => "list" | some (.tup _) => "tuple" | _ => "dict") = "list"; rw [e]
      rw [q]; exact .base (.lst e)
    · have q : tyN H (.ref a) = "tuple" := by show (match H a with | some (.lst _) => "list" | some (.tup _) => "tuple" | _ => "dict") = "tuple"; rw [e]
      rw [q]; exact .base (.tup e)
    · have q : tyN H (.ref a) = "dict" := by show (match H a with | some (.lst _) => "list" | some (.tup _) => "tuple" | _ => "dict") = "dict"; rw [e]
      rw [q]; exact .base (.dK e)
theorem tyN_ref {H : Hp} {a : Addr} : WOk H (.ref a) → tyN H (.ref a) = "list" ∨ tyN H (.ref a) = "tuple" ∨ tyN H (.ref a) = "dict" := by
  intro h
  show (match H a with | some (.lst _) => "list" | some (.tup _) => "tuple" | _ => "dict") = "list" ∨ (match H a with | some (.lst _) => "list" | some (.tup _) => "tuple" | _ => "dict") = "tuple" ∨ (match H a with | some (.lst _) => "list" | some (.tup _) => "tuple" | _ => "dict") = "dict"
  rcases h with ⟨xs, e⟩ | ⟨xs, e⟩ | ⟨kvs, e⟩
  · rw [e]; exact .inl rfl
  · rw [e]; exact .inr (.inl rfl)
  · rw [e]; exact .inr (.inr rfl)
theorem tyN_list {H : Hp} {a : Addr} {xs : List V} (e : H a = some (.lst xs)) : tyN H (.ref a) = "list" := by
  show (match H a with | some (.lst _) => "list" | some (.tup _) => "tuple" | _ => "dict") = "list"
  rw [e]
theorem tyN_tup {H : Hp} {a : Addr} {xs : List V} (e : H a = some (.tup xs)) : tyN H (.ref a) = "tuple" := by
  show (match H a with | some (.lst _) => "list" | some (.tup _) => "tuple" | _ => "dict") = "tuple"
  rw [e]
/-- a whole number, and no truth -/
def isW : V → Bool
  | .int _ => true
  | _ => false
def isB : V → Bool
  | .bl _ => true
  | _ => false
def isS : V → Bool
  | .str _ => true
  | _ => false
def isL (H : Hp) : V → Bool
  | .ref a => match H a with
    | some (.lst _) => true
    | _ => false
  | _ => false
def isT (H : Hp) : V → Bool
  | .ref a => match H a with
    | some (.tup _) => true
    | _ => false
  | _ => false
theorem isL_of {H : Hp} {a : Addr} {xs : List V} (e : H a = some (.lst xs)) : isL H (.ref a) = true := by
  show (match H a with | some (.lst _) => true | _ => false) = true
  rw [e]
theorem isT_of {H : Hp} {a : Addr} {xs : List V} (e : H a = some (.tup xs)) : isT H (.ref a) = true := by
  show (match H a with | some (.tup _) => true | _ => false) = true
  rw [e]
theorem isL_ref {H : Hp} {x : V} (h : isL H x = true) : ∃ a xs, x = .ref a ∧ H a = some (.lst xs) := by
  cases x with
  | ref a =>
    have h' : (match H a with | some (.lst _) => true | _ => false) = true := h
    split at h'
    · rename_i xs e
      exact ⟨a, xs, rfl, e⟩
    · cases h'
  | _ => cases h
theorem kb_NoneType_int : kitB "NoneType" "int" = some false := by decide +kernel
theorem kb_bool_int : kitB "bool" "int" = some true := by decide +kernel
theorem kb_int_int : kitB "int" "int" = some true := by decide +kernel
theorem kb_str_int : kitB "str" "int" = some false := by decide +kernel
theorem kb_list_int : kitB "list" "int" = some false := by decide +kernel
theorem kb_tuple_int : kitB "tuple" "int" = some false := by decide +kernel
theorem kb_dict_int : kitB "dict" "int" = some false := by decide +kernel
theorem kb_NoneType_bool : kitB "NoneType" "bool" = some false := by decide +kernel
theorem kb_bool_bool : kitB "bool" "bool" = some true := by decide +kernel
theorem kb_int_bool : kitB "int" "bool" = some false := by decide +kernel
theorem kb_str_bool : kitB "str" "bool" = some false := by decide +kernel
theorem kb_list_bool : kitB "list" "bool" = some false := by decide +kernel
theorem kb_tuple_bool : kitB "tuple" "bool" = some false := by decide +kernel
theorem kb_dict_bool : kitB "dict" "bool" = some false := by decide +kernel
theorem kb_NoneType_str : kitB "NoneType" "str" = some false := by decide +kernel
theorem kb_bool_str : kitB "bool" "str" = some false := by decide +kernel
theorem kb_int_str : kitB "int" "str" = some false := by decide +kernel
theorem kb_str_str : kitB "str" "str" = some true := by decide +kernel
theorem kb_list_str : kitB "list" "str" = some false := by decide +kernel
theorem kb_tuple_str : kitB "tuple" "str" = some false := by decide +kernel
theorem kb_dict_str : kitB "dict" "str" = some false := by decide +kernel
theorem kb_NoneType_list : kitB "NoneType" "list" = some false := by decide +kernel
theorem kb_bool_list : kitB "bool" "list" = some false := by decide +kernel
theorem kb_int_list : kitB "int" "list" = some false := by decide +kernel
theorem kb_str_list : kitB "str" "list" = some false := by decide +kernel
theorem kb_list_list : kitB "list" "list" = some true := by decide +kernel
theorem kb_tuple_list : kitB "tuple" "list" = some false := by decide +kernel
theorem kb_dict_list : kitB "dict" "list" = some false := by decide +kernel
theorem kb_NoneType_tuple : kitB "NoneType" "tuple" = some false := by decide +kernel
theorem kb_bool_tuple : kitB "bool" "tuple" = some false := by decide +kernel
theorem kb_int_tuple : kitB "int" "tuple" = some false := by decide +kernel
theorem kb_str_tuple : kitB "str" "tuple" = some false := by decide +kernel
theorem kb_list_tuple : kitB "list" "tuple" = some false := by decide +kernel
theorem kb_tuple_tuple : kitB "tuple" "tuple" = some true := by decide +kernel
theorem kb_dict_tuple : kitB "dict" "tuple" = some false := by decide +kernel
theorem kit_int {H : Hp} : ∀ {x : V}, WOk H x → kitB (tyN H x) "int" = some (isW x || isB x)
  | .non, _ => kb_NoneType_int
  | .bl _, _ => kb_bool_int
  | .int _, _ => kb_int_int
  | .str _, _ => kb_str_int
  | .ref a, h => by
    show kitB (tyN H (.ref a)) "int" = some false
    rcases tyN_ref h with e | e | e <;> rw [e]
    · exact kb_list_int
    · exact kb_tuple_int
    · exact kb_dict_int
theorem kit_bool {H : Hp} : ∀ {x : V}, WOk H x → kitB (tyN H x) "bool" = some (isB x)
  | .non, _ => kb_NoneType_bool
  | .bl _, _ => kb_bool_bool
  | .int _, _ => kb_int_bool
  | .str _, _ => kb_str_bool
  | .ref a, h => by
    show kitB (tyN H (.ref a)) "bool" = some false
    rcases tyN_ref h with e | e | e <;> rw [e]
    · exact kb_list_bool
    · exact kb_tuple_bool
    · exact kb_dict_bool
theorem kit_str {H : Hp} : ∀ {x : V}, WOk H x → kitB (tyN H x) "str" = some (isS x)
  | .non, _ => kb_NoneType_str
  | .bl _, _ => kb_bool_str
  | .int _, _ => kb_int_str
  | .str _, _ => kb_str_str
  | .ref a, h => by
    show kitB (tyN H (.ref a)) "str" = some false
    rcases tyN_ref h with e | e | e <;> rw [e]
    · exact kb_list_str
    · exact kb_tuple_str
    · exact kb_dict_str
theorem kit_list {H : Hp} : ∀ {x : V}, WOk H x → kitB (tyN H x) "list" = some (isL H x)
  | .non, _ => kb_NoneType_list
  | .bl _, _ => kb_bool_list
  | .int _, _ => kb_int_list
  | .str _, _ => kb_str_list
  | .ref a, h => by
    show kitB (match H a with | some (.lst _) => "list" | some (.tup _) => "tuple" | _ => "dict") "list" = some (match H a with | some (.lst _) => true | _ => false)
    rcases h with ⟨xs, e⟩ | ⟨xs, e⟩ | ⟨kvs, e⟩ <;> rw [e]
    · exact kb_list_list
    · exact kb_tuple_list
    · exact kb_dict_list
theorem kit_tuple {H : Hp} : ∀ {x : V}, WOk H x → kitB (tyN H x) "tuple" = some (isT H x)
  | .non, _ => kb_NoneType_tuple
  | .bl _, _ => kb_bool_tuple
  | .int _, _ => kb_int_tuple
  | .str _, _ => kb_str_tuple
  | .ref a, h => by
    show kitB (match H a with | some (.lst _) => "list" | some (.tup _) => "tuple" | _ => "dict") "tuple" = some (match H a with | some (.tup _) => true | _ => false)
    rcases h with ⟨xs, e⟩ | ⟨xs, e⟩ | ⟨kvs, e⟩ <;> rw [e]
    · exact kb_list_tuple
    · exact kb_tuple_tuple
    · exact kb_dict_tuple
theorem WOk.same {H H' : Hp} (s : Same H H') : ∀ {x : V}, WOk H x → WOk H' x
  | .non, _ => trivial
  | .bl _, _ => trivial
  | .int _, _ => trivial
  | .str _, _ => trivial
  | .ref a, h => by
    rcases h with ⟨xs, e⟩ | ⟨xs, e⟩ | ⟨kvs, e⟩
    · exact .inl ⟨xs, s _ _ e⟩
    · exact .inr (.inl ⟨xs, s _ _ e⟩)
    · exact .inr (.inr ⟨kvs, s _ _ e⟩)
theorem isL_same {H H' : Hp} (s : Same H H') : ∀ {x : V}, WOk H x → isL H' x = isL H x
  | .ref a, h => by
    show (match H' a with | some (.lst _) => true | _ => false) = (match H a with | some (.lst _) => true | _ => false)
    rcases h with ⟨xs, e⟩ | ⟨xs, e⟩ | ⟨kvs, e⟩ <;> rw [e, s _ _ e]
  | .non, _ => rfl
  | .bl _, _ => rfl
  | .int _, _ => rfl
  | .str _, _ => rfl
theorem same_upd {H : Hp} {p : Addr} {o : HO} (h : H p = Option.none) : Same H (upd H p o) := fun b x e => by
  rw [upd_ne (ne_of_none e h)]
  exact e
/-- what was free at the start stays beside what is changed there -/
theorem same_put {H H' : Hp} {p : Addr} {o : HO} (s : Same H H') (h : H p = Option.none) : Same H (upd H' p o) := fun b x e => by
  rw [upd_ne (ne_of_none e h)]
  exact s b x e
theorem ints_get {ns : List Int} {i : Nat} {x : V} (h : (ns.map V.int)[i]? = some x) : ∃ z, ns[i]? = some z ∧ x = V.int z := by
  rw [List.getElem?_map] at h
  cases e : ns[i]? with
  | none => rw [e] at h; cases h
  | some z => rw [e] at h; exact ⟨z, rfl, (Option.some.inj h).symm⟩
theorem ints_at {ns : List Int} {i : Nat} {z : Int} (h : ns[i]? = some z) : (ns.map V.int)[i]? = some (V.int z) := by
  rw [List.getElem?_map, h]; rfl
theorem take_more {α : Type} : ∀ {l : List α} {i : Nat} {x : α}, l[i]? = some x → l.take (i + 1) = l.take i ++ [x]
  | [], i, x, h => by simp at h
  | a :: l, 0, x, h => by
    have e : a = x := Option.some.inj h
    subst e
    rfl
  | a :: l, i + 1, x, h => by
    have ih := take_more (l := l) (i := i) (x := x) h
    show a :: l.take (i + 1) = a :: l.take i ++ [x]
    rw [ih]; rfl
theorem map_int_inj : ∀ {a b : List Int}, a.map V.int = b.map V.int → a = b
  | [], [], _ => rfl
  | [], _ :: _, h => by cases h
  | _ :: _, [], h => by cases h
  | x :: a, y :: b, h => by
    have h1 : V.int x = V.int y := (List.cons.inj h).1
    have h2 := map_int_inj (List.cons.inj h).2
    cases h1
    rw [h2]
/-! ### defs that stand ready to be called -/
def Cal (P : Program) (w : World) (K : PySem.W.Frag) (mg : Str → Option Value) (base : Heap) (CX : CXT) (k : Nat) (x : Str) (ps : List Str) (sp : Sp) : Prop :=
  ∃ (f : Addr) (fd : FuncData), FnOk P w K mg base CX k f fd ps sp ∧ mg x = some (.ref f) ∧ PySem.W.keepIn K (.ref f) = true ∧ L2.Binds K fd ps []
/-- a def of the text as the top leaves it -/
def Src (K : PySem.W.Frag) (mg : Str → Option Value) (x : Str) (st : Stmt) (ps : List Str) : Prop :=
  ∃ (f : Addr) (fd : FuncData), Fun K x x st f fd ∧ mg x = some (.ref f) ∧ L2.Binds K fd ps []
theorem Src.cal {P : Program} {w : World} {K : PySem.W.Frag} {mg : Str → Option Value} {base : Heap} {CX : CXT} {k : Nat} {x : Str} {st : Stmt} {ps : List Str} {sp : Sp} (S : Src K mg x st ps)
    (h : ∀ (f : Addr) (fd : FuncData), Fun K x x st f fd → FnOk P w K mg base CX k f fd ps sp) : Cal P w K mg base CX k x ps sp := by
  obtain ⟨f, fd, F, g, b⟩ := S
  exact ⟨f, fd, h f fd F, g, F.kp, b⟩
/-! ### the refusals -/
/-- an own error class under ScaleError (at S), as the top leaves it -/
structure ErrC (K : PySem.W.Frag) (mg : Str → Option Value) (x : Str) (C S : Addr) : Prop where
  g : mg x = some (.ref C)
  x : PySem.W.excIn K C [.type "ValueError", .type "Exception", .type "BaseException", .type "object"] "ValueError.__new__" = true
  k : PySem.W.keepIn K (.ref C) = true
  b : PySem.W.subIn K (.ref C) (.type "BaseException") = some true
  t : PySem.W.typeIn K (.ref C) = some (.type "type")
  m : PySem.W.exmOne K (.ref C) (.ref S) = some true
  c : ExcC K C
  v : PySem.W.kitOne K (.ref C) (.type "ValueError") = some true
theorem kit_self {K : PySem.W.Frag} {C : Addr} : PySem.W.kitOne K (.ref C) (.ref C) = some true := by
  show (if (Value.ref C == Value.ref C) = true then some true else PySem.W.kitCls K (.ref C) (.ref C)) = some true
  rw [if_pos (by simp)]
/-- a block's reading weakened -/
theorem pss_imp {X : Cx} {st : List Stmt} {t u : TS} (h : PSs X st t) (i : ∀ D σ H, u D σ H → t D σ H) : PSs X st u := ⟨fun pins s σ H D I q => h.run pins s σ H D I (i D σ H q)⟩
/-- the ways behind a statement are brought together under J -/
def tJoin (t : TS) : TS := fun D σ H => ∃ J : L2.St → Hp → Prop, (∀ σ' H', J σ' H' → D.nx σ' H') ∧ t { D with nx := J } σ H
theorem ps_join {X : Cx} {st : Stmt} {t : TS} (h : PS X st t) : PS X st (tJoin t) := by
  refine ⟨fun pins s σ H D I hw => ?_⟩
  obtain ⟨J, hJ, q⟩ := hw
  refine thn (h.run pins s σ H _ I q) fun f s' hs => ?_
  cases f with
  | next =>
    obtain ⟨σ', H', I', j⟩ := hs
    exact ⟨σ', H', I', hJ _ _ j⟩
  | _ => exact hs
/-- a slice of ints -/
def cutI (ns : List Int) (lo hi : Option Int) : List Int := (ns.drop (HT.sIx ns.length 0 lo)).take (HT.sIx ns.length ns.length hi - HT.sIx ns.length 0 lo)
theorem cut_ints (ns : List Int) (lo hi : Option Int) : cutV (ns.map V.int) lo hi = (cutI ns lo hi).map V.int := by
  unfold cutV cutI
  rw [List.length_map, List.map_take, List.map_drop]
theorem cutI_mem {ns : List Int} {lo hi : Option Int} {x : Int} (h : x ∈ cutI ns lo hi) : x ∈ ns := List.mem_of_mem_drop (List.mem_of_mem_take h)
theorem cutI_len (ns : List Int) (lo hi : Option Int) : (cutI ns lo hi).length ≤ ns.length := by
  unfold cutI
  rw [List.length_take, List.length_drop]; omega
theorem small {n : Nat} (h : n ≤ 16000000) : n < sizeLine := Nat.lt_of_le_of_lt h (by decide)
theorem small' {n : Nat} (h : n ≤ 16000000) : n ≤ sizeLine := Nat.le_of_lt (small h)
theorem ints_len {ns : List Int} {n : Nat} (h : ns.length ≤ n) : (ns.map V.int).length ≤ n := by rw [List.length_map]; exact h
/-- the own error classes -/
structure Errs (K : PySem.W.Frag) (mg : Str → Option Value) (cS cF cN cT cP : Addr) : Prop where
  gS : mg "ScaleError" = some (.ref cS)
  F : ErrC K mg "NoForm" cF cS
  N : ErrC K mg "NoNumber" cN cS
  T : ErrC K mg "NoText" cT cS
  P : ErrC K mg "NoPlace" cP cS
  FN : PySem.W.kitOne K (.ref cF) (.ref cN) = some false
  FT : PySem.W.kitOne K (.ref cF) (.ref cT) = some false
  FP : PySem.W.kitOne K (.ref cF) (.ref cP) = some false
  NF : PySem.W.kitOne K (.ref cN) (.ref cF) = some false
  NT : PySem.W.kitOne K (.ref cN) (.ref cT) = some false
  NP : PySem.W.kitOne K (.ref cN) (.ref cP) = some false
  TF : PySem.W.kitOne K (.ref cT) (.ref cF) = some false
  TN : PySem.W.kitOne K (.ref cT) (.ref cN) = some false
  TP : PySem.W.kitOne K (.ref cT) (.ref cP) = some false
  PF : PySem.W.kitOne K (.ref cP) (.ref cF) = some false
  PN : PySem.W.kitOne K (.ref cP) (.ref cN) = some false
  PT : PySem.W.kitOne K (.ref cP) (.ref cT) = some false
/-- an except suite, where the error's class is asked -/
def tCls (K : PySem.W.Frag) (cls : Value) (d : Option Addr) (t : Addr → TS) : TS := fun D σ H => ∃ D0, cls = .ref D0 ∧ d = none ∧ ExcC K D0 ∧ t D0 D σ H
theorem pss_cls {X : Cx} {cls : Value} {d : Option Addr} {oe : Obj} {st : List Stmt} {t : Addr → TS} (hz : Zc cls d oe) (h : ∀ D0, Zc (.ref D0) none oe → ExcC X.K D0 → PSs X st (t D0)) : PSs X st (tCls X.K cls d t) := by
  refine ⟨fun pins s σ H D I hw => ?_⟩
  obtain ⟨D0, rfl, rfl, xc, q⟩ := hw
  exact (h D0 hz xc).run pins s σ H D I q
def tIs (K : PySem.W.Frag) (D a : Addr) (i : Nat) (c : V) : TE := tCB (rIsE K D a) (tCons (tVar i) (tCons (tC c) tNil))
/-- if isinstance(e, c1) or isinstance(e, c2) or isinstance(e, c3): return r; return isinstance(e, c4) and isinstance(e, ValueError) -/
def tSuite (K : PySem.W.Frag) (a : Addr) (i : Nat) (c1 c2 c3 r c4 : V) : Addr → TS := fun D =>
  tSeq (tIfS (tOr (tB (tIs K D a i c1)) (tOr (tB (tIs K D a i c2)) (tB (tIs K D a i c3)))) (tRet (tC r)) tNext) (tRet (tAndV (tIs K D a i c4) (tIs K D a i (.ty "ValueError"))))
theorem suite_is {K : PySem.W.Frag} {D a c : Addr} {i : Nat} {σ : L2.St} {H : Hp} {Q : VK} {b : Bool} (hi : σ[i]? = some (some (.ref a))) (h : PySem.W.kitOne K (.ref D) (.ref c) = some b) (q : Q (.bl b) H) : tIs K D a i (.ref c) σ H Q :=
  ⟨_, hi, _, _, _, rfl, fun _ r => r, h, q⟩
theorem suite_ve {K : PySem.W.Frag} {D a : Addr} {i : Nat} {σ : L2.St} {H : Hp} {Q : VK} {b : Bool} (hi : σ[i]? = some (some (.ref a))) (h : PySem.W.kitOne K (.ref D) (.type "ValueError") = some b) (q : Q (.bl b) H) : tIs K D a i (.ty "ValueError") σ H Q :=
  ⟨_, hi, _, _, _, rfl, fun _ r => r, h, q⟩
theorem suite_ok {K : PySem.W.Frag} {D a c1 c2 c3 c4 : Addr} {i : Nat} {σ : L2.St} {H : Hp} {E : Ends} {r : V} (hi : σ[i]? = some (some (.ref a))) (h1 : PySem.W.kitOne K (.ref D) (.ref c1) = some false) (h2 : PySem.W.kitOne K (.ref D) (.ref c2) = some false)
    (h3 : PySem.W.kitOne K (.ref D) (.ref c3) = some false) (h4 : PySem.W.kitOne K (.ref D) (.ref c4) = some true) (h5 : PySem.W.kitOne K (.ref D) (.type "ValueError") = some true) (q : E.rt (.bl true) H) : tSuite K a i (.ref c1) (.ref c2) (.ref c3) r (.ref c4) D E σ H := by
  refine suite_is hi h1 ⟨_, rfl, iteF ?_⟩
  refine suite_is hi h2 ⟨_, rfl, iteF ?_⟩
  refine suite_is hi h3 ⟨_, rfl, iteF ?_⟩
  exact suite_is hi h4 ⟨_, rfl, iteT (suite_ve hi h5 q)⟩
theorem kit_ve {K : PySem.W.Frag} {C : Addr} (s : PySem.W.subIn K (.ref C) (.type "ValueError") = some true) : PySem.W.kitOne K (.ref C) (.type "ValueError") = some true := by
  have m : PySem.W.kitMeta "ValueError" = true := by decide +kernel
  show (if (Value.ref C == Value.type "ValueError") = true then some true else (if PySem.W.kitMeta "ValueError" = true then PySem.W.subIn K (.ref C) (.type "ValueError") else none)) = some true
  rw [if_pos m, s]
  split <;> rfl
theorem kit_no {K : PySem.W.Frag} {C N : Addr} (hd : PySem.W.hasDictIn K N = true) (ht : PySem.W.typeIn K (.ref N) = some (.type "type")) (ss : PySem.W.subIn K (.ref C) (.ref C) = some true) (s : PySem.W.subIn K (.ref C) (.ref N) = some false) :
    PySem.W.kitOne K (.ref C) (.ref N) = some false := by
  have ne : ¬ (Value.ref C == Value.ref N) = true := fun e => by
    have e2 : C = N := Value.ref.inj (beq_iff_eq.mp e)
    subst e2
    rw [ss] at s
    cases s
  obtain ⟨cd, hc, _⟩ := PySem.W.any_some hd
  have e2 : ((PySem.W.clsIn K N).isSome && PySem.W.typeIn K (.ref N) == some (.type "type")) = true := by rw [hc, ht]; rfl
  show (if (Value.ref C == Value.ref N) = true then some true else (if ((PySem.W.clsIn K N).isSome && PySem.W.typeIn K (.ref N) == some (.type "type")) = true then PySem.W.subIn K (.ref C) (.ref N) else none)) = some false
  rw [if_neg ne, if_pos e2]
  exact s
theorem at0 {α : Type} {xs : List α} {i : Nat} {v : α} (h : xs[i]? = some v) : atI xs (0 + (i : Int)) = some v := by
  rw [Int.zero_add]
  exact atI_nat h
theorem nat_lo (n : Nat) : -(2 ^ 62) ≤ ((n : Nat) : Int) := by omega
theorem nat_hi {n : Nat} (h : n ≤ 16000000) : ((n : Nat) : Int) < 2 ^ 62 := by omega
/-! ### forms -/
def Lays (ns : List Int) : Prop := ∀ x ∈ ns, -1 ≤ x ∧ x ≤ 1
def Form (ns : List Int) : Prop := Lays ns ∧ ns.getLast? ≠ some 0
def okLay : V → Bool
  | .int i => decide (-1 ≤ i ∧ i ≤ 1)
  | _ => false
def formV (xs : List V) : Bool := xs.all okLay && decide (xs.getLast? ≠ some (.int 0))
theorem getLast_map {ns : List Int} : (ns.map V.int).getLast? = ns.getLast?.map V.int := List.getLast?_map ..
theorem formV_ints {ns : List Int} : formV (ns.map V.int) = true ↔ Form ns := by
  unfold formV Form Lays
  rw [Bool.and_eq_true, List.all_eq_true, decide_eq_true_iff, getLast_map]
  constructor
  · rintro ⟨h1, h2⟩
    refine ⟨fun x hx => of_decide_eq_true (h1 (V.int x) (List.mem_map.mpr ⟨x, hx, rfl⟩)), fun e => h2 (by rw [e]; rfl)⟩
  · rintro ⟨h1, h2⟩
    refine ⟨fun y hy => ?_, fun e => h2 ?_⟩
    · obtain ⟨x, hx, rfl⟩ := List.mem_map.mp hy
      exact decide_eq_true (h1 x hx)
    · cases q : ns.getLast? with
      | none => rw [q] at e; cases e
      | some z =>
        rw [q] at e
        have e2 : V.int z = V.int 0 := Option.some.inj e
        cases e2
        rfl
def isF (H : Hp) : V → Bool
  | .ref a => match H a with
    | some (.lst xs) => formV xs
    | _ => false
  | _ => false
theorem isF_list {H : Hp} {a : Addr} {xs : List V} (e : H a = some (.lst xs)) : isF H (.ref a) = formV xs := by
  show (match H a with | some (.lst xs) => formV xs | _ => false) = formV xs
  rw [e]
theorem isF_not {H : Hp} : ∀ {x : V}, isL H x = false → isF H x = false
  | .ref a, h => by
    show (match H a with | some (.lst xs) => formV xs | _ => false) = false
    split
    · rename_i xs e
      rw [isL_of e] at h
      cases h
    · rfl
  | .non, _ => rfl
  | .bl _, _ => rfl
  | .int _, _ => rfl
  | .str _, _ => rfl
  | .byt _, _ => rfl
  | .flt _, _ => rfl
  | .ty _, _ => rfl
theorem isF_same {H H' : Hp} (s : Same H H') : ∀ {x : V}, WOk H x → isF H' x = isF H x
  | .ref a, h => by
    show (match H' a with | some (.lst xs) => formV xs | _ => false) = (match H a with | some (.lst xs) => formV xs | _ => false)
    rcases h with ⟨xs, e⟩ | ⟨xs, e⟩ | ⟨kvs, e⟩ <;> rw [e, s _ _ e]
  | .non, _ => rfl
  | .bl _, _ => rfl
  | .int _, _ => rfl
  | .str _, _ => rfl
/-- what is handed in to be looked at: of a known kind, a list's items too -/
def Hand (H : Hp) (x : V) : Prop := WOk H x ∧ ∀ a xs, x = .ref a → H a = some (.lst xs) → ∀ y ∈ xs, WOk H y
theorem Hand.same {H H' : Hp} {x : V} (h : Hand H x) (s : Same H H') : Hand H' x := by
  refine ⟨h.1.same s, fun a xs e q y hy => ?_⟩
  subst e
  rcases h.1 with ⟨ys, e⟩ | ⟨ys, e⟩ | ⟨kvs, e⟩
  · have e2 := HO.lst.inj (Option.some.inj ((s _ _ e).symm.trans q))
    subst e2
    exact (h.2 a _ rfl e y hy).same s
  · rw [s _ _ e] at q
    cases q
  · rw [s _ _ e] at q
    cases q
theorem hand_ints {H : Hp} {a : Addr} {ns : List Int} (e : H a = some (.lst (ns.map V.int))) : Hand H (.ref a) := by
  refine ⟨.inl ⟨_, e⟩, fun b xs q h y hy => ?_⟩
  cases q
  have h2 := HO.lst.inj (Option.some.inj (e.symm.trans h))
  subst h2
  obtain ⟨x, _, rfl⟩ := List.mem_map.mp hy
  trivial
theorem isF_ints {H : Hp} {a : Addr} {ns : List Int} (e : H a = some (.lst (ns.map V.int))) (h : Form ns) : isF H (.ref a) = true := (isF_list e).trans (formV_ints.mpr h)
/-- a form stands at a -/
def FormAt (H : Hp) (a : Addr) (ns : List Int) : Prop := H a = some (.lst (ns.map V.int)) ∧ Form ns
theorem formV_bad {xs : List V} {i : Nat} {y : V} (hi : xs[i]? = some y) (h : okLay y = false) : formV xs = false := by
  have q : xs.all okLay = false := by
    rw [List.all_eq_false]
    exact ⟨y, List.mem_of_getElem? hi, by rw [h]; decide⟩
  unfold formV
  rw [q]; rfl
theorem all_more {xs : List V} {i : Nat} {y : V} (hi : xs[i]? = some y) (ok : (xs.take i).all okLay = true) (h : okLay y = true) : (xs.take (i + 1)).all okLay = true := by
  rw [take_more hi, List.all_append, ok, List.all_cons, h]; rfl
theorem last_cases {α : Type} (xs : List α) : xs = [] ∨ ∃ ys l, xs = ys ++ [l] := by
  rcases List.eq_nil_or_concat xs with h | ⟨ys, l, h⟩
  · exact .inl h
  · exact .inr ⟨ys, l, by rw [h, List.concat_eq_append]⟩
theorem formV_last {ys : List V} {z : Int} (ok : (ys ++ [V.int z]).all okLay = true) : formV (ys ++ [V.int z]) = !decide (V.int z = V.int 0) := by
  unfold formV
  rw [ok, List.getLast?_concat, Bool.true_and]
  by_cases h : z = 0
  · subst h; rfl
  · have h2 : ¬ V.int z = V.int 0 := fun e => h (V.int.inj e)
    have h3 : some (V.int z) ≠ some (V.int 0) := fun e => h2 (Option.some.inj e)
    rw [decide_eq_true h3, decide_eq_false h2]; rfl
theorem int_of_okLay {y : V} (h : okLay y = true) : ∃ z, y = .int z ∧ -1 ≤ z ∧ z ≤ 1 := by
  cases y with
  | int z =>
    have := of_decide_eq_true (show decide (-1 ≤ z ∧ z ≤ 1) = true from h)
    exact ⟨z, rfl, this.1, this.2⟩
  | _ => cases h
theorem ints_of_all : ∀ {xs : List V}, xs.all okLay = true → ∃ ns : List Int, xs = ns.map V.int
  | [], _ => ⟨[], rfl⟩
  | x :: xs, h => by
    rw [List.all_cons, Bool.and_eq_true] at h
    obtain ⟨z, rfl, _⟩ := int_of_okLay h.1
    obtain ⟨ns, rfl⟩ := ints_of_all h.2
    exact ⟨z :: ns, rfl⟩
theorem isF_true {H : Hp} {x : V} (h : isF H x = true) : ∃ a ns, x = .ref a ∧ FormAt H a ns := by
  cases x with
  | ref a =>
    have h' : (match H a with | some (.lst xs) => formV xs | _ => false) = true := h
    split at h'
    · rename_i xs e
      have ok := h'
      unfold formV at ok
      rw [Bool.and_eq_true] at ok
      obtain ⟨ns, rfl⟩ := ints_of_all ok.1
      exact ⟨a, ns, rfl, e, formV_ints.mp h'⟩
    · cases h'
  | _ => cases h
theorem FormAt.isF {H : Hp} {a : Addr} {ns : List Int} (h : FormAt H a ns) : isF H (.ref a) = true := isF_ints h.1 h.2
theorem FormAt.hand {H : Hp} {a : Addr} {ns : List Int} (h : FormAt H a ns) : Hand H (.ref a) := hand_ints h.1
/-- a form is asked for: C the class that refuses what is none -/
def Asks (C : Addr) (x : V) (H : Hp) (E : XK) (good : Addr → List Int → Prop) : Prop :=
  Hand H x ∧ (∀ a ns, x = .ref a → FormAt H a ns → good a ns) ∧ (isF H x = false → ∀ H', Same H H' → E (.ref C) none H')
theorem Asks.of {C a : Addr} {ns : List Int} {H : Hp} {E : XK} {good : Addr → List Int → Prop} (h : FormAt H a ns) (g : good a ns) : Asks C (.ref a) H E good := by
  refine ⟨h.hand, fun b ms e q => ?_, fun e => ?_⟩
  · cases e
    have e2 := map_int_inj (HO.lst.inj (Option.some.inj (h.1.symm.trans q.1)))
    rw [← e2]
    exact g
  · rw [h.isF] at e
    cases e
theorem Asks.bad {C : Addr} {x : V} {H : Hp} {E : XK} {good : Addr → List Int → Prop} (h : Hand H x) (f : isF H x = false) (e : ∀ H', Same H H' → E (.ref C) none H') : Asks C x H E good := by
  refine ⟨h, fun a ns ea q => ?_, fun _ => e⟩
  subst ea
  rw [q.isF] at f
  cases f
/-! ### what lays weigh -/
def wt : List Int → Int
  | [] => 0
  | a :: r => a + 3 * wt r
theorem wt_append : ∀ (a b : List Int), wt (a ++ b) = wt a + 3 ^ a.length * wt b
  | [], b => by show wt b = 0 + 3 ^ 0 * wt b; simp
  | x :: a, b => by
    show x + 3 * wt (a ++ b) = x + 3 * wt a + 3 ^ (a.length + 1) * wt b
    rw [wt_append a b, Int.mul_add, Int.pow_succ, Int.mul_comm (3 ^ a.length) 3, Int.mul_assoc, Int.add_assoc]
theorem wt_back {ns : List Int} {i : Nat} {z : Int} (hi : i < ns.length) (h : ns[ns.length - 1 - i]? = some z) : wt (ns.drop (ns.length - (i + 1))) = 3 * wt (ns.drop (ns.length - i)) + z := by
  have h1 : ns.length - 1 - i < ns.length := by omega
  have e1 : ns.length - (i + 1) = ns.length - 1 - i := by omega
  have e2 : ns.length - i = ns.length - 1 - i + 1 := by omega
  rw [e1, List.drop_eq_getElem_cons h1, e2]
  rw [List.getElem?_eq_getElem h1] at h
  have h2 := Option.some.inj h
  rw [h2]
  show z + 3 * _ = _
  exact Int.add_comm ..
theorem wt_one (z : Int) : wt [z] = z := by show z + 3 * 0 = z; omega
theorem wt_turn {ns : List Int} {i : Nat} {z : Int} (h : ns[i]? = some z) : wt (ns.take (i + 1)) = wt (ns.take i) + z * 3 ^ i := by
  have hi : i < ns.length := (List.getElem?_eq_some_iff.mp h).1
  rw [take_more h, wt_append, List.length_take, Nat.min_eq_left (Nat.le_of_lt hi), wt_one, Int.mul_comm]
theorem lays_nil : Lays [] := fun _ h => nomatch h
theorem lays_more {ns : List Int} {z : Int} (h : Lays ns) (h1 : -1 ≤ z) (h2 : z ≤ 1) : Lays (ns ++ [z]) := fun x hx => by
  rcases List.mem_append.mp hx with q | q
  · exact h x q
  · rw [List.mem_singleton.mp q]; exact ⟨h1, h2⟩
theorem lays_sub {ns ms : List Int} (h : Lays ns) (s : ∀ x ∈ ms, x ∈ ns) : Lays ms := fun x hx => h x (s x hx)
theorem pop_int {ns : List Int} {z : Int} : (ns.map V.int ++ [V.int z]).dropLast = ns.map V.int := by rw [List.dropLast_concat]
/-! ### what is no form -/
/-- data that == compares -/
def ItmD (K : PySem.W.Frag) (H : Hp) (y : V) : Prop := ∃ d : PyData, Dp K H y d ∧ d.canLay0 = true ∧ d.depth ≤ 8
theorem seqT_same {K : PySem.W.Frag} {H H' : Hp} {a : Addr} {xs : List V} (e : Same H H') (h : SqT K H a xs) : SqT K H' a xs := by
  rcases h with (h | ⟨o, h⟩) | h
  · exact .inl (.inl (e _ _ h))
  · exact .inl (.inr ⟨o, e _ _ h⟩)
  · exact .inr h
mutual
theorem dp_same {K : PySem.W.Frag} {H H' : Hp} (s : Same H H') : ∀ {v : V} {d : PyData}, Dp K H v d → Dp K H' v d
  | _, _, .non => .non
  | _, _, .bl b => .bl b
  | _, _, .int i => .int i
  | _, _, .str x => .str x
  | _, _, .lst e h => .lst (s.seq e) (dpAll_same s h)
  | _, _, .tup e h => .tup (seqT_same s e) (dpAll_same s h)
theorem dpAll_same {K : PySem.W.Frag} {H H' : Hp} (s : Same H H') : ∀ {vs : List V} {ds : List PyData}, DpAll K H vs ds → DpAll K H' vs ds
  | _, _, .nil => .nil
  | _, _, .cons a b => .cons (dp_same s a) (dpAll_same s b)
end
theorem ItmD.same {K : PySem.W.Frag} {H H' : Hp} {y : V} (h : ItmD K H y) (s : Same H H') : ItmD K H' y :=
  let ⟨d, a, b, c⟩ := h
  ⟨d, dp_same s a, b, c⟩
theorem itm_int {K : PySem.W.Frag} {H : Hp} (i : Int) : ItmD K H (.int i) := ⟨_, .int i, rfl, Nat.zero_le _⟩
theorem itms {K : PySem.W.Frag} {H : Hp} : ∀ {xs : List V}, (∀ y ∈ xs, ItmD K H y) → ∃ ds, DpAll K H xs ds ∧ PyData.canLayAll0 ds = true ∧ PyData.depthAll ds ≤ 8
  | [], _ => ⟨[], .nil, rfl, Nat.zero_le _⟩
  | x :: xs, h => by
    obtain ⟨d, h1, h2, h3⟩ := h x List.mem_cons_self
    obtain ⟨ds, g1, g2, g3⟩ := itms (xs := xs) fun y hy => h y (List.mem_cons_of_mem _ hy)
    refine ⟨d :: ds, .cons h1 g1, by rw [PyData.canLayAll0, h2, g2]; rfl, ?_⟩
    rw [PyData.depthAll]
    exact Nat.max_le.mpr ⟨h3, g3⟩
theorem itm_list {K : PySem.W.Frag} {H : Hp} {a : Addr} {xs : List V} (e : SqL K H a xs) (h : ∀ y ∈ xs, ItmD K H y) : ∃ ds, Dp K H (.ref a) (.list ds) ∧ DpAll K H xs ds ∧ SeqAt.shaped (.list ds) = true := by
  obtain ⟨ds, g1, g2, g3⟩ := itms h
  refine ⟨ds, .lst e g1, g1, ?_⟩
  unfold SeqAt.shaped
  rw [Bool.and_eq_true, decide_eq_true_iff, PyData.canLay0, PyData.depth]
  exact ⟨g2, by omega⟩
theorem itm_list1 {K : PySem.W.Frag} {H : Hp} {a : Addr} {i : Int} (e : H a = some (.lst [.int i])) : ItmD K H (.ref a) :=
  ⟨.list [.int i], .lst (SqL.of e) (.cons (.int i) .nil), by rw [PyData.canLay0, PyData.canLayAll0, PyData.canLay0, PyData.canLayAll0]; rfl, by rw [PyData.depth, PyData.depthAll, PyData.depth, PyData.depthAll]; decide⟩
theorem itm_tup1 {K : PySem.W.Frag} {H : Hp} {a : Addr} {i : Int} (e : H a = some (.tup [.int i])) : ItmD K H (.ref a) :=
  ⟨.tuple [.int i], .tup (SqT.of e) (.cons (.int i) .nil), by rw [PyData.canLay0, PyData.canLayAll0, PyData.canLay0, PyData.canLayAll0]; rfl, by rw [PyData.depth, PyData.depthAll, PyData.depth, PyData.depthAll]; decide⟩
/-- one of a written list's items, at a remainder -/
theorem at_mod {α : Type} {xs : List α} {z n : Int} (h : (xs.length : Int) = n) (hn : 0 < n) : ∃ x, atI xs (z % n) = some x ∧ x ∈ xs := by
  have h1 := Int.emod_nonneg z (show n ≠ 0 by omega)
  have h2 := Int.emod_lt_of_pos z hn
  have h3 : (z % n).toNat < xs.length := by omega
  have e : ((z % n).toNat : Int) = z % n := Int.toNat_of_nonneg h1
  refine ⟨xs[(z % n).toNat], ?_, List.getElem_mem h3⟩
  have := atI_nat (List.getElem?_eq_getElem h3)
  rw [e] at this
  exact this
/-- a thing that is no form, and can be compared where it is a list -/
def Bad (K : PySem.W.Frag) (H : Hp) (x : V) : Prop := Hand H x ∧ isF H x = false ∧ ∀ a xs, x = .ref a → H a = some (.lst xs) → ∀ y ∈ xs, ItmD K H y
theorem Bad.flat {K : PySem.W.Frag} {H : Hp} {x : V} (h : WOk H x) (n : ∀ a xs, x = .ref a → H a = some (.lst xs) → False) : Bad K H x := by
  refine ⟨⟨h, fun a xs e q => (n a xs e q).elim⟩, ?_, fun a xs e q => (n a xs e q).elim⟩
  refine isF_not ?_
  cases q : isL H x with
  | false => rfl
  | true =>
    obtain ⟨a, xs, e1, e2⟩ := isL_ref q
    exact (n a xs e1 e2).elim
theorem Bad.list {K : PySem.W.Frag} {H : Hp} {a : Addr} {xs : List V} (e : H a = some (.lst xs)) (f : formV xs = false) (hw : ∀ y ∈ xs, WOk H y) (hd : ∀ y ∈ xs, ItmD K H y) : Bad K H (.ref a) := by
  have u : ∀ b zs, V.ref a = V.ref b → H b = some (.lst zs) → zs = xs := fun b zs q1 q2 => by
    cases q1
    exact (HO.lst.inj (Option.some.inj (e.symm.trans q2))).symm
  exact ⟨⟨.inl ⟨xs, e⟩, fun b zs q1 q2 y hy => hw y (by rw [← u b zs q1 q2]; exact hy)⟩, (isF_list e).trans f, fun b zs q1 q2 y hy => hd y (by rw [← u b zs q1 q2]; exact hy)⟩
theorem Bad.tup {K : PySem.W.Frag} {H : Hp} {a : Addr} {xs : List V} (e : H a = some (.tup xs)) : Bad K H (.ref a) :=
  .flat (.inr (.inl ⟨xs, e⟩)) fun b zs q1 q2 => by
    cases q1
    rw [e] at q2
    cases q2
theorem Bad.dict {K : PySem.W.Frag} {H : Hp} {a : Addr} {xs : List (Key × V)} (e : H a = some (.dK xs)) : Bad K H (.ref a) :=
  .flat (.inr (.inr ⟨xs, e⟩)) fun b zs q1 q2 => by
    cases q1
    rw [e] at q2
    cases q2
theorem formV_mid {as bs : List V} {x : V} (h : okLay x = false) : formV (as ++ [x] ++ bs) = false :=
  formV_bad (i := as.length) (y := x) (by rw [List.append_assoc, List.getElem?_append_right (Nat.le_refl _), Nat.sub_self]; rfl) h
theorem Bad.ins {K : PySem.W.Frag} {H : Hp} {a : Addr} {ns ms : List Int} {x : V} (e : H a = some (.lst (ns.map V.int ++ [x] ++ ms.map V.int))) (ok : okLay x = false) (hw : WOk H x) (hd : ItmD K H x) : Bad K H (.ref a) := by
  refine .list e (formV_mid ok) (fun y hy => ?_) (fun y hy => ?_)
  · rcases List.mem_append.mp hy with hy | hy
    · rcases List.mem_append.mp hy with hy | hy
      · obtain ⟨z, _, rfl⟩ := List.mem_map.mp hy
        trivial
      · rw [List.mem_singleton.mp hy]; exact hw
    · obtain ⟨z, _, rfl⟩ := List.mem_map.mp hy
      trivial
  · rcases List.mem_append.mp hy with hy | hy
    · rcases List.mem_append.mp hy with hy | hy
      · obtain ⟨z, _, rfl⟩ := List.mem_map.mp hy
        exact itm_int z
      · rw [List.mem_singleton.mp hy]; exact hd
    · obtain ⟨z, _, rfl⟩ := List.mem_map.mp hy
      exact itm_int z
theorem Bad.zero {K : PySem.W.Frag} {H : Hp} {a : Addr} {ns : List Int} (e : H a = some (.lst (ns.map V.int ++ [.int 0]))) : Bad K H (.ref a) := by
  have e2 : ns.map V.int ++ [V.int 0] = (ns ++ [0]).map V.int := by rw [List.map_append]; rfl
  rw [e2] at e
  have f : formV ((ns ++ [0]).map V.int) = false := by
    rw [Bool.eq_false_iff]
    intro q
    have := (formV_ints.mp q).2
    rw [List.getLast?_concat] at this
    exact this rfl
  refine .list e f (fun y hy => ?_) (fun y hy => ?_)
  · obtain ⟨z, _, rfl⟩ := List.mem_map.mp hy
    trivial
  · obtain ⟨z, _, rfl⟩ := List.mem_map.mp hy
    exact itm_int z
/-- lays[:at] + [x] + lays[at:], from where [x] is made -/
theorem ins_end {K : PySem.W.Frag} {H H1 : Hp} {Q : VK} {a s1 : Addr} {ns : List Int} {at' : Int} {x : V} {σ : L2.St} {i j : Nat} (hi : σ[i]? = some (some (.ref a))) (hj : σ[j]? = some (some (.int at'))) (ea : H a = some (.lst (ns.map V.int))) (hlen : ns.length ≤ 100000)
    (n1 : H s1 = none) (sm : Same (upd H s1 (.lst (cutV (ns.map V.int) none (some at')))) H1) (ok : okLay x = false) (hw : WOk H1 x) (hd : ∀ H', Same H1 H' → ItmD K H' x) (q : ∀ H' v, Same H H' → Bad K H' v → Q v H') {s2 : Addr} (n2 : H1 s2 = none) :
    rCat (.ref s1) (.ref s2) (upd H1 s2 (.lst [x])) fun y H4 => tSl (rSlL K) (tVar i) (tPart (tVar j)) tNoPart σ H4 fun z H5 => rCat y z H5 Q := by
  have m1 : Same H H1 := (same_upd n1).trans sm
  have m2 := same_upd (o := .lst [x]) n2
  have l1 := cutI_len ns none (some at')
  have l2 := cutI_len ns (some at') none
  rw [cut_ints] at sm
  have e1 := m2 _ _ (sm _ _ upd_same)
  refine ⟨s1, s2, _, _, rfl, rfl, e1, upd_same, small' (by rw [List.length_map, List.length_singleton]; omega), fun s3 n3 => ?_⟩
  have m3 := same_upd (o := .lst ((cutI ns none (some at')).map V.int ++ [x])) n3
  refine ⟨_, hi, _, hj, _, rfl, a, _, rfl, SqL.of (m3 _ _ (m2 _ _ (m1 _ _ ea))), fun s4 n4 => ?_⟩
  have m4 := same_upd (o := .lst (cutV (ns.map V.int) (some at') none)) n4
  refine ⟨s3, s4, _, _, rfl, rfl, m4 _ _ upd_same, upd_same, small' (by rw [cut_ints, List.length_append, List.length_map, List.length_map, List.length_singleton]; omega), fun s5 n5 => ?_⟩
  have m5 := same_upd (o := .lst ((cutI ns none (some at')).map V.int ++ [x] ++ cutV (ns.map V.int) (some at') none)) n5
  have mm := m2.trans (m3.trans (m4.trans m5))
  refine q _ _ (m1.trans mm) (.ins (ns := cutI ns none (some at')) (ms := cutI ns (some at') none) ?_ ok (hw.same mm) (hd _ mm))
  rw [← cut_ints ns (some at') none]
  exact upd_same
/-! ### lists of ints compared -/
theorem data_ints {K : PySem.W.Frag} {H : Hp} {b c : Addr} {ns : List Int} (e1 : H b = some (.lst (ns.map V.int))) (e2 : H c = some (.lst (ns.map V.int))) : ∃ d, Dp K H (.ref b) d ∧ Dp K H (.ref c) d ∧ SeqAt.shaped d = true ∧ PyData.eqv d d = true := by
  obtain ⟨ds, d1, d2, d3⟩ := itm_list (K := K) (SqL.of e1) (fun y hy => by obtain ⟨x, _, rfl⟩ := List.mem_map.mp hy; exact itm_int x)
  exact ⟨_, d1, .lst (SqL.of e2) d2, d3, SeqAt.eqv_refl _ (SeqAt.canLay_of_shaped d3)⟩
/-- list(x), by the fragment's own letter (for a comprehension's own frame) -/
def rListOf (K : PySem.W.Frag) (xs : List V) (H : Hp) (Q : VK) : Prop := ∃ (p : Addr) (ys : List V), xs = [.ref p] ∧ (SqL K H p ys ∨ SqT K H p ys) ∧ ∀ l : Addr, H l = none → Q (.ref l) (upd H l (.lst ys))
/-! ### a def with defaults -/
def CalD (P : Program) (w : World) (K : PySem.W.Frag) (mg : Str → Option Value) (base : Heap) (CX : CXT) (k : Nat) (x : Str) (ps : List Str) (sp : Sp) (dvs : List V) : Prop :=
  ∃ (f : Addr) (fd : FuncData), FnOk P w K mg base CX k f fd ps sp ∧ mg x = some (.ref f) ∧ PySem.W.keepIn K (.ref f) = true ∧ L2.Binds K fd ps [] ∧ ∃ ds, Vals dvs ds ∧ L2.Binds K fd ps ds
def SrcD (K : PySem.W.Frag) (mg : Str → Option Value) (x : Str) (st : Stmt) (ps : List Str) (dvs : List V) : Prop :=
  ∃ (f : Addr) (fd : FuncData), FunD K x x (defArgs st) (defBody st) (defScope st) dvs [] f fd ∧ mg x = some (.ref f) ∧ L2.Binds K fd ps [] ∧ ∃ ds, Vals dvs ds ∧ L2.Binds K fd ps ds
theorem SrcD.cal {P : Program} {w : World} {K : PySem.W.Frag} {mg : Str → Option Value} {base : Heap} {CX : CXT} {k : Nat} {x : Str} {st : Stmt} {ps : List Str} {sp : Sp} {dvs : List V} (S : SrcD K mg x st ps dvs)
    (h : ∀ (f : Addr) (fd : FuncData), FunD K x x (defArgs st) (defBody st) (defScope st) dvs [] f fd → FnOk P w K mg base CX k f fd ps sp) : CalD P w K mg base CX k x ps sp dvs := by
  obtain ⟨f, fd, F, g, b, d⟩ := S
  exact ⟨f, fd, h f fd F, g, F.kp, b, d⟩
/-- two parameters, the second with a default -/
theorem SrcD.mk1 {K : PySem.W.Frag} {mg : Str → Option Value} {x p1 p2 : Str} {st : Stmt} {v : V} {f : Addr} {fd : FuncData} (F : FunD K x x (defArgs st) (defBody st) (defScope st) [v] [] f fd) (g : mg x = some (.ref f))
    (h1 : ∀ (T : Addr) (kV doc pm : Value) (an : Option Addr) (cdv ct : Value) (us its : List Value), us.length = 1 → its.length = 1 →
      ∃ k, bindArgs (PySem.W.fnOf x x (defArgs st) (defBody st) (defScope st) (.ref T) kV doc pm an cdv ct) ⟨us, []⟩ = seqItems? (.ref T) >>= k ∧ k (some its.toArray) = pure ([p1, p2].zip (us ++ its.drop 0)))
    (h2 : ∀ (T : Addr) (kV doc pm : Value) (an : Option Addr) (cdv ct : Value) (us its : List Value), us.length = 2 → its.length = 1 →
      ∃ k, bindArgs (PySem.W.fnOf x x (defArgs st) (defBody st) (defScope st) (.ref T) kV doc pm an cdv ct) ⟨us, []⟩ = seqItems? (.ref T) >>= k ∧ k (some its.toArray) = pure ([p1, p2].zip (us ++ its.drop 1))) : SrcD K mg x st [p1, p2] [v] := by
  refine ⟨f, fd, F, g, ?_, ?_⟩
  · obtain ⟨ds, v1, b⟩ := F.binds1 (ps := [p1, p2]) 2 1 (by simp) rfl h2
    cases v1
    exact b
  · exact F.binds1 (ps := [p1, p2]) 1 0 (by simp) rfl h1
theorem vals_one {i : Int} {tk : Tok} : Vals [V.int i] [Value.int i tk] := .cons ⟨_, rfl⟩ .nil
/-! ### one form for each number -/
theorem form_tail {x : Int} {r : List Int} (h : Form (x :: r)) : Form r := by
  refine ⟨fun y hy => h.1 y (List.mem_cons_of_mem _ hy), fun e => h.2 ?_⟩
  cases r with
  | nil => cases e
  | cons y s => rw [List.getLast?_cons_cons]; exact e
theorem form_zero : ∀ {b : List Int}, Form b → wt b = 0 → b = []
  | [], _, _ => rfl
  | y :: s, h, e => by
    have hy := h.1 y List.mem_cons_self
    have e2 : y + 3 * wt s = 0 := e
    have hs := form_zero (form_tail h) (by omega)
    subst hs
    have y0 : y = 0 := by
      have e3 : y + 3 * 0 = 0 := e
      omega
    subst y0
    exact (h.2 rfl).elim
theorem form_eq : ∀ {a b : List Int}, Form a → Form b → wt a = wt b → a = b
  | [], b, _, hb, e => (form_zero hb e.symm).symm
  | x :: r, [], ha, _, e => form_zero ha e
  | x :: r, y :: s, ha, hb, e => by
    have hx := ha.1 x List.mem_cons_self
    have hy := hb.1 y List.mem_cons_self
    have e2 : x + 3 * wt r = y + 3 * wt s := e
    have e3 : x = y := by omega
    subst e3
    rw [form_eq (form_tail ha) (form_tail hb) (by omega)]
theorem wt_nat : ∀ {ls : List Int}, Lays ls → (wt ls).natAbs < 2 ^ (2 * ls.length)
  | [], _ => by show (0 : Int).natAbs < 2 ^ 0; decide
  | x :: r, h => by
    have ih := wt_nat (ls := r) fun y hy => h y (List.mem_cons_of_mem _ hy)
    have hx := h x List.mem_cons_self
    show (x + 3 * wt r).natAbs < 2 ^ (2 * (r.length + 1))
    rw [show 2 * (r.length + 1) = 2 * r.length + 1 + 1 by omega, Nat.pow_succ, Nat.pow_succ]
    omega
theorem wt_lt {ls : List Int} {n : Nat} (h : Lays ls) (hl : ls.length ≤ n) : (wt ls).natAbs < 2 ^ (2 * n) :=
  Nat.lt_of_lt_of_le (wt_nat h) (Nat.pow_le_pow_right (by decide) (by omega))
theorem form_of_turn {ls : List Int} {n N : Int} (e : wt ls + 3 ^ ls.length * n = N) : wt (ls ++ [(n + 1) % 3 - 1]) + 3 ^ (ls ++ [(n + 1) % 3 - 1]).length * ((n + 1) / 3) = N := by
  rw [wt_append, wt_one, List.length_append, List.length_singleton, Int.pow_succ, ← e, Int.add_assoc, Int.mul_assoc, ← Int.mul_add]
  have e2 : (n + 1) % 3 - 1 + 3 * ((n + 1) / 3) = n := by omega
  rw [e2]
theorem half_pow {n : Int} {k : Nat} (hn : n ≠ 0) (h : n.natAbs < 2 ^ k) : ∃ j, k = j + 1 ∧ ((n + 1) / 3).natAbs < 2 ^ j := by
  cases k with
  | zero => rw [Nat.pow_zero] at h; omega
  | succ j =>
    rw [Nat.pow_succ] at h
    exact ⟨j, rfl, by omega⟩
/-! ### lays by place -/
def lz (ns : List Int) (i : Nat) : Int := ns.getD i 0
theorem lz_lt {ns : List Int} {i : Nat} (h : i < ns.length) : ns[i]? = some (lz ns i) := by
  unfold lz
  rw [List.getD_eq_getElem?_getD, List.getElem?_eq_getElem h]
  rfl
theorem lz_ge {ns : List Int} {i : Nat} (h : ns.length ≤ i) : lz ns i = 0 := by
  unfold lz
  rw [List.getD_eq_getElem?_getD, List.getElem?_eq_none h]
  rfl
theorem lz_get {ns : List Int} {i : Nat} {z : Int} (h : ns[i]? = some z) : lz ns i = z := by
  unfold lz
  rw [List.getD_eq_getElem?_getD, h]
  rfl
theorem lz_lay {ns : List Int} (h : Lays ns) (i : Nat) : -1 ≤ lz ns i ∧ lz ns i ≤ 1 := by
  by_cases hi : i < ns.length
  · exact h _ (List.mem_of_getElem? (lz_lt hi))
  · rw [lz_ge (by omega)]; omega
theorem lz_cons (x : Int) (r : List Int) (i : Nat) : lz (x :: r) (i + 1) = lz r i := rfl
theorem lz_tail (ns : List Int) (i : Nat) : lz ns.tail i = lz ns (i + 1) := by
  cases ns with
  | nil => rfl
  | cons x r => rfl
theorem wt_hd (ns : List Int) : wt ns = lz ns 0 + 3 * wt ns.tail := by
  cases ns with
  | nil => rfl
  | cons x r => rfl
theorem lays_tail {ns : List Int} (h : Lays ns) : Lays ns.tail := lays_sub h fun x hx => List.mem_of_mem_tail hx
theorem wt_congr_n : ∀ (n : Nat) {a b : List Int}, a.length ≤ n → b.length ≤ n → (∀ i, lz a i = lz b i) → wt a = wt b
  | 0, a, b, ha, hb, _ => by
    rw [List.length_eq_zero_iff.mp (Nat.le_zero.mp ha), List.length_eq_zero_iff.mp (Nat.le_zero.mp hb)]
  | n + 1, a, b, ha, hb, h => by
    rw [wt_hd a, wt_hd b, h 0, wt_congr_n n (a := a.tail) (b := b.tail) (by rw [List.length_tail]; omega) (by rw [List.length_tail]; omega) fun i => by rw [lz_tail, lz_tail]; exact h (i + 1)]
theorem wt_congr {a b : List Int} (h : ∀ i, lz a i = lz b i) : wt a = wt b := wt_congr_n (max a.length b.length) (Nat.le_max_left ..) (Nat.le_max_right ..) h
theorem lz_take (ns : List Int) (m i : Nat) : lz (ns.take m) i = if i < m then lz ns i else 0 := by
  unfold lz
  rw [List.getD_eq_getElem?_getD, List.getD_eq_getElem?_getD, List.getElem?_take]
  split <;> rfl
theorem lz_drop (ns : List Int) (m i : Nat) : lz (ns.drop m) i = lz ns (m + i) := by
  unfold lz
  rw [List.getD_eq_getElem?_getD, List.getD_eq_getElem?_getD, List.getElem?_drop]
theorem lz_append (a b : List Int) (i : Nat) : lz (a ++ b) i = if i < a.length then lz a i else lz b (i - a.length) := by
  unfold lz
  rw [List.getD_eq_getElem?_getD, List.getD_eq_getElem?_getD, List.getD_eq_getElem?_getD]
  split
  · rename_i h
    rw [List.getElem?_append_left h]
  · rename_i h
    rw [List.getElem?_append_right (by omega)]
theorem lz_zeros (n i : Nat) : lz (List.replicate n 0) i = 0 := by
  unfold lz
  rw [List.getD_eq_getElem?_getD, List.getElem?_replicate]
  split <;> rfl
theorem lz_pad (a : List Int) (n i : Nat) : lz (a ++ List.replicate n 0) i = lz a i := by
  rw [lz_append]
  split
  · rfl
  · rename_i h
    rw [lz_zeros, lz_ge (by omega)]
theorem lays_append {a b : List Int} (ha : Lays a) (hb : Lays b) : Lays (a ++ b) := fun x hx => (List.mem_append.mp hx).elim (ha x) (hb x)
theorem lays_zeros (n : Nat) : Lays (List.replicate n 0) := fun x hx => by
  rw [(List.mem_replicate.mp hx).2]; omega
theorem cutI_to (ns : List Int) (m : Nat) : cutI ns none (some (m : Int)) = ns.take m := by
  unfold cutI
  rw [HT.sIx_none, HT.sIx_nat, List.drop_zero, Nat.sub_zero]
  by_cases h : m ≤ ns.length
  · rw [Nat.min_eq_left h]
  · rw [Nat.min_eq_right (by omega), List.take_length, List.take_of_length_le (by omega)]
theorem cutI_from (ns : List Int) (m : Nat) : cutI ns (some (m : Int)) none = ns.drop m := by
  unfold cutI
  rw [HT.sIx_none, HT.sIx_nat]
  by_cases h : m ≤ ns.length
  · rw [Nat.min_eq_left h, List.take_of_length_le (by rw [List.length_drop]; omega)]
  · rw [Nat.min_eq_right (by omega), List.drop_length, List.drop_of_length_le (by omega), List.take_nil]
/-! ### the noughts behind the last lay left out -/
def TrimOf (ns ms : List Int) : Prop := (∀ i, lz ms i = lz ns i) ∧ ms.length ≤ ns.length ∧ (∀ x ∈ ms, x ∈ ns) ∧ ms.getLast? ≠ some 0
theorem TrimOf.form {ns ms : List Int} (t : TrimOf ns ms) (h : Lays ns) : Form ms := ⟨lays_sub h t.2.2.1, t.2.2.2⟩
theorem TrimOf.wt {ns ms : List Int} (t : TrimOf ns ms) : wt ms = wt ns := wt_congr t.1
theorem trim_take {ns : List Int} {m : Nat} (hm : m ≤ ns.length) (h0 : ∀ i, m ≤ i → lz ns i = 0) (hl : m = 0 ∨ lz ns (m - 1) ≠ 0) : TrimOf ns (ns.take m) := by
  refine ⟨fun i => ?_, ?_, fun x hx => List.mem_of_mem_take hx, ?_⟩
  · rw [lz_take]
    split
    · rfl
    · rename_i h
      exact (h0 i (by omega)).symm
  · rw [List.length_take]; omega
  · intro e
    rcases hl with rfl | hl
    · rw [List.take_zero] at e
      cases e
    · have h1 : 0 < m := by
        cases m with
        | zero => rw [List.take_zero] at e; cases e
        | succ k => omega
      rw [List.getLast?_eq_getElem?, List.length_take, Nat.min_eq_left hm, List.getElem?_take, if_pos (by omega)] at e
      exact hl (lz_get e)
/-! ### where two forms part -/
def Parts (a b : List Int) : Option Nat → Prop
  | none => ∀ i, lz a i = lz b i
  | some p => lz a p ≠ lz b p ∧ ∀ i, p < i → lz a i = lz b i
def oV : Option Nat → V
  | none => .non
  | some p => .int (p : Int)
theorem Parts.uniq {a b : List Int} : ∀ {o o' : Option Nat}, Parts a b o → Parts a b o' → o = o'
  | none, none, _, _ => rfl
  | none, some p, h, h' => (h'.1 (h p)).elim
  | some p, none, h, h' => (h.1 (h' p)).elim
  | some p, some q, h, h' => by
    rcases Nat.lt_trichotomy p q with l | e | l
    · exact (h'.1 (h.2 q l)).elim
    · rw [e]
    · exact (h.1 (h'.2 p l)).elim
theorem Parts.symm {a b : List Int} : ∀ {o : Option Nat}, Parts a b o → Parts b a o
  | none, h => fun i => (h i).symm
  | some _, h => ⟨fun e => h.1 e.symm, fun i hi => (h.2 i hi).symm⟩
theorem parts_lt : ∀ (p : Nat) {a b : List Int}, Lays a → Lays b → (∀ i, p < i → lz a i = lz b i) → lz a p < lz b p → wt a < wt b
  | 0, a, b, _, _, h, l => by
    rw [wt_hd a, wt_hd b, wt_congr (a := a.tail) (b := b.tail) fun i => by rw [lz_tail, lz_tail]; exact h (i + 1) (by omega)]
    omega
  | p + 1, a, b, ha, hb, h, l => by
    have ih := parts_lt p (lays_tail ha) (lays_tail hb) (fun i hi => by rw [lz_tail, lz_tail]; exact h (i + 1) (by omega)) (by rw [lz_tail, lz_tail]; exact l)
    have h1 := lz_lay ha 0
    have h2 := lz_lay hb 0
    rw [wt_hd a, wt_hd b]
    omega
theorem parts_wt {a b : List Int} (ha : Lays a) (hb : Lays b) : ∀ {o : Option Nat}, Parts a b o → decide (wt b < wt a) = match o with | none => false | some p => decide (lz b p < lz a p)
  | none, h => by
    rw [wt_congr h]
    exact decide_eq_false (by omega)
  | some p, h => by
    show decide (wt b < wt a) = decide (lz b p < lz a p)
    by_cases l : lz b p < lz a p
    · rw [decide_eq_true l, decide_eq_true (parts_lt p hb ha (fun i hi => (h.2 i hi).symm) l)]
    · have l2 : lz a p < lz b p := by
        have := h.1
        omega
      have := parts_lt p ha hb h.2 l2
      rw [decide_eq_false l, decide_eq_false (by omega)]
/-! ### turned about -/
def neg (ns : List Int) : List Int := ns.map fun x => -x
theorem lz_neg (ns : List Int) (i : Nat) : lz (neg ns) i = -lz ns i := by
  unfold lz neg
  rw [List.getD_eq_getElem?_getD, List.getD_eq_getElem?_getD, List.getElem?_map]
  cases ns[i]? <;> rfl
theorem lays_neg {ns : List Int} (h : Lays ns) : Lays (neg ns) := fun x hx => by
  obtain ⟨y, hy, rfl⟩ := List.mem_map.mp hx
  have := h y hy
  omega
theorem form_neg {ns : List Int} (h : Form ns) : Form (neg ns) := by
  refine ⟨lays_neg h.1, ?_⟩
  unfold neg
  rw [List.getLast?_map]
  intro e
  cases q : ns.getLast? with
  | none => rw [q] at e; cases e
  | some z =>
    rw [q] at e
    have e2 : -z = 0 := Option.some.inj e
    exact h.2 (by rw [q, show z = 0 by omega])
theorem wt_neg : ∀ ns : List Int, wt (neg ns) = -wt ns
  | [] => rfl
  | x :: r => by
    show -x + 3 * wt (neg r) = -(x + 3 * wt r)
    rw [wt_neg r]
    omega
theorem Parts.neg {a b : List Int} : ∀ {o : Option Nat}, Parts a b o → Parts (neg a) (neg b) o
  | none, h => fun i => by rw [lz_neg, lz_neg, h i]
  | some p, h => ⟨fun e => h.1 (by rw [lz_neg, lz_neg] at e; omega), fun i hi => by rw [lz_neg, lz_neg, h.2 i hi]⟩
/-! ### sums by carries -/
theorem wt_take_lz (ns : List Int) (i : Nat) : wt (ns.take (i + 1)) = wt (ns.take i) + lz ns i * 3 ^ i := by
  by_cases h : i < ns.length
  · exact wt_turn (lz_lt h)
  · rw [lz_ge (by omega), List.take_of_length_le (by omega), List.take_of_length_le (by omega), Int.zero_mul, Int.add_zero]
def SumOf (a b ls os : List Int) : Prop := wt ls = wt a + wt b ∧ os.length = max a.length b.length ∧ ls.length ≤ os.length + 1 ∧ Lays os ∧ (∀ j, j < os.length → lz a j + lz b j + lz (0 :: os) j = lz ls j + 3 * lz os j) ∧ lz ls os.length = lz (0 :: os) os.length
/-- so far, at i places -/
structure SumTo (a b : List Int) (i : Nat) (ls os : List Int) (c : Int) : Prop where
  l1 : ls.length = i
  l2 : os.length = i
  y1 : Lays ls
  y2 : Lays os
  c1 : -1 ≤ c
  c2 : c ≤ 1
  w : wt ls + c * 3 ^ i = wt (a.take i) + wt (b.take i)
  p : ∀ j, j < i → lz a j + lz b j + lz (0 :: os) j = lz ls j + 3 * lz os j
  e : lz (0 :: os) i = c
theorem SumTo.zero {a b : List Int} : SumTo a b 0 [] [] 0 := ⟨rfl, rfl, lays_nil, lays_nil, by decide, by decide, rfl, fun j h => absurd h (Nat.not_lt_zero j), rfl⟩
theorem lz_last {ls : List Int} {i : Nat} (h : ls.length = i) (z : Int) : lz (ls ++ [z]) i = z := by
  rw [lz_append, if_neg (by omega), h, Nat.sub_self]; rfl
theorem lz_init {ls : List Int} {i j : Nat} (h : ls.length = i) (hj : j < i) (z : Int) : lz (ls ++ [z]) j = lz ls j := by
  rw [lz_append, if_pos (by omega)]
theorem SumTo.turn {a b : List Int} {i : Nat} {ls os : List Int} {c : Int} (h : SumTo a b i ls os c) (ha : Lays a) (hb : Lays b) :
    SumTo a b (i + 1) (ls ++ [(lz a i + lz b i + c + 1) % 3 - 1]) (os ++ [(lz a i + lz b i + c + 1) / 3]) ((lz a i + lz b i + c + 1) / 3) := by
  have ra := lz_lay ha i
  have rb := lz_lay hb i
  have c1 := h.c1
  have c2 := h.c2
  generalize hz : (lz a i + lz b i + c + 1) % 3 - 1 = z
  generalize hc : (lz a i + lz b i + c + 1) / 3 = c'
  have ez : z + 3 * c' = lz a i + lz b i + c := by omega
  have z1 : -1 ≤ z ∧ z ≤ 1 := by omega
  have d1 : -1 ≤ c' ∧ c' ≤ 1 := by omega
  have l3 : ((0 : Int) :: os).length = i + 1 := by rw [List.length_cons, h.l2]
  refine ⟨by rw [List.length_append, h.l1]; rfl, by rw [List.length_append, h.l2]; rfl, lays_more h.y1 z1.1 z1.2, lays_more h.y2 d1.1 d1.2, d1.1, d1.2, ?_, fun j hj => ?_, ?_⟩
  · have hw := h.w
    rw [wt_append, wt_one, h.l1, wt_take_lz, wt_take_lz, Int.pow_succ]
    generalize (3 : Int) ^ i = T at hw
    have e2 : z * T + 3 * c' * T = lz a i * T + lz b i * T + c * T := by rw [← Int.add_mul, ← Int.add_mul, ← Int.add_mul, ez]
    have e3 : c' * (T * 3) = 3 * c' * T := by rw [Int.mul_comm T 3, ← Int.mul_assoc, Int.mul_comm c' 3]
    rw [Int.mul_comm T z, e3]
    omega
  · by_cases e : j = i
    · subst e
      rw [lz_last h.l1, lz_last h.l2]
      have e4 : lz (0 :: (os ++ [c'])) j = lz (0 :: os) j := lz_init (ls := 0 :: os) (i := j + 1) l3 (by omega) c'
      rw [e4, h.e]
      omega
    · rw [lz_init h.l1 (by omega), lz_init h.l2 (by omega)]
      have e4 : lz (0 :: (os ++ [c'])) j = lz (0 :: os) j := lz_init (ls := 0 :: os) (i := i + 1) l3 (by omega) c'
      rw [e4]
      exact h.p j (by omega)
  · show lz (os ++ [c']) i = c'
    exact lz_last h.l2 c'
theorem SumTo.done {a b : List Int} {n : Nat} {ls os ms : List Int} {c : Int} (h : SumTo a b n ls os c) (hn : n = max a.length b.length) (t : TrimOf (ls ++ [c]) ms) : Form ms ∧ SumOf a b ms os := by
  refine ⟨t.form (lays_more h.y1 h.c1 h.c2), ?_, by rw [h.l2, hn], ?_, h.y2, fun j hj => ?_, ?_⟩
  · have hw := h.w
    rw [List.take_of_length_le (by omega), List.take_of_length_le (by omega)] at hw
    rw [t.wt, wt_append, wt_one, h.l1, Int.mul_comm, hw]
  · have := t.2.1
    rw [List.length_append, h.l1] at this
    rw [h.l2]
    exact this
  · rw [h.l2] at hj
    rw [t.1, lz_init h.l1 hj]
    exact h.p j hj
  · rw [h.l2, t.1, lz_last h.l1, h.e]
/-! ### halves -/
def nz (ns : List Int) : List Int := ns.filter fun x => !decide (x = 0)
def odd (ns : List Int) : Int := ((nz ns).length : Int) % 2
theorem odd_two (ns : List Int) : odd ns = 0 ∨ odd ns = 1 := by
  unfold odd
  omega
theorem nz_more {ns : List Int} {i : Nat} {z : Int} (h : ns[i]? = some z) : nz (ns.take (i + 1)) = if z = 0 then nz (ns.take i) else nz (ns.take i) ++ [z] := by
  rw [take_more h]
  unfold nz
  rw [List.filter_append]
  by_cases hz : z = 0
  · rw [if_pos hz, List.filter_cons_of_neg (by rw [decide_eq_true hz]; decide), List.filter_nil, List.append_nil]
  · rw [if_neg hz, List.filter_cons_of_pos (by rw [decide_eq_false hz]; rfl), List.filter_nil]
theorem nz_len (ns : List Int) : (nz ns).length ≤ ns.length := List.length_filter_le ..
theorem wt_odd : ∀ {ns : List Int}, Lays ns → wt ns % 2 = odd ns
  | [], _ => rfl
  | x :: r, h => by
    have hx := h x List.mem_cons_self
    have ih := wt_odd (ns := r) fun y hy => h y (List.mem_cons_of_mem _ hy)
    unfold odd at ih ⊢
    show (x + 3 * wt r) % 2 = _
    unfold nz at ih ⊢
    by_cases hz : x = 0
    · rw [List.filter_cons_of_neg (by rw [decide_eq_true hz]; decide)]
      omega
    · rw [List.filter_cons_of_pos (by rw [decide_eq_false hz]; rfl), List.length_cons]
      have hz2 : x = 1 ∨ x = -1 := by omega
      rcases hz2 with e | e <;> rw [e] <;> omega
/-- halved so far, at i places: b what came last, c what is carried -/
structure HalfTo (ev : List Int) (i : Nat) (ls : List Int) (b c : Int) : Prop where
  l1 : ls.length = i
  y1 : Lays ls
  b1 : -1 ≤ b ∧ b ≤ 1
  c1 : -1 ≤ c ∧ c ≤ 1
  bc : -3 ≤ b + 3 * c ∧ b + 3 * c ≤ 3
  w : 2 * wt ls = wt (ev.take i) + (b + c) * 3 ^ i
theorem HalfTo.zero {ev : List Int} : HalfTo ev 0 [] 0 0 := ⟨rfl, lays_nil, by decide, by decide, by decide, rfl⟩
theorem HalfTo.turn {ev : List Int} {i : Nat} {ls : List Int} {b c e : Int} (h : HalfTo ev i ls b c) (he : ev[i]? = some e) (hl : -1 ≤ e ∧ e ≤ 1) :
    HalfTo ev (i + 1) (ls ++ [(b - e + c + 1) % 3 - 1]) ((b - e + c + 1) % 3 - 1) ((b - e + c + 1) / 3) := by
  have b1 := h.b1
  have c1 := h.c1
  generalize hz : (b - e + c + 1) % 3 - 1 = z
  generalize hc : (b - e + c + 1) / 3 = c'
  have ez : z + 3 * c' = b - e + c := by omega
  have z1 : -1 ≤ z ∧ z ≤ 1 := by omega
  have d1 : -1 ≤ c' ∧ c' ≤ 1 := by omega
  refine ⟨by rw [List.length_append, h.l1]; rfl, lays_more h.y1 z1.1 z1.2, z1, d1, by omega, ?_⟩
  have hw := h.w
  rw [wt_append, wt_one, h.l1, wt_turn he, Int.pow_succ]
  generalize (3 : Int) ^ i = T at hw
  have e2 : (z + c') * (T * 3) = 3 * z * T + 3 * c' * T := by rw [Int.add_mul, Int.mul_comm T 3, ← Int.mul_assoc, ← Int.mul_assoc, Int.mul_comm z 3, Int.mul_comm c' 3]
  have e3 : z * T + 3 * c' * T = b * T - e * T + c * T := by rw [← Int.add_mul, ← Int.sub_mul, ← Int.add_mul, ez]
  have e4 : 3 * z * T = 3 * (z * T) := Int.mul_assoc ..
  have e5 : (b + c) * T = b * T + c * T := Int.add_mul ..
  rw [e5] at hw
  rw [e2, e4, Int.mul_comm T z]
  omega
theorem pow3_odd : ∀ n : Nat, (3 : Int) ^ n % 2 = 1
  | 0 => rfl
  | n + 1 => by
    have := pow3_odd n
    rw [Int.pow_succ]
    omega
theorem HalfTo.done {ev ls : List Int} {b c : Int} (h : HalfTo ev ev.length ls b c) (he : wt ev % 2 = 0) : 2 * wt ls = wt ev := by
  have hw := h.w
  rw [List.take_length] at hw
  have b1 := h.b1
  have c1 := h.c1
  have bc := h.bc
  have h3 := pow3_odd ev.length
  generalize (3 : Int) ^ ev.length = T at hw h3
  have k : b + c = 0 ∨ b + c = 1 ∨ b + c = -1 := by omega
  rcases k with k | k | k <;> rw [k] at hw
  · rw [Int.zero_mul] at hw; omega
  · rw [Int.one_mul] at hw; omega
  · rw [Int.neg_mul, Int.one_mul] at hw; omega
/-! ### parted at a place -/
theorem form_drop {ns : List Int} (h : Form ns) (k : Nat) : Form (ns.drop k) := by
  refine ⟨lays_sub h.1 fun x hx => List.mem_of_mem_drop hx, fun e => h.2 ?_⟩
  by_cases hk : k < ns.length
  · rw [List.getLast?_drop, if_neg (by omega)] at e
    exact e
  · rw [List.drop_of_length_le (by omega)] at e
    cases e
theorem wt_parts (ns : List Int) (k : Nat) : wt (ns.drop k) * 3 ^ k + wt (ns.take k) = wt ns := by
  by_cases hk : k ≤ ns.length
  · have e := wt_append (ns.take k) (ns.drop k)
    rw [List.take_append_drop, List.length_take, Nat.min_eq_left hk] at e
    rw [e, Int.mul_comm, Int.add_comm]
  · rw [List.drop_of_length_le (by omega), List.take_of_length_le (by omega)]
    show 0 * 3 ^ k + wt ns = wt ns
    rw [Int.zero_mul, Int.zero_add]
theorem wt_small : ∀ {ls : List Int} {k : Nat}, Lays ls → ls.length ≤ k → -(3 ^ k) < 2 * wt ls ∧ 2 * wt ls < 3 ^ k
  | [], k, _, _ => by
    have := Int.pow_pos (n := 3) (m := k) (by decide)
    show -(3 ^ k) < 2 * (0 : Int) ∧ 2 * (0 : Int) < 3 ^ k
    omega
  | x :: r, 0, _, h => by simp at h
  | x :: r, k + 1, h, hl => by
    have hx := h x List.mem_cons_self
    have ih := wt_small (ls := r) (k := k) (fun y hy => h y (List.mem_cons_of_mem _ hy)) (by rw [List.length_cons] at hl; omega)
    show -(3 ^ (k + 1)) < 2 * (x + 3 * wt r) ∧ 2 * (x + 3 * wt r) < 3 ^ (k + 1)
    rw [Int.pow_succ]
    omega
/-- a number of places -/
def isPl : V → Bool
  | .int i => decide (0 ≤ i)
  | _ => false
def topS (i : Nat) : Stmt := PySem.Challenge.pw_poisescale_k08_halved_and_parted.main.body.getD i (.Pass ⟨0, 0, 0, 0⟩)
/-- built-in names that the text leaves as they are -/
structure Bi (mg : Str → Option Value) : Prop where
  ValueError : mg "ValueError" = none
  abs : mg "abs" = none
  bool : mg "bool" = none
  divmod : mg "divmod" = none
  int : mg "int" = none
  isinstance : mg "isinstance" = none
  len : mg "len" = none
  list : mg "list" = none
  max : mg "max" = none
  range : mg "range" = none
  reversed : mg "reversed" = none
  tuple : mg "tuple" = none
/-! ### is_whole, is_form, checked -/
section
variable {P : Program} {w : World} {K : PySem.W.Frag} {mg : Str → Option Value} {base : Heap}
abbrev s_is_whole : Stmt := topS 7
abbrev N_is_whole : List Str := ["thing"]
theorem sc_is_whole : FnScope N_is_whole ["thing"] (defScope s_is_whole) := ⟨rfl, rfl, rfl, by decide +kernel, rfl, by decide +kernel, by decide +kernel⟩
def sp_is_whole : Sp := fun vs H Q _ => ∃ x : V, vs = [x] ∧ WOk H x ∧ Q (.bl (isW x)) H
theorem ok_is_whole (S : Src K mg "is_whole" s_is_whole ["thing"]) (B : Bi mg) : Cal P w K mg base CX0 1 "is_whole" ["thing"] sp_is_whole := by
  refine S.cal fun f fd F => F.ok sc_is_whole (fun vs H Q E h => ?_) (fun cdv A outer s H vs Q E hr h => ?_)
  · obtain ⟨x, rfl, _⟩ := h
    rfl
  · obtain ⟨x, rfl, hx, q⟩ := h
    refine ⟨_, (pss_one (ps_ret (pe_and (pe_callB call_isi (by rfl) B.isinstance (by decide +kernel) (pa_cons (pv 0) (pa_cons (pe_bltn (v := .ty "int") (by rfl) B.int (by decide +kernel) rfl) pa_nil))) (pe_one (pe_not (pe_callB call_isi (by rfl) B.isinstance (by decide +kernel) (pa_cons (pv 0) (pa_cons (pe_bltn (v := .ty "bool") (by rfl) B.bool (by decide +kernel) rfl) pa_nil)))))))), ?_⟩
    refine ⟨_, rfl, _, _, _, _, _, rfl, .ty _, hx.ty, kit_ty (kit_int hx), _, rfl, ?_⟩
    cases x with
    | int i => exact iteT ⟨_, rfl, _, _, _, _, _, rfl, .ty _, hx.ty, kit_ty (kit_bool hx), _, rfl, q⟩
    | bl b => exact iteT ⟨_, rfl, _, _, _, _, _, rfl, .ty _, hx.ty, kit_ty (kit_bool hx), _, rfl, q⟩
    | _ => exact iteF q
abbrev s_is_form : Stmt := topS 8
abbrev N_is_form : List Str := ["thing", "lay"]
theorem sc_is_form : FnScope N_is_form ["thing"] (defScope s_is_form) := ⟨rfl, rfl, rfl, by decide +kernel, rfl, by decide +kernel, by decide +kernel⟩
def sp_is_form : Sp := fun vs H Q _ => ∃ x : V, vs = [x] ∧ Hand H x ∧ Q (.bl (isF H x)) H
theorem ok_is_form (S : Src K mg "is_form" s_is_form ["thing"]) (B : Bi mg) (C1 : Cal P w K mg base CX0 1 "is_whole" ["thing"] sp_is_whole) : Cal P w K mg base CX0 2 "is_form" ["thing"] sp_is_form := by
  obtain ⟨_, _, G_is_whole, g_is_whole, k_is_whole, b_is_whole⟩ := C1
  refine S.cal fun f fd F => F.ok sc_is_form (fun vs H Q E h => ?_) (fun cdv A outer s H vs Q E hr h => ?_)
  · obtain ⟨x, rfl, _⟩ := h
    rfl
  · obtain ⟨x, rfl, hx, q⟩ := h
    refine ⟨_, (pss_cons (ps_if (pt_not (pt_val (pe_callB call_isi (by rfl) B.isinstance (by decide +kernel) (pa_cons (pv 0) (pa_cons (pe_bltn (v := .ty "list") (by rfl) B.list (by decide +kernel) rfl) pa_nil))))) (pss_one (ps_ret pe_bl)) pss_nil)
      (pss_cons (ps_for PassesOwn.never rfl (pi_list (pv 0)) (pg_name (i := 1) sc_is_form.nd rfl (.inl rfl))
        (pss_one (ps_if (PW.pt (pw_or (pt_not (pt_val (pe_call G_is_whole (hr.mono (by decide)) rfl g_is_whole k_is_whole b_is_whole .nil pass0 (pa_cons (pv 1) pa_nil)))) (pw_or (pt_cmpR op_lt (pv 1) (pe_un un_neg pe_int) (nomark _)) (pw_or1 (pt_cmpR op_gt (pv 1) pe_int (nomark _)))))) (pss_one (ps_ret pe_bl)) pss_nil)))
      (pss_one (ps_ret (pe_or (pe_cmpR op_eq (pe_callB call_len_seq (by rfl) B.len PySem.boot_len (pa_cons (pv 0) pa_nil)) pe_int (nomark _)) (pe_one (pe_cmpR op_ne (pe_ix ix_list (pv 0) (pe_un un_neg pe_int) (fun _ _ => rfl)) pe_int (nomark _)))))))), ?_⟩
    refine ⟨_, rfl, _, _, _, _, _, rfl, .ty _, hx.1.ty, kit_ty (kit_list hx.1), _, rfl, ?_⟩
    cases e : isL H x with
    | false =>
      rw [isF_not e] at q
      exact iteT q
    | true =>
      refine iteF ?_
      obtain ⟨a, xs, rfl, ea⟩ := isL_ref e
      have hys := hx.2 a xs rfl ea
      refine ⟨_, rfl, a, rfl, ⟨_, SqL.of ea⟩, for_list (K := K) (a := a) (xs := xs) (fun i σ H' => ∃ v : Option V, σ = [some (.ref a), v] ∧ H' = H ∧ (xs.take i).all okLay = true)
        ⟨none, rfl, rfl, rfl⟩ (fun i σ H' _ ⟨_, _, e, _⟩ => by rw [e]; exact SqL.of ea) ?_ ?_⟩
      · rintro i y σ H' hi ⟨v, rfl, rfl, ok⟩
        have hy := hys y (List.mem_of_getElem? hi)
        refine ⟨_, rfl, y, rfl, hy, _, rfl, ?_⟩
        have bad : okLay y = false → Q (.bl false) H' := fun hb => by
          have q2 := q
          rw [isF_list ea, formV_bad hi hb] at q2
          exact q2
        cases y with
        | int z =>
          refine iteF ?_
          refine ⟨_, rfl, _, rfl, _, _, rfl, rfl, _, rfl, ?_⟩
          by_cases h1 : z < -1
          · rw [decide_eq_true h1]
            exact iteT (iteT (bad (decide_eq_false (by omega))))
          · rw [decide_eq_false h1]
            refine iteF ⟨_, rfl, _, _, rfl, rfl, _, rfl, ?_⟩
            by_cases h2 : 1 < z
            · rw [decide_eq_true h2]
              exact iteT (bad (decide_eq_false (by omega)))
            · rw [decide_eq_false h2]
              exact iteF ⟨_, rfl, rfl, all_more hi ok (decide_eq_true (by omega))⟩
        | _ => exact iteT (iteT (bad rfl))
      · rintro σ H' ⟨v, rfl, rfl, ok⟩
        rw [List.take_length] at ok
        rw [isF_list ea] at q
        refine ⟨_, rfl, a, _, rfl, .inl (SqL.of ea), rfl, _, rfl, ?_⟩
        rcases last_cases xs with rfl | ⟨ys, l, rfl⟩
        · exact iteT q
        · rw [decide_eq_false (by rw [List.length_append]; intro e; have e2 := V.int.inj e; simp at e2; omega)]
          have okl := List.all_eq_true.mp ok l (by simp)
          obtain ⟨z, rfl, _, _⟩ := int_of_okLay okl
          refine iteF ⟨_, rfl, _, rfl, a, _, _, _, rfl, rfl, SqL.of ea, atI_last ys _, rfl, ?_⟩
          rw [formV_last ok] at q
          exact q
/-! ### checked: NF is NoForm's class -/
abbrev s_checked : Stmt := topS 9
abbrev N_checked : List Str := ["thing"]
theorem sc_checked : FnScope N_checked ["thing"] (defScope s_checked) := ⟨rfl, rfl, rfl, by decide +kernel, rfl, by decide +kernel, by decide +kernel⟩
def sp_checked (C : Addr) : Sp := fun vs H Q E => ∃ x : V, vs = [x] ∧ Hand H x ∧ (isF H x = true → Q x H) ∧ (isF H x = false → E (.ref C) none H)
theorem ok_checked {cF cS : Addr} (S : Src K mg "checked" s_checked ["thing"]) (C1 : Cal P w K mg base CX0 2 "is_form" ["thing"] sp_is_form) (ZF : ErrC K mg "NoForm" cF cS) : Cal P w K mg base (L2.CX P w) 3 "checked" ["thing"] (sp_checked cF) := by
  obtain ⟨_, _, G_is_form, g_is_form, k_is_form, b_is_form⟩ := C1
  refine S.cal fun f fd F => F.okX sc_checked (fun vs H Q E h => ?_) (fun cdv A outer s H vs Q E hr h => ?_)
  · obtain ⟨x, rfl, _⟩ := h
    rfl
  · obtain ⟨x, rfl, hx, q1, q2⟩ := h
    refine ⟨_, (pss_cons (ps_if (pt_not (pt_val (pe_call G_is_form (hr.mono (by decide)) rfl g_is_form k_is_form b_is_form .nil pass0 (pa_cons (pv 0) pa_nil)))) (pss_one (ps_raise rfl (takes_of rfl rfl rfl rfl) (pmk_own PySem.F.excBase_ValueError ZF.x ZF.g ZF.k (raises_own ZF.b ZF.t) (by exact rfl)))) pss_nil)
      (pss_one (ps_ret (pv 0)))), ?_⟩
    refine ⟨_, rfl, x, rfl, hx, _, rfl, ?_⟩
    cases e : isF H x with
    | true => exact iteF ⟨_, rfl, q1 e⟩
    | false => exact iteT (q2 e)
end
/-! ### trimmed -/
section
variable {P : Program} {w : World} {K : PySem.W.Frag} {mg : Str → Option Value} {base : Heap}
abbrev s_trimmed : Stmt := topS 10
abbrev N_trimmed : List Str := ["lays", "many"]
theorem sc_trimmed : FnScope N_trimmed ["lays"] (defScope s_trimmed) := ⟨rfl, rfl, rfl, by decide +kernel, rfl, by decide +kernel, by decide +kernel⟩
def sp_trimmed : Sp := fun vs H Q _ => ∃ (a : Addr) (ns : List Int), vs = [.ref a] ∧ H a = some (.lst (ns.map V.int)) ∧ ∀ H' p ms, Same H H' → H p = none → H' p = some (.lst (ms.map V.int)) → TrimOf ns ms → Q (.ref p) H'
theorem ok_trimmed (S : Src K mg "trimmed" s_trimmed ["lays"]) (B : Bi mg) : Cal P w K mg base CX0 1 "trimmed" ["lays"] sp_trimmed := by
  refine S.cal fun f fd F => F.ok sc_trimmed (fun vs H Q E h => ?_) (fun cdv A outer s H vs Q E hr h => ?_)
  · obtain ⟨a, ns, rfl, _⟩ := h
    rfl
  · obtain ⟨a, ns, rfl, ea, q⟩ := h
    refine ⟨_, (pss_cons (ps_set (i := 1) sc_trimmed.nd rfl (.inl rfl) (pe_callB call_len_seq (by rfl) B.len PySem.boot_len (pa_cons (pv 0) pa_nil)))
      (pss_cons (ps_while PassesOwn.never (PW.pt (pw_and (pt_cmpR op_gt (pv 1) pe_int (nomark _)) (pw_and1 (pt_cmpR op_eq (pe_ix ix_list (pv 0) (pe_op op_sub (pv 1) pe_int) (fun _ _ => rfl)) pe_int (nomark _))))) (pss_one (ps_aug (i := 1) sc_trimmed.nd rfl (.inl rfl) pe_int ip_sub)))
      (pss_one (ps_ret (pe_slice sl_list (pv 0) po_none (po_some (pv 1))))))), ?_⟩
    refine ⟨_, rfl, a, _, rfl, .inl (SqL.of ea), ?_⟩
    refine ⟨fun m σ H' => ∃ (z : Int) (k : Nat), σ = [some (.ref a), some (.int z)] ∧ z = (k : Int) ∧ H' = H ∧ k ≤ ns.length ∧ (∀ i, k ≤ i → lz ns i = 0) ∧ k = m,
      ⟨_, _, ns.length, rfl, by rw [List.length_map], rfl, Nat.le_refl _, fun i hi => lz_ge hi, rfl⟩, ?_⟩
    rintro m σ H' ⟨z, k, rfl, ez, rfl, hk, h0, rfl⟩
    have fin : (k = 0 ∨ lz ns (k - 1) ≠ 0) → ∀ p, H' p = none → Q (.ref p) (upd H' p (.lst (cutV (ns.map V.int) none (some z)))) := fun hl p np => by
      refine q _ p (ns.take k) (same_upd np) np ?_ (trim_take hk h0 hl)
      rw [upd_same, cut_ints, ez, cutI_to]
    refine ⟨_, rfl, _, _, rfl, rfl, _, rfl, ?_⟩
    cases k with
    | zero =>
      rw [decide_eq_false (by omega)]
      exact iteF (iteF ⟨_, rfl, _, rfl, _, rfl, a, _, rfl, SqL.of ea, fin (.inl rfl)⟩)
    | succ j =>
      rw [decide_eq_true (by omega)]
      refine iteT ⟨_, rfl, _, rfl, _, _, rfl, rfl, a, _, _, _, rfl, rfl, SqL.of ea, at_of (j := j) (by omega) (ints_at (lz_lt (by omega))), rfl, _, rfl, ?_⟩
      by_cases hz : lz ns j = 0
      · rw [hz, decide_eq_true rfl]
        refine iteT ⟨_, fun _ _ h => h, _, rfl, _, _, rfl, rfl, j, by omega, _, j, rfl, (by show z - 1 = (j : Int); omega), rfl, by omega, fun i hi => ?_, rfl⟩
        by_cases hij : i = j
        · rw [hij]; exact hz
        · exact h0 i (by omega)
      · rw [decide_eq_false (fun e => hz (V.int.inj e))]
        exact iteF ⟨_, rfl, _, rfl, _, rfl, a, _, rfl, SqL.of ea, fin (.inr hz)⟩
end
/-! ### lay_at, turned, parting, heavier -/
section
variable {P : Program} {w : World} {K : PySem.W.Frag} {mg : Str → Option Value} {base : Heap}
abbrev s_lay_at : Stmt := topS 12
abbrev N_lay_at : List Str := ["form", "place"]
theorem sc_lay_at : FnScope N_lay_at ["form", "place"] (defScope s_lay_at) := ⟨rfl, rfl, rfl, by decide +kernel, rfl, by decide +kernel, by decide +kernel⟩
def sp_lay_at : Sp := fun vs H Q _ => ∃ (a : Addr) (ns : List Int) (k : Nat), vs = [.ref a, .int (k : Int)] ∧ H a = some (.lst (ns.map V.int)) ∧ Q (.int (lz ns k)) H
theorem ok_lay_at (S : Src K mg "lay_at" s_lay_at ["form", "place"]) (B : Bi mg) : Cal P w K mg base CX0 1 "lay_at" ["form", "place"] sp_lay_at := by
  refine S.cal fun f fd F => F.ok sc_lay_at (fun vs H Q E h => ?_) (fun cdv A outer s H vs Q E hr h => ?_)
  · obtain ⟨a, ns, k, rfl, _⟩ := h
    rfl
  · obtain ⟨a, ns, k, rfl, ea, q⟩ := h
    refine ⟨_, (pss_cons (ps_if (pt_cmpR op_lt (pv 1) (pe_callB call_len_seq (by rfl) B.len PySem.boot_len (pa_cons (pv 0) pa_nil)) (nomark _)) (pss_one (ps_ret (pe_ix ix_list (pv 0) (pv 1) (fun _ _ => rfl)))) pss_nil)
      (pss_one (ps_ret pe_int))), ?_⟩
    refine ⟨_, rfl, _, rfl, a, _, rfl, .inl (SqL.of ea), _, _, rfl, rfl, _, rfl, ?_⟩
    by_cases hk : k < ns.length
    · rw [decide_eq_true (by rw [List.length_map]; omega)]
      exact iteT ⟨_, rfl, _, rfl, a, _, _, _, rfl, rfl, SqL.of ea, atI_nat (ints_at (lz_lt hk)), q⟩
    · rw [decide_eq_false (by rw [List.length_map]; omega)]
      rw [lz_ge (by omega)] at q
      exact iteF q
end
/-! ### walked, added, carries -/
section
variable {P : Program} {w : World} {K : PySem.W.Frag} {mg : Str → Option Value} {base : Heap}
abbrev s_walked : Stmt := topS 14
abbrev N_walked : List Str := ["one", "other", "lays", "out", "carry", "place", "come", "over"]
theorem sc_walked : FnScope N_walked ["one", "other"] (defScope s_walked) := ⟨rfl, rfl, rfl, by decide +kernel, rfl, by decide +kernel, by decide +kernel⟩
def sp_walked : Sp := fun vs H Q _ => ∃ (a b : Addr) (ns ms : List Int), vs = [.ref a, .ref b] ∧ H a = some (.lst (ns.map V.int)) ∧ H b = some (.lst (ms.map V.int)) ∧ Lays ns ∧ Lays ms ∧ ns.length ≤ 1000000 ∧ ms.length ≤ 1000000 ∧
  ∀ H' t p q ls os, Same H H' → H t = none → H p = none → H q = none → p ≠ q → H' t = some (.tup [.ref p, .ref q]) → FormAt H' p ls → H' q = some (.lst (os.map V.int)) → SumOf ns ms ls os → Q (.ref t) H'
theorem ok_walked (S : Src K mg "walked" s_walked ["one", "other"]) (B : Bi mg) (C1 : Cal P w K mg base CX0 1 "lay_at" ["form", "place"] sp_lay_at) (C2 : Cal P w K mg base CX0 1 "trimmed" ["lays"] sp_trimmed) : Cal P w K mg base CX0 2 "walked" ["one", "other"] sp_walked := by
  obtain ⟨_, _, G_lay_at, g_lay_at, k_lay_at, b_lay_at⟩ := C1
  obtain ⟨_, _, G_trimmed, g_trimmed, k_trimmed, b_trimmed⟩ := C2
  refine S.cal fun f fd F => F.ok sc_walked (fun vs H Q E h => ?_) (fun cdv A outer s H vs Q E hr h => ?_)
  · obtain ⟨a, b, ns, ms, rfl, _⟩ := h
    rfl
  · obtain ⟨a, b, ns, ms, rfl, ea, eb, ha, hb, l1, l2, q⟩ := h
    have e1 : (ns.map V.int).length = ns.length := List.length_map ..
    have e2 : (ms.map V.int).length = ms.length := List.length_map ..
    refine ⟨_, (pss_cons (ps_set (i := 2) sc_walked.nd rfl (.inl rfl) (pe_lst pa_nil))
      (pss_cons (ps_set (i := 3) sc_walked.nd rfl (.inl rfl) (pe_lst pa_nil))
      (pss_cons (ps_set (i := 4) sc_walked.nd rfl (.inl rfl) pe_int)
      (pss_cons (ps_for PassesOwn.never rfl (pi_range1 (by rfl) B.range (pa_cons (pe_callB (call_max2 rfl) (by rfl) B.max (by decide +kernel) (pa_cons (pe_callB call_len_seq (by rfl) B.len PySem.boot_len (pa_cons (pv 0) pa_nil)) (pa_cons (pe_callB call_len_seq (by rfl) B.len PySem.boot_len (pa_cons (pv 1) pa_nil)) pa_nil))) pa_nil)) (pg_name (i := 5) sc_walked.nd rfl (.inl rfl))
        (pss_cons (ps_set (i := 6) sc_walked.nd rfl (.inl rfl) (pe_op op_add (pe_op op_add (pe_call G_lay_at (hr.mono (by decide)) rfl g_lay_at k_lay_at b_lay_at .nil pass0 (pa_cons (pv 0) (pa_cons (pv 5) pa_nil))) (pe_call G_lay_at (hr.mono (by decide)) rfl g_lay_at k_lay_at b_lay_at .nil pass0 (pa_cons (pv 1) (pa_cons (pv 5) pa_nil)))) (pv 4)))
        (pss_cons (ps_asg (pe_callB call_divmod (by rfl) B.divmod (by decide +kernel) (pa_cons (pe_op op_add (pv 6) pe_int) (pa_cons pe_int pa_nil))) (pg_tup rfl (pgs_cons (pg_name (i := 4) sc_walked.nd rfl (.inl rfl)) (pgs_cons (pg_name (i := 7) sc_walked.nd rfl (.inl rfl)) pgs_nil))))
        (pss_cons (ps_expr (pe_bm PySem.F.plainAttrs_list PySem.F.slot_list_append PySem.F.type_list_append mt_append (pv 2) (pa_cons (pe_op op_sub (pv 7) pe_int) pa_nil)))
        (pss_one (ps_expr (pe_bm PySem.F.plainAttrs_list PySem.F.slot_list_append PySem.F.type_list_append mt_append (pv 3) (pa_cons (pv 4) pa_nil))))))))
      (pss_cons (ps_expr (pe_bm PySem.F.plainAttrs_list PySem.F.slot_list_append PySem.F.type_list_append mt_append (pv 2) (pa_cons (pv 4) pa_nil)))
      (pss_one (ps_ret (pe_tup (pa_cons (pe_call G_trimmed (hr.mono (by decide)) rfl g_trimmed k_trimmed b_trimmed .nil pass0 (pa_cons (pv 2) pa_nil)) (pa_cons (pv 3) pa_nil)))))))))), ?_⟩
    refine ⟨Nat.zero_le _, fun p np => ⟨Nat.zero_le _, fun r nr => ?_⟩⟩
    have npr : r ≠ p := fun e => by
      rw [e, upd_same] at nr
      cases nr
    have nr0 : H r = none := (same_upd np).free nr
    have s2 : Same H (upd (upd H p (.lst [])) r (.lst [])) := (same_upd np).trans (same_upd nr)
    refine ⟨_, rfl, a, _, rfl, .inl (SqL.of (s2 _ _ ea)), _, rfl, b, _, rfl, .inl (SqL.of (s2 _ _ eb)), _, _, rfl, ?_⟩
    dsimp only
    rw [e1, e2]
    obtain ⟨n, hn, hm⟩ : ∃ n : Nat, (if ((ms.length : Nat) : Int) > ((ns.length : Nat) : Int) then ((ms.length : Nat) : Int) else ((ns.length : Nat) : Int)) = (n : Int) ∧ n = max ns.length ms.length := by
      split
      · exact ⟨_, rfl, by omega⟩
      · exact ⟨_, rfl, by omega⟩
    rw [hn]
    refine ⟨_, rfl, by omega, by omega, ?_⟩
    rw [Int.toNat_natCast]
    refine for_range (lo := 0) (n := n) (D := ⟨_, _, fun _ _ => False, fun _ _ => False⟩) (fun i σ H' => ∃ (ls os : List Int) (c : Int) (k u v : Option V), σ = [some (.ref a), some (.ref b), some (.ref p), some (.ref r), some (.int c), k, u, v] ∧ Same H H' ∧ H' p = some (.lst (ls.map V.int)) ∧ H' r = some (.lst (os.map V.int)) ∧ SumTo ns ms i ls os c)
      ⟨[], [], 0, none, none, none, rfl, s2, by rw [upd_ne npr.symm, upd_same]; rfl, upd_same, .zero⟩ ?_ ?_
    · rintro i σ H' hi ⟨ls, os, c, k, u, v, rfl, sm, ep, er, st⟩
      have i1 : i ≤ 1000000 := by omega
      refine ⟨_, rfl, _, rfl, a, ns, i, (by rw [Int.zero_add]; rfl), sm _ _ ea, _, rfl, _, rfl, b, ms, i, (by rw [Int.zero_add]; rfl), sm _ _ eb, _, _, rfl, rfl, _, rfl, _, _, rfl, rfl, ?_⟩
      refine ⟨_, rfl, _, _, rfl, rfl, _, _, rfl, ⟨by decide, by decide⟩, fun t nt => ?_⟩
      have k1 := same_upd (o := .tup [V.int ((lz ns i + lz ms i + c + 1) / 3), .int ((lz ns i + lz ms i + c + 1) % 3)]) nt
      refine ⟨t, _, rfl, SqT.of upd_same, rfl, _, _, rfl, _, _, rfl, rfl, ?_⟩
      refine ⟨_, rfl, .inl ⟨rfl, _, SqL.of (k1 _ _ ep)⟩, _, rfl, _, _, rfl, rfl, p, _, _, rfl, rfl, k1 _ _ ep, small (ints_len (by have := st.l1; omega)), ?_⟩
      have er2 : upd (upd H' t (.tup [V.int ((lz ns i + lz ms i + c + 1) / 3), .int ((lz ns i + lz ms i + c + 1) % 3)])) p (.lst (ls.map V.int ++ [V.int ((lz ns i + lz ms i + c + 1) % 3 - 1)])) r = some (.lst (os.map V.int)) := by
        rw [upd_ne npr]; exact k1 _ _ er
      refine ⟨_, rfl, .inl ⟨rfl, _, SqL.of er2⟩, _, rfl, r, _, _, rfl, rfl, er2, small (ints_len (by have := st.l2; omega)), ?_⟩
      refine ⟨_, _, _, _, _, _, rfl, same_put (same_put (sm.trans k1) np) nr0, ?_, ?_, st.turn ha hb⟩
      · rw [upd_ne npr.symm, upd_same, List.map_append]; rfl
      · rw [upd_same, List.map_append]; rfl
    · rintro σ H' ⟨ls, os, c, k, u, v, rfl, sm, ep, er, st⟩
      refine ⟨_, rfl, .inl ⟨rfl, _, SqL.of ep⟩, _, rfl, p, _, _, rfl, rfl, ep, small (ints_len (by have := st.l1; omega)), ?_⟩
      have s3 := same_put (o := .lst (ls.map V.int ++ [V.int c])) sm np
      refine ⟨_, rfl, p, ls ++ [c], rfl, by rw [upd_same, List.map_append]; rfl, fun H9 p9 m9 s9 n9 e9 t9 => ⟨_, rfl, small' (by simp), fun t nt => ?_⟩⟩
      obtain ⟨f9, so⟩ := st.done hm t9
      have s10 := same_upd (o := .tup [V.ref p9, .ref r]) nt
      have er9 : H9 r = some (.lst (os.map V.int)) := s9 _ _ (by rw [upd_ne npr]; exact er)
      have n0 := s3.free n9
      refine q _ t p9 r m9 os (s3.trans (s9.trans s10)) ((s3.trans s9).free nt) n0 nr0 (fun e => ?_) upd_same ⟨s10 _ _ e9, f9⟩ (s10 _ _ er9) so
      rw [e, upd_ne npr, er] at n9
      cases n9
abbrev s_added : Stmt := topS 15
abbrev N_added : List Str := ["one", "other"]
theorem sc_added : FnScope N_added ["one", "other"] (defScope s_added) := ⟨rfl, rfl, rfl, by decide +kernel, rfl, by decide +kernel, by decide +kernel⟩
def sp_added (C : Addr) : Sp := fun vs H Q E => ∃ x y : V, vs = [x, y] ∧ Asks C x H E fun _ ns => Asks C y H E fun _ ms => ns.length ≤ 1000000 ∧ ms.length ≤ 1000000 ∧ ∀ H' p ls os, Same H H' → H p = none → FormAt H' p ls → SumOf ns ms ls os → Q (.ref p) H'
theorem ok_added {cF : Addr} (S : Src K mg "added" s_added ["one", "other"]) (C1 : Cal P w K mg base (L2.CX P w) 3 "checked" ["thing"] (sp_checked cF)) (C2 : Cal P w K mg base CX0 2 "walked" ["one", "other"] sp_walked) : Cal P w K mg base (L2.CX P w) 4 "added" ["one", "other"] (sp_added cF) := by
  obtain ⟨_, _, G_checked, g_checked, k_checked, b_checked⟩ := C1
  obtain ⟨_, _, G_walked, g_walked, k_walked, b_walked⟩ := C2
  refine S.cal fun f fd F => F.okX sc_added (fun vs H Q E h => ?_) (fun cdv A outer s H vs Q E hr h => ?_)
  · obtain ⟨x, y, rfl, _⟩ := h
    rfl
  · obtain ⟨x, y, rfl, hx, q1, q2⟩ := h
    refine ⟨_, (pss_one (ps_ret (pe_ix ix_tup (pe_call G_walked (hr.mono (by decide)) rfl g_walked k_walked b_walked .nil pass0 (pa_cons (pe_call G_checked (hr.mono (by decide)) rfl g_checked k_checked b_checked .nil (passes_call (takes_of rfl rfl rfl rfl) (fun _ _ _ _ h => h)) (pa_cons (pv 0) pa_nil)) (pa_cons (pe_call G_checked (hr.mono (by decide)) rfl g_checked k_checked b_checked .nil (passes_call (takes_of rfl rfl rfl rfl) (fun _ _ _ _ h => h)) (pa_cons (pv 1) pa_nil)) pa_nil))) pe_int (fun _ _ => rfl)))), ?_⟩
    refine ⟨_, rfl, x, rfl, hx, fun ok => ?_, fun e => q2 e H (Same.refl H)⟩
    obtain ⟨a, ns, rfl, fa⟩ := isF_true ok
    obtain ⟨hy, r1, r2⟩ := q1 a ns rfl fa
    refine ⟨_, rfl, y, rfl, hy, fun ok2 => ?_, fun e => r2 e H (Same.refl H)⟩
    obtain ⟨b, ms, rfl, fb⟩ := isF_true ok2
    obtain ⟨ln, lm, q⟩ := r1 b ms rfl fb
    refine ⟨a, b, ns, ms, rfl, fa.1, fb.1, fa.2.1, fb.2.1, ln, lm, fun H' t p r ls os sm nt np nr npr et fp er so => ?_⟩
    exact ⟨t, _, _, _, rfl, rfl, SqT.of et, (rfl : atI [V.ref p, V.ref r] 0 = some (V.ref p)), q H' p ls os sm np fp so⟩
end
/-! ### halved, parted -/
section
variable {P : Program} {w : World} {K : PySem.W.Frag} {mg : Str → Option Value} {base : Heap}
abbrev s_halved : Stmt := topS 17
abbrev N_halved : List Str := ["form", "lay", "rest", "even", "lays", "below", "carry", "over"]
theorem sc_halved : FnScope N_halved ["form"] (defScope s_halved) := ⟨rfl, rfl, rfl, by decide +kernel, rfl, by decide +kernel, by decide +kernel⟩
def sp_halved (C : Addr) : Sp := fun vs H Q E => ∃ x : V, vs = [x] ∧ Asks C x H E fun _ ns => ns.length ≤ 100000 ∧
  ∀ H' t p ls, Same H H' → H t = none → H p = none → H' t = some (.tup [.ref p, .int (odd ns)]) → FormAt H' p ls → 2 * wt ls + odd ns = wt ns → ls.length ≤ ns.length + 2 → Q (.ref t) H'
theorem rep_neg1 {r : Int} (h : r = 0 ∨ r = 1) : ∃ ms : List Int, (List.replicate r.toNat [V.int (-1)]).flatten = ms.map V.int ∧ Form ms ∧ wt ms = -r ∧ ms.length ≤ 1 := by
  rcases h with rfl | rfl
  · exact ⟨[], rfl, ⟨lays_nil, by simp⟩, rfl, by simp⟩
  · refine ⟨[-1], rfl, ⟨fun x hx => ?_, by simp⟩, rfl, by simp⟩
    rw [List.mem_singleton.mp hx]; decide
theorem ok_halved {cF : Addr} (S : Src K mg "halved" s_halved ["form"]) (B : Bi mg) (C1 : Cal P w K mg base (L2.CX P w) 3 "checked" ["thing"] (sp_checked cF)) (C2 : Cal P w K mg base (L2.CX P w) 4 "added" ["one", "other"] (sp_added cF)) (C3 : Cal P w K mg base CX0 1 "trimmed" ["lays"] sp_trimmed) :
    Cal P w K mg base (L2.CX P w) 5 "halved" ["form"] (sp_halved cF) := by
  obtain ⟨_, _, G_checked, g_checked, k_checked, b_checked⟩ := C1
  obtain ⟨_, _, G_added, g_added, k_added, b_added⟩ := C2
  obtain ⟨_, _, G_trimmed, g_trimmed, k_trimmed, b_trimmed⟩ := C3
  refine S.cal fun f fd F => F.okX sc_halved (fun vs H Q E h => ?_) (fun cdv A outer s H vs Q E hr h => ?_)
  · obtain ⟨x, rfl, _⟩ := h
    rfl
  · obtain ⟨x, rfl, hx, q1, q2⟩ := h
    refine ⟨_, (pss_cons (ps_set (i := 2) sc_halved.nd rfl (.inl rfl) (pe_op op_mod (pe_callB call_len_seq (by rfl) B.len PySem.boot_len (pa_cons (pe_lc (own := [("lay", 1)]) (g := gName 1) rfl sc_halved.nd (pi_list (pe_call G_checked (hr.mono (by decide)) rfl g_checked k_checked b_checked .nil (passes_call (takes_of rfl rfl rfl rfl) (fun _ _ _ _ h => h)) (pa_cons (pv 0) pa_nil))) (blkOk_by (own := [("lay", 1)]) (N := N_halved) (sc := defScope s_halved) (by decide +kernel)) (fun _ _ _ _ _ => pg_name (i := 1) sc_halved.nd rfl (Or.inl rfl)) (fun _ _ _ _ _ => pts_one (pt_cmpR op_ne (pv 1) pe_int (nomark _))) (fun _ _ _ _ _ => (pv 1))) pa_nil)) pe_int))
      (pss_cons (ps_set (i := 3) sc_halved.nd rfl (.inl rfl) (pe_call G_added (hr.mono (by decide)) rfl g_added k_added b_added .nil (passes_call (takes_of rfl rfl rfl rfl) (fun _ _ _ _ h => h)) (pa_cons (pv 0) (pa_cons (pe_op op_rep (pe_lst (pa_cons (pe_un un_neg pe_int) pa_nil)) (pv 2)) pa_nil))))
      (pss_cons (ps_set (i := 4) sc_halved.nd rfl (.inl rfl) (pe_lst pa_nil))
      (pss_cons (ps_set (i := 5) sc_halved.nd rfl (.inl rfl) pe_int)
      (pss_cons (ps_set (i := 6) sc_halved.nd rfl (.inl rfl) pe_int)
      (pss_cons (ps_for (passes_of rfl) rfl (pi_list (pv 3)) (pg_name (i := 1) sc_halved.nd rfl (.inl rfl))
        (pss_cons (ps_asg (pe_callB call_divmod (by rfl) B.divmod (by decide +kernel) (pa_cons (pe_op op_add (pe_op op_add (pe_op op_sub (pv 5) (pv 1)) (pv 6)) pe_int) (pa_cons pe_int pa_nil))) (pg_tup rfl (pgs_cons (pg_name (i := 6) sc_halved.nd rfl (.inl rfl)) (pgs_cons (pg_name (i := 7) sc_halved.nd rfl (.inl rfl)) pgs_nil))))
        (pss_cons (ps_set (i := 5) sc_halved.nd rfl (.inl rfl) (pe_op op_sub (pv 7) pe_int))
        (pss_one (ps_expr (pe_bm PySem.F.plainAttrs_list PySem.F.slot_list_append PySem.F.type_list_append mt_append (pv 4) (pa_cons (pv 5) pa_nil)))))))
      (pss_one (ps_ret (pe_tup (pa_cons (pe_call G_trimmed (hr.mono (by decide)) rfl g_trimmed k_trimmed b_trimmed .nil pass0 (pa_cons (pv 4) pa_nil)) (pa_cons (pv 2) pa_nil))))))))))), ?_⟩
    refine ⟨_, rfl, x, rfl, hx, fun ok => ?_, fun e => q2 e H (Same.refl H)⟩
    obtain ⟨a, ns, rfl, fa⟩ := isF_true ok
    obtain ⟨ln, q⟩ := q1 a ns rfl fa
    refine ⟨a, rfl, ⟨_, SqL.of fa.1⟩, fun D nD => ?_⟩
    refine lc_list (K := K) (a := a) (xs := ns.map V.int) (fun i H' => Same H H' ∧ H' D = some (.lst ((nz (ns.take i)).map V.int))) ⟨same_upd nD, upd_same⟩ (fun i H' _ h => SqL.of (h.1 _ _ fa.1)) ?_ ?_
    · rintro i y H1 hi ⟨sm, eD⟩
      obtain ⟨z, hz, rfl⟩ := ints_get hi
      have hi2 : i < ns.length := (List.getElem?_eq_some_iff.mp hz).1
      have hm := nz_more hz
      refine ⟨rfl, ?_⟩
      refine ⟨_, rfl, rfl, _, rfl, ?_⟩
      by_cases h0 : z = 0
      · rw [if_pos h0] at hm
        rw [decide_eq_true (congrArg V.int h0)]
        refine iteF ⟨sm, ?_⟩
        rw [hm]; exact eD
      · rw [if_neg h0] at hm
        rw [decide_eq_false (fun e => h0 (V.int.inj e))]
        refine iteT ⟨_, rfl, _, eD, small (ints_len (by have := nz_len (ns.take i); rw [List.length_take] at this; omega)), same_put sm nD, ?_⟩
        rw [upd_same, hm, List.map_append]; rfl
    rintro H1 ⟨s1, eD⟩
    rw [List.length_map, List.take_length] at eD
    have e0 : ((nz ns).map V.int).length = (nz ns).length := List.length_map ..
    refine ⟨D, _, rfl, .inl (SqL.of eD), _, _, rfl, rfl, (by show (0 : Int) < _; decide), ?_⟩
    dsimp only
    rw [e0]
    have ho : ((nz ns).length : Int) % 2 = odd ns := rfl
    rw [ho]
    obtain ⟨ms, em, fm, wm, lm⟩ := rep_neg1 (odd_two ns)
    -- even
    refine ⟨_, rfl, _, rfl, small' (by simp), fun t nt => ?_⟩
    have st := same_upd (o := .lst [V.int (-1)]) nt
    have rng : 0 ≤ odd ns ∧ odd ns ≤ 1 := by
      have := odd_two ns
      omega
    refine ⟨_, rfl, t, _, _, rfl, rfl, upd_same, (by omega), (by omega), small' (by simp only [List.length_singleton]; omega), fun u nu => ?_⟩
    rw [em]
    have k3 := s1.trans (st.trans (same_upd (o := .lst (ms.map V.int)) nu))
    refine ⟨.ref a, .ref u, rfl, .of (show FormAt _ a ns from ⟨k3 _ _ fa.1, fa.2⟩) (.of (show FormAt _ u ms from ⟨upd_same, fm⟩) ⟨by omega, by omega, fun H4 p4 ev os s4 n4 f4 so => ?_⟩)⟩
    have k4 := k3.trans s4
    have wev : wt ev = wt ns - odd ns := by
      rw [so.1, wm]; omega
    have evn : wt ev % 2 = 0 := by
      have := wt_odd fa.2.1
      rw [wev]
      omega
    have lev : ev.length ≤ ns.length + 2 := by
      have h1 := so.2.1
      have h2 := so.2.2.1
      omega
    refine ⟨Nat.zero_le _, fun p np => ?_⟩
    have k5 := k4.trans (same_upd (o := .lst []) np)
    have np0 : H p = none := k4.free np
    have e5 := (same_upd (o := .lst []) np) _ _ f4.1
    refine ⟨_, rfl, p4, rfl, ⟨_, SqL.of e5⟩, for_list (K := K) (a := p4) (xs := ev.map V.int) (D := ⟨_, _, fun _ _ => False, fun _ _ => False⟩) (fun i σ H' => ∃ (ls : List Int) (b c : Int) (k v : Option V), σ = [some (.ref a), k, some (.int (odd ns)), some (.ref p4), some (.ref p), some (.int b), some (.int c), v] ∧ Same H H' ∧ H' p4 = some (.lst (ev.map V.int)) ∧ H' p = some (.lst (ls.map V.int)) ∧ p ≠ p4 ∧ HalfTo ev i ls b c)
      ⟨[], 0, 0, none, none, rfl, k5, e5, upd_same, fun e => ?_, .zero⟩ (fun i σ H' _ ⟨_, _, _, _, _, _, _, h, _⟩ => SqL.of h) ?_ ?_⟩
    · rw [e, f4.1] at np
      cases np
    · rintro i y σ H' hi ⟨ls, b, c, k, v, rfl, sm, e4, ep, npp, st⟩
      obtain ⟨z, hz, rfl⟩ := ints_get hi
      have hi2 : i < ev.length := (List.getElem?_eq_some_iff.mp hz).1
      have hzl := f4.2.1 z (List.mem_of_getElem? hz)
      have l1 := st.l1
      refine ⟨_, rfl, _, rfl, _, _, rfl, rfl, _, rfl, _, _, rfl, rfl, _, _, rfl, rfl, _, _, rfl, ⟨by decide, by decide⟩, fun t nt => ?_⟩
      have k1 := same_upd (o := .tup [V.int ((b - z + c + 1) / 3), .int ((b - z + c + 1) % 3)]) nt
      refine ⟨t, _, rfl, SqT.of upd_same, rfl, _, _, rfl, _, _, rfl, rfl, ?_⟩
      refine ⟨_, rfl, _, _, rfl, rfl, ?_⟩
      refine ⟨_, rfl, .inl ⟨rfl, _, SqL.of (k1 _ _ ep)⟩, _, rfl, p, _, _, rfl, rfl, k1 _ _ ep, small (ints_len (by omega)), ?_⟩
      refine ⟨_, _, _, _, _, rfl, same_put (sm.trans k1) np0, ?_, ?_, npp, st.turn hz hzl⟩
      · rw [upd_ne npp.symm]; exact k1 _ _ e4
      · rw [upd_same, List.map_append]; rfl
    · rintro σ H' ⟨ls, b, c, k, v, rfl, sm, e4, ep, npp, st⟩
      rw [List.length_map] at st
      have hw := st.done evn
      refine ⟨_, rfl, p, ls, rfl, ep, fun H9 p9 m9 s9 n9 e9 t9 => ⟨_, rfl, small' (by simp), fun t nt => ?_⟩⟩
      have s10 := same_upd (o := .tup [V.ref p9, .int (odd ns)]) nt
      refine q _ t p9 m9 (sm.trans (s9.trans s10)) ((sm.trans s9).free nt) (sm.free n9) upd_same ⟨s10 _ _ e9, t9.form st.y1⟩ ?_ ?_
      · rw [t9.wt]; omega
      · have := t9.2.1
        have := st.l1
        omega
abbrev s_parted : Stmt := topS 18
abbrev N_parted : List Str := ["form", "places"]
theorem sc_parted : FnScope N_parted ["form", "places"] (defScope s_parted) := ⟨rfl, rfl, rfl, by decide +kernel, rfl, by decide +kernel, by decide +kernel⟩
def sp_parted (C D : Addr) : Sp := fun vs H Q E => ∃ x y : V, vs = [x, y] ∧ WOk H y ∧ Asks C x H E fun _ ns => ns.length ≤ 100000 ∧
  (∀ k : Nat, y = .int (k : Int) → ∀ H' t p q ms, Same H H' → H t = none → H p = none → H q = none → p ≠ q → H' t = some (.tup [.ref p, .ref q]) → FormAt H' p (ns.drop k) → FormAt H' q ms → TrimOf (ns.take k) ms → Q (.ref t) H') ∧
  (isPl y = false → ∀ H', Same H H' → E (.ref D) none H')
theorem ok_parted {cF cP cS : Addr} (S : SrcD K mg "parted" s_parted ["form", "places"] [.int 1]) (ZP : ErrC K mg "NoPlace" cP cS) (C1 : Cal P w K mg base (L2.CX P w) 3 "checked" ["thing"] (sp_checked cF)) (C2 : Cal P w K mg base CX0 1 "trimmed" ["lays"] sp_trimmed)
    (C3 : Cal P w K mg base CX0 1 "is_whole" ["thing"] sp_is_whole) : CalD P w K mg base (L2.CX P w) 4 "parted" ["form", "places"] (sp_parted cF cP) [.int 1] := by
  obtain ⟨_, _, G_checked, g_checked, k_checked, b_checked⟩ := C1
  obtain ⟨_, _, G_trimmed, g_trimmed, k_trimmed, b_trimmed⟩ := C2
  obtain ⟨_, _, G_is_whole, g_is_whole, k_is_whole, b_is_whole⟩ := C3
  refine S.cal fun f fd F => F.ok (CX := L2.CX P w) sc_parted (fun vs H Q E h => ?_) (fun cdv A outer s H vs Q E hr h => ?_)
  · obtain ⟨x, y, rfl, _⟩ := h
    rfl
  · obtain ⟨x, y, rfl, hy, hx, q1, q2⟩ := h
    refine ⟨_, (pss_cons (ps_expr (pe_call G_checked (hr.mono (by decide)) rfl g_checked k_checked b_checked .nil (passes_call (takes_of rfl rfl rfl rfl) (fun _ _ _ _ h => h)) (pa_cons (pv 0) pa_nil)))
      (pss_cons (ps_if (PW.pt (pw_or (pt_not (pt_val (pe_call G_is_whole (hr.mono (by decide)) rfl g_is_whole k_is_whole b_is_whole .nil pass0 (pa_cons (pv 1) pa_nil)))) (pw_or1 (pt_cmpR op_lt (pv 1) pe_int (nomark _))))) (pss_one (ps_raise rfl (takes_of rfl rfl rfl rfl) (pmk_own PySem.F.excBase_ValueError ZP.x ZP.g ZP.k (raises_own ZP.b ZP.t) (by exact rfl)))) pss_nil)
      (pss_one (ps_ret (pe_tup (pa_cons (pe_slice sl_list (pv 0) (po_some (pv 1)) po_none) (pa_cons (pe_call G_trimmed (hr.mono (by decide)) rfl g_trimmed k_trimmed b_trimmed .nil pass0 (pa_cons (pe_slice sl_list (pv 0) po_none (po_some (pv 1))) pa_nil)) pa_nil))))))), ?_⟩
    refine ⟨_, rfl, x, rfl, hx, fun ok => ?_, fun e => q2 e H (Same.refl H)⟩
    obtain ⟨a, ns, rfl, fa⟩ := isF_true ok
    obtain ⟨ln, q, r⟩ := q1 a ns rfl fa
    refine ⟨_, rfl, y, rfl, hy, _, rfl, ?_⟩
    cases y with
    | int i =>
      refine iteF ⟨_, rfl, _, _, rfl, rfl, _, rfl, ?_⟩
      by_cases h0 : i < 0
      · rw [decide_eq_true h0]
        exact iteT (r (decide_eq_false (by omega)) H (Same.refl H))
      · rw [decide_eq_false h0]
        obtain ⟨k, rfl⟩ : ∃ k : Nat, i = (k : Int) := ⟨i.toNat, (Int.toNat_of_nonneg (by omega)).symm⟩
        refine iteF ⟨_, rfl, _, rfl, _, rfl, a, _, rfl, SqL.of fa.1, fun p np => ?_⟩
        have e1 : cutV (ns.map V.int) (some (k : Int)) none = (ns.drop k).map V.int := by rw [cut_ints, cutI_from]
        have e2 : cutV (ns.map V.int) none (some (k : Int)) = (ns.take k).map V.int := by rw [cut_ints, cutI_to]
        rw [e1]
        have s1 := same_upd (o := .lst ((ns.drop k).map V.int)) np
        refine ⟨_, rfl, _, rfl, _, rfl, a, _, rfl, SqL.of (s1 _ _ fa.1), fun u nu => ?_⟩
        rw [e2]
        have s2 := same_upd (o := .lst ((ns.take k).map V.int)) nu
        refine ⟨u, ns.take k, rfl, upd_same, fun H9 p9 m9 s9 n9 e9 t9 => ⟨small' (by simp), fun t nt => ?_⟩⟩
        have s10 := same_upd (o := .tup [V.ref p, .ref p9]) nt
        have s29 := s2.trans s9
        have ep := s29 _ _ (upd_same (H := H) (a := p) (o := .lst ((ns.drop k).map V.int)))
        refine q k rfl _ t p p9 m9 (s1.trans (s29.trans s10)) ((s1.trans s29).free nt) np (s1.free (s2.free n9)) (fun e => ?_) upd_same ⟨s10 _ _ ep, form_drop fa.2 k⟩ ⟨s10 _ _ e9, t9.form (lays_sub fa.2.1 fun x hx => List.mem_of_mem_take hx)⟩ t9
        have n9' := s2.free n9
        rw [← e, upd_same] at n9'
        cases n9'
    | _ => exact iteT (iteT (r rfl H (Same.refl H)))
end
/-! ### _law_cell_at: some int of the script's, or 0 -/
section
variable {P : Program} {w : World} {K : PySem.W.Frag} {mg : Str → Option Value} {base : Heap}
abbrev s__law_cell_at : Stmt := topS 20
abbrev N__law_cell_at : List Str := ["_law_script", "_law_k"]
theorem sc__law_cell_at : FnScope N__law_cell_at ["_law_script", "_law_k"] (defScope s__law_cell_at) := ⟨rfl, rfl, rfl, by decide +kernel, rfl, by decide +kernel, by decide +kernel⟩
def sp__law_cell_at (K : PySem.W.Frag) : Sp := fun vs H Q _ => ∃ (a : Addr) (ns : List Int) (k : Nat), vs = [.ref a, .int (k : Int)] ∧ SqL K H a (ns.map V.int) ∧ ∀ z : Int, Q (.int z) H
theorem ok__law_cell_at (S : Src K mg "_law_cell_at" s__law_cell_at ["_law_script", "_law_k"]) (B : Bi mg) : Cal P w K mg base CX0 1 "_law_cell_at" ["_law_script", "_law_k"] (sp__law_cell_at K) := by
  refine S.cal fun f fd F => F.ok sc__law_cell_at (fun vs H Q E h => ?_) (fun cdv A outer s H vs Q E hr h => ?_)
  · obtain ⟨a, ns, k, rfl, _⟩ := h
    rfl
  · obtain ⟨a, ns, k, rfl, hS, q⟩ := h
    refine ⟨_, (pss_cons (ps_if (pt_cmpR op_lt (pv 1) (pe_callB call_len_seq (by rfl) B.len PySem.boot_len (pa_cons (pv 0) pa_nil)) (nomark _)) (pss_one (ps_ret (pe_ix ix_list (pv 0) (pv 1) (fun _ _ => rfl)))) pss_nil)
      (pss_one (ps_ret pe_int))), ?_⟩
    refine ⟨_, rfl, _, rfl, a, _, rfl, .inl hS, _, _, rfl, rfl, _, rfl, ?_⟩
    refine ite2 (fun c => ?_) (fun _ => q 0)
    have hk : k < ns.length := by
      have c2 := of_decide_eq_true c
      rw [List.length_map] at c2
      omega
    exact ⟨_, rfl, _, rfl, a, _, _, _, rfl, rfl, hS, atI_nat (ints_at (List.getElem?_eq_getElem hk)), q _⟩
end
/-! ### _law_whole -/
section
variable {P : Program} {w : World} {K : PySem.W.Frag} {mg : Str → Option Value} {base : Heap}
abbrev s__law_whole : Stmt := topS 21
abbrev N__law_whole : List Str := ["_law_found"]
theorem sc__law_whole : FnScope N__law_whole ["_law_found"] (defScope s__law_whole) := ⟨rfl, rfl, rfl, by decide +kernel, rfl, by decide +kernel, by decide +kernel⟩
theorem ok__law_whole (S : Src K mg "_law_whole" s__law_whole ["_law_found"]) (B : Bi mg) : Cal P w K mg base CX0 1 "_law_whole" ["_law_found"] sp_is_whole := by
  refine S.cal fun f fd F => F.ok sc__law_whole (fun vs H Q E h => ?_) (fun cdv A outer s H vs Q E hr h => ?_)
  · obtain ⟨x, rfl, _⟩ := h
    rfl
  · obtain ⟨x, rfl, hx, q⟩ := h
    refine ⟨_, (pss_one (ps_ret (pe_and (pe_callB call_isi (by rfl) B.isinstance (by decide +kernel) (pa_cons (pv 0) (pa_cons (pe_bltn (v := .ty "int") (by rfl) B.int (by decide +kernel) rfl) pa_nil))) (pe_one (pe_not (pe_callB call_isi (by rfl) B.isinstance (by decide +kernel) (pa_cons (pv 0) (pa_cons (pe_bltn (v := .ty "bool") (by rfl) B.bool (by decide +kernel) rfl) pa_nil)))))))), ?_⟩
    refine ⟨_, rfl, _, _, _, _, _, rfl, .ty _, hx.ty, kit_ty (kit_int hx), _, rfl, ?_⟩
    cases x with
    | int i => exact iteT ⟨_, rfl, _, _, _, _, _, rfl, .ty _, hx.ty, kit_ty (kit_bool hx), _, rfl, q⟩
    | bl b => exact iteT ⟨_, rfl, _, _, _, _, _, rfl, .ty _, hx.ty, kit_ty (kit_bool hx), _, rfl, q⟩
    | _ => exact iteF q
end
/-! ### _law_form_by: some form -/
section
variable {P : Program} {w : World} {K : PySem.W.Frag} {mg : Str → Option Value} {base : Heap}
theorem at3 {a b c z : Int} : ∃ v : Int, atI ([a, b, c].map V.int) (z % 3) = some (V.int v) := by
  have h1 := Int.emod_nonneg z (show (3 : Int) ≠ 0 by decide)
  have h2 := Int.emod_lt_of_pos z (show (0 : Int) < 3 by decide)
  rcases (show z % 3 = 0 ∨ z % 3 = 1 ∨ z % 3 = 2 by omega) with e | e | e <;> rw [e]
  · exact ⟨a, rfl⟩
  · exact ⟨b, rfl⟩
  · exact ⟨c, rfl⟩
abbrev s__law_form_by : Stmt := topS 22
abbrev N__law_form_by : List Str := ["_law_way", "_law_cells", "_law_lays", "_law_cell", "_law_left", "_law_k"]
theorem sc__law_form_by : FnScope N__law_form_by ["_law_way", "_law_cells"] (defScope s__law_form_by) := ⟨rfl, rfl, rfl, by decide +kernel, rfl, by decide +kernel, by decide +kernel⟩
def sp__law_form_by (K : PySem.W.Frag) : Sp := fun vs H Q _ => ∃ (way : Int) (a : Addr) (cs : List Int), vs = [.int way, .ref a] ∧ SqL K H a (cs.map V.int) ∧ cs.length ≤ 63 ∧
  ∀ H' p ns, Same H H' → H p = none → FormAt H' p ns → ns.length ≤ 567 → Q (.ref p) H'
theorem ok__law_form_by (S : Src K mg "_law_form_by" s__law_form_by ["_law_way", "_law_cells"]) (B : Bi mg) : Cal P w K mg base CX0 1 "_law_form_by" ["_law_way", "_law_cells"] (sp__law_form_by K) := by
  refine S.cal fun f fd F => F.ok sc__law_form_by (fun vs H Q E h => ?_) (fun cdv A outer s H vs Q E hr h => ?_)
  · obtain ⟨way, a, cs, rfl, _⟩ := h
    rfl
  · obtain ⟨way, a, cs, rfl, hS, hlen, q⟩ := h
    refine ⟨_, (pss_cons (ps_set (i := 2) sc__law_form_by.nd rfl (.inl rfl) (pe_lst pa_nil))
      (pss_cons (ps_for PassesOwn.never rfl (pi_list (pv 1)) (pg_name (i := 3) sc__law_form_by.nd rfl (.inl rfl))
        (pss_cons (ps_set (i := 4) sc__law_form_by.nd rfl (.inl rfl) (pe_op op_mod (pe_op op_add (pe_op op_mul (pv 3) pe_int) pe_int) pe_int))
        (pss_cons (ps_join (ps_if (pt_cmpR op_eq (pe_op op_mod (pv 0) pe_int) pe_int (nomark _)) (pss_one (ps_set (i := 4) sc__law_form_by.nd rfl (.inl rfl) (pe_ix ix_list (pe_lst (pa_cons pe_int (pa_cons pe_int (pa_cons pe_int pa_nil)))) (pe_op op_mod (pv 3) pe_int) (fun _ _ => rfl)))) pss_nil))
        (pss_one (ps_for PassesOwn.never rfl (pi_range1 (by rfl) B.range (pa_cons pe_int pa_nil)) (pg_name (i := 5) sc__law_form_by.nd rfl (.inl rfl))
          (pss_cons (ps_expr (pe_bm PySem.F.plainAttrs_list PySem.F.slot_list_append PySem.F.type_list_append mt_append (pv 2) (pa_cons (pe_op op_sub (pe_op op_mod (pv 4) pe_int) pe_int) pa_nil)))
          (pss_one (ps_set (i := 4) sc__law_form_by.nd rfl (.inl rfl) (pe_op op_fdiv (pv 4) pe_int)))))))))
      (pss_cons (ps_join (ps_if (pt_cmpR op_eq (pe_op op_mod (pv 0) pe_int) pe_int (nomark _)) (pss_one (ps_set (i := 2) sc__law_form_by.nd rfl (.inl rfl) (pe_slice sl_list (pv 2) po_none (po_some (pe_op op_mod (pe_op op_fdiv (pv 0) pe_int) pe_int))))) pss_nil))
      (pss_cons (ps_while PassesOwn.never (PW.pt (pw_and (pt_cmpR op_gt (pe_callB call_len_seq (by rfl) B.len PySem.boot_len (pa_cons (pv 2) pa_nil)) pe_int (nomark _)) (pw_and1 (pt_cmpR op_eq (pe_ix ix_list (pv 2) (pe_un un_neg pe_int) (fun _ _ => rfl)) pe_int (nomark _))))) (pss_one (ps_expr (pe_bm0 PySem.F.plainAttrs_list PySem.F.slot_list_pop PySem.F.type_list_pop mt_pop (pv 2)))))
      (pss_one (ps_ret (pv 2))))))), ?_⟩
    refine ⟨Nat.zero_le _, fun p np => ?_⟩
    refine ⟨_, rfl, a, rfl, ⟨_, (same_upd np).seq hS⟩, for_list (K := K) (a := a) (xs := cs.map V.int) (fun i σ H' => ∃ (c l k : Option V) (ns : List Int), σ = [some (.int way), some (.ref a), some (.ref p), c, l, k] ∧ Same H H' ∧ H' p = some (.lst (ns.map V.int)) ∧ Lays ns ∧ ns.length = 9 * i)
      ⟨none, none, none, [], rfl, same_upd np, upd_same, lays_nil, rfl⟩ (fun i σ H' _ ⟨_, _, _, _, _, s, _⟩ => s.seq hS) ?_ ?_⟩
    · rintro i y σ H' hi ⟨c, l, k, ns, rfl, sm, ep, hl, en⟩
      obtain ⟨z, hz, rfl⟩ := ints_get hi
      have hi63 : i < cs.length := (List.getElem?_eq_some_iff.mp hz).1
      refine ⟨_, rfl, _, _, rfl, rfl, .inr (by decide), _, _, rfl, rfl, _, _, rfl, rfl, (by show (0 : Int) < _; decide), ?_⟩
      refine ⟨fun σ' H'' => ∃ (l2 : Int), σ' = [some (.int way), some (.ref a), some (.ref p), some (.int z), some (.int l2), k] ∧ Same H H'' ∧ H'' p = some (.lst (ns.map V.int)), ?_, ?_⟩
      · rintro σ' H'' ⟨l2, rfl, sm, ep⟩
        refine ⟨9, rfl, by decide, by decide, for_range (lo := 0) (n := 9) (fun j σ H' => ∃ (l2 : Int) (k : Option V) (ms : List Int), σ = [some (.int way), some (.ref a), some (.ref p), some (.int z), some (.int l2), k] ∧ Same H H' ∧ H' p = some (.lst (ms.map V.int)) ∧ Lays ms ∧ ms.length = 9 * i + j)
          ⟨l2, k, ns, rfl, sm, ep, hl, en⟩ ?_ ?_⟩
        · rintro j σ H3 hj ⟨l3, k3, ms, rfl, sm3, ep3, hl3, en3⟩
          refine ⟨_, rfl, .inl ⟨rfl, _, SqL.of ep3⟩, _, rfl, _, _, rfl, rfl, (by show (0 : Int) < _; decide), _, _, rfl, rfl, p, _, _, rfl, rfl, ep3, Nat.lt_of_le_of_lt (ints_len (n := 600) (by omega)) (by decide), ?_⟩
          refine ⟨_, rfl, _, _, rfl, rfl, ⟨by decide, by decide⟩, ?_⟩
          have h1 := Int.emod_nonneg l3 (show (3 : Int) ≠ 0 by decide)
          have h2 := Int.emod_lt_of_pos l3 (show (0 : Int) < 3 by decide)
          refine ⟨_, _, ms ++ [l3 % 3 - 1], rfl, same_put sm3 np, ?_, lays_more hl3 (by omega) (by omega), ?_⟩
          · rw [upd_same, List.map_append]; rfl
          · rw [List.length_append, List.length_singleton]; omega
        · rintro σ H3 ⟨l3, k3, ms, rfl, sm3, ep3, hl3, en3⟩
          exact ⟨_, _, _, ms, rfl, sm3, ep3, hl3, by omega⟩
      · refine ⟨_, rfl, _, _, rfl, rfl, (by show (0 : Int) < _; decide), rfl, _, rfl, ?_⟩
        refine ite2 (fun _ => ?_) (fun _ => ⟨_, rfl, sm, ep⟩)
        refine ⟨by decide, fun t nt => ?_⟩
        obtain ⟨v, hv⟩ := at3 (a := 9841) (b := 0) (c := 19682) (z := z)
        refine ⟨_, rfl, _, _, rfl, rfl, (by show (0 : Int) < _; decide), t, _, _, _, rfl, rfl, SqL.of upd_same, hv, v, rfl, sm.trans (same_upd nt), ?_⟩
        rw [upd_ne (ne_of_none ep nt)]
        exact ep
    · rintro σ H1 ⟨c, l, k, ns, rfl, sm, ep, hl, en⟩
      rw [List.length_map] at en
      refine ⟨fun σ' H' => ∃ (p' : Addr) (ms : List Int), σ' = [some (.int way), some (.ref a), some (.ref p'), c, l, k] ∧ Same H H' ∧ H p' = Option.none ∧ H' p' = some (.lst (ms.map V.int)) ∧ Lays ms ∧ ms.length ≤ 567, ?_, ?_⟩
      · rintro σ' H' ⟨p', ms, rfl, sm, np', ep, hl, en⟩
        refine ⟨fun m σ H' => ∃ (ms : List Int), σ = [some (.int way), some (.ref a), some (.ref p'), c, l, k] ∧ Same H H' ∧ H' p' = some (.lst (ms.map V.int)) ∧ Lays ms ∧ ms.length ≤ 567 ∧ m = ms.length,
          ⟨_, ms, rfl, sm, ep, hl, en, rfl⟩, ?_⟩
        rintro m σ H' ⟨ms, rfl, sm, ep, hl, en, rfl⟩
        refine ⟨_, rfl, p', _, rfl, .inl (SqL.of ep), _, _, rfl, rfl, _, rfl, ?_⟩
        rcases last_cases ms with rfl | ⟨ys, z, rfl⟩
        · refine iteF (iteF ⟨_, rfl, q _ _ [] sm np' ⟨ep, hl, by simp⟩ (by simp)⟩)
        · rw [decide_eq_true (by rw [List.length_map, List.length_append]; simp)]
          have eml : (ys ++ [z]).map V.int = ys.map V.int ++ [V.int z] := by rw [List.map_append]; rfl
          rw [eml] at ep
          refine iteT ⟨_, rfl, _, rfl, p', _, _, _, rfl, rfl, SqL.of ep, atI_last _ _, rfl, _, rfl, ?_⟩
          by_cases hz : z = 0
          · subst hz
            refine iteT ⟨_, fun _ _ h => h, _, rfl, .inl ⟨rfl, _, SqL.of ep⟩, p', _, V.int 0, rfl, rfl, ep, ?_, ?_⟩
            · rw [List.length_append, List.length_singleton, Nat.add_sub_cancel]
              exact List.getElem?_concat_length
            · rw [List.length_append, List.length_singleton] at en
              refine ⟨ys.length, ?_, ys, rfl, same_put sm np', ?_, lays_sub hl (fun x hx => List.mem_append_left _ hx), by omega, rfl⟩
              · rw [List.length_append, List.length_singleton]; omega
              · rw [upd_same, pop_int]
          · rw [decide_eq_false (fun e => hz (V.int.inj e))]
            rw [← eml] at ep
            refine iteF ⟨_, rfl, q _ _ _ sm np' ⟨ep, hl, ?_⟩ en⟩
            rw [List.getLast?_concat]
            exact fun e => hz (Option.some.inj e)
      · refine ⟨_, rfl, _, _, rfl, rfl, (by show (0 : Int) < _; decide), rfl, _, rfl, ?_⟩
        refine ite2 (fun _ => ?_) (fun _ => ⟨p, ns, rfl, sm, np, ep, hl, by omega⟩)
        refine ⟨_, rfl, _, rfl, _, _, rfl, rfl, ⟨by decide, by decide⟩, _, _, rfl, rfl, (by show (0 : Int) < _; decide), _, rfl, p, _, rfl, SqL.of ep, fun t nt => ?_⟩
        have hl9 := cutI_len ns none (some (way / 6 % 12))
        refine ⟨t, cutI ns none (some (way / 6 % 12)), rfl, sm.trans (same_upd nt), sm.free nt, ?_, lays_sub hl (fun x hx => cutI_mem hx), by omega⟩
        rw [upd_same, cut_ints]
end
/-! ### _law_bad_by: one of fifteen kinds of what is no form -/
section
variable {P : Program} {w : World} {K : PySem.W.Frag} {mg : Str → Option Value} {base : Heap}
abbrev s__law_bad_by : Stmt := topS 23
abbrev N__law_bad_by : List Str := ["_law_lays", "_law_cell", "_law_way", "_law_far", "_law_at"]
theorem sc__law_bad_by : FnScope N__law_bad_by ["_law_lays", "_law_cell"] (defScope s__law_bad_by) := ⟨rfl, rfl, rfl, by decide +kernel, rfl, by decide +kernel, by decide +kernel⟩
def sp__law_bad_by (K : PySem.W.Frag) : Sp := fun vs H Q _ => ∃ (a : Addr) (cell : Int) (ns : List Int), vs = [.ref a, .int cell] ∧ FormAt H a ns ∧ ns.length ≤ 100000 ∧ ∀ H' v, Same H H' → Bad K H' v → Q v H'
theorem ok__law_bad_by (S : Src K mg "_law_bad_by" s__law_bad_by ["_law_lays", "_law_cell"]) (B : Bi mg) : Cal P w K mg base CX0 1 "_law_bad_by" ["_law_lays", "_law_cell"] (sp__law_bad_by K) := by
  refine S.cal fun f fd F => F.ok sc__law_bad_by (fun vs H Q E h => ?_) (fun cdv A outer s H vs Q E hr h => ?_)
  · obtain ⟨a, cell, ns, rfl, _⟩ := h
    rfl
  · obtain ⟨a, cell, ns, rfl, ⟨ea, fa⟩, hlen, q⟩ := h
    refine ⟨_, (pss_cons (ps_set (i := 2) sc__law_bad_by.nd rfl (.inl rfl) (pe_op op_mod (pv 1) pe_int))
      (pss_cons (ps_set (i := 3) sc__law_bad_by.nd rfl (.inl rfl) (pe_op op_mod (pe_op op_fdiv (pv 1) pe_int) (pe_op op_pow pe_int pe_int)))
      (pss_cons (ps_set (i := 4) sc__law_bad_by.nd rfl (.inl rfl) (pe_op op_mod (pv 3) (pe_op op_add (pe_callB call_len_seq (by rfl) B.len PySem.boot_len (pa_cons (pv 0) pa_nil)) pe_int)))
      (pss_cons (ps_if (pt_cmpR op_eq (pv 2) pe_int (nomark _)) (pss_one (ps_ret (pe_op op_cat (pv 0) (pe_lst (pa_cons pe_int pa_nil))))) pss_nil)
      (pss_cons (ps_if (pt_cmpR op_lt (pv 2) pe_int (nomark _)) (pss_one (ps_ret (pe_op op_cat (pe_op op_cat (pe_slice sl_list (pv 0) po_none (po_some (pv 4))) (pe_lst (pa_cons (pe_ix ix_list (pe_lst (pa_cons (pe_op op_add pe_int (pv 3)) (pa_cons (pe_op op_sub (pe_un un_neg pe_int) (pv 3)) (pa_cons pe_bl (pa_cons pe_non (pa_cons pe_str pa_nil)))))) (pe_op op_sub (pv 2) pe_int) (fun _ _ => rfl)) pa_nil))) (pe_slice sl_list (pv 0) (po_some (pv 4)) po_none)))) pss_nil)
      (pss_cons (ps_if (pt_cmpR op_eq (pv 2) pe_int (nomark _)) (pss_one (ps_ret (pe_callTy call_tuple_of (by rfl) B.tuple (by decide +kernel) (pa_cons (pv 0) pa_nil)))) pss_nil)
      (pss_one (ps_ret (pe_ix ix_list (pe_lst (pa_cons pe_non (pa_cons pe_int (pa_cons pe_int (pa_cons pe_str (pa_cons pe_str (pa_cons (pe_tup pa_nil) (pa_cons pe_bl (pa_cons pe_dnewK pa_nil))))))))) (pe_op op_mod (pv 3) pe_int) (fun _ _ => rfl)))))))))), ?_⟩
    have hz : (ns.map V.int).length ≤ 100000 := ints_len hlen
    refine ⟨_, rfl, _, _, rfl, rfl, (by show (0 : Int) < _; decide), ?_⟩
    refine ⟨_, rfl, _, _, rfl, rfl, ⟨by decide, by decide⟩, _, _, rfl, rfl, ⟨by decide, by decide, by decide⟩, _, _, rfl, rfl, Int.pow_pos (by decide), ?_⟩
    refine ⟨_, rfl, _, rfl, a, _, rfl, .inl (SqL.of ea), _, _, rfl, rfl, _, _, rfl, rfl, (by show (0 : Int) < _; omega), ?_⟩
    have h0 : 0 ≤ cell / 8 % 10 ^ (60 : Int).toNat := Int.emod_nonneg _ (Int.ne_of_gt (Int.pow_pos (by decide)))
    have w0 := Int.emod_nonneg cell (show (8 : Int) ≠ 0 by decide)
    have w8 := Int.emod_lt_of_pos cell (show (0 : Int) < 8 by decide)
    dsimp only
    generalize cell / 8 % 10 ^ (60 : Int).toNat = far at h0 ⊢
    generalize cell % 8 = way at w0 w8 ⊢
    generalize far % (((ns.map V.int).length : Int) + 1) = at'
    refine ⟨_, rfl, rfl, _, rfl, ite2 (fun _ => ?_) (fun cw => ?_)⟩
    · refine ⟨_, rfl, by decide, fun t nt => ⟨a, t, _, _, rfl, rfl, same_upd nt _ _ ea, upd_same, small' (by simp only [List.length_singleton]; omega), fun u nu => ?_⟩⟩
      exact q _ _ ((same_upd nt).trans (same_upd nu)) (.zero upd_same)
    have way0 : way ≠ 0 := fun e => cw (by rw [e]; rfl)
    refine ⟨_, rfl, _, _, rfl, rfl, _, rfl, ite2 (fun c6 => ?_) (fun _ => ?_)⟩
    · have way6 : way < 6 := of_decide_eq_true c6
      refine ⟨_, rfl, _, rfl, _, rfl, a, _, rfl, SqL.of ea, fun s1 n1 => ?_⟩
      refine ⟨_, rfl, _, _, rfl, rfl, _, rfl, _, rfl, _, _, rfl, rfl, small' (by simp), fun t nt => ?_⟩
      have h5 : (way - 1).toNat < 5 := by omega
      have e5 : ((way - 1).toNat : Int) = way - 1 := by omega
      obtain ⟨x, hx, hm⟩ : ∃ x, atI [V.int (2 + far), .int (-2 - far), .bl true, .non, .str "1"] (way - 1) = some x ∧ x ∈ [V.int (2 + far), .int (-2 - far), .bl true, .non, .str "1"] := by
        refine ⟨[V.int (2 + far), .int (-2 - far), .bl true, .non, .str "1"][(way - 1).toNat], ?_, List.getElem_mem h5⟩
        have := atI_nat (List.getElem?_eq_getElem (l := [V.int (2 + far), .int (-2 - far), .bl true, .non, .str "1"]) h5)
        rw [e5] at this
        exact this
      refine ⟨_, rfl, _, _, rfl, rfl, t, _, _, x, rfl, rfl, SqL.of upd_same, hx, small' (by simp), fun s2 n2 => ?_⟩
      have good : okLay x = false ∧ (∀ H', WOk H' x) ∧ ∀ H', ItmD K H' x := by
        simp only [List.mem_cons, List.not_mem_nil, or_false] at hm
        rcases hm with rfl | rfl | rfl | rfl | rfl
        · exact ⟨show okLay (V.int _) = false from decide_eq_false (by omega), fun _ => trivial, fun _ => itm_int _⟩
        · exact ⟨show okLay (V.int _) = false from decide_eq_false (by omega), fun _ => trivial, fun _ => itm_int _⟩
        · exact ⟨rfl, fun _ => trivial, fun _ => ⟨_, .bl _, rfl, Nat.zero_le _⟩⟩
        · exact ⟨rfl, fun _ => trivial, fun _ => ⟨_, .non, rfl, Nat.zero_le _⟩⟩
        · exact ⟨rfl, fun _ => trivial, fun _ => ⟨_, .str _, by decide +kernel, Nat.zero_le _⟩⟩
      exact ins_end (i := 0) (j := 4) rfl rfl ea hlen n1 (same_upd nt) good.1 (good.2.1 _) (fun H' _ => good.2.2 H') q n2
    refine ⟨_, rfl, rfl, _, rfl, ite2 (fun _ => ?_) (fun _ => ?_)⟩
    · refine ⟨_, rfl, a, _, rfl, .inl ⟨SqL.of ea, fun t nt => ?_⟩⟩
      exact q _ _ (same_upd nt) (.tup upd_same)
    · refine ⟨small' (by simp), fun t nt => fun u nu => ⟨small' (by simp), fun v nv => ?_⟩⟩
      obtain ⟨x, hx, hm⟩ := at_mod (xs := [V.non, .int 0, .int 1, .str "", .str ">", .ref t, .bl true, .ref u]) (z := far) (n := 8) rfl (by decide)
      refine ⟨_, rfl, _, _, rfl, rfl, (by show (0 : Int) < _; decide), v, _, _, x, rfl, rfl, SqL.of upd_same, hx, ?_⟩
      have m3 := same_upd (o := .lst [V.non, .int 0, .int 1, .str "", .str ">", .ref t, .bl true, .ref u]) nv
      have sm := (same_upd (o := .tup []) nt).trans ((same_upd (o := .dK []) nu).trans m3)
      have et := m3 _ _ (same_upd (o := .dK []) nu _ _ (upd_same (o := .tup [])))
      have eu := m3 _ _ (upd_same (o := .dK []))
      refine q _ _ sm ?_
      simp only [List.mem_cons, List.not_mem_nil, or_false] at hm
      rcases hm with rfl | rfl | rfl | rfl | rfl | rfl | rfl | rfl
      · exact .flat trivial (fun _ _ e => nomatch e)
      · exact .flat trivial (fun _ _ e => nomatch e)
      · exact .flat trivial (fun _ _ e => nomatch e)
      · exact .flat trivial (fun _ _ e => nomatch e)
      · exact .flat trivial (fun _ _ e => nomatch e)
      · exact .tup et
      · exact .flat trivial (fun _ _ e => nomatch e)
      · exact .dict eu
end
/-! ### _law_no_place_by: one of eleven kinds of what is no number of places -/
section
variable {P : Program} {w : World} {K : PySem.W.Frag} {mg : Str → Option Value} {base : Heap}
abbrev s__law_no_place_by : Stmt := topS 24
abbrev N__law_no_place_by : List Str := ["_law_cell"]
theorem sc__law_no_place_by : FnScope N__law_no_place_by ["_law_cell"] (defScope s__law_no_place_by) := ⟨rfl, rfl, rfl, by decide +kernel, rfl, by decide +kernel, by decide +kernel⟩
def sp__law_no_place_by : Sp := fun vs H Q _ => ∃ cell : Int, vs = [.int cell] ∧ ∀ H' v, Same H H' → WOk H' v → isPl v = false → Q v H'
theorem ok__law_no_place_by (S : Src K mg "_law_no_place_by" s__law_no_place_by ["_law_cell"]) : Cal P w K mg base CX0 1 "_law_no_place_by" ["_law_cell"] sp__law_no_place_by := by
  refine S.cal fun f fd F => F.ok sc__law_no_place_by (fun vs H Q E h => ?_) (fun cdv A outer s H vs Q E hr h => ?_)
  · obtain ⟨cell, rfl, _⟩ := h
    rfl
  · obtain ⟨cell, rfl, q⟩ := h
    refine ⟨_, (pss_cons (ps_if (pt_cmpR op_eq (pe_op op_mod (pv 0) pe_int) pe_int (nomark _)) (pss_one (ps_ret (pe_op op_sub (pe_un un_neg pe_int) (pe_op op_mod (pe_op op_fdiv (pv 0) pe_int) (pe_op op_pow pe_int pe_int))))) pss_nil)
      (pss_one (ps_ret (pe_ix ix_list (pe_lst (pa_cons pe_non (pa_cons pe_bl (pa_cons pe_bl (pa_cons pe_str (pa_cons pe_str (pa_cons (pe_lst (pa_cons pe_int pa_nil)) (pa_cons (pe_lst pa_nil) (pa_cons (pe_tup (pa_cons pe_int pa_nil)) (pa_cons pe_dnewK (pa_cons (pe_un un_neg pe_int) pa_nil))))))))))) (pe_op op_sub (pe_op op_mod (pv 0) pe_int) pe_int) (fun _ _ => rfl))))), ?_⟩
    have w0 := Int.emod_nonneg cell (show (11 : Int) ≠ 0 by decide)
    have w8 := Int.emod_lt_of_pos cell (show (0 : Int) < 11 by decide)
    refine ⟨_, rfl, _, _, rfl, rfl, (by show (0 : Int) < _; decide), rfl, _, rfl, ite2 (fun _ => ?_) (fun cw => ?_)⟩
    · refine ⟨_, rfl, _, rfl, _, _, rfl, rfl, ⟨by decide, by decide⟩, _, _, rfl, rfl, ⟨by decide, by decide, by decide⟩, _, _, rfl, rfl, Int.pow_pos (by decide), _, _, rfl, rfl, ?_⟩
      have h0 : 0 ≤ cell / 11 % 10 ^ (60 : Int).toNat := Int.emod_nonneg _ (Int.ne_of_gt (Int.pow_pos (by decide)))
      refine q H _ (Same.refl H) trivial ?_
      show decide (0 ≤ -1 - cell / 11 % 10 ^ (60 : Int).toNat) = false
      generalize cell / 11 % 10 ^ (60 : Int).toNat = far at h0
      exact decide_eq_false (by omega)
    · have way0 : cell % 11 ≠ 0 := fun e => cw (decide_eq_true (congrArg V.int e))
      refine ⟨small' (by simp), fun b1 m1 => ⟨small' (by simp), fun b2 m2 => ⟨small' (by simp), fun b3 m3 => fun b4 m4 => ⟨_, rfl, small' (by simp), fun b5 m5 => ?_⟩⟩⟩⟩
      have k2 := same_upd (o := .lst []) m2
      have k3 := same_upd (o := .tup [V.int 1]) m3
      have k4 := same_upd (o := .dK []) m4
      have k5 := same_upd (o := .lst [V.non, .bl true, .bl false, .str "1", .str "", .ref b1, .ref b2, .ref b3, .ref b4, .int (-1)]) m5
      have sm := (same_upd (o := .lst [V.int 1]) m1).trans (k2.trans (k3.trans (k4.trans k5)))
      have h5 : (cell % 11 - 1).toNat < 10 := by omega
      have e5 : ((cell % 11 - 1).toNat : Int) = cell % 11 - 1 := by omega
      obtain ⟨x, hx, hm⟩ : ∃ x, atI [V.non, .bl true, .bl false, .str "1", .str "", .ref b1, .ref b2, .ref b3, .ref b4, .int (-1)] (cell % 11 - 1) = some x ∧ x ∈ [V.non, .bl true, .bl false, .str "1", .str "", .ref b1, .ref b2, .ref b3, .ref b4, .int (-1)] := by
        refine ⟨[V.non, .bl true, .bl false, .str "1", .str "", .ref b1, .ref b2, .ref b3, .ref b4, .int (-1)][(cell % 11 - 1).toNat], ?_, List.getElem_mem h5⟩
        have := atI_nat (List.getElem?_eq_getElem (l := [V.non, .bl true, .bl false, .str "1", .str "", .ref b1, .ref b2, .ref b3, .ref b4, .int (-1)]) h5)
        rw [e5] at this
        exact this
      refine ⟨_, rfl, _, _, rfl, rfl, (by show (0 : Int) < _; decide), _, _, rfl, rfl, b5, _, _, x, rfl, rfl, SqL.of upd_same, hx, ?_⟩
      refine q _ x sm ?_ ?_
      · simp only [List.mem_cons, List.not_mem_nil, or_false] at hm
        rcases hm with rfl | rfl | rfl | rfl | rfl | rfl | rfl | rfl | rfl | rfl
        · trivial
        · trivial
        · trivial
        · trivial
        · trivial
        · exact .inl ⟨_, k5 _ _ (k4 _ _ (k3 _ _ (k2 _ _ upd_same)))⟩
        · exact .inl ⟨_, k5 _ _ (k4 _ _ (k3 _ _ upd_same))⟩
        · exact .inr (.inl ⟨_, k5 _ _ (k4 _ _ upd_same)⟩)
        · exact .inr (.inr ⟨_, k5 _ _ upd_same⟩)
        · trivial
      · simp only [List.mem_cons, List.not_mem_nil, or_false] at hm
        rcases hm with rfl | rfl | rfl | rfl | rfl | rfl | rfl | rfl | rfl | rfl <;> rfl
end
/-! ### _law_is_form -/
section
variable {P : Program} {w : World} {K : PySem.W.Frag} {mg : Str → Option Value} {base : Heap}
abbrev s__law_is_form : Stmt := topS 26
abbrev N__law_is_form : List Str := ["_law_found", "_law_lay"]
theorem sc__law_is_form : FnScope N__law_is_form ["_law_found"] (defScope s__law_is_form) := ⟨rfl, rfl, rfl, by decide +kernel, rfl, by decide +kernel, by decide +kernel⟩
theorem ok__law_is_form (S : Src K mg "_law_is_form" s__law_is_form ["_law_found"]) (B : Bi mg) (C1 : Cal P w K mg base CX0 1 "_law_whole" ["_law_found"] sp_is_whole) : Cal P w K mg base CX0 2 "_law_is_form" ["_law_found"] sp_is_form := by
  obtain ⟨_, _, G__law_whole, g__law_whole, k__law_whole, b__law_whole⟩ := C1
  refine S.cal fun f fd F => F.ok sc__law_is_form (fun vs H Q E h => ?_) (fun cdv A outer s H vs Q E hr h => ?_)
  · obtain ⟨x, rfl, _⟩ := h
    rfl
  · obtain ⟨x, rfl, hx, q⟩ := h
    refine ⟨_, (pss_cons (ps_if (pt_not (pt_val (pe_callB call_isi (by rfl) B.isinstance (by decide +kernel) (pa_cons (pv 0) (pa_cons (pe_bltn (v := .ty "list") (by rfl) B.list (by decide +kernel) rfl) pa_nil))))) (pss_one (ps_ret pe_bl)) pss_nil)
      (pss_cons (ps_for PassesOwn.never rfl (pi_list (pv 0)) (pg_name (i := 1) sc__law_is_form.nd rfl (.inl rfl))
        (pss_one (ps_if (PW.pt (pw_or (pt_not (pt_val (pe_call G__law_whole (hr.mono (by decide)) rfl g__law_whole k__law_whole b__law_whole .nil pass0 (pa_cons (pv 1) pa_nil)))) (pw_or (pt_cmpR op_lt (pv 1) (pe_un un_neg pe_int) (nomark _)) (pw_or1 (pt_cmpR op_gt (pv 1) pe_int (nomark _)))))) (pss_one (ps_ret pe_bl)) pss_nil)))
      (pss_one (ps_ret (pe_or (pe_cmpR op_eq (pe_callB call_len_seq (by rfl) B.len PySem.boot_len (pa_cons (pv 0) pa_nil)) pe_int (nomark _)) (pe_one (pe_cmpR op_ne (pe_ix ix_list (pv 0) (pe_un un_neg pe_int) (fun _ _ => rfl)) pe_int (nomark _)))))))), ?_⟩
    refine ⟨_, rfl, _, _, _, _, _, rfl, .ty _, hx.1.ty, kit_ty (kit_list hx.1), _, rfl, ?_⟩
    cases e : isL H x with
    | false =>
      rw [isF_not e] at q
      exact iteT q
    | true =>
      refine iteF ?_
      obtain ⟨a, xs, rfl, ea⟩ := isL_ref e
      have hys := hx.2 a xs rfl ea
      refine ⟨_, rfl, a, rfl, ⟨_, SqL.of ea⟩, for_list (K := K) (a := a) (xs := xs) (fun i σ H' => ∃ v : Option V, σ = [some (.ref a), v] ∧ H' = H ∧ (xs.take i).all okLay = true)
        ⟨none, rfl, rfl, rfl⟩ (fun i σ H' _ ⟨_, _, e, _⟩ => by rw [e]; exact SqL.of ea) ?_ ?_⟩
      · rintro i y σ H' hi ⟨v, rfl, rfl, ok⟩
        have hy := hys y (List.mem_of_getElem? hi)
        refine ⟨_, rfl, y, rfl, hy, _, rfl, ?_⟩
        have bad : okLay y = false → Q (.bl false) H' := fun hb => by
          have q2 := q
          rw [isF_list ea, formV_bad hi hb] at q2
          exact q2
        cases y with
        | int z =>
          refine iteF ?_
          refine ⟨_, rfl, _, rfl, _, _, rfl, rfl, _, rfl, ?_⟩
          by_cases h1 : z < -1
          · rw [decide_eq_true h1]
            exact iteT (iteT (bad (decide_eq_false (by omega))))
          · rw [decide_eq_false h1]
            refine iteF ⟨_, rfl, _, _, rfl, rfl, _, rfl, ?_⟩
            by_cases h2 : 1 < z
            · rw [decide_eq_true h2]
              exact iteT (bad (decide_eq_false (by omega)))
            · rw [decide_eq_false h2]
              exact iteF ⟨_, rfl, rfl, all_more hi ok (decide_eq_true (by omega))⟩
        | _ => exact iteT (iteT (bad rfl))
      · rintro σ H' ⟨v, rfl, rfl, ok⟩
        rw [List.take_length] at ok
        rw [isF_list ea] at q
        refine ⟨_, rfl, a, _, rfl, .inl (SqL.of ea), rfl, _, rfl, ?_⟩
        rcases last_cases xs with rfl | ⟨ys, l, rfl⟩
        · exact iteT q
        · rw [decide_eq_false (by rw [List.length_append]; intro e; have e2 := V.int.inj e; simp at e2; omega)]
          have okl := List.all_eq_true.mp ok l (by simp)
          obtain ⟨z, rfl, _, _⟩ := int_of_okLay okl
          refine iteF ⟨_, rfl, _, rfl, a, _, _, _, rfl, rfl, SqL.of ea, atI_last ys _, rfl, ?_⟩
          rw [formV_last ok] at q
          exact q
end
/-! ### _law_weight -/
section
variable {P : Program} {w : World} {K : PySem.W.Frag} {mg : Str → Option Value} {base : Heap}
abbrev s__law_weight : Stmt := topS 27
abbrev N__law_weight : List Str := ["_law_lays", "_law_found", "_law_lay"]
theorem sc__law_weight : FnScope N__law_weight ["_law_lays"] (defScope s__law_weight) := ⟨rfl, rfl, rfl, by decide +kernel, rfl, by decide +kernel, by decide +kernel⟩
def sp__law_weight : Sp := fun vs H Q _ => ∃ (a : Addr) (ns : List Int), vs = [.ref a] ∧ H a = some (.lst (ns.map V.int)) ∧ Q (.int (wt ns)) H
theorem ok__law_weight (S : Src K mg "_law_weight" s__law_weight ["_law_lays"]) (B : Bi mg) : Cal P w K mg base CX0 1 "_law_weight" ["_law_lays"] sp__law_weight := by
  refine S.cal fun f fd F => F.ok sc__law_weight (fun vs H Q E h => ?_) (fun cdv A outer s H vs Q E hr h => ?_)
  · obtain ⟨a, ns, rfl, _⟩ := h
    rfl
  · obtain ⟨a, ns, rfl, ea, q⟩ := h
    refine ⟨_, (pss_cons (ps_set (i := 1) sc__law_weight.nd rfl (.inl rfl) pe_int)
      (pss_cons (ps_for PassesOwn.never rfl (pi_reversed (by rfl) B.reversed (pa_cons (pv 0) pa_nil)) (pg_name (i := 2) sc__law_weight.nd rfl (.inl rfl))
        (pss_one (ps_set (i := 1) sc__law_weight.nd rfl (.inl rfl) (pe_op op_add (pe_op op_mul pe_int (pv 1)) (pv 2)))))
      (pss_one (ps_ret (pv 1))))), ?_⟩
    refine ⟨_, rfl, a, ns.map V.int, rfl, SqL.of ea, RT.for_Itv (K := K) (fun i σ H' => ∃ v : Option V, σ = [some (.ref a), some (.int (wt (ns.drop (ns.length - i)))), v] ∧ H' = H)
      ⟨none, ?_, rfl⟩ (fun i σ H' ⟨_, _, e⟩ => by rw [e]; exact SqL.of ea) ?_ ?_⟩
    · rw [Nat.sub_zero, List.drop_length]; rfl
    · rintro i y σ H' hi hy ⟨v, rfl, rfl⟩
      rw [List.length_map] at hi hy
      obtain ⟨z, hz, rfl⟩ := ints_get hy
      refine ⟨_, rfl, _, _, rfl, rfl, .inl (by decide), _, rfl, _, _, rfl, rfl, ?_⟩
      refine ⟨some (.int z), ?_, rfl⟩
      rw [wt_back hi hz]; rfl
    · rintro σ H' ⟨v, rfl, rfl⟩
      rw [List.length_map, Nat.sub_self]
      exact ⟨_, rfl, q⟩
end
/-! ### _law_half_is, where it is so -/
section
variable {P : Program} {w : World} {K : PySem.W.Frag} {mg : Str → Option Value} {base : Heap}
abbrev s__law_half_is : Stmt := topS 28
abbrev N__law_half_is : List Str := ["_law_told", "_law_lays", "_law_lay", "_law_odd"]
theorem sc__law_half_is : FnScope N__law_half_is ["_law_told", "_law_lays"] (defScope s__law_half_is) := ⟨rfl, rfl, rfl, by decide +kernel, rfl, by decide +kernel, by decide +kernel⟩
def sp__law_half_is : Sp := fun vs H Q _ => ∃ (t p a : Addr) (ls ns : List Int), vs = [.ref t, .ref a] ∧ H t = some (.tup [.ref p, .int (odd ns)]) ∧ FormAt H p ls ∧ H a = some (.lst (ns.map V.int)) ∧ ns.length ≤ 100000 ∧ 2 * wt ls + odd ns = wt ns ∧ ∀ H', Same H H' → Q (.bl true) H'
theorem ok__law_half_is (S : Src K mg "_law_half_is" s__law_half_is ["_law_told", "_law_lays"]) (B : Bi mg) (C1 : Cal P w K mg base CX0 2 "_law_is_form" ["_law_found"] sp_is_form) (C2 : Cal P w K mg base CX0 1 "_law_whole" ["_law_found"] sp_is_whole)
    (C3 : Cal P w K mg base CX0 1 "_law_weight" ["_law_lays"] sp__law_weight) : Cal P w K mg base CX0 3 "_law_half_is" ["_law_told", "_law_lays"] sp__law_half_is := by
  obtain ⟨_, _, G__law_is_form, g__law_is_form, k__law_is_form, b__law_is_form⟩ := C1
  obtain ⟨_, _, G__law_whole, g__law_whole, k__law_whole, b__law_whole⟩ := C2
  obtain ⟨_, _, G__law_weight, g__law_weight, k__law_weight, b__law_weight⟩ := C3
  refine S.cal fun f fd F => F.ok sc__law_half_is (fun vs H Q E h => ?_) (fun cdv A outer s H vs Q E hr h => ?_)
  · obtain ⟨t, p, a, ls, ns, rfl, _⟩ := h
    rfl
  · obtain ⟨t, p, a, ls, ns, rfl, et, fp, ea, ln, hw2, q⟩ := h
    refine ⟨_, (pss_cons (ps_if (PW.pt (pw_or (pt_not (pt_val (pe_callB call_isi (by rfl) B.isinstance (by decide +kernel) (pa_cons (pv 0) (pa_cons (pe_bltn (v := .ty "tuple") (by rfl) B.tuple (by decide +kernel) rfl) pa_nil))))) (pw_or1 (pt_cmpR op_ne (pe_callB call_len_seq (by rfl) B.len PySem.boot_len (pa_cons (pv 0) pa_nil)) pe_int (nomark _))))) (pss_one (ps_ret pe_bl)) pss_nil)
      (pss_cons (ps_if (PW.pt (pw_or (pt_not (pt_val (pe_call G__law_is_form (hr.mono (by decide)) rfl g__law_is_form k__law_is_form b__law_is_form .nil pass0 (pa_cons (pe_ix ix_tup (pv 0) pe_int (fun _ _ => rfl)) pa_nil)))) (pw_or1 (pt_not (pt_val (pe_call G__law_whole (hr.mono (by decide)) rfl g__law_whole k__law_whole b__law_whole .nil pass0 (pa_cons (pe_ix ix_tup (pv 0) pe_int (fun _ _ => rfl)) pa_nil))))))) (pss_one (ps_ret pe_bl)) pss_nil)
      (pss_cons (ps_set (i := 3) sc__law_half_is.nd rfl (.inl rfl) (pe_op op_mod (pe_callB call_len_seq (by rfl) B.len PySem.boot_len (pa_cons (pe_lc (own := [("_law_lay", 2)]) (g := gName 2) rfl sc__law_half_is.nd (pi_list (pv 1)) (blkOk_by (own := [("_law_lay", 2)]) (N := N__law_half_is) (sc := defScope s__law_half_is) (by decide +kernel)) (fun _ _ _ _ _ => pg_name (i := 2) sc__law_half_is.nd rfl (Or.inl rfl)) (fun _ _ _ _ _ => pts_one (pt_cmpR op_ne (pv 2) pe_int (nomark _))) (fun _ _ _ _ _ => (pv 2))) pa_nil)) pe_int))
      (pss_one (ps_ret (pe_and (pe_cmpR op_eq (pe_ix ix_tup (pv 0) pe_int (fun _ _ => rfl)) (pv 3) (nomark _)) (pe_one (pe_cmpR op_eq (pe_op op_add (pe_op op_mul pe_int (pe_call G__law_weight (hr.mono (by decide)) rfl g__law_weight k__law_weight b__law_weight .nil pass0 (pa_cons (pe_ix ix_tup (pv 0) pe_int (fun _ _ => rfl)) pa_nil))) (pe_ix ix_tup (pv 0) pe_int (fun _ _ => rfl))) (pe_call G__law_weight (hr.mono (by decide)) rfl g__law_weight k__law_weight b__law_weight .nil pass0 (pa_cons (pv 1) pa_nil)) (nomark _))))))))), ?_⟩
    have hw : WOk H (.ref t) := .inr (.inl ⟨_, et⟩)
    refine ⟨_, rfl, _, _, _, _, _, rfl, .ty _, hw.ty, kit_ty (kit_tuple hw), _, rfl, ?_⟩
    rw [isT_of et]
    refine iteF ⟨_, rfl, t, _, rfl, .inr (SqT.of et), rfl, _, rfl, iteF ?_⟩
    refine ⟨_, rfl, t, _, _, _, rfl, rfl, SqT.of et, (rfl : atI [V.ref p, .int (odd ns)] 0 = some (V.ref p)), .ref p, rfl, fp.hand, _, rfl, ?_⟩
    rw [fp.isF]
    refine iteF ⟨_, rfl, t, _, _, _, rfl, rfl, SqT.of et, (rfl : atI [V.ref p, .int (odd ns)] 1 = some (V.int (odd ns))), _, rfl, trivial, _, rfl, iteF ?_⟩
    refine ⟨_, rfl, a, rfl, ⟨_, SqL.of ea⟩, fun D nD => ?_⟩
    refine lc_list (K := K) (a := a) (xs := ns.map V.int) (fun i H' => Same H H' ∧ H' D = some (.lst ((nz (ns.take i)).map V.int))) ⟨same_upd nD, upd_same⟩ (fun i H' _ h => SqL.of (h.1 _ _ ea)) ?_ ?_
    · rintro i y H1 hi ⟨sm, eD⟩
      obtain ⟨z, hz, rfl⟩ := ints_get hi
      have hi2 : i < ns.length := (List.getElem?_eq_some_iff.mp hz).1
      have hm := nz_more hz
      refine ⟨rfl, ?_⟩
      refine ⟨_, rfl, rfl, _, rfl, ?_⟩
      by_cases h0 : z = 0
      · rw [if_pos h0] at hm
        rw [decide_eq_true (congrArg V.int h0)]
        refine iteF ⟨sm, ?_⟩
        rw [hm]; exact eD
      · rw [if_neg h0] at hm
        rw [decide_eq_false (fun e => h0 (V.int.inj e))]
        refine iteT ⟨_, rfl, _, eD, small (ints_len (by have := nz_len (ns.take i); rw [List.length_take] at this; omega)), same_put sm nD, ?_⟩
        rw [upd_same, hm, List.map_append]; rfl
    rintro H1 ⟨s1, eD⟩
    rw [List.length_map, List.take_length] at eD
    have e0 : ((nz ns).map V.int).length = (nz ns).length := List.length_map ..
    refine ⟨D, _, rfl, .inl (SqL.of eD), _, _, rfl, rfl, (by show (0 : Int) < _; decide), ?_⟩
    dsimp only
    rw [e0]
    have ho : ((nz ns).length : Int) % 2 = odd ns := rfl
    rw [ho]
    refine ⟨_, rfl, t, _, _, _, rfl, rfl, SqT.of (s1 _ _ et), (rfl : atI [V.ref p, .int (odd ns)] 1 = some (V.int (odd ns))), _, rfl, rfl, _, rfl, ?_⟩
    rw [decide_eq_true rfl]
    refine iteT ⟨_, rfl, t, _, _, _, rfl, rfl, SqT.of (s1 _ _ et), (rfl : atI [V.ref p, .int (odd ns)] 0 = some (V.ref p)), p, ls, rfl, s1 _ _ fp.1, _, _, rfl, rfl, .inl (by decide), _, rfl, t, _, _, _, rfl, rfl, SqT.of (s1 _ _ et), (rfl : atI [V.ref p, .int (odd ns)] 1 = some (V.int (odd ns))), _, _, rfl, rfl, _, rfl, a, ns, rfl, s1 _ _ ea, rfl, ?_⟩
    rw [decide_eq_true (congrArg V.int hw2)]
    exact q H1 s1
end
/-! ### _law_parts_are, where it is so -/
section
variable {P : Program} {w : World} {K : PySem.W.Frag} {mg : Str → Option Value} {base : Heap}
theorem pow3_nat : ∀ k : Nat, ((3 : Int) ^ k).natAbs < 2 ^ (2 * k + 1)
  | 0 => by decide
  | k + 1 => by
    have ih := pow3_nat k
    rw [Int.pow_succ, Int.natAbs_mul, show 2 * (k + 1) + 1 = 2 * k + 1 + 1 + 1 by omega, Nat.pow_succ, Nat.pow_succ]
    have e : (3 : Int).natAbs = 3 := rfl
    rw [e]
    omega
abbrev s__law_parts_are : Stmt := topS 29
abbrev N__law_parts_are : List Str := ["_law_told", "_law_lays", "_law_places", "_law_weight_here", "_law_k", "_law_rest"]
theorem sc__law_parts_are : FnScope N__law_parts_are ["_law_told", "_law_lays", "_law_places"] (defScope s__law_parts_are) := ⟨rfl, rfl, rfl, by decide +kernel, rfl, by decide +kernel, by decide +kernel⟩
def sp__law_parts_are : Sp := fun vs H Q _ => ∃ (t p r a : Addr) (ls ms ns : List Int) (k : Nat), vs = [.ref t, .ref a, .int (k : Int)] ∧ H t = some (.tup [.ref p, .ref r]) ∧ FormAt H p ls ∧ FormAt H r ms ∧ H a = some (.lst (ns.map V.int)) ∧ ls.length ≤ 100000 ∧ k ≤ 100000 ∧
  wt ls * 3 ^ k + wt ms = wt ns ∧ -(3 ^ k) < 2 * wt ms ∧ 2 * wt ms < 3 ^ k ∧ Q (.bl true) H
theorem ok__law_parts_are (S : Src K mg "_law_parts_are" s__law_parts_are ["_law_told", "_law_lays", "_law_places"]) (B : Bi mg) (C1 : Cal P w K mg base CX0 1 "_law_weight" ["_law_lays"] sp__law_weight) (C2 : Cal P w K mg base CX0 2 "_law_is_form" ["_law_found"] sp_is_form) :
    Cal P w K mg base CX0 3 "_law_parts_are" ["_law_told", "_law_lays", "_law_places"] sp__law_parts_are := by
  obtain ⟨_, _, G__law_weight, g__law_weight, k__law_weight, b__law_weight⟩ := C1
  obtain ⟨_, _, G__law_is_form, g__law_is_form, k__law_is_form, b__law_is_form⟩ := C2
  refine S.cal fun f fd F => F.ok sc__law_parts_are (fun vs H Q E h => ?_) (fun cdv A outer s H vs Q E hr h => ?_)
  · obtain ⟨t, p, r, a, ls, ms, ns, k, rfl, _⟩ := h
    rfl
  · obtain ⟨t, p, r, a, ls, ms, ns, k, rfl, et, fp, fr, ea, l1, l2, hw1, hw2, hw3, q⟩ := h
    refine ⟨_, (pss_cons (ps_if (PW.pt (pw_or (pt_not (pt_val (pe_callB call_isi (by rfl) B.isinstance (by decide +kernel) (pa_cons (pv 0) (pa_cons (pe_bltn (v := .ty "tuple") (by rfl) B.tuple (by decide +kernel) rfl) pa_nil))))) (pw_or1 (pt_cmpR op_ne (pe_callB call_len_seq (by rfl) B.len PySem.boot_len (pa_cons (pv 0) pa_nil)) pe_int (nomark _))))) (pss_one (ps_ret pe_bl)) pss_nil)
      (pss_cons (ps_if (PW.pt (pw_or (pt_not (pt_val (pe_call G__law_is_form (hr.mono (by decide)) rfl g__law_is_form k__law_is_form b__law_is_form .nil pass0 (pa_cons (pe_ix ix_tup (pv 0) pe_int (fun _ _ => rfl)) pa_nil)))) (pw_or1 (pt_not (pt_val (pe_call G__law_is_form (hr.mono (by decide)) rfl g__law_is_form k__law_is_form b__law_is_form .nil pass0 (pa_cons (pe_ix ix_tup (pv 0) pe_int (fun _ _ => rfl)) pa_nil))))))) (pss_one (ps_ret pe_bl)) pss_nil)
      (pss_cons (ps_set (i := 3) sc__law_parts_are.nd rfl (.inl rfl) pe_int)
      (pss_cons (ps_for PassesOwn.never rfl (pi_range1 (by rfl) B.range (pa_cons (pv 2) pa_nil)) (pg_name (i := 4) sc__law_parts_are.nd rfl (.inl rfl))
        (pss_one (ps_set (i := 3) sc__law_parts_are.nd rfl (.inl rfl) (pe_op op_mul (pv 3) pe_int))))
      (pss_cons (ps_set (i := 5) sc__law_parts_are.nd rfl (.inl rfl) (pe_call G__law_weight (hr.mono (by decide)) rfl g__law_weight k__law_weight b__law_weight .nil pass0 (pa_cons (pe_ix ix_tup (pv 0) pe_int (fun _ _ => rfl)) pa_nil)))
      (pss_one (ps_ret (pe_and (pe_cmpR op_eq (pe_op op_add (pe_op op_mulW (pe_call G__law_weight (hr.mono (by decide)) rfl g__law_weight k__law_weight b__law_weight .nil pass0 (pa_cons (pe_ix ix_tup (pv 0) pe_int (fun _ _ => rfl)) pa_nil)) (pv 3)) (pv 5)) (pe_call G__law_weight (hr.mono (by decide)) rfl g__law_weight k__law_weight b__law_weight .nil pass0 (pa_cons (pv 1) pa_nil)) (nomark _)) (pe_one (pe_cmpR op_lt (pe_op op_mul pe_int (pe_callB call_abs (by rfl) B.abs (by decide +kernel) (pa_cons (pv 5) pa_nil))) (pv 3) (nomark _))))))))))), ?_⟩
    have hw : WOk H (.ref t) := .inr (.inl ⟨_, et⟩)
    refine ⟨_, rfl, _, _, _, _, _, rfl, .ty _, hw.ty, kit_ty (kit_tuple hw), _, rfl, ?_⟩
    rw [isT_of et]
    refine iteF ⟨_, rfl, t, _, rfl, .inr (SqT.of et), rfl, _, rfl, iteF ?_⟩
    refine ⟨_, rfl, t, _, _, _, rfl, rfl, SqT.of et, (rfl : atI [V.ref p, .ref r] 0 = some (V.ref p)), .ref p, rfl, fp.hand, _, rfl, ?_⟩
    rw [fp.isF]
    refine iteF ⟨_, rfl, t, _, _, _, rfl, rfl, SqT.of et, (rfl : atI [V.ref p, .ref r] 1 = some (V.ref r)), .ref r, rfl, fr.hand, _, rfl, ?_⟩
    rw [fr.isF]
    refine iteF ⟨_, rfl, _, rfl, by omega, by omega, for_range (lo := 0) (n := k) (fun i σ H' => ∃ v : Option V, σ = [some (.ref t), some (.ref a), some (.int (k : Int)), some (.int (3 ^ i)), v, none] ∧ H' = H) ⟨none, rfl, rfl⟩ ?_ ?_⟩
    · rintro i σ H' hi ⟨v, rfl, rfl⟩
      refine ⟨_, rfl, _, _, rfl, rfl, .inr (by decide), some (.int (0 + (i : Int))), ?_, rfl⟩
      rw [Int.pow_succ]; rfl
    · rintro σ H' ⟨v, rfl, rfl⟩
      refine ⟨_, rfl, t, _, _, _, rfl, rfl, SqT.of et, (rfl : atI [V.ref p, .ref r] 1 = some (V.ref r)), r, ms, rfl, fr.1, ?_⟩
      have b1 := wt_lt (n := 100000) fp.2.1 l1
      have b2 : ((3 : Int) ^ k).natAbs < 2 ^ 200001 := Nat.lt_of_lt_of_le (pow3_nat k) (Nat.pow_le_pow_right (by decide) (by omega))
      refine ⟨_, rfl, t, _, _, _, rfl, rfl, SqT.of et, (rfl : atI [V.ref p, .ref r] 0 = some (V.ref p)), p, ls, rfl, fp.1, _, rfl, _, _, rfl, rfl, wide_mul b1 b2 (by decide) (by decide) (by decide), _, rfl, _, _, rfl, rfl, _, rfl, a, ns, rfl, ea, rfl, _, rfl, ?_⟩
      rw [decide_eq_true (congrArg V.int hw1)]
      refine iteT ⟨_, rfl, _, rfl, _, _, rfl, rfl, .inl (by decide), _, rfl, _, _, rfl, rfl, ?_⟩
      dsimp only
      rw [decide_eq_true (show 2 * (if wt ms < 0 then -wt ms else wt ms) < (3 : Int) ^ k by split <;> omega)]
      exact q
end
/-! ### _law_refused -/
section
variable {P : Program} {w : World} {K : PySem.W.Frag} {mg : Str → Option Value} {base : Heap} {cS cF cN cT cP : Addr}
/-- if isinstance(e, c1) or isinstance(e, c2) or not isinstance(e, ValueError): return False; told = (isinstance(e, c3), isinstance(e, c4)) -/
def tTold (K : PySem.W.Frag) (a : Addr) (c1 c2 c3 c4 : V) : Addr → TS := fun D =>
  tSeq (tIfS (tOr (tB (tIs K D a 7 c1)) (tOr (tB (tIs K D a 7 c2)) (tNot (tB (tIs K D a 7 (.ty "ValueError")))))) (tRet (tC (.bl false))) tNext) (tAsg (tTup (tCons (tIs K D a 7 c3) (tCons (tIs K D a 7 c4) tNil))) (gName 6))
theorem told_ok {D a c1 c2 c3 c4 : Addr} {σ : L2.St} {H : Hp} {E : Ends} {b3 b4 : Bool} (hi : σ[7]? = some (some (.ref a))) (h1 : PySem.W.kitOne K (.ref D) (.ref c1) = some false) (h2 : PySem.W.kitOne K (.ref D) (.ref c2) = some false)
    (hv : PySem.W.kitOne K (.ref D) (.type "ValueError") = some true) (h3 : PySem.W.kitOne K (.ref D) (.ref c3) = some b3) (h4 : PySem.W.kitOne K (.ref D) (.ref c4) = some b4)
    (q : ∀ t, H t = none → E.nx (σ.set 6 (some (.ref t))) (upd H t (.tup [.bl b3, .bl b4]))) : tTold K a (.ref c1) (.ref c2) (.ref c3) (.ref c4) D E σ H := by
  refine suite_is hi h1 ⟨_, rfl, iteF ?_⟩
  refine suite_is hi h2 ⟨_, rfl, iteF ?_⟩
  refine suite_ve hi hv ⟨_, rfl, iteF ?_⟩
  exact suite_is hi h3 (suite_is hi h4 ⟨small' (by simp), fun t nt => q t nt⟩)
theorem told_ret {σ : L2.St} {H : Hp} {E : Ends} {t : Addr} {due : Int} {b1 b2 : Bool} (h6 : σ[6]? = some (some (.ref t))) (h5 : σ[5]? = some (some (.int due))) (et : H t = some (.tup [.bl b1, .bl b2]))
    (e1 : decide (V.int due = V.int 0) = b1) (e2 : decide (V.int due = V.int 1) = b2) (q : ∀ H', Same H H' → E.rt (.bl true) H') :
    (tRet (tOp (rEqD K) (tVar 6) (tTup (tCons (tOp rEq (tVar 5) (tC (.int 0))) (tCons (tOp rEq (tVar 5) (tC (.int 1))) tNil))))) E σ H := by
  refine ⟨_, h6, _, h5, rfl, _, h5, rfl, small' (by simp), ?_⟩
  rw [e1, e2]
  intro u nu
  have s1 := same_upd (o := .tup [V.bl b1, .bl b2]) nu
  have d3 : SeqAt.shaped (.tuple [.bool b1, .bool b2]) = true := by cases b1 <;> cases b2 <;> decide
  refine ⟨.tuple [.bool b1, .bool b2], .tuple [.bool b1, .bool b2], .tup (SqT.of (s1 _ _ et)) (.cons (.bl _) (.cons (.bl _) .nil)), .tup (SqT.of upd_same) (.cons (.bl _) (.cons (.bl _) .nil)), d3, d3, ?_⟩
  rw [SeqAt.eqv_refl _ (SeqAt.canLay_of_shaped d3)]
  exact q _ s1
abbrev s__law_refused : Stmt := topS 25
abbrev N__law_refused : List Str := ["_law_which", "_law_lays", "_law_bad", "_law_places", "_law_bad_places", "_law_due", "_law_told", "e"]
theorem sc__law_refused : FnScope N__law_refused ["_law_which", "_law_lays", "_law_bad", "_law_places", "_law_bad_places"] (defScope s__law_refused) := ⟨rfl, rfl, rfl, by decide +kernel, rfl, by decide +kernel, by decide +kernel⟩
def sp__law_refused : Sp := fun vs H Q _ => ∃ (which : Int) (g : Addr) (ns : List Int) (x y : V) (k : Nat), vs = [.int which, .ref g, x, .int (k : Int), y] ∧ Hand H x ∧ isF H x = false ∧ FormAt H g ns ∧ ns.length ≤ 100000 ∧ WOk H y ∧ isPl y = false ∧ ∀ H', Same H H' → Q (.bl true) H'
theorem ok__law_refused (S : Src K mg "_law_refused" s__law_refused ["_law_which", "_law_lays", "_law_bad", "_law_places", "_law_bad_places"]) (B : Bi mg) (Z : Errs K mg cS cF cN cT cP) (C1 : Cal P w K mg base (L2.CX P w) 5 "halved" ["form"] (sp_halved cF))
    (C2 : CalD P w K mg base (L2.CX P w) 4 "parted" ["form", "places"] (sp_parted cF cP) [.int 1]) : Cal P w K mg base CX0 6 "_law_refused" ["_law_which", "_law_lays", "_law_bad", "_law_places", "_law_bad_places"] sp__law_refused := by
  obtain ⟨_, _, G_halved, g_halved, k_halved, b_halved⟩ := C1
  obtain ⟨_, _, G_parted, g_parted, k_parted, b_parted, _, d_parted1, b_parted1⟩ := C2
  have gS := Z.gS
  have ZF := Z.F
  have ZN := Z.N
  have ZT := Z.T
  have ZP := Z.P
  refine S.cal fun f fd F => F.ok sc__law_refused (fun vs H Q E h => ?_) (fun cdv A outer s H vs Q E hr h => ?_)
  · obtain ⟨c, g, ns, x, y, k, rfl, _⟩ := h
    rfl
  · obtain ⟨c, g, ns, x, y, k, rfl, hx, hf, fg, ln, hy, hp, q⟩ := h
    refine ⟨_, (pss_cons (ps_set (i := 5) sc__law_refused.nd rfl (.inl rfl) pe_int)
      (pss_cons (ps_set (i := 6) sc__law_refused.nd rfl (.inl rfl) pe_non)
      (pss_cons (ps_try_as (i := 7) (tb := fun W => (tIfS (tTest (tOp rEq (tVar 0) (tC (.int 0)))) (tDrop (tCallS (sp_halved cF) (WE W) (tCons (tVar 2) tNil))) (tIfS (tTest (tOp rEq (tVar 0) (tC (.int 1)))) (tDrop (tCallSD (sp_parted cF cP) [.int 1] (WE W) (tCons (tVar 2) tNil))) (tIfS (tTest (tOp rEq (tVar 0) (tC (.int 2)))) (tDrop (tCallS (sp_parted cF cP) (WE W) (tCons (tVar 2) (tCons (tVar 3) tNil)))) (tIfS (tTest (tOp rEq (tVar 0) (tC (.int 3)))) (tDrop (tCallS (sp_parted cF cP) (WE W) (tCons (tVar 2) (tCons (tVar 4) tNil)))) (tSeq (tAsg (tC (.int 1)) (gName 5)) (tDrop (tCallS (sp_parted cF cP) (WE W) (tCons (tVar 1) (tCons (tVar 4) tNil)))))))))) (ts := fun a cls d => tCls K cls d (tTold K a (.ref cN) (.ref cT) (.ref cF) (.ref cP))) (Wout := fun _ _ _ _ => False) rfl rfl sc__law_refused.nd rfl rfl ⟨rfl, by decide, .inl gS⟩ takes0
        (fun W pn xe tk _ => (pss_one (ps_if (pt_cmpR op_eq (pv 0) pe_int (nomark _)) (pss_one (ps_expr (by exact (pe_callS G_halved (hr.mono (by decide)) rfl g_halved k_halved b_halved (fun σ => passAt tk σ) (pa_cons (pv 2) pa_nil))))) (pss_one (ps_if (pt_cmpR op_eq (pv 0) pe_int (nomark _)) (pss_one (ps_expr (by exact (pe_callSD G_parted (hr.mono (by decide)) rfl g_parted k_parted b_parted1 d_parted1 (fun σ => passAt tk σ) (pa_cons (pv 2) pa_nil))))) (pss_one (ps_if (pt_cmpR op_eq (pv 0) pe_int (nomark _)) (pss_one (ps_expr (by exact (pe_callS G_parted (hr.mono (by decide)) rfl g_parted k_parted b_parted (fun σ => passAt tk σ) (pa_cons (pv 2) (pa_cons (pv 3) pa_nil)))))) (pss_one (ps_if (pt_cmpR op_eq (pv 0) pe_int (nomark _)) (pss_one (ps_expr (by exact (pe_callS G_parted (hr.mono (by decide)) rfl g_parted k_parted b_parted (fun σ => passAt tk σ) (pa_cons (pv 2) (pa_cons (pv 4) pa_nil)))))) (pss_cons (ps_set (i := 5) sc__law_refused.nd rfl (.inl rfl) pe_int)
                  (pss_one (ps_expr (by exact (pe_callS G_parted (hr.mono (by decide)) rfl g_parted k_parted b_parted (fun σ => passAt tk σ) (pa_cons (pv 1) (pa_cons (pv 4) pa_nil))))))))))))))))
        (fun a oe cls d pn hz hf => pss_cls hz (fun D0 hz XC => (pss_cons (ps_if (PW.pt (pw_or (pt_val (pe_callB (call_isE XC hz hf) (by rfl) B.isinstance (by decide +kernel) (pa_cons (pv 7) (pa_cons (pe_glob rfl ZN.g rfl) pa_nil)))) (pw_or (pt_val (pe_callB (call_isE XC hz hf) (by rfl) B.isinstance (by decide +kernel) (pa_cons (pv 7) (pa_cons (pe_glob rfl ZT.g rfl) pa_nil)))) (pw_or1 (pt_not (pt_val (pe_callB (call_isE XC hz hf) (by rfl) B.isinstance (by decide +kernel) (pa_cons (pv 7) (pa_cons (pe_bltn (v := .ty "ValueError") (by rfl) B.ValueError (by decide +kernel) rfl) pa_nil))))))))) (pss_one (ps_ret pe_bl)) pss_nil)
          (pss_one (ps_set (i := 6) sc__law_refused.nd rfl (.inl rfl) (pe_tup (pa_cons (pe_callB (call_isE XC hz hf) (by rfl) B.isinstance (by decide +kernel) (pa_cons (pv 7) (pa_cons (pe_glob rfl ZF.g rfl) pa_nil))) (pa_cons (pe_callB (call_isE XC hz hf) (by rfl) B.isinstance (by decide +kernel) (pa_cons (pv 7) (pa_cons (pe_glob rfl ZP.g rfl) pa_nil))) pa_nil)))))))))
      (pss_one (ps_ret (pe_cmpR (op_eqD hr.units) (pv 6) (pe_tup (pa_cons (pe_cmpR op_eq (pv 5) pe_int (nomark _)) (pa_cons (pe_cmpR op_eq (pv 5) pe_int (nomark _)) pa_nil))) (nomark _))))))), ?_⟩
    have e00 : decide (V.int 0 = V.int 0) = true := decide_eq_true rfl
    have e01 : decide (V.int 0 = V.int 1) = false := decide_eq_false (fun e => by cases e)
    have e10 : decide (V.int 1 = V.int 0) = false := decide_eq_false (fun e => by cases e)
    have e11 : decide (V.int 1 = V.int 1) = true := decide_eq_true rfl
    refine ⟨_, rfl, rfl, _, rfl, ite2 (fun _ => ?_) (fun _ => ?_)⟩
    · exact ⟨_, rfl, x, rfl, .bad hx hf fun H' sm => ⟨true, ZF.m, fun _ a ha => ⟨cF, rfl, rfl, ZF.c, told_ok rfl Z.FN Z.FT ZF.v kit_self Z.FP fun t nt => told_ret rfl rfl upd_same e00 e01 fun H2 s2 => q H2 (sm.trans ((same_upd nt).trans s2))⟩, fun q => nomatch q⟩⟩
    refine ⟨_, rfl, rfl, _, rfl, ite2 (fun _ => ?_) (fun _ => ?_)⟩
    · exact ⟨_, rfl, x, .int 1, rfl, trivial, .bad hx hf fun H' sm => ⟨true, ZF.m, fun _ a ha => ⟨cF, rfl, rfl, ZF.c, told_ok rfl Z.FN Z.FT ZF.v kit_self Z.FP fun t nt => told_ret rfl rfl upd_same e00 e01 fun H2 s2 => q H2 (sm.trans ((same_upd nt).trans s2))⟩, fun q => nomatch q⟩⟩
    refine ⟨_, rfl, rfl, _, rfl, ite2 (fun _ => ?_) (fun _ => ?_)⟩
    · exact ⟨_, rfl, _, rfl, x, _, rfl, trivial, .bad hx hf fun H' sm => ⟨true, ZF.m, fun _ a ha => ⟨cF, rfl, rfl, ZF.c, told_ok rfl Z.FN Z.FT ZF.v kit_self Z.FP fun t nt => told_ret rfl rfl upd_same e00 e01 fun H2 s2 => q H2 (sm.trans ((same_upd nt).trans s2))⟩, fun q => nomatch q⟩⟩
    refine ⟨_, rfl, rfl, _, rfl, ite2 (fun _ => ?_) (fun _ => ?_)⟩
    · exact ⟨_, rfl, _, rfl, x, y, rfl, hy, .bad hx hf fun H' sm => ⟨true, ZF.m, fun _ a ha => ⟨cF, rfl, rfl, ZF.c, told_ok rfl Z.FN Z.FT ZF.v kit_self Z.FP fun t nt => told_ret rfl rfl upd_same e00 e01 fun H2 s2 => q H2 (sm.trans ((same_upd nt).trans s2))⟩, fun q => nomatch q⟩⟩
    · refine ⟨_, rfl, _, rfl, .ref g, y, rfl, hy, .of fg ⟨ln, fun k e => ?_, fun _ H' sm => ⟨true, ZP.m, fun _ a ha => ⟨cP, rfl, rfl, ZP.c, told_ok rfl Z.PN Z.PT ZP.v Z.PF kit_self fun t nt => told_ret rfl rfl upd_same e10 e11 fun H2 s2 => q H2 (sm.trans ((same_upd nt).trans s2))⟩, fun q => nomatch q⟩⟩⟩
      rw [e] at hp
      have h2 : decide (0 ≤ (k : Int)) = false := hp
      rw [decide_eq_true (by omega)] at h2
      cases h2
end
/-! ### the law -/
section
variable {P : Program} {w : World} {K : PySem.W.Frag} {mg : Str → Option Value} {base : Heap} {cF cP : Addr}
theorem ne_tl {H : Hp} {a b : Addr} {xs ys : List V} (e1 : H a = some (.tup xs)) (e2 : H b = some (.lst ys)) : a ≠ b := fun e => by
  rw [e, e2] at e1
  cases e1
abbrev s_law : Stmt := topS 30
abbrev N_law : List Str := ["_law_script", "_law_head", "_law_lays", "_law_kept", "_law_places", "_law_half", "_law_told", "_law_cell", "_law_bad"]
theorem sc_law : FnScope N_law ["_law_script"] (defScope s_law) := ⟨rfl, rfl, rfl, by decide +kernel, rfl, by decide +kernel, by decide +kernel⟩
def sp_law (K : PySem.W.Frag) : Sp := fun vs H Q _ => ∃ (a : Addr) (ns : List Int), vs = [.ref a] ∧ SqL K H a (ns.map V.int) ∧ ns.length ≤ 63 ∧ ∀ H', Q (.bl true) H'
theorem ok_law {f : Addr} {fd : FuncData} (F : Fun K "law" "law" s_law f fd) (B : Bi mg) (C1 : Cal P w K mg base CX0 1 "_law_cell_at" ["_law_script", "_law_k"] (sp__law_cell_at K)) (C2 : Cal P w K mg base CX0 1 "_law_form_by" ["_law_way", "_law_cells"] (sp__law_form_by K))
    (C3 : Cal P w K mg base (L2.CX P w) 5 "halved" ["form"] (sp_halved cF)) (C4 : CalD P w K mg base (L2.CX P w) 4 "parted" ["form", "places"] (sp_parted cF cP) [.int 1]) (C5 : Cal P w K mg base CX0 3 "_law_half_is" ["_law_told", "_law_lays"] sp__law_half_is)
    (C6 : Cal P w K mg base CX0 3 "_law_parts_are" ["_law_told", "_law_lays", "_law_places"] sp__law_parts_are) (C7 : Cal P w K mg base CX0 2 "_law_is_form" ["_law_found"] sp_is_form) (C8 : Cal P w K mg base CX0 1 "_law_no_place_by" ["_law_cell"] sp__law_no_place_by)
    (C9 : Cal P w K mg base CX0 1 "_law_bad_by" ["_law_lays", "_law_cell"] (sp__law_bad_by K)) (C10 : Cal P w K mg base CX0 6 "_law_refused" ["_law_which", "_law_lays", "_law_bad", "_law_places", "_law_bad_places"] sp__law_refused) :
    FnOk P w K mg base CX0 7 f fd ["_law_script"] (sp_law K) := by
  obtain ⟨_, _, G__law_cell_at, g__law_cell_at, k__law_cell_at, b__law_cell_at⟩ := C1
  obtain ⟨_, _, G__law_form_by, g__law_form_by, k__law_form_by, b__law_form_by⟩ := C2
  obtain ⟨_, _, G_halved, g_halved, k_halved, b_halved⟩ := C3
  obtain ⟨_, _, G_parted, g_parted, k_parted, b_parted, _, d_parted1, b_parted1⟩ := C4
  obtain ⟨_, _, G__law_half_is, g__law_half_is, k__law_half_is, b__law_half_is⟩ := C5
  obtain ⟨_, _, G__law_parts_are, g__law_parts_are, k__law_parts_are, b__law_parts_are⟩ := C6
  obtain ⟨_, _, G__law_is_form, g__law_is_form, k__law_is_form, b__law_is_form⟩ := C7
  obtain ⟨_, _, G__law_no_place_by, g__law_no_place_by, k__law_no_place_by, b__law_no_place_by⟩ := C8
  obtain ⟨_, _, G__law_bad_by, g__law_bad_by, k__law_bad_by, b__law_bad_by⟩ := C9
  obtain ⟨_, _, G__law_refused, g__law_refused, k__law_refused, b__law_refused⟩ := C10
  refine F.ok sc_law (fun vs H Q E h => ?_) (fun cdv A outer s H vs Q E hr h => ?_)
  · obtain ⟨a, ns, rfl, _⟩ := h
    rfl
  · obtain ⟨a, ns, rfl, hS, hlen, q⟩ := h
    refine ⟨_, (pss_cons (ps_set (i := 1) sc_law.nd rfl (.inl rfl) (pe_call G__law_cell_at (hr.mono (by decide)) rfl g__law_cell_at k__law_cell_at b__law_cell_at .nil pass0 (pa_cons (pv 0) (pa_cons pe_int pa_nil))))
      (pss_cons (ps_set (i := 2) sc_law.nd rfl (.inl rfl) (pe_call G__law_form_by (hr.mono (by decide)) rfl g__law_form_by k__law_form_by b__law_form_by .nil pass0 (pa_cons (pe_op op_fdiv (pv 1) pe_int) (pa_cons (pe_slice sl_list (pv 0) (po_some pe_int) (po_some pe_int)) pa_nil))))
      (pss_cons (ps_set (i := 3) sc_law.nd rfl (.inl rfl) (pe_callTy call_list_of (by rfl) B.list (by decide +kernel) (pa_cons (pv 2) pa_nil)))
      (pss_cons (ps_set (i := 4) sc_law.nd rfl (.inl rfl) (pe_op op_mod (pe_call G__law_cell_at (hr.mono (by decide)) rfl g__law_cell_at k__law_cell_at b__law_cell_at .nil pass0 (pa_cons (pv 0) (pa_cons pe_int pa_nil))) (pe_op op_add (pe_callB call_len_seq (by rfl) B.len PySem.boot_len (pa_cons (pv 3) pa_nil)) pe_int)))
      (pss_cons (ps_set (i := 5) sc_law.nd rfl (.inl rfl) (pe_call G_halved (hr.mono (by decide)) rfl g_halved k_halved b_halved .nil passL (pa_cons (pv 2) pa_nil)))
      (pss_cons (ps_if (pt_not (pt_val (pe_call G__law_half_is (hr.mono (by decide)) rfl g__law_half_is k__law_half_is b__law_half_is .nil pass0 (pa_cons (pv 5) (pa_cons (pv 3) pa_nil))))) (pss_one (ps_ret pe_bl)) pss_nil)
      (pss_cons (ps_join (ps_if (pt_cmpR op_eq (pe_op op_mod (pv 1) pe_int) pe_int (nomark _)) (pss_cons (ps_set (i := 4) sc_law.nd rfl (.inl rfl) pe_int)
        (pss_one (ps_set (i := 6) sc_law.nd rfl (.inl rfl) (pe_call G_parted (hr.mono (by decide)) rfl g_parted k_parted b_parted1 d_parted1 passL (pa_cons (pv 2) pa_nil))))) (pss_one (ps_set (i := 6) sc_law.nd rfl (.inl rfl) (pe_call G_parted (hr.mono (by decide)) rfl g_parted k_parted b_parted .nil passL (pa_cons (pv 2) (pa_cons (pv 4) pa_nil)))))))
      (pss_cons (ps_if (pt_not (pt_val (pe_call G__law_parts_are (hr.mono (by decide)) rfl g__law_parts_are k__law_parts_are b__law_parts_are .nil pass0 (pa_cons (pv 6) (pa_cons (pv 3) (pa_cons (pv 4) pa_nil)))))) (pss_one (ps_ret pe_bl)) pss_nil)
      (pss_cons (ps_expr (pe_bm PySem.F.plainAttrs_list PySem.F.slot_list_append PySem.F.type_list_append mt_append (pe_ix ix_tup (pv 5) pe_int (fun _ _ => rfl)) (pa_cons pe_int pa_nil)))
      (pss_cons (ps_expr (pe_bm PySem.F.plainAttrs_list PySem.F.slot_list_append PySem.F.type_list_append mt_append (pe_ix ix_tup (pv 6) pe_int (fun _ _ => rfl)) (pa_cons pe_int pa_nil)))
      (pss_cons (ps_if (pt_not (pt_val (pe_call G__law_is_form (hr.mono (by decide)) rfl g__law_is_form k__law_is_form b__law_is_form .nil pass0 (pa_cons (pe_ix ix_tup (pv 6) pe_int (fun _ _ => rfl)) pa_nil)))) (pss_one (ps_ret pe_bl)) pss_nil)
      (pss_cons (ps_expr (pe_bm PySem.F.plainAttrs_list PySem.F.slot_list_append PySem.F.type_list_append mt_append (pe_ix ix_tup (pv 6) pe_int (fun _ _ => rfl)) (pa_cons pe_int pa_nil)))
      (pss_cons (ps_if (pt_cmpR (op_neD hr.units) (pv 2) (pv 3) (nomark _)) (pss_one (ps_ret pe_bl)) pss_nil)
      (pss_cons (ps_set (i := 7) sc_law.nd rfl (.inl rfl) (pe_call G__law_cell_at (hr.mono (by decide)) rfl g__law_cell_at k__law_cell_at b__law_cell_at .nil pass0 (pa_cons (pv 0) (pa_cons pe_int pa_nil))))
      (pss_cons (ps_set (i := 8) sc_law.nd rfl (.inl rfl) (pe_call G__law_bad_by (hr.mono (by decide)) rfl g__law_bad_by k__law_bad_by b__law_bad_by .nil pass0 (pa_cons (pv 3) (pa_cons (pe_op op_fdiv (pv 7) pe_int) pa_nil))))
      (pss_one (ps_ret (pe_call G__law_refused (hr.mono (by decide)) rfl g__law_refused k__law_refused b__law_refused .nil pass0 (pa_cons (pe_op op_mod (pv 7) pe_int) (pa_cons (pv 3) (pa_cons (pv 8) (pa_cons (pv 4) (pa_cons (pe_call G__law_no_place_by (hr.mono (by decide)) rfl g__law_no_place_by k__law_no_place_by b__law_no_place_by .nil pass0 (pa_cons (pe_op op_fdiv (pv 7) pe_int) pa_nil)) pa_nil))))))))))))))))))))))), ?_⟩
    refine ⟨_, rfl, a, ns, 0, rfl, hS, fun head => ?_⟩
    refine ⟨_, rfl, _, _, rfl, rfl, ⟨by decide, by decide⟩, _, rfl, _, rfl, _, rfl, a, _, rfl, hS, fun t nt => ?_⟩
    have m2 := same_upd (o := .lst (cutV (ns.map V.int) (some 3) (some 203))) nt
    refine ⟨_, t, cutI ns (some 3) (some 203), rfl, SqL.of (by rw [upd_same, cut_ints]), Nat.le_trans (cutI_len ..) hlen, fun H1 p ls sm np fp1 hl => ?_⟩
    have m3 := m2.trans sm
    refine ⟨_, rfl, p, _, rfl, .inl (SqL.of fp1.1), fun kp nkp => ?_⟩
    have k1 := same_upd (o := .lst (ls.map V.int)) nkp
    have m4 := m3.trans k1
    have ep := k1 _ _ fp1.1
    have ek := upd_same (H := H1) (a := kp) (o := .lst (ls.map V.int))
    have fp := fp1.2
    generalize upd H1 kp (.lst (ls.map V.int)) = H2 at m4 ep ek ⊢
    have e1 : (ls.map V.int).length = ls.length := List.length_map ..
    refine ⟨_, rfl, a, ns, 1, rfl, m4.seq hS, fun c1 => ⟨_, rfl, kp, _, rfl, .inl (SqL.of ek), _, _, rfl, rfl, _, _, rfl, rfl, (by show (0 : Int) < _; omega), ?_⟩⟩
    dsimp only
    rw [e1]
    have a0 := Int.emod_nonneg c1 (show ((ls.length : Int) + 13) ≠ 0 by omega)
    have a1 := Int.emod_lt_of_pos c1 (show (0 : Int) < (ls.length : Int) + 13 by omega)
    generalize c1 % ((ls.length : Int) + 13) = pl at a0 a1 ⊢
    obtain ⟨k0, rfl⟩ : ∃ k : Nat, pl = (k : Int) := ⟨pl.toNat, (Int.toNat_of_nonneg a0).symm⟩
    -- half
    refine ⟨_, rfl, .ref p, rfl, .of (show FormAt H2 p ls from ⟨ep, fp⟩) ⟨by omega, fun H5 th ph lh s5 nth nph eth fph hwh hlh => ?_⟩⟩
    refine ⟨_, rfl, _, rfl, th, ph, kp, lh, ls, rfl, eth, fph, s5 _ _ ek, by omega, hwh, fun H6 s6 => ⟨_, rfl, iteF ?_⟩⟩
    have u6 := s5.trans s6
    have fp6 : FormAt H6 p ls := ⟨u6 _ _ ep, fp⟩
    refine ⟨fun σ' H' => ∃ (k : Nat) (t q r : Addr) (ms : List Int), σ' = [some (.ref a), some (.int head), some (.ref p), some (.ref kp), some (.int (k : Int)), some (.ref th), some (.ref t), none, none] ∧ Same H6 H' ∧ k ≤ 10000 ∧ H' t = some (.tup [.ref q, .ref r]) ∧ FormAt H' q (ls.drop k) ∧ FormAt H' r ms ∧ TrimOf (ls.take k) ms ∧ q ≠ r ∧ H6 q = none ∧ H6 r = none, ?_, ?_⟩
    · rintro σ' H7 ⟨k, t, qa, r, ms, rfl, s7, hk, et, fq, fr, tr, nqr, nq, nr⟩
      have u7 := u6.trans s7
      have sml := wt_small (k := k) (lays_sub fp.1 fun x hx => List.mem_of_mem_take hx) (by rw [List.length_take]; omega : (ls.take k).length ≤ k)
      have ld : (ls.drop k).length ≤ ls.length := by rw [List.length_drop]; omega
      have lm : ms.length ≤ ls.length := Nat.le_trans tr.2.1 (by rw [List.length_take]; omega)
      refine ⟨_, rfl, _, rfl, _, rfl, t, qa, r, kp, ls.drop k, ms, ls, k, rfl, et, fq, fr, u7 _ _ ek, by omega, by omega, by rw [tr.wt]; exact wt_parts ls k, by rw [tr.wt]; exact sml.1, by rw [tr.wt]; exact sml.2, _, rfl, iteF ?_⟩
      -- half[0].append(5)
      have eth7 := s7 _ _ (s6 _ _ eth)
      have eph := s7 _ _ (s6 _ _ fph.1)
      have nph2 : H2 ph = none := nph
      have nqp : qa ≠ ph := fun e => by
        rw [e, s6 _ _ fph.1] at nq
        cases nq
      have nrp : r ≠ ph := fun e => by
        rw [e, s6 _ _ fph.1] at nr
        cases nr
      refine ⟨_, rfl, th, _, _, _, rfl, rfl, SqT.of eth7, (rfl : atI [V.ref ph, .int (odd ls)] 0 = some (V.ref ph)), .inl ⟨rfl, _, SqL.of eph⟩, ph, _, _, rfl, rfl, eph, small (ints_len (by omega)), ?_⟩
      have u8 := same_put (o := .lst (lh.map V.int ++ [V.int 5])) u7 nph2
      have et8 : upd H7 ph (.lst (lh.map V.int ++ [V.int 5])) t = some (.tup [.ref qa, .ref r]) := by rw [upd_ne (ne_tl et eph)]; exact et
      have eq8 : upd H7 ph (.lst (lh.map V.int ++ [V.int 5])) qa = some (.lst ((ls.drop k).map V.int)) := by rw [upd_ne nqp]; exact fq.1
      have er8 : upd H7 ph (.lst (lh.map V.int ++ [V.int 5])) r = some (.lst (ms.map V.int)) := by rw [upd_ne nrp]; exact fr.1
      generalize upd H7 ph (.lst (lh.map V.int ++ [V.int 5])) = H8 at u8 et8 eq8 er8 ⊢
      -- told[0].append(5)
      refine ⟨_, rfl, t, _, _, _, rfl, rfl, SqT.of et8, (rfl : atI [V.ref qa, .ref r] 0 = some (V.ref qa)), .inl ⟨rfl, _, SqL.of eq8⟩, qa, _, _, rfl, rfl, eq8, small (ints_len (by omega)), ?_⟩
      have u9 := same_put (o := .lst ((ls.drop k).map V.int ++ [V.int 5])) u8 (u6.free nq)
      have et9 : upd H8 qa (.lst ((ls.drop k).map V.int ++ [V.int 5])) t = some (.tup [.ref qa, .ref r]) := by rw [upd_ne (ne_tl et8 eq8)]; exact et8
      have fr9 : FormAt (upd H8 qa (.lst ((ls.drop k).map V.int ++ [V.int 5]))) r ms := ⟨by rw [upd_ne nqr.symm]; exact er8, fr.2⟩
      generalize upd H8 qa (.lst ((ls.drop k).map V.int ++ [V.int 5])) = H9 at u9 et9 fr9 ⊢
      refine ⟨_, rfl, t, _, _, _, rfl, rfl, SqT.of et9, (rfl : atI [V.ref qa, .ref r] 1 = some (V.ref r)), .ref r, rfl, fr9.hand, _, rfl, ?_⟩
      rw [fr9.isF]
      -- told[1].append(7)
      refine iteF ⟨_, rfl, t, _, _, _, rfl, rfl, SqT.of et9, (rfl : atI [V.ref qa, .ref r] 1 = some (V.ref r)), .inl ⟨rfl, _, SqL.of fr9.1⟩, r, _, _, rfl, rfl, fr9.1, small (ints_len (by omega)), ?_⟩
      have u10 := same_put (o := .lst (ms.map V.int ++ [V.int 7])) u9 (u6.free nr)
      generalize upd H9 r (.lst (ms.map V.int ++ [V.int 7])) = H10 at u10 ⊢
      obtain ⟨d, d1, d2, d3, d4⟩ := data_ints (K := K) (u10 _ _ ep) (u10 _ _ ek)
      refine ⟨_, rfl, _, rfl, d, d, d1, d2, d3, d3, _, rfl, ?_⟩
      rw [d4]
      refine iteF ⟨_, rfl, a, ns, 2, rfl, (m4.trans u10).seq hS, fun cell => ?_⟩
      refine ⟨_, rfl, _, rfl, _, _, rfl, rfl, ⟨by decide, by decide⟩, kp, _, ls, rfl, ⟨u10 _ _ ek, fp⟩, by omega, fun H11 b s11 bb => ?_⟩
      refine ⟨_, rfl, _, _, rfl, rfl, (by show (0 : Int) < _; decide), _, rfl, _, rfl, _, rfl, _, rfl, _, _, rfl, rfl, ⟨by decide, by decide⟩, _, rfl, fun H12 y s12 wy py => ?_⟩
      exact ⟨_, kp, ls, b, y, k, rfl, bb.1.same s12, by rw [isF_same s12 bb.1.1]; exact bb.2.1, ⟨s12 _ _ (s11 _ _ (u10 _ _ ek)), fp⟩, by omega, wy, py, fun H' _ => q H'⟩
    · refine ⟨_, rfl, _, _, rfl, rfl, (by show (0 : Int) < _; decide), rfl, _, rfl, ite2 (fun _ => ?_) (fun _ => ?_)⟩
      · refine ⟨_, rfl, .ref p, .int 1, rfl, trivial, .of fp6 ⟨by omega, fun k e H7 t qa r ms s7 nt nq nr nqr et fq fr tr => ?_, fun e => ?_⟩⟩
        · have e9 : k = 1 := by
            have := V.int.inj e
            omega
          subst e9
          exact ⟨1, t, qa, r, ms, rfl, s7, by decide, et, fq, fr, tr, nqr, nq, nr⟩
        · exact absurd e (by decide)
      · refine ⟨_, rfl, _, rfl, .ref p, .int (k0 : Int), rfl, trivial, .of fp6 ⟨by omega, fun k e H7 t qa r ms s7 nt nq nr nqr et fq fr tr => ?_, fun e => ?_⟩⟩
        · have e9 : k = k0 := by
            have := V.int.inj e
            omega
          subst e9
          exact ⟨k, t, qa, r, ms, rfl, s7, by omega, et, fq, fr, tr, nqr, nq, nr⟩
        · have e9 : decide (0 ≤ (k0 : Int)) = false := e
          rw [decide_eq_true (by omega)] at e9
          cases e9
end
end Pz
namespace Pz
open PySem PySem.Spec PyProof.Rows L2
/-! ### what the top leaves -/
theorem all_mk {l : PySem.W.OpenLaw} {w : World} {K : PySem.W.Frag} {h : Heap} {mg : Str → Option Value} {fa cS cF cN cT cP f1 f2 f3 f4 f5 f6 f7 f8 f9 f10 f11 f12 f13 f14 f15 f16 f17 f18 f19 f20 : Addr} (X : K.In h) (G : h.Ns mainGlobals mg) (hfa : mg "law" = some (.ref fa))
    {od1 an1 od2 an2 od3 an3 od4 an4 od5 an5 od6 an6 od7 an7 od8 an8 oD9 od9 an9 od10 an10 od11 an11 od12 an12 od13 an13 od14 an14 od15 an15 od16 an16 od17 an17 od18 an18 od19 an19 od20 an20 : Option Addr} {sl1 sl2 sl3 sl4 sl5 sl6 sl7 sl8 sT9 sl9 sl10 sl11 sl12 sl13 sl14 sl15 sl16 sl17 sl18 sl19 sl20 : Array (Option Value)} {oc1 kV1 dc1 pm1 cd1 ct1 oc2 kV2 dc2 pm2 cd2 ct2 oc3 kV3 dc3 pm3 cd3 ct3 oc4 kV4 dc4 pm4 cd4 ct4 oc5 kV5 dc5 pm5 cd5 ct5 oc6 kV6 dc6 pm6 cd6 ct6 oc7 kV7 dc7 pm7 cd7 ct7 oc8 kV8 dc8 pm8 cd8 ct8 oT9 oc9 kV9 dc9 pm9 cd9 ct9 oc10 kV10 dc10 pm10 cd10 ct10 oc11 kV11 dc11 pm11 cd11 ct11 oc12 kV12 dc12 pm12 cd12 ct12 oc13 kV13 dc13 pm13 cd13 ct13 oc14 kV14 dc14 pm14 cd14 ct14 oc15 kV15 dc15 pm15 cd15 ct15 oc16 kV16 dc16 pm16 cd16 ct16 oc17 kV17 dc17 pm17 cd17 ct17 oc18 kV18 dc18 pm18 cd18 ct18 oc19 kV19 dc19 pm19 cd19 ct19 oc20 kV20 dc20 pm20 cd20 ct20 : Value} {dT9 : Addr} {tk9 : Tok} {nT9 : Nat}
    (a1 : PySem.W.nsIn K mainGlobals "is_whole" = some (some (.ref f1)))
    (l1 : K.lookup f1 = some ⟨oc1, od1, .func (PySem.W.fnOf "is_whole" "is_whole" (defArgs s_is_whole) (defBody s_is_whole) (defScope s_is_whole) .none kV1 dc1 pm1 an1 cd1 ct1), sl1⟩)
    (c1 : PySem.W.codeIn K cd1 "is_whole" = true)
    (k1 : PySem.W.keepIn K (.ref f1) = true)
    (a2 : PySem.W.nsIn K mainGlobals "is_form" = some (some (.ref f2)))
    (l2 : K.lookup f2 = some ⟨oc2, od2, .func (PySem.W.fnOf "is_form" "is_form" (defArgs s_is_form) (defBody s_is_form) (defScope s_is_form) .none kV2 dc2 pm2 an2 cd2 ct2), sl2⟩)
    (c2 : PySem.W.codeIn K cd2 "is_form" = true)
    (k2 : PySem.W.keepIn K (.ref f2) = true)
    (a3 : PySem.W.nsIn K mainGlobals "checked" = some (some (.ref f3)))
    (l3 : K.lookup f3 = some ⟨oc3, od3, .func (PySem.W.fnOf "checked" "checked" (defArgs s_checked) (defBody s_checked) (defScope s_checked) .none kV3 dc3 pm3 an3 cd3 ct3), sl3⟩)
    (c3 : PySem.W.codeIn K cd3 "checked" = true)
    (k3 : PySem.W.keepIn K (.ref f3) = true)
    (a4 : PySem.W.nsIn K mainGlobals "trimmed" = some (some (.ref f4)))
    (l4 : K.lookup f4 = some ⟨oc4, od4, .func (PySem.W.fnOf "trimmed" "trimmed" (defArgs s_trimmed) (defBody s_trimmed) (defScope s_trimmed) .none kV4 dc4 pm4 an4 cd4 ct4), sl4⟩)
    (c4 : PySem.W.codeIn K cd4 "trimmed" = true)
    (k4 : PySem.W.keepIn K (.ref f4) = true)
    (a5 : PySem.W.nsIn K mainGlobals "lay_at" = some (some (.ref f5)))
    (l5 : K.lookup f5 = some ⟨oc5, od5, .func (PySem.W.fnOf "lay_at" "lay_at" (defArgs s_lay_at) (defBody s_lay_at) (defScope s_lay_at) .none kV5 dc5 pm5 an5 cd5 ct5), sl5⟩)
    (c5 : PySem.W.codeIn K cd5 "lay_at" = true)
    (k5 : PySem.W.keepIn K (.ref f5) = true)
    (a6 : PySem.W.nsIn K mainGlobals "walked" = some (some (.ref f6)))
    (l6 : K.lookup f6 = some ⟨oc6, od6, .func (PySem.W.fnOf "walked" "walked" (defArgs s_walked) (defBody s_walked) (defScope s_walked) .none kV6 dc6 pm6 an6 cd6 ct6), sl6⟩)
    (c6 : PySem.W.codeIn K cd6 "walked" = true)
    (k6 : PySem.W.keepIn K (.ref f6) = true)
    (a7 : PySem.W.nsIn K mainGlobals "added" = some (some (.ref f7)))
    (l7 : K.lookup f7 = some ⟨oc7, od7, .func (PySem.W.fnOf "added" "added" (defArgs s_added) (defBody s_added) (defScope s_added) .none kV7 dc7 pm7 an7 cd7 ct7), sl7⟩)
    (c7 : PySem.W.codeIn K cd7 "added" = true)
    (k7 : PySem.W.keepIn K (.ref f7) = true)
    (a8 : PySem.W.nsIn K mainGlobals "halved" = some (some (.ref f8)))
    (l8 : K.lookup f8 = some ⟨oc8, od8, .func (PySem.W.fnOf "halved" "halved" (defArgs s_halved) (defBody s_halved) (defScope s_halved) .none kV8 dc8 pm8 an8 cd8 ct8), sl8⟩)
    (c8 : PySem.W.codeIn K cd8 "halved" = true)
    (k8 : PySem.W.keepIn K (.ref f8) = true)
    (a9 : PySem.W.nsIn K mainGlobals "parted" = some (some (.ref f9)))
    (l9 : K.lookup f9 = some ⟨oc9, od9, .func (PySem.W.fnOf "parted" "parted" (defArgs s_parted) (defBody s_parted) (defScope s_parted) (.ref dT9) kV9 dc9 pm9 an9 cd9 ct9), sl9⟩)
    (y9 : K.lookup dT9 = some ⟨oT9, oD9, .seq #[.int 1 tk9] nT9, sT9⟩)
    (c9 : PySem.W.codeIn K cd9 "parted" = true)
    (k9 : PySem.W.keepIn K (.ref f9) = true)
    (a10 : PySem.W.nsIn K mainGlobals "_law_cell_at" = some (some (.ref f10)))
    (l10 : K.lookup f10 = some ⟨oc10, od10, .func (PySem.W.fnOf "_law_cell_at" "_law_cell_at" (defArgs s__law_cell_at) (defBody s__law_cell_at) (defScope s__law_cell_at) .none kV10 dc10 pm10 an10 cd10 ct10), sl10⟩)
    (c10 : PySem.W.codeIn K cd10 "_law_cell_at" = true)
    (k10 : PySem.W.keepIn K (.ref f10) = true)
    (a11 : PySem.W.nsIn K mainGlobals "_law_whole" = some (some (.ref f11)))
    (l11 : K.lookup f11 = some ⟨oc11, od11, .func (PySem.W.fnOf "_law_whole" "_law_whole" (defArgs s__law_whole) (defBody s__law_whole) (defScope s__law_whole) .none kV11 dc11 pm11 an11 cd11 ct11), sl11⟩)
    (c11 : PySem.W.codeIn K cd11 "_law_whole" = true)
    (k11 : PySem.W.keepIn K (.ref f11) = true)
    (a12 : PySem.W.nsIn K mainGlobals "_law_form_by" = some (some (.ref f12)))
    (l12 : K.lookup f12 = some ⟨oc12, od12, .func (PySem.W.fnOf "_law_form_by" "_law_form_by" (defArgs s__law_form_by) (defBody s__law_form_by) (defScope s__law_form_by) .none kV12 dc12 pm12 an12 cd12 ct12), sl12⟩)
    (c12 : PySem.W.codeIn K cd12 "_law_form_by" = true)
    (k12 : PySem.W.keepIn K (.ref f12) = true)
    (a13 : PySem.W.nsIn K mainGlobals "_law_bad_by" = some (some (.ref f13)))
    (l13 : K.lookup f13 = some ⟨oc13, od13, .func (PySem.W.fnOf "_law_bad_by" "_law_bad_by" (defArgs s__law_bad_by) (defBody s__law_bad_by) (defScope s__law_bad_by) .none kV13 dc13 pm13 an13 cd13 ct13), sl13⟩)
    (c13 : PySem.W.codeIn K cd13 "_law_bad_by" = true)
    (k13 : PySem.W.keepIn K (.ref f13) = true)
    (a14 : PySem.W.nsIn K mainGlobals "_law_no_place_by" = some (some (.ref f14)))
    (l14 : K.lookup f14 = some ⟨oc14, od14, .func (PySem.W.fnOf "_law_no_place_by" "_law_no_place_by" (defArgs s__law_no_place_by) (defBody s__law_no_place_by) (defScope s__law_no_place_by) .none kV14 dc14 pm14 an14 cd14 ct14), sl14⟩)
    (c14 : PySem.W.codeIn K cd14 "_law_no_place_by" = true)
    (k14 : PySem.W.keepIn K (.ref f14) = true)
    (a15 : PySem.W.nsIn K mainGlobals "_law_refused" = some (some (.ref f15)))
    (l15 : K.lookup f15 = some ⟨oc15, od15, .func (PySem.W.fnOf "_law_refused" "_law_refused" (defArgs s__law_refused) (defBody s__law_refused) (defScope s__law_refused) .none kV15 dc15 pm15 an15 cd15 ct15), sl15⟩)
    (c15 : PySem.W.codeIn K cd15 "_law_refused" = true)
    (k15 : PySem.W.keepIn K (.ref f15) = true)
    (a16 : PySem.W.nsIn K mainGlobals "_law_is_form" = some (some (.ref f16)))
    (l16 : K.lookup f16 = some ⟨oc16, od16, .func (PySem.W.fnOf "_law_is_form" "_law_is_form" (defArgs s__law_is_form) (defBody s__law_is_form) (defScope s__law_is_form) .none kV16 dc16 pm16 an16 cd16 ct16), sl16⟩)
    (c16 : PySem.W.codeIn K cd16 "_law_is_form" = true)
    (k16 : PySem.W.keepIn K (.ref f16) = true)
    (a17 : PySem.W.nsIn K mainGlobals "_law_weight" = some (some (.ref f17)))
    (l17 : K.lookup f17 = some ⟨oc17, od17, .func (PySem.W.fnOf "_law_weight" "_law_weight" (defArgs s__law_weight) (defBody s__law_weight) (defScope s__law_weight) .none kV17 dc17 pm17 an17 cd17 ct17), sl17⟩)
    (c17 : PySem.W.codeIn K cd17 "_law_weight" = true)
    (k17 : PySem.W.keepIn K (.ref f17) = true)
    (a18 : PySem.W.nsIn K mainGlobals "_law_half_is" = some (some (.ref f18)))
    (l18 : K.lookup f18 = some ⟨oc18, od18, .func (PySem.W.fnOf "_law_half_is" "_law_half_is" (defArgs s__law_half_is) (defBody s__law_half_is) (defScope s__law_half_is) .none kV18 dc18 pm18 an18 cd18 ct18), sl18⟩)
    (c18 : PySem.W.codeIn K cd18 "_law_half_is" = true)
    (k18 : PySem.W.keepIn K (.ref f18) = true)
    (a19 : PySem.W.nsIn K mainGlobals "_law_parts_are" = some (some (.ref f19)))
    (l19 : K.lookup f19 = some ⟨oc19, od19, .func (PySem.W.fnOf "_law_parts_are" "_law_parts_are" (defArgs s__law_parts_are) (defBody s__law_parts_are) (defScope s__law_parts_are) .none kV19 dc19 pm19 an19 cd19 ct19), sl19⟩)
    (c19 : PySem.W.codeIn K cd19 "_law_parts_are" = true)
    (k19 : PySem.W.keepIn K (.ref f19) = true)
    (a20 : PySem.W.nsIn K mainGlobals "law" = some (some (.ref f20)))
    (l20 : K.lookup f20 = some ⟨oc20, od20, .func (PySem.W.fnOf "law" "law" (defArgs s_law) (defBody s_law) (defScope s_law) .none kV20 dc20 pm20 an20 cd20 ct20), sl20⟩)
    (c20 : PySem.W.codeIn K cd20 "law" = true)
    (k20 : PySem.W.keepIn K (.ref f20) = true)
    (eS : PySem.W.nsIn K mainGlobals "ScaleError" = some (some (.ref cS)))
    (bS : PySem.W.subIn K (.ref cS) (.type "BaseException") = some true)
    (dS : PySem.W.hasDictIn K cS = true)
    (tS : PySem.W.typeIn K (.ref cS) = some (.type "type"))
    (hn : PySem.W.specialIn K (.builtin "object.__class__") "__get__" = some (some (.builtin "getset_descriptor.__get__")))
    (ht : PySem.W.takesIn K (.builtin "object.__class__") = some true)
    (eF : PySem.W.nsIn K mainGlobals "NoForm" = some (some (.ref cF)))
    (xF : PySem.W.excIn K cF [.type "ValueError", .type "Exception", .type "BaseException", .type "object"] "ValueError.__new__" = true)
    (qF : PySem.W.keepIn K (.ref cF) = true)
    (bF : PySem.W.subIn K (.ref cF) (.type "BaseException") = some true)
    (tF : PySem.W.typeIn K (.ref cF) = some (.type "type"))
    (sF : PySem.W.subIn K (.ref cF) (.ref cS) = some true)
    (gF : PySem.W.findIn K (.ref cF) "__getattribute__" = some (some (.builtin "BaseException.__getattribute__")))
    (uF : PySem.W.findIn K (.ref cF) "__getattr__" = some none)
    (dF : PySem.W.hasDictIn K cF = true)
    (rF : PySem.W.findIn K (.ref cF) "__class__" = some (some (.builtin "object.__class__")))
    (mF : PySem.W.mroIn K cF (.type "object") = some true)
    (vF : PySem.W.subIn K (.ref cF) (.type "ValueError") = some true)
    (wF : PySem.W.subIn K (.ref cF) (.ref cF) = some true)
    (eN : PySem.W.nsIn K mainGlobals "NoNumber" = some (some (.ref cN)))
    (xN : PySem.W.excIn K cN [.type "ValueError", .type "Exception", .type "BaseException", .type "object"] "ValueError.__new__" = true)
    (qN : PySem.W.keepIn K (.ref cN) = true)
    (bN : PySem.W.subIn K (.ref cN) (.type "BaseException") = some true)
    (tN : PySem.W.typeIn K (.ref cN) = some (.type "type"))
    (sN : PySem.W.subIn K (.ref cN) (.ref cS) = some true)
    (gN : PySem.W.findIn K (.ref cN) "__getattribute__" = some (some (.builtin "BaseException.__getattribute__")))
    (uN : PySem.W.findIn K (.ref cN) "__getattr__" = some none)
    (dN : PySem.W.hasDictIn K cN = true)
    (rN : PySem.W.findIn K (.ref cN) "__class__" = some (some (.builtin "object.__class__")))
    (mN : PySem.W.mroIn K cN (.type "object") = some true)
    (vN : PySem.W.subIn K (.ref cN) (.type "ValueError") = some true)
    (wN : PySem.W.subIn K (.ref cN) (.ref cN) = some true)
    (eT : PySem.W.nsIn K mainGlobals "NoText" = some (some (.ref cT)))
    (xT : PySem.W.excIn K cT [.type "ValueError", .type "Exception", .type "BaseException", .type "object"] "ValueError.__new__" = true)
    (qT : PySem.W.keepIn K (.ref cT) = true)
    (bT : PySem.W.subIn K (.ref cT) (.type "BaseException") = some true)
    (tT : PySem.W.typeIn K (.ref cT) = some (.type "type"))
    (sT : PySem.W.subIn K (.ref cT) (.ref cS) = some true)
    (gT : PySem.W.findIn K (.ref cT) "__getattribute__" = some (some (.builtin "BaseException.__getattribute__")))
    (uT : PySem.W.findIn K (.ref cT) "__getattr__" = some none)
    (dT : PySem.W.hasDictIn K cT = true)
    (rT : PySem.W.findIn K (.ref cT) "__class__" = some (some (.builtin "object.__class__")))
    (mT : PySem.W.mroIn K cT (.type "object") = some true)
    (vT : PySem.W.subIn K (.ref cT) (.type "ValueError") = some true)
    (wT : PySem.W.subIn K (.ref cT) (.ref cT) = some true)
    (eP : PySem.W.nsIn K mainGlobals "NoPlace" = some (some (.ref cP)))
    (xP : PySem.W.excIn K cP [.type "ValueError", .type "Exception", .type "BaseException", .type "object"] "ValueError.__new__" = true)
    (qP : PySem.W.keepIn K (.ref cP) = true)
    (bP : PySem.W.subIn K (.ref cP) (.type "BaseException") = some true)
    (tP : PySem.W.typeIn K (.ref cP) = some (.type "type"))
    (sP : PySem.W.subIn K (.ref cP) (.ref cS) = some true)
    (gP : PySem.W.findIn K (.ref cP) "__getattribute__" = some (some (.builtin "BaseException.__getattribute__")))
    (uP : PySem.W.findIn K (.ref cP) "__getattr__" = some none)
    (dP : PySem.W.hasDictIn K cP = true)
    (rP : PySem.W.findIn K (.ref cP) "__class__" = some (some (.builtin "object.__class__")))
    (mP : PySem.W.mroIn K cP (.type "object") = some true)
    (vP : PySem.W.subIn K (.ref cP) (.type "ValueError") = some true)
    (wP : PySem.W.subIn K (.ref cP) (.ref cP) = some true)
    (zFN : PySem.W.subIn K (.ref cF) (.ref cN) = some false)
    (zFT : PySem.W.subIn K (.ref cF) (.ref cT) = some false)
    (zFP : PySem.W.subIn K (.ref cF) (.ref cP) = some false)
    (zNF : PySem.W.subIn K (.ref cN) (.ref cF) = some false)
    (zNT : PySem.W.subIn K (.ref cN) (.ref cT) = some false)
    (zNP : PySem.W.subIn K (.ref cN) (.ref cP) = some false)
    (zTF : PySem.W.subIn K (.ref cT) (.ref cF) = some false)
    (zTN : PySem.W.subIn K (.ref cT) (.ref cN) = some false)
    (zTP : PySem.W.subIn K (.ref cT) (.ref cP) = some false)
    (zPF : PySem.W.subIn K (.ref cP) (.ref cF) = some false)
    (zPN : PySem.W.subIn K (.ref cP) (.ref cN) = some false)
    (zPT : PySem.W.subIn K (.ref cP) (.ref cT) = some false)
    (n_ValueError : PySem.W.nsIn K mainGlobals "ValueError" = some none)
    (n_abs : PySem.W.nsIn K mainGlobals "abs" = some none)
    (n_bool : PySem.W.nsIn K mainGlobals "bool" = some none)
    (n_divmod : PySem.W.nsIn K mainGlobals "divmod" = some none)
    (n_int : PySem.W.nsIn K mainGlobals "int" = some none)
    (n_isinstance : PySem.W.nsIn K mainGlobals "isinstance" = some none)
    (n_len : PySem.W.nsIn K mainGlobals "len" = some none)
    (n_list : PySem.W.nsIn K mainGlobals "list" = some none)
    (n_max : PySem.W.nsIn K mainGlobals "max" = some none)
    (n_range : PySem.W.nsIn K mainGlobals "range" = some none)
    (n_reversed : PySem.W.nsIn K mainGlobals "reversed" = some none)
    (n_tuple : PySem.W.nsIn K mainGlobals "tuple" = some none) :
    ∃ fd : FuncData, (∀ (s : Shared) (v : Value), BindsTo s fd ⟨[v], []⟩ [("_law_script", v)]) ∧ ∀ base : Heap, K.In base → base.Ns mainGlobals mg → FnOk l.prog w K mg base CX0 7 fa fd ["_law_script"] (sp_law K) := by
  have e := hfa.symm.trans (PySem.W.mg_of X G a20)
  cases e
  have B : Bi mg := ⟨PySem.W.mg_none_of X G n_ValueError, PySem.W.mg_none_of X G n_abs, PySem.W.mg_none_of X G n_bool, PySem.W.mg_none_of X G n_divmod, PySem.W.mg_none_of X G n_int, PySem.W.mg_none_of X G n_isinstance, PySem.W.mg_none_of X G n_len, PySem.W.mg_none_of X G n_list, PySem.W.mg_none_of X G n_max, PySem.W.mg_none_of X G n_range, PySem.W.mg_none_of X G n_reversed, PySem.W.mg_none_of X G n_tuple⟩
  have ZF : ErrC K mg "NoForm" cF cS := ⟨PySem.W.mg_of X G eF, xF, qF, bF, tF, PySem.W.exm_ref bS dS tS sF, ⟨gF, uF, bF, dF, rF, hn, ht, mF⟩, kit_ve vF⟩
  have ZN : ErrC K mg "NoNumber" cN cS := ⟨PySem.W.mg_of X G eN, xN, qN, bN, tN, PySem.W.exm_ref bS dS tS sN, ⟨gN, uN, bN, dN, rN, hn, ht, mN⟩, kit_ve vN⟩
  have ZT : ErrC K mg "NoText" cT cS := ⟨PySem.W.mg_of X G eT, xT, qT, bT, tT, PySem.W.exm_ref bS dS tS sT, ⟨gT, uT, bT, dT, rT, hn, ht, mT⟩, kit_ve vT⟩
  have ZP : ErrC K mg "NoPlace" cP cS := ⟨PySem.W.mg_of X G eP, xP, qP, bP, tP, PySem.W.exm_ref bS dS tS sP, ⟨gP, uP, bP, dP, rP, hn, ht, mP⟩, kit_ve vP⟩
  have Z : Errs K mg cS cF cN cT cP := ⟨PySem.W.mg_of X G eS, ZF, ZN, ZT, ZP, kit_no dN tN wF zFN, kit_no dT tT wF zFT, kit_no dP tP wF zFP, kit_no dF tF wN zNF, kit_no dT tT wN zNT, kit_no dP tP wN zNP, kit_no dF tF wT zTF, kit_no dN tN wT zTN, kit_no dP tP wT zTP, kit_no dF tF wP zPF, kit_no dN tN wP zPN, kit_no dT tT wP zPT⟩
  have S_is_whole : Src K mg "is_whole" s_is_whole ["thing"] := ⟨f1, _, fun_mk (st := s_is_whole) l1 c1 k1, PySem.W.mg_of X G a1, (fun_mk (st := s_is_whole) l1 c1 k1).binds (ps := ["thing"]) fun _ _ _ _ _ _ us hl => match us, hl with | [_], _ => rfl⟩
  have S_is_form : Src K mg "is_form" s_is_form ["thing"] := ⟨f2, _, fun_mk (st := s_is_form) l2 c2 k2, PySem.W.mg_of X G a2, (fun_mk (st := s_is_form) l2 c2 k2).binds (ps := ["thing"]) fun _ _ _ _ _ _ us hl => match us, hl with | [_], _ => rfl⟩
  have S_checked : Src K mg "checked" s_checked ["thing"] := ⟨f3, _, fun_mk (st := s_checked) l3 c3 k3, PySem.W.mg_of X G a3, (fun_mk (st := s_checked) l3 c3 k3).binds (ps := ["thing"]) fun _ _ _ _ _ _ us hl => match us, hl with | [_], _ => rfl⟩
  have S_trimmed : Src K mg "trimmed" s_trimmed ["lays"] := ⟨f4, _, fun_mk (st := s_trimmed) l4 c4 k4, PySem.W.mg_of X G a4, (fun_mk (st := s_trimmed) l4 c4 k4).binds (ps := ["lays"]) fun _ _ _ _ _ _ us hl => match us, hl with | [_], _ => rfl⟩
  have S_lay_at : Src K mg "lay_at" s_lay_at ["form", "place"] := ⟨f5, _, fun_mk (st := s_lay_at) l5 c5 k5, PySem.W.mg_of X G a5, (fun_mk (st := s_lay_at) l5 c5 k5).binds (ps := ["form", "place"]) fun _ _ _ _ _ _ us hl => match us, hl with | [_, _], _ => rfl⟩
  have S_walked : Src K mg "walked" s_walked ["one", "other"] := ⟨f6, _, fun_mk (st := s_walked) l6 c6 k6, PySem.W.mg_of X G a6, (fun_mk (st := s_walked) l6 c6 k6).binds (ps := ["one", "other"]) fun _ _ _ _ _ _ us hl => match us, hl with | [_, _], _ => rfl⟩
  have S_added : Src K mg "added" s_added ["one", "other"] := ⟨f7, _, fun_mk (st := s_added) l7 c7 k7, PySem.W.mg_of X G a7, (fun_mk (st := s_added) l7 c7 k7).binds (ps := ["one", "other"]) fun _ _ _ _ _ _ us hl => match us, hl with | [_, _], _ => rfl⟩
  have S_halved : Src K mg "halved" s_halved ["form"] := ⟨f8, _, fun_mk (st := s_halved) l8 c8 k8, PySem.W.mg_of X G a8, (fun_mk (st := s_halved) l8 c8 k8).binds (ps := ["form"]) fun _ _ _ _ _ _ us hl => match us, hl with | [_], _ => rfl⟩
  have S_parted : SrcD K mg "parted" s_parted ["form", "places"] [.int 1] := .mk1 ⟨⟨oc9, od9, .ref dT9, kV9, dc9, pm9, an9, cd9, ct9, sl9, rfl, l9, c9, .inr ⟨(by simp), dT9, _, _, nT9, rfl, y9, rfl, vals_one⟩, .inl rfl⟩, k9⟩ (PySem.W.mg_of X G a9) (fun T kV doc pm an cdv ct us its hu hi => match us, its, hu, hi with | [_], [_], _, _ => ⟨_, rfl, rfl⟩) (fun T kV doc pm an cdv ct us its hu hi => match us, its, hu, hi with | [_, _], [_], _, _ => ⟨_, rfl, rfl⟩)
  have S__law_cell_at : Src K mg "_law_cell_at" s__law_cell_at ["_law_script", "_law_k"] := ⟨f10, _, fun_mk (st := s__law_cell_at) l10 c10 k10, PySem.W.mg_of X G a10, (fun_mk (st := s__law_cell_at) l10 c10 k10).binds (ps := ["_law_script", "_law_k"]) fun _ _ _ _ _ _ us hl => match us, hl with | [_, _], _ => rfl⟩
  have S__law_whole : Src K mg "_law_whole" s__law_whole ["_law_found"] := ⟨f11, _, fun_mk (st := s__law_whole) l11 c11 k11, PySem.W.mg_of X G a11, (fun_mk (st := s__law_whole) l11 c11 k11).binds (ps := ["_law_found"]) fun _ _ _ _ _ _ us hl => match us, hl with | [_], _ => rfl⟩
  have S__law_form_by : Src K mg "_law_form_by" s__law_form_by ["_law_way", "_law_cells"] := ⟨f12, _, fun_mk (st := s__law_form_by) l12 c12 k12, PySem.W.mg_of X G a12, (fun_mk (st := s__law_form_by) l12 c12 k12).binds (ps := ["_law_way", "_law_cells"]) fun _ _ _ _ _ _ us hl => match us, hl with | [_, _], _ => rfl⟩
  have S__law_bad_by : Src K mg "_law_bad_by" s__law_bad_by ["_law_lays", "_law_cell"] := ⟨f13, _, fun_mk (st := s__law_bad_by) l13 c13 k13, PySem.W.mg_of X G a13, (fun_mk (st := s__law_bad_by) l13 c13 k13).binds (ps := ["_law_lays", "_law_cell"]) fun _ _ _ _ _ _ us hl => match us, hl with | [_, _], _ => rfl⟩
  have S__law_no_place_by : Src K mg "_law_no_place_by" s__law_no_place_by ["_law_cell"] := ⟨f14, _, fun_mk (st := s__law_no_place_by) l14 c14 k14, PySem.W.mg_of X G a14, (fun_mk (st := s__law_no_place_by) l14 c14 k14).binds (ps := ["_law_cell"]) fun _ _ _ _ _ _ us hl => match us, hl with | [_], _ => rfl⟩
  have S__law_refused : Src K mg "_law_refused" s__law_refused ["_law_which", "_law_lays", "_law_bad", "_law_places", "_law_bad_places"] := ⟨f15, _, fun_mk (st := s__law_refused) l15 c15 k15, PySem.W.mg_of X G a15, (fun_mk (st := s__law_refused) l15 c15 k15).binds (ps := ["_law_which", "_law_lays", "_law_bad", "_law_places", "_law_bad_places"]) fun _ _ _ _ _ _ us hl => match us, hl with | [_, _, _, _, _], _ => rfl⟩
  have S__law_is_form : Src K mg "_law_is_form" s__law_is_form ["_law_found"] := ⟨f16, _, fun_mk (st := s__law_is_form) l16 c16 k16, PySem.W.mg_of X G a16, (fun_mk (st := s__law_is_form) l16 c16 k16).binds (ps := ["_law_found"]) fun _ _ _ _ _ _ us hl => match us, hl with | [_], _ => rfl⟩
  have S__law_weight : Src K mg "_law_weight" s__law_weight ["_law_lays"] := ⟨f17, _, fun_mk (st := s__law_weight) l17 c17 k17, PySem.W.mg_of X G a17, (fun_mk (st := s__law_weight) l17 c17 k17).binds (ps := ["_law_lays"]) fun _ _ _ _ _ _ us hl => match us, hl with | [_], _ => rfl⟩
  have S__law_half_is : Src K mg "_law_half_is" s__law_half_is ["_law_told", "_law_lays"] := ⟨f18, _, fun_mk (st := s__law_half_is) l18 c18 k18, PySem.W.mg_of X G a18, (fun_mk (st := s__law_half_is) l18 c18 k18).binds (ps := ["_law_told", "_law_lays"]) fun _ _ _ _ _ _ us hl => match us, hl with | [_, _], _ => rfl⟩
  have S__law_parts_are : Src K mg "_law_parts_are" s__law_parts_are ["_law_told", "_law_lays", "_law_places"] := ⟨f19, _, fun_mk (st := s__law_parts_are) l19 c19 k19, PySem.W.mg_of X G a19, (fun_mk (st := s__law_parts_are) l19 c19 k19).binds (ps := ["_law_told", "_law_lays", "_law_places"]) fun _ _ _ _ _ _ us hl => match us, hl with | [_, _, _], _ => rfl⟩
  refine ⟨PySem.W.fnOf "law" "law" (defArgs s_law) (defBody s_law) (defScope s_law) .none kV20 dc20 pm20 an20 cd20 ct20, fun s v => .of_eq rfl, fun base _ _ => ?_⟩
  have C_is_whole := ok_is_whole (P := l.prog) (w := w) (base := base) S_is_whole B
  have C_is_form := ok_is_form (P := l.prog) (w := w) (base := base) S_is_form B C_is_whole
  have C_checked := ok_checked (P := l.prog) (w := w) (base := base) S_checked C_is_form Z.F
  have C_trimmed := ok_trimmed (P := l.prog) (w := w) (base := base) S_trimmed B
  have C_lay_at := ok_lay_at (P := l.prog) (w := w) (base := base) S_lay_at B
  have C_walked := ok_walked (P := l.prog) (w := w) (base := base) S_walked B C_lay_at C_trimmed
  have C_added := ok_added (P := l.prog) (w := w) (base := base) S_added C_checked C_walked
  have C_halved := ok_halved (P := l.prog) (w := w) (base := base) S_halved B C_checked C_added C_trimmed
  have C_parted := ok_parted (P := l.prog) (w := w) (base := base) S_parted Z.P C_checked C_trimmed C_is_whole
  have C__law_cell_at := ok__law_cell_at (P := l.prog) (w := w) (base := base) S__law_cell_at B
  have C__law_whole := ok__law_whole (P := l.prog) (w := w) (base := base) S__law_whole B
  have C__law_form_by := ok__law_form_by (P := l.prog) (w := w) (base := base) S__law_form_by B
  have C__law_bad_by := ok__law_bad_by (P := l.prog) (w := w) (base := base) S__law_bad_by B
  have C__law_no_place_by := ok__law_no_place_by (P := l.prog) (w := w) (base := base) S__law_no_place_by 
  have C__law_refused := ok__law_refused (P := l.prog) (w := w) (base := base) S__law_refused B Z C_halved C_parted
  have C__law_is_form := ok__law_is_form (P := l.prog) (w := w) (base := base) S__law_is_form B C__law_whole
  have C__law_weight := ok__law_weight (P := l.prog) (w := w) (base := base) S__law_weight B
  have C__law_half_is := ok__law_half_is (P := l.prog) (w := w) (base := base) S__law_half_is B C__law_is_form C__law_whole C__law_weight
  have C__law_parts_are := ok__law_parts_are (P := l.prog) (w := w) (base := base) S__law_parts_are B C__law_weight C__law_is_form
  exact ok_law (P := l.prog) (w := w) (base := base) (fun_mk (st := s_law) l20 c20 k20) B C__law_cell_at C__law_form_by C_halved C_parted C__law_half_is C__law_parts_are C__law_is_form C__law_no_place_by C__law_bad_by C__law_refused
theorem walk {l : PySem.W.OpenLaw} {q : Program} {loose : List Str} {XP : (Str → Option Value) → Heap → Prop} {YP : World → Heap → Prop} {d : DefRec} {K : Params → PySem.W.Frag} (hn : l.most = some 63) (hdf : d.params.defaults = [])
    (hY : ∀ (w : World) (h : Heap), YP w h → (K w.params).In h)
    (F : ∀ (w : World) (mg : Str → Option Value) (fa : Addr) (h : Heap), (K w.params).In h → h.Ns mainGlobals mg → mg d.name = some (.ref fa) →
      ∃ fd : FuncData, (∀ (s : Shared) (u : Value), BindsTo s fd ⟨[u], []⟩ [("_law_script", u)]) ∧ ∀ base : Heap, (K w.params).In base → base.Ns mainGlobals mg → FnOk l.prog w (K w.params) mg base CX0 7 fa fd ["_law_script"] (sp_law (K w.params))) :
    PySem.W.WalkO q loose XP YP l.row.toRowW d [] (fun f vs => PySem.call f vs) :=
  L2.walk_of (n := 63) (k := 7) (x := "_law_script") (CX := fun _ => CX0) (sp := fun w => sp_law (K w.params)) hn (by decide) hdf ⟨rfl, by decide, by decide⟩ hY F (fun _ _ a ns hl _ hS => ⟨a, ns, rfl, hS, hl, fun _ => rfl⟩) fun _ _ _ _ _ z => z
end Pz
open PySem PySem.W PyProof.Rows in
set_option maxRecDepth 100000 in
set_option maxHeartbeats 0 in
theorem PySem.Challenge.cw_poisescale_k08_halved_and_parted_holds : PySem.Challenge.rw_poisescale_k08_halved_and_parted.Holds := by
  w_on; o_law; k_head; (case hw => w_witness2)
  k_fill
  refine Pz.walk (l := PySem.Challenge.rw_poisescale_k08_halved_and_parted) rfl rfl (fun w h Y => PySem.W.kIn_of Y) ?F
  case F =>
    intro w mg fa h KX G hmg
    refine' Pz.all_mk KX G hmg ?a1 ?l1 ?c1 ?k1 ?a2 ?l2 ?c2 ?k2 ?a3 ?l3 ?c3 ?k3 ?a4 ?l4 ?c4 ?k4 ?a5 ?l5 ?c5 ?k5 ?a6 ?l6 ?c6 ?k6 ?a7 ?l7 ?c7 ?k7 ?a8 ?l8 ?c8 ?k8 ?a9 ?l9 ?y9 ?c9 ?k9 ?a10 ?l10 ?c10 ?k10 ?a11 ?l11 ?c11 ?k11 ?a12 ?l12 ?c12 ?k12 ?a13 ?l13 ?c13 ?k13 ?a14 ?l14 ?c14 ?k14 ?a15 ?l15 ?c15 ?k15 ?a16 ?l16 ?c16 ?k16 ?a17 ?l17 ?c17 ?k17 ?a18 ?l18 ?c18 ?k18 ?a19 ?l19 ?c19 ?k19 ?a20 ?l20 ?c20 ?k20 ?eS ?bS ?dS ?tS ?hn ?ht ?eF ?xF ?qF ?bF ?tF ?sF ?gF ?uF ?dF ?rF ?mF ?vF ?wF ?eN ?xN ?qN ?bN ?tN ?sN ?gN ?uN ?dN ?rN ?mN ?vN ?wN ?eT ?xT ?qT ?bT ?tT ?sT ?gT ?uT ?dT ?rT ?mT ?vT ?wT ?eP ?xP ?qP ?bP ?tP ?sP ?gP ?uP ?dP ?rP ?mP ?vP ?wP ?zFN ?zFT ?zFP ?zNF ?zNT ?zNP ?zTF ?zTN ?zTP ?zPF ?zPN ?zPT ?n_ValueError ?n_abs ?n_bool ?n_divmod ?n_int ?n_isinstance ?n_len ?n_list ?n_max ?n_range ?n_reversed ?n_tuple
    (case a1 => k_is)
    (case l1 => k_is)
    (case c1 => k_is)
    (case k1 => k_is)
    (case a2 => k_is)
    (case l2 => k_is)
    (case c2 => k_is)
    (case k2 => k_is)
    (case a3 => k_is)
    (case l3 => k_is)
    (case c3 => k_is)
    (case k3 => k_is)
    (case a4 => k_is)
    (case l4 => k_is)
    (case c4 => k_is)
    (case k4 => k_is)
    (case a5 => k_is)
    (case l5 => k_is)
    (case c5 => k_is)
    (case k5 => k_is)
    (case a6 => k_is)
    (case l6 => k_is)
    (case c6 => k_is)
    (case k6 => k_is)
    (case a7 => k_is)
    (case l7 => k_is)
    (case c7 => k_is)
    (case k7 => k_is)
    (case a8 => k_is)
    (case l8 => k_is)
    (case c8 => k_is)
    (case k8 => k_is)
    (case a9 => k_is)
    (case l9 => k_is)
    (case y9 => k_is)
    (case c9 => k_is)
    (case k9 => k_is)
    (case a10 => k_is)
    (case l10 => k_is)
    (case c10 => k_is)
    (case k10 => k_is)
    (case a11 => k_is)
    (case l11 => k_is)
    (case c11 => k_is)
    (case k11 => k_is)
    (case a12 => k_is)
    (case l12 => k_is)
    (case c12 => k_is)
    (case k12 => k_is)
    (case a13 => k_is)
    (case l13 => k_is)
    (case c13 => k_is)
    (case k13 => k_is)
    (case a14 => k_is)
    (case l14 => k_is)
    (case c14 => k_is)
    (case k14 => k_is)
    (case a15 => k_is)
    (case l15 => k_is)
    (case c15 => k_is)
    (case k15 => k_is)
    (case a16 => k_is)
    (case l16 => k_is)
    (case c16 => k_is)
    (case k16 => k_is)
    (case a17 => k_is)
    (case l17 => k_is)
    (case c17 => k_is)
    (case k17 => k_is)
    (case a18 => k_is)
    (case l18 => k_is)
    (case c18 => k_is)
    (case k18 => k_is)
    (case a19 => k_is)
    (case l19 => k_is)
    (case c19 => k_is)
    (case k19 => k_is)
    (case a20 => k_is)
    (case l20 => k_is)
    (case c20 => k_is)
    (case k20 => k_is)
    (case eS => k_is)
    (case bS => k_is)
    (case dS => k_is)
    (case tS => k_is)
    (case hn => k_is)
    (case ht => k_is)
    (case eF => k_is)
    (case xF => k_exc)
    (case qF => k_is)
    (case bF => k_is)
    (case tF => k_is)
    (case sF => k_is)
    (case gF => k_is)
    (case uF => k_is)
    (case dF => k_is)
    (case rF => k_is)
    (case mF => k_is)
    (case vF => k_is)
    (case wF => first | rfl | k_is)
    (case eN => k_is)
    (case xN => k_exc)
    (case qN => k_is)
    (case bN => k_is)
    (case tN => k_is)
    (case sN => k_is)
    (case gN => k_is)
    (case uN => k_is)
    (case dN => k_is)
    (case rN => k_is)
    (case mN => k_is)
    (case vN => k_is)
    (case wN => first | rfl | k_is)
    (case eT => k_is)
    (case xT => k_exc)
    (case qT => k_is)
    (case bT => k_is)
    (case tT => k_is)
    (case sT => k_is)
    (case gT => k_is)
    (case uT => k_is)
    (case dT => k_is)
    (case rT => k_is)
    (case mT => k_is)
    (case vT => k_is)
    (case wT => first | rfl | k_is)
    (case eP => k_is)
    (case xP => k_exc)
    (case qP => k_is)
    (case bP => k_is)
    (case tP => k_is)
    (case sP => k_is)
    (case gP => k_is)
    (case uP => k_is)
    (case dP => k_is)
    (case rP => k_is)
    (case mP => k_is)
    (case vP => k_is)
    (case wP => first | rfl | k_is)
    (case zFN => k_is)
    (case zFT => k_is)
    (case zFP => k_is)
    (case zNF => k_is)
    (case zNT => k_is)
    (case zNP => k_is)
    (case zTF => k_is)
    (case zTN => k_is)
    (case zTP => k_is)
    (case zPF => k_is)
    (case zPN => k_is)
    (case zPT => k_is)
    (case n_ValueError => k_is)
    (case n_abs => k_is)
    (case n_bool => k_is)
    (case n_divmod => k_is)
    (case n_int => k_is)
    (case n_isinstance => k_is)
    (case n_len => k_is)
    (case n_list => k_is)
    (case n_max => k_is)
    (case n_range => k_is)
    (case n_reversed => k_is)
    (case n_tuple => k_is)
#print axioms PySem.Challenge.cw_poisescale_k08_halved_and_parted_holds
