import PyProof.Rows.All
import Wide.All
import OpenK.AllK
import Wide.FinOn
import PySem.Str
import HandS.Text
import HandS.SortInts
import HandS.ForMost
import HandS.ForExc
import HandS.HeadHook2
import HandS.Flow
import HandS.Zip
import HandS.TupAny
import HandS.TupMul
import HandS.Style
import HandS.WideBits
import HandS.IsInst
import HandS.More
import KE.GoesEnum
import HandS.Iter
import HandS.Deep
import KE.DataFind
import PyProof.SumAnyB
import PyProof.Rows.SumGenB
import HandS.Conv
import PyProof.MinMaxWalk
import PyProof.WalkInts
import PyProof.SeqI3
import KE.KExcIs
import HandS.ExcIs
import HandS.ExcField
import HandS.HeadWalk
import HandS.ExcInit
import HandS.ExcValue
import HandS.TryOnly
import HandS.Codes
import HandS.EndBits
import HandS.HeadEnd
import HandS.Head2
import HandS.Words
import HandS.WordsExc
import HandS.Defaults
import HandS.Ends
import KE.KStateDown
import PySem.Challenge.RW_levelcord_k06_whole_numbers_agree
import KE.KTab
import KE.KTreeB
import OpenK.KRaise
import KE.KRaiseC
import OpenK.KRaiseN
import KE.KRaiseIn
import Wide.Tac
set_option Elab.async false
set_option linter.all false
set_option maxRecDepth 100000
set_option maxHeartbeats 4000000
namespace Rf
open PySem PySem.Spec PyProof.Rows L2
def excUp : String → List String
  | C => [C, "CordError", "ValueError"]
abbrev nm (x : String) : Str := Str.ofString x
abbrev cad (K : PySem.W.Frag) (C : String) : Addr := He.ga K (nm C)
structure Fx where
  fl : List String := []
  cs : List String := []
  xs : List String := []
  xc : List String := []
  xm : List String := []
  fv : List String := []
def clV (K : PySem.W.Frag) (D : String) : Value := if D = "ValueError" then .type "ValueError" else .ref (cad K D)
def xcB (K : PySem.W.Frag) (C : Addr) : Bool :=
  (PySem.W.clsIn K C).isSome && (decide (PySem.W.findIn K (.ref C) "__getattribute__" = some (some (.builtin "BaseException.__getattribute__"))) && (decide (PySem.W.findIn K (.ref C) "__getattr__" = some none) &&
  (decide (PySem.W.subIn K (.ref C) (.type "BaseException") = some true) && (PySem.W.hasDictIn K C && (decide (PySem.W.findIn K (.ref C) "__class__" = some (some (.builtin "object.__class__"))) &&
  (decide (PySem.W.specialIn K (.builtin "object.__class__") "__get__" = some (some (.builtin "getset_descriptor.__get__"))) && (decide (PySem.W.takesIn K (.builtin "object.__class__") = some true) && decide (PySem.W.mroIn K C (.type "object") = some true))))))))
def gloB (K : PySem.W.Frag) (D : String) : Bool := He.eqO (PySem.W.nsIn K mainGlobals (nm D)) (some (some (.ref (cad K D))))
def Fx.okB (S : Fx) (K : PySem.W.Frag) : Bool :=
  (S.cs.all fun C => (He.Fa.cls (nm C)).ok K && S.fl.all fun f => (He.Fa.noat (nm C) (nm f)).ok K) &&
  ((S.fl.isEmpty && S.xc.isEmpty) || S.xs.all fun C => xcB K (cad K C)) &&
  (S.xs.all fun C => (S.fl.all fun f => decide (PySem.W.findIn K (.ref (cad K C)) (nm f) = some none)) && ((S.xc.all fun D => decide (PySem.W.kitOne K (.ref (cad K C)) (clV K D) = some ((excUp C).contains D))) &&
    S.xm.all fun D => decide (PySem.W.exmOne K (.ref (cad K C)) (.ref (cad K D)) = some ((excUp C).contains D)))) &&
  ((S.xc.all fun D => (decide (D = "ValueError") || gloB K D) && decide (PySem.W.kitOne K (.type "NoneType") (clV K D) = some false)) && (S.xm.all fun D => gloB K D) && S.fv.all fun D => gloB K D)
def oexB (K : PySem.W.Frag) (C : Addr) : Bool := (match K.lookup C with
  | some ⟨.type "type", _, .cls c, sl⟩ => (match c.mro with
    | .ref D :: up => decide (D = C) && (HandSPX.refsVE up && (c.hasDict && !c.hasDel))
    | _ => false) && (match sl.toList with
    | [_, _, _, _, some (.builtin z), _] => decide (z = "ValueError.__new__")
    | _ => false)
  | _ => false) && (decide (PySem.W.findIn K (.ref C) "__setattr__" = some (some (.builtin "object.__setattr__"))) && (decide (PySem.W.subIn K (.ref C) (.type "BaseException") = some true) && (decide (PySem.W.typeIn K (.ref C) = some (.type "type")) && PySem.W.keepIn K (.ref C))))
def veiB (K : PySem.W.Frag) (C0 : Addr) : Bool :=
  decide (PySem.W.specialIn K (.ref C0) "__getattribute__" = some (some (.builtin "type.__getattribute__"))) && (decide (PySem.W.typeIn K (.ref C0) = some (.type "type")) && (PySem.W.readsIn K C0 (.type "type") && (match PySem.W.findCls K (.ref C0) (.type "type") "__init__" with
    | some (.val (.builtin z)) => decide (z = "ValueError.__init__")
    | _ => false)))
section
open PySem.W
def tupIt (p : PySem.W.Frag → Addr) (i : Nat) (K : PySem.W.Frag) : Addr := match K.lookup (p K) with
  | some ⟨_, _, .seq its _, _⟩ => (match its.toList[i]? with
    | some (.ref a) => a
    | _ => 0)
  | _ => 0
def tupP (K : PySem.W.Frag) (a : Addr) (vs : List He.Dv) : Bool := match K.lookup a with
  | some ⟨.type c, _, .seq its _, _⟩ => decide (c = "tuple") && (decide (its.size ≤ sizeLine) && He.relAll (vs.map (He.Dv.v K)) its.toList)
  | _ => false
inductive Ck where
  | tupA (p : PySem.W.Frag → Addr) (vs : List He.Dv)
  | tup (x : Str) (vs : List He.Dv)
  | oex (C : String)
  | vei (C : String)
  | nof (C f : String)
  | fx (S : Fx)
  | ali (x y : Str)
def Ck.ok (K : PySem.W.Frag) : Ck → Bool
  | .tupA p vs => tupP K (p K) vs
  | .tup x vs => He.tupB K x vs
  | .oex C => oexB K (cad K C)
  | .vei C => veiB K (cad K C)
  | .nof C f => decide (PySem.W.findIn K (.ref (cad K C)) (nm f) = some none)
  | .fx S => S.okB K
  | .ali x y => He.eqO (PySem.W.nsIn K mainGlobals x) (PySem.W.nsIn K mainGlobals y)
variable {tabs : List Ck} {fa : List He.Fa} {fn : List He.DefD} {K : PySem.W.Frag}
def obsR (tabs : List Ck) (fa : List He.Fa) (fn : List He.DefD) (K : PySem.W.Frag) : He.AlD := ((He.obsD fa fn K).1 && tabs.all (fun t => t.ok K), (He.obsD fa fn K).2)
def SaysR (tabs : List Ck) (fa : List He.Fa) (fn : List He.DefD) (K : PySem.W.Frag) : Prop := obsR tabs fa fn K = He.valD fn
def obsRG (n : Nat) (tabs : List Ck) (fa : List He.Fa) (fn : List He.DefD) (g : Addr → Option Obj) : He.AlD := obsR tabs fa fn (He.frG g (PySem.cStatics :: He.asD g n))
def hookR (n : Nat) (tabs : List Ck) (fa : List He.Fa) (fn : List He.DefD) : PySem.W.Hook where
  α := He.AlD
  obs := fun s => obsRG n tabs fa fn s.heap.get?
  val := fun _ => He.valD fn
  says := fun _ h => ∃ K : PySem.W.Frag, K.In h ∧ SaysR tabs fa fn K
  of := fun _ _ e => ⟨_, He.frG_in, e⟩
  keeps := fun _ _ _ ⟨K, hK, c⟩ k => ⟨K, PySem.W.Frag.In.keeps hK k, c⟩
theorem obsRG_eq {n : Nat} {g : Addr → Option Obj} {s : Shared} (h : ∀ a, g a = s.heap.get? a) : obsRG n tabs fa fn g = (hookR n tabs fa fn).obs s := by
  have e : g = s.heap.get? := funext h
  rw [e] <;> rfl
def obsRA (as : List Addr) (tabs : List Ck) (fa : List He.Fa) (fn : List He.DefD) (g : Addr → Option Obj) : He.AlD := obsR tabs fa fn (He.frG g as)
def hookA (as : List Addr) (tabs : List Ck) (fa : List He.Fa) (fn : List He.DefD) : PySem.W.Hook where
  α := He.AlD
  obs := fun s => obsRA as tabs fa fn s.heap.get?
  val := fun _ => He.valD fn
  says := fun _ h => ∃ K : PySem.W.Frag, K.In h ∧ SaysR tabs fa fn K
  of := fun _ _ e => ⟨_, He.frG_in, e⟩
  keeps := fun _ _ _ ⟨K, hK, c⟩ k => ⟨K, PySem.W.Frag.In.keeps hK k, c⟩
theorem obsRA_eq {as : List Addr} {g : Addr → Option Obj} {s : Shared} (h : ∀ a, g a = s.heap.get? a) : obsRA as tabs fa fn g = (hookA as tabs fa fn).obs s := by
  have e : g = s.heap.get? := funext h
  rw [e] <;> rfl
theorem obs_join {as : List Addr} {tabs : List Ck} {g : Addr → Option Obj} (fas : List (List He.Fa)) (fns : List (List He.DefD)) (h0 : obsRA as tabs [] [] g = He.valD []) (h1 : ∀ c ∈ fas, obsRA as [] c [] g = He.valD []) (h2 : ∀ c ∈ fns, obsRA as [] [] c g = He.valD c) : obsRA as tabs fas.flatten fns.flatten g = He.valD fns.flatten := by
  unfold obsRA obsR He.obsD He.valD at *
  generalize He.frG g as = K at *
  have t : tabs.all (fun t => t.ok K) = true := by have := congrArg Prod.fst h0; simpa using this
  have a : (fas.flatten.all fun f => f.ok K) = true := by
    rw [List.all_eq_true]
    intro f hf
    obtain ⟨c, hc, hf⟩ := List.mem_flatten.mp hf
    have := congrArg Prod.fst (h1 c hc)
    have this : (c.all fun f => f.ok K) = true := by simpa using this
    exact List.all_eq_true.mp this f hf
  have b : (fns.flatten.all fun d => d.ok K) = true := by
    rw [List.all_eq_true]
    intro f hf
    obtain ⟨c, hc, hf⟩ := List.mem_flatten.mp hf
    have := congrArg Prod.fst (h2 c hc)
    have this : (c.all fun f => f.ok K) = true := by simpa using this
    exact List.all_eq_true.mp this f hf
  have m : (fns.flatten.map fun d => He.fnW K d.at_) = fns.flatten.map He.DefD.val := by
    refine List.map_congr_left fun f hf => ?_
    obtain ⟨c, hc, hf⟩ := List.mem_flatten.mp hf
    have e : (c.map fun d => He.fnW K d.at_) = c.map He.DefD.val := congrArg Prod.snd (h2 c hc)
    exact List.map_inj_left.mp e f hf
  rw [t, a, b, m]; rfl
theorem run_join {o : Option PySem.W.SharedT} {α : Type} {lk : PySem.W.SharedT → Bool} {sn : PySem.W.SharedT → α} {a : α} {as : List Addr} {tabs : List Ck} (fas : List (List He.Fa)) (fns : List (List He.DefD)) (h1 : o.map lk = some true) (h2 : o.map sn = some a)
    (h3 : o.map (fun s => obsRA as tabs [] [] (HandSHeadRun.getT s)) = some (He.valD [])) (h4 : ∀ c ∈ fas, o.map (fun s => obsRA as [] c [] (HandSHeadRun.getT s)) = some (He.valD [])) (h5 : ∀ c ∈ fns, o.map (fun s => obsRA as [] [] c (HandSHeadRun.getT s)) = some (He.valD c)) :
    o.map (fun s => (lk s, sn s, obsRA as tabs fas.flatten fns.flatten (HandSHeadRun.getT s))) = some (true, a, He.valD fns.flatten) := by
  obtain ⟨s, rfl, e1⟩ := Option.map_eq_some_iff.mp h1
  have e2 := Option.some.inj h2
  have e3 := obs_join fas fns (Option.some.inj h3) (fun c hc => Option.some.inj (h4 c hc)) fun c hc => Option.some.inj (h5 c hc)
  show some (lk s, sn s, obsRA as tabs fas.flatten fns.flatten (HandSHeadRun.getT s)) = _
  rw [e1, e2, e3]
end
end Rf
namespace Rf.LawT
def csL : List String := []
def xsL : List String := []
def SX : Fx := { fl := ["part"], cs := csL, xs := xsL, xc := [], xm := [] }
end Rf.LawT
set_option maxHeartbeats 0
namespace LawH
open PySem PySem.Spec PyProof.Rows L2 Rf Rf.LawT
/-! ### the text and its head -/
def top (i : Nat) : Stmt := PySem.Challenge.pw_levelcord_k06_whole_numbers_agree.main.body.getD i (.Pass ⟨0, 0, 0, 0⟩)
abbrev s0 : Stmt := (C8.clsBody (top 3)).getD 0 (.Pass ⟨0, 0, 0, 0⟩)
def d0 : He.DefD := ⟨("NoText", some "__init__"), "__init__", "NoText.__init__", defArgs s0, defBody s0, defScope s0, [], []⟩
abbrev s1 : Stmt := top 5
def d1 : He.DefD := ⟨("is_whole", none), "is_whole", "is_whole", defArgs s1, defBody s1, defScope s1, [], []⟩
abbrev s2 : Stmt := top 6
def d2 : He.DefD := ⟨("common", none), "common", "common", defArgs s2, defBody s2, defScope s2, [], []⟩
abbrev s3 : Stmt := top 7
def d3 : He.DefD := ⟨("is_number", none), "is_number", "is_number", defArgs s3, defBody s3, defScope s3, [], []⟩
abbrev s4 : Stmt := top 8
def d4 : He.DefD := ⟨("number", none), "number", "number", defArgs s4, defBody s4, defScope s4, [], []⟩
abbrev s5 : Stmt := top 9
def d5 : He.DefD := ⟨("added", none), "added", "added", defArgs s5, defBody s5, defScope s5, [], []⟩
abbrev s6 : Stmt := top 10
def d6 : He.DefD := ⟨("taken", none), "taken", "taken", defArgs s6, defBody s6, defScope s6, [], []⟩
abbrev s7 : Stmt := top 11
def d7 : He.DefD := ⟨("multiplied", none), "multiplied", "multiplied", defArgs s7, defBody s7, defScope s7, [], []⟩
abbrev s8 : Stmt := top 12
def d8 : He.DefD := ⟨("parted", none), "parted", "parted", defArgs s8, defBody s8, defScope s8, [], []⟩
abbrev s9 : Stmt := top 13
def d9 : He.DefD := ⟨("is_less", none), "is_less", "is_less", defArgs s9, defBody s9, defScope s9, [], []⟩
abbrev s10 : Stmt := top 16
def d10 : He.DefD := ⟨("show_number", none), "show_number", "show_number", defArgs s10, defBody s10, defScope s10, [], []⟩
abbrev s11 : Stmt := top 17
def d11 : He.DefD := ⟨("are_figures", none), "are_figures", "are_figures", defArgs s11, defBody s11, defScope s11, [], []⟩
abbrev s12 : Stmt := top 18
def d12 : He.DefD := ⟨("number_in", none), "number_in", "number_in", defArgs s12, defBody s12, defScope s12, [], []⟩
abbrev s13 : Stmt := top 19
def d13 : He.DefD := ⟨("read_number", none), "read_number", "read_number", defArgs s13, defBody s13, defScope s13, [], []⟩
abbrev s14 : Stmt := top 21
def d14 : He.DefD := ⟨("_law_mixed", none), "_law_mixed", "_law_mixed", defArgs s14, defBody s14, defScope s14, [], []⟩
abbrev s15 : Stmt := top 22
def d15 : He.DefD := ⟨("_law_pack", none), "_law_pack", "_law_pack", defArgs s15, defBody s15, defScope s15, [], []⟩
abbrev s16 : Stmt := top 23
def d16 : He.DefD := ⟨("_law_take", none), "_law_take", "_law_take", defArgs s16, defBody s16, defScope s16, [], []⟩
abbrev s17 : Stmt := top 24
def d17 : He.DefD := ⟨("_law_sums_right", none), "_law_sums_right", "_law_sums_right", defArgs s17, defBody s17, defScope s17, [], []⟩
abbrev s18 : Stmt := top 25
def d18 : He.DefD := ⟨("_law_parted_right", none), "_law_parted_right", "_law_parted_right", defArgs s18, defBody s18, defScope s18, [], []⟩
abbrev s19 : Stmt := top 26
def d19 : He.DefD := ⟨("_law_less_right", none), "_law_less_right", "_law_less_right", defArgs s19, defBody s19, defScope s19, [], []⟩
abbrev s20 : Stmt := top 27
def d20 : He.DefD := ⟨("_law_right", none), "_law_right", "_law_right", defArgs s20, defBody s20, defScope s20, [], []⟩
abbrev s21 : Stmt := top 28
def d21 : He.DefD := ⟨("law", none), "law", "law", defArgs s21, defBody s21, defScope s21, [], []⟩
def fn : List He.DefD := [d0, d1, d2, d3, d4, d5, d6, d7, d8, d9, d10, d11, d12, d13, d14, d15, d16, d17, d18, d19, d20, d21]
def fa : List He.Fa := [.glo "CordError", .exc "CordError", .glo "NoNumber", .exc "NoNumber", .glo "NoText", .meth "NoText" "__init__", .glo "is_whole", .glo "common", .glo "is_number", .glo "number", .glo "added", .glo "taken", .glo "multiplied", .glo "parted", .glo "is_less", .str "FIGURES" "0123456789", .glo "show_number", .glo "are_figures", .glo "number_in", .glo "read_number", .glo "_law_mixed", .glo "_law_pack", .glo "_law_take", .glo "_law_sums_right", .glo "_law_parted_right", .glo "_law_less_right", .glo "_law_right", .glo "law", .free "len", .free "abs", .free "min", .free "max", .free "int", .free "str", .free "tuple", .free "list", .free "all", .free "any", .free "sum", .free "divmod", .free "isinstance", .free "range", .free "zip", .free "enumerate", .free "bool", .free "dict", .free "ValueError", .free "sorted"]
def tabs : List Ck := [.fx SX, .oex "NoText", .vei "CordError", .nof "NoText" "part"]
def loose : List PySem.Str := (["CordError", "NoNumber", "NoText", "is_whole", "common", "is_number", "number", "added", "taken", "multiplied", "parted", "is_less", "FIGURES", "show_number", "are_figures", "number_in", "read_number", "_law_mixed", "_law_pack", "_law_take", "_law_sums_right", "_law_parted_right", "_law_less_right", "_law_right"] : List PySem.Str)
abbrev Rw : PySem.W.OpenRow := PySem.W.OpenLaw.row PySem.Challenge.rw_levelcord_k06_whole_numbers_agree
abbrev hk : PySem.W.Hook := Rf.hookR 4 tabs fa fn
def ob (s : PySem.W.SharedT) : He.AlD := Rf.obsRG 4 tabs fa fn (HandSHeadRun.getT s)
theorem ob_eq (s : PySem.W.SharedT) : ob s = hk.obs s.abs := Rf.obsRG_eq (HandSHeadRun.getT_eq s)
theorem run (w : World) : HandSHeadRun.RunEq Rw (PySem.W.view Rw.prog [28]) hk ob 20000 loose w := by
  intro os
  kernel_rfl

end LawH
namespace LawH
section
open PySem PySem.W PySem.Calls PyProof.Rows HandSHeadRun
theorem h_k1 : (OpenLaw.row PySem.Challenge.rw_levelcord_k06_whole_numbers_agree).wellSaid = true := by first | assumption | decide +kernel
theorem h_ok : (chainsOk (view (OpenLaw.row PySem.Challenge.rw_levelcord_k06_whole_numbers_agree).prog [28]) && opensWell (OpenLaw.row PySem.Challenge.rw_levelcord_k06_whole_numbers_agree).prog && (frees (OpenLaw.row PySem.Challenge.rw_levelcord_k06_whole_numbers_agree).toRowW && (OpenLaw.row PySem.Challenge.rw_levelcord_k06_whole_numbers_agree).within.isEmpty)) = true := by decide +kernel
theorem h_e : opening (OpenLaw.row PySem.Challenge.rw_levelcord_k06_whole_numbers_agree).prog = plainProg (OpenLaw.row PySem.Challenge.rw_levelcord_k06_whole_numbers_agree).prog.main.scope.names := by kernel_rfl
theorem h_b : (OpenLaw.row PySem.Challenge.rw_levelcord_k06_whole_numbers_agree).prog.bare := ⟨rfl, rfl, rfl, rfl, rfl, by decide +kernel⟩
end
end LawH
section
open PySem PySem.W PySem.Calls PyProof.Rows HandSHeadRun
theorem LawH.h_early (hc : WalkO (view (OpenLaw.row PySem.Challenge.rw_levelcord_k06_whole_numbers_agree).prog [28]) LawH.loose (XL (view (OpenLaw.row PySem.Challenge.rw_levelcord_k06_whole_numbers_agree).prog [28]) []) LawH.hk.says (OpenLaw.row PySem.Challenge.rw_levelcord_k06_whole_numbers_agree).toRowW (HandSHeadRun.topDef (OpenLaw.row PySem.Challenge.rw_levelcord_k06_whole_numbers_agree).prog 28) [] fun f vs => PySem.call f vs) : PySem.Challenge.rw_levelcord_k06_whole_numbers_agree.Holds := by
  w_on; o_law
  refine HandSHeadRun.head_any (r := OpenLaw.row PySem.Challenge.rw_levelcord_k06_whole_numbers_agree) (q := view (OpenLaw.row PySem.Challenge.rw_levelcord_k06_whole_numbers_agree).prog [28]) (H := LawH.hk) (ob := LawH.ob) (M := 20000) (loose := LawH.loose) (d := HandSHeadRun.topDef (OpenLaw.row PySem.Challenge.rw_levelcord_k06_whole_numbers_agree).prog 28) (kwd := []) LawH.ob_eq
    LawH.h_e (fun s => by kernel_rfl) LawH.run (by kernel_rfl) (by kernel_rfl) (by kernel_rfl) (by rfl) LawH.h_k1 LawH.h_ok LawH.h_b ?hw hc
  case hw => w_witness2
end
set_option maxHeartbeats 4000000
namespace Rf
open PySem

abbrev Ky := Sum Int Str
inductive W where
  | non
  | bl (b : Bool)
  | int (i : Int)
  | str (x : Str)
  | tup (xs : List W)
  | lst (o : Bool) (xs : List W)
  | dic (o : Bool) (kvs : List (Ky × W))
  | ins (o : Bool) (C : String) (fs : List (String × W))
  | exc (C : String) (fs : List (String × W))
  | fn (x : String)
  | scr (ns : List Int)
  deriving Inhabited

inductive Out (α : Type) where
  | ok (a : α)
  | ex (w : W)
abbrev Fn := List W → Option (Out W × List W)

abbrev LIM : Nat := 1000000
abbrev MUL : Nat := 100000000
abbrev DIV : Nat := 8000

mutual
def weq : W → W → Bool
  | .non, .non => true
  | .bl a, .bl b => a == b
  | .bl a, .int b => (if a then 1 else 0) == b
  | .int a, .bl b => a == (if b then 1 else 0)
  | .int a, .int b => a == b
  | .str a, .str b => a == b
  | .tup xs, .tup ys => weqs xs ys
  | .lst _ xs, .lst _ ys => weqs xs ys
  | _, _ => false
def weqs : List W → List W → Bool
  | [], [] => true
  | x :: xs, y :: ys => weq x y && weqs xs ys
  | _, _ => false
end
def dat : Nat → W → Bool
  | _, .non => true
  | _, .bl _ => true
  | _, .int _ => true
  | _, .str x => x.cps.all (· < 0x110000)
  | n + 1, .tup xs => xs.all (dat n)
  | n + 1, .lst _ xs => xs.all (dat n)
  | _, _ => false
def flat : W → Bool
  | .non => true
  | .bl _ => true
  | .int _ => true
  | .str _ => true
  | _ => false
def frz : W → Option W
  | .lst _ xs => some (.lst false xs)
  | .dic _ kvs => some (.dic false kvs)
  | .ins _ _ _ => none
  | w => some w
def own : W → Bool
  | .lst o _ => o
  | .dic o _ => o
  | .ins o _ _ => o
  | _ => false

def b2 (b : Bool) : Int := if b then 1 else 0
def sIx (n d : Nat) : Option Int → Nat
  | none => d
  | some v => if v < 0 then (v + (n : Int)).toNat else min v.toNat n
def cut {α : Type} (xs : List α) (lo hi : Option Int) : List α :=
  (xs.drop (sIx xs.length 0 lo)).take (sIx xs.length xs.length hi - sIx xs.length 0 lo)
def ixN (n : Nat) (i : Int) : Option Nat :=
  if 0 ≤ i then (if i < n then some i.toNat else none) else if -(n : Int) ≤ i then some (i + n).toNat else none
def atI {α : Type} (xs : List α) (i : Int) : Option α := (ixN xs.length i).bind fun j => xs[j]?

inductive Bop where | add | sub | mul | fdiv | mod | pow | shr | band
  deriving DecidableEq
inductive Cop where | eq | ne | lt | le | gt | ge | is | isnot | isin | notin
  deriving DecidableEq

def wBin : Bop → W → W → Option W
  | .add, .int i, .int j => some (.int (i + j))
  | .add, .str x, .str y => if x.length + y.length < LIM then some (.str (x ++ y)) else none
  | .add, .lst _ xs, .lst _ ys => if xs.length + ys.length < LIM then some (.lst true (xs ++ ys)) else none
  | .add, .tup xs, .tup ys => if xs.length + ys.length < LIM then some (.tup (xs ++ ys)) else none
  | .sub, .int i, .int j => some (.int (i - j))
  | .mul, .int i, .int j => if i.natAbs.log2 + j.natAbs.log2 < MUL then some (.int (i * j)) else none
  | .mul, .tup xs, .int k => if k ≤ 1000 ∧ -1000 ≤ k ∧ xs.length ≤ 1000 then some (.tup (List.replicate k.toNat xs).flatten) else none
  | .mul, .lst _ xs, .int k => if k ≤ 1000 ∧ -1000 ≤ k ∧ xs.length ≤ 1000 then some (.lst true (List.replicate k.toNat xs).flatten) else none
  | .fdiv, .int i, .int j => if j ≠ 0 ∧ j.natAbs.log2 < DIV then some (.int (i.fdiv j)) else none
  | .mod, .int i, .int j => if j ≠ 0 then some (.int (i.fmod j)) else none
  | .pow, .int i, .int j => if 0 ≤ j ∧ j ≤ 1000000 ∧ i.natAbs < 2 ^ 64 then some (.int (i ^ j.toNat)) else none
  | .shr, .int i, .int j => if 0 ≤ j then some (.int (i / 2 ^ j.toNat)) else none
  | .band, .int i, .int j => if 0 ≤ i ∧ j = 1 then some (.int (i % 2)) else none
  | _, _, _ => none
def wNeg : W → Option W
  | .int i => some (.int (-i))
  | _ => none
def wIs : W → W → Option Bool
  | .non, .non => some true
  | _, .non => some false
  | .bl a, .bl b => some (a == b)
  | _, .bl _ => some false
  | _, _ => none
def wIn : W → W → Option Bool
  | x, .tup xs => if flat x && xs.all flat then some (xs.any fun y => weq y x) else none
  | x, .lst _ xs => if flat x && xs.all flat then some (xs.any fun y => weq y x) else none
  | .str x, .str y => match x.cps.toList with
    | [c] => some (decide (c ∈ y.cps.toList))
    | _ => none
  | _, _ => none
def isDic : W → Bool
  | .dic _ _ => true
  | _ => false
def isTup : W → Bool
  | .tup _ => true
  | _ => false
def isTup0 : W → Bool
  | .tup [] => true
  | _ => false
def len0 : W → Bool
  | .tup xs => xs.isEmpty
  | _ => false
def wCmp : Cop → W → W → Option W
  | .eq, a, b => if dat 30 a && dat 30 b then some (.bl (weq a b)) else if isDic a && isTup b then some (.bl false) else if isTup a && isTup0 b then some (.bl (len0 a)) else none
  | .ne, a, b => if dat 30 a && dat 30 b then some (.bl (!weq a b)) else none
  | .lt, .int i, .int j => some (.bl (decide (i < j)))
  | .le, .int i, .int j => some (.bl (decide (i ≤ j)))
  | .gt, .int i, .int j => some (.bl (decide (j < i)))
  | .ge, .int i, .int j => some (.bl (decide (j ≤ i)))
  | .is, a, b => (wIs a b).map .bl
  | .isnot, a, b => (wIs a b).map fun k => .bl (!k)
  | .isin, a, b => (wIn a b).map .bl
  | .notin, a, b => (wIn a b).map fun k => .bl (!k)
  | _, _, _ => none
def wTru : W → Option Bool
  | .non => some false
  | .bl b => some b
  | .int i => some (i != 0)
  | .str x => if x.length < LIM then some (x.length != 0) else none
  | .tup xs => some (!xs.isEmpty)
  | .lst _ xs => some (!xs.isEmpty)
  | .dic _ kvs => some (!kvs.isEmpty)
  | .scr ns => some (!ns.isEmpty)
  | _ => none
def dget (kvs : List (Ky × W)) (k : Ky) : Option W := match kvs with
  | [] => none
  | (g, w) :: r => if g = k then some w else dget r k
def dput (kvs : List (Ky × W)) (k : Ky) (w : W) : List (Ky × W) := if (kvs.any fun kv => decide (kv.1 = k)) = true then kvs.map (fun kv => if kv.1 = k then (kv.1, w) else kv) else kvs ++ [(k, w)]
def wIx : W → W → Option W
  | .tup xs, .int i => atI xs i
  | .lst _ xs, .int i => atI xs i
  | .str x, .int i => if x.length < LIM then (atI x.cps.toList i).map fun c => .str ⟨#[c]⟩ else none
  | .dic _ kvs, .int i => dget kvs (.inl i)
  | .dic _ kvs, .str x => dget kvs (.inr x)
  | _, _ => none
def wSl : W → Option Int → Option Int → Option W
  | .tup xs, lo, hi => some (.tup (cut xs lo hi))
  | .lst _ xs, lo, hi => some (.lst true (cut xs lo hi))
  | .str x, lo, hi => if x.length < LIM then some (.str ⟨(cut x.cps.toList lo hi).toArray⟩) else none
  | .scr ns, lo, hi => some (.lst true ((cut ns lo hi).map .int))
  | _, _, _ => none
def wRev : W → Option W
  | .tup xs => some (.tup xs.reverse)
  | .lst _ xs => some (.lst true xs.reverse)
  | _ => none
def wIsi : W → String → Option Bool
  | .non, T => some false
  | .bl _, T => some (T == "bool" || T == "int")
  | .int _, T => some (T == "int")
  | .str _, T => some (T == "str")
  | .tup _, T => some (T == "tuple")
  | .lst _ _, T => some (T == "list")
  | .scr _, T => some (T == "list")
  | .dic _ _, T => some (T == "dict")
  | _, _ => none
def wIsx (Xs : List String) : W → String → Option Bool
  | .exc C _, T => if C ∈ Xs then some ((excUp C).contains T) else none
  | .non, _ => some false
  | _, _ => none
def wIsxs (Xs : List String) : W → List String → Option Bool
  | .exc C _, Ts => if C ∈ Xs then some (Ts.any (excUp C).contains) else none
  | _, _ => none
def intsW : List W → Option (List Int)
  | [] => some []
  | .int i :: r => (intsW r).map (i :: ·)
  | .bl b :: r => (intsW r).map ((if b = true then 1 else 0) :: ·)
  | _ => none
def bools : List W → Option (List Bool)
  | [] => some []
  | .bl b :: r => (bools r).map (b :: ·)
  | _ => none
def items : W → Option (List W)
  | .tup xs => some xs
  | .lst _ xs => some xs
  | _ => none
inductive Bi where | len | abs | min | max | int | str | tuple | list | all | any | sum | divmod | sorted
  deriving DecidableEq
def mxs : List Int → Int → Int
  | [], m => m
  | x :: r, m => mxs r (if m < x then x else m)
def mns : List Int → Int → Int
  | [], m => m
  | x :: r, m => mns r (if x < m then x else m)
def one (f : W → Option W) : List W → Option W
  | [x] => f x
  | _ => none
def two (f : W → W → Option W) : List W → Option W
  | [x, y] => f x y
  | _ => none
def wLen : W → Option W
  | .tup xs => some (.int xs.length)
  | .lst _ xs => some (.int xs.length)
  | .scr ns => some (.int ns.length)
  | .str x => if x.length < LIM then some (.int x.length) else none
  | _ => none
def wAbs : W → Option W
  | .int i => some (.int i.natAbs)
  | _ => none
def wMin : W → W → Option W
  | .int i, .int j => some (.int (if j < i then j else i))
  | _, _ => none
def wMax : W → W → Option W
  | .int i, .int j => some (.int (if i < j then j else i))
  | _, _ => none
def wInt : W → Option W
  | .int i => some (.int i)
  | .bl b => some (.int (b2 b))
  | .str x => if x.length ≤ 640 then (intText? x).map .int else none
  | _ => none
def intsI : List W → Option (List Int)
  | [] => some []
  | .int i :: r => (intsI r).map (i :: ·)
  | _ => none
def insI (i : Int) : List Int → List Int
  | [] => [i]
  | j :: r => if i ≤ j then i :: j :: r else j :: insI i r
def isort : List Int → List Int
  | [] => []
  | i :: r => insI i (isort r)
def wSorted : W → Option W
  | .lst _ xs => (intsI xs).map fun is => .lst true ((isort is).map .int)
  | _ => none
def wStr : W → Option W
  | .int i => if i.natAbs.log2 < 1900 then some (.str (Str.ofString (toString i))) else none
  | _ => none
def wTuple : W → Option W
  | .tup xs => some (.tup xs)
  | .lst _ xs => some (.tup xs)
  | _ => none
def wList : W → Option W
  | .tup xs => some (.lst true xs)
  | .lst _ xs => some (.lst true xs)
  | _ => none
def wAll : W → Option W
  | .lst _ xs => (bools xs).map fun bs => .bl (bs.all id)
  | _ => none
def wAny : W → Option W
  | .lst _ xs => (bools xs).map fun bs => .bl (bs.any id)
  | _ => none
def wSum : W → Option W
  | .lst _ xs => (intsW xs).map fun is => .int is.sum
  | _ => none
def wDivmod : W → W → Option W
  | .int i, .int j => if 0 < j ∧ j.natAbs.log2 < DIV ∧ i.natAbs.log2 < 3000 then some (.tup [.int (i / j), .int (i % j)]) else none
  | _, _ => none
def wBi : Bi → List W → Option W
  | .len => one wLen
  | .abs => one wAbs
  | .min => two wMin
  | .max => two wMax
  | .int => one wInt
  | .str => one wStr
  | .tuple => one wTuple
  | .list => one wList
  | .all => one wAll
  | .any => one wAny
  | .sum => one wSum
  | .divmod => two wDivmod
  | .sorted => one wSorted
def keysI : List (Ky × W) → Option (List Int)
  | [] => some []
  | (.inl i, _) :: r => (keysI r).map (i :: ·)
  | _ => none
def wMinD : W → Option W
  | .dic _ kvs => match keysI kvs with
    | some (i :: is) => some (.int (mns is i))
    | _ => none
  | _ => none
def wMaxD : W → Option W
  | .dic _ kvs => match keysI kvs with
    | some (i :: is) => some (.int (mxs is i))
    | _ => none
  | _ => none
def wGet : W → List W → Option W
  | .dic _ kvs, [.int i, d] => some ((dget kvs (.inl i)).getD d)
  | .dic _ kvs, [.str x, d] => some ((dget kvs (.inr x)).getD d)
  | _, _ => none
def wLrng : W → W → Option W
  | .int i, .int j => if -100000 ≤ i ∧ i ≤ 100000 ∧ -100000 ≤ j ∧ j ≤ 100000 then some (.lst true ((List.range (j - i).toNat).map fun k => .int (i + (k : Nat)))) else none
  | _, _ => none
inductive Mu where | append | extend | pop | popAt | insert | remove
  deriving DecidableEq
def wMu : Mu → List W → List W → Option (W × List W)
  | .append, xs, ys => match ys with
    | [y] => if xs.length < LIM then some (.non, xs ++ [y]) else none
    | _ => none
  | .extend, xs, ys => match ys with
    | [.lst _ zs] => if xs.length + zs.length < LIM then some (.non, xs ++ zs) else none
    | _ => none
  | .pop, xs, ys => match ys with
    | [] => (xs[xs.length - 1]?).map fun y => (y, xs.dropLast)
    | _ => none
  | .popAt, xs, ys => match ys with
    | [.int i] => (ixN xs.length i).bind fun k => (xs[k]?).map fun y => (y, xs.eraseIdx k)
    | _ => none
  | .insert, xs, ys => match ys with
    | [.int i, y] => if xs.length < LIM ∧ 0 ≤ i ∧ i < 2 ^ 62 then some (.non, xs.take i.toNat ++ [y] ++ xs.drop i.toNat) else none
    | _ => none
  | .remove, xs, ys => match ys with
    | [y] => if dat 30 y && xs.all (dat 29) then (xs.findIdx? fun z => weq z y).map fun j => (.non, xs.eraseIdx j) else none
    | _ => none
inductive Rm where | index | count
  deriving DecidableEq
def wIndex : W → List W → Option W
  | .lst _ xs, [y] => if flat y && xs.all flat then (xs.findIdx? fun z => weq z y).map fun (j : Nat) => .int j else
    if dat 30 y && xs.all (dat 29) then (xs.findIdx? fun z => weq z y).map fun (j : Nat) => .int j else none
  | _, _ => none
def wCount : W → List W → Option W
  | .lst _ xs, [y] => if dat 30 y && xs.all (dat 29) then some (.int ((xs.countP fun z => weq z y : Nat) : Int)) else none
  | _, _ => none
inductive Tx0 where | isdigit | upper
  deriving DecidableEq
inductive Tx1 where | split | partition | join
  deriving DecidableEq
def strsW : List W → Option (List Str)
  | [] => some []
  | .str x :: r => (strsW r).map (x :: ·)
  | _ => none
def wTx0 : Tx0 → W → Option W
  | .isdigit, .str x => some (.bl (Txt.isdigit x))
  | .upper, .str x => if x.length < LIM then some (.str (Txt.upper x)) else none
  | _, _ => none
def joinW (a : Str) (ys : List W) : Option W := (strsW ys).bind fun ss => if (ss.map (·.length)).sum + ss.length * a.length < LIM then some (.str (Txt.join a ss)) else none
def wTx1 : Tx1 → W → W → Option W
  | .split, .str a, .str b => if b.length ≠ 0 ∧ a.length < LIM then some (.lst true ((Txt.split a b).map .str)) else none
  | .partition, .str a, .str b => if b.length ≠ 0 ∧ a.length < LIM then some (.tup [.str (Txt.partition a b).1, .str (Txt.partition a b).2.1, .str (Txt.partition a b).2.2]) else none
  | .join, .str a, .lst _ ys => joinW a ys
  | .join, .str a, .tup ys => joinW a ys
  | _, _, _ => none
def wRm : Rm → W → List W → Option W
  | .index => wIndex
  | .count => wCount

inductive Tg where
  | nm (i : Nat)
  | tp (ts : List Tg)
  deriving Inhabited
mutual
def tgIx : Tg → List Nat
  | .nm i => [i]
  | .tp ts => tgIxs ts
def tgIxs : List Tg → List Nat
  | [] => []
  | t :: ts => tgIx t ++ tgIxs ts
end
mutual
inductive Ex where
  | var (i : Nat)
  | con (w : W)
  | bin (o : Bop) (a b : Ex)
  | neg (a : Ex)
  | nt (a : Ex)
  | and (a b : Ex)
  | or (a b : Ex)
  | cmp (a : Ex) (os : List Cop) (bs : List Ex)
  | ife (c a b : Ex)
  | tup (es : List Ex)
  | lst (es : List Ex)
  | dct (ks vs : List Ex)
  | dc1 (k v : Ex)
  | ix (a b : Ex)
  | sl (a : Ex) (lo hi : Option Ex)
  | call (F : Fn) (es : List Ex)
  | mk (C : String) (F : Fn) (es : List Ex)
  | bi (f : Bi) (es : List Ex)
  | mu (o : Ex) (m : Mu) (es : List Ex)
  | rm (o : Ex) (m : Rm) (es : List Ex)
  | mth (o : Ex) (C m : String) (F : Fn) (es : List Ex)
  | fld (o : Ex) (f : String) (Cs Xs : List String)
  | lc (elt : Ex) (tg : Tg) (it : It) (c : Option Ex) (ow : List Nat)
  | isi (a : Ex) (T : String)
  | isx (a : Ex) (T : String) (Xs : List String)
  | isxs (a : Ex) (Ts : List String) (Xs : List String)
  | dcs (ks : List Str) (vs : List Ex)
  | rev (a : Ex)
  | dget (o : Ex) (es : List Ex)
  | mnd (a : Ex)
  | mxd (a : Ex)
  | lrng (a b : Ex)
  | callL (i : Nat) (tbl : List (String × Fn)) (es : List Ex)
  | tx0 (o : Ex) (m : Tx0)
  | tx1 (o : Ex) (m : Tx1) (e : Ex)
inductive It where
  | of (e : Ex)
  | rng (es : List Ex)
  | zip (a b : Ex)
  | enm (a : Ex)
end
instance : Inhabited Ex := ⟨.con .non⟩
inductive Ta where
  | nm (i : Nat)
  | sub (o i : Ex)
  | fld (o : Ex) (f : String) (Cs : List String)
  deriving Inhabited
inductive St where
  | asg (t : Ta) (e : Ex)
  | mul (ts : List Ta) (e : Ex)
  | par (ts : List Nat) (es : List Ex)
  | expr (e : Ex)
  | ret (e : Ex)
  | ite (c : Ex) (a b : List St)
  | whl (c : Ex) (b : List St)
  | for_ (t : Tg) (it : It) (b : List St)
  | rse (C : String) (fs : List (String × Ex))
  | tr (b : List St) (C : String) (Xs : List String) (n : Option Nat) (s : List St)
  | pass
  | brk
  | parO (ts : List Nat) (es : List Ex)
  deriving Inhabited

def taIx : List Ta → List Nat
  | [] => []
  | .nm i :: r => i :: taIx r
  | _ :: r => taIx r
mutual
def stIx : St → List Nat
  | .asg t _ => taIx [t]
  | .mul ts _ => taIx ts
  | .par ts _ => ts
  | .parO ts _ => ts
  | .ite _ a b => stsIx a ++ stsIx b
  | .whl _ b => stsIx b
  | .for_ tg _ b => tgIx tg ++ stsIx b
  | .tr b _ _ n s => stsIx b ++ (n.toList ++ stsIx s)
  | _ => []
def stsIx : List St → List Nat
  | [] => []
  | s :: ss => stIx s ++ stsIx ss
end
def srcOff : Option (Nat × W) → List Nat → Bool
  | none, _ => true
  | some (j, _), l => !l.contains j
abbrev Rho := List (Option W)
abbrev M (α : Type) := Rho → Option (Out α × Rho)
def ret {α : Type} (a : α) : M α := fun ρ => some (.ok a, ρ)
def stuck {α : Type} : M α := fun _ => none
def bnd {α β : Type} (m : M α) (f : α → M β) : M β := fun ρ => match m ρ with
  | none => none
  | some (.ok a, ρ') => f a ρ'
  | some (.ex w, ρ') => some (.ex w, ρ')
def lft {α : Type} (o : Option α) : M α := fun ρ => match o with
  | none => none
  | some a => some (.ok a, ρ)
instance : Monad M where
  pure := ret
  bind := bnd

inductive T where
  | val (w : W)
  | pl (i : Nat) (f : Option String)
def getF (w : W) (f : String) : Option W := match w with
  | .ins _ _ fs => fs.lookup f
  | _ => none
def putA (f : String) (v : W) : List (String × W) → List (String × W)
  | [] => [(f, v)]
  | (g, x) :: r => if g = f then (g, v) :: r else (g, x) :: putA f v r
def slot (ρ : Rho) (i : Nat) : Option W := (ρ[i]?).join
def getP (ρ : Rho) (i : Nat) : Option String → Option W
  | none => slot ρ i
  | some f => (slot ρ i).bind fun w => getF w f
def setP (ρ : Rho) (i : Nat) (f : Option String) (v : W) : Rho := match f with
  | none => ρ.set i (some v)
  | some f => match slot ρ i with
    | some (.ins o C fs) => ρ.set i (some (.ins o C (putA f v fs)))
    | _ => ρ
def drf (ρ : Rho) : T → Option W
  | .val w => some w
  | .pl i f => getP ρ i f
def rd (t : T) : M W := fun ρ => match drf ρ t with
  | none => none
  | some w => some (.ok w, ρ)
def sh (t : T) : M W := fun ρ => match t with
  | .val w => match frz w with
    | none => none
    | some w' => some (.ok w', ρ)
  | .pl i f => match getP ρ i f with
    | none => none
    | some w => match own w with
      | false => some (.ok w, ρ)
      | true => match frz w with
        | none => none
        | some w' => some (.ok w', setP ρ i f w')
def tru (t : T) : M Bool := bnd (rd t) fun w => lft (wTru w)
def shs : List T → M (List W)
  | [] => ret []
  | t :: ts => bnd (sh t) fun w => bnd (shs ts) fun ws => ret (w :: ws)
def rds : List T → M (List W)
  | [] => ret []
  | t :: ts => bnd (rd t) fun w => bnd (rds ts) fun ws => ret (w :: ws)

def lent : List T → List W → List Nat
  | .pl i _ :: ts, w :: ws => if own w then i :: lent ts ws else lent ts ws
  | .val _ :: ts, _ :: ws => lent ts ws
  | _, _ => []
def back (ρ : Rho) : List T → List W → List W → Rho
  | .pl i f :: ts, w :: ws, o :: os => if own w then back (setP ρ i f o) ts ws os else back ρ ts ws os
  | .val _ :: ts, _ :: ws, _ :: os => back ρ ts ws os
  | _, _, _ => ρ
def isIn : W → Bool
  | .ins _ _ _ => true
  | _ => false
def isLs : W → Bool
  | .lst _ _ => true
  | .dic _ _ => true
  | _ => false
def fits : List T → List W → List W → Bool
  | .pl _ _ :: ts, w :: ws, o :: os => (!own w || (isIn w == isIn o && isLs w == isLs o)) && fits ts ws os
  | .val _ :: ts, _ :: ws, _ :: os => fits ts ws os
  | [], [], [] => true
  | _, _, _ => false
def callF (F : Fn) (ts : List T) : M T := bnd (rds ts) fun ws => fun ρ =>
  if (lent ts ws).Nodup then match F ws with
    | none => none
    | some (r, os) => if fits ts ws os then match r with
      | .ok w => some (.ok (.val w), back ρ ts ws os)
      | .ex w => some (.ex w, back ρ ts ws os)
      else none
  else none
def mkF (C : String) (F : Fn) (ts : List T) : M T := bnd (rds ts) fun ws => fun ρ =>
  if (lent ts ws).Nodup then match F (.ins true C [] :: ws) with
    | some (.ok .non, self :: os) => if isIn self && fits ts ws os then some (.ok (.val self), back ρ ts ws os) else none
    | some (.ex w, _ :: os) => if fits ts ws os then some (.ex w, back ρ ts ws os) else none
    | _ => none
  else none
def recv (C m : String) (t : T) : M Unit := bnd (rd t) fun w => match w with
  | .ins true D fs => if D = C ∧ (fs.lookup m).isNone then ret () else stuck
  | _ => stuck
def recvL (t : T) : M Unit := bnd (rd t) fun w => match w with
  | .lst _ _ => ret ()
  | _ => stuck
def recvD (t : T) : M Unit := bnd (rd t) fun w => match w with
  | .dic _ _ => ret ()
  | _ => stuck
def recvS (t : T) : M Unit := bnd (rd t) fun w => match w with
  | .str _ => ret ()
  | _ => stuck
def muF (m : Mu) (t : T) (ws : List W) : M T := bnd (rd t) fun w => match w with
  | .lst true xs => bnd (lft (wMu m xs ws)) fun r => match t with
    | .val _ => ret (.val r.1)
    | .pl i f => fun ρ => some (.ok (.val r.1), setP ρ i f (.lst true r.2))
  | _ => stuck

def wipe (ρ : Rho) : List Nat → Rho
  | [] => ρ
  | v :: vs => (wipe ρ vs).set v none
def unwipe (ρ0 ρ : Rho) : List Nat → Rho
  | [] => ρ
  | v :: vs => (unwipe ρ0 ρ vs).set v ((ρ0[v]?).join)
mutual
def stTg : Tg → W → M Unit
  | .nm i, w => fun ρ => if i < ρ.length then some (.ok (), ρ.set i (some w)) else none
  | .tp ts, w => match w with
    | .tup xs => stTgs ts xs
    | _ => stuck
def stTgs : List Tg → List W → M Unit
  | [], [] => ret ()
  | t :: ts, x :: xs => bnd (stTg t x) fun _ => stTgs ts xs
  | _, _ => stuck
end
structure Src where
  its : List W
  at_ : Option (Nat × W)
def still (ρ : Rho) : Option (Nat × W) → Prop
  | none => True
  | some (i, w) => slot ρ i = some w
def rngs (lo : Int) : Nat → List W
  | 0 => []
  | n + 1 => .int lo :: rngs (lo + 1) n
def small (i : Int) : Prop := -(2 ^ 62) ≤ i ∧ i < 2 ^ 62
instance (i : Int) : Decidable (small i) := inferInstanceAs (Decidable (_ ∧ _))
def rngc (lo c : Int) : Nat → List W
  | 0 => []
  | n + 1 => .int lo :: rngc (lo + c) c n
def mid (i : Int) : Prop := -(2 ^ 40) ≤ i ∧ i < 2 ^ 40
instance (i : Int) : Decidable (mid i) := inferInstanceAs (Decidable (_ ∧ _))
def rngN (i j c : Int) : Nat := (if i < j then (j - i - 1) / c + 1 else 0 : Int).toNat
def wRng : List W → Option (List W)
  | [.int j] => if small j ∧ j < LIM then some (rngs 0 j.toNat) else none
  | [.int i, .int j] => if small i ∧ small j ∧ j - i < LIM then some (rngs i (j - i).toNat) else none
  | [.int i, .int j, .int c] => if 0 < c ∧ c ≤ 64 ∧ mid i ∧ mid j then some (rngc i c (rngN i j c)) else none
  | _ => none
def pairs : List W → List W → List W
  | x :: xs, y :: ys => .tup [x, y] :: pairs xs ys
  | _, _ => []
def enum : Int → List W → List W
  | _, [] => []
  | n, x :: xs => .tup [.int n, x] :: enum (n + 1) xs
def wOf : W → Option (List W)
  | .tup xs => some xs
  | .lst _ xs => some xs
  | .str x => some (x.cps.toList.map fun c => .str ⟨#[c]⟩)
  | _ => none
open Classical in
noncomputable def lcL (tg : Tg) (src : Option (Nat × W)) (ow : List Nat) (c : M Bool) (elt : M W) : List W → List W → M (List W)
  | [], acc => fun ρ => if still ρ src then some (.ok acc, ρ) else none
  | x :: xs, acc => fun ρ => if still ρ src then
      (bnd (stTg tg x) fun _ => bnd c fun k => if k then bnd elt fun y => lcL tg src ow c elt xs (acc ++ [y]) else lcL tg src ow c elt xs acc) (wipe ρ ow)
    else none
def blk {α : Type} (ow : List Nat) (m : M α) : M α := fun ρ => match m (wipe ρ ow) with
  | some (.ok a, ρ') => some (.ok a, unwipe ρ ρ' ow)
  | _ => none

def biC : Bi → Bool
  | .min => true
  | .max => true
  | .all => true
  | .any => true
  | .sum => true
  | .sorted => true
  | _ => false
def isg (o : Option Int) : T := .val (match o with | some i => .int i | none => .non)
mutual
noncomputable def ev : Ex → M T
  | .var i => fun ρ => match slot ρ i with
    | none => none
    | some w => some (.ok (if own w then .pl i none else .val w), ρ)
  | .con w => ret (.val w)
  | .bin o a b => bnd (ev a) fun s => bnd (ev b) fun t => bnd (rd s) fun x => bnd (rd t) fun y => bnd (lft (wBin o x y)) fun w => ret (.val w)
  | .neg a => bnd (ev a) fun s => bnd (rd s) fun x => bnd (lft (wNeg x)) fun w => ret (.val w)
  | .nt a => bnd (ev a) fun s => bnd (tru s) fun k => ret (.val (.bl (!k)))
  | .and a b => bnd (ev a) fun s => bnd (tru s) fun k => if k then ev b else bnd (sh s) fun w => ret (.val w)
  | .or a b => bnd (ev a) fun s => bnd (tru s) fun k => if k then bnd (sh s) fun w => ret (.val w) else ev b
  | .cmp a os bs => bnd (ev a) fun s => evC s os bs
  | .ife c a b => bnd (ev c) fun s => bnd (tru s) fun k => if k then ev a else ev b
  | .tup es => bnd (evs es) fun ws => ret (.val (.tup ws))
  | .lst es => bnd (evs es) fun ws => ret (.val (.lst true ws))
  | .dct ks vs => evD ks vs
  | .dc1 k v => bnd (ev k) fun s => bnd (rd s) fun x => bnd (ev v) fun t => bnd (sh t) fun w => match x with
    | .int i => ret (.val (.dic true [(.inl i, w)]))
    | .str x => ret (.val (.dic true [(.inr x, w)]))
    | _ => stuck
  | .ix a b => bnd (ev a) fun s => bnd (ev b) fun t => bnd (rd s) fun x => bnd (rd t) fun y => bnd (lft (wIx x y)) fun w => ret (.val w)
  | .sl a lo hi => bnd (ev a) fun s => bnd (evO lo) fun l => bnd (evO hi) fun h => bnd (rd s) fun x => bnd (lft (wSl x l h)) fun w => ret (.val w)
  | .call F es => bnd (evT es) fun ts => callF F ts
  | .mk C F es => bnd (evT es) fun ts => mkF C F ts
  | .bi f es => bnd (evT es) fun ts => bnd (rds ts) fun ws => bnd (lft (wBi f ws)) fun w => ret (.val w)
  | .mu o m es => bnd (ev o) fun t => bnd (recvL t) fun _ => bnd (evs es) fun ws => muF m t ws
  | .rm o m es => bnd (ev o) fun t => bnd (recvL t) fun _ => bnd (evs es) fun ws => bnd (rd t) fun w => bnd (lft (wRm m w ws)) fun r => ret (.val r)
  | .mth o C m F es => bnd (ev o) fun t => bnd (recv C m t) fun _ => bnd (evT es) fun ts => callF F (t :: ts)
  | .fld o f Cs Xs => bnd (ev o) fun t => match t with
    | .pl i none => fun ρ => match slot ρ i with
      | some (.ins true C fs) => if C ∈ Cs then match fs.lookup f with
        | some w => some (.ok (if own w then .pl i (some f) else .val w), ρ)
        | none => none
        else none
      | _ => none
    | .val (.exc C fs) => if C ∈ Xs then lft ((fs.lookup f).map .val) else stuck
    | _ => stuck
  | .lc elt tg it c ow => bnd (src it) fun q => if q.its.length < LIM then bnd (blk ow (lcL tg q.at_ ow (evB c) (bnd (ev elt) sh) q.its [])) fun ws => ret (.val (.lst true ws)) else stuck
  | .isi a T => bnd (ev a) fun s => bnd (rd s) fun x => bnd (lft (wIsi x T)) fun k => ret (.val (.bl k))
  | .isx a T Xs => bnd (ev a) fun s => bnd (rd s) fun x => bnd (lft (wIsx Xs x T)) fun k => ret (.val (.bl k))
  | .isxs a Ts Xs => bnd (ev a) fun s => bnd (rd s) fun x => bnd (lft (wIsxs Xs x Ts)) fun k => ret (.val (.bl k))
  | .dcs ks vs => bnd (evs vs) fun ws => if ks.Nodup ∧ ks.length = ws.length then ret (.val (.dic true ((ks.map Sum.inr).zip ws))) else stuck
  | .rev a => bnd (ev a) fun s => bnd (rd s) fun x => bnd (lft (wRev x)) fun w => ret (.val w)
  | .dget o es => bnd (ev o) fun t => bnd (recvD t) fun _ => bnd (evs es) fun ws => bnd (rd t) fun w => bnd (lft (wGet w ws)) fun r => ret (.val r)
  | .mnd a => bnd (ev a) fun s => bnd (rd s) fun x => bnd (lft (wMinD x)) fun w => ret (.val w)
  | .mxd a => bnd (ev a) fun s => bnd (rd s) fun x => bnd (lft (wMaxD x)) fun w => ret (.val w)
  | .lrng a b => bnd (ev a) fun s => bnd (ev b) fun t => bnd (rd s) fun x => bnd (rd t) fun y => bnd (lft (wLrng x y)) fun w => ret (.val w)
  | .callL i tbl es => fun ρ => match slot ρ i with
    | some (.fn x) => match tbl.lookup x with
      | some F => (bnd (evT es) fun ts => callF F ts) ρ
      | none => none
    | _ => none
  | .tx0 o m => bnd (ev o) fun t => bnd (recvS t) fun _ => bnd (rd t) fun x => bnd (lft (wTx0 m x)) fun w => ret (.val w)
  | .tx1 o m e => bnd (ev o) fun t => bnd (recvS t) fun _ => bnd (ev e) fun u => bnd (rd t) fun x => bnd (rd u) fun y => bnd (lft (wTx1 m x y)) fun w => ret (.val w)
noncomputable def evs : List Ex → M (List W)
  | [] => ret []
  | e :: es => bnd (ev e) fun t => bnd (sh t) fun w => bnd (evs es) fun ws => ret (w :: ws)
noncomputable def evT : List Ex → M (List T)
  | [] => ret []
  | e :: es => bnd (ev e) fun t => bnd (evT es) fun ts => ret (t :: ts)
noncomputable def evC (s : T) : List Cop → List Ex → M T
  | [o], [b] => bnd (ev b) fun t => bnd (rd s) fun x => bnd (rd t) fun y => bnd (lft (wCmp o x y)) fun w => ret (.val w)
  | o :: os, b :: bs => bnd (ev b) fun t => bnd (rd s) fun x => bnd (rd t) fun y => bnd (lft (wCmp o x y)) fun w =>
      bnd (lft (wTru w)) fun k => if k then evC t os bs else ret (.val w)
  | _, _ => stuck
noncomputable def evO : Option Ex → M (Option Int)
  | none => ret none
  | some e => bnd (ev e) fun t => bnd (rd t) fun w => match w with
    | .int i => ret (some i)
    | _ => stuck
noncomputable def evB : Option Ex → M Bool
  | none => ret true
  | some e => bnd (ev e) tru
noncomputable def evD : List Ex → List Ex → M T
  | [], [] => ret (.val (.dic true []))
  | _, _ => stuck
noncomputable def src : It → M Src
  | .of e => bnd (ev e) fun t => bnd (rd t) fun w => match wOf w with
    | none => stuck
    | some its => match t with
      | .val _ => ret ⟨its, none⟩
      | .pl i none => ret ⟨its, if own w then some (i, w) else none⟩
      | .pl _ (some _) => stuck
  | .rng es => bnd (evT es) fun ts => bnd (rds ts) fun ws => bnd (lft (wRng ws)) fun its => ret ⟨its, none⟩
  | .zip a b => bnd (ev a) fun s => bnd (sh s) fun x => bnd (ev b) fun t => bnd (sh t) fun y => match x, y with
    | .tup xs, .tup ys => ret ⟨pairs xs ys, none⟩
    | .lst _ xs, .lst _ ys => ret ⟨pairs xs ys, none⟩
    | _, _ => stuck
  | .enm a => bnd (ev a) fun s => bnd (sh s) fun x => match items x with
    | some xs => ret ⟨enum 0 xs, none⟩
    | none => stuck
end

inductive Flow where
  | nx
  | rt (w : W)
  | bk
def mv (t : T) : M W := match t with
  | .val w => ret w
  | .pl i f => sh (.pl i f)
abbrev isIns := isIn
abbrev isLD := isLs
def putK (k : Ky) (v : W) : List (Ky × W) → List (Ky × W)
  | [] => [(k, v)]
  | (g, x) :: r => if g = k then (g, v) :: r else (g, x) :: putK k v r
def wSet : W → W → W → Option W
  | .lst true xs, .int i, v => (ixN xs.length i).map fun j => .lst true (xs.set j v)
  | .dic true kvs, .int i, v => if kvs.length < 100000 then some (.dic true (dput kvs (.inl i) v)) else none
  | .dic true kvs, .str x, v => if kvs.length < 100000 then some (.dic true (dput kvs (.inr x) v)) else none
  | _, _, _ => none
def stN (i : Nat) (w : W) : M Unit := fun ρ => if i < ρ.length then some (.ok (), ρ.set i (some w)) else none
noncomputable def stA : Ta → W → M Unit
  | .nm i, w => stN i w
  | .sub o ix, w => bnd (ev o) fun t => bnd (ev ix) fun u => bnd (rd t) fun x => bnd (rd u) fun y => bnd (lft (wSet x y w)) fun z => match t with
    | .pl i f => fun ρ => some (.ok (), setP ρ i f z)
    | .val _ => stuck
  | .fld o f Cs, w => bnd (ev o) fun t => match t with
    | .pl i none => fun ρ => match slot ρ i with
      | some (.ins true C fs) => if C ∉ Cs || isIns w || ((fs.lookup f).map isLD).getD false then none else if fs.length < 500 then some (.ok (), setP ρ i (some f) w) else none
      | _ => none
    | _ => stuck
noncomputable def stAs : List Ta → List W → M Unit
  | [], [] => ret ()
  | t :: ts, w :: ws => bnd (stA t w) fun _ => stAs ts ws
  | _, _ => stuck
def stNs : List Nat → List W → M Unit
  | [], [] => ret ()
  | t :: ts, w :: ws => bnd (stN t w) fun _ => stNs ts ws
  | _, _ => stuck
def whN (c : M Bool) (b : M Flow) : Nat → M Flow
  | 0 => stuck
  | n + 1 => bnd c fun k => if k then bnd b fun f => match f with
      | .nx => whN c b n
      | .bk => ret .nx
      | .rt w => ret (.rt w)
    else ret .nx
open Classical in
noncomputable def whl (c : M Bool) (b : M Flow) : M Flow := fun ρ =>
  if h : ∃ n, (whN c b n ρ).isSome = true then whN c b (Classical.choose h) ρ else none
open Classical in
noncomputable def forL (tg : Tg) (src : Option (Nat × W)) (b : M Flow) : List W → M Flow
  | [] => fun ρ => if still ρ src then some (.ok .nx, ρ) else none
  | x :: xs => fun ρ => if still ρ src then (bnd (stTg tg x) fun _ => bnd b fun f => match f with
      | .nx => forL tg src b xs
      | .bk => ret .nx
      | .rt w => ret (.rt w)) ρ
    else none
noncomputable def evF : List (String × Ex) → M (List (String × W))
  | [] => ret []
  | (f, e) :: r => bnd (ev e) fun t => bnd (sh t) fun w => bnd (evF r) fun ws => ret ((f, w) :: ws)
def rtT (np : Nat) : T → M Flow
  | .val w => ret (.rt w)
  | .pl i f => fun ρ => match f with
    | none => match slot ρ i with
      | none => none
      | some w => if np ≤ i then some (.ok (.rt w), ρ.set i none) else (bnd (sh (.pl i none)) fun w => ret (.rt w)) ρ
    | some f => (bnd (sh (.pl i (some f))) fun w => ret (.rt w)) ρ
def parF : List Nat → List T → M Flow
  | [i, j], [.val x, .val y] => bnd (stN i x) fun _ => bnd (stN j y) fun _ => ret .nx
  | _, _ => stuck
mutual
noncomputable def exec (np : Nat) : St → M Flow
  | .asg (.nm i) e => bnd (ev e) fun t => bnd (mv t) fun w => bnd (stN i w) fun _ => ret .nx
  | .asg (.fld o f Cs) e => bnd (ev e) fun t => bnd (mv t) fun w => bnd (stA (.fld o f Cs) w) fun _ => ret .nx
  | .asg (.sub o i) e => bnd (ev e) fun t => bnd (sh t) fun w => bnd (stA (.sub o i) w) fun _ => ret .nx
  | .mul ts e => bnd (ev e) fun t => bnd (sh t) fun w => match w with
    | .tup ws => if ws.length = ts.length then bnd (stAs ts ws) fun _ => ret .nx else stuck
    | _ => stuck
  | .par ts es => bnd (evs es) fun ws => bnd (stNs ts ws) fun _ => ret .nx
  | .expr e => bnd (ev e) fun _ => ret .nx
  | .ret e => bnd (ev e) (rtT np)
  | .ite c a b => bnd (ev c) fun t => bnd (tru t) fun k => if k then execs np a else execs np b
  | .whl c b => whl (bnd (ev c) tru) (execs np b)
  | .for_ tg it b => bnd (src it) fun q => if srcOff q.at_ (tgIx tg ++ stsIx b) then forL tg q.at_ (execs np b) q.its else stuck
  | .rse C fs => bnd (evF fs) fun ws => fun ρ => some (.ex (.exc C ws), ρ)
  | .tr b C Xs n s => fun ρ => match execs np b ρ with
    | some (.ex (.exc D fs), ρ') => if D ∈ Xs then (if (excUp D).contains C then (match n with
        | none => execs np s ρ'
        | some n => (bnd (stN n (.exc D fs)) fun _ => bnd (execs np s) fun f => fun ρ => some (.ok f, ρ.set n none)) ρ')
      else some (.ex (.exc D fs), ρ')) else none
    | r => r
  | .pass => ret .nx
  | .brk => ret .bk
  | .parO ts es => bnd (evT es) fun ws => parF ts ws
noncomputable def execs (np : Nat) : List St → M Flow
  | [] => ret .nx
  | s :: ss => bnd (exec np s) fun f => match f with
    | .nx => execs np ss
    | f => ret f
end
def fzS : List Nat → M Unit
  | [] => ret ()
  | j :: js => bnd (sh (.pl j none)) fun _ => fzS js
def outs (asg : List Nat) (ρ : Rho) : Nat → List W → Option (List W)
  | _, [] => some []
  | j, w :: ws => match (if own w then (if j ∈ asg then frz w else slot ρ j) else some w), outs asg ρ (j + 1) ws with
    | some o, some os => some (o :: os)
    | _, _ => none
def fin (asg : List Nat) (ws : List W) (r : Out W) (ρ : Rho) : Option (Out W × List W) := (outs asg ρ 0 ws).map fun os => (r, os)
noncomputable def runFn (np nl : Nat) (body : List St) : Fn := fun ws =>
  if ws.length = np then match (bnd (fzS ((List.range np).filter fun j => decide (j ∈ stsIx body))) fun _ => execs np body) (ws.map some ++ List.replicate (nl - np) none) with
      | some (.ok (.rt w), ρ) => fin (stsIx body) ws (.ok w) ρ
      | some (.ok .nx, ρ) => fin (stsIx body) ws (.ok .non) ρ
      | some (.ex w, ρ) => fin (stsIx body) ws (.ex w) ρ
      | _ => none
  else none
end Rf
namespace Rf
open PySem PySem.Spec PyProof.Rows L2

theorem nm_inj {x y : String} (h : nm x = nm y) : x = y := by
  have e : (⟨(x.toList.map Char.toNat).toArray⟩ : Str) = ⟨(y.toList.map Char.toNat).toArray⟩ := by
    have := h
    unfold nm at this
    rwa [Str.ofString_eq_toList, Str.ofString_eq_toList] at this
  have e2 : x.toList.map Char.toNat = y.toList.map Char.toNat := by
    have := Str.mk.inj e
    simpa using this
  have inj : ∀ a b : List Char, a.map Char.toNat = b.map Char.toNat → a = b := by
    intro a
    induction a with
    | nil => intro b hb; cases b with
      | nil => rfl
      | cons _ _ => simp at hb
    | cons c r ih => intro b hb; cases b with
      | nil => simp at hb
      | cons d s =>
        simp only [List.map_cons, List.cons.injEq] at hb
        have : c = d := by
          have h1 := hb.1
          exact Char.toNat_inj.mp h1
        rw [this, ih s hb.2]
  exact String.toList_inj.mp (inj _ _ e2)

def exO (cls : Value) (d : Option Addr) (a : Addr) : HO := .ext fun h => ∃ (oe : Obj) (vs : Array Value), h.get? a = some oe ∧ oe.cls = cls ∧ oe.dict = d ∧ oe.data = .fields vs

mutual
inductive Sh (K : PySem.W.Frag) (F : Hp) : W → V → Prop
  | non : Sh K F .non .non
  | bl (b : Bool) : Sh K F (.bl b) (.bl b)
  | int (i : Int) : Sh K F (.int i) (.int i)
  | str (x : Str) : Sh K F (.str x) (.str x)
  | tup {a : Addr} {xs : List W} {vs : List V} : SqT K F a vs → ShL K F xs vs → Sh K F (.tup xs) (.ref a)
  | lst {a : Addr} {xs : List W} {vs : List V} : F a = some (.lst vs) → ShL K F xs vs → Sh K F (.lst false xs) (.ref a)
  | scr {a : Addr} {ns : List Int} : SqL K F a (ns.map V.int) → Sh K F (.scr ns) (.ref a)
  | dic {a : Addr} {kvs : List (Ky × W)} {vk : List (Key × V)} : F a = some (.dK vk) → ShK K F kvs vk → Sh K F (.dic false kvs) (.ref a)
  | exc {a : Addr} {C : String} {d : Option Addr} {fs : List (String × W)} {vf : List (Str × V)} : F a = some (exO (.ref (cad K C)) d a) →
      ((d = none ∧ fs = []) ∨ ∃ dd, d = some dd ∧ F dd = some (.xd vf)) → ShF K F fs vf → Sh K F (.exc C fs) (.ref a)
  | fn (x : String) : Sh K F (.fn x) (.ref (cad K x))
inductive ShL (K : PySem.W.Frag) (F : Hp) : List W → List V → Prop
  | nil : ShL K F [] []
  | cons {w : W} {v : V} {ws : List W} {vs : List V} : Sh K F w v → ShL K F ws vs → ShL K F (w :: ws) (v :: vs)
inductive ShK (K : PySem.W.Frag) (F : Hp) : List (Ky × W) → List (Key × V) → Prop
  | nil : ShK K F [] []
  | cons {k : Ky} {w : W} {v : V} {ws : List (Ky × W)} {vs : List (Key × V)} : Sh K F w v → ShK K F ws vs → ShK K F ((k, w) :: ws) ((k, v) :: vs)
inductive ShF (K : PySem.W.Frag) (F : Hp) : List (String × W) → List (Str × V) → Prop
  | nil : ShF K F [] []
  | cons {f : String} {w : W} {v : V} {ws : List (String × W)} {vs : List (Str × V)} : Sh K F w v → ShF K F ws vs → ShF K F ((f, w) :: ws) ((nm f, v) :: vs)
end
def Sub (F F' : Hp) : Prop := ∀ a o, F a = some o → F' a = some o
theorem Sub.refl (F : Hp) : Sub F F := fun _ _ h => h
theorem Sub.trans {F F' F'' : Hp} (h : Sub F F') (h' : Sub F' F'') : Sub F F'' := fun a o e => h' a o (h a o e)
section
variable {K : PySem.W.Frag} {F F' : Hp}
theorem Rd.sub (s : Sub F F') {a : Addr} {u : HO} (h : Rd F a u) : Rd F' a u := by
  rcases h with h | ⟨o, h⟩
  · exact .inl (s _ _ h)
  · exact .inr ⟨o, s _ _ h⟩
theorem SqL.sub (s : Sub F F') {a : Addr} {xs : List V} (h : SqL K F a xs) : SqL K F' a xs := by
  rcases h with h | h
  · exact .inl (Rd.sub s h)
  · exact .inr h
theorem SqT.sub (s : Sub F F') {a : Addr} {xs : List V} (h : SqT K F a xs) : SqT K F' a xs := by
  rcases h with h | h
  · exact .inl (Rd.sub s h)
  · exact .inr h
mutual
theorem Sh.sub (s : Sub F F') : ∀ {w : W} {v : V}, Sh K F w v → Sh K F' w v
  | _, _, .non => .non
  | _, _, .bl b => .bl b
  | _, _, .int i => .int i
  | _, _, .str x => .str x
  | _, _, .tup h l => .tup (SqT.sub s h) (ShL.sub s l)
  | _, _, .lst h l => .lst (s _ _ h) (ShL.sub s l)
  | _, _, .scr h => .scr (SqL.sub s h)
  | _, _, .dic h l => .dic (s _ _ h) (ShK.sub s l)
  | _, _, .exc h g l => .exc (s _ _ h) (g.imp id fun ⟨dd, e, x⟩ => ⟨dd, e, s _ _ x⟩) (ShF.sub s l)
  | _, _, .fn x => .fn x
theorem ShL.sub (s : Sub F F') : ∀ {ws : List W} {vs : List V}, ShL K F ws vs → ShL K F' ws vs
  | _, _, .nil => .nil
  | _, _, .cons h l => .cons (Sh.sub s h) (ShL.sub s l)
theorem ShK.sub (s : Sub F F') : ∀ {ws : List (Ky × W)} {vs : List (Key × V)}, ShK K F ws vs → ShK K F' ws vs
  | _, _, .nil => .nil
  | _, _, .cons h l => .cons (Sh.sub s h) (ShK.sub s l)
theorem ShF.sub (s : Sub F F') : ∀ {ws : List (String × W)} {vs : List (Str × V)}, ShF K F ws vs → ShF K F' ws vs
  | _, _, .nil => .nil
  | _, _, .cons h l => .cons (Sh.sub s h) (ShF.sub s l)
end
theorem Sh.own {w : W} {v : V} (h : Sh K F w v) : own w = false := by cases h <;> rfl
theorem Sh.frz {w : W} {v : V} (h : Sh K F w v) : frz w = some w := by cases h <;> rfl
theorem ShL.len {ws : List W} {vs : List V} (h : ShL K F ws vs) : ws.length = vs.length := by
  induction ws generalizing vs with
  | nil => cases h; rfl
  | cons w ws ih => cases h with | cons a b => simp [ih b]
theorem ShL.app : ∀ {ws ws' : List W} {vs vs' : List V}, ShL K F ws vs → ShL K F ws' vs' → ShL K F (ws ++ ws') (vs ++ vs')
  | _, _, _, _, .nil, h => h
  | _, _, _, _, .cons a b, h => .cons a (ShL.app b h)
theorem ShL.get : ∀ {ws : List W} {vs : List V} {i : Nat} {w : W}, ShL K F ws vs → ws[i]? = some w → ∃ v, vs[i]? = some v ∧ Sh K F w v
  | _, _, _, _, .nil, e => by simp at e
  | _, _, 0, _, .cons a b, e => by simp at e; subst e; exact ⟨_, rfl, a⟩
  | _, _, i + 1, _, .cons a b, e => by
    obtain ⟨v, h1, h2⟩ := ShL.get (i := i) b (by simpa using e)
    exact ⟨v, by simpa using h1, h2⟩
theorem ShL.take : ∀ {ws : List W} {vs : List V} (n : Nat), ShL K F ws vs → ShL K F (ws.take n) (vs.take n)
  | _, _, 0, _ => by simp; exact .nil
  | _, _, n + 1, .nil => by simp; exact .nil
  | _, _, n + 1, .cons a b => by simp; exact .cons a (ShL.take n b)
theorem ShL.drop : ∀ {ws : List W} {vs : List V} (n : Nat), ShL K F ws vs → ShL K F (ws.drop n) (vs.drop n)
  | _, _, 0, h => by simpa using h
  | _, _, n + 1, .nil => by simp; exact .nil
  | _, _, n + 1, .cons a b => by simp; exact ShL.drop n b
theorem ShL.set : ∀ {ws : List W} {vs : List V} {w : W} {v : V} (n : Nat), ShL K F ws vs → Sh K F w v → ShL K F (ws.set n w) (vs.set n v)
  | _, _, _, _, _, .nil, _ => by simp; exact .nil
  | _, _, _, _, 0, .cons a b, h => .cons h b
  | _, _, _, _, n + 1, .cons a b, h => .cons a (ShL.set n b h)
theorem ShL.eraseIdx : ∀ {ws : List W} {vs : List V} (n : Nat), ShL K F ws vs → ShL K F (ws.eraseIdx n) (vs.eraseIdx n)
  | _, _, _, .nil => by simp; exact .nil
  | _, _, 0, .cons a b => b
  | _, _, n + 1, .cons a b => .cons a (ShL.eraseIdx n b)
theorem ShL.dropLast {ws : List W} {vs : List V} (h : ShL K F ws vs) : ShL K F ws.dropLast vs.dropLast := by
  rw [List.dropLast_eq_take, List.dropLast_eq_take, h.len]
  exact h.take _
theorem ShL.rep {ws : List W} {vs : List V} (h : ShL K F ws vs) : ∀ n : Nat, ShL K F (List.replicate n ws).flatten (List.replicate n vs).flatten
  | 0 => by simp; exact .nil
  | n + 1 => by
    rw [List.replicate_succ, List.replicate_succ, List.flatten_cons, List.flatten_cons]
    exact h.app (h.rep n)
theorem ShL.one {w : W} {v : V} (h : Sh K F w v) : ShL K F [w] [v] := .cons h .nil
end

abbrev Mk := Addr → Option (Option String)
def OwF (K : PySem.W.Frag) (F H : Hp) (P : Option String → Addr → Prop) (f : String) : W → V → Prop
  | .lst true xs, v => ∃ a vs, v = .ref a ∧ H a = some (.lst vs) ∧ P (some f) a ∧ ShL K F xs vs
  | .dic true kvs, v => ∃ a vk, v = .ref a ∧ H a = some (.dK vk) ∧ P (some f) a ∧ ShK K F kvs vk
  | w, v => Sh K F w v
inductive OwFs (K : PySem.W.Frag) (F H : Hp) (P : Option String → Addr → Prop) : List (String × W) → List (Str × V) → Prop
  | nil : OwFs K F H P [] []
  | cons {f : String} {w : W} {v : V} {ws : List (String × W)} {vs : List (Str × V)} : OwF K F H P f w v → OwFs K F H P ws vs → OwFs K F H P ((f, w) :: ws) ((nm f, v) :: vs)
def Ow (K : PySem.W.Frag) (F H : Hp) (P : Option String → Addr → Prop) : W → V → Prop
  | .lst true xs, v => ∃ a vs, v = .ref a ∧ H a = some (.lst vs) ∧ P none a ∧ ShL K F xs vs
  | .dic true kvs, v => ∃ a vk, v = .ref a ∧ H a = some (.dK vk) ∧ P none a ∧ ShK K F kvs vk
  | .ins true C fs, v => ∃ a dx vf, v = .ref a ∧ H a = some (.ins (cad K C) dx vf) ∧ P none a ∧ OwFs K F H P fs vf ∧ (fs.map (·.1)).Nodup
  | w, v => Sh K F w v
section
variable {K : PySem.W.Frag} {F H F' H' : Hp} {P P' : Option String → Addr → Prop}
theorem Ow.sh {w : W} {v : V} (h : Ow K F H P w v) (e : own w = false) : Sh K F w v := by
  cases w with
  | lst o xs => cases o with
    | true => cases e
    | false => exact h
  | dic o kvs => cases o with
    | true => cases e
    | false => exact h
  | ins o C fs => cases o with
    | true => cases e
    | false => exact h
  | _ => exact h
theorem Ow.of {w : W} {v : V} (h : Sh K F w v) : Ow K F H P w v := by
  cases h <;> unfold Ow
  · exact .non
  · exact .bl _
  · exact .int _
  · exact .str _
  · exact .tup (by assumption) (by assumption)
  · exact .lst (by assumption) (by assumption)
  · exact .scr (by assumption)
  · exact .dic (by assumption) (by assumption)
  · exact .exc (by assumption) (by assumption) (by assumption)
  · exact .fn _
theorem OwF.of {f : String} {w : W} {v : V} (h : Sh K F w v) : OwF K F H P f w v := by
  cases h <;> unfold OwF
  · exact .non
  · exact .bl _
  · exact .int _
  · exact .str _
  · exact .tup (by assumption) (by assumption)
  · exact .lst (by assumption) (by assumption)
  · exact .scr (by assumption)
  · exact .dic (by assumption) (by assumption)
  · exact .exc (by assumption) (by assumption) (by assumption)
  · exact .fn _
theorem OwF.sh {f : String} {w : W} {v : V} (h : OwF K F H P f w v) (e : own w = false) : Sh K F w v := by
  cases w with
  | lst o xs => cases o with
    | true => cases e
    | false => exact h
  | dic o kvs => cases o with
    | true => cases e
    | false => exact h
  | _ => exact h
theorem OwF.mono {f : String} {w : W} {v : V} (s : Sub F F') (k : ∀ a, P (some f) a → H' a = H a) (m : ∀ a, P (some f) a → P' (some f) a) (h : OwF K F H P f w v) : OwF K F' H' P' f w v := by
  cases w with
  | lst o xs => cases o with
    | true =>
      obtain ⟨a, vs, e, e1, e2, e3⟩ := h
      exact ⟨a, vs, e, (k _ e2).trans e1, m _ e2, e3.sub s⟩
    | false => exact OwF.of (Sh.sub s (w := .lst false xs) h)
  | dic o kvs => cases o with
    | true =>
      obtain ⟨a, vs, e, e1, e2, e3⟩ := h
      exact ⟨a, vs, e, (k _ e2).trans e1, m _ e2, e3.sub s⟩
    | false => exact OwF.of (Sh.sub s (w := .dic false kvs) h)
  | ins o C fs => exact OwF.of (Sh.sub s (w := .ins o C fs) h)
  | non => exact OwF.of (Sh.sub s (w := .non) h)
  | bl b => exact OwF.of (Sh.sub s (w := .bl b) h)
  | int i => exact OwF.of (Sh.sub s (w := .int i) h)
  | str x => exact OwF.of (Sh.sub s (w := .str x) h)
  | tup xs => exact OwF.of (Sh.sub s (w := .tup xs) h)
  | exc C fs => exact OwF.of (Sh.sub s (w := .exc C fs) h)
  | fn x => exact OwF.of (Sh.sub s (w := .fn x) h)
  | scr ns => exact OwF.of (Sh.sub s (w := .scr ns) h)
theorem OwFs.mono (s : Sub F F') (k : ∀ p a, P p a → H' a = H a) (m : ∀ p a, P p a → P' p a) : ∀ {fs : List (String × W)} {vf : List (Str × V)}, OwFs K F H P fs vf → OwFs K F' H' P' fs vf
  | _, _, .nil => .nil
  | _, _, .cons h l => .cons (h.mono s (k _) (m _)) (OwFs.mono s k m l)
theorem Ow.mono {w : W} {v : V} (s : Sub F F') (k : ∀ p a, P p a → H' a = H a) (m : ∀ p a, P p a → P' p a) (h : Ow K F H P w v) : Ow K F' H' P' w v := by
  cases w with
  | lst o xs => cases o with
    | true =>
      obtain ⟨a, vs, e, e1, e2, e3⟩ := h
      exact ⟨a, vs, e, (k _ _ e2).trans e1, m _ _ e2, e3.sub s⟩
    | false => exact Ow.of (Sh.sub s (w := .lst false xs) h)
  | dic o kvs => cases o with
    | true =>
      obtain ⟨a, vs, e, e1, e2, e3⟩ := h
      exact ⟨a, vs, e, (k _ _ e2).trans e1, m _ _ e2, e3.sub s⟩
    | false => exact Ow.of (Sh.sub s (w := .dic false kvs) h)
  | ins o C fs => cases o with
    | true =>
      obtain ⟨a, dx, vf, e, e1, e2, e3, e4⟩ := h
      exact ⟨a, dx, vf, e, (k _ _ e2).trans e1, m _ _ e2, e3.mono s k m, e4⟩
    | false => exact Ow.of (Sh.sub s (w := .ins false C fs) h)
  | non => exact Ow.of (Sh.sub s (w := .non) h)
  | bl b => exact Ow.of (Sh.sub s (w := .bl b) h)
  | int i => exact Ow.of (Sh.sub s (w := .int i) h)
  | str x => exact Ow.of (Sh.sub s (w := .str x) h)
  | tup xs => exact Ow.of (Sh.sub s (w := .tup xs) h)
  | exc C fs => exact Ow.of (Sh.sub s (w := .exc C fs) h)
  | fn x => exact Ow.of (Sh.sub s (w := .fn x) h)
  | scr ns => exact Ow.of (Sh.sub s (w := .scr ns) h)
end
end Rf
namespace Rf
open PySem PySem.Spec PyProof.Rows L2
/-- who owns what: a slot's thing, a field's list -/
abbrev Gh := Addr → Option (Nat × Option String)
structure Rl (K : PySem.W.Frag) (F H : Hp) (g : Gh) (ρ : Rho) (σ : L2.St) : Prop where
  sub : Sub F H
  gF : ∀ a p, g a = some p → F a = none
  gH : ∀ a p, g a = some p → H a ≠ none
  len : ρ.length = σ.length
  sl : ∀ i w, slot ρ i = some w → ∃ v, σ[i]? = some (some v) ∧ Ow K F H (fun f a => g a = some (i, f)) w v
structure Le (F H : Hp) (g : Gh) (F' H' : Hp) (g' : Gh) : Prop where
  fx : Sub F F'
  fr : ∀ b o, H b = some o → g b = none → H' b = some o
  dom : ∀ b, H b ≠ none → H' b ≠ none
  gn : ∀ b p, g' b = some p → g b = some p ∨ H b = none
  fn : ∀ b, F' b ≠ none → F b ≠ none ∨ g b ≠ none ∨ H b = none
theorem Le.refl {F H : Hp} {g : Gh} : Le F H g F H g := ⟨Sub.refl _, fun _ _ e _ => e, fun _ h => h, fun _ _ h => .inl h, fun _ h => .inl h⟩
section
variable {F H F1 H1 F2 H2 : Hp} {g g1 g2 : Gh}
theorem Le.gnone (a : Le F H g F1 H1 g1) {b : Addr} (h : g b = none) (d : H b ≠ none) : g1 b = none := by
  cases e : g1 b with
  | none => rfl
  | some p => rcases a.gn b p e with z | z
              · rw [h] at z; cases z
              · exact absurd z d
theorem Le.hnone (a : Le F H g F1 H1 g1) {b : Addr} (h : H1 b = none) : H b = none := Classical.byContradiction fun z => a.dom b z h
theorem Le.trans (a : Le F H g F1 H1 g1) (b : Le F1 H1 g1 F2 H2 g2) : Le F H g F2 H2 g2 where
  fx := a.fx.trans b.fx
  fr := fun c o e n => b.fr c o (a.fr c o e n) (a.gnone n (by rw [e]; exact nofun))
  dom := fun c h => b.dom c (a.dom c h)
  gn := fun c p h => by
    rcases b.gn c p h with z | z
    · exact a.gn c p z
    · exact .inr (a.hnone z)
  fn := fun c h => by
    rcases b.fn c h with z | z | z
    · exact a.fn c z
    · cases e : g1 c with
      | none => exact absurd e z
      | some p => rcases a.gn c p e with y | y
                  · exact .inr (.inl (by rw [y]; exact nofun))
                  · exact .inr (.inr y)
    · exact .inr (.inr (a.hnone z))
end
/-- the field f of the instance at slot i, as it stands in the heap -/
def VP (σ : L2.St) (H : Hp) (i : Nat) (f : String) : Option V := match σ[i]? with
  | some (some (.ref a)) => match H a with
    | some (.ins _ _ vf) => vf.lookup (nm f)
    | _ => none
  | _ => none
/-- the fields that hold lists and dicts stay -/
def Ls (X : Nat → Prop) (ρ : Rho) (σ : L2.St) (H : Hp) (ρ' : Rho) (σ' : L2.St) (H' : Hp) : Prop :=
  ∀ i f w, X i → getP ρ i (some f) = some w → isLD w = true → (∃ w', getP ρ' i (some f) = some w' ∧ isLD w' = true) ∧ VP σ' H' i f = VP σ H i f
theorem Ls.refl {X : Nat → Prop} {ρ : Rho} {σ : L2.St} {H : Hp} : Ls X ρ σ H ρ σ H := fun _ _ w _ e l => ⟨⟨w, e, l⟩, rfl⟩
theorem Ls.trans {X : Nat → Prop} {ρ ρ1 ρ2 : Rho} {σ σ1 σ2 : L2.St} {H H1 H2 : Hp} (a : Ls X ρ σ H ρ1 σ1 H1) (b : Ls X ρ1 σ1 H1 ρ2 σ2 H2) : Ls X ρ σ H ρ2 σ2 H2 := fun i f w x e l => by
  obtain ⟨⟨w1, e1, l1⟩, v1⟩ := a i f w x e l
  obtain ⟨z, v2⟩ := b i f w1 x e1 l1
  exact ⟨z, v2.trans v1⟩
theorem Ls.imp {X Y : Nat → Prop} {ρ ρ' : Rho} {σ σ' : L2.St} {H H' : Hp} (h : ∀ i, Y i → X i) (a : Ls X ρ σ H ρ' σ' H') : Ls Y ρ σ H ρ' σ' H' := fun i f w x e l => a i f w (h i x) e l
abbrev All : Nat → Prop := fun _ => True
/-- from one state to a later one, the slots' values as they were -/
structure Ps (K : PySem.W.Frag) (σ : L2.St) (F H : Hp) (g : Gh) (ρ : Rho) (F' H' : Hp) (g' : Gh) (ρ' : Rho) : Prop where
  le : Le F H g F' H' g'
  rl : Rl K F' H' g' ρ' σ
  ls : Ls All ρ σ H ρ' σ H'
section
variable {K : PySem.W.Frag} {σ : L2.St} {F H F1 H1 F2 H2 : Hp} {g g1 g2 : Gh} {ρ ρ1 ρ2 : Rho}
theorem Ps.refl (r : Rl K F H g ρ σ) : Ps K σ F H g ρ F H g ρ := ⟨.refl, r, .refl⟩
theorem Ps.trans (a : Ps K σ F H g ρ F1 H1 g1 ρ1) (b : Ps K σ F1 H1 g1 ρ1 F2 H2 g2 ρ2) : Ps K σ F H g ρ F2 H2 g2 ρ2 := ⟨a.le.trans b.le, b.rl, a.ls.trans b.ls⟩
end
/-- marks of a value that no slot owns: made since H0 -/
def Mks (H0 F H : Hp) (g : Gh) (m : Mk) : Prop := ∀ a f, m a = some f → F a = none ∧ g a = none ∧ H a ≠ none ∧ H0 a = none
/-- an expression's answer and its value -/
def Tm (K : PySem.W.Frag) (σ : L2.St) (H0 F H : Hp) (g : Gh) (ρ : Rho) : T → V → Prop
  | .val w, v => ∃ m : Mk, Mks H0 F H g m ∧ Ow K F H (fun f a => m a = some f) w v
  | .pl i none, v => σ[i]? = some (some v)
  | .pl i (some f), v => VP σ H i f = some v ∧ ∃ w, getP ρ i (some f) = some w ∧ isLD w = true
section
variable {K : PySem.W.Frag} {σ : L2.St} {F H F1 H1 F2 H2 H0 : Hp} {g g1 g2 g0 : Gh} {ρ ρ1 ρ2 : Rho} {t : T} {v : V}
theorem Mks.le {m : Mk} (h : Mks H0 F H g m) (a : Le F H g F1 H1 g1) : Mks H0 F1 H1 g1 m := fun b f e => by
  obtain ⟨h1, h2, h3, h4⟩ := h b f e
  refine ⟨?_, a.gnone h2 h3, a.dom b h3, h4⟩
  cases x : F1 b with
  | none => rfl
  | some o => rcases a.fn b (by rw [x]; exact nofun) with z | z | z
              · exact absurd h1 z
              · exact absurd h2 z
              · exact absurd z h3
theorem Mks.start {m : Mk} (h : Mks H1 F2 H2 g2 m) (a : Le F H g F1 H1 g1) : Mks H F2 H2 g2 m := fun b f e => by
  obtain ⟨h1, h2, h3, h4⟩ := h b f e
  exact ⟨h1, h2, h3, a.hnone h4⟩
theorem Tm.later (h : Tm K σ H0 F H g ρ t v) (p : Ps K σ F H g ρ F1 H1 g1 ρ1) : Tm K σ H0 F1 H1 g1 ρ1 t v := by
  cases t with
  | val w =>
    obtain ⟨m, h1, h2⟩ := h
    refine ⟨m, h1.le p.le, h2.mono p.le.fx (fun f a e => ?_) (fun _ _ e => e)⟩
    obtain ⟨_, y, z, _⟩ := h1 a f e
    cases q : H a with
    | none => exact absurd q z
    | some o => exact p.le.fr a o q y
  | pl i f => cases f with
    | none => exact h
    | some f =>
      obtain ⟨h1, w, h2, h3⟩ := h
      obtain ⟨x, y⟩ := p.ls i f w trivial h2 h3
      exact ⟨y.trans h1, x⟩
theorem Tm.start (h : Tm K σ H1 F2 H2 g2 ρ2 t v) (a : Le F H g F1 H1 g1) : Tm K σ H F2 H2 g2 ρ2 t v := by
  cases t with
  | val w =>
    obtain ⟨m, h1, h2⟩ := h
    exact ⟨m, h1.start a, h2⟩
  | pl i f => cases f with
    | none => exact h
    | some f => exact h
/-! ### reading -/
/-- v is to be read as w -/
def Rb (K : PySem.W.Frag) (F H : Hp) (w : W) (v : V) : Prop := ∃ P, Ow K F H P w v
theorem OwFs.get {P : Option String → Addr → Prop} : ∀ {fs : List (String × W)} {vf : List (Str × V)} {f : String} {w : W}, OwFs K F H P fs vf → fs.lookup f = some w → ∃ v, vf.lookup (nm f) = some v ∧ OwF K F H P f w v
  | _, _, _, _, .nil, e => by simp at e
  | (k, x) :: r, _, f, w, .cons (v := v) (vs := vs) h l, e => by
    by_cases c : f = k
    · subst c
      simp only [List.lookup_cons, beq_self_eq_true] at e ⊢
      cases e
      exact ⟨v, rfl, h⟩
    · have c1 : (f == k) = false := by simp [c]
      have c2 : (nm f == nm k) = false := by
        have : nm f ≠ nm k := fun z => c (nm_inj z)
        simp [this]
      simp only [List.lookup_cons, c1] at e
      simp only [List.lookup_cons, c2]
      exact OwFs.get l e
theorem OwF.ow {P : Option String → Addr → Prop} {f : String} {w : W} {v : V} (h : OwF K F H P f w v) : Ow K F H (fun p a => p = none ∧ P (some f) a) w v := by
  cases w with
  | lst o xs => cases o with
    | true => obtain ⟨a, vs, e, h1, h2, h3⟩ := h; exact ⟨a, vs, e, h1, ⟨rfl, h2⟩, h3⟩
    | false => exact Ow.of (w := .lst false xs) h
  | dic o kvs => cases o with
    | true => obtain ⟨a, vs, e, h1, h2, h3⟩ := h; exact ⟨a, vs, e, h1, ⟨rfl, h2⟩, h3⟩
    | false => exact Ow.of (w := .dic false kvs) h
  | ins o C fs => exact Ow.of (w := .ins o C fs) h
  | non => exact Ow.of (w := .non) h
  | bl b => exact Ow.of (w := .bl b) h
  | int i => exact Ow.of (w := .int i) h
  | str x => exact Ow.of (w := .str x) h
  | tup xs => exact Ow.of (w := .tup xs) h
  | exc C fs => exact Ow.of (w := .exc C fs) h
  | fn x => exact Ow.of (w := .fn x) h
  | scr ns => exact Ow.of (w := .scr ns) h
/-- an instance of one's own at a slot, by its fields -/
theorem Rl.field (r : Rl K F H g ρ σ) {i : Nat} {f : String} {w : W} (e : getP ρ i (some f) = some w) (o : own w = true ∨ ∃ C fs, slot ρ i = some (.ins true C fs)) :
    ∃ C fs a dx vf v, slot ρ i = some (.ins true C fs) ∧ fs.lookup f = some w ∧ σ[i]? = some (some (.ref a)) ∧ H a = some (.ins (cad K C) dx vf) ∧ g a = some (i, none) ∧ (OwFs K F H (fun f a => g a = some (i, f)) fs vf ∧ (fs.map (·.1)).Nodup) ∧
      vf.lookup (nm f) = some v ∧ OwF K F H (fun f a => g a = some (i, f)) f w v ∧ VP σ H i f = some v := by
  have e' : (slot ρ i).bind (fun w => getF w f) = some w := e
  cases s : slot ρ i with
  | none => rw [s] at e'; cases e'
  | some x =>
    rw [s] at e'
    cases x with
    | ins own' C fs =>
      have el : fs.lookup f = some w := e'
      obtain ⟨v, hv, hO⟩ := r.sl i _ s
      cases own' with
      | true =>
        obtain ⟨a, dx, vf, rfl, h1, h2, h3⟩ := hO
        obtain ⟨u, hu, hF⟩ := h3.1.get el
        refine ⟨C, fs, a, dx, vf, u, rfl, el, hv, h1, h2, h3, hu, hF, ?_⟩
        unfold VP
        rw [hv]
        simp only [h1]
        exact hu
      | false => cases hO
    | _ => cases e'
theorem Tm.drf (r : Rl K F H g ρ σ) (h : Tm K σ H0 F H g ρ t v) {w : W} (e : Rf.drf ρ t = some w) : Rb K F H w v := by
  cases t with
  | val x =>
    cases e
    obtain ⟨m, _, h2⟩ := h
    exact ⟨_, h2⟩
  | pl i f => cases f with
    | none =>
      obtain ⟨u, hu, hO⟩ := r.sl i w e
      have h' : σ[i]? = some (some v) := h
      rw [h'] at hu
      cases hu
      exact ⟨_, hO⟩
    | some f =>
      obtain ⟨h1, x, h2, h3⟩ := h
      have ee : getP ρ i (some f) = some w := e
      rw [h2] at ee
      cases ee
      cases s : slot ρ i with
      | none => simp [getP, s] at h2
      | some y => cases y with
        | ins o C fs => cases o with
          | true =>
            obtain ⟨_, _, _, _, _, u, _, _, _, _, _, _, _, hF, hV⟩ := r.field h2 (.inr ⟨C, fs, s⟩)
            rw [h1] at hV
            cases hV
            exact ⟨_, hF.ow⟩
          | false =>
            obtain ⟨_, _, hO⟩ := r.sl i _ s
            cases hO
        | _ => simp [getP, s, getF] at h2
end
end Rf
namespace Rf
open PySem PySem.Spec PyProof.Rows L2
section
variable {K : PySem.W.Frag} {σ : L2.St} {F H F0 H0 F1 H1 F2 H2 : Hp} {g g0 g1 g2 : Gh} {ρ ρ0 ρ1 ρ2 ρ' : Rho} {t : T} {v : V} {w : W}
theorem slot_set {ρ : Rho} {i j : Nat} {w : Option W} (h : i < ρ.length) : slot (ρ.set i w) j = if j = i then w else slot ρ j := by
  unfold slot
  rw [List.getElem?_set]
  by_cases e : i = j
  · subst e
    simp [h]
  · simp [e, Ne.symm e]
theorem slot_lt {ρ : Rho} {i : Nat} {w : W} (h : slot ρ i = some w) : i < ρ.length := by
  unfold slot at h
  cases e : ρ[i]? with
  | none => rw [e] at h; cases h
  | some x => exact (List.getElem?_eq_some_iff.mp e).1
theorem lookup_putA (f g : String) (w : W) : ∀ fs : List (String × W), (putA f w fs).lookup g = if g = f then some w else fs.lookup g
  | [] => by
    by_cases c : g = f
    · subst c; simp [putA]
    · have : (g == f) = false := by simp [c]
      simp [putA, this, c, List.lookup_cons]
  | (k, x) :: r => by
    unfold putA
    by_cases c : k = f
    · subst c
      rw [if_pos rfl]
      by_cases d : g = k
      · subst d; simp
      · have : (g == k) = false := by simp [d]
        simp [List.lookup_cons, this, d]
    · rw [if_neg c]
      by_cases d : g = k
      · subst d
        simp [c]
      · have : (g == k) = false := by simp [d]
        simp only [List.lookup_cons, this]
        exact lookup_putA f g w r
theorem OwFs.imp {P P' : Option String → Addr → Prop} : ∀ {fs : List (String × W)} {vf : List (Str × V)}, OwFs K F H P fs vf →
    (∀ f w v, f ∈ fs.map (·.1) → OwF K F H P f w v → OwF K F1 H1 P' f w v) → OwFs K F1 H1 P' fs vf
  | _, _, .nil, _ => .nil
  | _, _, .cons a b, k => .cons (k _ _ _ (List.mem_cons_self ..) a) (OwFs.imp b fun f w v m => k f w v (List.mem_cons_of_mem _ m))
theorem OwFs.put {P P' : Option String → Addr → Prop} {f0 : String} {w' : W} {v' : V} : ∀ {fs : List (String × W)} {vf : List (Str × V)}, OwFs K F H P fs vf → (fs.map (·.1)).Nodup →
    OwF K F1 H1 P' f0 w' v' → (∀ f w v, f ≠ f0 → OwF K F H P f w v → OwF K F1 H1 P' f w v) → OwFs K F1 H1 P' (putA f0 w' fs) (putF (nm f0) v' vf)
  | _, _, .nil, _, h, k => .cons h .nil
  | (g, x) :: r, _, .cons (v := y) (vs := vs) a b, nd, h, k => by
    unfold putA putF
    rw [List.map_cons, List.nodup_cons] at nd
    by_cases c : g = f0
    · subst c
      rw [if_pos rfl, if_pos rfl]
      exact .cons h (b.imp fun f w v m z => k f w v (fun e => nd.1 (e ▸ m)) z)
    · rw [if_neg c, if_neg (fun z => c (nm_inj z))]
      exact .cons (k _ _ _ c a) (OwFs.put b nd.2 h k)
theorem keys_putA (f : String) (w : W) : ∀ fs : List (String × W), (putA f w fs).map (·.1) = if f ∈ fs.map (·.1) then fs.map (·.1) else fs.map (·.1) ++ [f]
  | [] => rfl
  | (k, x) :: r => by
    unfold putA
    by_cases c : k = f
    · subst c; simp
    · rw [if_neg c, List.map_cons, keys_putA f w r]
      have c' : f ≠ k := Ne.symm c
      by_cases d : f ∈ r.map (·.1)
      · rw [if_pos d, if_pos (by simp only [List.map_cons, List.mem_cons]; exact .inr d)]; rfl
      · rw [if_neg d, if_neg (by simp only [List.map_cons, List.mem_cons]; exact fun z => z.elim c' d)]; rfl
theorem nodup_putA {f : String} {w : W} {fs : List (String × W)} (h : (fs.map (·.1)).Nodup) : ((putA f w fs).map (·.1)).Nodup := by
  rw [keys_putA]
  split
  · exact h
  · rename_i c
    rw [List.nodup_append]
    exact ⟨h, by simp, fun a ha b hb => by simp at hb; subst hb; intro e; subst e; exact c ha⟩
theorem putF_same (f : Str) (v : V) : ∀ vf : List (Str × V), vf.lookup f = some v → putF f v vf = vf
  | [], e => by simp at e
  | (k, x) :: r, e => by
    unfold putF
    by_cases c : k = f
    · subst c
      simp at e
      rw [if_pos rfl, e]
    · rw [if_neg c]
      have : (f == k) = false := by simp [Ne.symm c]
      simp only [List.lookup_cons, this] at e
      rw [putF_same f v r e]
/-- the marks m are slot i's now -/
def gset (g : Gh) (i : Nat) (m : Mk) : Gh := fun b => match m b with
  | some f => some (i, f)
  | none => match g b with
    | some (j, f) => if j = i then none else some (j, f)
    | none => none
/-- a slot's value exchanged, nothing else touched -/
theorem Rl.set (r : Rl K F H g ρ σ) {i : Nat} (hi : i < ρ.length) {m : Mk} (hm : Mks H0 F H g m) (hO : Ow K F H (fun f a => m a = some f) w v) :
    Rl K F H (gset g i m) (ρ.set i (some w)) (σ.set i (some v)) where
  sub := r.sub
  gF := fun a p e => by
    unfold gset at e
    cases x : m a with
    | some f => exact (hm a f x).1
    | none => rw [x] at e; dsimp only at e
              cases y : g a with
              | none => rw [y] at e; cases e
              | some q => exact r.gF a q y
  gH := fun a p e => by
    unfold gset at e
    cases x : m a with
    | some f => exact (hm a f x).2.2.1
    | none => rw [x] at e; dsimp only at e
              cases y : g a with
              | none => rw [y] at e; cases e
              | some q => exact r.gH a q y
  len := by simp [r.len]
  sl := fun j x e => by
    rw [slot_set hi] at e
    by_cases c : j = i
    · subst c
      rw [if_pos rfl] at e
      cases e
      refine ⟨v, by rw [List.getElem?_set]; simp [r.len ▸ hi], hO.mono (Sub.refl _) (fun _ _ _ => rfl) fun f a ha => ?_⟩
      unfold gset
      rw [ha]
    · rw [if_neg c] at e
      obtain ⟨u, hu, hQ⟩ := r.sl j x e
      refine ⟨u, by rw [List.getElem?_set]; simp [Ne.symm c, hu], hQ.mono (Sub.refl _) (fun _ _ _ => rfl) fun f a ha => ?_⟩
      unfold gset
      have mn : m a = none := by
        cases x : m a with
        | none => rfl
        | some q => have := (hm a q x).2.1; rw [ha] at this; cases this
      rw [mn, ha]
      simp [c]
/-- .. to a value that leaves all else -/
theorem Le.set {i : Nat} {m : Mk} (l : Le F0 H0 g0 F H g) (hm : Mks H0 F H g m) :
    Le F0 H0 g0 F H (gset g i m) where
  fx := l.fx
  fr := l.fr
  dom := l.dom
  gn := fun b p e => by
    unfold gset at e
    cases x : m b with
    | some f => exact .inr (hm b f x).2.2.2
    | none =>
      rw [x] at e; dsimp only at e
      cases y : g b with
      | none => rw [y] at e; cases e
      | some q =>
        rw [y] at e; dsimp only at e
        split at e
        · cases e
        · cases e; exact l.gn b _ y
  fn := l.fn
/-- a slot is forgotten -/
theorem Rl.unset (r : Rl K F H g ρ σ) {i : Nat} {u : Option V} : Rl K F H g (ρ.set i none) (σ.set i u) where
  sub := r.sub
  gF := r.gF
  gH := r.gH
  len := by simp [r.len]
  sl := fun j x e => by
    by_cases hi : i < ρ.length
    · rw [slot_set hi] at e
      by_cases c : j = i
      · rw [if_pos c] at e; cases e
      · rw [if_neg c] at e
        obtain ⟨u, hu, hQ⟩ := r.sl j x e
        exact ⟨u, by rw [List.getElem?_set]; simp [Ne.symm c, hu], hQ⟩
    · rw [List.set_eq_of_length_le (by omega)] at e
      rw [List.set_eq_of_length_le (by rw [← r.len]; omega)]
      exact r.sl j x e
end
end Rf
namespace Rf
open PySem PySem.Spec PyProof.Rows L2
section
variable {K : PySem.W.Frag} {σ : L2.St} {F H F0 H0 F1 H1 F2 H2 : Hp} {g g0 g1 g2 : Gh} {ρ ρ0 ρ1 ρ2 ρ' : Rho} {t : T} {v : V} {w w' : W}
theorem sub_upd {a : Addr} {o : HO} (h : F a = none) : Sub F (upd F a o) := fun b u e => by
  rw [upd_ne (ne_of_none e h)]
  exact e
theorem upd_sub {a : Addr} {o : HO} (s : Sub F H) (h : H a = some o) : Sub (upd F a o) H := fun b u e => by
  by_cases c : b = a
  · subst c; rw [upd_same] at e; cases e; exact h
  · rw [upd_ne c] at e; exact s _ _ e
/-- a is forgotten as an owned thing -/
def gdel (g : Gh) (a : Addr) : Gh := fun b => if b = a then none else g b
/-- an object of one's own is frozen: the slots that do not own it stay -/
theorem Rl.freeze (r : Rl K F H g ρ σ) {a : Addr} {o : HO} (hF : F a = none) (hH : H a = some o) (hl : ρ'.length = ρ.length)
    (hs : ∀ i x, slot ρ' i = some x → (slot ρ i = some x ∧ ∀ f, g a ≠ some (i, f)) ∨ ∃ v, σ[i]? = some (some v) ∧ Ow K (upd F a o) H (fun f b => gdel g a b = some (i, f)) x v) :
    Rl K (upd F a o) H (gdel g a) ρ' σ where
  sub := upd_sub r.sub hH
  gF := fun b p e => by
    unfold gdel at e
    by_cases c : b = a
    · rw [if_pos c] at e; cases e
    · rw [if_neg c] at e; rw [upd_ne c]; exact r.gF b p e
  gH := fun b p e => by
    unfold gdel at e
    by_cases c : b = a
    · rw [if_pos c] at e; cases e
    · rw [if_neg c] at e; exact r.gH b p e
  len := hl.trans r.len
  sl := fun i x e => by
    rcases hs i x e with ⟨e', hn⟩ | h
    · obtain ⟨v, hv, hO⟩ := r.sl i x e'
      refine ⟨v, hv, hO.mono (sub_upd hF) (fun _ _ _ => rfl) fun f b hb => ?_⟩
      have : b ≠ a := fun z => hn f (z ▸ hb)
      unfold gdel
      rw [if_neg this]
      exact hb
    · exact h
theorem Le.freeze {a : Addr} {o : HO} (l : Le F0 H0 g0 F H g) (hF : F a = none) (h : H0 a = none ∨ g a ≠ none) : Le F0 H0 g0 (upd F a o) H (gdel g a) where
  fx := l.fx.trans (sub_upd hF)
  fr := l.fr
  dom := l.dom
  gn := fun b p e => by
    unfold gdel at e
    by_cases c : b = a
    · rw [if_pos c] at e; cases e
    · rw [if_neg c] at e; exact l.gn b p e
  fn := fun b e => by
    by_cases c : b = a
    · subst c
      rcases h with h | h
      · exact .inr (.inr h)
      · cases x : g b with
        | none => exact absurd x h
        | some p => rcases l.gn b p x with y | y
                    · exact .inr (.inl (by rw [y]; exact nofun))
                    · exact .inr (.inr y)
    · rw [upd_ne c] at e; exact l.fn b e
theorem getP_setP {ρ : Rho} {i : Nat} {f : Option String} {w x : W} (h : getP ρ i f = some x) (j : Nat) (k : String) :
    getP (setP ρ i f w) j (some k) = if j = i then f.elim (getF w k) (fun f => if k = f then some w else getP ρ i (some k)) else getP ρ j (some k) := by
  cases f with
  | none =>
    have hi : i < ρ.length := slot_lt h
    unfold getP setP
    rw [slot_set hi]
    by_cases c : j = i
    · subst c; simp
    · simp [c]
  | some f =>
    unfold getP at h
    cases s : slot ρ i with
    | none => rw [s] at h; cases h
    | some y =>
      rw [s] at h
      cases y with
      | ins o C fs =>
        have hi : i < ρ.length := slot_lt s
        have e1 : setP ρ i (some f) w = ρ.set i (some (.ins o C (putA f w fs))) := by unfold setP; rw [s]
        rw [e1]
        show (slot (ρ.set i (some (.ins o C (putA f w fs)))) j).bind (fun w => getF w k) = _
        rw [slot_set hi]
        by_cases c : j = i
        · subst c
          rw [if_pos rfl, if_pos rfl]
          show (putA f w fs).lookup k = if k = f then some w else (slot ρ j).bind (fun w => getF w k)
          rw [lookup_putA, s]
          rfl
        · rw [if_neg c, if_neg c]
          rfl
      | _ => cases h
theorem setP_len {ρ : Rho} {i : Nat} {f : Option String} {w : W} : (setP ρ i f w).length = ρ.length := by
  cases f with
  | none => simp [setP]
  | some f =>
    show (match slot ρ i with
      | some (.ins o C fs) => ρ.set i (some (.ins o C (putA f w fs)))
      | _ => ρ).length = _
    split
    · simp
    · rfl
/-- the place (i, f) holds an owned list or dict at a: what that is -/
theorem Tm.place (r : Rl K F H g ρ σ) {i : Nat} {f : Option String} (h : Tm K σ H0 F H g ρ (.pl i f) v) (e : getP ρ i f = some w) (o : own w = true) (n : isIns w = false) :
    ∃ a, v = .ref a ∧ g a = some (i, f) ∧ ((∃ xs vs, w = .lst true xs ∧ H a = some (.lst vs) ∧ ShL K F xs vs) ∨ ∃ kvs vk, w = .dic true kvs ∧ H a = some (.dK vk) ∧ ShK K F kvs vk) := by
  cases f with
  | none =>
    obtain ⟨u, hu, hO⟩ := r.sl i w e
    have h' : σ[i]? = some (some v) := h
    rw [h'] at hu
    cases hu
    cases w with
    | lst o' xs => cases o' with
      | true => obtain ⟨a, vs, rfl, h1, h2, h3⟩ := hO; exact ⟨a, rfl, h2, .inl ⟨xs, vs, rfl, h1, h3⟩⟩
      | false => cases o
    | dic o' kvs => cases o' with
      | true => obtain ⟨a, vs, rfl, h1, h2, h3⟩ := hO; exact ⟨a, rfl, h2, .inr ⟨kvs, vs, rfl, h1, h3⟩⟩
      | false => cases o
    | ins _ _ _ => cases n
    | _ => cases o
  | some f =>
    obtain ⟨h1, x, h2, h3⟩ := h
    rw [e] at h2
    cases h2
    obtain ⟨C, fs, a, dx, vf, u, s1, s2, s3, s4, s5, s6, s7, s8, s9⟩ := r.field e (.inl o)
    rw [h1] at s9
    cases s9
    cases w with
    | lst o' xs => cases o' with
      | true => obtain ⟨a, vs, rfl, h1, h2, h3⟩ := s8; exact ⟨a, rfl, h2, .inl ⟨xs, vs, rfl, h1, h3⟩⟩
      | false => cases o
    | dic o' kvs => cases o' with
      | true => obtain ⟨a, vs, rfl, h1, h2, h3⟩ := s8; exact ⟨a, rfl, h2, .inr ⟨kvs, vs, rfl, h1, h3⟩⟩
      | false => cases o
    | ins _ _ _ => cases n
    | _ => cases o
/-- the slots behind a store to the place (i, f): its own object at a changed or frozen -/
theorem Rl.place_slots (r : Rl K F H g ρ σ) {i : Nat} {f : Option String} {a : Addr} {g' : Gh} (hs : Sub F F1) (e : getP ρ i f = some w) (o : own w = true) (n : isIns w = false) (hv : Tm K σ H0 F H g ρ (.pl i f) v) (ea : v = .ref a)
    (hk : ∀ b, b ≠ a → g b ≠ none → H1 b = H b) (hg : ∀ b, b ≠ a → g' b = g b)
    (hw : Ow K F1 H1 (fun p b => p = none ∧ b = a ∧ g' b = some (i, f)) w' v) (nw : isIns w' = false) :
    ∀ j x, slot (setP ρ i f w') j = some x → ∃ u, σ[j]? = some (some u) ∧ Ow K F1 H1 (fun p b => g' b = some (j, p)) x u := by
  obtain ⟨a', ea', ga, _⟩ := hv.place r e o n
  rw [ea] at ea'; cases ea'
  intro j x ex
  have oth : ∀ j x, slot ρ j = some x → j ≠ i → ∃ u, σ[j]? = some (some u) ∧ Ow K F1 H1 (fun p b => g' b = some (j, p)) x u := fun j x ex c => by
    obtain ⟨u, hu, hO⟩ := r.sl j x ex
    refine ⟨u, hu, hO.mono hs (fun p b hb => hk b (fun z => ?_) (by rw [hb]; exact nofun)) fun p b hb => ?_⟩
    · rw [z, ga] at hb; cases hb; exact c rfl
    · rw [hg b (fun z => by rw [z, ga] at hb; cases hb; exact c rfl)]; exact hb
  cases f with
  | none =>
    have hi : i < ρ.length := slot_lt e
    unfold setP at ex
    rw [slot_set hi] at ex
    by_cases c : j = i
    · subst c
      rw [if_pos rfl] at ex
      cases ex
      refine ⟨v, hv, hw.mono (Sub.refl _) (fun _ _ _ => rfl) fun p b hb => ?_⟩
      obtain ⟨rfl, rfl, h⟩ := hb
      exact h
    · rw [if_neg c] at ex; exact oth j x ex c
  | some f =>
    obtain ⟨C, fs, b, dx, vf, u, s1, s2, s3, s4, s5, s6, s7, s8, s9⟩ := r.field e (.inl o)
    have hi : i < ρ.length := slot_lt s1
    have hba : b ≠ a := fun z => by rw [z, ga] at s5; cases s5
    unfold setP at ex
    rw [s1] at ex
    dsimp only at ex
    rw [slot_set hi] at ex
    by_cases c : j = i
    · subst c
      rw [if_pos rfl] at ex
      cases ex
      have hv2 : u = v := by
        have := hv.1
        rw [s9] at this
        exact Option.some.inj this
      subst hv2
      refine ⟨.ref b, s3, b, dx, vf, rfl, (hk b hba (by rw [s5]; exact nofun)).trans s4, (hg b hba).trans s5, ?_, nodup_putA s6.2⟩
      have key : OwFs K F1 H1 (fun p b => g' b = some (j, p)) (putA f w' fs) (putF (nm f) u vf) := by
        refine s6.1.put s6.2 ?_ fun f' w0 v0 hf hz => ?_
        · cases w' with
          | lst o' xs => cases o' with
            | true => obtain ⟨a2, vs, z, h1, h2, h3⟩ := hw; exact ⟨a2, vs, z, h1, h2.2.2, h3⟩
            | false => exact OwF.of (w := .lst false xs) hw
          | dic o' xs => cases o' with
            | true => obtain ⟨a2, vs, z, h1, h2, h3⟩ := hw; exact ⟨a2, vs, z, h1, h2.2.2, h3⟩
            | false => exact OwF.of (w := .dic false xs) hw
          | ins _ _ _ => cases nw
          | non => exact OwF.of (w := .non) hw
          | bl b => exact OwF.of (w := .bl b) hw
          | int i => exact OwF.of (w := .int i) hw
          | str x => exact OwF.of (w := .str x) hw
          | tup xs => exact OwF.of (w := .tup xs) hw
          | exc C fs => exact OwF.of (w := .exc C fs) hw
          | fn x => exact OwF.of (w := .fn x) hw
          | scr ns => exact OwF.of (w := .scr ns) hw
        · refine hz.mono hs (fun b2 hb => hk b2 (fun z => ?_) (by rw [hb]; exact nofun)) fun b2 hb => ?_
          · rw [z, ga] at hb; cases hb; exact hf rfl
          · rw [hg b2 (fun z => by rw [z, ga] at hb; cases hb; exact hf rfl)]; exact hb
      rw [putF_same _ _ _ s7] at key
      exact key
    · rw [if_neg c] at ex; exact oth j x ex c
end
end Rf
namespace Rf
open PySem PySem.Spec PyProof.Rows L2
section
variable {K : PySem.W.Frag} {σ : L2.St} {F H F0 H0 F1 H1 F2 H2 : Hp} {g g0 g1 g2 : Gh} {ρ ρ0 ρ1 ρ2 ρ' : Rho} {t : T} {v : V} {w w' : W}
/-- the instance of a slot stands where a list or dict does not -/
theorem Rl.vp (r : Rl K F H g ρ σ) {j : Nat} {f : String} {x : W} (e : getP ρ j (some f) = some x) {H1 : Hp} (k : ∀ b C dx vf, H b = some (.ins C dx vf) → g b ≠ none → H1 b = H b) : VP σ H1 j f = VP σ H j f := by
  have e' : (slot ρ j).bind (fun w => getF w f) = some x := e
  cases s : slot ρ j with
  | none => rw [s] at e'; cases e'
  | some y => cases y with
    | ins o C fs =>
      obtain ⟨v, hv, hO⟩ := r.sl j _ s
      cases o with
      | true =>
        obtain ⟨a, dx, vf, rfl, h1, h2, h3⟩ := hO
        have h2' : g a = some (j, none) := h2
        unfold VP
        rw [hv]
        dsimp only
        rw [k a _ _ _ h1 (by rw [h2']; exact nofun)]
      | false => cases hO
    | _ => rw [s] at e'; cases e'
/-- a list or dict at a place exchanged for another one: the fields stay -/
theorem Ls.setP (r : Rl K F H g ρ σ) {i : Nat} {f : Option String} (e : getP ρ i f = some w) (ni : isIns w = false) (l' : isLD w' = true)
    (k : ∀ b C dx vf, H b = some (.ins C dx vf) → g b ≠ none → H1 b = H b) : Ls All ρ σ H (setP ρ i f w') σ H1 := fun j fj x _ ex lx => by
  refine ⟨?_, r.vp ex k⟩
  rw [getP_setP e]
  by_cases c : j = i
  · subst c
    rw [if_pos rfl]
    cases f with
    | none =>
      exfalso
      have : slot ρ j = some w := e
      have e2 : (slot ρ j).bind (fun w => getF w fj) = some x := ex
      rw [this] at e2
      cases w with
      | ins _ _ _ => cases ni
      | _ => cases e2
    | some f =>
      show ∃ y, (if fj = f then some w' else getP ρ j (some fj)) = some y ∧ isLD y = true
      by_cases d : fj = f
      · rw [if_pos d]; exact ⟨w', rfl, l'⟩
      · rw [if_neg d]; exact ⟨x, ex, lx⟩
  · rw [if_neg c]; exact ⟨x, ex, lx⟩
theorem Le.mut {a : Addr} {o : HO} (l : Le F0 H0 g0 F H g) (h : H0 a = none ∨ g a ≠ none) : Le F0 H0 g0 F (upd H a o) g where
  fx := l.fx
  fr := fun b u e n => by
    have : b ≠ a := fun z => by
      subst z
      rcases h with h | h
      · rw [h] at e; cases e
      · exact h (l.gnone n (by rw [e]; exact nofun))
    rw [upd_ne this]
    exact l.fr b u e n
  dom := fun b h => by
    by_cases c : b = a
    · subst c; rw [upd_same]; exact nofun
    · rw [upd_ne c]; exact l.dom b h
  gn := l.gn
  fn := l.fn
/-- the list or dict at a place is changed -/
theorem Ps.mut (p : Ps K σ F0 H0 g0 ρ0 F H g ρ) {i : Nat} {f : Option String} {a : Addr} {o : HO} (e : getP ρ i f = some w) (o1 : own w = true) (n : isIns w = false) (tm : Tm K σ H0 F H g ρ (.pl i f) (.ref a)) (l' : isLD w' = true)
    (hw : ∀ P : Option String → Addr → Prop, P none a → Ow K F (upd H a o) P w' (.ref a)) (nw : isIns w' = false) : Ps K σ F0 H0 g0 ρ0 F (upd H a o) g (setP ρ i f w') := by
  obtain ⟨a', ea, ga, hh⟩ := tm.place p.rl e o1 n
  cases ea
  have nF : F a = none := p.rl.gF a _ ga
  have notins : ∀ b C dx vf, H b = some (.ins C dx vf) → g b ≠ none → (upd H a o) b = H b := fun b C dx vf hb _ => by
    refine upd_ne (fun z => ?_)
    subst z
    rcases hh with ⟨_, _, _, h1, _⟩ | ⟨_, _, _, h1, _⟩ <;> (rw [hb] at h1; cases h1)
  refine ⟨p.le.mut (.inr (by rw [ga]; exact nofun)), ⟨fun b u eb => ?_, p.rl.gF, fun b q eb => ?_, setP_len.trans p.rl.len, ?_⟩, p.ls.trans (Ls.setP p.rl e n l' notins)⟩
  · rw [upd_ne (ne_of_none eb nF)]; exact p.rl.sub b u eb
  · by_cases c : b = a
    · subst c; rw [upd_same]; exact nofun
    · rw [upd_ne c]; exact p.rl.gH b q eb
  · exact p.rl.place_slots (F1 := F) (H1 := upd H a o) (g' := g) (Sub.refl _) e o1 n tm rfl (fun b c _ => upd_ne c) (fun _ _ => rfl) (hw _ ⟨rfl, rfl, ga⟩) nw
/-- THE SHARING -/
theorem sh_ok (p : Ps K σ F0 H0 g0 ρ0 F H g ρ) (tm : Tm K σ H0 F H g ρ t v) {r : Out W} (e : sh t ρ = some (r, ρ')) :
    ∃ w F' g', r = .ok w ∧ Ps K σ F0 H0 g0 ρ0 F' H g' ρ' ∧ Sh K F' w v := by
  cases t with
  | val w =>
    obtain ⟨m, hm, hO⟩ := tm
    have e0 : (match frz w with | none => none | some w' => some (Out.ok w', ρ)) = some (r, ρ') := e
    cases o : own w with
    | false =>
      have s := hO.sh o
      rw [s.frz] at e0
      cases e0
      exact ⟨w, F, g, rfl, p, s⟩
    | true =>
      cases w with
      | lst b xs => cases b with
        | true =>
          cases e0
          obtain ⟨a, vs, rfl, h1, h2, h3⟩ := hO
          obtain ⟨k1, k2, k3, k4⟩ := hm a _ h2
          refine ⟨_, upd F a (.lst vs), gdel g a, rfl, ⟨p.le.freeze k1 (.inl k4), p.rl.freeze k1 h1 rfl fun i x ex => .inl ⟨ex, fun f z => by rw [k2] at z; cases z⟩, p.ls⟩, ?_⟩
          exact .lst upd_same (h3.sub (sub_upd k1))
        | false => cases o
      | dic b xs => cases b with
        | true =>
          cases e0
          obtain ⟨a, vs, rfl, h1, h2, h3⟩ := hO
          obtain ⟨k1, k2, k3, k4⟩ := hm a _ h2
          refine ⟨_, upd F a (.dK vs), gdel g a, rfl, ⟨p.le.freeze k1 (.inl k4), p.rl.freeze k1 h1 rfl fun i x ex => .inl ⟨ex, fun f z => by rw [k2] at z; cases z⟩, p.ls⟩, ?_⟩
          exact .dic upd_same (h3.sub (sub_upd k1))
        | false => cases o
      | ins b C fs => cases e0
      | _ => cases o
  | pl i f =>
    cases eg : getP ρ i f with
    | none => simp [sh, eg] at e
    | some w =>
      cases o : own w with
      | false =>
        simp only [sh, eg, o] at e
        cases e
        obtain ⟨P, hO⟩ := tm.drf p.rl (w := w) eg
        exact ⟨w, F, g, rfl, p, hO.sh o⟩
      | true =>
        simp only [sh, eg, o] at e
        cases n : isIns w with
        | true => cases w with
          | ins _ _ _ => cases e
          | _ => cases n
        | false =>
          obtain ⟨a, rfl, ga, hh⟩ := tm.place p.rl eg o n
          have nF : F a = none := p.rl.gF a _ ga
          have gg : ∀ b, b ≠ a → gdel g a b = g b := fun b c => if_neg c
          rcases hh with ⟨xs, vs, rfl, h1, h3⟩ | ⟨xs, vs, rfl, h1, h3⟩
          · cases e
            have sw : Sh K (upd F a (.lst vs)) (.lst false xs) (.ref a) := .lst upd_same (h3.sub (sub_upd nF))
            refine ⟨_, upd F a (.lst vs), gdel g a, rfl, ⟨p.le.freeze nF (.inr (by rw [ga]; exact nofun)), p.rl.freeze nF h1 setP_len fun j x ex => .inr ?_, p.ls.trans (Ls.setP p.rl eg rfl rfl fun _ _ _ _ _ _ => rfl)⟩, sw⟩
            exact p.rl.place_slots (sub_upd nF) eg rfl rfl tm rfl (fun _ _ _ => rfl) gg (Ow.of sw) rfl j x ex
          · cases e
            have sw : Sh K (upd F a (.dK vs)) (.dic false xs) (.ref a) := .dic upd_same (h3.sub (sub_upd nF))
            refine ⟨_, upd F a (.dK vs), gdel g a, rfl, ⟨p.le.freeze nF (.inr (by rw [ga]; exact nofun)), p.rl.freeze nF h1 setP_len fun j x ex => .inr ?_, p.ls.trans (Ls.setP p.rl eg rfl rfl fun _ _ _ _ _ _ => rfl)⟩, sw⟩
            exact p.rl.place_slots (sub_upd nF) eg rfl rfl tm rfl (fun _ _ _ => rfl) gg (Ow.of sw) rfl j x ex
/-- moving: a value of one's own goes on as it is -/
theorem mv_ok (p : Ps K σ F0 H0 g0 ρ0 F H g ρ) (tm : Tm K σ H0 F H g ρ t v) {r : Out W} (e : mv t ρ = some (r, ρ')) :
    ∃ w F' g', r = .ok w ∧ Ps K σ F0 H0 g0 ρ0 F' H g' ρ' ∧ Tm K σ H0 F' H g' ρ' (.val w) v := by
  cases t with
  | val w => cases e; exact ⟨w, F, g, rfl, p, tm⟩
  | pl i f =>
    obtain ⟨w, F', g', e1, e2, e3⟩ := sh_ok p tm (show sh (.pl i f) ρ = some (r, ρ') from e)
    exact ⟨w, F', g', e1, e2, fun _ => none, nofun, Ow.of e3⟩
theorem Tm.of (h : Sh K F w v) : Tm K σ H0 F H g ρ (.val w) v := ⟨fun _ => none, nofun, Ow.of h⟩
/-! ### what a rule of the hand layer makes: a value, perhaps a new object -/
structure Nw (K : PySem.W.Frag) (F H : Hp) (w : W) (v : V) (F' H' : Hp) (m : Mk) : Prop where
  fx : Sub F F'
  fh : Sub F' H'
  hx : ∀ b, H b ≠ none → H' b = H b
  fn : ∀ b, F' b ≠ none → F b ≠ none ∨ H b = none
  mks : ∀ a f, m a = some f → F' a = none ∧ H a = none ∧ H' a ≠ none
  ow : Ow K F' H' (fun f a => m a = some f) w v
theorem Nw.same (s : Sub F H) (h : Sh K F w v) : Nw K F H w v F H fun _ => none := ⟨Sub.refl _, s, fun _ _ => rfl, fun _ h => .inl h, nofun, Ow.of h⟩
theorem Ps.nw (p : Ps K σ F0 H0 g0 ρ0 F H g ρ) {m : Mk} (n : Nw K F H w v F1 H1 m) : Ps K σ F0 H0 g0 ρ0 F1 H1 g ρ ∧ Tm K σ H0 F1 H1 g ρ (.val w) v := by
  have hs : ∀ b o, H b = some o → H1 b = some o := fun b o e => (n.hx b (by rw [e]; exact nofun)).trans e
  have l : Le F H g F1 H1 g := ⟨n.fx, fun b o e _ => hs b o e, fun b h => by rw [n.hx b h]; exact h, fun b p h => .inl h, fun b h => (n.fn b h).imp id .inr⟩
  have rl : Rl K F1 H1 g ρ σ := by
    refine ⟨n.fh, fun a q e => ?_, fun a q e => ?_, p.rl.len, fun i x ex => ?_⟩
    · cases z : F1 a with
      | none => rfl
      | some o => rcases n.fn a (by rw [z]; exact nofun) with y | y
                  · exact absurd (p.rl.gF a q e) y
                  · exact absurd y (p.rl.gH a q e)
    · rw [n.hx a (p.rl.gH a q e)]; exact p.rl.gH a q e
    · obtain ⟨u, hu, hO⟩ := p.rl.sl i x ex
      exact ⟨u, hu, hO.mono n.fx (fun f a ha => n.hx a (p.rl.gH a _ ha)) fun _ _ h => h⟩
  refine ⟨⟨p.le.trans l, rl, p.ls.trans fun j f x _ ex lx => ⟨⟨x, ex, lx⟩, p.rl.vp ex fun b C dx vf hb _ => n.hx b (by rw [hb]; exact nofun)⟩⟩, m, fun a f e => ?_, n.ow⟩
  obtain ⟨k1, k2, k3⟩ := n.mks a f e
  refine ⟨k1, ?_, k3, p.le.hnone k2⟩
  cases z : g a with
  | none => rfl
  | some q => exact absurd k2 (p.rl.gH a q z)
/-- a new list of one's own -/
theorem Nw.lst (s : Sub F H) {q : Addr} (hq : H q = none) {xs : List W} {vs : List V} (h : ShL K F xs vs) : Nw K F H (.lst true xs) (.ref q) F (upd H q (.lst vs)) (fun a => if a = q then some none else none) := by
  have nF : F q = none := by
    cases z : F q with
    | none => rfl
    | some o => rw [s _ _ z] at hq; cases hq
  refine ⟨Sub.refl _, fun b o e => ?_, fun b h => upd_ne (fun z => h (z ▸ hq)), fun b h => .inl h, fun a f e => ?_, q, vs, rfl, upd_same, if_pos rfl, h⟩
  · rw [upd_ne (ne_of_none e nF)]; exact s _ _ e
  · split at e
    · rename_i c; subst c; exact ⟨nF, hq, by rw [upd_same]; exact nofun⟩
    · cases e
/-- a new dict of one's own -/
theorem Nw.dic (s : Sub F H) {q : Addr} (hq : H q = none) {xs : List (Ky × W)} {vs : List (Key × V)} (h : ShK K F xs vs) : Nw K F H (.dic true xs) (.ref q) F (upd H q (.dK vs)) (fun a => if a = q then some none else none) := by
  have nF : F q = none := by
    cases z : F q with
    | none => rfl
    | some o => rw [s _ _ z] at hq; cases hq
  refine ⟨Sub.refl _, fun b o e => ?_, fun b h => upd_ne (fun z => h (z ▸ hq)), fun b h => .inl h, fun a f e => ?_, q, vs, rfl, upd_same, if_pos rfl, h⟩
  · rw [upd_ne (ne_of_none e nF)]; exact s _ _ e
  · split at e
    · rename_i c; subst c; exact ⟨nF, hq, by rw [upd_same]; exact nofun⟩
    · cases e
/-- a new tuple -/
theorem Nw.tup (s : Sub F H) {q : Addr} (hq : H q = none) {xs : List W} {vs : List V} (h : ShL K F xs vs) : Nw K F H (.tup xs) (.ref q) (upd F q (.tup vs)) (upd H q (.tup vs)) (fun _ => none) := by
  have nF : F q = none := by
    cases z : F q with
    | none => rfl
    | some o => rw [s _ _ z] at hq; cases hq
  refine ⟨sub_upd nF, fun b o e => ?_, fun b h => upd_ne (fun z => h (z ▸ hq)), fun b h => ?_, nofun, Ow.of (.tup (.inl (.inl upd_same)) (h.sub (sub_upd nF)))⟩
  · by_cases c : b = q
    · subst c; rw [upd_same] at e ⊢; exact e
    · rw [upd_ne c] at e ⊢; exact s _ _ e
  · by_cases c : b = q
    · subst c; exact .inr hq
    · rw [upd_ne c] at h; exact .inl h
end
end Rf
/-! tuple * int, any int -/
namespace Rf
open PySem PySem.Spec PyProof.Rows L2
theorem tuple_mulA (l : Addr) (items : Array Value) (n : Nat) (dd : Option Addr) (sl : Array (Option Value)) (x : Int) (u : Tok) (c0 : (decide (x < -(2 ^ 63)) || decide (x ≥ 2 ^ 63)) = false) (c1 : (items.isEmpty || x == 1) = true) :
    Meets (Builtin.«tuple.__mul__» ⟨[.ref l, .int x u], []⟩) (fun _ R s => s.heap.get? l = some { cls := .type "tuple", dict := dd, data := .seq items n, slots := sl } ∧ R (.ok (.ret (Value.ref l))) { s with heap := s.heap, toks := s.toks }) :=
  .of_wp fun prog w A R s h => by
    obtain ⟨hp, g, d, tk, os⟩ := s
    obtain ⟨hl, h⟩ := h
    have f1 := AutoSeq1.idx_int
    wp_walk using wpAny_loadPart' hl
    repeat (first
      | (refine wpAny_ite_false (decide_eq_false (by rw [c0]; exact Bool.false_ne_true)) ?_; wp_walk using wpAny_loadPart' hl)
      | (refine wpAny_ite_true (decide_eq_true c1) ?_; wp_walk using wpAny_loadPart' hl))
    exact ⟨_, rfl, h⟩
theorem tuple_mulB (l : Addr) (items : Array Value) (n : Nat) (dd : Option Addr) (sl : Array (Option Value)) (x : Int) (u : Tok) (c0 : (decide (x < -(2 ^ 63)) || decide (x ≥ 2 ^ 63)) = false) (c1 : (items.isEmpty || x == 1) = false) (c2 : (decide (x ≤ 0) || items.isEmpty) = true) :
    Meets (Builtin.«tuple.__mul__» ⟨[.ref l, .int x u], []⟩) (fun _ R s => s.heap.get? l = some { cls := .type "tuple", dict := dd, data := .seq items n, slots := sl } ∧
      R (.ok (.ret (Value.ref s.heap.objs.size))) { s with heap := s.heap.push { cls := Value.type "tuple", data := Data.seq #[] }, toks := s.toks }) :=
  .of_wp fun prog w A R s h => by
    obtain ⟨hp, g, d, tk, os⟩ := s
    obtain ⟨hl, h⟩ := h
    have f1 := AutoSeq1.idx_int
    wp_walk using wpAny_loadPart' hl
    repeat (first
      | (refine wpAny_ite_false (decide_eq_false (by rw [c0]; exact Bool.false_ne_true)) ?_; wp_walk using wpAny_loadPart' hl)
      | (refine wpAny_ite_false (decide_eq_false (by rw [c1]; exact Bool.false_ne_true)) ?_; wp_walk using wpAny_loadPart' hl)
      | (refine wpAny_ite_true (decide_eq_true c2) ?_; wp_walk using wpAny_loadPart' hl))
    exact ⟨_, rfl, h⟩
/-- .. by 1, or of nothing: itself; by 0 and below: nothing -/
def rRepS (K : PySem.W.Frag) : R2 := fun x y H Q => ∃ l k xs, x = .ref l ∧ y = .int k ∧ SqT K H l xs ∧ k ≤ 1000 ∧ -1000 ≤ k ∧ ((xs = [] ∨ k = 1) ∧ Q (.ref l) H ∨ xs ≠ [] ∧ k ≤ 0 ∧ ∀ p, H p = none → Q (.ref p) (upd H p (.tup [])))
section
variable {X : Cx}
theorem op_repS : OpR X (binaryOp .Mult) (rRepS X.K) := by
  intro pins s σ H x y v u Q I rx ry h
  obtain ⟨l, k, xs, rfl, rfl, hT, h1, h2, q⟩ := h
  cases rx
  obtain ⟨t, rfl⟩ := ry
  obtain ⟨its, r, ⟨⟨cls, dd, data, sl⟩, ho, hc, n, hd⟩, hs⟩ := I.tuple hT
  simp only at hc hd
  subst hc hd
  have hle : its.length = xs.length := r.length.symm
  have c0 : (decide (k < -(2 ^ 63)) || decide (k ≥ 2 ^ 63)) = false := by
    rw [decide_eq_false (by omega), decide_eq_false (by omega)] <;> rfl
  have road : ∀ {Q' : Value → Shared → Prop}, wpAny (model X.prog X.w) X.A (call (.builtin "tuple.__mul__") [.ref l, .int k t]) Q' X.xe s → wpAny (model X.prog X.w) X.A (binaryOp .Mult (.ref l) (.int k t)) Q' X.xe s := fun h =>
    wpAny_binaryOp_repeat_ref (T := "tuple") (U := "int") (by decide) ⟨_, ho, rfl⟩ (fun s' => typeIs_int s' k t) noFill_tuple_mul F.fills_int_mul F.slot_int_rmul repeat_tuple F.slot_int_index.lookup
      (call_meets F.slot_int_rmul (typeIs_int s k t) F.entry_int_rmul (F.args_int_rmul_2 _ _) (int_rmul_tuple k t l its.toArray n dd sl)
        ⟨ho, rfl, ⟨_, ho, rfl⟩, h⟩)
  rcases q with ⟨hw, q⟩ | ⟨hne, hk, q⟩
  · have c1 : (its.toArray.isEmpty || k == 1) = true := by
      rcases hw with e | e
      · have : its = [] := List.eq_nil_of_length_eq_zero (by rw [hle, e]; rfl)
        subst this; rfl
      · subst e
        rw [Bool.or_eq_true]; exact .inr rfl
    exact road (call_meets F.slot_tuple_mul ⟨_, ho, rfl⟩ F.entry_tuple_mul (F.args_tuple_mul_2 _ _) (tuple_mulA l its.toArray n dd sl k t c0 c1) ⟨ho, .ref l, H, I, rfl, q⟩)
  · have hn : its ≠ [] := fun e => hne (by
      rw [e] at hle
      exact List.eq_nil_of_length_eq_zero hle.symm)
    have hi : its.toArray.isEmpty = false := by
      cases its with
      | nil => exact absurd rfl hn
      | cons a b => rfl
    have c1 : (its.toArray.isEmpty || k == 1) = false := by
      rw [hi, Bool.false_or]
      exact beq_eq_false_iff_ne.mpr (by omega)
    have c2 : (decide (k ≤ 0) || its.toArray.isEmpty) = true := by
      rw [decide_eq_true hk]; rfl
    exact road (call_meets F.slot_tuple_mul ⟨_, ho, rfl⟩ F.entry_tuple_mul (F.args_tuple_mul_2 _ _) (tuple_mulB l its.toArray n dd sl k t c0 c1 c2) ⟨ho, .ref s.heap.objs.size, _, I.laid (t' := s.toks) (o := .tup []) (fun b ob q => Heap.get?_push_of_some _ q) (Nat.le_refl _) ⟨Nat.zero_le _, [], .nil, IsTup.new _ _⟩, rfl, q _ (I.hok.fresh (Nat.le_refl _))⟩)
end
end Rf
/-! enumerate of a tuple; a list's count and remove by data; a dict beside a tuple -/
namespace Rf
open PySem PySem.Spec PyProof.Rows L2
section
variable {prog : Program} {w : World} {A : Around} {E : Value → Shared → Prop} {s : Shared}
theorem pyNext_enum_endT {e it l : Addr} {i : Nat} {items : Array Value} {old : Value} {Q : Option Value → Shared → Prop} (hh : A.handled = none)
    (he : IsEnum s.heap e it i old) (hit : s.heap.IsTupleIter it l i) (hl : s.heap.IsTuple l items) (hx : items[i]? = none)
    (hQ : ∀ h', Heap.ExtBut it s.heap h' → Q none { s with heap := h' }) : wpAny (model prog w) A (pyNext (.ref e)) Q E s := by
  have hT : s.TypeIs (.ref e) "enumerate" := ⟨_, he, rfl⟩
  unfold pyNext
  refine wpAny_bind (wpAny_attempt (wpAny_callSpecial?_slot (name := Str.ofString "__next__") hT F.slot_enumerate_next
    (wpAny_call_entry F.slot_enumerate_next hT F.entry_enumerate_next ?_ (F.args_enumerate_next_1 _))))
  show wpAny _ _ (field (.ref e) 2 >>= _) _ _ _
  refine wpAny_bind (wpAny_field he rfl (x := .ref it) rfl ?_)
  refine wpAny_bind (wpAny_nextOf_tuple_end hh hit hl hx fun h' x he' hx' => ?_)
  obtain ⟨o, ho, hc⟩ := hx'
  refine wpAny_bind (wpAny_isInstance (T := "StopIteration") (b := true) ⟨o, ho, hc⟩ isSubtype_stop ?_)
  exact wpAny_pure (hQ _ he')
theorem meets_enumerate_newT (l : Addr) (items : Array Value) (n : Nat) (dct : Option Addr) (sl : Array (Option Value)) :
    Meets (Builtin.«enumerate.__new__» ⟨[.type "enumerate", .ref l], []⟩) (fun _ R s => s.heap.get? l = some { cls := .type "tuple", dict := dct, data := .seq items n, slots := sl } ∧
      R (.ok (.ret (.ref (s.heap.push { cls := .type "tuple_iterator", data := .fields #[.ref l, .int 0 0] }).objs.size)))
        { s with heap := (s.heap.push { cls := .type "tuple_iterator", data := .fields #[.ref l, .int 0 0] }).push { cls := .type "enumerate", data := .fields #[.none, .bool false, .ref s.heap.objs.size, rawInt 0, .none, .none] } }) :=
  .of_wp fun prog w A R s h => by
    obtain ⟨hp, g, d, tk, os⟩ := s; obtain ⟨hl, h⟩ := h
    have hsub := sub_enumerate
    have hL : Heap.IsTuple (Shared.heap ⟨hp, g, d, tk, os⟩) l items := ⟨_, hl, rfl, n, rfl⟩
    wp_walk using AutoSeq1.wpAny_loadPart' hl
    refine wpAny_stack_any fun st => wpAny_pure ?_
    split
    · rename_i c _ _ _ _ _
      cases (c == Value.type "enumerate")
      · wp_walk using AutoSeq1.wpAny_loadPart' hl, wpAny_pyIter_tuple hL
        exact ⟨_, rfl, h⟩
      · wp_walk using AutoSeq1.wpAny_loadPart' hl, wpAny_pyIter_tuple hL
        exact ⟨_, rfl, h⟩
    · wp_walk using AutoSeq1.wpAny_loadPart' hl, wpAny_pyIter_tuple hL
      exact ⟨_, rfl, h⟩
theorem call_enumerate_tup {l : Addr} {items : Array Value} {Q : Value → Shared → Prop} (hL : s.heap.IsTuple l items)
    (h : ∀ h', IsEnum h' (s.heap.objs.size + 1) s.heap.objs.size 0 .none → h'.IsTupleIter s.heap.objs.size l 0 → h'.objs.size = s.heap.objs.size + 2 →
      (∀ b o, s.heap.get? b = some o → h'.get? b = some o) → Q (.ref (s.heap.objs.size + 1)) { s with heap := h' }) :
    wpAny (model prog w) A (call (.type "enumerate") [.ref l]) Q E s := by
  obtain ⟨⟨c, dct, dt, sl⟩, hl, hc, n, hd⟩ := hL
  replace hc : c = .type "tuple" := hc
  replace hd : dt = .seq items n := hd
  subst hc hd
  refine callType_new F.called_enumerate (by decide) (F.typeCall_enumerate_1 _) (F.newCall_enumerate_1 _) (fun obj => F.args_object_init_2 obj _) F.entry_enumerate_new
    (meets_enumerate_newT l items n dct sl) ⟨hl, ?_⟩
  have hz : (s.heap.push { cls := .type "tuple_iterator", data := .fields #[.ref l, .int 0 0] }).objs.size = s.heap.objs.size + 1 := Heap.size_push ..
  show _ ∧ _
  rw [hz]
  have he : IsEnum ((s.heap.push { cls := .type "tuple_iterator", data := .fields #[.ref l, .int 0 0] }).push
      { cls := .type "enumerate", data := .fields #[.none, .bool false, .ref s.heap.objs.size, rawInt 0, .none, .none] }) (s.heap.objs.size + 1) s.heap.objs.size 0 .none := by
    have := Heap.get?_push_size (s.heap.push { cls := .type "tuple_iterator", data := .fields #[.ref l, .int 0 0] })
      (o := { cls := .type "enumerate", data := .fields #[.none, .bool false, .ref s.heap.objs.size, rawInt 0, .none, .none] }) rfl
    rw [hz] at this; exact this
  refine ⟨⟨_, he, rfl⟩, h _ he ⟨_, Heap.get?_push_of_some _ (Heap.get?_push_size _ rfl), rfl, rfl⟩ (by rw [Heap.size_push, hz]) fun b o x => Heap.get?_push_of_some _ (Heap.get?_push_of_some _ x)⟩
end
/-- the tuple at a, each item in a new pair -/
def IteT (K : PySem.W.Frag) (a : Addr) : L2.It :=
  ⟨fun i H => ∃ (xs : List V) (x : V), SqT K H a xs ∧ xs[i]? = some x, fun i H v H' => ∃ T x, v = .ref T ∧ H T = none ∧ H' = upd H T (.tup [.int (i : Nat), x]) ∧ ∀ xs, SqT K H a xs → xs[i]? = some x, fun i H => ∃ xs : List V, SqT K H a xs ∧ xs.length ≤ i⟩
theorem turn_enumT {P : Program} {w : World} {K : PySem.W.Frag} {elts : List Expr} {kk : Nat} {tpos : Pos} (a e it : Addr) :
    Turn P w K (.Tuple elts kk tpos) (IteT K a) [e, it] e (fun i h => (∃ old, IsEnum h e it ((i : Nat) : Int) old) ∧ h.IsTupleIter it a i ∧ e ≠ it ∧ a ≠ e ∧ a ≠ it) where
  mem := by simp
  obj := fun i h st b hb => by
    obtain ⟨⟨old, he⟩, ⟨o, ho, hc, hd⟩, _⟩ := st
    have e' : b = e ∨ b = it := by simpa using hb
    rcases e' with z | z
    · rw [z]; exact ⟨_, he, fun v q => nomatch q⟩
    · rw [z]; exact ⟨o, ho, fun v q => by rw [hd] at q; cases q⟩
  keep := fun i h h' st k => let ⟨⟨old, he⟩, hi, hne⟩ := st; ⟨⟨old, k e (by simp) _ he⟩, hi.at fun o q => k it (by simp) o q, hne⟩
  item := by
    intro X hP hw hK hc i pins s σ H E I hf st hg
    subst hP hw hK
    obtain ⟨⟨old, he⟩, hit, hne, hae, hai⟩ := st
    obtain ⟨xs, x, hq, hx⟩ := hg
    obtain ⟨its, rv, p, hz⟩ := I.tuple hq
    obtain ⟨u, hu, ru⟩ := rv.get hx
    have hil2 : i < its.length := (List.getElem?_eq_some_iff.mp hu).1
    have hel : e < s.heap.objs.size := Heap.lt_size he
    have hil : it < s.heap.objs.size := by obtain ⟨_, q, _⟩ := hit; exact Heap.lt_size q
    refine wpAny_pyNext_enum_itemC (Draws.tuple (A := X.A.in1) (show X.A.in1.handled = none from I.ok.hd hc) it a hai its.toArray) he ⟨hit, p⟩ (by simpa using hil2) hne (by simp [hne, Ne.symm hae]) fun x' h' tk hP ho hst hT hsz hk => ?_
    have hxu : x' = u := by
      have : its.toArray[i]? = some x' := hP
      rw [List.getElem?_toArray] at this
      rw [hu] at this
      exact (Option.some.inj this).symm
    subst hxu
    refine ⟨_, rfl, wpAny_letOwnedTupleGo_enum (s := { s with heap := h', toks := tk + 1 }) ho fun h'' he' sb => ?_⟩
    have hT2 : h''.get? s.heap.objs.size = some { cls := .type "tuple", data := .seq #[.int i tk, x'] } := (sb.2 _ (Nat.ne_of_gt hel)).trans hT
    have new : ObjOk X.prog X.w (upd H s.heap.objs.size (.tup [.int (i : Nat), x])) h'' s.heap.objs.size (.tup [.int (i : Nat), x]) :=
      ⟨by show 2 ≤ sizeLine; decide, [.int i tk, x'], .cons ⟨_, rfl⟩ (.cons ru .nil), ⟨_, hT2, rfl, _, rfl⟩⟩
    have I1 : Inv X pins σ (upd H s.heap.objs.size (.tup [.int (i : Nat), x])) { s with heap := h'', toks := tk + 1 } :=
      I.turnedNew (ch := [e, it]) (fun b ob hb q => (sb.2 b (fun z => hb (by simp [z]))).trans (hk b ob (fun z => hb (by simp [z])) (fun z => hb (by simp [z])) q)) hf (Nat.le_refl _) new
    refine ⟨.ref s.heap.objs.size, _, I1, rfl, ⟨_, x, rfl, I.hok.fresh (Nat.le_refl _), rfl, fun ys hy => by rw [I.tuple_inj hy hq]; exact hx⟩, ⟨⟨x', ?_⟩, hst.1.at fun o q => (sb.2 it (Ne.symm hne)).trans q, hne, hae, hai⟩, fun b hb => ?_⟩
    · have e1 : ((i + 1 : Nat) : Int) = (i : Int) + 1 := by omega
      rw [e1]; exact he'
    · have hb' : b < s.heap.objs.size := by
        have e' : b = e ∨ b = it := by simpa using hb
        rcases e' with z | z
        · rw [z]; exact hel
        · rw [z]; exact hil
      rw [upd_ne (Nat.ne_of_lt hb')]
      exact (hf b hb).1
  done := by
    intro X hP hw hK hc i pins s σ H E I hf st hg
    subst hP hw hK
    obtain ⟨⟨old, he⟩, hit, hne, hae, hai⟩ := st
    obtain ⟨xs, hq, hx⟩ := hg
    obtain ⟨its, rv, p, hz⟩ := I.tuple hq
    have hl := rv.length
    obtain ⟨f0, f1, f2, f3, f4, f5⟩ := hf it (by simp)
    exact pyNext_enum_endT (I.ok.hd hc) he hit p (by simp; omega) fun h' eb => ⟨rfl, I.turned (t' := s.toks) (fun b o hb q => eb b o hb q) f0 f1 f3 f4 f5⟩
  self := fun A i s Q E st h => let ⟨⟨_, he⟩, _⟩ := st; wpAny_pyIter_enum he h
def iEnumA (K : PySem.W.Frag) (ta : TA) : TI := fun σ H R => ta σ H fun vs H1 => ∃ a xs, vs = [.ref a] ∧ ((SqL K H1 a xs ∧ R (Ite K a) H1) ∨ (SqT K H1 a xs ∧ R (IteT K a) H1))
theorem pi_enumA {X : Cx} {e : Expr} {ta : TA} {p pos tpos : Pos} {elts : List Expr} {kk : Nat} (hg : Gl X "enumerate") (hm : X.mg "enumerate" = none) (ha : PA X [e] ta) (hs : starEach [e] X.env = [(false, eval e X.env)] := by rfl) :
    PI X (.Tuple elts kk tpos) (.Call (.Name "enumerate" p) [e] [] pos) (iEnumA X.K ta) := by
  refine ⟨fun pins s σ H R I h => ?_⟩
  refine Call_ (ld_blt I hg hm boot_enumerate (PyProof.Rows.callWith_type1 (thn (ha.run pos pins s σ H _ I h) fun us s1 ⟨vs, H1, I1, r1, q1⟩ => ?_) hs rfl))
  obtain ⟨a, xs, ex, hq⟩ := q1
  subst ex
  cases r1 with
  | cons r rr =>
    cases rr
    cases r
    have fresh : ∀ b, b ∈ [s1.heap.objs.size + 1, s1.heap.objs.size] → FpOk X pins H1 b := fun b hb => by
      have e' : b = s1.heap.objs.size + 1 ∨ b = s1.heap.objs.size := by simpa using hb
      have hle : s1.heap.objs.size ≤ b := by
        rcases e' with z | z
        · rw [z]; exact Nat.le_add_right _ _
        · rw [z]; exact Nat.le_refl _
      exact I1.fpOk hle (I1.hok.fresh hle)
    rcases hq with ⟨hq, q⟩ | ⟨hq, q⟩
    · obtain ⟨its, rv, p', hz⟩ := I1.list hq
      refine call_enumerate_list p'.isList fun h' he hit hsz hk => wpAny_pyIter_enum he ?_
      have I2 : Inv X pins σ H1 { s1 with heap := h' } := I1.kept (t' := s1.toks) hk
      exact ⟨s1.heap.objs.size + 1, [s1.heap.objs.size + 1, s1.heap.objs.size], _, _, H1, rfl, I2, turn_enum a (s1.heap.objs.size + 1) s1.heap.objs.size, ⟨⟨.none, he⟩, hit, Nat.succ_ne_self _⟩, fresh, q⟩
    · obtain ⟨its, rv, p', hz⟩ := I1.tuple hq
      have al : a < s1.heap.objs.size := by obtain ⟨_, e1, _⟩ := p'; exact Heap.lt_size e1
      refine call_enumerate_tup p' fun h' he hit hsz hk => wpAny_pyIter_enum he ?_
      have I2 : Inv X pins σ H1 { s1 with heap := h' } := I1.kept (t' := s1.toks) hk
      exact ⟨s1.heap.objs.size + 1, [s1.heap.objs.size + 1, s1.heap.objs.size], _, _, H1, rfl, I2, turn_enumT a (s1.heap.objs.size + 1) s1.heap.objs.size, ⟨⟨.none, he⟩, hit, Nat.succ_ne_self _, Nat.ne_of_lt (Nat.lt_succ_of_lt al), Nat.ne_of_lt al⟩, fresh, q⟩
/-! ### a dict beside a tuple -/
theorem sub_tup_dict : isSubtype (.type "tuple") (.type "dict") = pure false := by rw [isSubtype_type]; kernel_rfl
theorem sub_dict_tup : isSubtype (.type "dict") (.type "tuple") = pure false := by rw [isSubtype_type]; kernel_rfl
theorem dict_eq_declines_tup (l b : Addr) (es : Array DictEntry) (ep : Nat) (items2 : Array Value) (n2 : Nat) (dd dd2 : Option Addr) (sl sl2 : Array (Option Value)) :
    Meets (Builtin.«dict.__eq__» ⟨[.ref l, .ref b], []⟩) (fun _ R s => s.heap.get? l = some { cls := .type "dict", dict := dd, data := .dict es ep, slots := sl } ∧ s.heap.get? b = some { cls := .type "tuple", dict := dd2, data := .seq items2 n2, slots := sl2 } ∧ R (.ok (.ret .notImplemented)) s) :=
  .of_wp fun prog w A R s h => by obtain ⟨hp, g, d, tk, os⟩ := s; obtain ⟨hl, hb, h⟩ := h; have f1 := sub_tup_dict; wp_walk using AutoSeq1.wpAny_loadPart' hl, AutoSeq1.wpAny_loadPart' hb; exact ⟨_, rfl, h⟩
theorem tup_eq_declines_dict (l b : Addr) (items : Array Value) (es : Array DictEntry) (ep : Nat) (n : Nat) (dd dd2 : Option Addr) (sl sl2 : Array (Option Value)) :
    Meets (Builtin.«tuple.__eq__» ⟨[.ref l, .ref b], []⟩) (fun _ R s => s.heap.get? l = some { cls := .type "tuple", dict := dd, data := .seq items n, slots := sl } ∧ s.heap.get? b = some { cls := .type "dict", dict := dd2, data := .dict es ep, slots := sl2 } ∧ R (.ok (.ret .notImplemented)) s) :=
  .of_wp fun prog w A R s h => by obtain ⟨hp, g, d, tk, os⟩ := s; obtain ⟨hl, hb, h⟩ := h; have f1 := sub_dict_tup; wp_walk using AutoSeq1.wpAny_loadPart' hl, AutoSeq1.wpAny_loadPart' hb; exact ⟨_, rfl, h⟩
section
variable {X : Cx}
theorem op_eqDT (hu : X.A.units < cLine) : OpR X (compareOp .Eq) (fun x y H Q => ∃ a b ks ts, x = .ref a ∧ y = .ref b ∧ H a = some (.dK ks) ∧ SqT X.K H b ts ∧ Q (.bl false) H) := by
  intro pins s σ H x y v u Q I rx ry h
  obtain ⟨a, b, ks, ts, rfl, rfl, ha, hb, q⟩ := h
  cases (show v = Value.ref a from rx)
  cases (show u = Value.ref b from ry)
  obtain ⟨_, _, va, ra, da⟩ := (show ObjOk X.prog X.w H s.heap a (.dK ks) from I.hok a _ ha)
  obtain ⟨⟨cls, dd, data, sl⟩, es, ep, ho, ⟨hc, hd0, _⟩, hdt, _⟩ := da
  obtain ⟨its, rv, p, _⟩ := I.tuple hb
  obtain ⟨⟨cls2, dd2, data2, sl2⟩, ho2, hc2, n2, hd2⟩ := id p
  simp only at hc hdt hc2 hd2
  subst hc hdt hc2 hd2
  have hne : a ≠ b := fun z => by
    subst z
    rw [ho] at ho2
    have := congrArg (fun o : Option Obj => o.map (·.cls)) ho2
    simp at this
  exact SeqAt.rc_eq_decline_or (k := false) ⟨_, ho, rfl⟩ ⟨_, ho2, rfl⟩ (by decide) sub_tup_dict F.slot_dict_eq F.slot_tuple_eq_refl
    (fun _ hq => call_meets F.slot_dict_eq ⟨_, ho, rfl⟩ F.entry_dict_eq (F.args_dict_eq_2 _ _) (dict_eq_declines_tup a b es ep its.toArray n2 dd dd2 sl sl2) ⟨ho, ho2, hq⟩)
    (fun _ hq => call_meets F.slot_tuple_eq_refl ⟨_, ho2, rfl⟩ F.entry_tuple_eq (F.args_tuple_eq_2 _ _) (tup_eq_declines_dict b a its.toArray es ep n2 dd2 dd sl2 sl) ⟨ho2, ho, hq⟩)
    (fun _ hq => wpAny_isSame_ref_other hne ho ho2 (by simp) hq) (.inr hu) ⟨.bl false, H, I, rfl, q⟩
end
/-! ### a tuple beside the tuple of nothing -/
section
variable {X : Cx}
theorem op_eqTE (hu : X.A.units < cLine) : OpR X (compareOp .Eq) (fun x y H Q => ∃ a b ts, x = .ref a ∧ y = .ref b ∧ SqT X.K H a ts ∧ SqT X.K H b [] ∧ Q (.bl ts.isEmpty) H) := by
  intro pins s σ H x y v u Q I rx ry h
  obtain ⟨a, b, ts, rfl, rfl, ha, hb, q⟩ := h
  cases (show v = Value.ref a from rx)
  cases (show u = Value.ref b from ry)
  obtain ⟨its, rv, p, _⟩ := I.tuple ha
  obtain ⟨its2, rv2, p2, _⟩ := I.tuple hb
  cases rv2
  refine SeqAt.eq_tupleAt (e := fun _ => true) p p2 hu (fun j h1 h2 => absurd h2 (Nat.not_lt_zero j)) ⟨.bl ts.isEmpty, H, I, ?_, q⟩
  have hl := rv.length
  have e : ((List.range (min its.toArray.size ([] : List Value).toArray.size)).all (fun _ => true) && its.toArray.size == ([] : List Value).toArray.size) = ts.isEmpty := by
    cases ts with
    | nil => cases rv; rfl
    | cons t ts => cases rv; simp
  rw [e]; rfl
end
/-! ### a list's count and remove by data -/
section
variable {X : Cx}
def rCountD (K : PySem.W.Frag) : V → List V → Hp → VK → Prop := fun x xs H Q => ∃ (a : Addr) (y : V) (d : PyData) (ds : List PyData), x = V.ref a ∧ xs = [y] ∧ Dp K H (V.ref a) (.list ds) ∧ Dp K H y d ∧
  SeqAt.shaped (.list ds) = true ∧ SeqAt.shaped d = true ∧ Q (.int ((ds.countP fun z => PyData.eqv z d : Nat) : Int)) H
theorem mt_countD (hu : X.A.units + 65 < cLine) : MtR X "list.count" (rCountD X.K) := by
  intro pins s σ H x xs v us Q I rx rxs h
  obtain ⟨a, y, d, ds, rfl, rfl, hl, hy, sl, sd, q⟩ := h
  cases rx
  cases rxs with
  | cons ry rt =>
    rename_i uy ut
    cases rt
    obtain ⟨bs, r1⟩ := Dp.reads I d y uy hy ry
    have hxs : PyData.canLayAll0 ds = true := SeqAt.canLay_of_shaped sl
    have hroom : X.A.units + 1 + min (PyData.depthAll ds) d.depth < cLine := room_in_shaped sd hu
    cases hl with
    | lst hs ha =>
      obtain ⟨its, rv, ⟨⟨cls, dd, data, sls⟩, n, ho, hc, hdn, hdt⟩, hlen⟩ := I.list hs
      simp only at hc hdt
      subst hc hdt
      obtain ⟨as, h4⟩ := Dp.readsAll I ds _ its ha rv
      have hmap : its.map (SeqAt.readOf s.heap) = ds := SeqAt.readsAll_map ds its as hxs h4
      refine call_meets PySem.F.slot_list_count ⟨_, ho, rfl⟩ PySem.F.entry_list_count (PySem.F.args_list_count_2 _ _)
        (SeqAt.list_countAt a its.toArray n dd sls uy (fun u => PyData.eqv (SeqAt.readOf s.heap u) d)) ⟨ho, SeqAt.items_eqAt (vs := its.toArray) (show ReadsAll s.heap its.toArray.toList ds as from h4) r1 hxs (SeqAt.canLay_of_shaped sd) hroom, ?_⟩
      have ec : its.toArray.toList.countP (fun u => PyData.eqv (SeqAt.readOf s.heap u) d) = ds.countP fun z => PyData.eqv z d := by
        rw [← hmap, List.countP_map]; rfl
      refine ⟨.int ((ds.countP fun z => PyData.eqv z d : Nat) : Int), H, I.tok _, ⟨s.toks, ?_⟩, q⟩
      rw [← ec]
def rRemD (K : PySem.W.Frag) : V → List V → Hp → VK → Prop := fun x xs H Q => ∃ (l : Addr) (vs : List V) (y : V) (d : PyData) (ds : List PyData) (j : Nat) (z : PyData), x = V.ref l ∧ xs = [y] ∧ H l = some (.lst vs) ∧ DpAll K H vs ds ∧ Dp K H y d ∧
  SeqAt.shaped (.list ds) = true ∧ SeqAt.shaped d = true ∧ ds[j]? = some z ∧ PyData.eqv z d = true ∧ (∀ (m : Nat) (z' : PyData), m < j → ds[m]? = some z' → PyData.eqv z' d = false) ∧ Q .non (upd H l (.lst (vs.eraseIdx j)))
theorem mt_removeD (hu : X.A.units + 65 < cLine) : MtM X "list.remove" (rRemD X.K) := by
  intro pins s σ H x xs v us Q I rx rxs h
  obtain ⟨l, vs, y, d, ds, j, z, rfl, rfl, hH, ha, hy, sl, sd, hz, hzj, hno, q⟩ := h
  cases rx
  obtain ⟨u, rfl, ru⟩ := rxs.one
  obtain ⟨bs, r1⟩ := Dp.reads I d y u hy ru
  have hxs : PyData.canLayAll0 ds = true := SeqAt.canLay_of_shaped sl
  have hroom : X.A.units + 1 + min (PyData.depthAll ds) d.depth < cLine := room_in_shaped sd hu
  obtain ⟨hsz, its, n, rv, hl, e⟩ := I.lstM hH
  obtain ⟨as, h4⟩ := Dp.readsAll I ds _ its ha rv
  have hn : its.length = ds.length := SeqAt.ReadsAll.length ds its as h4
  have hmap : its.map (SeqAt.readOf s.heap) = ds := SeqAt.readsAll_map ds its as hxs h4
  obtain ⟨hjd, _⟩ := List.getElem?_eq_some_iff.mp hz
  have hjl : j < its.toArray.size := by rw [List.size_toArray]; omega
  have at_ : ∀ (m : Nat) (hm : m < its.toArray.size) (z' : PyData), ds[m]? = some z' → SeqAt.readOf s.heap its.toArray[m] = z' := by
    intro m hm z' hz'
    have hml : m < its.length := by simpa using hm
    rw [← hmap, List.getElem?_map, List.getElem?_eq_getElem hml] at hz'
    have e1 : SeqAt.readOf s.heap its[m] = z' := Option.some.inj (show some (SeqAt.readOf s.heap its[m]) = some z' from hz')
    simpa using e1
  refine call_meets PySem.F.slot_list_remove ⟨_, e, rfl⟩ PySem.F.entry_list_remove (PySem.F.args_list_remove_2 _ _)
    (SeqAt.list_removeAt l its.toArray n none #[] u (fun u => PyData.eqv (SeqAt.readOf s.heap u) d) j hjl ?_ ?_ (by rw [List.size_toArray]; omega)) ⟨e, SeqAt.items_eqAt (vs := its.toArray) (show ReadsAll s.heap its.toArray.toList ds as from h4) r1 hxs (SeqAt.canLay_of_shaped sd) hroom, ?_⟩
  · show PyData.eqv (SeqAt.readOf s.heap its.toArray[j]) d = true
    rw [at_ j hjl z hz]; exact hzj
  · intro m hm hmj
    have hmd : m < ds.length := by omega
    have hz' : ds[m]? = some ds[m] := List.getElem?_eq_getElem hmd
    show PyData.eqv (SeqAt.readOf s.heap its.toArray[m]) d = false
    rw [at_ m hm _ hz']
    exact hno m _ hmj hz'
  · refine ⟨.non, _, I.lset (its' := its.eraseIdx j) (t' := s.toks) hH e ?_ (rv.eraseIdx j) ?_, rfl, q⟩
    · show its.toArray.eraseIdxIfInBounds j = (its.eraseIdx j).toArray
      rw [List.eraseIdxIfInBounds_toArray]
    · have := List.length_eraseIdx_le vs j
      omega
end
end Rf
namespace Rf
open PySem PySem.Spec PyProof.Rows L2
section
variable {K : PySem.W.Frag} {F H : Hp} {v : V} {P : Option String → Addr → Prop}
/-! ### what is read -/
theorem Rb.non (h : Rb K F H .non v) : v = .non := by obtain ⟨P, h⟩ := h; cases h; rfl
theorem Rb.bl {b : Bool} (h : Rb K F H (.bl b) v) : v = .bl b := by obtain ⟨P, h⟩ := h; cases h; rfl
theorem Rb.int {i : Int} (h : Rb K F H (.int i) v) : v = .int i := by obtain ⟨P, h⟩ := h; cases h; rfl
theorem Rb.str {x : Str} (h : Rb K F H (.str x) v) : v = .str x := by obtain ⟨P, h⟩ := h; cases h; rfl
theorem Rb.tup {xs : List W} (s : Sub F H) (h : Rb K F H (.tup xs) v) : ∃ a vs, v = .ref a ∧ SqT K H a vs ∧ ShL K F xs vs := by
  obtain ⟨P, h⟩ := h
  cases h with
  | tup a b => exact ⟨_, _, rfl, SqT.sub s a, b⟩
theorem Rb.lst {o : Bool} {xs : List W} (s : Sub F H) (h : Rb K F H (.lst o xs) v) : ∃ a vs, v = .ref a ∧ H a = some (.lst vs) ∧ ShL K F xs vs := by
  obtain ⟨P, h⟩ := h
  cases o with
  | true => obtain ⟨a, vs, e, h1, _, h2⟩ := h; exact ⟨a, vs, e, h1, h2⟩
  | false => cases h with
    | lst a b => exact ⟨_, _, rfl, s _ _ a, b⟩
theorem Rb.dic {o : Bool} {kvs : List (Ky × W)} (s : Sub F H) (h : Rb K F H (.dic o kvs) v) : ∃ a vk, v = .ref a ∧ H a = some (.dK vk) ∧ ShK K F kvs vk := by
  obtain ⟨P, h⟩ := h
  cases o with
  | true => obtain ⟨a, vs, e, h1, _, h2⟩ := h; exact ⟨a, vs, e, h1, h2⟩
  | false => cases h with
    | dic a b => exact ⟨_, _, rfl, s _ _ a, b⟩
theorem Rb.scr {ns : List Int} (s : Sub F H) (h : Rb K F H (.scr ns) v) : ∃ a, v = .ref a ∧ SqL K H a (ns.map V.int) := by
  obtain ⟨P, h⟩ := h
  cases h with
  | scr a => exact ⟨_, rfl, SqL.sub s a⟩
theorem Rb.of {w : W} (h : Sh K F w v) : Rb K F H w v := ⟨fun _ _ => False, Ow.of h⟩
/-! ### data -/
mutual
def pyd : W → PyData
  | .bl b => .bool b
  | .int i => .int i
  | .str x => .str x
  | .tup xs => .tuple (pyds xs)
  | .lst _ xs => .list (pyds xs)
  | _ => .none
def pyds : List W → List PyData
  | [] => []
  | x :: xs => pyd x :: pyds xs
end
theorem dp_one {n : Nat} (s : Sub F H) (ih : ∀ w v, dat n w = true → Sh K F w v → Dp K H v (pyd w) ∧ PyData.canLay0 (pyd w) = true ∧ PyData.depth (pyd w) ≤ n) :
    ∀ {ws : List W} {vs : List V}, ws.all (dat n) = true → ShL K F ws vs → DpAll K H vs (pyds ws) ∧ PyData.canLayAll0 (pyds ws) = true ∧ PyData.depthAll (pyds ws) ≤ n
  | _, _, _, .nil => ⟨.nil, rfl, Nat.zero_le _⟩
  | w :: ws, _, d, .cons a b => by
    rw [List.all_cons, Bool.and_eq_true] at d
    obtain ⟨h1, h2, h3⟩ := ih _ _ d.1 a
    obtain ⟨k1, k2, k3⟩ := dp_one s ih d.2 b
    refine ⟨.cons h1 k1, ?_, ?_⟩
    · show (PyData.canLay0 (pyd w) && PyData.canLayAll0 (pyds ws)) = true
      rw [h2, k2]; rfl
    · show max (PyData.depth (pyd w)) (PyData.depthAll (pyds ws)) ≤ n
      omega
theorem dp_sh (s : Sub F H) : ∀ (n : Nat) (w : W) (v : V), dat n w = true → Sh K F w v → Dp K H v (pyd w) ∧ PyData.canLay0 (pyd w) = true ∧ PyData.depth (pyd w) ≤ n := by
  intro n
  induction n with
  | zero =>
    intro w v d h
    cases h with
    | non => exact ⟨.non, rfl, Nat.le_refl 0⟩
    | bl b => exact ⟨.bl b, rfl, Nat.le_refl 0⟩
    | int i => exact ⟨.int i, rfl, Nat.le_refl 0⟩
    | str x => exact ⟨.str x, d, Nat.le_refl 0⟩
    | tup a b => cases d
    | lst a b => cases d
    | dic a b => cases d
    | exc a b c => cases d
    | fn x => cases d
    | scr a => cases d
  | succ n ih =>
    intro w v d h
    cases h with
    | non => exact ⟨.non, rfl, Nat.zero_le _⟩
    | bl b => exact ⟨.bl b, rfl, Nat.zero_le _⟩
    | int i => exact ⟨.int i, rfl, Nat.zero_le _⟩
    | str x => exact ⟨.str x, d, Nat.zero_le _⟩
    | tup a b =>
      obtain ⟨h1, h2, h3⟩ := dp_one s ih d b
      exact ⟨.tup (SqT.sub s a) h1, h2, Nat.succ_le_succ h3⟩
    | lst a b =>
      obtain ⟨h1, h2, h3⟩ := dp_one s ih d b
      exact ⟨.lst (.inl (.inl (s _ _ a))) h1, h2, Nat.succ_le_succ h3⟩
    | dic a b => cases d
    | exc a b c => cases d
    | fn x => cases d
    | scr a => cases d
theorem dp_rb {n : Nat} {w : W} (s : Sub F H) (d : dat n w = true) (hn : n ≤ 64) (h : Rb K F H w v) : Dp K H v (pyd w) ∧ SeqAt.shaped (pyd w) = true := by
  have fin : ∀ {x : PyData}, PyData.canLay0 x = true → PyData.depth x ≤ n → SeqAt.shaped x = true := fun h1 h2 => by
    unfold SeqAt.shaped
    rw [h1, Bool.true_and]
    exact decide_eq_true (by omega)
  obtain ⟨P, h⟩ := h
  cases o : own w with
  | false => obtain ⟨h1, h2, h3⟩ := dp_sh s n w v d (h.sh o); exact ⟨h1, fin h2 h3⟩
  | true =>
    cases w with
    | lst b xs => cases b with
      | true =>
        obtain ⟨a, vs, rfl, h1, _, h2⟩ := h
        cases n with
        | zero => cases d
        | succ n =>
          obtain ⟨k1, k2, k3⟩ := dp_one s (fun w v d h => dp_sh s n w v d h) d h2
          exact ⟨.lst (.inl (.inl h1)) k1, fin k2 (Nat.succ_le_succ k3)⟩
      | false => cases o
    | dic b xs => cases n <;> cases d
    | ins b C fs => cases n <;> cases d
    | _ => cases o
mutual
theorem eqv_weq : ∀ (n m : Nat) (a b : W), dat n a = true → dat m b = true → PyData.eqv (pyd a) (pyd b) = weq a b
  | n, m, .non, b, _, d => by cases b <;> first | rfl | (cases m <;> cases d)
  | n, m, .bl x, b, _, d => by cases b <;> first | rfl | (cases m <;> cases d)
  | n, m, .int x, b, _, d => by cases b <;> first | rfl | (cases m <;> cases d)
  | n, m, .str x, b, _, d => by cases b <;> first | rfl | (cases m <;> cases d)
  | n + 1, m, .tup xs, b, c, d => by
    cases b with
    | tup ys => cases m with
      | zero => cases d
      | succ m => exact eqv_weqs n m xs ys c d
    | _ => first | rfl | (cases m <;> cases d)
  | n + 1, m, .lst _ xs, b, c, d => by
    cases b with
    | lst _ ys => cases m with
      | zero => cases d
      | succ m => exact eqv_weqs n m xs ys c d
    | _ => first | rfl | (cases m <;> cases d)
  | 0, _, .tup xs, _, c, _ => by cases c
  | 0, _, .lst _ xs, _, c, _ => by cases c
  | n, _, .dic _ _, _, c, _ => by cases n <;> cases c
  | n, _, .ins _ _ _, _, c, _ => by cases n <;> cases c
  | n, _, .exc _ _, _, c, _ => by cases n <;> cases c
  | n, _, .fn _, _, c, _ => by cases n <;> cases c
  | n, _, .scr _, _, c, _ => by cases n <;> cases c
theorem eqv_weqs : ∀ (n m : Nat) (a b : List W), a.all (dat n) = true → b.all (dat m) = true → PyData.eqvAll (pyds a) (pyds b) = weqs a b
  | n, m, [], [], _, _ => rfl
  | n, m, [], _ :: _, _, _ => rfl
  | n, m, _ :: _, [], _, _ => rfl
  | n, m, x :: xs, y :: ys, c, d => by
    rw [List.all_cons, Bool.and_eq_true] at c d
    show (PyData.eqv (pyd x) (pyd y) && PyData.eqvAll (pyds xs) (pyds ys)) = (weq x y && weqs xs ys)
    rw [eqv_weq n m x y c.1 d.1, eqv_weqs n m xs ys c.2 d.2]
end
end
theorem lim_le {n : Nat} (h : n < LIM) : n ≤ sizeLine := by
  have h2 : n < 1000000 := h
  rw [sizeLine_eq]; omega
theorem lim_lt {n : Nat} (h : n < LIM) : n < sizeLine := by
  have h2 : n < 1000000 := h
  rw [sizeLine_eq]; omega
/-! ### two-place operations -/
/-- the reading of an operation on trees -/
def rW2 (K : PySem.W.Frag) (op : W → W → Option W) : R2 := fun x y H Q => ∃ F a b w, Sub F H ∧ Rb K F H a x ∧ Rb K F H b y ∧ op a b = some w ∧ ∀ v F' H' m, Nw K F H w v F' H' m → Q v H'
def opOf : Bop → Operator
  | .add => .Add
  | .sub => .Sub
  | .mul => .Mult
  | .fdiv => .FloorDiv
  | .mod => .Mod
  | .pow => .Pow
  | .shr => .RShift
  | .band => .BitAnd
theorem shl_ne {K : PySem.W.Frag} {F : Hp} {xs : List W} {vs : List V} (h : ShL K F xs vs) : vs = [] ↔ xs = [] := by
  cases h <;> simp
section
variable {X : Cx}
theorem bits_log (x : Int) : Builtin.Int.intBits x ≤ x.natAbs.log2 + 1 := by
  unfold Builtin.Int.intBits
  split <;> omega
theorem bin_add : OpR X (binaryOp .Add) (rW2 X.K (wBin .add)) := by
  intro pins s σ H x y v u Q I rx ry ⟨F, a, b, w, hs, ha, hb, e, q⟩
  have fin : ∀ (v : V) (w' : W), some w' = some w → Sh X.K F w' v → Q v H := fun v w' z h => by cases z; exact q v F H _ (Nw.same hs h)
  cases a with
  | int i => cases b with
    | int j =>
      cases ha.int; cases hb.int
      exact op_add pins s σ H _ _ v u Q I rx ry ⟨i, j, rfl, rfl, fin _ _ e (.int _)⟩
    | _ => cases e
  | str i => cases b with
    | str j =>
      cases ha.str; cases hb.str
      have e' : (if i.length + j.length < LIM then some (W.str (i ++ j)) else none) = some w := e
      split at e'
      · rename_i c
        exact op_add_str pins s σ H _ _ v u Q I rx ry ⟨i, j, rfl, rfl, lim_le c, fin _ _ e' (.str _)⟩
      · cases e'
    | _ => cases e
  | tup xs => cases b with
    | tup ys =>
      obtain ⟨a1, vs, rfl, h1, h2⟩ := ha.tup hs
      obtain ⟨a2, us, rfl, k1, k2⟩ := hb.tup hs
      have e' : (if xs.length + ys.length < LIM then some (W.tup (xs ++ ys)) else none) = some w := e
      split at e'
      · rename_i c
        cases e'
        refine op_catA pins s σ H _ _ v u Q I rx ry ⟨a1, a2, vs, us, rfl, rfl, h1, k1, by rw [← h2.len, ← k2.len]; exact lim_le c, fun z => ?_, fun _ z => ?_, fun _ _ p hp => ?_⟩
        · have := (shl_ne h2).mp z
          subst this
          obtain ⟨P, hP⟩ := hb
          exact q _ F H _ (Nw.same hs (Ow.sh hP rfl))
        · have := (shl_ne k2).mp z
          subst this
          obtain ⟨P, hP⟩ := ha
          rw [List.append_nil] at q
          exact q _ F H _ (Nw.same hs (Ow.sh hP rfl))
        · exact q _ _ _ _ (Nw.tup hs hp (h2.app k2))
      · cases e'
    | _ => cases e
  | lst o xs => cases b with
    | lst o' ys =>
      obtain ⟨a1, vs, rfl, h1, h2⟩ := ha.lst hs
      obtain ⟨a2, us, rfl, k1, k2⟩ := hb.lst hs
      have e' : (if xs.length + ys.length < LIM then some (W.lst true (xs ++ ys)) else none) = some w := e
      split at e'
      · rename_i c
        cases e'
        exact op_cat pins s σ H _ _ v u Q I rx ry ⟨a1, a2, vs, us, rfl, rfl, h1, k1, by rw [← h2.len, ← k2.len]; exact lim_le c, fun p hp => q _ _ _ _ (Nw.lst hs hp (h2.app k2))⟩
      · cases e'
    | _ => cases e
  | _ => cases e
theorem bin_sub : OpR X (binaryOp .Sub) (rW2 X.K (wBin .sub)) := by
  intro pins s σ H x y v u Q I rx ry ⟨F, a, b, w, hs, ha, hb, e, q⟩
  cases a with
  | int i => cases b with
    | int j =>
      cases ha.int; cases hb.int; cases e
      exact op_sub pins s σ H _ _ v u Q I rx ry ⟨i, j, rfl, rfl, q _ F H _ (Nw.same hs (.int _))⟩
    | _ => cases e
  | _ => cases e
theorem rep_one {α : Type} (xs : List α) : (List.replicate (1 : Int).toNat xs).flatten = xs := by simp
theorem bin_mul : OpR X (binaryOp .Mult) (rW2 X.K (wBin .mul)) := by
  intro pins s σ H x y v u Q I rx ry ⟨F, a, b, w, hs, ha, hb, e, q⟩
  cases a with
  | int i => cases b with
    | int j =>
      cases ha.int; cases hb.int
      have e' : (if i.natAbs.log2 + j.natAbs.log2 < MUL then some (W.int (i * j)) else none) = some w := e
      split at e'
      · rename_i c
        cases e'
        have h1 := bits_log i
        have h2 := bits_log j
        exact op_mulX pins s σ H _ _ v u Q I rx ry ⟨i, j, rfl, rfl, by have c' : i.natAbs.log2 + j.natAbs.log2 < 100000000 := c; unfold CMulX; omega, q _ F H _ (Nw.same hs (.int _))⟩
      · cases e'
    | _ => cases e
  | tup xs => cases b with
    | int k =>
      obtain ⟨a1, vs, rfl, h1, h2⟩ := ha.tup hs
      cases hb.int
      have e' : (if k ≤ 1000 ∧ -1000 ≤ k ∧ xs.length ≤ 1000 then some (W.tup (List.replicate k.toNat xs).flatten) else none) = some w := e
      split at e'
      · rename_i c
        cases e'
        by_cases hA : xs = [] ∨ k = 1
        · have ec : (List.replicate k.toNat xs).flatten = xs := by
            rcases hA with rfl | rfl
            · simp
            · simp
          rw [ec] at q
          obtain ⟨P, hP⟩ := ha
          refine op_repS pins s σ H _ _ v u Q I rx ry ⟨a1, k, vs, rfl, rfl, h1, c.1, c.2.1, .inl ⟨?_, q _ F H _ (Nw.same hs (Ow.sh hP rfl))⟩⟩
          rcases hA with rfl | rfl
          · cases h2; exact .inl rfl
          · exact .inr rfl
        · rw [not_or] at hA
          by_cases hk : k ≤ 0
          · have ec : (List.replicate k.toNat xs).flatten = [] := by
              have : k.toNat = 0 := by omega
              rw [this]; rfl
            rw [ec] at q
            exact op_repS pins s σ H _ _ v u Q I rx ry ⟨a1, k, vs, rfl, rfl, h1, c.1, c.2.1, .inr ⟨fun z => hA.1 ((shl_ne h2).mp z), hk, fun p hp => q _ _ _ _ (Nw.tup hs hp .nil)⟩⟩
          · exact op_repT pins s σ H _ _ v u Q I rx ry ⟨a1, k, vs, rfl, rfl, h1, fun z => hA.1 ((shl_ne h2).mp z), by omega, c.1, by rw [← h2.len]; exact c.2.2, fun p hp => q _ _ _ _ (Nw.tup hs hp (h2.rep _))⟩
      · cases e'
    | _ => cases e
  | lst o xs => cases b with
    | int k =>
      obtain ⟨a1, vs, rfl, h1, h2⟩ := ha.lst hs
      cases hb.int
      have e' : (if k ≤ 1000 ∧ -1000 ≤ k ∧ xs.length ≤ 1000 then some (W.lst true (List.replicate k.toNat xs).flatten) else none) = some w := e
      split at e'
      · rename_i c
        cases e'
        refine op_rep pins s σ H _ _ v u Q I rx ry ⟨a1, k, vs, rfl, rfl, h1, by omega, by omega, ?_, fun p hp => q _ _ _ _ (Nw.lst hs hp (h2.rep _))⟩
        rw [← h2.len, sizeLine_eq]
        have : xs.length * k.toNat ≤ 1000 * 1000 := Nat.mul_le_mul c.2.2 (by omega)
        omega
      · cases e'
    | _ => cases e
  | _ => cases b <;> cases e
end
end Rf
namespace Rf
open PySem PySem.Spec PyProof.Rows L2
section
variable {X : Cx}
theorem fdiv_any : OpR X (binaryOp .FloorDiv) (rI (fun _ j => j ≠ 0 ∧ j.natAbs.log2 < 9000) fun i j => .int (i.fdiv j)) :=
  opI fun _ j _ _ _ _ _ c q => floordiv_int c.1 q (.inl (PyProof.noPylong_of_log2 c.2))
theorem bin_fdiv : OpR X (binaryOp .FloorDiv) (rW2 X.K (wBin .fdiv)) := by
  intro pins s σ H x y v u Q I rx ry ⟨F, a, b, w, hs, ha, hb, e, q⟩
  cases a with
  | int i => cases b with
    | int j =>
      cases ha.int; cases hb.int
      have e' : (if j ≠ 0 ∧ j.natAbs.log2 < DIV then some (W.int (i.fdiv j)) else none) = some w := e
      split at e'
      · rename_i c
        cases e'
        have c2 : j.natAbs.log2 < 8000 := c.2
        exact fdiv_any pins s σ H _ _ v u Q I rx ry ⟨i, j, rfl, rfl, ⟨c.1, by omega⟩, q _ F H _ (Nw.same hs (.int _))⟩
      · cases e'
    | _ => cases e
  | _ => cases b <;> cases e
theorem bin_mod : OpR X (binaryOp .Mod) (rW2 X.K (wBin .mod)) := by
  intro pins s σ H x y v u Q I rx ry ⟨F, a, b, w, hs, ha, hb, e, q⟩
  cases a with
  | int i => cases b with
    | int j =>
      cases ha.int; cases hb.int
      have e' : (if j ≠ 0 then some (W.int (i.fmod j)) else none) = some w := e
      split at e'
      · rename_i c
        cases e'
        exact op_modN pins s σ H _ _ v u Q I rx ry ⟨i, j, rfl, rfl, c, q _ F H _ (Nw.same hs (.int _))⟩
      · cases e'
    | _ => cases e
  | _ => cases b <;> cases e
theorem bin_pow : OpR X (binaryOp .Pow) (rW2 X.K (wBin .pow)) := by
  intro pins s σ H x y v u Q I rx ry ⟨F, a, b, w, hs, ha, hb, e, q⟩
  cases a with
  | int i => cases b with
    | int j =>
      cases ha.int; cases hb.int
      have e' : (if 0 ≤ j ∧ j ≤ 1000000 ∧ i.natAbs < 2 ^ 64 then some (W.int (i ^ j.toNat)) else none) = some w := e
      split at e'
      · rename_i c
        cases e'
        exact op_pow pins s σ H _ _ v u Q I rx ry ⟨i, j, rfl, rfl, c, q _ F H _ (Nw.same hs (.int _))⟩
      · cases e'
    | _ => cases e
  | _ => cases b <;> cases e
theorem bin_shr : OpR X (binaryOp .RShift) (rW2 X.K (wBin .shr)) := by
  intro pins s σ H x y v u Q I rx ry ⟨F, a, b, w, hs, ha, hb, e, q⟩
  cases a with
  | int i => cases b with
    | int j =>
      cases ha.int; cases hb.int
      have e' : (if 0 ≤ j then some (W.int (i / 2 ^ j.toNat)) else none) = some w := e
      split at e'
      · rename_i c
        cases e'
        exact op_shr pins s σ H _ _ v u Q I rx ry ⟨i, j, rfl, rfl, c, q _ F H _ (Nw.same hs (.int _))⟩
      · cases e'
    | _ => cases e
  | _ => cases b <;> cases e
theorem bin_band : OpR X (binaryOp .BitAnd) (rW2 X.K (wBin .band)) := by
  intro pins s σ H x y v u Q I rx ry ⟨F, a, b, w, hs, ha, hb, e, q⟩
  cases a with
  | int i => cases b with
    | int j =>
      cases ha.int; cases hb.int
      have e' : (if 0 ≤ i ∧ j = 1 then some (W.int (i % 2)) else none) = some w := e
      split at e'
      · rename_i c
        obtain ⟨c1, rfl⟩ := c
        cases e'
        obtain ⟨n, rfl⟩ := Int.eq_ofNat_of_zero_le c1
        refine op_odd pins s σ H _ _ v u Q I rx ry ⟨n, rfl, rfl, ?_⟩
        exact q _ F H _ (Nw.same hs (.int _))
      · cases e'
    | _ => cases e
  | _ => cases b <;> cases e
theorem bin_ok : ∀ o : Bop, OpR X (binaryOp (opOf o)) (rW2 X.K (wBin o))
  | .add => bin_add
  | .sub => bin_sub
  | .mul => bin_mul
  | .fdiv => bin_fdiv
  | .mod => bin_mod
  | .pow => bin_pow
  | .shr => bin_shr
  | .band => bin_band
def rW1 (K : PySem.W.Frag) (op : W → Option W) : V → Hp → VK → Prop := fun x H Q => ∃ F a w, Sub F H ∧ Rb K F H a x ∧ op a = some w ∧ ∀ v F' H' m, Nw K F H w v F' H' m → Q v H'
theorem neg_ok : UnR X (unaryOp .USub) (rW1 X.K wNeg) := by
  intro pins s σ H x v Q I rx ⟨F, a, w, hs, ha, e, q⟩
  cases a with
  | int i =>
    cases ha.int; cases e
    exact un_neg pins s σ H _ v Q I rx ⟨i, rfl, q _ F H _ (Nw.same hs (.int _))⟩
  | _ => cases e
/-! ### comparisons -/
def cmpOf : Cop → CmpOp
  | .eq => .Eq
  | .ne => .NotEq
  | .lt => .Lt
  | .le => .LtE
  | .gt => .Gt
  | .ge => .GtE
  | .is => .Is
  | .isnot => .IsNot
  | .isin => .In
  | .notin => .NotIn
theorem cmp_ints {op : CmpOp} {o : Cop} {p : Int → Int → Bool} (h : OpR X (compareOp op) (rI0 fun i j => .bl (p i j))) (hi : ∀ i j, wCmp o (.int i) (.int j) = some (.bl (p i j)))
    (ho : ∀ a b w, wCmp o a b = some w → ∃ i j, a = .int i ∧ b = .int j) : OpR X (compareOp op) (rW2 X.K (wCmp o)) := by
  intro pins s σ H x y v u Q I rx ry ⟨F, a, b, w, hs, ha, hb, e, q⟩
  obtain ⟨i, j, rfl, rfl⟩ := ho a b w e
  rw [hi] at e
  cases e
  cases ha.int; cases hb.int
  exact h pins s σ H _ _ v u Q I rx ry ⟨i, j, rfl, rfl, q _ F H _ (Nw.same hs (.bl _))⟩
theorem is_ok {x : V} {v : Value} {b : Bool} {M : Model} {A : Around} {E Q : Value → Shared → Prop} {s : Shared} (rx : RelV x v) (h : Q (.bool (decide (x = .bl b))) s) : wpAny M A (compareOp .Is v (.bool b)) Q E s := by
  have key : plainIs v (.bool b) = true ∧ (v == Value.bool b) = decide (x = .bl b) := by
    cases x with
    | non => cases rx; exact ⟨rfl, rfl⟩
    | bl c => cases rx; refine ⟨rfl, ?_⟩; cases b <;> cases c <;> rfl
    | int i => obtain ⟨t, rfl⟩ := rx; exact ⟨rfl, rfl⟩
    | str i => obtain ⟨t, rfl⟩ := rx; exact ⟨rfl, rfl⟩
    | byt i => obtain ⟨t, rfl⟩ := rx; exact ⟨rfl, rfl⟩
    | flt i => obtain ⟨t, rfl⟩ := rx; exact ⟨rfl, rfl⟩
    | ref a => cases rx; exact ⟨rfl, rfl⟩
    | ty n => cases rx; exact ⟨rfl, rfl⟩
  exact wpAny_is_plain key.1 (by rw [key.2]; exact h)
theorem isnot_ok {x : V} {v : Value} {b : Bool} {M : Model} {A : Around} {E Q : Value → Shared → Prop} {s : Shared} (rx : RelV x v) (h : Q (.bool (!decide (x = .bl b))) s) : wpAny M A (compareOp .IsNot v (.bool b)) Q E s := by
  have key : plainIs v (.bool b) = true ∧ (v == Value.bool b) = decide (x = .bl b) := by
    cases x with
    | non => cases rx; exact ⟨rfl, rfl⟩
    | bl c => cases rx; refine ⟨rfl, ?_⟩; cases b <;> cases c <;> rfl
    | int i => obtain ⟨t, rfl⟩ := rx; exact ⟨rfl, rfl⟩
    | str i => obtain ⟨t, rfl⟩ := rx; exact ⟨rfl, rfl⟩
    | byt i => obtain ⟨t, rfl⟩ := rx; exact ⟨rfl, rfl⟩
    | flt i => obtain ⟨t, rfl⟩ := rx; exact ⟨rfl, rfl⟩
    | ref a => cases rx; exact ⟨rfl, rfl⟩
    | ty n => cases rx; exact ⟨rfl, rfl⟩
  exact wpAny_isNot_plain key.1 (by rw [key.2]; exact h)
/-- a tree's kind tells whether its value is None, a truth -/
theorem Rb.kind {K : PySem.W.Frag} {F H : Hp} {w : W} {x : V} (s : Sub F H) (h : Rb K F H w x) :
    (x = .non ↔ w = .non) ∧ ∀ b, (x = .bl b ↔ w = .bl b) := by
  obtain ⟨P, h⟩ := h
  have rf : ∀ a : Addr, x = .ref a → (∀ b, w ≠ .bl b) → w ≠ .non → (x = .non ↔ w = .non) ∧ ∀ b, (x = .bl b ↔ w = .bl b) := fun a e n1 n2 => by
    subst e
    exact ⟨⟨nofun, fun z => absurd z n2⟩, fun b => ⟨nofun, fun z => absurd z (n1 b)⟩⟩
  have shc : Sh K F w x → (x = .non ↔ w = .non) ∧ ∀ b, (x = .bl b ↔ w = .bl b) := fun h => by
    cases h with
    | non => exact ⟨⟨fun _ => rfl, fun _ => rfl⟩, fun b => ⟨nofun, nofun⟩⟩
    | bl c => exact ⟨⟨nofun, nofun⟩, fun b => ⟨fun z => by cases z; rfl, fun z => by cases z; rfl⟩⟩
    | int i => exact ⟨⟨nofun, nofun⟩, fun b => ⟨nofun, nofun⟩⟩
    | str i => exact ⟨⟨nofun, nofun⟩, fun b => ⟨nofun, nofun⟩⟩
    | _ => exact rf _ rfl nofun nofun
  cases o : own w with
  | false => exact shc (h.sh o)
  | true =>
    cases w with
    | lst b xs => cases b with
      | true => obtain ⟨a, vs, rfl, _⟩ := h; exact rf a rfl nofun nofun
      | false => cases o
    | dic b xs => cases b with
      | true => obtain ⟨a, vs, rfl, _⟩ := h; exact rf a rfl nofun nofun
      | false => cases o
    | ins b C fs => cases b with
      | true => obtain ⟨a, dx, vf, rfl, _⟩ := h; exact rf a rfl nofun nofun
      | false => cases o
    | _ => cases o
theorem wIs_non {a : W} {k : Bool} (h : wIs a .non = some k) : k = true ↔ a = .non := by
  cases a <;> simp [wIs] at h <;> subst h <;> simp
theorem wIs_bl {a : W} {c k : Bool} (h : wIs a (.bl c) = some k) : k = true ↔ a = .bl c := by
  cases a <;> simp [wIs] at h <;> subst h <;> simp
theorem dec_of {p q : Prop} [Decidable p] {k : Bool} (h1 : p ↔ q) (h2 : k = true ↔ q) : decide p = k := by
  by_cases c : p
  · rw [decide_eq_true c, h2.mpr (h1.mp c)]
  · rw [decide_eq_false c]
    cases k with
    | false => rfl
    | true => exact absurd (h1.mpr (h2.mp rfl)) c
theorem cmp_is : OpR X (compareOp .Is) (rW2 X.K (wCmp .is)) := by
  intro pins s σ H x y v u Q I rx ry ⟨F, a, b, w, hs, ha, hb, e, q⟩
  have e' : (wIs a b).map W.bl = some w := e
  obtain ⟨k, e1, rfl⟩ := Option.map_eq_some_iff.mp e'
  have hk := ha.kind hs
  cases b with
  | non =>
    cases hb.non
    refine op_isN pins s σ H _ _ v u Q I rx ry ⟨rfl, ?_⟩
    rw [show decide (x = .non) = k from dec_of hk.1 (wIs_non e1)]
    exact q _ F H _ (Nw.same hs (.bl _))
  | bl c =>
    cases hb.bl
    cases ry
    refine is_ok rx ⟨.bl (decide (x = .bl c)), H, I, rfl, ?_⟩
    rw [show decide (x = .bl c) = k from dec_of (hk.2 c) (wIs_bl e1)]
    exact q _ F H _ (Nw.same hs (.bl _))
  | _ => cases a <;> cases e1
theorem cmp_isnot : OpR X (compareOp .IsNot) (rW2 X.K (wCmp .isnot)) := by
  intro pins s σ H x y v u Q I rx ry ⟨F, a, b, w, hs, ha, hb, e, q⟩
  have e' : (wIs a b).map (fun k => W.bl (!k)) = some w := e
  obtain ⟨k, e1, rfl⟩ := Option.map_eq_some_iff.mp e'
  have hk := ha.kind hs
  cases b with
  | non =>
    cases hb.non
    refine op_notN pins s σ H _ _ v u Q I rx ry ⟨rfl, ?_⟩
    rw [show decide (x = .non) = k from dec_of hk.1 (wIs_non e1)]
    exact q _ F H _ (Nw.same hs (.bl _))
  | bl c =>
    cases hb.bl
    cases ry
    refine isnot_ok rx ⟨.bl (!decide (x = .bl c)), H, I, rfl, ?_⟩
    rw [show decide (x = .bl c) = k from dec_of (hk.2 c) (wIs_bl e1)]
    exact q _ F H _ (Nw.same hs (.bl _))
  | _ => cases a <;> cases e1
theorem cmp_eq (hu : X.A.units + 64 < cLine) : OpR X (compareOp .Eq) (rW2 X.K (wCmp .eq)) := by
  intro pins s σ H x y v u Q I rx ry ⟨F, a, b, w, hs, ha, hb, e, q⟩
  have e' : (if dat 30 a && dat 30 b then some (W.bl (weq a b)) else if isDic a && isTup b then some (W.bl false) else if isTup a && isTup0 b then some (W.bl (len0 a)) else none) = some w := e
  split at e'
  · rename_i c
    rw [Bool.and_eq_true] at c
    cases e'
    obtain ⟨d1, s1⟩ := dp_rb hs c.1 (by decide) ha
    obtain ⟨d2, s2⟩ := dp_rb hs c.2 (by decide) hb
    refine op_eqD hu pins s σ H _ _ v u Q I rx ry ⟨_, _, d1, d2, s1, s2, ?_⟩
    rw [eqv_weq 30 30 a b c.1 c.2]
    exact q _ F H _ (Nw.same hs (.bl _))
  · split at e'
    · rename_i c
      rw [Bool.and_eq_true] at c
      cases e'
      obtain ⟨c1, c2⟩ := c
      cases a with
      | dic o kvs => cases b with
        | tup xs =>
          obtain ⟨p, vk, rfl, h1, _⟩ := ha.dic hs
          obtain ⟨p2, vs, rfl, k1, _⟩ := hb.tup hs
          exact op_eqDT (by omega) pins s σ H _ _ v u Q I rx ry ⟨p, p2, vk, vs, rfl, rfl, h1, k1, q _ F H _ (Nw.same hs (.bl _))⟩
        | _ => cases c2
      | _ => cases c1
    · split at e'
      · rename_i c
        rw [Bool.and_eq_true] at c
        cases e'
        obtain ⟨c1, c2⟩ := c
        cases a with
        | tup xs => cases b with
          | tup ys => cases ys with
            | nil =>
              obtain ⟨p, vs, rfl, h1, h2⟩ := ha.tup hs
              obtain ⟨p2, vs2, rfl, k1, k2⟩ := hb.tup hs
              cases k2
              have e2 : vs.isEmpty = xs.isEmpty := by cases h2 <;> rfl
              refine op_eqTE (by omega) pins s σ H _ _ v u Q I rx ry ⟨p, p2, vs, rfl, rfl, h1, k1, ?_⟩
              rw [e2]
              exact q _ F H _ (Nw.same hs (.bl _))
            | cons _ _ => cases c2
          | _ => cases c2
        | _ => cases c1
      · cases e'
theorem cmp_ne (hu : X.A.units + 64 < cLine) : OpR X (compareOp .NotEq) (rW2 X.K (wCmp .ne)) := by
  intro pins s σ H x y v u Q I rx ry ⟨F, a, b, w, hs, ha, hb, e, q⟩
  have e' : (if dat 30 a && dat 30 b then some (W.bl (!weq a b)) else none) = some w := e
  split at e'
  · rename_i c
    rw [Bool.and_eq_true] at c
    cases e'
    obtain ⟨d1, s1⟩ := dp_rb hs c.1 (by decide) ha
    obtain ⟨d2, s2⟩ := dp_rb hs c.2 (by decide) hb
    refine op_neD hu pins s σ H _ _ v u Q I rx ry ⟨_, _, d1, d2, s1, s2, ?_⟩
    rw [eqv_weq 30 30 a b c.1 c.2]
    exact q _ F H _ (Nw.same hs (.bl _))
  · cases e'
theorem flat_sh {K : PySem.W.Frag} {F : Hp} {w : W} {v : V} (h : Sh K F w v) (f : flat w = true) : flatV v = true := by
  cases h <;> first | rfl | cases f
theorem flat_eq {K : PySem.W.Frag} {F : Hp} {w w' : W} {v v' : V} (h : Sh K F w v) (h' : Sh K F w' v') (f : flat w = true) (f' : flat w' = true) : eqV v v' = weq w w' := by
  cases h <;> first | (cases f; done) | (cases h' <;> first | rfl | (cases f'; done))
theorem in_sh {K : PySem.W.Frag} {F : Hp} {w : W} {v : V} (h : Sh K F w v) (f : flat w = true) : ∀ {ws : List W} {vs : List V}, ShL K F ws vs → ws.all flat = true → vs.all flatV = true ∧ inV v vs = ws.any fun y => weq y w
  | _, _, .nil, _ => ⟨rfl, rfl⟩
  | w' :: ws, v' :: vs, .cons a b, c => by
    rw [List.all_cons, Bool.and_eq_true] at c
    obtain ⟨h1, h2⟩ := in_sh h f b c.2
    refine ⟨by rw [List.all_cons, flat_sh a c.1, h1]; rfl, ?_⟩
    show (eqV v' v || inV v vs) = (weq w' w || ws.any fun y => weq y w)
    rw [flat_eq a h c.1 f, h2]
theorem Rb.sh_flat {K : PySem.W.Frag} {F H : Hp} {w : W} {x : V} (h : Rb K F H w x) (f : flat w = true) : Sh K F w x := by
  obtain ⟨P, h⟩ := h
  exact h.sh (by cases w <;> first | rfl | cases f)
theorem cmp_in : OpR X (compareOp .In) (rW2 X.K (wCmp .isin)) := by
  intro pins s σ H x y v u Q I rx ry ⟨F, a, b, w, hs, ha, hb, e, q⟩
  have e' : (wIn a b).map W.bl = some w := e
  obtain ⟨k, e1, rfl⟩ := Option.map_eq_some_iff.mp e'
  cases b with
  | tup xs =>
    have e2 : (if flat a && xs.all flat then some (xs.any fun y => weq y a) else none) = some k := by cases a <;> exact e1
    split at e2
    · rename_i c
      rw [Bool.and_eq_true] at c
      cases e2
      obtain ⟨p, vs, rfl, h1, h2⟩ := hb.tup hs
      have ha' := ha.sh_flat c.1
      obtain ⟨k1, k2⟩ := in_sh ha' c.1 h2 c.2
      refine op_in_seq pins s σ H _ _ v u Q I rx ry ⟨p, vs, rfl, .inr h1, flat_sh ha' c.1, k1, ?_⟩
      rw [k2]
      exact q _ F H _ (Nw.same hs (.bl _))
    · cases e2
  | lst o xs =>
    have e2 : (if flat a && xs.all flat then some (xs.any fun y => weq y a) else none) = some k := by cases a <;> exact e1
    split at e2
    · rename_i c
      rw [Bool.and_eq_true] at c
      cases e2
      obtain ⟨p, vs, rfl, h1, h2⟩ := hb.lst hs
      have ha' := ha.sh_flat c.1
      obtain ⟨k1, k2⟩ := in_sh ha' c.1 h2 c.2
      refine op_in_seq pins s σ H _ _ v u Q I rx ry ⟨p, vs, rfl, .inl (SqL.of h1), flat_sh ha' c.1, k1, ?_⟩
      rw [k2]
      exact q _ F H _ (Nw.same hs (.bl _))
    · cases e2
  | str z =>
    cases a with
    | str x =>
      have e2 : (match x.cps.toList with | [c] => some (decide (c ∈ z.cps.toList)) | _ => none) = some k := e1
      split at e2
      · rename_i c hc
        cases e2
        cases ha.str; cases hb.str
        have ex : x = ⟨#[c]⟩ := by
          obtain ⟨cps⟩ := x
          obtain ⟨l⟩ := cps
          have hc' : l = [c] := hc
          subst hc'; rfl
        subst ex
        exact op_in_sign pins s σ H _ _ v u Q I rx ry ⟨c, z, rfl, rfl, q _ F H _ (Nw.same hs (.bl _))⟩
      · cases e2
    | _ => cases e1
  | _ => cases a <;> cases e1
theorem cmp_notin : OpR X (compareOp .NotIn) (rW2 X.K (wCmp .notin)) := by
  intro pins s σ H x y v u Q I rx ry ⟨F, a, b, w, hs, ha, hb, e, q⟩
  have e' : (wIn a b).map (fun k => W.bl (!k)) = some w := e
  obtain ⟨k, e1, rfl⟩ := Option.map_eq_some_iff.mp e'
  cases b with
  | tup xs =>
    have e2 : (if flat a && xs.all flat then some (xs.any fun y => weq y a) else none) = some k := by cases a <;> exact e1
    split at e2
    · rename_i c
      rw [Bool.and_eq_true] at c
      cases e2
      obtain ⟨p, vs, rfl, h1, h2⟩ := hb.tup hs
      have ha' := ha.sh_flat c.1
      obtain ⟨k1, k2⟩ := in_sh ha' c.1 h2 c.2
      refine op_notIn_seq pins s σ H _ _ v u Q I rx ry ⟨p, vs, rfl, .inr h1, flat_sh ha' c.1, k1, ?_⟩
      rw [k2]
      exact q _ F H _ (Nw.same hs (.bl _))
    · cases e2
  | lst o xs =>
    have e2 : (if flat a && xs.all flat then some (xs.any fun y => weq y a) else none) = some k := by cases a <;> exact e1
    split at e2
    · rename_i c
      rw [Bool.and_eq_true] at c
      cases e2
      obtain ⟨p, vs, rfl, h1, h2⟩ := hb.lst hs
      have ha' := ha.sh_flat c.1
      obtain ⟨k1, k2⟩ := in_sh ha' c.1 h2 c.2
      refine op_notIn_seq pins s σ H _ _ v u Q I rx ry ⟨p, vs, rfl, .inl (SqL.of h1), flat_sh ha' c.1, k1, ?_⟩
      rw [k2]
      exact q _ F H _ (Nw.same hs (.bl _))
    · cases e2
  | str z =>
    cases a with
    | str x =>
      have e2 : (match x.cps.toList with | [c] => some (decide (c ∈ z.cps.toList)) | _ => none) = some k := e1
      split at e2
      · rename_i c hc
        cases e2
        cases ha.str; cases hb.str
        have ex : x = ⟨#[c]⟩ := by
          obtain ⟨cps⟩ := x
          obtain ⟨l⟩ := cps
          have hc' : l = [c] := hc
          subst hc'; rfl
        subst ex
        exact op_notIn_sign pins s σ H _ _ v u Q I rx ry ⟨c, z, rfl, rfl, q _ F H _ (Nw.same hs (.bl _))⟩
      · cases e2
    | _ => cases e1
  | _ => cases a <;> cases e1
theorem cmp_ok (hu : X.A.units + 64 < cLine) : ∀ o : Cop, OpR X (compareOp (cmpOf o)) (rW2 X.K (wCmp o))
  | .eq => cmp_eq hu
  | .ne => cmp_ne hu
  | .lt => cmp_ints op_lt (fun _ _ => rfl) fun a b w e => by cases a <;> cases b <;> first | exact ⟨_, _, rfl, rfl⟩ | (cases e; done)
  | .le => cmp_ints op_le (fun _ _ => rfl) fun a b w e => by cases a <;> cases b <;> first | exact ⟨_, _, rfl, rfl⟩ | (cases e; done)
  | .gt => cmp_ints op_gt (fun _ _ => rfl) fun a b w e => by cases a <;> cases b <;> first | exact ⟨_, _, rfl, rfl⟩ | (cases e; done)
  | .ge => cmp_ints op_ge (fun _ _ => rfl) fun a b w e => by cases a <;> cases b <;> first | exact ⟨_, _, rfl, rfl⟩ | (cases e; done)
  | .is => cmp_is
  | .isnot => cmp_isnot
  | .isin => cmp_in
  | .notin => cmp_notin
end
end Rf
/-! sum of a list of whole numbers and truths -/
namespace Rf
open PySem PySem.Spec PyProof.Rows L2
inductive NumsV : List V → List Int → Prop
  | nil : NumsV [] []
  | int (i : Int) {vs : List V} {ns : List Int} : NumsV vs ns → NumsV (.int i :: vs) (i :: ns)
  | bl (b : Bool) {vs : List V} {ns : List Int} : NumsV vs ns → NumsV (.bl b :: vs) ((if b = true then 1 else 0) :: ns)
theorem NumsV.len {vs : List V} {ns : List Int} (h : NumsV vs ns) : ns.length = vs.length := by
  induction h with
  | nil => rfl
  | int i _ ih => simp [ih]
  | bl b _ ih => simp [ih]
theorem numsV_at : ∀ {vs : List V} {ns : List Int} {its : List Value}, NumsV vs ns → Vals vs its → ∀ (i : Nat) (v : Value), its[i]? = some v → NumOf (ns.getD i 0) v
  | _, _, _, .nil, .nil, i, v, e => by simp at e
  | _, _, _, .int z n, .cons r t, 0, v, e => by
    cases e
    obtain ⟨tk, q⟩ := r
    exact .inl ⟨tk, q⟩
  | _, _, _, .int z n, .cons r t, i + 1, v, e => numsV_at n t i v e
  | _, _, _, .bl b n, .cons r t, 0, v, e => by
    cases e
    cases r
    exact .inr ⟨b, rfl, rfl⟩
  | _, _, _, .bl b n, .cons r t, i + 1, v, e => numsV_at n t i v e
def rSumB (K : PySem.W.Frag) : List V → Hp → VK → Prop := fun vs H Q => ∃ (a : Addr) (us : List V) (ns : List Int), vs = [V.ref a] ∧ SqL K H a us ∧ NumsV us ns ∧ Q (.int ns.sum) H
theorem cr_sumB {X : Cx} (hc : X.calm = true) : CallR X (.builtin "sum") (rSumB X.K) := by
  intro pins s σ H vs us Q I r h
  obtain ⟨a, ws, ns, rfl, hs, hn, q⟩ := h
  obtain ⟨its, rv, hl, _⟩ := I.list hs
  rw [Vals.ref1 r]
  have isl := hl.isList
  have lt : a < s.heap.objs.size := by obtain ⟨_, e, _⟩ := isl; exact Heap.lt_size e
  refine call_sum_walkAnyB (wpAny_pyIter_list isl ?_)
  refine ⟨_, [s.heap.objs.size, a], [s.heap.objs.size], _, its.toArray.size, _, _, fun j => ns.getD j 0, rfl, (Walks.list (A := X.A.in1) (I.ok.hd hc) _ a (Nat.ne_of_lt lt) its.toArray).toS, ⟨⟨_, Heap.get?_push_size _ rfl, rfl, rfl⟩, isl.push _⟩, fun b hb => ?_, fun i v e => numsV_at hn rv i v (by simpa using e), fun s' t' hm => ?_⟩
  · show b < (s.heap.push _).objs.size
    rw [Heap.size_push]
    rcases List.mem_cons.mp hb with rfl | hb
    · exact Nat.lt_succ_self _
    · rcases List.mem_cons.mp hb with rfl | hb
      · exact Nat.lt_succ_of_lt lt
      · cases hb
  · have e : preSum (fun j => ns.getD j 0) its.toArray.size = ns.sum := by
      have := preSum_getD ns its.toArray.size
      rw [this, List.take_of_length_le (by
        have h1 := hn.len
        have h2 := rv.length
        simp; omega)]
    rw [e]
    obtain ⟨hp, gs, dr, tk, os⟩ := s'
    have g1 : gs = s.gens := hm.gens
    have g2 : dr = s.drawn := hm.drawn
    have g3 : os = s.os := hm.os
    subst g1 g2 g3
    refine ⟨.int ns.sum, H, I.kept (t' := tk) (h' := hp) fun b u hb => ?_, ⟨_, rfl⟩, q⟩
    refine hm.heap b u (fun hm => ?_) (Heap.get?_push_of_some _ hb)
    rcases List.mem_cons.mp hm with rfl | hm
    · exact Nat.lt_irrefl _ (Heap.lt_size hb)
    · cases hm
end Rf
namespace Rf
open PySem PySem.Spec PyProof.Rows L2
theorem sIx_eq (n d : Nat) (o : Option Int) : HT.sIx n d o = sIx n d o := by cases o <;> rfl
theorem cut_eq {α : Type} (xs : List α) (lo hi : Option Int) : cut xs lo hi = (xs.drop (HT.sIx xs.length 0 lo)).take (HT.sIx xs.length xs.length hi - HT.sIx xs.length 0 lo) := by
  unfold cut
  rw [sIx_eq, sIx_eq]
theorem cutV_eq (xs : List V) (lo hi : Option Int) : cutV xs lo hi = cut xs lo hi := by
  unfold cutV
  rw [cut_eq]
theorem ixN_eq (n : Nat) (i : Int) : L2.ixN n i = ixN n i := rfl
theorem atI_eq {α : Type} (xs : List α) (i : Int) : L2.atI xs i = atI xs i := rfl
section
variable {K : PySem.W.Frag} {F H : Hp}
theorem ShL.cut {ws : List W} {vs : List V} (h : ShL K F ws vs) (lo hi : Option Int) : ShL K F (Rf.cut ws lo hi) (Rf.cut vs lo hi) := by
  unfold Rf.cut
  rw [← h.len]
  exact (h.drop _).take _
theorem ShL.atI {ws : List W} {vs : List V} {i : Int} {w : W} (h : ShL K F ws vs) (e : Rf.atI ws i = some w) : ∃ v, Rf.atI vs i = some v ∧ Sh K F w v := by
  unfold Rf.atI at e ⊢
  rw [← h.len]
  obtain ⟨j, h1, h2⟩ := Option.bind_eq_some_iff.mp e
  obtain ⟨v, k1, k2⟩ := h.get h2
  exact ⟨v, Option.bind_eq_some_iff.mpr ⟨j, h1, k1⟩, k2⟩
theorem ShL.intV : ∀ {ns : List Int}, ShL K F (ns.map W.int) (ns.map V.int)
  | [] => .nil
  | n :: ns => .cons (.int n) ShL.intV
theorem shl_ints : ∀ {ws : List W} {vs : List V} {ns : List Int}, ShL K F ws vs → Rf.intsW ws = some ns → NumsV vs ns
  | _, _, _, .nil, e => by cases e; exact .nil
  | _, _, ns, .cons (w := w) a b, e => by
    cases w with
    | int i =>
      obtain ⟨ms, h1, rfl⟩ := Option.map_eq_some_iff.mp (show (Rf.intsW _).map (i :: ·) = some ns from e)
      cases a
      exact .int i (shl_ints b h1)
    | bl k =>
      obtain ⟨ms, h1, rfl⟩ := Option.map_eq_some_iff.mp (show (Rf.intsW _).map ((if k = true then 1 else 0) :: ·) = some ns from e)
      cases a
      exact .bl k (shl_ints b h1)
    | _ => cases e
theorem shl_bools : ∀ {ws : List W} {vs : List V} {ns : List Bool}, ShL K F ws vs → Rf.bools ws = some ns → vs = ns.map V.bl
  | _, _, _, .nil, e => by cases e; rfl
  | _, _, ns, .cons (w := w) a b, e => by
    cases w with
    | bl i =>
      obtain ⟨ms, h1, rfl⟩ := Option.map_eq_some_iff.mp (show (Rf.bools _).map (i :: ·) = some ns from e)
      cases a
      rw [shl_bools b h1]
      rfl
    | _ => cases e
end
theorem dget_val {K : PySem.W.Frag} {F : Hp} {k : Ky} {w : W} : ∀ {kvs : List (Ky × W)} {vk : List (Key × V)}, ShK K F kvs vk → dget kvs k = some w → ∃ v, valV vk k = some v ∧ Sh K F w v
  | _, _, .nil, e => by cases e
  | (g, w') :: r, _, .cons (v := v) (vs := vs) h l, e => by
    have e' : (if g = k then some w' else dget r k) = some w := e
    by_cases c : g = k
    · rw [if_pos c] at e'
      cases e'
      exact ⟨v, valV_pos (p := (g, v)) c, h⟩
    · rw [if_neg c] at e'
      rw [valV_neg (p := (g, v)) c]
      exact dget_val l e'
section
variable {X : Cx}
theorem ix_dict (hu : X.A.units + 1 < cLine) : IxR X (fun x y H Q => ∃ a k kvs v, x = .ref a ∧ y = kV k ∧ H a = some (.dK kvs) ∧ valV kvs k = some v ∧ Q v H) := by
  intro value slice pins s σ H x y v u Q I rx ry h hsub
  obtain ⟨a, k, kvs, z, rfl, rfl, h1, h2, q⟩ := h
  cases rx
  have g : DGet H a (kV k) (some z) := .inl ⟨kvs, k, .inl h1, rfl, h2.symm⟩
  have hT := dict_typeIs I g
  unfold subscriptTail
  refine wpAny_bind ?_
  rw [getitemInPython_of_ne hT.not_modules]
  refine wpAny_bind (wpAny_specialOf hT PySem.F.slot_dict_getitem.lookup ?_)
  have fin : wpAny (model X.prog X.w) X.A (subscripted slice false (.ref a) u) (fun r s₃ => wpAny (model X.prog X.w) X.A (letTemporaryGo value (.ref a) r >>= fun _ => pure r) (EP X pins σ Q) X.xe s₃) X.xe s := by
    rw [hsub]
    exact wpAny_operating (d_getItem hu I g ry fun w' s3 I3 rw' => wpAny_bind (wpAny_letTemporaryGo (wpAny_pure ⟨z, H, I3, rw', q⟩)))
  first
    | exact wpAny_pure (wpAny_bind fin)
    | exact wpAny_bind (wpAny_pure fin)
    | exact wpAny_bind fin
    | exact wpAny_pure fin
    | exact fin
theorem ix_ok (hu : X.A.units + 1 < cLine) : IxR X (rW2 X.K wIx) := by
  intro value slice pins s σ H x y v u Q I rx ry ⟨F, a, b, w, hs, ha, hb, e, q⟩ hsub
  have go : rIx X.K x y H Q → _ := fun h => ix_seq value slice pins s σ H x y v u Q I rx ry h hsub
  have god := fun h => ix_dict hu value slice pins s σ H x y v u Q I rx ry h hsub
  cases b with
  | str z =>
    cases hb.str
    cases a with
    | dic o kvs =>
      obtain ⟨p, vk, rfl, h1, h2⟩ := ha.dic hs
      obtain ⟨z', k1, k2⟩ := dget_val h2 (show dget kvs (.inr z) = some w from e)
      exact god ⟨p, .inr z, vk, z', rfl, rfl, h1, k1, q _ F H _ (Nw.same hs k2)⟩
    | _ => cases e
  | int i =>
    cases hb.int
    cases a with
    | dic o kvs =>
      obtain ⟨p, vk, rfl, h1, h2⟩ := ha.dic hs
      obtain ⟨z', k1, k2⟩ := dget_val h2 (show dget kvs (.inl i) = some w from e)
      exact god ⟨p, .inl i, vk, z', rfl, rfl, h1, k1, q _ F H _ (Nw.same hs k2)⟩
    | tup xs =>
      obtain ⟨p, vs, rfl, h1, h2⟩ := ha.tup hs
      obtain ⟨z, k1, k2⟩ := h2.atI (show Rf.atI xs i = some w from e)
      exact go (.inr (.inl ⟨p, vs, i, z, rfl, rfl, h1, k1, q _ F H _ (Nw.same hs k2)⟩))
    | lst o xs =>
      obtain ⟨p, vs, rfl, h1, h2⟩ := ha.lst hs
      obtain ⟨z, k1, k2⟩ := h2.atI (show Rf.atI xs i = some w from e)
      exact go (.inl ⟨p, vs, i, z, rfl, rfl, SqL.of h1, k1, q _ F H _ (Nw.same hs k2)⟩)
    | str z =>
      cases ha.str
      have e' : (if z.length < LIM then (Rf.atI z.cps.toList i).map fun c => W.str ⟨#[c]⟩ else none) = some w := e
      split at e'
      · rename_i c
        obtain ⟨c1, h1, rfl⟩ := Option.map_eq_some_iff.mp e'
        exact go (.inr (.inr ⟨z, i, c1, rfl, rfl, lim_le c, h1, q _ F H _ (Nw.same hs (.str _))⟩))
      · cases e'
    | _ => cases e
  | _ => cases a <;> cases e
/-- a slice -/
def rSl (K : PySem.W.Frag) : V → Option Int → Option Int → Hp → VK → Prop := fun x lo hi H Q => ∃ F a w, Sub F H ∧ Rb K F H a x ∧ wSl a lo hi = some w ∧ ∀ v F' H' m, Nw K F H w v F' H' m → Q v H'
theorem sl_ok : SlR X (rSl X.K) := by
  intro pins s σ H x v vl vu lo hi sl Q I rx hsl pl pu ⟨F, a, w, hs, ha, e, q⟩
  cases a with
  | tup xs =>
    obtain ⟨p, vs, rfl, h1, h2⟩ := ha.tup hs
    cases e
    refine sl_tupA pins s σ H _ v vl vu lo hi sl Q I rx hsl pl pu ⟨p, vs, rfl, h1, fun hw => ?_, fun _ p hp => ?_⟩
    · have ec : Rf.cut xs lo hi = xs := by
        rw [cut_eq, h2.len, hw.1, hw.2]
        simp only [List.drop_zero, Nat.sub_zero]
        exact List.take_of_length_le (by rw [h2.len]; exact Nat.le_refl _)
      rw [ec] at q
      obtain ⟨P, hP⟩ := ha
      exact q _ F H _ (Nw.same hs (Ow.sh hP rfl))
    · rw [cutV_eq]
      exact q _ _ _ _ (Nw.tup hs hp (h2.cut lo hi))
  | lst o xs =>
    obtain ⟨p, vs, rfl, h1, h2⟩ := ha.lst hs
    cases e
    refine sl_list pins s σ H _ v vl vu lo hi sl Q I rx hsl pl pu ⟨p, vs, rfl, SqL.of h1, fun p hp => ?_⟩
    rw [cutV_eq]
    exact q _ _ _ _ (Nw.lst hs hp (h2.cut lo hi))
  | scr ns =>
    obtain ⟨p, rfl, h1⟩ := ha.scr hs
    cases e
    refine sl_list pins s σ H _ v vl vu lo hi sl Q I rx hsl pl pu ⟨p, _, rfl, h1, fun p hp => ?_⟩
    rw [cutV_eq]
    have ec : ∀ {β : Type} (f : Int → β), Rf.cut (ns.map f) lo hi = (Rf.cut ns lo hi).map f := fun f => by
      unfold Rf.cut
      rw [List.length_map, List.map_take, List.map_drop]
    rw [ec]
    exact q _ _ _ _ (Nw.lst hs hp ShL.intV)
  | str z =>
    cases ha.str
    have e' : (if z.length < LIM then some (W.str ⟨(Rf.cut z.cps.toList lo hi).toArray⟩) else none) = some w := e
    split at e'
    · rename_i c
      cases e'
      refine sl_str pins s σ H _ v vl vu lo hi sl Q I rx hsl pl pu ⟨z, rfl, lim_le c, ?_⟩
      have ec : cutS z lo hi = ⟨(Rf.cut z.cps.toList lo hi).toArray⟩ := by
        unfold cutS
        rw [cut_eq, show z.length = z.cps.toList.length from (Array.length_toList).symm]
      rw [ec]
      exact q _ F H _ (Nw.same hs (.str _))
    · cases e'
  | _ => cases e
/-- a value's truth -/
def rTru (K : PySem.W.Frag) : V → Hp → (Bool → Hp → Prop) → Prop := fun x H Q => ∃ F a k, Sub F H ∧ Rb K F H a x ∧ wTru a = some k ∧ Q k H
theorem truV_of {K : PySem.W.Frag} {F H : Hp} {a : W} {x : V} {k : Bool} (hs : Sub F H) (ha : Rb K F H a x) (e : wTru a = some k) : TruV K x H k := by
  have le : ∀ {xs : List W} {vs : List V}, ShL K F xs vs → (!xs.isEmpty) = !vs.isEmpty := fun h => by cases h <;> rfl
  cases a with
  | non => cases ha.non; cases e; rfl
  | bl b => cases ha.bl; cases e; rfl
  | int i => cases ha.int; cases e; rfl
  | str z =>
    cases ha.str
    have e' : (if z.length < LIM then some (z.length != 0) else none) = some k := e
    split at e'
    · rename_i c
      cases e'
      refine ⟨lim_le c, ?_⟩
      by_cases h : z.length = 0
      · rw [h]; rfl
      · have h1 : (z.length != 0) = true := by simp [h]
        have h2 : (((z.length : Nat) : Int) != 0) = true := by
          have : ((z.length : Nat) : Int) ≠ 0 := by omega
          rw [bne_iff_ne]; exact this
        rw [h1, h2]
    · cases e'
  | tup xs =>
    obtain ⟨p, vs, rfl, h1, h2⟩ := ha.tup hs
    cases e
    exact .inr (.inl ⟨vs, h1, le h2⟩)
  | lst o xs =>
    obtain ⟨p, vs, rfl, h1, h2⟩ := ha.lst hs
    cases e
    exact .inl ⟨vs, SqL.of h1, le h2⟩
  | dic o xs =>
    obtain ⟨p, vs, rfl, h1, h2⟩ := ha.dic hs
    cases e
    exact .inr (.inr ⟨vs, h1, by cases h2 <;> rfl⟩)
  | scr ns =>
    obtain ⟨p, rfl, h1⟩ := ha.scr hs
    cases e
    exact .inl ⟨_, h1, by cases ns <;> rfl⟩
  | _ => cases e
theorem tru_rule : TruR X (rTru X.K) := by
  intro pins s σ H x v Q I rx ⟨F, a, k, hs, ha, e, q⟩
  exact tru_ok pins s σ H x v Q I rx ⟨k, truV_of hs ha e, q⟩
/-! ### calls of built-ins -/
inductive RbL (K : PySem.W.Frag) (F H : Hp) : List W → List V → Prop
  | nil : RbL K F H [] []
  | cons {w : W} {v : V} {ws : List W} {vs : List V} : Rb K F H w v → RbL K F H ws vs → RbL K F H (w :: ws) (v :: vs)
def rWn (K : PySem.W.Frag) (op : List W → Option W) : List V → Hp → VK → Prop := fun xs H Q => ∃ F ws w, Sub F H ∧ RbL K F H ws xs ∧ op ws = some w ∧ ∀ v F' H' m, Nw K F H w v F' H' m → Q v H'
theorem bi_one {f : Value} {g : W → Option W} {r : List V → Hp → VK → Prop} (hr : CallR X f r)
    (h : ∀ (F H : Hp) (a w : W) (x : V) (Q : VK), Sub F H → Rb X.K F H a x → g a = some w → (∀ v F' H' m, Nw X.K F H w v F' H' m → Q v H') → r [x] H Q) : CallR X f (rWn X.K (one g)) := by
  intro pins s σ H xs us Q I rv ⟨F, ws, w, hs, ha, e, q⟩
  refine hr pins s σ H xs us Q I rv ?_
  cases ha with
  | nil => cases e
  | cons a b => cases b with
    | cons _ _ => cases e
    | nil => exact h F H _ w _ Q hs a e q
theorem bi_two {f : Value} {g : W → W → Option W} {r : List V → Hp → VK → Prop} (hr : CallR X f r)
    (h : ∀ (F H : Hp) (a b w : W) (x y : V) (Q : VK), Sub F H → Rb X.K F H a x → Rb X.K F H b y → g a b = some w → (∀ v F' H' m, Nw X.K F H w v F' H' m → Q v H') → r [x, y] H Q) : CallR X f (rWn X.K (two g)) := by
  intro pins s σ H xs us Q I rv ⟨F, ws, w, hs, ha, e, q⟩
  refine hr pins s σ H xs us Q I rv ?_
  cases ha with
  | nil => cases e
  | cons a b => cases b with
    | nil => cases e
    | cons b c => cases c with
      | cons _ _ => cases e
      | nil => exact h F H _ _ w _ _ Q hs a b e q
theorem bi_len : CallR X (.builtin "len") (rWn X.K (wBi .len)) := bi_one call_len fun F H a w x Q hs ha e q => by
  have fin : ∀ n : Nat, LenV X.K x H n → some (W.int n) = some w → ∃ y k, [x] = [y] ∧ LenV X.K y H k ∧ Q (.int k) H :=
    fun n h z => ⟨x, n, rfl, h, by cases z; exact q _ F H _ (Nw.same hs (.int _))⟩
  cases a with
  | tup xs => obtain ⟨p, vs, rfl, h1, h2⟩ := ha.tup hs; exact fin vs.length (.inr ⟨vs, h1, rfl⟩) (by rw [← h2.len]; exact e)
  | lst o xs => obtain ⟨p, vs, rfl, h1, h2⟩ := ha.lst hs; exact fin vs.length (.inl ⟨vs, SqL.of h1, rfl⟩) (by rw [← h2.len]; exact e)
  | scr ns => obtain ⟨p, rfl, h1⟩ := ha.scr hs; exact fin ns.length (.inl ⟨_, h1, by rw [List.length_map]⟩) e
  | str z =>
    cases ha.str
    have e' : (if z.length < LIM then some (W.int z.length) else none) = some w := e
    split at e'
    · rename_i c; exact fin z.length ⟨lim_le c, rfl⟩ e'
    · cases e'
  | _ => cases e
theorem bi_abs : CallR X (.builtin "abs") (rWn X.K (wBi .abs)) := bi_one call_abs fun F H a w x Q hs ha e q => by
  cases a with
  | int i =>
    cases ha.int; cases e
    refine ⟨i, rfl, ?_⟩
    rw [show (if i < 0 then -i else i) = (i.natAbs : Int) by split <;> omega]
    exact q _ F H _ (Nw.same hs (.int _))
  | _ => cases e
theorem bi_max (hc : X.calm = true) : CallR X (.builtin "max") (rWn X.K (wBi .max)) := bi_two (call_max2 hc) fun F H a b w x y Q hs ha hb e q => by
  cases a with
  | int i => cases b with
    | int j => cases ha.int; cases hb.int; cases e; exact ⟨i, j, rfl, q _ F H _ (Nw.same hs (.int _))⟩
    | _ => cases e
  | _ => cases e
theorem bi_min (hc : X.calm = true) : CallR X (.builtin "min") (rWn X.K (wBi .min)) := bi_two (call_min2 hc) fun F H a b w x y Q hs ha hb e q => by
  cases a with
  | int i => cases b with
    | int j => cases ha.int; cases hb.int; cases e; exact ⟨i, j, rfl, q _ F H _ (Nw.same hs (.int _))⟩
    | _ => cases e
  | _ => cases e
theorem call_or {X : Cx} {f : Value} {r1 r2 : List V → Hp → VK → Prop} (h1 : CallR X f r1) (h2 : CallR X f r2) : CallR X f (fun xs H Q => r1 xs H Q ∨ r2 xs H Q) := by
  intro pins s σ H xs us Q I rv h
  rcases h with h | h
  · exact h1 pins s σ H xs us Q I rv h
  · exact h2 pins s σ H xs us Q I rv h
theorem bi_int : CallR X (.type "int") (rWn X.K (wBi .int)) := bi_one (call_or call_int1 call_int_str) fun F H a w x Q hs ha e q => by
  cases a with
  | int i => cases ha.int; cases e; exact .inl (.inl ⟨i, rfl, q _ F H _ (Nw.same hs (.int _))⟩)
  | bl b => cases ha.bl; cases e; exact .inl (.inr ⟨b, rfl, q _ F H _ (Nw.same hs (.int _))⟩)
  | str z =>
    cases ha.str
    have e' : (if z.length ≤ 640 then (intText? z).map W.int else none) = some w := e
    split at e'
    · rename_i c
      obtain ⟨n, en, rfl⟩ := Option.map_eq_some_iff.mp e'
      exact .inr ⟨z, n, rfl, en, c, q _ F H _ (Nw.same hs (.int _))⟩
    · cases e'
  | _ => cases e
theorem bi_str : CallR X (.type "str") (rWn X.K (wBi .str)) := bi_one call_str_int fun F H a w x Q hs ha e q => by
  cases a with
  | int i =>
    cases ha.int
    have e' : (if i.natAbs.log2 < 1900 then some (W.str (Str.ofString (toString i))) else none) = some w := e
    split at e'
    · rename_i c
      cases e'
      exact ⟨i, rfl, by omega, q _ F H _ (Nw.same hs (.str _))⟩
    · cases e'
  | _ => cases e
theorem bi_tuple : CallR X (.type "tuple") (rWn X.K (wBi .tuple)) := bi_one call_tuple_of fun F H a w x Q hs ha e q => by
  cases a with
  | tup xs =>
    obtain ⟨p, vs, rfl, h1, h2⟩ := ha.tup hs
    cases e
    obtain ⟨P, hP⟩ := ha
    exact ⟨p, vs, rfl, .inr ⟨h1, q _ F H _ (Nw.same hs (Ow.sh hP rfl))⟩⟩
  | lst o xs =>
    obtain ⟨p, vs, rfl, h1, h2⟩ := ha.lst hs
    cases e
    exact ⟨p, vs, rfl, .inl ⟨SqL.of h1, fun l hl => q _ _ _ _ (Nw.tup hs hl h2)⟩⟩
  | _ => cases e
theorem bi_list : CallR X (.type "list") (rWn X.K (wBi .list)) := bi_one call_list_of fun F H a w x Q hs ha e q => by
  cases a with
  | tup xs =>
    obtain ⟨p, vs, rfl, h1, h2⟩ := ha.tup hs
    cases e
    exact ⟨p, vs, rfl, .inr h1, fun l hl => q _ _ _ _ (Nw.lst hs hl h2)⟩
  | lst o xs =>
    obtain ⟨p, vs, rfl, h1, h2⟩ := ha.lst hs
    cases e
    exact ⟨p, vs, rfl, .inl (SqL.of h1), fun l hl => q _ _ _ _ (Nw.lst hs hl h2)⟩
  | _ => cases e
theorem bi_all (hc : X.calm = true) : CallR X (.builtin "all") (rWn X.K (wBi .all)) := bi_one (cr_all hc) fun F H a w x Q hs ha e q => by
  cases a with
  | lst o xs =>
    obtain ⟨p, vs, rfl, h1, h2⟩ := ha.lst hs
    obtain ⟨bs, k, rfl⟩ := Option.map_eq_some_iff.mp (show (bools xs).map (fun bs => W.bl (bs.all id)) = some w from e)
    exact ⟨p, bs, rfl, SqL.of (shl_bools h2 k ▸ h1), q _ F H _ (Nw.same hs (.bl _))⟩
  | _ => cases e
theorem bi_any (hc : X.calm = true) : CallR X (.builtin "any") (rWn X.K (wBi .any)) := bi_one (cr_any hc) fun F H a w x Q hs ha e q => by
  cases a with
  | lst o xs =>
    obtain ⟨p, vs, rfl, h1, h2⟩ := ha.lst hs
    obtain ⟨bs, k, rfl⟩ := Option.map_eq_some_iff.mp (show (bools xs).map (fun bs => W.bl (bs.any id)) = some w from e)
    exact ⟨p, bs, rfl, SqL.of (shl_bools h2 k ▸ h1), q _ F H _ (Nw.same hs (.bl _))⟩
  | _ => cases e
theorem bi_sum (hc : X.calm = true) : CallR X (.builtin "sum") (rWn X.K (wBi .sum)) := bi_one (cr_sumB hc) fun F H a w x Q hs ha e q => by
  cases a with
  | lst o xs =>
    obtain ⟨p, vs, rfl, h1, h2⟩ := ha.lst hs
    obtain ⟨bs, k, rfl⟩ := Option.map_eq_some_iff.mp (show (Rf.intsW xs).map (fun is => W.int is.sum) = some w from e)
    exact ⟨p, vs, bs, rfl, SqL.of h1, shl_ints h2 k, q _ F H _ (Nw.same hs (.int _))⟩
  | _ => cases e
theorem bi_divmod : CallR X (.builtin "divmod") (rWn X.K (wBi .divmod)) := bi_two call_divmodW fun F H a b w x y Q hs ha hb e q => by
  cases a with
  | int i => cases b with
    | int j =>
      cases ha.int; cases hb.int
      have e' : (if 0 < j ∧ j.natAbs.log2 < DIV ∧ i.natAbs.log2 < 3000 then some (W.tup [W.int (i / j), W.int (i % j)]) else none) = some w := e
      split at e'
      · rename_i c
        cases e'
        have c3 := c.2.2
        have hb := bits_log i
        exact ⟨i, j, rfl, divp_ok c.1 (by omega), fun p hp => q _ _ _ _ (Nw.tup hs hp (.cons (.int _) (.cons (.int _) .nil)))⟩
      · cases e'
    | _ => cases e
  | _ => cases e
theorem shl_intsI {K : PySem.W.Frag} {F : Hp} : ∀ {xs : List W} {vs : List V} {is : List Int}, ShL K F xs vs → Rf.intsI xs = some is → vs = is.map V.int
  | _, _, is, .nil, h => by cases h; rfl
  | _, _, is, .cons (w := w) (ws := ws) hw l, h => by
    cases w with
    | int i =>
      have h' : (Rf.intsI ws).map (i :: ·) = some is := h
      obtain ⟨js, e, rfl⟩ := Option.map_eq_some_iff.mp h'
      cases hw
      rw [shl_intsI l e]; rfl
    | _ => cases h
theorem insI_perm {i : Int} : ∀ {l : List Int}, (Rf.insI i l).Perm (i :: l)
  | [] => .refl _
  | j :: r => by
    unfold Rf.insI
    split
    · exact .refl _
    · exact (insI_perm.cons j).trans (.swap i j r)
theorem isort_perm : ∀ {l : List Int}, (Rf.isort l).Perm l
  | [] => .refl _
  | i :: r => insI_perm.trans (isort_perm.cons i)
theorem insI_sorted {i : Int} : ∀ {l : List Int}, l.Pairwise (· ≤ ·) → (Rf.insI i l).Pairwise (· ≤ ·)
  | [], _ => List.pairwise_singleton ..
  | j :: r, h => by
    obtain ⟨h1, h2⟩ := List.pairwise_cons.mp h
    unfold Rf.insI
    split
    · rename_i c
      refine List.pairwise_cons.mpr ⟨fun x hx => ?_, h⟩
      rcases List.mem_cons.mp hx with rfl | hx
      · exact c
      · exact Int.le_trans c (h1 x hx)
    · rename_i c
      refine List.pairwise_cons.mpr ⟨fun x hx => ?_, insI_sorted h2⟩
      rcases List.mem_cons.mp (insI_perm.mem_iff.mp hx) with rfl | hx
      · omega
      · exact h1 x hx
theorem isort_sorted : ∀ {l : List Int}, (Rf.isort l).Pairwise (· ≤ ·)
  | [] => .nil
  | _ :: _ => insI_sorted isort_sorted
theorem sorted_eq : ∀ {a b : List Int}, a.Perm b → a.Pairwise (· ≤ ·) → b.Pairwise (· ≤ ·) → a = b
  | [], b, p, _, _ => (List.nil_perm.mp p).symm
  | x :: a, [], p, _, _ => absurd p.length_eq (by simp)
  | x :: a, y :: b, p, ha, hb => by
    obtain ⟨a1, a2⟩ := List.pairwise_cons.mp ha
    obtain ⟨b1, b2⟩ := List.pairwise_cons.mp hb
    have hx : x ∈ y :: b := p.mem_iff.mp (List.mem_cons_self ..)
    have hy : y ∈ x :: a := p.mem_iff.mpr (List.mem_cons_self ..)
    have e : x = y := by
      rcases List.mem_cons.mp hx with e | hx
      · exact e
      rcases List.mem_cons.mp hy with e | hy
      · exact e.symm
      exact Int.le_antisymm (a1 y hy) (b1 x hx)
    subst e
    rw [sorted_eq (List.Perm.cons_inv p) a2 b2]
theorem intV_sh {K : PySem.W.Frag} {F : Hp} : ∀ {is : List Int}, ShL K F (is.map W.int) (is.map V.int)
  | [] => .nil
  | i :: r => .cons (.int i) intV_sh
theorem bi_sorted : CallR X (.builtin "sorted") (rWn X.K (wBi .sorted)) := bi_one cr_sortedI fun F H a w x Q hs ha e q => by
  cases a with
  | lst o xs =>
    obtain ⟨p, vs, rfl, h1, h2⟩ := ha.lst hs
    obtain ⟨is, k, rfl⟩ := Option.map_eq_some_iff.mp (show (Rf.intsI xs).map (fun is => W.lst true ((Rf.isort is).map .int)) = some w from e)
    refine ⟨p, is, rfl, SqL.of (shl_intsI h2 k ▸ h1), fun ns' l hp hw hl => ?_⟩
    rw [sorted_eq (hp.trans isort_perm.symm) hw isort_sorted]
    exact q _ _ _ _ (Nw.lst hs hl intV_sh)
  | _ => cases e
/-- the value that a built-in's name stands for -/
def biV : Bi → Value
  | .len => .builtin "len"
  | .abs => .builtin "abs"
  | .min => .builtin "min"
  | .max => .builtin "max"
  | .int => .type "int"
  | .str => .type "str"
  | .tuple => .type "tuple"
  | .list => .type "list"
  | .all => .builtin "all"
  | .any => .builtin "any"
  | .sum => .builtin "sum"
  | .divmod => .builtin "divmod"
  | .sorted => .builtin "sorted"
theorem bi_ok : ∀ f : Bi, (biC f = true → X.calm = true) → CallR X (biV f) (rWn X.K (wBi f))
  | .len, _ => bi_len
  | .abs, _ => bi_abs
  | .min, hc => bi_min (hc rfl)
  | .max, hc => bi_max (hc rfl)
  | .int, _ => bi_int
  | .str, _ => bi_str
  | .tuple, _ => bi_tuple
  | .list, _ => bi_list
  | .all, hc => bi_all (hc rfl)
  | .any, hc => bi_any (hc rfl)
  | .sum, hc => bi_sum (hc rfl)
  | .divmod, _ => bi_divmod
  | .sorted, _ => bi_sorted
end
end Rf
/-! from the model's syntax to the small one -/
namespace Rf
open PySem PySem.Spec PyProof.Rows L2
/-- what a name of the module stands for -/
inductive Gk where
  | fn (F : Fn) (np : Nat)
  | cls (C : String) (F : Fn) (np : Nat)
  | exc (C : String) (f : Option String)
  | con (w : W)
structure Tb where
  gl : Str → Option Gk
  /-- methods by their names: the class, the def -/
  mt : Str → Option (String × String × Fn × Nat)
  /-- fields by their names -/
  fl : Str → Option String
  /-- the classes whose instances have fields -/
  cs : List String
  /-- the exception classes; by their names -/
  xs : List String
  xc : Str → Option String
  /-- those that an except clause may name -/
  xm : Str → Option String
  /-- defs that may be values; those that a local name may hold -/
  fv : Str → Option String
  lc : List (String × Fn)
  /-- within an except suite -/
  su : Bool
def isLocal : Option NameKind → Bool
  | some .local => true
  | some .cell => true
  | some .free => true
  | _ => false
def isStored : Option NameKind → Bool
  | some .local => true
  | some .cell => true
  | _ => false
def isGlob : Option NameKind → Bool
  | some .globalImplicit => true
  | _ => false
def ixOf (x : Str) : List Str → Nat → Option Nat
  | [], _ => none
  | y :: ys, i => if x = y then some i else ixOf x ys (i + 1)
def okNm (x : Str) : Bool := !(x == ("__debug__" : Str)) && !(x == ("__classdict__" : Str)) && !(x == ("__name__" : Str))
def biOf (x : Str) : Option Bi :=
  if x = ("len" : Str) then some .len else if x = ("abs" : Str) then some .abs else if x = ("min" : Str) then some .min else if x = ("max" : Str) then some .max
  else if x = ("int" : Str) then some .int else if x = ("str" : Str) then some .str else if x = ("tuple" : Str) then some .tuple else if x = ("list" : Str) then some .list
  else if x = ("all" : Str) then some .all else if x = ("any" : Str) then some .any else if x = ("sum" : Str) then some .sum else if x = ("divmod" : Str) then some .divmod else if x = ("sorted" : Str) then some .sorted else none
def muOf (x : Str) (n : Nat) : Option Mu :=
  if x = ("append" : Str) then some .append else if x = ("extend" : Str) then some .extend else if x = ("insert" : Str) then some .insert
  else if x = ("pop" : Str) then (if n = 0 then some .pop else some .popAt) else if x = ("remove" : Str) then some .remove else none
def rmOf (x : Str) : Option Rm := if x = ("index" : Str) then some .index else if x = ("count" : Str) then some .count else none
def tx0Of (x : Str) : Option Tx0 := if x = ("isdigit" : Str) then some .isdigit else if x = ("upper" : Str) then some .upper else none
def tx1Of (x : Str) : Option Tx1 := if x = ("split" : Str) then some .split else if x = ("partition" : Str) then some .partition else if x = ("join" : Str) then some .join else none
def strKs : List (Option Expr) → Option (List Str)
  | [] => some []
  | some (.Constant (.str x) _ _) :: r => (strKs r).map (x :: ·)
  | _ => none
/-- names of exception classes -/
def trNs (xc : Str → Option String) (sc : Scope) : List Expr → Option (List String)
  | [] => some []
  | .Name t _ :: r => if okNm t && isGlob (sc.names.lookup t) then match xc t, trNs xc sc r with
    | some D, some Ds => some (D :: Ds)
    | _, _ => none else none
  | _ => none
def bopOf : Operator → Option Bop
  | .Add => some .add
  | .Sub => some .sub
  | .Mult => some .mul
  | .FloorDiv => some .fdiv
  | .Mod => some .mod
  | .Pow => some .pow
  | .RShift => some .shr
  | .BitAnd => some .band
  | _ => none
def copOf : CmpOp → Option Cop
  | .Eq => some .eq
  | .NotEq => some .ne
  | .Lt => some .lt
  | .LtE => some .le
  | .Gt => some .gt
  | .GtE => some .ge
  | .Is => some .is
  | .IsNot => some .isnot
  | .In => some .isin
  | .NotIn => some .notin
/-- a type in isinstance: a built-in -/
def tyOf (x : Str) : Option String :=
  if x = ("int" : Str) then some "int" else if x = ("bool" : Str) then some "bool" else if x = ("tuple" : Str) then some "tuple" else if x = ("list" : Str) then some "list"
  else if x = ("str" : Str) then some "str" else if x = ("dict" : Str) then some "dict" else none
def notStar : Expr → Bool
  | .Starred _ _ => false
  | _ => true
def isSlice : Expr → Bool
  | .Slice _ _ _ _ => true
  | _ => false
/-- no call without arguments: super() is none of it -/
def plainO : Expr → Bool
  | .Call (.Name _ _) [] [] _ => false
  | _ => true
def isComp : Expr → Bool
  | .ListComp _ _ _ _ => true
  | .SetComp _ _ _ _ => true
  | .DictComp _ _ _ _ _ => true
  | _ => false
/-- the scope of a comprehension's block within sc -/
abbrev inScope (sc scope : Scope) : Scope := relS scope sc
/-- the block's own names with their slots -/
def owns (N : List Str) (scope : Scope) : List (Str × Nat) := scope.names.filterMap fun (x, k) => match k with
  | .local => (ixOf x N 0).map fun i => (x, i)
  | .cell => (ixOf x N 0).map fun i => (x, i)
  | _ => none
def trTg (sc : Scope) (N : List Str) : Nat → Expr → Option Tg
  | _, .Name x _ => if isStored (sc.names.lookup x) then (ixOf x N 0).map .nm else none
  | n + 1, .Tuple es _ _ => if es.all notStar then (es.mapM (trTg sc N n)).map .tp else none
  | _, _ => none
variable (tb : Tb) in
mutual
def trE : Nat → Scope → List Str → Expr → Option Ex
  | 0, _, _, _ => none
  | n + 1, sc, N, e => match e with
    | .Name x _ => if okNm x then (if isLocal (sc.names.lookup x) then (ixOf x N 0).map .var else if isGlob (sc.names.lookup x) then (match tb.gl x with
      | some (.con w) => some (.con w)
      | some (.fn _ _) => (tb.fv x).map fun C => .con (.fn C)
      | _ => none) else none) else none
    | .Constant c _ _ => match c with
      | .int i => some (.con (.int i))
      | .bool b => some (.con (.bl b))
      | .none => some (.con .non)
      | .str x => some (.con (.str x))
      | _ => none
    | .BinOp a o b _ => match bopOf o, trE n sc N a, trE n sc N b with
      | some o, some a, some b => some (.bin o a b)
      | _, _, _ => none
    | .UnaryOp o a _ => match o, trE n sc N a with
      | .USub, some a => some (.neg a)
      | .Not, some a => some (.nt a)
      | _, _ => none
    | .BoolOp o es _ => trB n sc N o es
    | .Compare a os es _ => if lastMarks os es then none else match trE n sc N a, os.mapM copOf, trEs n sc N es with
      | some a, some os, some es => if os.length = es.length ∧ es ≠ [] then some (.cmp a os es) else none
      | _, _, _ => none
    | .IfExp c a b _ => match trE n sc N c, trE n sc N a, trE n sc N b with
      | some c, some a, some b => some (.ife c a b)
      | _, _, _ => none
    | .Tuple es _ _ => (trEs n sc N es).bind fun es => if es.length ≤ 1000 then some (.tup es) else none
    | .List es _ => (trEs n sc N es).bind fun es => if es.length ≤ 1000 then some (.lst es) else none
    | .Dict ks vs _ => match ks, vs with
      | [], [] => some (.dct [] [])
      | [some k], [v] => match trE n sc N k, trE n sc N v with
        | some k, some v => some (.dc1 k v)
        | _, _ => none
      | k1 :: k2 :: ks, vs => match strKs (k1 :: k2 :: ks), trEs n sc N vs with
        | some xs, some vs' => if xs.length = vs'.length ∧ vs'.length = vs.length ∧ xs.length ≤ 15 then some (.dcs xs vs') else none
        | _, _ => none
      | _, _ => none
    | .Subscript a b _ => match b with
      | .Slice lo hi none _ => match trE n sc N a, trO n sc N lo, trO n sc N hi with
        | some a, some lo, some hi => some (.sl a lo hi)
        | _, _, _ => none
      | .Slice none none (some (.UnaryOp .USub (.Constant (.int j) _ _) _)) _ => if j = 1 then (trE n sc N a).map .rev else none
      | b => if isSlice b then none else match trE n sc N a, trE n sc N b with
        | some a, some b => some (.ix a b)
        | _, _ => none
    | .Attribute a f _ => if plainO a then match trE n sc N a, tb.fl f with
      | some a, some f => some (.fld a f tb.cs tb.xs)
      | _, _ => none else none
    | .Call f es kws cp => match kws with
      | [] => match f with
        | .Name x _ => if okNm x && isGlob (sc.names.lookup x) then match tb.gl x with
          | some (.fn F np) => if es.length = np ∧ tb.su = false then (trEs n sc N es).map (.call F) else none
          | some (.cls C F np) => if es.length + 1 = np ∧ tb.su = false then (trEs n sc N es).map (.mk C F) else none
          | some _ => none
          | none => if x = ("isinstance" : Str) then match es with
              | [a, .Name t _] => if (tyOf t).isSome && okNm t && isGlob (sc.names.lookup t) && (tb.gl t).isNone && notStar a then match tyOf t, trE n sc N a with
                | some T, some a => some (.isi a T)
                | _, _ => none else (if okNm t && isGlob (sc.names.lookup t) && notStar a then match tb.xc t, trE n sc N a with
                | some C, some a => some (.isx a C tb.xs)
                | _, _ => none else none)
              | [a, .Tuple ts _ _] => if notStar a && !ts.isEmpty && decide (ts.length ≤ 1000) then match trNs tb.xc sc ts, trE n sc N a with
                | some Ds, some a => some (.isxs a Ds tb.xs)
                | _, _ => none else none
              | _ => none
            else match biOf x with
              | some f => if tb.su && biC f then none else match es with
                | [] => none
                | [a] => if f = .min then (if notStar a then (trE n sc N a).map .mnd else none) else if f = .max then (if notStar a then (trE n sc N a).map .mxd else none)
                  else match f, a with
                  | .list, .Call (.Name y _) [i, j] [] _ => if y = ("range" : Str) then (if notStar i && notStar j && okNm y && isGlob (sc.names.lookup y) && (tb.gl y).isNone && !tb.su then (match trE n sc N i, trE n sc N j with
                      | some i, some j => some (.lrng i j)
                      | _, _ => none) else none) else (trEs n sc N es).map (.bi f)
                  | _, _ => (trEs n sc N es).map (.bi f)
                | _ => (trEs n sc N es).map (.bi f)
              | none => none
          else if okNm x && isLocal (sc.names.lookup x) && !es.isEmpty && !tb.su then match ixOf x N 0, trEs n sc N es with
            | some i, some es => some (.callL i tb.lc es)
            | _, _ => none
          else none
        | .Attribute o m ap => if plainO o && decide (es.length < 20) && (ap.endLine == cp.line) && !tb.su then match tb.mt m, trE n sc N o, trEs n sc N es with
            | some (C, m, F, np), some o, some es => if es.length + 1 = np then some (.mth o C m F es) else none
            | none, some o, some es2 => match muOf m es2.length, rmOf m with
              | some u, _ => some (.mu o u es2)
              | none, some r => if es2.isEmpty then none else some (.rm o r es2)
              | none, none => if m = ("get" : Str) ∧ es2.length = 2 then some (.dget o es2) else match tx0Of m, tx1Of m, es with
                | some u, none, [] => some (.tx0 o u)
                | none, some u, [e] => if notStar e then (trE n sc N e).map (.tx1 o u) else none
                | _, _, _ => none
            | _, _, _ => none
          else none
        | _ => none
      | _ => none
    | .ListComp elt gs scope _ => match gs with
      | [⟨tg, iter, ifs, k⟩] => let own := owns N scope
        if (k = 0 ∧ blkC N sc scope own = true) ∧ tb.su = false then match trTg scope N 5 tg, trI n sc N iter tg, trE n (inScope sc scope) N elt with
          | some tg, some it, some elt => if (tgIx tg).all (own.map (·.2)).contains then (match ifs with
            | [] => some (.lc elt tg it none (own.map (·.2)))
            | [c] => (trE n (inScope sc scope) N c).map fun c => .lc elt tg it (some c) (own.map (·.2))
            | _ => none) else none
          | _, _, _ => none
        else none
      | _ => none
    | _ => none
def trEs : Nat → Scope → List Str → List Expr → Option (List Ex)
  | _, _, _, [] => some []
  | 0, _, _, _ => none
  | n + 1, sc, N, e :: es => if notStar e then match trE n sc N e, trEs n sc N es with
    | some e, some es => some (e :: es)
    | _, _ => none else none
def trB : Nat → Scope → List Str → BoolOp → List Expr → Option Ex
  | 0, _, _, _, _ => none
  | n + 1, sc, N, o, es => match es with
    | [] => none
    | [e] => trE n sc N e
    | e :: es => match trE n sc N e, trB n sc N o es with
      | some a, some b => match o with
        | .And => some (.and a b)
        | .Or => some (.or a b)
      | _, _ => none
def trO : Nat → Scope → List Str → Option Expr → Option (Option Ex)
  | _, _, _, none => some none
  | 0, _, _, _ => none
  | n + 1, sc, N, some e => (trE n sc N e).map some
/-- what is walked; tg: the target -/
def trI : Nat → Scope → List Str → Expr → Expr → Option It
  | 0, _, _, _, _ => none
  | n + 1, sc, N, e, tg => match e with
    | .Call (.Name x _) es [] _ => if okNm x && isGlob (sc.names.lookup x) && (tb.gl x).isNone then
        if x = ("range" : Str) then (match es with
          | [a] => (trEs n sc N [a]).map .rng
          | [a, b] => (trEs n sc N [a, b]).map .rng
          | [a, b, c] => (trEs n sc N [a, b, c]).map .rng
          | _ => none)
        else if x = ("zip" : Str) then (match es, tg with
          | [a, b], .Tuple _ _ _ => if notStar a && notStar b then (match trE n sc N a, trE n sc N b with
            | some a, some b => some (.zip a b)
            | _, _ => none) else none
          | _, _ => none)
        else if x = ("enumerate" : Str) then (match es, tg with
          | [a], .Tuple _ _ _ => if notStar a then (trE n sc N a).map .enm else none
          | _, _ => none)
        else (trE n sc N e).map .of
      else (trE n sc N e).map .of
    | .Set _ _ _ => none
    | e => (trE n sc N e).map .of
end
end Rf
/-! the readings of pure runs; steps -/
namespace Rf
open PySem PySem.Spec PyProof.Rows L2
/-- an exception as it lies behind a raise -/
def Xv (K : PySem.W.Frag) (F : Hp) (w : W) (cls : Value) (d : Option Addr) : Prop :=
  ∃ (C : String) (fs : List (String × W)) (vf : List (Str × V)), w = .exc C fs ∧ cls = .ref (cad K C) ∧ ((d = none ∧ fs = []) ∨ ∃ dd, d = some dd ∧ F dd = some (.xd vf)) ∧ ShF K F fs vf
def Xr (K : PySem.W.Frag) (Z : WX) (σ : L2.St) (F0 H0 : Hp) (g0 : Gh) (ρ0 : Rho) (w : W) (ρ' : Rho) : Prop :=
  ∀ cls d F' H' g', Ps K σ F0 H0 g0 ρ0 F' H' g' ρ' → Xv K F' w cls d → Z cls d σ H'
/-- the pure run m from ρ1 comes to an end, as C wants it -/
def Ct {α : Type} (K : PySem.W.Frag) (Z : WX) (σ : L2.St) (F0 H0 : Hp) (g0 : Gh) (ρ0 : Rho) (m : M α) (ρ1 : Rho) (C : α → Rho → Prop) : Prop :=
  ∃ r ρ', m ρ1 = some (r, ρ') ∧ match r with
    | .ok a => C a ρ'
    | .ex w => Xr K Z σ F0 H0 g0 ρ0 w ρ'
section
variable {K : PySem.W.Frag} {Z : WX} {σ : L2.St} {F0 H0 F1 H1 F H : Hp} {g0 g1 g : Gh} {ρ0 ρ1 ρ2 ρ : Rho} {α β : Type} {m : M α} {k : α → M β}
theorem Xr.later {w : W} (x : Xr K Z σ F0 H0 g0 ρ0 w ρ2) (p : Ps K σ F0 H0 g0 ρ0 F1 H1 g1 ρ1) : Xr K Z σ F1 H1 g1 ρ1 w ρ2 :=
  fun cls d F' H' g' q v => x cls d F' H' g' (p.trans q) v
theorem Ct.rebase {C : α → Rho → Prop} (c : Ct K Z σ F0 H0 g0 ρ0 m ρ2 C) (p : Ps K σ F0 H0 g0 ρ0 F1 H1 g1 ρ1) : Ct K Z σ F1 H1 g1 ρ1 m ρ2 C := by
  obtain ⟨r, ρ', e, h⟩ := c
  refine ⟨r, ρ', e, ?_⟩
  cases r with
  | ok a => exact h
  | ex w => exact Xr.later h p
theorem Ct.imp {C C' : α → Rho → Prop} (c : Ct K Z σ F0 H0 g0 ρ0 m ρ2 C) (h : ∀ a ρ', C a ρ' → C' a ρ') : Ct K Z σ F0 H0 g0 ρ0 m ρ2 C' := by
  obtain ⟨r, ρ', e, z⟩ := c
  refine ⟨r, ρ', e, ?_⟩
  cases r with
  | ok a => exact h a ρ' z
  | ex w => exact z
theorem Ct.bnd {C : β → Rho → Prop} (c : Ct K Z σ F0 H0 g0 ρ0 (Rf.bnd m k) ρ1 C) : Ct K Z σ F0 H0 g0 ρ0 m ρ1 fun a ρ2 => Ct K Z σ F0 H0 g0 ρ0 (k a) ρ2 C := by
  obtain ⟨r, ρ', e, z⟩ := c
  unfold Rf.bnd at e
  cases x : m ρ1 with
  | none => rw [x] at e; cases e
  | some q =>
    rw [x] at e
    obtain ⟨s, ρ2⟩ := q
    cases s with
    | ok a => exact ⟨.ok a, ρ2, x, r, ρ', e, z⟩
    | ex w => cases e; exact ⟨.ex w, _, x, z⟩
theorem Ct.rd {t : T} {k : W → M β} {C : β → Rho → Prop} (c : Ct K Z σ F0 H0 g0 ρ0 (Rf.bnd (Rf.rd t) k) ρ1 C) : ∃ w, drf ρ1 t = some w ∧ Ct K Z σ F0 H0 g0 ρ0 (k w) ρ1 C := by
  obtain ⟨r, ρ', e, z⟩ := c.bnd
  unfold Rf.rd at e
  cases x : drf ρ1 t with
  | none => rw [x] at e; cases e
  | some w => rw [x] at e; cases e; exact ⟨w, rfl, z⟩
theorem Ct.lft {o : Option α} {C : β → Rho → Prop} (c : Ct K Z σ F0 H0 g0 ρ0 (Rf.bnd (Rf.lft o) k) ρ1 C) : ∃ a, o = some a ∧ Ct K Z σ F0 H0 g0 ρ0 (k a) ρ1 C := by
  obtain ⟨r, ρ', e, z⟩ := c.bnd
  unfold Rf.lft at e
  cases o with
  | none => cases e
  | some w => cases e; exact ⟨w, rfl, z⟩
theorem Ct.ret {a : α} {C : α → Rho → Prop} (c : Ct K Z σ F0 H0 g0 ρ0 (Rf.ret a) ρ1 C) : C a ρ1 := by
  obtain ⟨r, ρ', e, z⟩ := c
  cases e
  exact z
theorem Ct.stuck {C : α → Rho → Prop} (c : Ct K Z σ F0 H0 g0 ρ0 (Rf.stuck : M α) ρ1 C) : False := by
  obtain ⟨r, ρ', e, z⟩ := c
  cases e
theorem Ct.tru {t : T} {k : Bool → M β} {C : β → Rho → Prop} (c : Ct K Z σ F0 H0 g0 ρ0 (Rf.bnd (Rf.tru t) k) ρ1 C) : ∃ w b, drf ρ1 t = some w ∧ wTru w = some b ∧ Ct K Z σ F0 H0 g0 ρ0 (k b) ρ1 C := by
  obtain ⟨r, ρ', e, z⟩ := c.bnd
  unfold Rf.tru Rf.rd at e
  cases x : drf ρ1 t with
  | none => simp [Rf.bnd, x] at e
  | some w =>
    simp only [Rf.bnd, x, Rf.lft] at e
    cases y : wTru w with
    | none => rw [y] at e; cases e
    | some b => rw [y] at e; cases e; exact ⟨w, b, rfl, y, z⟩
end
/-- an expression's reading by its pure run -/
def rE (K : PySem.W.Frag) (Z : WX) (m : M T) : TE := fun σ H Q => ∃ F g ρ, Rl K F H g ρ σ ∧ Ct K Z σ F H g ρ m ρ fun t ρ' =>
  ∀ v F' H' g', Ps K σ F H g ρ F' H' g' ρ' → Tm K σ H F' H' g' ρ' t v → Q v H'
/-- a test's -/
def rT (K : PySem.W.Frag) (Z : WX) (m : M T) : TT := fun σ H Q => ∃ F g ρ, Rl K F H g ρ σ ∧ Ct K Z σ F H g ρ (bnd m Rf.tru) ρ fun b ρ' =>
  ∀ F' H' g', Ps K σ F H g ρ F' H' g' ρ' → Q b H'
/-- arguments that are shared -/
def rAs (K : PySem.W.Frag) (Z : WX) (m : M (List W)) : TA := fun σ H Q => ∃ F g ρ, Rl K F H g ρ σ ∧ Ct K Z σ F H g ρ m ρ fun ws ρ' =>
  ∀ vs F' H' g', Ps K σ F H g ρ F' H' g' ρ' → ShL K F' ws vs → Q vs H'
/-- arguments as they are -/
inductive TmL (K : PySem.W.Frag) (σ : L2.St) (H0 F H : Hp) (g : Gh) (ρ : Rho) : List T → List V → List Mk → Prop
  | nil : TmL K σ H0 F H g ρ [] [] []
  | cons {t : T} {v : V} {m : Mk} {ts : List T} {vs : List V} {ms : List Mk} :
      (match t with
        | .val w => Mks H0 F H g m ∧ Ow K F H (fun f a => m a = some f) w v
        | .pl i f => m = (fun _ => none) ∧ Tm K σ H0 F H g ρ (.pl i f) v) →
      (∀ m' ∈ ms, ∀ a, m a ≠ none → m' a = none) → TmL K σ H0 F H g ρ ts vs ms → TmL K σ H0 F H g ρ (t :: ts) (v :: vs) (m :: ms)
def rAt (K : PySem.W.Frag) (Z : WX) (m : M (List T)) : TA := fun σ H Q => ∃ F g ρ, Rl K F H g ρ σ ∧ Ct K Z σ F H g ρ m ρ fun ts ρ' =>
  ∀ vs ms F' H' g', Ps K σ F H g ρ F' H' g' ρ' → TmL K σ H F' H' g' ρ' ts vs ms → Q vs H'
section
variable {X : Cx} {e : Expr}
theorem PE.mono {t t' : TE} (h : PE X e t) (k : ∀ σ H Q, t' σ H Q → t σ H Q) : PE X e t' := ⟨fun pins s σ H Q I q => h.run pins s σ H Q I (k σ H Q q)⟩
theorem PT.mono {t t' : TT} (h : PT X e t) (k : ∀ σ H Q, t' σ H Q → t σ H Q) : PT X e t' := ⟨fun pins s σ H Q I q => h.run pins s σ H Q I (k σ H Q q)⟩
theorem PA.mono {es : List Expr} {t t' : TA} (h : PA X es t) (k : ∀ σ H Q, t' σ H Q → t σ H Q) : PA X es t' := ⟨fun pos pins s σ H Q I q => h.run pos pins s σ H Q I (k σ H Q q)⟩
end
section
variable {K : PySem.W.Frag} {Z : WX} {σ : L2.St} {H : Hp} {Q : VK}
/-- a constant -/
theorem con_rd {w : W} {v : V} (hv : ∀ F, Sh K F w v) (h : rE K Z (ret (.val w)) σ H Q) : Q v H := by
  obtain ⟨F, g, ρ, rl, c⟩ := h
  exact c.ret v F H g (.refl rl) (Tm.of (hv F))
theorem var_rd {i : Nat} (h : rE K Z (ev (.var i)) σ H Q) : tVar i σ H Q := by
  obtain ⟨F, g, ρ, rl, r, ρ', e, z⟩ := h
  unfold ev at e
  cases s : slot ρ i with
  | none => rw [s] at e; cases e
  | some w =>
    rw [s] at e
    obtain ⟨v, hv, hO⟩ := rl.sl i w s
    refine ⟨v, hv, ?_⟩
    cases o : own w with
    | true =>
      simp only [o] at e
      cases e
      exact z v F H g (.refl rl) hv
    | false =>
      simp only [o] at e
      cases e
      exact z v F H g (.refl rl) (Tm.of (hO.sh o))
theorem bin_rd {o : Bop} {a b : Ex} (h : rE K Z (ev (.bin o a b)) σ H Q) : tOp (rW2 K (wBin o)) (rE K Z (ev a)) (rE K Z (ev b)) σ H Q := by
  obtain ⟨F, g, ρ, rl, c⟩ := h
  unfold ev at c
  refine ⟨F, g, ρ, rl, c.bnd.imp fun s ρ1 c1 x F1 H1 g1 p1 m1 => ⟨F1, g1, ρ1, p1.rl, (c1.bnd.rebase p1).imp fun t ρ2 c2 y F2 H2 g2 p2 m2 => ?_⟩⟩
  obtain ⟨wa, ea, c3⟩ := c2.rd
  obtain ⟨wb, eb, c4⟩ := c3.rd
  obtain ⟨w, ew, c5⟩ := c4.lft
  refine ⟨F2, wa, wb, w, p2.rl.sub, (m1.later p2).drf p2.rl ea, m2.drf p2.rl eb, ew, fun v F' H' m nw => ?_⟩
  obtain ⟨p3, tm⟩ := (p1.trans p2).nw nw
  exact c5.ret v F' H' g2 p3 tm
theorem neg_rd {a : Ex} (h : rE K Z (ev (.neg a)) σ H Q) : tUn (rW1 K wNeg) (rE K Z (ev a)) σ H Q := by
  obtain ⟨F, g, ρ, rl, c⟩ := h
  unfold ev at c
  refine ⟨F, g, ρ, rl, c.bnd.imp fun s ρ1 c1 x F1 H1 g1 p1 m1 => ?_⟩
  obtain ⟨wa, ea, c3⟩ := c1.rd
  obtain ⟨w, ew, c5⟩ := c3.lft
  refine ⟨F1, wa, w, p1.rl.sub, m1.drf p1.rl ea, ew, fun v F' H' m nw => ?_⟩
  obtain ⟨p3, tm⟩ := p1.nw nw
  exact c5.ret v F' H' g1 p3 tm
theorem ix_rd {a b : Ex} (h : rE K Z (ev (.ix a b)) σ H Q) : tOp (rW2 K wIx) (rE K Z (ev a)) (rE K Z (ev b)) σ H Q := by
  obtain ⟨F, g, ρ, rl, c⟩ := h
  unfold ev at c
  refine ⟨F, g, ρ, rl, c.bnd.imp fun s ρ1 c1 x F1 H1 g1 p1 m1 => ⟨F1, g1, ρ1, p1.rl, (c1.bnd.rebase p1).imp fun t ρ2 c2 y F2 H2 g2 p2 m2 => ?_⟩⟩
  obtain ⟨wa, ea, c3⟩ := c2.rd
  obtain ⟨wb, eb, c4⟩ := c3.rd
  obtain ⟨w, ew, c5⟩ := c4.lft
  refine ⟨F2, wa, wb, w, p2.rl.sub, (m1.later p2).drf p2.rl ea, m2.drf p2.rl eb, ew, fun v F' H' m nw => ?_⟩
  obtain ⟨p3, tm⟩ := (p1.trans p2).nw nw
  exact c5.ret v F' H' g2 p3 tm
/-- not x as a value -/
theorem nt_rd {a : Ex} (h : rE K Z (ev (.nt a)) σ H Q) : tNotT K (rE K Z (ev a)) σ H Q := by
  obtain ⟨F, g, ρ, rl, c⟩ := h
  unfold ev at c
  refine ⟨F, g, ρ, rl, c.bnd.imp fun s ρ1 c1 x F1 H1 g1 p1 m1 => ?_⟩
  obtain ⟨wa, k, ea, ek, c3⟩ := c1.tru
  exact ⟨k, truV_of p1.rl.sub (m1.drf p1.rl ea) ek, c3.ret _ F1 H1 g1 p1 (Tm.of (.bl _))⟩
theorem and_rd {a b : Ex} (h : rE K Z (ev (.and a b)) σ H Q) : tAndT K (rE K Z (ev a)) (rE K Z (ev b)) σ H Q := by
  obtain ⟨F, g, ρ, rl, c⟩ := h
  unfold ev at c
  refine ⟨F, g, ρ, rl, c.bnd.imp fun s ρ1 c1 x F1 H1 g1 p1 m1 => ?_⟩
  obtain ⟨wa, k, ea, ek, c3⟩ := c1.tru
  refine ⟨k, truV_of p1.rl.sub (m1.drf p1.rl ea) ek, ?_⟩
  cases k with
  | true => exact ⟨F1, g1, ρ1, p1.rl, (c3.rebase p1).imp fun t ρ2 c4 v F2 H2 g2 p2 m2 => c4 v F2 H2 g2 (p1.trans p2) (m2.start p1.le)⟩
  | false =>
    obtain ⟨r, ρ2, e, z⟩ := c3.bnd
    obtain ⟨w, F', g', rfl, p', hs⟩ := sh_ok p1 m1 e
    exact Ct.ret z x F' H1 g' p' (Tm.of hs)
theorem or_rd {a b : Ex} (h : rE K Z (ev (.or a b)) σ H Q) : tOrT K (rE K Z (ev a)) (rE K Z (ev b)) σ H Q := by
  obtain ⟨F, g, ρ, rl, c⟩ := h
  unfold ev at c
  refine ⟨F, g, ρ, rl, c.bnd.imp fun s ρ1 c1 x F1 H1 g1 p1 m1 => ?_⟩
  obtain ⟨wa, k, ea, ek, c3⟩ := c1.tru
  refine ⟨k, truV_of p1.rl.sub (m1.drf p1.rl ea) ek, ?_⟩
  cases k with
  | false => exact ⟨F1, g1, ρ1, p1.rl, (c3.rebase p1).imp fun t ρ2 c4 v F2 H2 g2 p2 m2 => c4 v F2 H2 g2 (p1.trans p2) (m2.start p1.le)⟩
  | true =>
    obtain ⟨r, ρ2, e, z⟩ := c3.bnd
    obtain ⟨w, F', g', rfl, p', hs⟩ := sh_ok p1 m1 e
    exact Ct.ret z x F' H1 g' p' (Tm.of hs)
theorem ife_rd {c a b : Ex} (h : rE K Z (ev (.ife c a b)) σ H Q) : tIf (rT K Z (ev c)) (rE K Z (ev a)) (rE K Z (ev b)) σ H Q := by
  obtain ⟨F, g, ρ, rl, q⟩ := h
  unfold ev at q
  refine ⟨F, g, ρ, rl, ?_⟩
  have assoc : ∀ (m : M T) (k : Bool → M T), bnd m (fun s => bnd (tru s) k) = bnd (bnd m tru) k := fun m k => by
    funext ρ
    unfold bnd
    cases m ρ with
    | none => rfl
    | some p => obtain ⟨r, ρ'⟩ := p; cases r <;> rfl
  rw [assoc] at q
  refine q.bnd.imp fun k ρ1 c1 F1 H1 g1 p1 => ?_
  cases k with
  | true => exact ⟨F1, g1, ρ1, p1.rl, (c1.rebase p1).imp fun t ρ2 c4 v F2 H2 g2 p2 m2 => c4 v F2 H2 g2 (p1.trans p2) (m2.start p1.le)⟩
  | false => exact ⟨F1, g1, ρ1, p1.rl, (c1.rebase p1).imp fun t ρ2 c4 v F2 H2 g2 p2 m2 => c4 v F2 H2 g2 (p1.trans p2) (m2.start p1.le)⟩
/-! ### displays -/
theorem evs_nil {Q : List V → Hp → Prop} (h : rAs K Z (evs []) σ H Q) : tNil σ H Q := by
  obtain ⟨F, g, ρ, rl, c⟩ := h
  unfold evs at c
  exact c.ret [] F H g (.refl rl) .nil
theorem evs_cons {e : Ex} {es : List Ex} {Q : List V → Hp → Prop} (h : rAs K Z (evs (e :: es)) σ H Q) : tCons (rE K Z (ev e)) (rAs K Z (evs es)) σ H Q := by
  obtain ⟨F, g, ρ, rl, c⟩ := h
  unfold evs at c
  refine ⟨F, g, ρ, rl, c.bnd.imp fun s ρ1 c1 x F1 H1 g1 p1 m1 => ?_⟩
  obtain ⟨r, ρ2, e2, z⟩ := c1.bnd
  obtain ⟨w, F2, g2, rfl, p2, hs⟩ := sh_ok p1 m1 e2
  refine ⟨F2, g2, ρ2, p2.rl, ((Ct.bnd z).rebase p2).imp fun ws ρ3 c3 vs F3 H3 g3 p3 hl => ?_⟩
  exact Ct.ret c3 (x :: vs) F3 H3 g3 (p2.trans p3) (.cons (hs.sub p3.le.fx) hl)
theorem evT_nil {Q : List V → Hp → Prop} (h : rAt K Z (evT []) σ H Q) : tNil σ H Q := by
  obtain ⟨F, g, ρ, rl, c⟩ := h
  unfold evT at c
  exact c.ret [] [] F H g (.refl rl) .nil
theorem TmL.start {F1 H1 F2 H2 F : Hp} {g1 g2 g : Gh} {ρ2 : Rho} : ∀ {ts : List T} {vs : List V} {ms : List Mk}, TmL K σ H1 F2 H2 g2 ρ2 ts vs ms → Le F H g F1 H1 g1 → TmL K σ H F2 H2 g2 ρ2 ts vs ms
  | _, _, _, .nil, _ => .nil
  | t :: _, _, _, .cons h d l, a => by
    refine .cons ?_ d (l.start a)
    cases t with
    | val w => exact ⟨h.1.start a, h.2⟩
    | pl i f => exact ⟨h.1, Tm.start h.2 a⟩
theorem TmL.fresh {H0 F : Hp} {g : Gh} {ρ : Rho} : ∀ {ts : List T} {vs : List V} {ms : List Mk}, TmL K σ H0 F H g ρ ts vs ms → ∀ m ∈ ms, ∀ a, m a ≠ none → H0 a = none
  | _, _, _, .nil, _, h, _, _ => nomatch h
  | t :: _, _, _, .cons (m := m0) h d l, m, hm, a, ha => by
    rcases List.mem_cons.mp hm with rfl | hm
    · cases t with
      | val w =>
        cases e : m a with
        | none => exact absurd e ha
        | some f => exact (h.1 a f e).2.2.2
      | pl i f =>
        rw [h.1] at ha
        exact absurd rfl ha
    · exact l.fresh m hm a ha
theorem evT_cons {e : Ex} {es : List Ex} {Q : List V → Hp → Prop} (h : rAt K Z (evT (e :: es)) σ H Q) : tCons (rE K Z (ev e)) (rAt K Z (evT es)) σ H Q := by
  obtain ⟨F, g, ρ, rl, c⟩ := h
  unfold evT at c
  refine ⟨F, g, ρ, rl, c.bnd.imp fun t ρ1 c1 x F1 H1 g1 p1 m1 => ?_⟩
  refine ⟨F1, g1, ρ1, p1.rl, (c1.bnd.rebase p1).imp fun ts ρ2 c2 vs ms F2 H2 g2 p2 hl => ?_⟩
  cases t with
  | val w =>
    obtain ⟨m, hm, hO⟩ := m1
    have hO2 : Ow K F2 H2 (fun f a => m a = some f) w x := hO.mono p2.le.fx (fun f a e => by
      obtain ⟨_, y, z, _⟩ := hm a f e
      cases q : H1 a with
      | none => exact absurd q z
      | some o => exact p2.le.fr a o q y) fun _ _ e => e
    refine c2.ret (x :: vs) (m :: ms) F2 H2 g2 (p1.trans p2) (.cons ⟨hm.le p2.le, hO2⟩ (fun m' hm' a ha => ?_) (hl.start p1.le))
    cases e : m' a with
    | none => rfl
    | some f =>
      have h1 := hl.fresh m' hm' a (by rw [e]; exact nofun)
      cases e2 : m a with
      | none => exact absurd e2 ha
      | some f2 => exact absurd h1 (hm a f2 e2).2.2.1
  | pl i f => exact c2.ret (x :: vs) ((fun _ => none) :: ms) F2 H2 g2 (p1.trans p2) (.cons ⟨rfl, m1.later p2⟩ (fun m' hm' a ha => absurd rfl ha) (hl.start p1.le))
end
end Rf
/-! calls: things lent to a def and given back -/
namespace Rf
open PySem PySem.Spec PyProof.Rows L2
/-- the values of a list of answers -/
def drfs (ρ : Rho) : List T → Option (List W)
  | [] => some []
  | t :: ts => match drf ρ t, drfs ρ ts with
    | some w, some ws => some (w :: ws)
    | _, _ => none
theorem rds_eq (ρ : Rho) : ∀ ts : List T, rds ts ρ = (drfs ρ ts).map fun ws => (.ok ws, ρ)
  | [] => rfl
  | t :: ts => by
    have ih := rds_eq ρ ts
    unfold rds drfs
    show bnd (rd t) _ ρ = _
    unfold bnd rd
    cases x : drf ρ t with
    | none => rfl
    | some w =>
      show bnd (rds ts) (fun ws => ret (w :: ws)) ρ = _
      unfold bnd
      rw [ih]
      cases y : drfs ρ ts with
      | none => rfl
      | some ws => rfl
theorem drfs_get {ρ : Rho} : ∀ {ts : List T} {ws : List W}, drfs ρ ts = some ws → ws.length = ts.length ∧ ∀ (j : Nat) (t : T), ts[j]? = some t → ∃ w, ws[j]? = some w ∧ drf ρ t = some w
  | [], ws, e => by cases e; exact ⟨rfl, fun j t h => by simp at h⟩
  | t :: ts, ws, e => by
    unfold drfs at e
    cases x : drf ρ t with
    | none => rw [x] at e; cases e
    | some w =>
      rw [x] at e
      cases y : drfs ρ ts with
      | none => rw [y] at e; cases e
      | some us =>
        rw [y] at e
        cases e
        obtain ⟨h1, h2⟩ := drfs_get y
        refine ⟨by simp [h1], fun j t' h => ?_⟩
        cases j with
        | zero => simp at h; subst h; exact ⟨w, rfl, x⟩
        | succ j => exact h2 j t' (by simpa using h)
section
variable {K : PySem.W.Frag} {Z : WX} {σ : L2.St} {F0 H0 F1 H1 F H : Hp} {g0 g1 g : Gh} {ρ0 ρ1 ρ2 ρ : Rho} {α β : Type}
theorem Ct.rds {ts : List T} {k : List W → M β} {C : β → Rho → Prop} (c : Ct K Z σ F0 H0 g0 ρ0 (Rf.bnd (Rf.rds ts) k) ρ1 C) : ∃ ws, drfs ρ1 ts = some ws ∧ Ct K Z σ F0 H0 g0 ρ0 (k ws) ρ1 C := by
  obtain ⟨r, ρ', e, z⟩ := c.bnd
  rw [rds_eq] at e
  cases x : drfs ρ1 ts with
  | none => rw [x] at e; cases e
  | some w => rw [x] at e; cases e; exact ⟨w, rfl, z⟩
theorem TmL.ix : ∀ {ts : List T} {vs : List V} {ms : List Mk}, TmL K σ H0 F H g ρ ts vs ms → ts.length = vs.length ∧ ts.length = ms.length ∧ ∀ (j : Nat) (t : T), ts[j]? = some t → ∃ v m, vs[j]? = some v ∧ ms[j]? = some m ∧ (match t with
        | .val w => Mks H0 F H g m ∧ Ow K F H (fun f a => m a = some f) w v
        | .pl i f => m = (fun _ => none) ∧ Tm K σ H0 F H g ρ (.pl i f) v)
  | _, _, _, .nil => ⟨rfl, rfl, fun j t h => by simp at h⟩
  | _, _, _, .cons (v := v) (m := m) h d l => by
    obtain ⟨h1, h2, h3⟩ := l.ix
    refine ⟨by simp [h1], by simp [h2], fun j t' hj => ?_⟩
    cases j with
    | zero => simp at hj; subst hj; exact ⟨v, m, rfl, rfl, h⟩
    | succ j => exact h3 j t' (by simpa using hj)
theorem TmL.dj : ∀ {ts : List T} {vs : List V} {ms : List Mk}, TmL K σ H0 F H g ρ ts vs ms → ∀ (j j' : Nat) (m m' : Mk), ms[j]? = some m → ms[j']? = some m' → j ≠ j' → ∀ a, m a ≠ none → m' a = none
  | _, _, _, .nil, j, _, _, _, h, _, _, _, _ => by simp at h
  | _, _, _, .cons (m := m0) h d l, j, j', m, m', hj, hj', n, a, ha => by
    cases j with
    | zero => cases j' with
      | zero => exact absurd rfl n
      | succ j' =>
        simp at hj hj'
        subst hj
        exact d m' (List.mem_of_getElem? hj') a ha
    | succ j => cases j' with
      | zero =>
        simp at hj hj'
        subst hj'
        cases e : m0 a with
        | none => rfl
        | some f => exact absurd (d m (List.mem_of_getElem? hj) a (by rw [e]; exact nofun)) ha
      | succ j' => exact l.dj j j' m m' (by simpa using hj) (by simpa using hj') (fun z => n (by omega)) a ha
theorem TmL.rb (r : Rl K F H g ρ σ) {ts : List T} {vs : List V} {ms : List Mk} (l : TmL K σ H0 F H g ρ ts vs ms) : ∀ {ws : List W}, drfs ρ ts = some ws → RbL K F H ws vs := by
  induction l with
  | nil => intro ws e; cases e; exact .nil
  | cons h d l ih =>
    rename_i t v m ts vs ms
    intro ws e
    unfold drfs at e
    cases x : drf ρ t with
    | none => rw [x] at e; cases e
    | some w =>
      rw [x] at e
      cases y : drfs ρ ts with
      | none => rw [y] at e; cases e
      | some us =>
        rw [y] at e
        cases e
        refine .cons ?_ (ih y)
        cases t with
        | val w' => exact Tm.drf r (t := .val w') (H0 := H0) ⟨m, h.1, h.2⟩ x
        | pl i f => exact Tm.drf r h.2 x
end
/-! ### the slots that are lent -/
theorem lent_mem : ∀ {ts : List T} {ws : List W} {j i : Nat} {f : Option String} {w : W}, ts[j]? = some (.pl i f) → ws[j]? = some w → own w = true → i ∈ lent ts ws
  | [], _, j, i, f, w, h, _, _ => by simp at h
  | t :: ts, [], j, i, f, w, _, h, _ => by simp at h
  | t :: ts, u :: us, 0, i, f, w, h, h', o => by
    simp at h h'
    subst h; subst h'
    simp [lent, o]
  | t :: ts, u :: us, j + 1, i, f, w, h, h', o => by
    have ih := lent_mem (ts := ts) (ws := us) (j := j) (by simpa using h) (by simpa using h') o
    cases t with
    | val x => exact ih
    | pl i' f' =>
      unfold lent
      split
      · exact List.mem_cons_of_mem _ ih
      · exact ih
theorem lent_one : ∀ {ts : List T} {ws : List W}, (lent ts ws).Nodup → ∀ {j j' i : Nat} {f f' : Option String} {w w' : W}, ts[j]? = some (.pl i f) → ws[j]? = some w → own w = true →
    ts[j']? = some (.pl i f') → ws[j']? = some w' → own w' = true → j = j'
  | [], _, _, j, _, _, _, _, _, _, h, _, _, _, _, _ => by simp at h
  | t :: ts, [], _, j, _, _, _, _, _, _, _, h, _, _, _, _ => by simp at h
  | t :: ts, u :: us, nd, j, j', i, f, f', w, w', h1, h2, h3, k1, k2, k3 => by
    cases j with
    | zero => cases j' with
      | zero => rfl
      | succ j' =>
        exfalso
        simp at h1 h2 k1 k2
        subst h1; subst h2
        have := lent_mem k1 k2 k3
        unfold lent at nd
        rw [if_pos h3, List.nodup_cons] at nd
        exact nd.1 this
    | succ j => cases j' with
      | zero =>
        exfalso
        simp at h1 h2 k1 k2
        subst k1; subst k2
        have := lent_mem h1 h2 h3
        unfold lent at nd
        rw [if_pos k3, List.nodup_cons] at nd
        exact nd.1 this
      | succ j' =>
        have nd' : (lent ts us).Nodup := by
          cases t with
          | val x => exact nd
          | pl i' f'' =>
            unfold lent at nd
            split at nd
            · exact (List.nodup_cons.mp nd).2
            · exact nd
        rw [lent_one nd' (j := j) (j' := j') (by simpa using h1) (by simpa using h2) h3 (by simpa using k1) (by simpa using k2) k3]
theorem slot_setP_ne {ρ : Rho} {i j : Nat} {f : Option String} {w : W} (h : j ≠ i) : slot (setP ρ i f w) j = slot ρ j := by
  have set_ne : ∀ x, slot (ρ.set i x) j = slot ρ j := fun x => by
    unfold slot
    rw [List.getElem?_set]
    simp [Ne.symm h]
  cases f with
  | none => exact set_ne _
  | some f =>
    unfold setP
    cases slot ρ i with
    | none => rfl
    | some y => cases y with
      | ins o C fs => exact set_ne _
      | _ => rfl
theorem back_not : ∀ {ts : List T} {ws os : List W} {ρ : Rho} {i : Nat}, i ∉ lent ts ws → slot (back ρ ts ws os) i = slot ρ i
  | [], _, _, ρ, i, _ => rfl
  | .val _ :: ts, [], _, ρ, i, _ => rfl
  | .val _ :: ts, _ :: ws, [], ρ, i, _ => rfl
  | .val _ :: ts, _ :: ws, _ :: os, ρ, i, h => back_not (ts := ts) (ws := ws) (os := os) h
  | .pl _ _ :: ts, [], _, ρ, i, _ => rfl
  | .pl _ _ :: ts, _ :: ws, [], ρ, i, _ => rfl
  | .pl k f :: ts, w :: ws, o :: os, ρ, i, h => by
    unfold back
    unfold lent at h
    split
    · rename_i c
      rw [if_pos c] at h
      rw [back_not (fun z => h (List.mem_cons_of_mem _ z)), slot_setP_ne (fun z => h (by rw [z]; exact List.mem_cons_self ..))]
    · rename_i c
      rw [if_neg c] at h
      exact back_not h
theorem slot_setP {ρ : Rho} {i : Nat} {f : Option String} {w : W} (hi : i < ρ.length) : slot (setP ρ i f w) i = match f with
    | none => some w
    | some f => match slot ρ i with
      | some (.ins o C fs) => some (.ins o C (putA f w fs))
      | x => x := by
  cases f with
  | none =>
    show slot (ρ.set i _) i = some w
    rw [slot_set hi, if_pos rfl]
  | some f =>
    have key : ∀ x, slot ρ i = x → slot (match x with
      | some (.ins o C fs) => ρ.set i (some (.ins o C (putA f w fs)))
      | _ => ρ) i = match x with
      | some (.ins o C fs) => some (.ins o C (putA f w fs))
      | x => x := fun x e => by
        cases x with
        | none => exact e
        | some y => cases y with
          | ins o C fs => dsimp only; rw [slot_set hi, if_pos rfl]
          | _ => exact e
    exact key _ rfl
theorem setP_congr {ρ ρ' : Rho} {i : Nat} {f : Option String} {w : W} (h : slot ρ i = slot ρ' i) (hl : ρ.length = ρ'.length) (hi : i < ρ.length) : slot (setP ρ i f w) i = slot (setP ρ' i f w) i := by
  rw [slot_setP hi, slot_setP (hl ▸ hi), h]
theorem back_len : ∀ {ts : List T} {ws os : List W} {ρ : Rho}, (back ρ ts ws os).length = ρ.length
  | [], _, _, ρ => rfl
  | .val _ :: ts, [], _, ρ => rfl
  | .val _ :: ts, _ :: ws, [], ρ => rfl
  | .val _ :: ts, _ :: ws, _ :: os, ρ => back_len (ts := ts) (ws := ws) (os := os)
  | .pl _ _ :: ts, [], _, ρ => rfl
  | .pl _ _ :: ts, _ :: ws, [], ρ => rfl
  | .pl k f :: ts, w :: ws, o :: os, ρ => by
    unfold back
    split
    · rw [back_len, setP_len]
    · rw [back_len]
theorem back_in : ∀ {ts : List T} {ws os : List W} {ρ : Rho} {j i : Nat} {f : Option String} {w o : W}, (lent ts ws).Nodup → ts[j]? = some (.pl i f) → ws[j]? = some w → os[j]? = some o → own w = true → i < ρ.length →
    slot (back ρ ts ws os) i = slot (setP ρ i f o) i
  | [], _, _, ρ, j, _, _, _, _, _, h, _, _, _, _ => by simp at h
  | _ :: _, [], _, ρ, j, _, _, _, _, _, _, h, _, _, _ => by simp at h
  | _ :: _, _ :: _, [], ρ, j, _, _, _, _, _, _, _, h, _, _ => by simp at h
  | t :: ts, u :: us, p :: ps, ρ, 0, i, f, w, o, nd, h1, h2, h3, ow, hi => by
    simp at h1 h2 h3
    subst h1; subst h2; subst h3
    unfold lent at nd
    rw [if_pos ow, List.nodup_cons] at nd
    unfold back
    rw [if_pos ow, back_not nd.1]
  | t :: ts, u :: us, p :: ps, ρ, j + 1, i, f, w, o, nd, h1, h2, h3, ow, hi => by
    have g1 : ts[j]? = some (.pl i f) := by simpa using h1
    have g2 : us[j]? = some w := by simpa using h2
    have g3 : ps[j]? = some o := by simpa using h3
    cases t with
    | val x => exact back_in (ts := ts) nd g1 g2 g3 ow hi
    | pl k f' =>
      unfold lent at nd
      unfold back
      by_cases c : own u = true
      · rw [if_pos c] at nd ⊢
        rw [List.nodup_cons] at nd
        have ne : i ≠ k := fun z => nd.1 (z ▸ lent_mem g1 g2 ow)
        rw [back_in nd.2 g1 g2 g3 ow (by rw [setP_len]; exact hi)]
        refine setP_congr (slot_setP_ne ne) setP_len ?_
        rw [setP_len]; exact hi
      · rw [if_neg c] at nd ⊢
        exact back_in nd g1 g2 g3 ow hi
end Rf
namespace Rf
open PySem PySem.Spec PyProof.Rows L2
/-- what stands in the slots of the parameters behind a call -/
def outR : List W → List W → Rho
  | w :: ws, o :: os => (if own w then some o else none) :: outR ws os
  | _ :: ws, [] => none :: outR ws []
  | [], _ => []
theorem outR_len : ∀ {ws os : List W}, (outR ws os).length = ws.length
  | [], _ => rfl
  | _ :: ws, [] => congrArg (· + 1) (outR_len (ws := ws) (os := []))
  | _ :: ws, _ :: os => congrArg (· + 1) (outR_len (ws := ws) (os := os))
theorem outR_get : ∀ {ws os : List W} {j : Nat} {w o : W}, ws[j]? = some w → os[j]? = some o → slot (outR ws os) j = if own w then some o else none
  | [], _, j, w, o, h, _ => by simp at h
  | _ :: ws, [], j, w, o, _, h => by simp at h
  | u :: ws, p :: os, 0, w, o, h, h' => by
    simp at h h'
    subst h; subst h'
    rfl
  | u :: ws, p :: os, j + 1, w, o, h, h' => outR_get (ws := ws) (os := os) (j := j) (by simpa using h) (by simpa using h')
/-- j, f is the mark of a for the callee -/
def Lk (g : Gh) (ts : List T) (ws : List W) (ms : List Mk) (j : Nat) (f : Option String) (a : Addr) : Prop :=
  ∃ t w m, ts[j]? = some t ∧ ws[j]? = some w ∧ ms[j]? = some m ∧ own w = true ∧ match t with
    | .val _ => m a = some f
    | .pl i none => g a = some (i, f)
    | .pl i (some f0) => f = none ∧ g a = some (i, some f0)
open Classical in
noncomputable def lend (g : Gh) (ts : List T) (ws : List W) (ms : List Mk) : Gh := fun a =>
  if h : ∃ p : Nat × Option String, Lk g ts ws ms p.1 p.2 a then some (Classical.choose h) else none
section
variable {K : PySem.W.Frag} {σ : L2.St} {F0 H0 F H F' H' : Hp} {g0 g g' : Gh} {ρ0 ρ : Rho} {ts : List T} {vs : List V} {ms : List Mk} {ws os : List W}
theorem Lk.uniq (l : TmL K σ H0 F H g ρ ts vs ms) (nd : (lent ts ws).Nodup) {j j' : Nat} {f f' : Option String} {a : Addr} (h : Lk g ts ws ms j f a) (h' : Lk g ts ws ms j' f' a) : j = j' ∧ f = f' := by
  obtain ⟨t, w, m, h1, h2, h3, h4, h5⟩ := h
  obtain ⟨t', w', m', k1, k2, k3, k4, k5⟩ := h'
  obtain ⟨_, _, ix⟩ := l.ix
  obtain ⟨v, mm, e1, e2, e3⟩ := ix j t h1
  obtain ⟨v', mm', e1', e2', e3'⟩ := ix j' t' k1
  rw [h3] at e2; cases e2
  rw [k3] at e2'; cases e2'
  have gval : ∀ {i f0}, (∃ q, m a = some q) → Mks H0 F H g m → g a = some (i, f0) → False := fun ⟨q, hq⟩ hm z => by
    have := (hm a q hq).2.1
    rw [z] at this; cases this
  have gval' : ∀ {i f0}, (∃ q, m' a = some q) → Mks H0 F H g m' → g a = some (i, f0) → False := fun ⟨q, hq⟩ hm z => by
    have := (hm a q hq).2.1
    rw [z] at this; cases this
  cases t with
  | val x =>
    have h5' : m a = some f := h5
    cases t' with
    | val x' =>
      have k5' : m' a = some f' := k5
      by_cases c : j = j'
      · subst c
        rw [h3] at k3; cases k3
        rw [h5'] at k5'; cases k5'
        exact ⟨rfl, rfl⟩
      · have := l.dj j j' m m' h3 k3 c a (by rw [h5']; exact nofun)
        rw [k5'] at this; cases this
    | pl i' f0 => cases f0 with
      | none => exact (gval ⟨f, h5'⟩ e3.1 k5).elim
      | some f0 => exact (gval ⟨f, h5'⟩ e3.1 k5.2).elim
  | pl i f0 =>
    cases t' with
    | val x' =>
      have k5' : m' a = some f' := k5
      cases f0 with
      | none => exact (gval' ⟨f', k5'⟩ e3'.1 h5).elim
      | some f0 => exact (gval' ⟨f', k5'⟩ e3'.1 h5.2).elim
    | pl i' f0' =>
      have same : i = i' → j = j' := fun z => by subst z; exact lent_one nd h1 h2 h4 k1 k2 k4
      cases f0 with
      | none =>
        have h5' : g a = some (i, f) := h5
        cases f0' with
        | none =>
          have k5' : g a = some (i', f') := k5
          rw [h5'] at k5'; cases k5'
          exact ⟨same rfl, rfl⟩
        | some y =>
          obtain ⟨rfl, k6⟩ := k5
          rw [h5'] at k6; cases k6
          have := same rfl
          subst this
          rw [h1] at k1; cases k1
      | some y =>
        obtain ⟨rfl, h6⟩ := h5
        cases f0' with
        | none =>
          have k5' : g a = some (i', f') := k5
          rw [h6] at k5'; cases k5'
          have := same rfl
          subst this
          rw [h1] at k1; cases k1
        | some y' =>
          obtain ⟨rfl, k6⟩ := k5
          rw [h6] at k6; cases k6
          exact ⟨same rfl, rfl⟩
theorem lend_of (l : TmL K σ H0 F H g ρ ts vs ms) (nd : (lent ts ws).Nodup) {j : Nat} {f : Option String} {a : Addr} (h : Lk g ts ws ms j f a) : lend g ts ws ms a = some (j, f) := by
  unfold lend
  have hh : ∃ p : Nat × Option String, Lk g ts ws ms p.1 p.2 a := ⟨(j, f), h⟩
  rw [dif_pos hh]
  obtain ⟨h1, h2⟩ := Lk.uniq l nd (Classical.choose_spec hh) h
  exact congrArg some (Prod.ext h1 h2)
theorem of_lend {j : Nat} {f : Option String} {a : Addr} (h : lend g ts ws ms a = some (j, f)) : Lk g ts ws ms j f a := by
  unfold lend at h
  split at h
  · rename_i hh
    have := Classical.choose_spec hh
    rw [Option.some.inj h] at this
    exact this
  · cases h
/-- a lent thing: of a slot, or made since -/
theorem Lk.who (l : TmL K σ H0 F H g ρ ts vs ms) {j : Nat} {f : Option String} {a : Addr} (h : Lk g ts ws ms j f a) : (g a ≠ none ∨ H0 a = none) ∧ F a = none ∨ g a ≠ none := by
  obtain ⟨t, w, m, h1, h2, h3, h4, h5⟩ := h
  obtain ⟨v, mm, e1, e2, e3⟩ := l.ix.2.2 j t h1
  rw [h3] at e2; cases e2
  cases t with
  | val x =>
    obtain ⟨k1, k2, k3, k4⟩ := e3.1 a f h5
    exact .inl ⟨.inr k4, k1⟩
  | pl i f0 => cases f0 with
    | none => exact .inr (by rw [show g a = some (i, f) from h5]; exact nofun)
    | some y => exact .inr (by rw [h5.2]; exact nofun)
theorem slot_map {ws : List W} {i : Nat} {x : W} (h : slot (ws.map some) i = some x) : ws[i]? = some x := by
  unfold slot at h
  rw [List.getElem?_map] at h
  cases e : ws[i]? with
  | none => rw [e] at h; cases h
  | some y => rw [e] at h; cases h; rfl
/-- the callee's state at its entry -/
theorem lend_rl (r : Rl K F H g ρ σ) (l : TmL K σ H0 F H g ρ ts vs ms) (e : drfs ρ ts = some ws) (nd : (lent ts ws).Nodup) : Rl K F H (lend g ts ws ms) (ws.map some) (vs.map some) := by
  obtain ⟨le, de⟩ := drfs_get e
  obtain ⟨lv, lm, ix⟩ := l.ix
  refine ⟨r.sub, fun a q h => ?_, fun a q h => ?_, by simp [le, lv], fun j x h => ?_⟩
  · obtain ⟨j, f⟩ := q
    rcases Lk.who l (of_lend h) with z | z
    · exact z.2
    · cases y : g a with
      | none => exact absurd y z
      | some q => exact r.gF a q y
  · obtain ⟨j, f⟩ := q
    obtain ⟨t, w, m, h1, h2, h3, h4, h5⟩ := of_lend h
    obtain ⟨v, mm, e1, e2, e3⟩ := ix j t h1
    rw [h3] at e2; cases e2
    cases t with
    | val x => exact (e3.1 a f h5).2.2.1
    | pl i f0 => cases f0 with
      | none => exact r.gH a _ h5
      | some y => exact r.gH a _ h5.2
  · have hw := slot_map h
    obtain ⟨hj, _⟩ := List.getElem?_eq_some_iff.mp hw
    have ht : ts[j]? = some (ts[j]'(le ▸ hj)) := List.getElem?_eq_getElem _
    obtain ⟨w, hw', hd⟩ := de j _ ht
    rw [hw] at hw'; cases hw'
    obtain ⟨v, m, hv, hm, hx⟩ := ix j _ ht
    refine ⟨v, by rw [List.getElem?_map, hv]; rfl, ?_⟩
    have rb : Rb K F H x v := by
      generalize ts[j]'(le ▸ hj) = t at *
      cases t with
      | val w' => exact Tm.drf r (t := .val w') (H0 := H0) ⟨m, hx.1, hx.2⟩ hd
      | pl i f => exact Tm.drf r hx.2 hd
    cases o : own x with
    | false => obtain ⟨P, hP⟩ := rb; exact Ow.of (hP.sh o)
    | true =>
      have go : ∀ (P : Option String → Addr → Prop), Ow K F H P x v → (∀ f a, P f a → Lk g ts ws ms j f a) → Ow K F H (fun f a => lend g ts ws ms a = some (j, f)) x v := fun P hP k =>
        hP.mono (Sub.refl _) (fun _ _ _ => rfl) fun f a z => lend_of l nd (k f a z)
      generalize ht' : ts[j]'(le ▸ hj) = t at *
      cases t with
      | val w' =>
        cases hd
        exact go _ hx.2 fun f a z => ⟨_, _, m, ht, hw, hm, o, z⟩
      | pl i f => cases f with
        | none =>
          obtain ⟨u, hu, hO⟩ := r.sl i x hd
          have hv2 : σ[i]? = some (some v) := hx.2
          rw [hv2] at hu; cases hu
          exact go _ hO fun f a z => ⟨_, _, m, ht, hw, hm, o, z⟩
        | some f0 =>
          obtain ⟨C, fs, b, dx, vf, u, s1, s2, s3, s4, s5, s6, s7, s8, s9⟩ := r.field hd (.inl o)
          have hv2 : VP σ H i f0 = some v := hx.2.1
          rw [s9] at hv2; cases hv2
          exact go _ s8.ow fun f a z => ⟨_, _, m, ht, hw, hm, o, z⟩
theorem fits_len : ∀ {ts : List T} {ws os : List W}, fits ts ws os = true → os.length = ts.length ∧ ∀ (j i : Nat) (f : Option String) (w o : W), ts[j]? = some (.pl i f) → ws[j]? = some w → os[j]? = some o → own w = true → isIn w = isIn o ∧ isLs w = isLs o
  | [], [], [], _ => ⟨rfl, fun j i f w o h => by simp at h⟩
  | [], [], _ :: _, h => by cases h
  | [], _ :: _, _, h => by cases h
  | .val _ :: ts, [], _, h => by cases h
  | .val _ :: ts, _ :: _, [], h => by cases h
  | .pl _ _ :: ts, [], _, h => by cases h
  | .pl _ _ :: ts, _ :: _, [], h => by cases h
  | .val _ :: ts, w :: ws, o :: os, h => by
    obtain ⟨h1, h2⟩ := fits_len (ts := ts) (ws := ws) (os := os) h
    refine ⟨by simp [h1], fun j i f u p a b c => ?_⟩
    cases j with
    | zero => simp at a
    | succ j => exact h2 j i f u p (by simpa using a) (by simpa using b) (by simpa using c)
  | .pl k f0 :: ts, w :: ws, o :: os, h => by
    have h' : ((!own w || (isIn w == isIn o && isLs w == isLs o)) && fits ts ws os) = true := h
    rw [Bool.and_eq_true] at h'
    obtain ⟨h1, h2⟩ := fits_len (ts := ts) (ws := ws) (os := os) h'.2
    refine ⟨by simp [h1], fun j i f u p a b c => ?_⟩
    cases j with
    | zero =>
      simp at a b c
      obtain ⟨rfl, rfl⟩ := a
      subst b; subst c
      intro ow
      have := h'.1
      rw [ow] at this
      simpa using this
    | succ j => exact h2 j i f u p (by simpa using a) (by simpa using b) (by simpa using c)
open Classical in
/-- what the caller's slots own behind the call -/
noncomputable def regain (g gc g' : Gh) (ts : List T) : Gh := fun a => match g' a with
  | some (j, f) => match ts[j]? with
    | some (.pl i none) => some (i, f)
    | some (.pl i (some f0)) => if f = none then some (i, some f0) else none
    | _ => none
  | none => if gc a = none then g a else none
theorem regain_old {g gc g' : Gh} {ts : List T} {a : Addr} (h : g' a = none) (h' : gc a = none) : regain g gc g' ts a = g a := by
  unfold regain
  rw [h]
  dsimp only
  rw [if_pos h']
theorem regain_none {g gc g' : Gh} {ts : List T} {a : Addr} {i : Nat} {j : Nat} {f : Option String} (h : g' a = some (j, f)) (ht : ts[j]? = some (.pl i none)) : regain g gc g' ts a = some (i, f) := by
  unfold regain
  rw [h]
  dsimp only
  rw [ht]
theorem regain_fld {g gc g' : Gh} {ts : List T} {a : Addr} {i : Nat} {j : Nat} {f0 : String} (h : g' a = some (j, none)) (ht : ts[j]? = some (.pl i (some f0))) : regain g gc g' ts a = some (i, some f0) := by
  unfold regain
  rw [h]
  dsimp only
  rw [ht]
  dsimp only
  rw [if_pos rfl]
theorem of_regain {g gc g' : Gh} {ts : List T} {a : Addr} {q : Nat × Option String} (h : regain g gc g' ts a = some q) :
    (g' a = none ∧ gc a = none ∧ g a = some q) ∨ ∃ j f, g' a = some (j, f) ∧ ((∃ i, ts[j]? = some (.pl i none) ∧ q = (i, f)) ∨ ∃ i f0, ts[j]? = some (.pl i (some f0)) ∧ f = none ∧ q = (i, some f0)) := by
  unfold regain at h
  cases e : g' a with
  | none =>
    rw [e] at h
    dsimp only at h
    split at h
    · rename_i c; exact .inl ⟨rfl, c, h⟩
    · cases h
  | some p =>
    obtain ⟨j, f⟩ := p
    rw [e] at h
    dsimp only at h
    refine .inr ⟨j, f, rfl, ?_⟩
    split at h
    · rename_i i hi; exact .inl ⟨i, hi, (Option.some.inj h).symm⟩
    · rename_i i f0 hi
      split at h
      · rename_i c; exact .inr ⟨i, f0, hi, c, (Option.some.inj h).symm⟩
      · cases h
    · cases h
/-- THE CALLER'S STATE BEHIND A CALL -/
theorem regain_ok (p : Ps K σ F0 H0 g0 ρ0 F H g ρ) (l : TmL K σ H0 F H g ρ ts vs ms) (e : drfs ρ ts = some ws) (nd : (lent ts ws).Nodup) (ft : fits ts ws os = true)
    (le' : Le F H (lend g ts ws ms) F' H' g') (rl' : Rl K F' H' g' (outR ws os) (vs.map some)) (ls' : Ls All (ws.map some) (vs.map some) H (outR ws os) (vs.map some) H') :
    Ps K σ F0 H0 g0 ρ0 F' H' (regain g (lend g ts ws ms) g' ts) (back ρ ts ws os) ∧ (∀ a, H0 a ≠ none → g0 a = none → lend g ts ws ms a = none) := by
  obtain ⟨lw, de⟩ := drfs_get e
  obtain ⟨lv, lm, ix⟩ := l.ix
  obtain ⟨lo, kd⟩ := fits_len ft
  have who : ∀ {j : Nat} {f : Option String} {a : Addr}, lend g ts ws ms a = some (j, f) → (g0 a ≠ none ∨ H0 a = none) := fun {j f a} h => by
    have ga : g a ≠ none → g0 a ≠ none ∨ H0 a = none := fun z => by
      cases y : g a with
      | none => exact absurd y z
      | some q => rcases p.le.gn a q y with u | u
                  · exact .inl (by rw [u]; exact nofun)
                  · exact .inr u
    rcases Lk.who l (of_lend h) with z | z
    · rcases z.1 with z | z
      · exact ga z
      · exact .inr z
    · exact ga z
  have lfree : ∀ a, H0 a ≠ none → g0 a = none → lend g ts ws ms a = none := fun a h1 h2 => by
    cases y : lend g ts ws ms a with
    | none => rfl
    | some q => rcases who (j := q.1) (f := q.2) y with u | u
                · exact absurd h2 u
                · exact absurd u h1
  -- what belongs to a slot that is not lent
  have keepNot : ∀ {i : Nat} {f : Option String} {a : Addr}, g a = some (i, f) → (∀ j, lend g ts ws ms a ≠ some j) → H' a = H a ∧ regain g (lend g ts ws ms) g' ts a = some (i, f) := fun {i f a} ga hn => by
    have ln : lend g ts ws ms a = none := by
      cases y : lend g ts ws ms a with
      | none => rfl
      | some q => exact absurd y (hn q)
    have hd := p.rl.gH a _ ga
    cases y : H a with
    | none => exact absurd y hd
    | some o => exact ⟨le'.fr a o y ln, (regain_old (le'.gnone ln hd) ln).trans ga⟩
  have notIn : ∀ {i : Nat} {f : Option String} {a : Addr}, i ∉ lent ts ws → g a = some (i, f) → ∀ j, lend g ts ws ms a ≠ some j := fun {i f a} hi ga q hq => by
    obtain ⟨t, w, m, h1, h2, h3, h4, h5⟩ := of_lend (j := q.1) (f := q.2) hq
    obtain ⟨v, mm, e1, e2, e3⟩ := ix q.1 t h1
    rw [h3] at e2; cases e2
    cases t with
    | val x => have := (e3.1 a q.2 h5).2.1; rw [ga] at this; cases this
    | pl i' f' =>
      have : i' = i := by
        cases f' with
        | none => have h5' : g a = some (i', q.2) := h5; rw [ga] at h5'; cases h5'; rfl
        | some y => have h5' := h5.2; rw [ga] at h5'; cases h5'; rfl
      subst this
      exact hi (lent_mem h1 h2 h4)
  -- the instance whose field f0 is lent, and its other fields
  have notFld : ∀ {i : Nat} {f0 : String} {j : Nat} {f : Option String} {a : Addr} {w : W}, ts[j]? = some (.pl i (some f0)) → ws[j]? = some w → own w = true → g a = some (i, f) → f ≠ some f0 → ∀ q, lend g ts ws ms a ≠ some q := fun {i f0 j f a w} hj hw how ga hf q hq => by
    obtain ⟨t, w', m, h1, h2, h3, h4, h5⟩ := of_lend (j := q.1) (f := q.2) hq
    obtain ⟨v, mm, e1, e2, e3⟩ := ix q.1 t h1
    rw [h3] at e2; cases e2
    cases t with
    | val x => have := (e3.1 a q.2 h5).2.1; rw [ga] at this; cases this
    | pl i' f' =>
      have hi : i' = i := by
        cases f' with
        | none => have h5' : g a = some (i', q.2) := h5; rw [ga] at h5'; cases h5'; rfl
        | some y => have h5' := h5.2; rw [ga] at h5'; cases h5'; rfl
      subst hi
      have := lent_one nd h1 h2 h4 hj hw how
      rw [this, hj] at h1
      cases h1
      have h5' := h5.2
      rw [ga] at h5'
      cases h5'
      exact hf rfl
  have wAt : ∀ {i : Nat}, i ∈ lent ts ws → ∃ (j : Nat) (f : Option String) (w : W), ts[j]? = some (.pl i f) ∧ ws[j]? = some w ∧ own w = true := by
    have go : ∀ (ts : List T) (ws : List W) (i : Nat), i ∈ lent ts ws → ∃ (j : Nat) (f : Option String) (w : W), ts[j]? = some (.pl i f) ∧ ws[j]? = some w ∧ own w = true := by
      intro ts
      induction ts with
      | nil => intro ws i h; simp [lent] at h
      | cons t ts ih =>
        intro ws i h
        cases ws with
        | nil => cases t <;> simp [lent] at h
        | cons w ws =>
          cases t with
          | val x =>
            obtain ⟨j, f, u, h1, h2, h3⟩ := ih ws i h
            exact ⟨j + 1, f, u, by simpa using h1, by simpa using h2, h3⟩
          | pl k f0 =>
            unfold lent at h
            split at h
            · rename_i c
              rcases List.mem_cons.mp h with rfl | h
              · exact ⟨0, f0, w, rfl, rfl, c⟩
              · obtain ⟨j, f, u, h1, h2, h3⟩ := ih ws i h
                exact ⟨j + 1, f, u, by simpa using h1, by simpa using h2, h3⟩
            · obtain ⟨j, f, u, h1, h2, h3⟩ := ih ws i h
              exact ⟨j + 1, f, u, by simpa using h1, by simpa using h2, h3⟩
    exact fun {i} => go ts ws i
  have oAt : ∀ {j : Nat} {t : T}, ts[j]? = some t → ∃ o, os[j]? = some o := fun {j t} h => by
    obtain ⟨hj, _⟩ := List.getElem?_eq_some_iff.mp h
    exact ⟨os[j]'(by omega), List.getElem?_eq_getElem _⟩
  refine ⟨⟨?_, ?_, ?_⟩, lfree⟩
  · -- Le
    refine ⟨p.le.fx.trans le'.fx, fun b o h1 h2 => ?_, fun b h => le'.dom b (p.le.dom b h), fun b q h => ?_, fun b h => ?_⟩
    · exact le'.fr b o (p.le.fr b o h1 h2) (lfree b (by rw [h1]; exact nofun) h2)
    · rcases of_regain h with ⟨_, _, h3⟩ | ⟨j, f, h1, h2⟩
      · exact p.le.gn b q h3
      · rcases le'.gn b _ h1 with z | z
        · obtain ⟨t, w, m, k1, k2, k3, k4, k5⟩ := of_lend z
          rcases h2 with ⟨i, h2, rfl⟩ | ⟨i, f0, h2, rfl, rfl⟩
          · rw [k1] at h2; cases h2
            exact p.le.gn b _ k5
          · rw [k1] at h2; cases h2
            exact p.le.gn b _ k5.2
        · exact .inr (p.le.hnone z)
    · rcases le'.fn b h with z | z | z
      · exact p.le.fn b z
      · cases y : lend g ts ws ms b with
        | none => exact absurd y z
        | some q => exact .inr (who (j := q.1) (f := q.2) y)
      · exact .inr (.inr (p.le.hnone z))
  · -- Rl
    refine ⟨rl'.sub, fun a q h => ?_, fun a q h => ?_, back_len.trans p.rl.len, fun i x h => ?_⟩
    · rcases of_regain h with ⟨h1, h2, h3⟩ | ⟨j, f, h1, h2⟩
      · cases y : F' a with
        | none => rfl
        | some o => rcases le'.fn a (by rw [y]; exact nofun) with z | z | z
                    · exact absurd (p.rl.gF a q h3) z
                    · exact absurd h2 z
                    · exact absurd z (p.rl.gH a q h3)
      · exact rl'.gF a _ h1
    · rcases of_regain h with ⟨h1, h2, h3⟩ | ⟨j, f, h1, h2⟩
      · exact le'.dom a (p.rl.gH a q h3)
      · exact rl'.gH a _ h1
    · by_cases hi : i ∈ lent ts ws
      · obtain ⟨j, f, w, h1, h2, h3⟩ := wAt hi
        obtain ⟨o, h4⟩ := oAt h1
        obtain ⟨w', hw', hd⟩ := de j _ h1
        rw [h2] at hw'; cases hw'
        obtain ⟨v, m, hv, hm, hx⟩ := ix j _ h1
        have hlen : i < ρ.length := by
          cases f with
          | none => exact slot_lt hd
          | some f0 =>
            obtain ⟨C, fs, _, _, _, _, s1, _⟩ := p.rl.field hd (.inl h3)
            exact slot_lt s1
        rw [back_in nd h1 h2 h4 h3 hlen, slot_setP hlen] at h
        obtain ⟨u, hu, hO⟩ := rl'.sl j o (by rw [outR_get h2 h4, if_pos h3])
        rw [List.getElem?_map, hv] at hu
        cases hu
        cases f with
        | none =>
          cases h
          exact ⟨v, hx.2, hO.mono (Sub.refl _) (fun _ _ _ => rfl) fun f a z => regain_none z h1⟩
        | some f0 =>
          obtain ⟨C, fs, b, dx, vf, u, s1, s2, s3, s4, s5, s6, s7, s8, s9⟩ := p.rl.field hd (.inl h3)
          rw [s1] at h
          cases h
          have hv2 : VP σ H i f0 = some v := hx.2.1
          rw [s9] at hv2; cases hv2
          obtain ⟨kb1, kb2⟩ := keepNot s5 (notFld h1 h2 h3 s5 nofun)
          refine ⟨.ref b, s3, b, dx, vf, rfl, kb1.trans s4, kb2, ?_, nodup_putA s6.2⟩
          have key : OwFs K F' H' (fun p a => regain g (lend g ts ws ms) g' ts a = some (i, p)) (putA f0 o fs) (putF (nm f0) v vf) := by
            refine s6.1.put s6.2 ?_ fun f' w0 v0 hf hz => ?_
            · have hin : isIn o = false := by
                rw [← (kd j i _ w o h1 h2 h4 h3).1]
                cases w with
                | ins _ _ _ => cases s8
                | _ => rfl
              cases o with
              | lst o' xs => cases o' with
                | true => obtain ⟨a2, vs, z, q1, q2, q3⟩ := hO; exact ⟨a2, vs, z, q1, regain_fld q2 h1, q3⟩
                | false => exact OwF.of (w := .lst false xs) hO
              | dic o' xs => cases o' with
                | true => obtain ⟨a2, vs, z, q1, q2, q3⟩ := hO; exact ⟨a2, vs, z, q1, regain_fld q2 h1, q3⟩
                | false => exact OwF.of (w := .dic false xs) hO
              | ins _ _ _ => cases hin
              | non => exact OwF.of (w := .non) hO
              | bl b => exact OwF.of (w := .bl b) hO
              | int i => exact OwF.of (w := .int i) hO
              | str x => exact OwF.of (w := .str x) hO
              | tup xs => exact OwF.of (w := .tup xs) hO
              | exc C fs => exact OwF.of (w := .exc C fs) hO
              | fn x => exact OwF.of (w := .fn x) hO
              | scr ns => exact OwF.of (w := .scr ns) hO
            · refine hz.mono le'.fx (fun a hb => ?_) fun a hb => ?_
              · exact (keepNot hb (notFld h1 h2 h3 hb fun z => hf (Option.some.inj z))).1
              · exact (keepNot hb (notFld h1 h2 h3 hb fun z => hf (Option.some.inj z))).2
          rw [putF_same _ _ _ s7] at key
          exact key
      · rw [back_not hi] at h
        obtain ⟨u, hu, hO⟩ := p.rl.sl i x h
        exact ⟨u, hu, hO.mono le'.fx (fun f a z => (keepNot z (notIn hi z)).1) fun f a z => (keepNot z (notIn hi z)).2⟩
  · -- the fields
    refine p.ls.trans fun i f1 w1 _ ex lx => ?_
    obtain ⟨C, fs, b, dx, vf, u, s1, s2, s3, s4, s5, s6, s7, s8, s9⟩ : ∃ C fs b dx vf u, slot ρ i = some (.ins true C fs) ∧ fs.lookup f1 = some w1 ∧ σ[i]? = some (some (.ref b)) ∧ H b = some (.ins (cad K C) dx vf) ∧ g b = some (i, none) ∧ (OwFs K F H (fun f a => g a = some (i, f)) fs vf ∧ (fs.map (·.1)).Nodup) ∧
        vf.lookup (nm f1) = some u ∧ OwF K F H (fun f a => g a = some (i, f)) f1 w1 u ∧ VP σ H i f1 = some u := by
      refine p.rl.field ex (.inr ?_)
      have ex' : (slot ρ i).bind (fun w => getF w f1) = some w1 := ex
      cases s : slot ρ i with
      | none => rw [s] at ex'; cases ex'
      | some y => cases y with
        | ins o C fs =>
          obtain ⟨_, _, hO⟩ := p.rl.sl i _ s
          cases o with
          | true => exact ⟨C, fs, rfl⟩
          | false => cases hO
        | _ => rw [s] at ex'; cases ex'
    have vpOf : H' b = H b → VP σ H' i f1 = VP σ H i f1 := fun z => by
      unfold VP
      rw [s3]
      dsimp only
      rw [z]
    by_cases hi : i ∈ lent ts ws
    · obtain ⟨j, f, w, h1, h2, h3⟩ := wAt hi
      obtain ⟨o, h4⟩ := oAt h1
      obtain ⟨w', hw', hd⟩ := de j _ h1
      rw [h2] at hw'; cases hw'
      obtain ⟨v, m, hv, hm, hx⟩ := ix j _ h1
      have hlen : i < ρ.length := slot_lt s1
      have hb : slot (back ρ ts ws os) i = _ := (back_in nd h1 h2 h4 h3 hlen).trans (slot_setP hlen)
      cases f with
      | none =>
        have hd' : slot ρ i = some w := hd
        rw [s1] at hd'; cases hd'
        have sj : slot ((ws.map some)) j = some (.ins true C fs) := by
          unfold slot
          rw [List.getElem?_map, h2]
          rfl
        obtain ⟨⟨w2, e2, l2⟩, e3⟩ := ls' j f1 w1 trivial (by show (slot (ws.map some) j).bind (fun w => getF w f1) = some w1; rw [sj]; exact s2) lx
        have so : slot (outR ws os) j = some o := by rw [outR_get h2 h4, if_pos h3]
        have hv2 : σ[i]? = some (some v) := hx.2
        have vpj : ∀ Hx, VP (vs.map some) Hx j f1 = VP σ Hx i f1 := fun Hx => by
          unfold VP
          rw [List.getElem?_map, hv, hv2]
          rfl
        refine ⟨⟨w2, ?_, l2⟩, by rw [← vpj, e3, vpj]⟩
        show (slot (back ρ ts ws os) i).bind (fun w => getF w f1) = some w2
        rw [hb]
        have e2' : (slot (outR ws os) j).bind (fun w => getF w f1) = some w2 := e2
        rw [so] at e2'
        exact e2'
      | some f0 =>
        refine ⟨?_, vpOf (keepNot s5 (notFld h1 h2 h3 s5 nofun)).1⟩
        show ∃ w', (slot (back ρ ts ws os) i).bind (fun w => getF w f1) = some w' ∧ isLD w' = true
        rw [hb, s1]
        show ∃ w', (putA f0 o fs).lookup f1 = some w' ∧ isLD w' = true
        rw [lookup_putA]
        by_cases c : f1 = f0
        · subst c
          have hd' : getP ρ i (some f1) = some w := hd
          rw [ex] at hd'
          cases hd'
          exact ⟨o, if_pos rfl, by show isLs o = true; rw [← (kd j i _ w1 o h1 h2 h4 h3).2]; exact lx⟩
        · exact ⟨w1, by rw [if_neg c]; exact s2, lx⟩
    · refine ⟨⟨w1, ?_, lx⟩, vpOf (keepNot s5 (notIn hi s5)).1⟩
      show (slot (back ρ ts ws os) i).bind (fun w => getF w f1) = some w1
      rw [back_not hi]
      exact ex
end
end Rf
namespace Rf
open PySem PySem.Spec PyProof.Rows L2
/-- THE PROMISE of a def whose pure run is Fn -/
def spW (K : PySem.W.Frag) (Fn : Fn) : Sp := fun vs H Q E => ∃ F g ws r os, Rl K F H g (ws.map some) (vs.map some) ∧ Fn ws = some (r, os) ∧ match r with
  | .ok w => ∀ v F' H' g' m, Le F H g F' H' g' → Rl K F' H' g' (outR ws os) (vs.map some) → Ls All (ws.map some) (vs.map some) H (outR ws os) (vs.map some) H' →
      Mks H F' H' g' m → Ow K F' H' (fun f a => m a = some f) w v → Q v H'
  | .ex w => ∀ cls d F' H' g', Le F H g F' H' g' → Rl K F' H' g' (outR ws os) (vs.map some) → Ls All (ws.map some) (vs.map some) H (outR ws os) (vs.map some) H' →
      Xv K F' w cls d → E cls d H'
section
variable {K : PySem.W.Frag} {Z : WX} {σ : L2.St} {H : Hp} {Q : VK}
theorem lend_none {g : Gh} {F1 H1 H0 : Hp} {ρ1 : Rho} {ts : List T} {vs : List V} {ms : List Mk} {ws : List W} (r : Rl K F1 H1 g ρ1 σ) (l : TmL K σ H0 F1 H1 g ρ1 ts vs ms) (e : drfs ρ1 ts = some ws) (nd : (lent ts ws).Nodup) {a : Addr} (h : H1 a = none) :
    lend g ts ws ms a = none ∧ g a = none := by
  refine ⟨?_, ?_⟩
  · cases y : lend g ts ws ms a with
    | none => rfl
    | some q => exact absurd h ((lend_rl r l e nd).gH a q y)
  · cases y : g a with
    | none => rfl
    | some q => exact absurd h (r.gH a q y)
/-- a callee's answer in the caller's state -/
theorem ret_tm {F F1 F' H1 H' : Hp} {g g1 g' : Gh} {ρ1 ρ' : Rho} {ts : List T} {vs : List V} {ms : List Mk} {ws : List W} {m : Mk} {w : W} {v : V} {ρ : Rho} (p1 : Ps K σ F H g ρ F1 H1 g1 ρ1) (l : TmL K σ H F1 H1 g1 ρ1 ts vs ms) (e : drfs ρ1 ts = some ws) (nd : (lent ts ws).Nodup)
    (hm : Mks H1 F' H' g' m) (hO : Ow K F' H' (fun f a => m a = some f) w v) : Tm K σ H F' H' (regain g1 (lend g1 ts ws ms) g' ts) ρ' (.val w) v := by
  refine ⟨m, fun a f h => ?_, hO⟩
  obtain ⟨k1, k2, k3, k4⟩ := hm a f h
  obtain ⟨l1, l2⟩ := lend_none p1.rl l e nd k4
  exact ⟨k1, (regain_old k2 l1).trans l2, k3, p1.le.hnone k4⟩
theorem callF_rd {Fn : Fn} {F F1 H1 : Hp} {g g1 : Gh} {ρ ρ1 : Rho} {ts : List T} {vs : List V} {ms : List Mk} (p1 : Ps K σ F H g ρ F1 H1 g1 ρ1) (l1 : TmL K σ H F1 H1 g1 ρ1 ts vs ms)
    (c : Ct K Z σ F H g ρ (callF Fn ts) ρ1 fun t ρ' => ∀ v F' H' g', Ps K σ F H g ρ F' H' g' ρ' → Tm K σ H F' H' g' ρ' t v → Q v H') : spW K Fn vs H1 Q (WE Z σ) := by
  unfold callF at c
  obtain ⟨ws, e, r0, ρ', e2, z⟩ := c.rds
  dsimp only at e2
  split at e2
  · rename_i nd
    have rlc := lend_rl p1.rl l1 e nd
    cases eF : Fn ws with
    | none => rw [eF] at e2; cases e2
    | some q =>
      obtain ⟨r, os⟩ := q
      rw [eF] at e2
      dsimp only at e2
      split at e2
      · rename_i ft
        refine ⟨F1, _, ws, r, os, rlc, eF, ?_⟩
        cases r with
        | ok w =>
          cases e2
          intro v F' H' g' m le' rl' ls' hm hO
          obtain ⟨p2, _⟩ := regain_ok p1 l1 e nd ft le' rl' ls'
          exact z v F' H' _ p2 (ret_tm p1 l1 e nd hm hO)
        | ex w =>
          cases e2
          intro cls d F' H' g' le' rl' ls' hx
          obtain ⟨p2, _⟩ := regain_ok p1 l1 e nd ft le' rl' ls'
          exact z cls d F' H' _ p2 hx
      · cases e2
  · cases e2
theorem call_rd {Fn : Fn} {es : List Ex} (h : rE K Z (ev (.call Fn es)) σ H Q) : tCallS (spW K Fn) (WE Z) (rAt K Z (evT es)) σ H Q := by
  obtain ⟨F, g, ρ, rl, c⟩ := h
  unfold ev at c
  exact ⟨F, g, ρ, rl, c.bnd.imp fun ts ρ1 c1 vs ms F1 H1 g1 p1 l1 => callF_rd p1 l1 c1⟩
theorem callL_rd {i : Nat} {tbl : List (String × Fn)} {es : List Ex} (h : rE K Z (ev (.callL i tbl es)) σ H Q) : ∃ x Fn, tbl.lookup x = some Fn ∧ σ[i]? = some (some (.ref (cad K x))) ∧ tCallS (spW K Fn) (WE Z) (rAt K Z (evT es)) σ H Q := by
  obtain ⟨F, g, ρ, rl, r, ρ', e, z⟩ := h
  unfold ev at e
  split at e
  · rename_i x hs
    split at e
    · rename_i Fn hl
      obtain ⟨v, hv, hO⟩ := rl.sl i _ hs
      have hv2 : v = .ref (cad K x) := by
        have : Sh K F (.fn x) v := hO
        cases this; rfl
      subst hv2
      refine ⟨x, Fn, hl, hv, call_rd ⟨F, g, ρ, rl, r, ρ', ?_, z⟩⟩
      unfold ev
      exact e
    · cases e
  · cases e
def tMakeS (C : Addr) (sp : Sp) (E : L2.St → XK) (t : TA) : TE := fun σ H Q => t σ H fun vs H1 => ∀ x dx, H1 x = none → H1 dx = none → dx ≠ x →
  sp (.ref x :: vs) (upd (upd H1 dx (.own x)) x (.ins C dx [])) (fun v H2 => v = .non ∧ Q (.ref x) H2) (E σ)
/-- C(..): then __init__ at the new instance -/
theorem mkF_rd {Fn : Fn} {C : String} {F F1 H1 : Hp} {g g1 : Gh} {ρ ρ1 : Rho} {ts : List T} {vs : List V} {ms : List Mk} (p1 : Ps K σ F H g ρ F1 H1 g1 ρ1) (l1 : TmL K σ H F1 H1 g1 ρ1 ts vs ms)
    (c : Ct K Z σ F H g ρ (mkF C Fn ts) ρ1 fun t ρ' => ∀ v F' H' g', Ps K σ F H g ρ F' H' g' ρ' → Tm K σ H F' H' g' ρ' t v → Q v H') :
    ∀ x dx, H1 x = none → H1 dx = none → dx ≠ x → spW K Fn (.ref x :: vs) (upd (upd H1 dx (.own x)) x (.ins (cad K C) dx [])) (fun v H2 => v = .non ∧ Q (.ref x) H2) (WE Z σ) := by
  intro x dx hx hdx ne
  unfold mkF at c
  obtain ⟨ws, e, r0, ρ', e2, z⟩ := c.rds
  dsimp only at e2
  split at e2
  · rename_i nd
    have hH2 : ∀ b, b ≠ x → b ≠ dx → (upd (upd H1 dx (.own x)) x (.ins (cad K C) dx [])) b = H1 b := fun b h1 h2 => by rw [upd_ne h1, upd_ne h2]
    have nF : ∀ b, H1 b = none → F1 b = none := fun b hb => by
      cases y : F1 b with
      | none => rfl
      | some o => rw [p1.rl.sub _ _ y] at hb; cases hb
    have ng : ∀ b, H1 b = none → g1 b = none := fun b hb => by
      cases y : g1 b with
      | none => rfl
      | some q => exact absurd hb (p1.rl.gH b q y)
    have keep : ∀ b, H1 b ≠ none → (upd (upd H1 dx (.own x)) x (.ins (cad K C) dx [])) b = H1 b := fun b hb => hH2 b (fun q => hb (q ▸ hx)) (fun q => hb (q ▸ hdx))
    -- the state with the new instance
    have le2 : Le F1 H1 g1 F1 (upd (upd H1 dx (.own x)) x (.ins (cad K C) dx [])) g1 := ⟨Sub.refl _, fun b o h _ => (keep b (by rw [h]; exact nofun)).trans h, fun b h => by rw [keep b h]; exact h, fun b p h => .inl h, fun b h => .inl h⟩
    have rl2 : Rl K F1 (upd (upd H1 dx (.own x)) x (.ins (cad K C) dx [])) g1 ρ1 σ := by
      refine ⟨fun b o h => (keep b (by rw [p1.rl.sub _ _ h]; exact nofun)).trans (p1.rl.sub _ _ h), p1.rl.gF, fun b q h => by rw [keep b (p1.rl.gH b q h)]; exact p1.rl.gH b q h, p1.rl.len, fun i y hy => ?_⟩
      obtain ⟨u, hu, hO⟩ := p1.rl.sl i y hy
      exact ⟨u, hu, hO.mono (Sub.refl _) (fun f a ha => keep a (p1.rl.gH a _ ha)) fun _ _ h => h⟩
    have p2 : Ps K σ F H g ρ F1 (upd (upd H1 dx (.own x)) x (.ins (cad K C) dx [])) g1 ρ1 :=
      ⟨p1.le.trans le2, rl2, p1.ls.trans fun j f y _ ey ly => ⟨⟨y, ey, ly⟩, p1.rl.vp ey fun b C dx vf hb _ => keep b (by rw [hb]; exact nofun)⟩⟩
    have l2 : TmL K σ H F1 (upd (upd H1 dx (.own x)) x (.ins (cad K C) dx [])) g1 ρ1 ts vs ms := by
      clear c z e2 e nd
      induction l1 with
      | nil => exact .nil
      | cons h d l ih =>
        rename_i t v m ts vs ms
        refine .cons ?_ d ih
        cases t with
        | val w => exact ⟨h.1.le le2, h.2.mono (Sub.refl _) (fun f a ha => keep a (h.1 a f ha).2.2.1) fun _ _ z => z⟩
        | pl i f => exact ⟨h.1, h.2.later ⟨le2, rl2, fun j f y _ ey ly => ⟨⟨y, ey, ly⟩, p1.rl.vp ey fun b C dx vf hb _ => keep b (by rw [hb]; exact nofun)⟩⟩⟩
    let m0 : Mk := fun a => if a = x then some none else none
    have hm0 : Mks H F1 (upd (upd H1 dx (.own x)) x (.ins (cad K C) dx [])) g1 m0 := fun a f h => by
      have : a = x := by
        by_cases q : a = x
        · exact q
        · simp [m0, q] at h
      subst this
      exact ⟨nF _ hx, ng _ hx, by rw [upd_same]; exact nofun, p1.le.hnone hx⟩
    have l3 : TmL K σ H F1 (upd (upd H1 dx (.own x)) x (.ins (cad K C) dx [])) g1 ρ1 (.val (.ins true C []) :: ts) (.ref x :: vs) (m0 :: ms) := by
      refine .cons ⟨hm0, x, dx, [], rfl, upd_same, if_pos rfl, .nil, List.nodup_nil⟩ (fun m' hm' a ha => ?_) l2
      have : a = x := by
        by_cases q : a = x
        · exact q
        · simp [m0, q] at ha
      subst this
      cases y : m' a with
      | none => rfl
      | some f =>
        obtain ⟨j, hj⟩ := List.getElem?_of_mem hm'
        obtain ⟨lv, lm, ix⟩ := l1.ix
        have hjt : j < ts.length := by
          obtain ⟨q, _⟩ := List.getElem?_eq_some_iff.mp hj
          omega
        obtain ⟨v, mm, e1, e2, e3⟩ := ix j _ (List.getElem?_eq_getElem hjt)
        rw [hj] at e2; cases e2
        generalize ts[j] = t at e3
        cases t with
        | val w => exact absurd hx (e3.1 a f y).2.2.1
        | pl i f' => rw [e3.1] at y; cases y
    have e3 : drfs ρ1 (.val (.ins true C []) :: ts) = some (.ins true C [] :: ws) := by
      show (match drf ρ1 (.val (.ins true C [])), drfs ρ1 ts with | some w, some ws => some (w :: ws) | _, _ => none) = _
      rw [e]
      rfl
    have nd3 : (lent (.val (.ins true C []) :: ts) (.ins true C [] :: ws)).Nodup := nd
    have rlc := lend_rl p2.rl l3 e3 nd3
    cases eF : Fn (.ins true C [] :: ws) with
    | none => rw [eF] at e2; cases e2
    | some q =>
      obtain ⟨r, os⟩ := q
      rw [eF] at e2
      refine ⟨F1, _, _, r, os, rlc, eF, ?_⟩
      cases r with
      | ex w =>
        cases os with
        | nil => cases e2
        | cons self os =>
          dsimp only at e2
          split at e2
          · rename_i ft
            cases e2
            intro cls d F' H' g' le' rl' ls' hx
            have ft3 : fits (.val (.ins true C []) :: ts) (.ins true C [] :: ws) (self :: os) = true := ft
            obtain ⟨p3, _⟩ := regain_ok p2 l3 e3 nd3 ft3 le' rl' ls'
            exact z cls d F' H' _ p3 hx
          · cases e2
      | ok w =>
        cases w with
        | non =>
          cases os with
          | nil => cases e2
          | cons self os =>
            dsimp only at e2
            split at e2
            · rename_i ft
              rw [Bool.and_eq_true] at ft
              cases e2
              intro v F' H' g' m le' rl' ls' hm hO
              have ft3 : fits (.val (.ins true C []) :: ts) (.ins true C [] :: ws) (self :: os) = true := ft.2
              obtain ⟨p3, _⟩ := regain_ok p2 l3 e3 nd3 ft3 le' rl' ls'
              refine ⟨Rb.non ⟨_, hO⟩, ?_⟩
              obtain ⟨u, hu, hOs⟩ := rl'.sl 0 self rfl
              cases hu
              refine z (.ref x) F' H' _ p3 ⟨fun a => match g' a with | some (0, f) => some f | _ => none, fun a f h => ?_, hOs.mono (Sub.refl _) (fun _ _ _ => rfl) fun f a ha => ?_⟩
              · have ga : g' a = some (0, f) := by
                  dsimp only at h
                  split at h
                  · rename_i f' hg; cases h; exact hg
                  · cases h
                refine ⟨rl'.gF a _ ga, ?_, rl'.gH a _ ga, ?_⟩
                · unfold regain
                  rw [ga]
                  rfl
                · rcases le'.gn a _ ga with q | q
                  · obtain ⟨t, w, mm, h1, h2, h3, h4, h5⟩ := of_lend q
                    simp at h1 h3
                    subst h1; subst h3
                    exact (hm0 a f h5).2.2.2
                  · exact p2.le.hnone q
              · have ha' : g' a = some (0, f) := ha
                show (match g' a with | some (0, f) => some f | _ => none) = some f
                rw [ha']
                rfl
            · cases e2
        | _ => cases e2
  · cases e2
theorem mk_rd {Fn : Fn} {C : String} {es : List Ex} (h : rE K Z (ev (.mk C Fn es)) σ H Q) : tMakeS (cad K C) (spW K Fn) (WE Z) (rAt K Z (evT es)) σ H Q := by
  obtain ⟨F, g, ρ, rl, c⟩ := h
  unfold ev at c
  refine ⟨F, g, ρ, rl, c.bnd.imp fun ts ρ1 c1 vs ms F1 H1 g1 p1 l1 => ?_⟩
  intro x dx hx hdx ne
  exact mkF_rd p1 l1 c1 x dx hx hdx ne
theorem bi_rd {f : Bi} {es : List Ex} (h : rE K Z (ev (.bi f es)) σ H Q) : tCB (rWn K (wBi f)) (rAt K Z (evT es)) σ H Q := by
  obtain ⟨F, g, ρ, rl, c⟩ := h
  unfold ev at c
  refine ⟨F, g, ρ, rl, c.bnd.imp fun ts ρ1 c1 vs ms F1 H1 g1 p1 l1 => ?_⟩
  obtain ⟨ws, e, c2⟩ := c1.rds
  obtain ⟨w, ew, c3⟩ := c2.lft
  refine ⟨F1, ws, w, p1.rl.sub, l1.rb p1.rl e, ew, fun v F' H' m nw => ?_⟩
  obtain ⟨p3, tm⟩ := p1.nw nw
  exact c3.ret v F' H' g1 p3 tm
end
end Rf
namespace Rf
open PySem PySem.Spec PyProof.Rows L2
section
variable {K : PySem.W.Frag} {Z : WX} {σ : L2.St} {H : Hp} {Q : VK}
theorem evs_len : ∀ {es : List Ex} {ρ ρ' : Rho} {ws : List W}, evs es ρ = some (.ok ws, ρ') → ws.length = es.length
  | [], ρ, ρ', ws, e => by unfold evs at e; cases e; rfl
  | x :: es, ρ, ρ', ws, e => by
    unfold evs at e
    obtain ⟨t, ρ1, h1, h2⟩ : ∃ t ρ1, ev x ρ = some (.ok t, ρ1) ∧ bnd (sh t) (fun w => bnd (evs es) fun ws => ret (w :: ws)) ρ1 = some (.ok ws, ρ') := by
      unfold bnd at e
      cases y : ev x ρ with
      | none => rw [y] at e; cases e
      | some q => obtain ⟨r, ρ1⟩ := q; rw [y] at e; cases r with
        | ok t => exact ⟨t, ρ1, rfl, e⟩
        | ex w => cases e
    obtain ⟨w, ρ2, h3, h4⟩ : ∃ w ρ2, sh t ρ1 = some (.ok w, ρ2) ∧ bnd (evs es) (fun ws => ret (w :: ws)) ρ2 = some (.ok ws, ρ') := by
      unfold bnd at h2
      cases y : sh t ρ1 with
      | none => rw [y] at h2; cases h2
      | some q => obtain ⟨r, ρ1⟩ := q; rw [y] at h2; cases r with
        | ok t => exact ⟨t, ρ1, rfl, h2⟩
        | ex w => cases h2
    unfold bnd at h4
    cases y : evs es ρ2 with
    | none => rw [y] at h4; cases h4
    | some q => obtain ⟨r, ρ3⟩ := q; rw [y] at h4; cases r with
      | ok us => cases h4; rw [List.length_cons, List.length_cons, evs_len y]
      | ex w => cases h4
/-- the length of shared arguments, told with them -/
theorem Ct.evs {F0 H0 : Hp} {g0 : Gh} {ρ0 ρ1 : Rho} {es : List Ex} {C : List W → Rho → Prop} (c : Ct K Z σ F0 H0 g0 ρ0 (Rf.evs es) ρ1 C) : Ct K Z σ F0 H0 g0 ρ0 (Rf.evs es) ρ1 fun ws ρ' => ws.length = es.length ∧ C ws ρ' := by
  obtain ⟨r, ρ', e, z⟩ := c
  refine ⟨r, ρ', e, ?_⟩
  cases r with
  | ok ws => exact ⟨evs_len e, z⟩
  | ex w => exact z
theorem tup_rd {es : List Ex} (hl : es.length ≤ 1000) (h : rE K Z (ev (.tup es)) σ H Q) : tTup (rAs K Z (evs es)) σ H Q := by
  obtain ⟨F, g, ρ, rl, c⟩ := h
  unfold ev at c
  refine ⟨F, g, ρ, rl, c.bnd.evs.imp fun ws ρ1 c1 vs F1 H1 g1 p1 l1 => ⟨?_, fun q hq => ?_⟩⟩
  · rw [← l1.len, c1.1, sizeLine_eq]; omega
  · obtain ⟨p3, tm⟩ := p1.nw (Nw.tup p1.rl.sub hq l1)
    exact Ct.ret c1.2 (.ref q) _ _ g1 p3 tm
theorem lst_rd {es : List Ex} (hl : es.length ≤ 1000) (h : rE K Z (ev (.lst es)) σ H Q) : tLst (rAs K Z (evs es)) σ H Q := by
  obtain ⟨F, g, ρ, rl, c⟩ := h
  unfold ev at c
  refine ⟨F, g, ρ, rl, c.bnd.evs.imp fun ws ρ1 c1 vs F1 H1 g1 p1 l1 => ⟨?_, fun q hq => ?_⟩⟩
  · rw [← l1.len, c1.1, sizeLine_eq]; omega
  · obtain ⟨p3, tm⟩ := p1.nw (Nw.lst p1.rl.sub hq l1)
    exact Ct.ret c1.2 (.ref q) _ _ g1 p3 tm
theorem dct_rd (h : rE K Z (ev (.dct [] [])) σ H Q) : ∀ d, H d = none → Q (.ref d) (upd H d (.dK [])) := fun d hd => by
  obtain ⟨F, g, ρ, rl, c⟩ := h
  unfold ev evD at c
  obtain ⟨p3, tm⟩ := (Ps.refl rl).nw (Nw.dic rl.sub hd .nil)
  exact c.ret (.ref d) _ _ g p3 tm
/-- a slice's part -/
def rO (K : PySem.W.Frag) (Z : WX) (m : M (Option Int)) : TO := fun σ H Q => ∃ F g ρ, Rl K F H g ρ σ ∧ Ct K Z σ F H g ρ m ρ fun o ρ' =>
  ∀ F' H' g', Ps K σ F H g ρ F' H' g' ρ' → Q o H'
theorem evO_none {Q : Option Int → Hp → Prop} (h : rO K Z (evO none) σ H Q) : tNoPart σ H Q := by
  obtain ⟨F, g, ρ, rl, c⟩ := h
  unfold evO at c
  exact c.ret F H g (.refl rl)
theorem evO_some {e : Ex} {Q : Option Int → Hp → Prop} (h : rO K Z (evO (some e)) σ H Q) : tPart (rE K Z (ev e)) σ H Q := by
  obtain ⟨F, g, ρ, rl, c⟩ := h
  unfold evO at c
  refine ⟨F, g, ρ, rl, c.bnd.imp fun s ρ1 c1 x F1 H1 g1 p1 m1 => ?_⟩
  obtain ⟨w, ew, c2⟩ := c1.rd
  have hb := m1.drf p1.rl ew
  cases w with
  | int i => cases hb.int; exact ⟨i, rfl, c2.ret F1 H1 g1 p1⟩
  | _ => exact c2.stuck.elim
theorem sl_rd {a : Ex} {lo hi : Option Ex} (h : rE K Z (ev (.sl a lo hi)) σ H Q) : tSl (rSl K) (rE K Z (ev a)) (rO K Z (evO lo)) (rO K Z (evO hi)) σ H Q := by
  obtain ⟨F, g, ρ, rl, c⟩ := h
  unfold ev at c
  refine ⟨F, g, ρ, rl, c.bnd.imp fun s ρ1 c1 x F1 H1 g1 p1 m1 => ⟨F1, g1, ρ1, p1.rl, (c1.bnd.rebase p1).imp fun l ρ2 c2 F2 H2 g2 p2 => ⟨F2, g2, ρ2, p2.rl, (c2.bnd.rebase (p1.trans p2)).imp fun u ρ3 c3 F3 H3 g3 p3 => ?_⟩⟩⟩
  obtain ⟨w, ew, c4⟩ := c3.rd
  obtain ⟨w', ew', c5⟩ := c4.lft
  refine ⟨F3, w, w', p3.rl.sub, ((m1.later p2).later p3).drf p3.rl ew, ew', fun v F' H' m nw => ?_⟩
  obtain ⟨p4, tm⟩ := ((p1.trans p2).trans p3).nw nw
  exact c5.ret v F' H' g3 p4 tm
/-! ### methods of lists -/
/-- a method that changes a list, by values -/
def rMu (K : PySem.W.Frag) (m : Mu) : V → List V → Hp → VK → Prop := fun x xs H Q => ∃ F a is vs ws r is', Sub F H ∧ x = .ref a ∧ F a = none ∧ H a = some (.lst vs) ∧ ShL K F is vs ∧ ShL K F ws xs ∧ wMu m is ws = some (r, is') ∧
  ∀ v vs', Sh K F r v → ShL K F is' vs' → Q v (upd H a (.lst vs'))
def muId : Mu → String
  | .append => "list.append"
  | .extend => "list.extend"
  | .pop => "list.pop"
  | .popAt => "list.pop"
  | .insert => "list.insert"
  | .remove => "list.remove"
theorem shl_one {F : Hp} {w : W} {vs : List V} (h : ShL K F [w] vs) : ∃ v, vs = [v] ∧ Sh K F w v := by
  cases h with
  | cons a b => cases b with
    | nil => exact ⟨_, rfl, a⟩
theorem shaped_lst {n : Nat} {ws : List W} (d : ws.all (dat n) = true) (hn : n < 64) {F H : Hp} (s : Sub F H) {vs : List V} (h : ShL K F ws vs) : DpAll K H vs (pyds ws) ∧ SeqAt.shaped (.list (pyds ws)) = true := by
  obtain ⟨k1, k2, k3⟩ := dp_one s (fun w v d h => dp_sh s n w v d h) d h
  refine ⟨k1, ?_⟩
  unfold SeqAt.shaped
  rw [Bool.and_eq_true]
  refine ⟨k2, decide_eq_true ?_⟩
  show PyData.depthAll (pyds ws) + 1 ≤ 64
  omega
theorem pyds_get : ∀ {ws : List W} {j : Nat} {w : W}, ws[j]? = some w → (pyds ws)[j]? = some (pyd w)
  | [], _, _, e => by cases e
  | x :: xs, 0, w, e => by
    have e' : some x = some w := e
    cases e'; rfl
  | x :: xs, j + 1, w, e => pyds_get (ws := xs) (j := j) e
theorem pyds_get' : ∀ {ws : List W} {j : Nat} {d : PyData}, (pyds ws)[j]? = some d → ∃ w, ws[j]? = some w ∧ d = pyd w
  | [], _, _, e => by cases e
  | x :: xs, 0, d, e => by
    have e' : some (pyd x) = some d := e
    cases e'; exact ⟨x, rfl, rfl⟩
  | x :: xs, j + 1, d, e => pyds_get' (ws := xs) (j := j) e
theorem mu_ok {X : Cx} (hu : X.A.units + 65 < cLine) (m : Mu) : MtM X (muId m) (rMu X.K m) := by
  intro pins s σ H x xs v us Q I rx rxs ⟨F, a, is, vs, ws, r, is', hs, ex, hF, hH, h1, h2, e, q⟩
  subst ex
  cases m with
  | append =>
    match ws, e with
    | [y], e =>
      have e' : (if is.length < LIM then some (W.non, is ++ [y]) else none) = some (r, is') := e
      split at e'
      · rename_i c
        cases e'
        obtain ⟨z, rfl, hz⟩ := shl_one h2
        exact mt_append pins s σ H _ _ v us Q I rx rxs ⟨a, vs, z, rfl, rfl, hH, by rw [← h1.len]; exact lim_lt c, q _ _ .non (h1.app (.cons hz .nil))⟩
      · cases e'
  | extend =>
    match ws, e with
    | [.lst o zs], e =>
      have e' : (if is.length + zs.length < LIM then some (W.non, is ++ zs) else none) = some (r, is') := e
      split at e'
      · rename_i c
        cases e'
        obtain ⟨z, rfl, hz⟩ := shl_one h2
        cases hz with
        | lst k1 k2 =>
          rename_i b us'
          exact mt_extend pins s σ H _ _ v us Q I rx rxs ⟨a, b, vs, us', rfl, rfl, hH, hs _ _ k1, by rw [← h1.len, ← k2.len]; exact lim_le c, q _ _ .non (h1.app k2)⟩
      · cases e'
  | pop =>
    match ws, e with
    | [], e =>
      obtain ⟨y, k1, k2⟩ := Option.map_eq_some_iff.mp (show (is[is.length - 1]?).map (fun y => (y, is.dropLast)) = some (r, is') from e)
      cases k2
      obtain ⟨z, e1, e2⟩ := h1.get k1
      cases h2
      exact mt_pop pins s σ H _ _ v us Q I rx rxs ⟨a, vs, z, rfl, rfl, hH, by rw [← h1.len]; exact e1, q _ _ e2 h1.dropLast⟩
  | popAt =>
    match ws, e with
    | [.int i], e =>
      obtain ⟨k, k1, k2⟩ := Option.bind_eq_some_iff.mp (show (ixN is.length i).bind (fun k => (is[k]?).map fun y => (y, is.eraseIdx k)) = some (r, is') from e)
      obtain ⟨y, k3, k4⟩ := Option.map_eq_some_iff.mp k2
      cases k4
      obtain ⟨z, e1, e2⟩ := h1.get k3
      obtain ⟨z', rfl, hz⟩ := shl_one h2
      cases hz
      have hl : is.length ≤ sizeLine := by
        obtain ⟨zz, _⟩ := I.lstM hH
        rw [h1.len]; exact zz
      have sl : (sizeLine : Nat) = 16777216 := sizeLine_eq
      have bd := L2.ixN_seq (n := is.length) (i := i) (j := k) k1
      exact mt_popAt pins s σ H _ _ v us Q I rx rxs ⟨a, vs, i, k, z, rfl, rfl, hH, by omega, by omega, by rw [← h1.len]; exact bd.1, e1, q _ _ e2 (h1.eraseIdx k)⟩
  | insert =>
    match ws, e with
    | [.int i, y], e =>
      have e' : (if is.length < LIM ∧ 0 ≤ i ∧ i < 2 ^ 62 then some (W.non, is.take i.toNat ++ [y] ++ is.drop i.toNat) else none) = some (r, is') := e
      split at e'
      · rename_i c
        cases e'
        cases h2 with
        | cons b1 b2 =>
          cases b1
          obtain ⟨z, rfl, hz⟩ := shl_one b2
          exact mt_insert pins s σ H _ _ v us Q I rx rxs ⟨a, vs, i, z, rfl, rfl, hH, by rw [← h1.len]; exact lim_lt c.1, c.2.1, by omega, q _ _ .non (((h1.take _).app (.cons hz .nil)).app (h1.drop _))⟩
      · cases e'
  | remove =>
    match ws, e with
    | [y], e =>
      have e' : (if dat 30 y && is.all (dat 29) then (is.findIdx? fun z => weq z y).map fun j => (W.non, is.eraseIdx j) else none) = some (r, is') := e
      split at e'
      · rename_i c
        rw [Bool.and_eq_true] at c
        obtain ⟨j, k1, k2⟩ := Option.map_eq_some_iff.mp e'
        cases k2
        obtain ⟨z, rfl, hz⟩ := shl_one h2
        obtain ⟨hj, k3, k4⟩ := List.findIdx?_eq_some_iff_getElem.mp k1
        obtain ⟨d1, s1⟩ := dp_rb hs c.1 (by decide) (Rb.of hz)
        obtain ⟨d2, s2⟩ := shaped_lst c.2 (by decide) hs h1
        refine mt_removeD hu pins s σ H _ _ v us Q I rx rxs ⟨a, vs, z, _, _, j, _, rfl, rfl, hH, d2, d1, s2, s1, pyds_get (List.getElem?_eq_getElem hj), ?_, fun m z' hm hz' => ?_, q _ _ .non (h1.eraseIdx j)⟩
        · rw [eqv_weq 29 30 _ _ (List.all_eq_true.mp c.2 _ (List.getElem_mem hj)) c.1]; exact k3
        · obtain ⟨w', e1, rfl⟩ := pyds_get' hz'
          have hm' : m < is.length := by omega
          rw [List.getElem?_eq_getElem hm'] at e1
          cases e1
          rw [eqv_weq 29 30 _ _ (List.all_eq_true.mp c.2 _ (List.getElem_mem hm')) c.1]
          simpa using k4 m hm
      · cases e'
theorem recvL_rd {F F1 H1 : Hp} {g g1 : Gh} {ρ ρ1 : Rho} {t : T} {x : V} {α : Type} {k : Unit → M α} {C : α → Rho → Prop} (p1 : Ps K σ F H g ρ F1 H1 g1 ρ1) (m1 : Tm K σ H F1 H1 g1 ρ1 t x) (c1 : Ct K Z σ F H g ρ (bnd (recvL t) k) ρ1 C) :
    tyV K "list" x H1 ∧ Ct K Z σ F H g ρ (k ()) ρ1 C := by
  obtain ⟨r, ρ', e, z⟩ := c1.bnd
  unfold recvL at e
  unfold bnd rd at e
  cases y : drf ρ1 t with
  | none => rw [y] at e; cases e
  | some w =>
    rw [y] at e
    cases w with
    | lst b xs =>
      cases e
      obtain ⟨a, vs, rfl, h1, _⟩ := (m1.drf p1.rl y).lst p1.rl.sub
      exact ⟨.inl ⟨rfl, vs, SqL.of h1⟩, z⟩
    | _ => cases e
theorem mu_rd {o : Ex} {m : Mu} {es : List Ex} (h : rE K Z (ev (.mu o m es)) σ H Q) : tBM K "list" (rMu K m) (rE K Z (ev o)) (rAs K Z (evs es)) σ H Q := by
  obtain ⟨F, g, ρ, rl, c⟩ := h
  unfold ev at c
  refine ⟨F, g, ρ, rl, c.bnd.imp fun t ρ1 c1 x F1 H1 g1 p1 m1 => ?_⟩
  obtain ⟨hx, c1⟩ := recvL_rd p1 m1 c1
  refine ⟨hx, F1, g1, ρ1, p1.rl, (c1.bnd.rebase p1).imp fun ws ρ2 c2 vs F2 H2 g2 p2 l2 => ?_⟩
  obtain ⟨w, ew, c3⟩ := c2.rd
  have m2 := m1.later p2
  have p12 := p1.trans p2
  cases w with
  | lst b is =>
    cases b with
    | false => exact c3.stuck.elim
    | true =>
      obtain ⟨rr, er, c4⟩ := c3.lft
      obtain ⟨r, is'⟩ := rr
      cases t with
      | val w' =>
        cases ew
        obtain ⟨mk, hm, a, us, rfl, k1, k2, k3⟩ := m2
        obtain ⟨q1, q2, q3, q4⟩ := hm a _ k2
        refine ⟨F2, a, is, us, ws, r, is', p2.rl.sub, rfl, q1, k1, k3, l2, er, fun v vs' hv hl => ?_⟩
        have pm : Ps K σ F H g ρ F2 (upd H2 a (.lst vs')) g2 ρ2 := by
          refine ⟨p12.le.mut (.inl q4), ⟨fun b u eb => ?_, p2.rl.gF, fun b z eb => ?_, p2.rl.len, fun i y hy => ?_⟩, p12.ls.trans fun j f y _ ey ly => ⟨⟨y, ey, ly⟩, p2.rl.vp ey fun b C dx vf hb _ => upd_ne (fun z => by subst z; rw [k1] at hb; cases hb)⟩⟩
          · rw [upd_ne (ne_of_none eb q1)]; exact p2.rl.sub b u eb
          · by_cases cc : b = a
            · subst cc; rw [upd_same]; exact nofun
            · rw [upd_ne cc]; exact p2.rl.gH b z eb
          · obtain ⟨u, hu, hO⟩ := p2.rl.sl i y hy
            exact ⟨u, hu, hO.mono (Sub.refl _) (fun f b hb => upd_ne (fun z => by subst z; rw [q2] at hb; cases hb)) fun _ _ z => z⟩
        exact c4.ret v F2 _ g2 pm (Tm.of hv)
      | pl i f =>
        obtain ⟨a, ea, ga, hh⟩ := m2.place p2.rl (w := .lst true is) ew rfl rfl
        subst ea
        rcases hh with ⟨xs', us, e1, k1, k3⟩ | ⟨_, _, e1, _⟩
        · cases e1
          have q1 := p2.rl.gF a _ ga
          refine ⟨F2, a, is, us, ws, r, is', p2.rl.sub, rfl, q1, k1, k3, l2, er, fun v vs' hv hl => ?_⟩
          obtain ⟨r0, ρ', e0, z⟩ := c4
          cases e0
          exact z v F2 _ g2 (p12.mut (w' := .lst true is') ew rfl rfl m2 rfl (fun P hP => ⟨a, vs', rfl, upd_same, hP, hl⟩) rfl) (Tm.of hv)
        · cases e1
  | _ => exact c3.stuck.elim
theorem rm_rd {o : Ex} {m : Rm} {es : List Ex} (h : rE K Z (ev (.rm o m es)) σ H Q) : tBM K "list" (fun x xs H Q => ∃ F w ws r, Sub F H ∧ Rb K F H w x ∧ ShL K F ws xs ∧ wRm m w ws = some r ∧ ∀ v F' H' mk, Nw K F H r v F' H' mk → Q v H') (rE K Z (ev o)) (rAs K Z (evs es)) σ H Q := by
  obtain ⟨F, g, ρ, rl, c⟩ := h
  unfold ev at c
  refine ⟨F, g, ρ, rl, c.bnd.imp fun t ρ1 c1 x F1 H1 g1 p1 m1 => ?_⟩
  obtain ⟨hx, c1⟩ := recvL_rd p1 m1 c1
  refine ⟨hx, F1, g1, ρ1, p1.rl, (c1.bnd.rebase p1).imp fun ws ρ2 c2 vs F2 H2 g2 p2 l2 => ?_⟩
  obtain ⟨w, ew, c3⟩ := c2.rd
  obtain ⟨r, er, c4⟩ := c3.lft
  refine ⟨F2, w, ws, r, p2.rl.sub, (m1.later p2).drf p2.rl ew, l2, er, fun v F' H' mk nw => ?_⟩
  obtain ⟨p4, tm⟩ := (p1.trans p2).nw nw
  exact c4.ret v F' H' g2 p4 tm
def rmId : Rm → String
  | .index => "list.index"
  | .count => "list.count"
theorem pyds_count {y : W} (hy : dat 30 y = true) : ∀ {ws : List W}, ws.all (dat 29) = true → ((pyds ws).countP fun z => PyData.eqv z (pyd y)) = ws.countP fun z => weq z y
  | [], _ => rfl
  | w :: ws, d => by
    rw [List.all_cons, Bool.and_eq_true] at d
    have e : pyds (w :: ws) = pyd w :: pyds ws := rfl
    rw [e, List.countP_cons, List.countP_cons, pyds_count hy d.2, eqv_weq 29 30 _ _ d.1 hy]
theorem rm_ok {X : Cx} (hu : X.A.units + 65 < cLine) (m : Rm) : MtR X (rmId m) (fun x xs H Q => ∃ F w ws r, Sub F H ∧ Rb X.K F H w x ∧ ShL X.K F ws xs ∧ wRm m w ws = some r ∧ ∀ v F' H' mk, Nw X.K F H r v F' H' mk → Q v H') := by
  intro pins s σ H x xs v us Q I rx rxs ⟨F, w, ws, r, hs, hb, hl, e, q⟩
  cases m with
  | index =>
    cases w with
    | lst o is =>
      match ws, e with
      | [y], e =>
        have e' : (if flat y && is.all flat then (is.findIdx? fun z => weq z y).map fun (j : Nat) => W.int j else if dat 30 y && is.all (dat 29) then (is.findIdx? fun z => weq z y).map fun (j : Nat) => W.int j else none) = some r := e
        split at e'
        · rename_i c
          rw [Bool.and_eq_true] at c
          obtain ⟨j, k1, rfl⟩ := Option.map_eq_some_iff.mp e'
          obtain ⟨a, vs, rfl, h1, h2⟩ := hb.lst hs
          obtain ⟨z, rfl, hz⟩ := shl_one hl
          obtain ⟨hj, k2, k3⟩ := List.findIdx?_eq_some_iff_getElem.mp k1
          obtain ⟨k4, _⟩ := in_sh hz c.1 h2 c.2
          have fl : ∀ (m : Nat) (hm : m < is.length), flat is[m] = true := fun m hm => List.all_eq_true.mp c.2 _ (List.getElem_mem hm)
          obtain ⟨u, e1, e2⟩ := h2.get (List.getElem?_eq_getElem hj)
          refine mt_index pins s σ H _ _ v us Q I rx rxs ⟨a, vs, z, j, u, rfl, rfl, SqL.of h1, flat_sh hz c.1, k4, e1, ?_, fun m z' hm hz' => ?_, q _ F H _ (Nw.same hs (.int _))⟩
          · rw [flat_eq e2 hz (fl j hj) c.1]; exact k2
          · have hm' : m < is.length := by omega
            obtain ⟨u', e3, e4⟩ := h2.get (List.getElem?_eq_getElem hm')
            rw [hz'] at e3; cases e3
            rw [flat_eq e4 hz (fl m hm') c.1]
            have := k3 m hm
            simpa using this
        split at e'
        · rename_i _ c
          rw [Bool.and_eq_true] at c
          obtain ⟨j, k1, rfl⟩ := Option.map_eq_some_iff.mp e'
          obtain ⟨a, vs, rfl, h1, h2⟩ := hb.lst hs
          obtain ⟨z, rfl, hz⟩ := shl_one hl
          obtain ⟨hj, k2, k3⟩ := List.findIdx?_eq_some_iff_getElem.mp k1
          obtain ⟨d1, s1⟩ := dp_rb hs c.1 (by decide) (Rb.of hz)
          obtain ⟨d2, s2⟩ := shaped_lst c.2 (by decide) hs h2
          have at_ : ∀ m (hm : m < is.length), (pyds is)[m]? = some (pyd is[m]) := fun m hm => pyds_get (List.getElem?_eq_getElem hm)
          refine mt_indexD hu pins s σ H _ _ v us Q I rx rxs ⟨a, z, _, _, j, pyd is[j], rfl, rfl, .lst (SqL.of h1) d2, d1, s2, s1, at_ j hj, ?_, fun m z' hm hz' => ?_, q _ F H _ (Nw.same hs (.int _))⟩
          · rw [eqv_weq 29 30 _ _ (List.all_eq_true.mp c.2 _ (List.getElem_mem hj)) c.1]; exact k2
          · have hm' : m < is.length := by omega
            rw [at_ m hm'] at hz'
            cases hz'
            rw [eqv_weq 29 30 _ _ (List.all_eq_true.mp c.2 _ (List.getElem_mem hm')) c.1]
            have := k3 m hm
            simpa using this
        · cases e'
    | _ => cases e
  | count =>
    cases w with
    | lst o is =>
      match ws, e with
      | [y], e =>
        have e' : (if dat 30 y && is.all (dat 29) then some (W.int ((is.countP fun z => weq z y : Nat) : Int)) else none) = some r := e
        split at e'
        · rename_i c
          rw [Bool.and_eq_true] at c
          cases e'
          obtain ⟨a, vs, rfl, h1, h2⟩ := hb.lst hs
          obtain ⟨z, rfl, hz⟩ := shl_one hl
          obtain ⟨d1, s1⟩ := dp_rb hs c.1 (by decide) (Rb.of hz)
          obtain ⟨d2, s2⟩ := shaped_lst c.2 (by decide) hs h2
          refine mt_countD hu pins s σ H _ _ v us Q I rx rxs ⟨a, z, _, _, rfl, rfl, .lst (SqL.of h1) d2, d1, s2, s1, ?_⟩
          rw [pyds_count c.1 c.2]
          exact q _ F H _ (Nw.same hs (.int _))
        · cases e'
    | _ => cases e
end
end Rf
/-! a dict's get; min and max of a dict; list(range(i, j)) -/
namespace Rf
open PySem PySem.Spec PyProof.Rows L2
section
variable {X : Cx}
theorem dk_max (hc : X.calm = true) : CallR X (.builtin "max") (fun xs H Q => ∃ (a : Addr) (kvs : List (Key × V)) (ns : List Int), xs = [.ref a] ∧ H a = some (.dK kvs) ∧ kvs.map (·.1) = ns.map Sum.inl ∧ 0 < ns.length ∧ ∀ m, m ∈ ns → (∀ y, y ∈ ns → y ≤ m) → Q (.int m) H) := by
  intro pins s σ H xs us Q I rx h
  obtain ⟨p, kvs, ns, rfl, hk, hns, hne, q⟩ := h
  rw [Vals.ref1 rx]
  obtain ⟨z, lo, vs, rk, hd⟩ := (show ObjOk X.prog X.w H s.heap p (.dK kvs) from I.hok p _ hk)
  obtain ⟨ep, hat⟩ := hd.dictAt
  have hl : kvs.length = vs.length := Paired.length rk
  have hkn : kvs.length = ns.length := by
    have e := congrArg List.length hns
    rw [List.length_map, List.length_map] at e
    exact e
  have keys : vs.map (·.1) = ns.map Sum.inl := by rw [← KV.keys rk]; exact hns
  have hP : ∀ (i : Nat) (v : Value), (∃ k x, vs[i]? = some (k, x) ∧ (mixKind X.prog X.w).is k v = true) → ∃ t, v = .int (ns.getD i 0) t := fun i v ⟨k, x, e1, e2⟩ => by
    have e3 : (vs.map (·.1))[i]? = some k := by rw [List.getElem?_map, e1]; rfl
    rw [keys, List.getElem?_map] at e3
    obtain ⟨j, e4, rfl⟩ := Option.map_eq_some_iff.mp e3
    have e5 : ns.getD i 0 = j := by rw [List.getD_eq_getElem?_getD, e4]; rfl
    rw [e5]
    exact (show RelV (kV (.inl j)) v from keyIs_rel (show keyIs (Sum.inl j) v = true from e2))
  refine call_max_walk ?_
  refine wpAny_pyIter_dict lo hat ?_
  have ha : p < s.heap.objs.size := hat.lt_size
  refine ⟨s.heap.objs.size, [s.heap.objs.size, p], [s.heap.objs.size], vs.length, _, _, fun i j => decide (ns.getD i 0 > ns.getD j 0), rfl, Walks.dictKeys (show X.A.in1.handled = none from I.ok.hd hc) _ p (Nat.ne_of_lt ha) vs ep, ⟨⟨_, Heap.get?_push_size _ rfl, rfl, rfl⟩, hat.push _⟩, fun b hb => ?_, by omega, CmpOf.ints_gt (fun i => ns.getD i 0) hP, fun v h' tk hv' hk => ?_⟩
  · show b < (s.heap.push _).objs.size
    rw [Heap.size_push]
    rcases List.mem_cons.mp hb with z | z
    · rw [z]
      exact Nat.lt_succ_self _
    · rw [List.mem_singleton.mp z]
      exact Nat.lt_succ_of_lt ha
  · obtain ⟨t, rfl⟩ := hP _ _ hv'
    obtain ⟨m1', m2'⟩ := argBest_gt (fun i => ns.getD i 0) (vs.length - 1)
    have m1 : argBest (fun i j => decide (ns.getD i 0 > ns.getD j 0)) (vs.length - 1) ≤ vs.length - 1 := m1'
    have m2 : ∀ j, j ≤ vs.length - 1 → ns.getD j 0 ≤ ns.getD (argBest (fun i j => decide (ns.getD i 0 > ns.getD j 0)) (vs.length - 1)) 0 := m2'
    have hk2 : ∀ b o, s.heap.get? b = some o → h'.get? b = some o := fun b o e => hk b o (fun z => by rw [List.mem_singleton.mp z] at e; exact absurd (Heap.lt_size e) (Nat.lt_irrefl _)) (Heap.get?_push_of_some _ e)
    refine ⟨.int _, H, I.kept (t' := tk) hk2, ⟨t, rfl⟩, q _ (PySem.getD_mem (by omega)) fun y hy => ?_⟩
    obtain ⟨j, hj, e⟩ := List.mem_iff_getElem.mp hy
    have z := m2 j (by omega)
    have e3 : ns.getD j 0 = y := by rw [List.getD_eq_getElem?_getD, List.getElem?_eq_getElem hj, ← e] <;> rfl
    rw [e3] at z
    exact z
theorem dk_min (hc : X.calm = true) : CallR X (.builtin "min") (fun xs H Q => ∃ (a : Addr) (kvs : List (Key × V)) (ns : List Int), xs = [.ref a] ∧ H a = some (.dK kvs) ∧ kvs.map (·.1) = ns.map Sum.inl ∧ 0 < ns.length ∧ ∀ m, m ∈ ns → (∀ y, y ∈ ns → m ≤ y) → Q (.int m) H) := by
  intro pins s σ H xs us Q I rx h
  obtain ⟨p, kvs, ns, rfl, hk, hns, hne, q⟩ := h
  rw [Vals.ref1 rx]
  obtain ⟨z, lo, vs, rk, hd⟩ := (show ObjOk X.prog X.w H s.heap p (.dK kvs) from I.hok p _ hk)
  obtain ⟨ep, hat⟩ := hd.dictAt
  have hl : kvs.length = vs.length := Paired.length rk
  have hkn : kvs.length = ns.length := by
    have e := congrArg List.length hns
    rw [List.length_map, List.length_map] at e
    exact e
  have keys : vs.map (·.1) = ns.map Sum.inl := by rw [← KV.keys rk]; exact hns
  have hP : ∀ (i : Nat) (v : Value), (∃ k x, vs[i]? = some (k, x) ∧ (mixKind X.prog X.w).is k v = true) → ∃ t, v = .int (ns.getD i 0) t := fun i v ⟨k, x, e1, e2⟩ => by
    have e3 : (vs.map (·.1))[i]? = some k := by rw [List.getElem?_map, e1]; rfl
    rw [keys, List.getElem?_map] at e3
    obtain ⟨j, e4, rfl⟩ := Option.map_eq_some_iff.mp e3
    have e5 : ns.getD i 0 = j := by rw [List.getD_eq_getElem?_getD, e4]; rfl
    rw [e5]
    exact (show RelV (kV (.inl j)) v from keyIs_rel (show keyIs (Sum.inl j) v = true from e2))
  refine call_min_walk ?_
  refine wpAny_pyIter_dict lo hat ?_
  have ha : p < s.heap.objs.size := hat.lt_size
  refine ⟨s.heap.objs.size, [s.heap.objs.size, p], [s.heap.objs.size], vs.length, _, _, fun i j => decide (ns.getD i 0 < ns.getD j 0), rfl, Walks.dictKeys (show X.A.in1.handled = none from I.ok.hd hc) _ p (Nat.ne_of_lt ha) vs ep, ⟨⟨_, Heap.get?_push_size _ rfl, rfl, rfl⟩, hat.push _⟩, fun b hb => ?_, by omega, CmpOf.ints_lt (fun i => ns.getD i 0) hP, fun v h' tk hv' hk => ?_⟩
  · show b < (s.heap.push _).objs.size
    rw [Heap.size_push]
    rcases List.mem_cons.mp hb with z | z
    · rw [z]
      exact Nat.lt_succ_self _
    · rw [List.mem_singleton.mp z]
      exact Nat.lt_succ_of_lt ha
  · obtain ⟨t, rfl⟩ := hP _ _ hv'
    obtain ⟨m1', m2'⟩ := argBest_lt (fun i => ns.getD i 0) (vs.length - 1)
    have m1 : argBest (fun i j => decide (ns.getD i 0 < ns.getD j 0)) (vs.length - 1) ≤ vs.length - 1 := m1'
    have m2 : ∀ j, j ≤ vs.length - 1 → ns.getD (argBest (fun i j => decide (ns.getD i 0 < ns.getD j 0)) (vs.length - 1)) 0 ≤ ns.getD j 0 := m2'
    have hk2 : ∀ b o, s.heap.get? b = some o → h'.get? b = some o := fun b o e => hk b o (fun z => by rw [List.mem_singleton.mp z] at e; exact absurd (Heap.lt_size e) (Nat.lt_irrefl _)) (Heap.get?_push_of_some _ e)
    refine ⟨.int _, H, I.kept (t' := tk) hk2, ⟨t, rfl⟩, q _ (PySem.getD_mem (by omega)) fun y hy => ?_⟩
    obtain ⟨j, hj, e⟩ := List.mem_iff_getElem.mp hy
    have z := m2 j (by omega)
    have e3 : ns.getD j 0 = y := by rw [List.getD_eq_getElem?_getD, List.getElem?_eq_getElem hj, ← e] <;> rfl
    rw [e3] at z
    exact z
theorem keysI_is {K : PySem.W.Frag} {F : Hp} : ∀ {kvs : List (Ky × W)} {vk : List (Key × V)} {is : List Int}, ShK K F kvs vk → keysI kvs = some is → vk.map (·.1) = is.map Sum.inl
  | _, _, is, .nil, h => by cases h; rfl
  | _, _, is, .cons (k := k) (ws := ws) hw l, h => by
    cases k with
    | inl i =>
      have h' : (keysI ws).map (i :: ·) = some is := h
      obtain ⟨js, e, rfl⟩ := Option.map_eq_some_iff.mp h'
      have ih := keysI_is l e
      rw [List.map_cons, List.map_cons, ih]
    | inr x => cases h
theorem mxs_of : ∀ (is : List Int) (i : Int), mxs is i ∈ i :: is ∧ ∀ y ∈ i :: is, y ≤ mxs is i
  | [], i => ⟨by simp [mxs], by simp [mxs]⟩
  | x :: r, i => by
    obtain ⟨h1, h2⟩ := mxs_of r (if i < x then x else i)
    have e : mxs (x :: r) i = mxs r (if i < x then x else i) := rfl
    rw [e]
    have b1 := h2 _ (List.mem_cons_self ..)
    generalize hj : (if i < x then x else i) = j at h1 h2 b1 ⊢
    have hj1 : j = x ∨ j = i := by rw [← hj]; split <;> simp
    have hj2 : x ≤ j ∧ i ≤ j := by rw [← hj]; split <;> omega
    refine ⟨?_, fun y hy => ?_⟩
    · rcases List.mem_cons.mp h1 with h | h
      · rw [h]; rcases hj1 with e | e <;> rw [e] <;> simp
      · exact List.mem_cons_of_mem _ (List.mem_cons_of_mem _ h)
    · rcases List.mem_cons.mp hy with h | h
      · omega
      · rcases List.mem_cons.mp h with h | h
        · omega
        · exact h2 y (List.mem_cons_of_mem _ h)
theorem mns_of : ∀ (is : List Int) (i : Int), mns is i ∈ i :: is ∧ ∀ y ∈ i :: is, mns is i ≤ y
  | [], i => ⟨by simp [mns], by simp [mns]⟩
  | x :: r, i => by
    obtain ⟨h1, h2⟩ := mns_of r (if x < i then x else i)
    have e : mns (x :: r) i = mns r (if x < i then x else i) := rfl
    rw [e]
    have b1 := h2 _ (List.mem_cons_self ..)
    generalize hj : (if x < i then x else i) = j at h1 h2 b1 ⊢
    have hj1 : j = x ∨ j = i := by rw [← hj]; split <;> simp
    have hj2 : j ≤ x ∧ j ≤ i := by rw [← hj]; split <;> omega
    refine ⟨?_, fun y hy => ?_⟩
    · rcases List.mem_cons.mp h1 with h | h
      · rw [h]; rcases hj1 with e | e <;> rw [e] <;> simp
      · exact List.mem_cons_of_mem _ (List.mem_cons_of_mem _ h)
    · rcases List.mem_cons.mp hy with h | h
      · omega
      · rcases List.mem_cons.mp h with h | h
        · omega
        · exact h2 y (List.mem_cons_of_mem _ h)
end
section
variable {K : PySem.W.Frag} {Z : WX} {σ : L2.St} {H : Hp} {Q : VK}
theorem mnd_rd {a : Ex} (h : rE K Z (ev (.mnd a)) σ H Q) : tCB (fun xs H Q => ∃ (a : Addr) (kvs : List (Key × V)) (ns : List Int), xs = [.ref a] ∧ H a = some (.dK kvs) ∧ kvs.map (·.1) = ns.map Sum.inl ∧ 0 < ns.length ∧ ∀ m, m ∈ ns → (∀ y, y ∈ ns → m ≤ y) → Q (.int m) H) (tCons (rE K Z (ev a)) tNil) σ H Q := by
  obtain ⟨F, g, ρ, rl, c⟩ := h
  unfold ev at c
  refine ⟨F, g, ρ, rl, c.bnd.imp fun s ρ1 c1 x F1 H1 g1 p1 m1 => ?_⟩
  obtain ⟨wa, ea, c3⟩ := c1.rd
  obtain ⟨w, ew, c5⟩ := c3.lft
  have hb := m1.drf p1.rl ea
  cases wa with
  | dic o kvs =>
    obtain ⟨p, vk, rfl, h1, h2⟩ := hb.dic p1.rl.sub
    have ew' : (match keysI kvs with | some (i :: is) => some (W.int (mns is i)) | _ => none) = some w := ew
    split at ew'
    · rename_i i is hk
      cases ew'
      refine ⟨p, vk, i :: is, rfl, h1, keysI_is h2 hk, by simp, fun m hm hle => ?_⟩
      obtain ⟨k1, k2⟩ := mns_of is i
      have e : m = mns is i := Int.le_antisymm (hle _ k1) (k2 _ hm)
      subst e
      obtain ⟨p4, tm⟩ := p1.nw (Nw.same (K := K) p1.rl.sub (.int (mns is i)))
      exact c5.ret _ F1 H1 g1 p4 tm
    · cases ew'
  | _ => cases ew
theorem mxd_rd {a : Ex} (h : rE K Z (ev (.mxd a)) σ H Q) : tCB (fun xs H Q => ∃ (a : Addr) (kvs : List (Key × V)) (ns : List Int), xs = [.ref a] ∧ H a = some (.dK kvs) ∧ kvs.map (·.1) = ns.map Sum.inl ∧ 0 < ns.length ∧ ∀ m, m ∈ ns → (∀ y, y ∈ ns → y ≤ m) → Q (.int m) H) (tCons (rE K Z (ev a)) tNil) σ H Q := by
  obtain ⟨F, g, ρ, rl, c⟩ := h
  unfold ev at c
  refine ⟨F, g, ρ, rl, c.bnd.imp fun s ρ1 c1 x F1 H1 g1 p1 m1 => ?_⟩
  obtain ⟨wa, ea, c3⟩ := c1.rd
  obtain ⟨w, ew, c5⟩ := c3.lft
  have hb := m1.drf p1.rl ea
  cases wa with
  | dic o kvs =>
    obtain ⟨p, vk, rfl, h1, h2⟩ := hb.dic p1.rl.sub
    have ew' : (match keysI kvs with | some (i :: is) => some (W.int (mxs is i)) | _ => none) = some w := ew
    split at ew'
    · rename_i i is hk
      cases ew'
      refine ⟨p, vk, i :: is, rfl, h1, keysI_is h2 hk, by simp, fun m hm hle => ?_⟩
      obtain ⟨k1, k2⟩ := mxs_of is i
      have e : m = mxs is i := Int.le_antisymm (k2 _ hm) (hle _ k1)
      subst e
      obtain ⟨p4, tm⟩ := p1.nw (Nw.same (K := K) p1.rl.sub (.int (mxs is i)))
      exact c5.ret _ F1 H1 g1 p4 tm
    · cases ew'
  | _ => cases ew
theorem rg_sh {F : Hp} {i j : Int} : ShL K F ((List.range (j - i).toNat).map fun k => W.int (i + (k : Nat))) (rgV i j) := by
  unfold rgV
  generalize List.range (j - i).toNat = l
  induction l with
  | nil => exact .nil
  | cons a r ih => exact .cons (.int _) ih
theorem lrng_rd {a b : Ex} (h : rE K Z (ev (.lrng a b)) σ H Q) : tLstRg (tRg2 (rE K Z (ev a)) (rE K Z (ev b))) σ H Q := by
  obtain ⟨F, g, ρ, rl, c⟩ := h
  unfold ev at c
  refine ⟨F, g, ρ, rl, c.bnd.imp fun s ρ1 c1 x F1 H1 g1 p1 m1 => ⟨F1, g1, ρ1, p1.rl, (c1.bnd.rebase p1).imp fun t ρ2 c2 y F2 H2 g2 p2 m2 => ?_⟩⟩
  obtain ⟨wa, ea, c3⟩ := c2.rd
  obtain ⟨wb, eb, c4⟩ := c3.rd
  obtain ⟨w, ew, c5⟩ := c4.lft
  have ha := (m1.later p2).drf p2.rl ea
  have hb := m2.drf p2.rl eb
  cases wa with
  | int i =>
    cases wb with
    | int j =>
      cases ha.int; cases hb.int
      have ew' : (if -100000 ≤ i ∧ i ≤ 100000 ∧ -100000 ≤ j ∧ j ≤ 100000 then some (W.lst true ((List.range (j - i).toNat).map fun k => W.int (i + (k : Nat)))) else none) = some w := ew
      split at ew'
      · rename_i cc
        cases ew'
        refine ⟨i, j, rfl, rfl, ⟨by omega, by omega, by omega, by omega, by omega⟩, fun q hq => ?_⟩
        obtain ⟨p3, tm⟩ := (p1.trans p2).nw (Nw.lst (K := K) p2.rl.sub hq (rg_sh (i := i) (j := j)))
        exact c5.ret _ _ _ g2 p3 tm
      · cases ew'
    | _ => cases ew
  | _ => cases ew
theorem recvD_rd {F F1 H1 : Hp} {g g1 : Gh} {ρ ρ1 : Rho} {t : T} {x : V} {α : Type} {k : Unit → M α} {C : α → Rho → Prop} (p1 : Ps K σ F H g ρ F1 H1 g1 ρ1) (m1 : Tm K σ H F1 H1 g1 ρ1 t x) (c1 : Ct K Z σ F H g ρ (bnd (recvD t) k) ρ1 C) :
    tyV K "dict" x H1 ∧ Ct K Z σ F H g ρ (k ()) ρ1 C := by
  obtain ⟨r, ρ', e, z⟩ := c1.bnd
  unfold recvD at e
  unfold bnd rd at e
  cases y : drf ρ1 t with
  | none => rw [y] at e; cases e
  | some w =>
    rw [y] at e
    cases w with
    | dic b xs =>
      cases e
      obtain ⟨a, vs, rfl, h1, _⟩ := (m1.drf p1.rl y).dic p1.rl.sub
      exact ⟨.inr (.inr (.inl ⟨rfl, .inl ⟨vs, h1⟩⟩)), z⟩
    | _ => cases e
def rGet (K : PySem.W.Frag) : V → List V → Hp → VK → Prop := fun x xs H Q => ∃ F w ws r, Sub F H ∧ Rb K F H w x ∧ ShL K F ws xs ∧ wGet w ws = some r ∧ ∀ v F' H' mk, Nw K F H r v F' H' mk → Q v H'
theorem dget_rd {o : Ex} {es : List Ex} (h : rE K Z (ev (.dget o es)) σ H Q) : tBM K "dict" (rGet K) (rE K Z (ev o)) (rAs K Z (evs es)) σ H Q := by
  obtain ⟨F, g, ρ, rl, c⟩ := h
  unfold ev at c
  refine ⟨F, g, ρ, rl, c.bnd.imp fun t ρ1 c1 x F1 H1 g1 p1 m1 => ?_⟩
  obtain ⟨hx, c1⟩ := recvD_rd p1 m1 c1
  refine ⟨hx, F1, g1, ρ1, p1.rl, (c1.bnd.rebase p1).imp fun ws ρ2 c2 vs F2 H2 g2 p2 l2 => ?_⟩
  obtain ⟨w, ew, c3⟩ := c2.rd
  obtain ⟨r, er, c4⟩ := c3.lft
  refine ⟨F2, w, ws, r, p2.rl.sub, (m1.later p2).drf p2.rl ew, l2, er, fun v F' H' mk nw => ?_⟩
  obtain ⟨p4, tm⟩ := (p1.trans p2).nw nw
  exact c4.ret v F' H' g2 p4 tm
end
theorem dget_none {K : PySem.W.Frag} {F : Hp} {k : Ky} : ∀ {kvs : List (Ky × W)} {vk : List (Key × V)}, ShK K F kvs vk → dget kvs k = none → valV vk k = none
  | _, _, .nil, h => rfl
  | _, _, .cons (k := g) (w := w') (ws := r) hw l, h => by
    have h' : (if g = k then some w' else dget r k) = none := h
    by_cases c : g = k
    · rw [if_pos c] at h'; cases h'
    · rw [if_neg c] at h'
      rw [valV_neg c]
      exact dget_none l h'
theorem mt_dget {X : Cx} (hu : X.A.units + 1 < cLine) : MtR X "dict.get" (rGet X.K) := by
  intro pins s σ H x xs v us Q I rx rxs ⟨F, w, ws, r, hs, hb, hl, e, q⟩
  cases w with
  | dic o kvs =>
    obtain ⟨a, vk, rfl, h1, h2⟩ := hb.dic hs
    cases (show v = Value.ref a from rx)
    have go : ∀ (k : Ky) (y z : V) (d : W), xs = [y, z] → y = kV k → Sh X.K F d z → some ((dget kvs k).getD d) = some r → wpAny (model X.prog X.w) X.A (call (.builtin "dict.get") (.ref a :: us)) (EP X pins σ Q) X.xe s := fun k y z d ex ey hz er => by
      subst ex ey
      cases rxs with
      | cons r1 rt =>
        cases rt with
        | cons r2 rt2 =>
          cases rt2
          cases hv : dget kvs k with
          | none =>
            rw [hv] at er
            cases er
            refine d_get2 (o := none) hu I (.inl ⟨vk, k, .inl h1, rfl, (dget_none h2 hv).symm⟩) r1 r2 fun w' s' I' rw' => ⟨z, H, I', rw', ?_⟩
            exact q _ F H _ (Nw.same hs hz)
          | some w1 =>
            rw [hv] at er
            cases er
            obtain ⟨v1, k1, k2⟩ := dget_val h2 hv
            refine d_get2 (o := some v1) hu I (.inl ⟨vk, k, .inl h1, rfl, k1.symm⟩) r1 r2 fun w' s' I' rw' => ⟨v1, H, I', rw', ?_⟩
            exact q _ F H _ (Nw.same hs k2)
    match ws, hl, e with
    | [.int i, d], .cons hk (.cons hz .nil), e =>
      cases hk
      exact go (.inl i) _ _ d rfl rfl hz e
    | [.str x, d], .cons hk (.cons hz .nil), e =>
      cases hk
      exact go (.inr x) _ _ d rfl rfl hz e
    | [.non, _], _, e => cases e
  | _ => cases e
end Rf
/-! methods of texts -/
namespace Rf
open PySem PySem.Spec PyProof.Rows L2
def tx0Id : Tx0 → String
  | .isdigit => "str.isdigit"
  | .upper => "str.upper"
def tx1Id : Tx1 → String
  | .split => "str.split"
  | .partition => "str.partition"
  | .join => "str.join"
def rTx0 (K : PySem.W.Frag) (m : Tx0) : V → List V → Hp → VK → Prop := fun x xs H Q => ∃ F w r, xs = [] ∧ Sub F H ∧ Rb K F H w x ∧ wTx0 m w = some r ∧ ∀ v F' H' mk, Nw K F H r v F' H' mk → Q v H'
def rTx1 (K : PySem.W.Frag) (m : Tx1) : V → List V → Hp → VK → Prop := fun x xs H Q => ∃ F w w2 y r, xs = [y] ∧ Sub F H ∧ Rb K F H w x ∧ Rb K F H w2 y ∧ wTx1 m w w2 = some r ∧ ∀ v F' H' mk, Nw K F H r v F' H' mk → Q v H'
theorem strV_sh {K : PySem.W.Frag} {F : Hp} : ∀ {ss : List Str}, ShL K F (ss.map W.str) (ss.map V.str)
  | [] => .nil
  | i :: r => .cons (.str i) strV_sh
theorem shl_strs {K : PySem.W.Frag} {F : Hp} : ∀ {xs : List W} {vs : List V} {is : List Str}, ShL K F xs vs → Rf.strsW xs = some is → vs = is.map V.str
  | _, _, is, .nil, h => by cases h; rfl
  | _, _, is, .cons (w := w) (ws := ws) hw l, h => by
    cases w with
    | str i =>
      have h' : (Rf.strsW ws).map (i :: ·) = some is := h
      obtain ⟨js, e, rfl⟩ := Option.map_eq_some_iff.mp h'
      cases hw
      rw [shl_strs l e]; rfl
    | _ => cases h
theorem mt_tx0 {X : Cx} (m : Tx0) : MtR X (tx0Id m) (rTx0 X.K m) := by
  intro pins s σ H x xs v us Q I rx rxs ⟨F, w, r, ex, hs, hb, e, q⟩
  cases m with
  | isdigit =>
    cases w with
    | str z =>
      cases hb.str; cases e
      exact mt_isdigit pins s σ H _ xs v us Q I rx rxs ⟨z, rfl, ex, trivial, q _ F H _ (Nw.same hs (.bl _))⟩
    | _ => cases e
  | upper =>
    cases w with
    | str z =>
      cases hb.str
      have e' : (if z.length < LIM then some (W.str (Txt.upper z)) else none) = some r := e
      split at e'
      · rename_i c
        cases e'
        exact mt_upper pins s σ H _ xs v us Q I rx rxs ⟨z, rfl, ex, by have : z.length < 1000000 := c; omega, q _ F H _ (Nw.same hs (.str _))⟩
      · cases e'
    | _ => cases e
theorem joinW_eq {a : Str} {ys : List W} {r : W} (h : joinW a ys = some r) : ∃ ss, strsW ys = some ss ∧ (ss.map (·.length)).sum + ss.length * a.length ≤ 16777216 ∧ r = .str (Txt.join a ss) := by
  unfold joinW at h
  cases e : strsW ys with
  | none => rw [e] at h; cases h
  | some ss =>
    rw [e] at h
    have h' : (if (ss.map (·.length)).sum + ss.length * a.length < LIM then some (W.str (Txt.join a ss)) else none) = some r := h
    split at h'
    · rename_i c
      cases h'
      exact ⟨ss, rfl, by have : (ss.map (·.length)).sum + ss.length * a.length < 1000000 := c; omega, rfl⟩
    · cases h'
theorem mt_tx1 {X : Cx} (m : Tx1) : MtR X (tx1Id m) (rTx1 X.K m) := by
  intro pins s σ H x xs v us Q I rx rxs ⟨F, w, w2, y, r, ex, hs, hb, hb2, e, q⟩
  subst ex
  cases m with
  | split =>
    cases w with
    | str a =>
      cases w2 with
      | str b =>
        cases hb.str; cases hb2.str
        have e' : (if b.length ≠ 0 ∧ a.length < LIM then some (W.lst true ((Txt.split a b).map .str)) else none) = some r := e
        split at e'
        · rename_i c
          cases e'
          refine mt_split pins s σ H _ _ v us Q I rx rxs ⟨a, b, rfl, rfl, by simpa using c.1, by have : a.length < 1000000 := c.2; show _ ≤ 2 ^ 24; omega, fun p hp => ?_⟩
          exact q _ _ _ _ (Nw.lst hs hp strV_sh)
        · cases e'
      | _ => cases e
    | _ => cases w2 <;> cases e
  | partition =>
    cases w with
    | str a =>
      cases w2 with
      | str b =>
        cases hb.str; cases hb2.str
        have e' : (if b.length ≠ 0 ∧ a.length < LIM then some (W.tup [.str (Txt.partition a b).1, .str (Txt.partition a b).2.1, .str (Txt.partition a b).2.2]) else none) = some r := e
        split at e'
        · rename_i c
          cases e'
          refine mt_partition pins s σ H _ _ v us Q I rx rxs ⟨a, b, rfl, rfl, by simpa using c.1, by have : a.length < 1000000 := c.2; show _ ≤ 2 ^ 24; omega, fun p hp => ?_⟩
          exact q _ _ _ _ (Nw.tup hs hp (.cons (.str _) (.cons (.str _) (.cons (.str _) .nil))))
        · cases e'
      | _ => cases e
    | _ => cases w2 <;> cases e
  | join =>
    cases w with
    | str a =>
      cases w2 with
      | lst o ys =>
        cases hb.str
        obtain ⟨p, vs, rfl, h1, h2⟩ := hb2.lst hs
        obtain ⟨ss, k1, k2, rfl⟩ := joinW_eq (show joinW a ys = some r from e)
        exact mt_join pins s σ H _ _ v us Q I rx rxs ⟨a, p, ss, rfl, rfl, .inl (SqL.of (shl_strs h2 k1 ▸ h1)), k2, q _ F H _ (Nw.same hs (.str _))⟩
      | tup ys =>
        cases hb.str
        obtain ⟨p, vs, rfl, h1, h2⟩ := hb2.tup hs
        obtain ⟨ss, k1, k2, rfl⟩ := joinW_eq (show joinW a ys = some r from e)
        exact mt_join pins s σ H _ _ v us Q I rx rxs ⟨a, p, ss, rfl, rfl, .inr (shl_strs h2 k1 ▸ h1), k2, q _ F H _ (Nw.same hs (.str _))⟩
      | _ => cases e
    | _ => cases w2 <;> cases e
section
variable {K : PySem.W.Frag} {Z : WX} {σ : L2.St} {H : Hp} {Q : VK}
theorem recvS_rd {F F1 H1 : Hp} {g g1 : Gh} {ρ ρ1 : Rho} {t : T} {x : V} {α : Type} {k : Unit → M α} {C : α → Rho → Prop} (p1 : Ps K σ F H g ρ F1 H1 g1 ρ1) (m1 : Tm K σ H F1 H1 g1 ρ1 t x) (c1 : Ct K Z σ F H g ρ (bnd (recvS t) k) ρ1 C) :
    (∃ a, x = .str a) ∧ Ct K Z σ F H g ρ (k ()) ρ1 C := by
  obtain ⟨r, ρ', e, z⟩ := c1.bnd
  unfold recvS at e
  unfold bnd rd at e
  cases y : drf ρ1 t with
  | none => rw [y] at e; cases e
  | some w =>
    rw [y] at e
    cases w with
    | str b =>
      cases e
      have hb := m1.drf p1.rl y
      cases hb.str
      exact ⟨⟨b, rfl⟩, z⟩
    | _ => cases e
theorem tx0_rd {o : Ex} {m : Tx0} (h : rE K Z (ev (.tx0 o m)) σ H Q) : tM0 (rTx0 K m) (rE K Z (ev o)) σ H Q := by
  obtain ⟨F, g, ρ, rl, c⟩ := h
  unfold ev at c
  refine ⟨F, g, ρ, rl, c.bnd.imp fun t ρ1 c1 x F1 H1 g1 p1 m1 => ?_⟩
  obtain ⟨hx, c1⟩ := recvS_rd p1 m1 c1
  refine ⟨hx, ?_⟩
  obtain ⟨wa, ea, c3⟩ := c1.rd
  obtain ⟨w, ew, c5⟩ := c3.lft
  refine ⟨F1, wa, w, rfl, p1.rl.sub, m1.drf p1.rl ea, ew, fun v F' H' mk nw => ?_⟩
  obtain ⟨p4, tm⟩ := p1.nw nw
  exact c5.ret v F' H' g1 p4 tm
theorem tx1_rd {o e : Ex} {m : Tx1} (h : rE K Z (ev (.tx1 o m e)) σ H Q) : tM1 (rTx1 K m) (rE K Z (ev o)) (rE K Z (ev e)) σ H Q := by
  obtain ⟨F, g, ρ, rl, c⟩ := h
  unfold ev at c
  refine ⟨F, g, ρ, rl, c.bnd.imp fun t ρ1 c1 x F1 H1 g1 p1 m1 => ?_⟩
  obtain ⟨hx, c1⟩ := recvS_rd p1 m1 c1
  refine ⟨hx, F1, g1, ρ1, p1.rl, (c1.bnd.rebase p1).imp fun u ρ2 c2 y F2 H2 g2 p2 m2 => ?_⟩
  obtain ⟨wa, ea, c3⟩ := c2.rd
  obtain ⟨wb, eb, c4⟩ := c3.rd
  obtain ⟨r, er, c5⟩ := c4.lft
  refine ⟨F2, wa, wb, y, r, rfl, p2.rl.sub, (m1.later p2).drf p2.rl ea, m2.drf p2.rl eb, er, fun v F' H' mk nw => ?_⟩
  obtain ⟨p4, tm⟩ := (p1.trans p2).nw nw
  exact c5.ret v F' H' g2 p4 tm
end
end Rf
namespace Rf
open PySem PySem.Spec PyProof.Rows L2
theorem assoc_bnd {α β γ : Type} (m : M α) (f : α → M β) (k : β → M γ) : bnd (bnd m f) k = bnd m fun a => bnd (f a) k := by
  funext ρ
  unfold bnd
  cases m ρ with
  | none => rfl
  | some p => obtain ⟨r, ρ'⟩ := p; cases r <;> rfl
section
variable {X : Cx} {Z : WX}
inductive PEL (X : Cx) (Z : WX) : List Expr → List Ex → Prop
  | nil : PEL X Z [] []
  | cons {e : Expr} {b : Ex} {es : List Expr} {bs : List Ex} : PE X e (rE X.K Z (ev b)) → PEL X Z es bs → PEL X Z (e :: es) (b :: bs)
theorem wCmp_bl {o : Cop} {a b w : W} (h : wCmp o a b = some w) : ∃ k, w = .bl k := by
  unfold wCmp at h
  split at h
  · split at h
    · cases h; exact ⟨_, rfl⟩
    · split at h
      · cases h; exact ⟨_, rfl⟩
      · split at h
        · cases h; exact ⟨_, rfl⟩
        · cases h
  · split at h
    · cases h; exact ⟨_, rfl⟩
    · cases h
  · cases h; exact ⟨_, rfl⟩
  · cases h; exact ⟨_, rfl⟩
  · cases h; exact ⟨_, rfl⟩
  · cases h; exact ⟨_, rfl⟩
  · obtain ⟨k, _, rfl⟩ := Option.map_eq_some_iff.mp h; exact ⟨_, rfl⟩
  · obtain ⟨k, _, rfl⟩ := Option.map_eq_some_iff.mp h; exact ⟨_, rfl⟩
  · obtain ⟨k, _, rfl⟩ := Option.map_eq_some_iff.mp h; exact ⟨_, rfl⟩
  · obtain ⟨k, _, rfl⟩ := Option.map_eq_some_iff.mp h; exact ⟨_, rfl⟩
  · cases h
/-- one comparison -/
theorem cmp_step (hu : X.A.units + 64 < cLine) {o : Cop} {pins : List (Addr × Obj)} {s2 : Shared} {σ : L2.St} {F H F1 H1 F2 H2 : Hp} {g g1 g2 : Gh} {ρ ρ1 ρ2 : Rho} {x y : V} {v u : Value} {s t : T} {wa wb w : W} {Q : Value → Shared → Prop}
    (I : Inv X pins σ H2 s2) (rx : RelV x v) (ry : RelV y u) (p1 : Ps X.K σ F H g ρ F1 H1 g1 ρ1) (m1 : Tm X.K σ H F1 H1 g1 ρ1 s x) (p2 : Ps X.K σ F1 H1 g1 ρ1 F2 H2 g2 ρ2) (m2 : Tm X.K σ H1 F2 H2 g2 ρ2 t y)
    (ea : drf ρ2 s = some wa) (eb : drf ρ2 t = some wb) (ew : wCmp o wa wb = some w)
    (h : ∀ k s3 F3 H3 mk, w = .bl k → Inv X pins σ H3 s3 → Nw X.K F2 H2 (.bl k) (.bl k) F3 H3 mk → Q (.bool k) s3) : wpAny (model X.prog X.w) X.A (compareOp (cmpOf o) v u) Q X.xe s2 := by
  refine thn (cmp_ok hu o pins s2 σ H2 x y v u (fun z H3 => ∃ k F3 mk, w = .bl k ∧ z = .bl k ∧ Nw X.K F2 H2 (.bl k) z F3 H3 mk) I rx ry ⟨F2, wa, wb, w, p2.rl.sub, (m1.later p2).drf p2.rl ea, m2.drf p2.rl eb, ew, fun z F3 H3 mk nw => ?_⟩) fun c s3 ⟨z, H3, I3, r3, k, F3, mk, hw, hz, nw⟩ => ?_
  · obtain ⟨k, rfl⟩ := wCmp_bl ew
    have : z = .bl k := Rb.bl ⟨_, nw.ow⟩
    exact ⟨k, F3, mk, rfl, this, nw⟩
  · subst hz
    cases r3
    exact h k s3 F3 H3 mk hw I3 nw
theorem pe_cps {e : Expr} {t : TE} (pe : PE X e t) {pins : List (Addr × Obj)} {s : Shared} {σ : L2.St} {H : Hp} (I : Inv X pins σ H s) {G : Value → Shared → Prop}
    (h : t σ H fun y H2 => ∀ u s2, Inv X pins σ H2 s2 → RelV y u → G u s2) : wpAny (model X.prog X.w) X.A (eval e X.env) G X.xe s :=
  thn (pe.run pins s σ H _ I h) fun u s2 ⟨_, _, I2, r2, k⟩ => k u s2 I2 r2
theorem chain_run (hu : X.A.units + 64 < cLine) {pos : Pos} {pins : List (Addr × Obj)} {σ : L2.St} {F H : Hp} {g : Gh} {ρ : Rho} {Q : VK} {C : T → Rho → Prop}
    (hC : ∀ t ρ', C t ρ' → ∀ v F' H' g', Ps X.K σ F H g ρ F' H' g' ρ' → Tm X.K σ H F' H' g' ρ' t v → Q v H') :
    ∀ (os : List Cop) {es : List Expr} {bs : List Ex} {s : T} {F1 H1 : Hp} {g1 : Gh} {ρ1 : Rho} {x : V} {v : Value} {s1 : Shared}, os.length = es.length → PEL X Z es bs → Inv X pins σ H1 s1 → RelV x v → Ps X.K σ F H g ρ F1 H1 g1 ρ1 → Tm X.K σ H F1 H1 g1 ρ1 s x →
      Ct X.K Z σ F H g ρ (evC s os bs) ρ1 C → wpAny (model X.prog X.w) X.A (compareChain pos v (os.map cmpOf) (evalEach es X.env)) (EP X pins σ Q) X.xe s1 := by
  intro os
  induction os with
  | nil =>
    intro es bs s F1 H1 g1 ρ1 x v s1 ln hl I rx p1 m1 c
    cases hl <;> (unfold evC at c; exact c.stuck.elim)
  | cons o os ih =>
    intro es bs s F1 H1 g1 ρ1 x v s1 ln hl I rx p1 m1 c
    cases hl with
    | nil => cases ln
    | cons pe hl =>
      rename_i e b es bs
      cases os with
      | nil =>
        cases hl with
        | cons _ _ => simp at ln
        | nil =>
          unfold evC at c
          refine chain_last (pe_cps pe I ⟨F1, g1, ρ1, p1.rl, (c.bnd.rebase p1).imp fun t ρ2 c2 y F2 H2 g2 p2 m2 u s2 I2 r2 => ?_⟩)
          obtain ⟨wa, ea, c3⟩ := c2.rd
          obtain ⟨wb, eb, c4⟩ := c3.rd
          obtain ⟨w, ew, c5⟩ := c4.lft
          refine cmp_step hu I2 rx r2 p1 m1 p2 m2 ea eb ew fun k s3 F3 H3 mk hw I3 nw => ?_
          subst hw
          obtain ⟨p3, tm⟩ := (p1.trans p2).nw nw
          exact ⟨.bl k, H3, I3, rfl, hC _ _ c5.ret (.bl k) F3 H3 g2 p3 tm⟩
      | cons o' os =>
        cases hl with
        | nil => simp at ln
        | cons pe' hl' =>
          rename_i e' b' es bs
          unfold evC at c
          refine chain_link (pe_cps pe I ⟨F1, g1, ρ1, p1.rl, (c.bnd.rebase p1).imp fun t ρ2 c2 y F2 H2 g2 p2 m2 u s2 I2 r2 => ?_⟩)
          obtain ⟨wa, ea, c3⟩ := c2.rd
          obtain ⟨wb, eb, c4⟩ := c3.rd
          obtain ⟨w, ew, c5⟩ := c4.lft
          refine cmp_step hu I2 rx r2 p1 m1 p2 m2 ea eb ew fun k s3 F3 H3 mk hw I3 nw => ?_
          subst hw
          obtain ⟨p3, tm⟩ := (p1.trans p2).nw nw
          obtain ⟨k', ek, c6⟩ := c5.lft
          cases ek
          refine wpAny_truthy_bool ?_
          cases k with
          | false => exact ite_ff ⟨.bl false, H3, I3, rfl, hC _ _ c6.ret (.bl false) F3 H3 g2 p3 tm⟩
          | true =>
            have pn : Ps X.K σ F2 H2 g2 ρ2 F3 H3 g2 ρ2 := ((Ps.refl p2.rl).nw nw).1
            exact ite_tt (ih (by simpa using ln) (.cons pe' hl') I3 r2 p3 ((m2.later pn).start p1.le) c6)
/-- .. as a test -/
theorem test_run (hu : X.A.units + 64 < cLine) {pos : Pos} {pins : List (Addr × Obj)} {σ : L2.St} {F H : Hp} {g : Gh} {ρ : Rho} {Q : Bool → Hp → Prop} {C : Bool → Rho → Prop}
    (hC : ∀ k ρ', C k ρ' → ∀ F' H' g', Ps X.K σ F H g ρ F' H' g' ρ' → Q k H') :
    ∀ (os : List Cop) {es : List Expr} {bs : List Ex} {s : T} {F1 H1 : Hp} {g1 : Gh} {ρ1 : Rho} {x : V} {v : Value} {s1 : Shared}, os.length = es.length → PEL X Z es bs → Inv X pins σ H1 s1 → RelV x v → Ps X.K σ F H g ρ F1 H1 g1 ρ1 → Tm X.K σ H F1 H1 g1 ρ1 s x →
      Ct X.K Z σ F H g ρ (bnd (evC s os bs) tru) ρ1 C → wpAny (model X.prog X.w) X.A (testChain pos v (os.map cmpOf) (evalEach es X.env)) (TP X pins σ Q) X.xe s1 := by
  have fin : ∀ {k : Bool} {ρ2 : Rho}, Ct X.K Z σ F H g ρ (bnd (ret (.val (.bl k))) tru) ρ2 C → C k ρ2 := fun {k ρ2} c => by
    obtain ⟨r, ρ', e, z⟩ := c
    cases e
    exact z
  intro os
  induction os with
  | nil =>
    intro es bs s F1 H1 g1 ρ1 x v s1 ln hl I rx p1 m1 c
    cases hl <;> (unfold evC at c; exact c.bnd.stuck.elim)
  | cons o os ih =>
    intro es bs s F1 H1 g1 ρ1 x v s1 ln hl I rx p1 m1 c
    cases hl with
    | nil => cases ln
    | cons pe hl =>
      rename_i e b es bs
      cases os with
      | nil =>
        cases hl with
        | cons _ _ => simp at ln
        | nil =>
          unfold evC at c
          rw [assoc_bnd] at c
          refine test_last (pe_cps pe I ⟨F1, g1, ρ1, p1.rl, (c.bnd.rebase p1).imp fun t ρ2 c2 y F2 H2 g2 p2 m2 u s2 I2 r2 => ?_⟩)
          rw [assoc_bnd] at c2
          obtain ⟨wa, ea, c3⟩ := c2.rd
          rw [assoc_bnd] at c3
          obtain ⟨wb, eb, c4⟩ := c3.rd
          rw [assoc_bnd] at c4
          obtain ⟨w, ew, c5⟩ := c4.lft
          refine cmp_step hu I2 rx r2 p1 m1 p2 m2 ea eb ew fun k s3 F3 H3 mk hw I3 nw => ?_
          subst hw
          obtain ⟨p3, tm⟩ := (p1.trans p2).nw nw
          exact wpAny_truthy_bool ⟨H3, I3, hC _ _ (fin c5) F3 H3 g2 p3⟩
      | cons o' os =>
        cases hl with
        | nil => simp at ln
        | cons pe' hl' =>
          rename_i e' b' es bs
          unfold evC at c
          rw [assoc_bnd] at c
          refine test_link (pe_cps pe I ⟨F1, g1, ρ1, p1.rl, (c.bnd.rebase p1).imp fun t ρ2 c2 y F2 H2 g2 p2 m2 u s2 I2 r2 => ?_⟩)
          rw [assoc_bnd] at c2
          obtain ⟨wa, ea, c3⟩ := c2.rd
          rw [assoc_bnd] at c3
          obtain ⟨wb, eb, c4⟩ := c3.rd
          rw [assoc_bnd] at c4
          obtain ⟨w, ew, c5⟩ := c4.lft
          refine cmp_step hu I2 rx r2 p1 m1 p2 m2 ea eb ew fun k s3 F3 H3 mk hw I3 nw => ?_
          subst hw
          obtain ⟨p3, tm⟩ := (p1.trans p2).nw nw
          rw [assoc_bnd] at c5
          obtain ⟨k', ek, c6⟩ := c5.lft
          cases ek
          refine wpAny_truthy_bool ?_
          cases k with
          | false => exact ite_ff ⟨H3, I3, hC _ _ (fin c6) F3 H3 g2 p3⟩
          | true =>
            have pn : Ps X.K σ F2 H2 g2 ρ2 F3 H3 g2 ρ2 := ((Ps.refl p2.rl).nw nw).1
            exact ite_tt (ih (by simpa using ln) (.cons pe' hl') I3 r2 p3 ((m2.later pn).start p1.le) c6)
theorem lastMarks_one {op : CmpOp} {e : Expr} (h : lastMarks [op] [e] = false) : behindInMarks op e = false := by simpa [lastMarks] using h
theorem pe_cmps (hu : X.A.units + 64 < cLine) {a : Expr} {a' : Ex} {os : List Cop} {es : List Expr} {bs : List Ex} {pos : Pos} (ha : PE X a (rE X.K Z (ev a'))) (hl : PEL X Z es bs) (ln : os.length = es.length) (hm : lastMarks (os.map cmpOf) es = false) (ne : es ≠ []) :
    PE X (.Compare a (os.map cmpOf) es pos) (rE X.K Z (ev (.cmp a' os bs))) := by
  refine ⟨fun pins s σ H Q I ⟨F, g, ρ, rl, c⟩ => ?_⟩
  unfold ev at c
  show wpAny (model X.prog X.w) X.A (do compareChain pos (← eval a X.env) (os.map cmpOf) (markedEach (os.map cmpOf) es (evalEach es X.env))) _ _ s
  rw [markedEach_of_false _ _ _ hm]
  refine wpAny_bind (pe_cps ha I ⟨F, g, ρ, rl, c.bnd.imp fun t ρ1 c1 x F1 H1 g1 p1 m1 u s1 I1 r1 => ?_⟩)
  exact chain_run (Z := Z) hu (fun t ρ' h => h) os ln hl I1 r1 p1 m1 c1
theorem pt_cmps (hu : X.A.units + 64 < cLine) {a : Expr} {a' : Ex} {os : List Cop} {es : List Expr} {bs : List Ex} {pos : Pos} (ha : PE X a (rE X.K Z (ev a'))) (hl : PEL X Z es bs) (ln : os.length = es.length) (hm : lastMarks (os.map cmpOf) es = false) (ne : es ≠ []) :
    PT X (.Compare a (os.map cmpOf) es pos) (rT X.K Z (ev (.cmp a' os bs))) := by
  refine ⟨fun pins s σ H Q I ⟨F, g, ρ, rl, c⟩ => ?_⟩
  unfold ev at c
  rw [assoc_bnd] at c
  show wpAny (model X.prog X.w) X.A (do testChain pos (← eval a X.env) (os.map cmpOf) (markedEach (os.map cmpOf) es (evalEach es X.env))) _ _ s
  rw [markedEach_of_false _ _ _ hm]
  refine wpAny_bind (pe_cps ha I ⟨F, g, ρ, rl, c.bnd.imp fun t ρ1 c1 x F1 H1 g1 p1 m1 u s1 I1 r1 => ?_⟩)
  exact test_run (Z := Z) hu (fun t ρ' h => h) os ln hl I1 r1 p1 m1 c1
end
end Rf
namespace Rf
open PySem PySem.Spec PyProof.Rows L2
/-! ### the syntax's small laws -/
theorem plainO_base {o : Expr} {f : Str} {env : Env} {w : Sem Value} (h : plainO o = true) : attributeBase o f env w = w := by
  unfold attributeBase
  split
  · cases h
  · rfl
theorem star_cons {e : Expr} {es : List Expr} {env : Env} (h : notStar e = true) : starEach (e :: es) env = (false, eval e env) :: starEach es env := by
  cases e <;> first | rfl | cases h
theorem star_none {env : Env} {pos : Pos} : ∀ {es : List Expr}, es.all notStar = true → (backTo pos (starEach es env)).any (·.1) = false
  | [], _ => rfl
  | e :: es, h => by
    rw [List.all_cons, Bool.and_eq_true] at h
    rw [star_cons h.1]
    show (false || (backTo pos (starEach es env)).any (·.1)) = false
    rw [star_none h.2]
    rfl
theorem star_all {env : Env} {pos : Pos} : ∀ {es : List Expr}, es.all notStar = true → (backTo pos (starEach es env)).all (fun x => !x.1) = true
  | [], _ => rfl
  | e :: es, h => by
    rw [List.all_cons, Bool.and_eq_true] at h
    rw [star_cons h.1]
    show (true && (backTo pos (starEach es env)).all fun x => !x.1) = true
    rw [star_all h.2]
    rfl
theorem star_len {env : Env} {pos : Pos} : ∀ {es : List Expr}, es.all notStar = true → (backTo pos (starEach es env)).length = es.length
  | [], _ => rfl
  | e :: es, h => by
    rw [List.all_cons, Bool.and_eq_true] at h
    rw [star_cons h.1]
    exact congrArg (· + 1) (star_len (pos := pos) h.2)
theorem plainIx_of {b : Expr} (h : isSlice b = false) : PlainIx b := fun o i => by
  cases b <;> first | rfl | cases h
/-- a method call's tree -/
theorem meth_tree {o : Expr} {m : Str} {apos pos : Pos} {es : List Expr} {env : Env} (ho : plainO o = true) (hs : es.all notStar = true) (hl : (apos.endLine == pos.line) = true) (hn : es.length < 20) :
    eval (.Call (.Attribute o m apos) es [] pos) env = (do
      let ov ← eval o env
      standAt apos.atName
      let (f, first) ← holding [ov] (getMethod ov m (plainOf o env))
      callWith pos f first (backTo pos (starEach es env)) (backToKw pos (keywordEach [] env))) := by
  show (do
    let ov ← attributeBase o m env (eval o env)
    standAt apos.atName
    methodCall o m apos pos env ov (es.length + ([] : List Keyword).length) (backTo pos (starEach es env)) (backToKw pos (keywordEach [] env))) = _
  rw [plainO_base ho]
  have key : ∀ ov, methodCall o m apos pos env ov (es.length + ([] : List Keyword).length) (backTo pos (starEach es env)) (backToKw pos (keywordEach [] env)) =
      (do let (f, first) ← holding [ov] (getMethod ov m (plainOf o env)); callWith pos f first (backTo pos (starEach es env)) (backToKw pos (keywordEach [] env))) := fun ov =>
    mcall_line (by
      unfold methodCallForm
      rw [star_all hs]
      show (true && true && decide (es.length + 0 + 0 < 30)) = true
      rw [decide_eq_true (by omega)]
      rfl) hl
  simp only [key]
/-! ### what an exception's class must say -/
structure XcF (K : PySem.W.Frag) (C : Addr) : Prop where
  cl : (PySem.W.clsIn K C).isSome = true
  ga : PySem.W.findIn K (.ref C) "__getattribute__" = some (some (.builtin "BaseException.__getattribute__"))
  gg : PySem.W.findIn K (.ref C) "__getattr__" = some none
  ex : PySem.W.subIn K (.ref C) (.type "BaseException") = some true
  hd : PySem.W.hasDictIn K C = true
  hc : PySem.W.findIn K (.ref C) "__class__" = some (some (.builtin "object.__class__"))
  hg : PySem.W.specialIn K (.builtin "object.__class__") "__get__" = some (some (.builtin "getset_descriptor.__get__"))
  ht : PySem.W.takesIn K (.builtin "object.__class__") = some true
  ho : PySem.W.mroIn K C (.type "object") = some true
section
variable {X : Cx}
/-- a caught exception, as it stands in the heap -/
theorem exc_at {pins : List (Addr × Obj)} {σ : L2.St} {H F : Hp} {s : Shared} {C : String} {fs : List (String × W)} {v : V} (I : Inv X pins σ H s) (hs : Sub F H) (h : Sh X.K F (.exc C fs) v) :
    ∃ a ox od, v = .ref a ∧ PySem.W.InstAt s.heap a ox (cad X.K C) od ∧ ∀ f w, fs.lookup f = some w → ∃ u o, od = some o ∧ Sh X.K F w u ∧ ∃ uv, RelV u uv ∧ PySem.W.lookIn (nm f) o = some (some uv) := by
  cases h with
  | exc hF hd hf =>
    rename_i a d vf
    obtain ⟨⟨oe, vs, h1, h2, h3, h4⟩, _, _⟩ := (show ObjOk X.prog X.w H s.heap a (exO _ d a) from I.hok a _ (hs _ _ hF))
    have nc : PySem.W.notCls oe = true := by
      unfold PySem.W.notCls
      rw [h4] <;> rfl
    rcases hd with ⟨rfl, rfl⟩ | ⟨dd, rfl, hdd⟩
    · exact ⟨a, oe, none, rfl, ⟨h1, h2, nc, by rw [h3]; trivial⟩, fun f w e => by cases e⟩
    · obtain ⟨mA, hns, hr⟩ := (show ObjOk X.prog X.w H s.heap dd (.xd vf) from I.hok dd _ (hs _ _ hdd))
      obtain ⟨od, ho, hl⟩ := lookIn_ns hns
      refine ⟨a, oe, some od, rfl, ⟨h1, h2, nc, by rw [h3]; exact ho⟩, fun f w e => ?_⟩
      have get : ∀ {fs : List (String × W)} {vf : List (Str × V)}, ShF X.K F fs vf → fs.lookup f = some w → ∃ u, vf.lookup (nm f) = some u ∧ Sh X.K F w u := by
        intro fs vf h
        induction fs generalizing vf with
        | nil => intro e; cases e
        | cons p r ih =>
          intro e
          cases h with
          | cons a b =>
            rename_i k y v vs
            by_cases c : f = k
            · subst c
              simp only [List.lookup_cons, beq_self_eq_true] at e ⊢
              cases e
              exact ⟨v, rfl, a⟩
            · have c1 : (f == k) = false := by simp [c]
              have c2 : (nm f == nm k) = false := by
                have : nm f ≠ nm k := fun z => c (nm_inj z)
                simp [this]
              simp only [List.lookup_cons, c1] at e
              simp only [List.lookup_cons, c2]
              exact ih b e
      obtain ⟨u, e1, e2⟩ := get hf e
      obtain ⟨uv, k1, k2⟩ := RelO.some_of (v := u) (o := mA (nm f)) (by rw [← e1]; exact hr (nm f))
      exact ⟨u, od, rfl, e2, uv, k2, by rw [hl, k1]⟩
/-- e.f -/
theorem fld_pe {Z : WX} {e : Expr} {e' : Ex} {f : String} {Cs Xs : List String} {pos : Pos} (hp : plainO e = true) (he : PE X e (rE X.K Z (ev e'))) (hC : ∀ C ∈ Cs, Cls X.K (cad X.K C) ∧ NoAttr X.K (cad X.K C) (nm f))
    (hX : ∀ C ∈ Xs, XcF X.K (cad X.K C) ∧ PySem.W.findIn X.K (.ref (cad X.K C)) (nm f) = some none) : PE X (.Attribute e (nm f) pos) (rE X.K Z (ev (.fld e' f Cs Xs))) := by
  refine ⟨fun pins s σ H Q I ⟨F, g, ρ, rl, c⟩ => ?_⟩
  unfold ev at c
  refine attr_of (plainO_base hp) (pe_cps he I ⟨F, g, ρ, rl, c.bnd.imp fun t ρ1 c1 x F1 H1 g1 p1 m1 u s1 I1 r1 => ?_⟩)
  cases t with
  | pl i f0 => cases f0 with
    | some _ => exact c1.stuck.elim
    | none =>
      obtain ⟨r, ρ', e1, z⟩ := c1
      dsimp only at e1
      cases sl : slot ρ1 i with
      | none => rw [sl] at e1; cases e1
      | some w => cases w with
        | ins o C fs => cases o with
          | false => rw [sl] at e1; cases e1
          | true =>
            rw [sl] at e1
            dsimp only at e1
            split at e1
            · rename_i hmem
              cases lk : fs.lookup f with
              | none => rw [lk] at e1; cases e1
              | some w =>
                rw [lk] at e1
                dsimp only at e1
                cases e1
                obtain ⟨c1, c2⟩ := hC C hmem
                have hx : σ[i]? = some (some x) := m1
                have gp : getP ρ1 i (some f) = some w := by
                  show (slot ρ1 i).bind (fun w => getF w f) = some w
                  rw [sl]; exact lk
                obtain ⟨C', fs', b, dx, vf, uu, s1', s2, s3, s4, s5, s6, s7, s8, s9⟩ := p1.rl.field gp (.inr ⟨C, fs, sl⟩)
                rw [sl] at s1'; cases s1'
                rw [hx] at s3; cases s3
                cases r1
                refine getattr_ok I1 s4 c1 c2 s7 fun u' s2' I2 r2 => ⟨uu, H1, I2, r2, z uu F1 H1 g1 p1 ?_⟩
                cases o : own w with
                | false => exact Tm.of (s8.sh o)
                | true =>
                  refine ⟨s9, w, gp, ?_⟩
                  cases w with
                  | lst _ _ => rfl
                  | dic _ _ => rfl
                  | ins o' _ _ => cases s8
                  | _ => cases o
            · cases e1
        | _ => rw [sl] at e1; cases e1
  | val w =>
    cases w with
    | exc C fs =>
      obtain ⟨r, ρ', e1, z⟩ := c1
      dsimp only at e1
      split at e1
      · rename_i hmem
        cases lk : fs.lookup f with
        | none => rw [lk] at e1; cases e1
        | some w =>
          rw [lk] at e1
          cases e1
          obtain ⟨mk, _, hO⟩ := m1
          have hsh : Sh X.K F1 (.exc C fs) x := hO.sh rfl
          obtain ⟨k1, k2⟩ := hX C hmem
          obtain ⟨a, ox, od, rfl, J, get⟩ := exc_at I1 p1.rl.sub hsh
          obtain ⟨uu, o, rfl, h1, uv, h2, h3⟩ := get f w lk
          cases r1
          exact HandSPX.exc_get I1.kIn J k1.ga k1.gg k1.ex (PySem.W.findObj_own k1.hd k2 rfl (by rw [h3])) (handed_of h2) ⟨uu, H1, I1.tok _, h2, z uu F1 H1 g1 p1 (Tm.of h1)⟩
      · cases e1
    | _ => exact c1.stuck.elim
/-! ### isinstance -/
def tyNm : W → Option String
  | .non => some "NoneType"
  | .bl _ => some "bool"
  | .int _ => some "int"
  | .str _ => some "str"
  | .tup _ => some "tuple"
  | .lst _ _ => some "list"
  | .scr _ => some "list"
  | .dic _ _ => some "dict"
  | _ => none
def tys : List String := ["int", "bool", "tuple", "list", "str", "dict"]
theorem isi_kit {w : W} {T : String} {k : Bool} (hT : T ∈ tys) (h : wIsi w T = some k) : ∃ n, tyNm w = some n ∧ kitB n T = some k := by
  have ht : T = "int" ∨ T = "bool" ∨ T = "tuple" ∨ T = "list" ∨ T = "str" ∨ T = "dict" := by simpa [tys] using hT
  cases w <;> first | (cases h; done) | skip
  all_goals refine ⟨_, rfl, ?_⟩
  all_goals rcases ht with rfl | rfl | rfl | rfl | rfl | rfl <;> (cases h; decide +kernel)
theorem tyx_of {K : PySem.W.Frag} {F H : Hp} {w : W} {x : V} {n : String} (hs : Sub F H) (h : Rb K F H w x) (e : tyNm w = some n) : TyX K H x (.type n) := by
  cases w with
  | non => cases h.non; cases e; exact .base .non
  | bl b => cases h.bl; cases e; exact .base (.bl b)
  | int i => cases h.int; cases e; exact .base (.int i)
  | str z => cases h.str; cases e; exact .base (.str z)
  | tup xs =>
    obtain ⟨a, vs, rfl, h1, _⟩ := h.tup hs
    cases e
    rcases h1 with (h1 | ⟨o, h1⟩) | ⟨o, its, n, h1, h2, _⟩
    · exact .base (.tup h1)
    · exact .fTuple h1
    · exact .kTuple h1 h2
  | lst o xs =>
    obtain ⟨a, vs, rfl, h1, _⟩ := h.lst hs
    cases e
    exact .base (.lst h1)
  | scr ns =>
    obtain ⟨a, rfl, h1⟩ := h.scr hs
    cases e
    rcases h1 with (h1 | ⟨o, h1⟩) | ⟨o, its, n, h1, h2, _⟩
    · exact .base (.lst h1)
    · exact .base (.frz h1)
    · exact .kList h1 h2
  | dic o xs =>
    obtain ⟨a, vs, rfl, h1, _⟩ := h.dic hs
    cases e
    exact .base (.dK h1)
  | _ => cases e
theorem isi_rd {Z : WX} {K : PySem.W.Frag} {σ : L2.St} {H : Hp} {Q : VK} {a : Ex} {T : String} (hT : T ∈ tys) (h : rE K Z (ev (.isi a T)) σ H Q) : tCB (rIsi K) (tCons (rE K Z (ev a)) (tCons (tC (.ty T)) tNil)) σ H Q := by
  obtain ⟨F, g, ρ, rl, c⟩ := h
  unfold ev at c
  refine ⟨F, g, ρ, rl, c.bnd.imp fun s ρ1 c1 x F1 H1 g1 p1 m1 => ?_⟩
  obtain ⟨w, ew, c2⟩ := c1.rd
  obtain ⟨k, ek, c3⟩ := c2.lft
  obtain ⟨n, h1, h2⟩ := isi_kit hT ek
  exact ⟨x, .ty T, _, _, k, rfl, .ty T, tyx_of p1.rl.sub (m1.drf p1.rl ew) h1, kit_ty h2, c3.ret _ F1 H1 g1 p1 (Tm.of (.bl k))⟩
/-- isinstance(e, D), e a caught exception -/
theorem isx_pe {Z : WX} {a t : Expr} {a' : Ex} {D : String} {Xs : List String} {c : V} {cv : Value} {p pos : Pos} (ha : PE X a (rE X.K Z (ev a'))) (ht : PE X t (tC c)) (hc : ∀ u, RelV c u → u = cv) (na : notStar a = true) (nt : notStar t = true)
    (hX : ∀ C ∈ Xs, XcF X.K (cad X.K C) ∧ PySem.W.kitOne X.K (.ref (cad X.K C)) cv = some ((excUp C).contains D)) (hN : PySem.W.kitOne X.K (.type "NoneType") cv = some false) (hg : Gl X "isinstance") (hm : X.mg "isinstance" = none) :
    PE X (.Call (.Name "isinstance" p) [a, t] [] pos) (rE X.K Z (ev (.isx a' D Xs))) := by
  have rule : CallR X (.builtin "isinstance") (fun xs H Q => (∃ (F : Hp) (C : String) (fs : List (String × W)) (x : V), xs = [x, c] ∧ C ∈ Xs ∧ Sub F H ∧ Sh X.K F (.exc C fs) x ∧ Q (.bl ((excUp C).contains D)) H) ∨ (xs = [.non, c] ∧ Q (.bl false) H)) := by
    intro pins s σ H xs us Q I r h
    rcases h with ⟨F, C, fs, x, ex, hmem, hs, hsh, q⟩ | ⟨ex, q⟩
    rotate_left
    · subst ex
      obtain ⟨u1, u2, rfl, r1, r2⟩ := vals2 r
      cases r1
      cases hc _ r2
      exact PySem.W.kia_one PySem.W.kitx_none I.kIn trivial hN (fun z => nomatch z) fun tk => ⟨.bl _, H, I.tok tk, rfl, q⟩
    subst ex
    obtain ⟨u1, u2, rfl, r1, r2⟩ := vals2 r
    obtain ⟨k1, k2⟩ := hX C hmem
    obtain ⟨b, ox, od, rfl, J, _⟩ := exc_at I hs hsh
    cases r1
    cases hc _ r2
    exact PySem.W.kia_one (PySem.W.kitx_exc k1.cl k1.ga k1.gg k1.ex k1.hc k1.hg k1.ht k1.ho) I.kIn J k2 (fun z => nomatch z) fun tk => ⟨.bl _, H, I.tok tk, rfl, q⟩
  refine PE.mono (pe_callB rule hg hm (by decide +kernel) (pa_cons ha (pa_cons ht pa_nil (star_cons nt)) (star_cons na)) (by decide) (by decide) (star_cons na) (star_none (es := [t]) (by simp [nt]))) fun σ H Q ⟨F, g, ρ, rl, q⟩ => ?_
  unfold ev at q
  refine ⟨F, g, ρ, rl, q.bnd.imp fun s ρ1 c1 x F1 H1 g1 p1 m1 => ?_⟩
  obtain ⟨w, ew, c2⟩ := c1.rd
  obtain ⟨k, ek, c3⟩ := c2.lft
  cases w with
  | exc C fs =>
    have ek' : (if C ∈ Xs then some ((excUp C).contains D) else none) = some k := ek
    split at ek'
    · rename_i hmem
      cases ek'
      obtain ⟨P, hP⟩ := m1.drf p1.rl ew
      exact .inl ⟨F1, C, fs, x, rfl, hmem, p1.rl.sub, hP.sh rfl, c3.ret _ F1 H1 g1 p1 (Tm.of (.bl _))⟩
    · cases ek'
  | non =>
    have ek' : some false = some k := ek
    cases ek'
    cases (m1.drf p1.rl ew).non
    exact .inr ⟨rfl, c3.ret _ F1 H1 g1 p1 (Tm.of (.bl _))⟩
  | _ => cases ek
/-! ### a method of one's own class -/
theorem mth_pe {Z : WX} {o : Expr} {o' : Ex} {C m : String} {Fn : Fn} {es : List Expr} {es' : List Ex} {ap cp : Pos} {k : Nat} {f : Addr} {fd : FuncData} {ps : List Str} (tk : Takes X Z) (hr : Room k X.A) (ho : plainO o = true) (hs : es.all notStar = true) (hl : (ap.endLine == cp.line) = true) (hn : es.length < 20) (hz : es = [] → es' = [])
    (po : PE X o (rE X.K Z (ev o'))) (pa : PA X es (rAt X.K Z (evT es'))) (c : Cls X.K (cad X.K C)) (hm : Meth X.K (cad X.K C) (nm m) f) (FO : FnOk X.prog X.w X.K X.mg X.base (L2.CX X.prog X.w) k f fd ps (spW X.K Fn)) (hb : Binds X.K fd ps []) :
    PE X (.Call (.Attribute o (nm m) ap) es [] cp) (rE X.K Z (ev (.mth o' C m Fn es'))) := by
  refine ⟨fun pins s σ H Q I ⟨F, g, ρ, rl, q⟩ => ?_⟩
  unfold ev at q
  refine PySem.W.methodCall_KW (pl := plainOf o X.env) (pe_cps po I ⟨F, g, ρ, rl, q.bnd.imp fun t ρ1 c1 x F1 H1 g1 p1 m1 u s1 I1 r1 => ?_⟩) (meth_tree ho hs hl hn)
  obtain ⟨r, ρ', e1, z⟩ := c1.bnd
  unfold recv at e1
  unfold bnd rd at e1
  cases dx : drf ρ1 t with
  | none => rw [dx] at e1; cases e1
  | some w =>
    rw [dx] at e1
    cases w with
    | ins b D fs =>
      cases b with
      | false => cases e1
      | true =>
        dsimp only at e1
        split at e1
        · rename_i hD
          obtain ⟨rfl, hno⟩ := hD
          cases e1
          have z' : Ct X.K Z σ F H g ρ (bnd (evT es') fun ts => callF Fn (t :: ts)) ρ1 (fun t ρ' => ∀ v F' H' g', Ps X.K σ F H g ρ F' H' g' ρ' → Tm X.K σ H F' H' g' ρ' t v → Q v H') := z
          obtain ⟨P, hO⟩ := m1.drf p1.rl dx
          obtain ⟨a, dx', vf, rfl, h1, h2, h3, h4⟩ := hO
          cases r1
          have hnv : vf.lookup (nm m) = none := by
            have hno' : fs.lookup m = none := Option.isNone_iff_eq_none.mp hno
            clear h1 h4 z z' dx
            induction h3 with
            | nil => rfl
            | cons p q ih =>
              rename_i f0 w0 v0 ws0 vs0
              by_cases cc : m = f0
              · subst cc; simp at hno'
              · have c1 : (m == f0) = false := by simp [cc]
                have c2 : (nm m == nm f0) = false := by
                  have : nm m ≠ nm f0 := fun z => cc (nm_inj z)
                  simp [this]
                simp only [List.lookup_cons, c1] at hno'
                simp only [List.lookup_cons, c2]
                refine ih ?_ hno'
                simp only [List.lookup_cons, c1] at hno
                exact hno
          refine getmeth_ok I1 h1 c hm hnv ?_
          have mk : ∀ {F2 H2 : Hp} {g2 : Gh} {ρ2 : Rho} {ts : List T} {vs : List V} {ms : List Mk}, Ps X.K σ F1 H1 g1 ρ1 F2 H2 g2 ρ2 → TmL X.K σ H1 F2 H2 g2 ρ2 ts vs ms →
              Ct X.K Z σ F H g ρ (callF Fn (t :: ts)) ρ2 (fun t ρ' => ∀ v F' H' g', Ps X.K σ F H g ρ F' H' g' ρ' → Tm X.K σ H F' H' g' ρ' t v → Q v H') → spW X.K Fn (.ref a :: vs) H2 Q (WE Z σ) := fun {F2 H2 g2 ρ2 ts vs ms} p2 l2 c2 => by
            have l3 : ∃ m0, TmL X.K σ H F2 H2 g2 ρ2 (t :: ts) (.ref a :: vs) (m0 :: ms) := by
              cases t with
              | val w =>
                obtain ⟨mk, hh⟩ := m1
                refine ⟨mk, .cons ⟨hh.1.le p2.le, hh.2.mono p2.le.fx (fun f a e => ?_) fun _ _ e => e⟩ (fun m' hm' a ha => ?_) (l2.start p1.le)⟩
                · obtain ⟨_, y, zz, _⟩ := hh.1 a f e
                  cases qq : H1 a with
                  | none => exact absurd qq zz
                  | some o => exact p2.le.fr a o qq y
                · cases e : m' a with
                  | none => rfl
                  | some f =>
                    have k1 := l2.fresh m' hm' a (by rw [e]; exact nofun)
                    cases e2 : mk a with
                    | none => exact absurd e2 ha
                    | some f2 => exact absurd k1 (hh.1 a f2 e2).2.2.1
              | pl i f => exact ⟨fun _ => none, .cons ⟨rfl, m1.later p2⟩ (fun m' hm' a ha => absurd rfl ha) (l2.start p1.le)⟩
            obtain ⟨m0, l3⟩ := l3
            exact callF_rd (p1.trans p2) l3 c2
          cases es with
          | nil =>
            cases hz rfl
            refine PySem.W.callWith_K0 I1.kIn hm.kp ?_
            have z2 : Ct X.K Z σ F H g ρ (bnd (ret []) fun ts => callF Fn (t :: ts)) ρ1 (fun t ρ' => ∀ v F' H' g', Ps X.K σ F H g ρ F' H' g' ρ' → Tm X.K σ H F' H' g' ρ' t v → Q v H') := by
              have h0 := z'
              unfold evT at h0
              exact h0
            have z3 := z2.bnd.ret
            exact run_fnS (us := [.ref a]) (vs := [.ref a]) (E := WE Z) FO hr hb (passAt tk σ) I1 (.cons rfl .nil) (mk (.refl p1.rl) .nil z3)
          | cons e es =>
            rw [List.all_cons, Bool.and_eq_true] at hs
            refine PySem.W.callWith_K (first := [.ref a]) (h₀ := X.base) I1.ok.mod.kin hm.kp (thn (pa.run cp pins s1 σ H1 (fun vs H2 => spW X.K Fn (.ref a :: vs) H2 Q (WE Z σ)) I1 ⟨F1, g1, ρ1, p1.rl, (z'.bnd.rebase p1).imp fun ts ρ2 c2 vs ms F2 H2 g2 p2 l2 => mk p2 l2 c2⟩) fun us s2 ⟨vs, H2, I2, r2, q2⟩ => ⟨I2.kIn, ?_⟩) (star_cons hs.1) (star_none hs.2)
            exact run_fnS (us := .ref a :: us) (vs := .ref a :: vs) (E := WE Z) FO hr hb (passAt tk σ) I2 (.cons rfl r2) q2
        · cases e1
    | _ => cases e1
end
end Rf
/-! targets, and what is walked -/
namespace Rf
open PySem PySem.Spec PyProof.Rows L2
/-- the state behind a store of a shared value -/
def StQ (K : PySem.W.Frag) (F H : Hp) (g : Gh) (σ : L2.St) (ρ ρ' : Rho) (ix : List Nat) (Q : L2.St → Hp → Prop) : Prop :=
  ∀ σ', Rl K F H g ρ' σ' → σ'.length = σ.length → (∀ j, j ∉ ix → σ'[j]? = σ[j]? ∧ slot ρ' j = slot ρ j) → Q σ' H
def rG (K : PySem.W.Frag) (tg : Tg) : TG := fun v σ H Q => ∃ F g ρ w ρ', Rl K F H g ρ σ ∧ Sh K F w v ∧ stTg tg w ρ = some (.ok (), ρ') ∧ StQ K F H g σ ρ ρ' (tgIx tg) Q
def rGs (K : PySem.W.Frag) (tg : List Tg) : TGs := fun vs σ H Q => ∃ F g ρ ws ρ', Rl K F H g ρ σ ∧ ShL K F ws vs ∧ stTgs tg ws ρ = some (.ok (), ρ') ∧ StQ K F H g σ ρ ρ' (tgIxs tg) Q
section
variable {K : PySem.W.Frag} {F H : Hp} {g : Gh} {ρ : Rho} {σ : L2.St}
/-- a shared value put into a slot: the ghost stays -/
theorem Rl.put (r : Rl K F H g ρ σ) {i : Nat} {w : W} {v : V} (hi : i < ρ.length) (hv : Sh K F w v) : Rl K F H g (ρ.set i (some w)) (σ.set i (some v)) where
  sub := r.sub
  gF := r.gF
  gH := r.gH
  len := by rw [List.length_set, List.length_set, r.len]
  sl := fun j x e => by
    rw [slot_set hi] at e
    by_cases c : j = i
    · rw [if_pos c] at e
      cases e
      subst c
      exact ⟨v, by rw [List.getElem?_set_self (r.len ▸ hi)], Ow.of hv⟩
    · rw [if_neg c] at e
      obtain ⟨u, hu, hO⟩ := r.sl j x e
      exact ⟨u, by rw [List.getElem?_set_ne (Ne.symm c)]; exact hu, hO⟩
theorem PG.mono {X : Cx} {e : Expr} {t t' : TG} (h : PG X e t) (k : ∀ v σ H Q, t' v σ H Q → t v σ H Q) : PG X e t' := ⟨fun pins s σ H v u Q I r q => h.run pins s σ H v u Q I r (k v σ H Q q)⟩
theorem PGs.mono {X : Cx} {e : List Expr} {t t' : TGs} (h : PGs X e t) (k : ∀ v σ H Q, t' v σ H Q → t v σ H Q) : PGs X e t' := ⟨fun pins s σ H v u Q I r q => h.run pins s σ H v u Q I r (k v σ H Q q)⟩
theorem gn_rd {i : Nat} {v : V} {Q : L2.St → Hp → Prop} (h : rG K (.nm i) v σ H Q) : gName i v σ H Q := by
  obtain ⟨F, g, ρ, w, ρ', rl, hs, e, q⟩ := h
  have e' : (if i < ρ.length then some (Out.ok (), ρ.set i (some w)) else none) = some (.ok (), ρ') := e
  split at e'
  · rename_i hi
    cases e'
    refine q _ (rl.put hi hs) (List.length_set ..) fun j hj => ?_
    have ne : i ≠ j := fun z => hj (by rw [z]; exact List.mem_singleton_self _)
    exact ⟨List.getElem?_set_ne ne, by rw [slot_set hi, if_neg (Ne.symm ne)]⟩
  · cases e'
theorem gnil_rd {vs : List V} {Q : L2.St → Hp → Prop} (h : rGs K [] vs σ H Q) : gNil vs σ H Q := by
  obtain ⟨F, g, ρ, ws, ρ', rl, hs, e, q⟩ := h
  cases hs with
  | nil => cases e; exact ⟨rfl, q σ rl rfl fun j _ => ⟨rfl, rfl⟩⟩
  | cons a b => cases e
theorem gcons_rd {t : Tg} {ts : List Tg} {vs : List V} {Q : L2.St → Hp → Prop} (h : rGs K (t :: ts) vs σ H Q) : gCons (rG K t) (rGs K ts) vs σ H Q := by
  obtain ⟨F, g, ρ, ws, ρ', rl, hs, e, q⟩ := h
  cases hs with
  | nil => cases e
  | cons a b =>
    rename_i w v ws vs
    have e' : bnd (stTg t w) (fun _ => stTgs ts ws) ρ = some (.ok (), ρ') := e
    unfold bnd at e'
    cases x : stTg t w ρ with
    | none => rw [x] at e'; cases e'
    | some p =>
      rw [x] at e'
      obtain ⟨r, ρ1⟩ := p
      cases r with
      | ok u =>
        refine ⟨v, vs, rfl, F, g, ρ, w, ρ1, rl, a, x, fun σ1 rl1 hl1 k1 => ⟨F, g, ρ1, ws, ρ', rl1, b, e', fun σ2 rl2 hl2 k2 => q σ2 rl2 (hl2.trans hl1) fun j hj => ?_⟩⟩
        have hj' : j ∉ tgIx t ∧ j ∉ tgIxs ts := by
          constructor
          · exact fun z => hj (List.mem_append_left _ z)
          · exact fun z => hj (List.mem_append_right _ z)
        obtain ⟨a1, a2⟩ := k1 j hj'.1
        obtain ⟨b1, b2⟩ := k2 j hj'.2
        exact ⟨b1.trans a1, b2.trans a2⟩
      | ex w => cases e'
theorem gtup_rd {ts : List Tg} {v : V} {Q : L2.St → Hp → Prop} (h : rG K (.tp ts) v σ H Q) : gTup K ts.length (rGs K ts) v σ H Q := by
  obtain ⟨F, g, ρ, w, ρ', rl, hs, e, q⟩ := h
  cases hs with
  | tup h1 h2 =>
    rename_i a xs vs
    have e' : stTgs ts xs ρ = some (.ok (), ρ') := e
    have len : ∀ (ts : List Tg) (xs : List W) (ρ ρ' : Rho), stTgs ts xs ρ = some (.ok (), ρ') → xs.length = ts.length := by
      intro ts
      induction ts with
      | nil => intro xs ρ ρ' e; cases xs with
        | nil => rfl
        | cons => cases e
      | cons t ts ih => intro xs ρ ρ' e; cases xs with
        | nil => cases e
        | cons x xs =>
          have e' : bnd (stTg t x) (fun _ => stTgs ts xs) ρ = some (.ok (), ρ') := e
          unfold bnd at e'
          cases y : stTg t x ρ with
          | none => rw [y] at e'; cases e'
          | some p =>
            rw [y] at e'
            obtain ⟨r, ρ1⟩ := p
            cases r with
            | ok u => exact congrArg (· + 1) (ih xs ρ1 ρ' e')
            | ex w => cases e'
    exact ⟨a, vs, rfl, SqT.sub rl.sub h1, by rw [← h2.len]; exact len _ _ _ _ e', F, g, ρ, xs, ρ', rl, h2, e', q⟩
  | _ => cases e
end
theorem ixOf_get {x : Str} : ∀ {N : List Str} {n i : Nat}, ixOf x N n = some i → ∃ j, i = n + j ∧ N[j]? = some x
  | [], n, i, h => by cases h
  | y :: ys, n, i, h => by
    unfold ixOf at h
    split at h
    · rename_i c
      cases h
      exact ⟨0, rfl, by rw [c]; rfl⟩
    · obtain ⟨j, h1, h2⟩ := ixOf_get h
      exact ⟨j + 1, by omega, by simpa using h2⟩
theorem ixOf_at {x : Str} {N : List Str} {i : Nat} (h : ixOf x N 0 = some i) : N[i]? = some x := by
  obtain ⟨j, h1, h2⟩ := ixOf_get h
  have : i = j := by omega
  rw [this]; exact h2
section
variable {X : Cx}
theorem asg_cons {e : Expr} {es : List Expr} {env : Env} (h : notStar e = true) : assignEach (e :: es) env = (false, assign e env) :: assignEach es env := by
  cases e <;> first | rfl | cases h
theorem asg_len {env : Env} : ∀ {es : List Expr}, es.all notStar = true → (assignEach es env).length = es.length ∧ (assignEach es env).findIdx? (·.1) = none
  | [], _ => ⟨rfl, rfl⟩
  | e :: es, h => by
    rw [List.all_cons, Bool.and_eq_true] at h
    obtain ⟨h1, h2⟩ := asg_len (env := env) h.2
    rw [asg_cons h.1]
    refine ⟨congrArg (· + 1) h1, ?_⟩
    rw [List.findIdx?_cons]
    simp [h2]
/-- the names of a target -/
def StOk (X : Cx) (sc : Scope) : Prop := ∀ x, isStored (sc.names.lookup x) = true → Loc X.env.scope x ∧ (X.fn x = true ∨ X.env.scope.names.lookup x = some .local)
theorem pg_tr {sc : Scope} (hc : X.calm = true) (hN : X.N.Nodup) (hs : StOk X sc) : ∀ (n : Nat) (e : Expr) (tg : Tg), trTg sc X.N n e = some tg → PG X e (rG X.K tg) := by
  have name : ∀ (n : Nat) (x : Str) (p : Pos) (tg : Tg), trTg sc X.N n (.Name x p) = some tg → PG X (.Name x p) (rG X.K tg) := fun n x p tg h => by
    have h' : (if isStored (sc.names.lookup x) then (ixOf x X.N 0).map Tg.nm else none) = some tg := by
      cases n <;> exact h
    split at h'
    · rename_i hst
      cases y : ixOf x X.N 0 with
      | none => rw [y] at h'; cases h'
      | some i =>
        rw [y] at h'
        cases h'
        exact PG.mono (pg_name hN (ixOf_at y) (hs x hst).1 (hs x hst).2) fun v σ H Q => gn_rd
    · cases h'
  intro n
  induction n with
  | zero =>
    intro e tg h
    cases e with
    | Name x p => exact name 0 x p tg h
    | _ => cases h
  | succ n ih =>
    intro e tg h
    cases e with
    | Name x p => exact name _ x p tg h
    | Tuple es k p =>
      have h' : (if es.all notStar then (es.mapM (trTg sc X.N n)).map Tg.tp else none) = some tg := h
      split at h'
      · rename_i hns
        cases y : es.mapM (trTg sc X.N n) with
        | none => rw [y] at h'; cases h'
        | some ts =>
          rw [y] at h'
          cases h'
          have all : ∀ (es : List Expr) (ts : List Tg), es.all notStar = true → es.mapM (trTg sc X.N n) = some ts → PGs X es (rGs X.K ts) ∧ es.length = ts.length := by
            intro es
            induction es with
            | nil =>
              intro ts _ y
              cases y
              exact ⟨PGs.mono pgs_nil fun v σ H Q => gnil_rd, rfl⟩
            | cons e es ih2 =>
              intro ts hns y
              rw [List.all_cons, Bool.and_eq_true] at hns
              rw [List.mapM_cons] at y
              cases a : trTg sc X.N n e with
              | none => rw [a] at y; cases y
              | some t =>
                cases b : es.mapM (trTg sc X.N n) with
                | none => rw [a, b] at y; cases y
                | some ts' =>
                  rw [a, b] at y
                  cases y
                  obtain ⟨k1, k2⟩ := ih2 ts' hns.2 b
                  exact ⟨PGs.mono (pgs_cons (ih e t a) k1 (by rw [asg_cons hns.1]; rfl)) fun v σ H Q => gcons_rd, congrArg (· + 1) k2⟩
          obtain ⟨k1, k2⟩ := all es ts hns y
          obtain ⟨l1, l2⟩ := asg_len (env := X.env) hns
          exact PG.mono (pg_tup hc k1 (l1.trans k2) l2) fun v σ H Q => gtup_rd
      · cases h'
    | _ => cases h
end
/-! ### sources -/
/-- J yields the items of q, while q's list stands -/
def SrcOk (K : PySem.W.Frag) (σ : L2.St) (F H : Hp) (g : Gh) (q : Src) (J : L2.It) : Prop :=
  ∀ (i : Nat) (F' H' : Hp) (g' : Gh) (ρ' : Rho) (σ' : L2.St), Le F H g F' H' g' → Rl K F' H' g' ρ' σ' → (∀ j w, q.at_ = some (j, w) → σ'[j]? = σ[j]?) → still ρ' q.at_ →
    (∀ x, q.its[i]? = some x → J.go i H' ∧ ∀ v H'', J.yld i H' v H'' → ∃ F'' mk, Nw K F' H' x v F'' H'' mk ∧ own x = false) ∧ (q.its.length ≤ i → J.stop i H')
def rI (K : PySem.W.Frag) (Z : WX) (m : M Src) : TI := fun σ H R => ∃ F g ρ, Rl K F H g ρ σ ∧ Ct K Z σ F H g ρ m ρ fun q ρ' =>
  ∀ J F' H' g', Ps K σ F H g ρ F' H' g' ρ' → SrcOk K σ F' H' g' q J → R J H'
section
variable {K : PySem.W.Frag} {F H : Hp} {g : Gh} {ρ : Rho} {σ : L2.St}
theorem src_list {q : Src} {a : Addr} (h : ∀ F' H' g' ρ' σ', Le F H g F' H' g' → Rl K F' H' g' ρ' σ' → (∀ j w, q.at_ = some (j, w) → σ'[j]? = σ[j]?) → still ρ' q.at_ → ∃ vs, SqL K H' a vs ∧ ShL K F' q.its vs) : SrcOk K σ F H g q (Itl K a) := by
  intro i F' H' g' ρ' σ' l r k s
  obtain ⟨vs, h1, h2⟩ := h F' H' g' ρ' σ' l r k s
  refine ⟨fun x ex => ?_, fun hl => ⟨vs, h1, h2.len ▸ hl⟩⟩
  obtain ⟨v, ev, hv⟩ := h2.get ex
  refine ⟨⟨vs, v, h1, ev⟩, fun v' H'' y => ?_⟩
  obtain ⟨rfl, y⟩ := y
  have := y vs h1
  rw [ev] at this
  cases this
  exact ⟨F', _, .same r.sub hv, hv.own⟩
theorem src_tup {q : Src} {a : Addr} (h : ∀ F' H' g' ρ' σ', Le F H g F' H' g' → Rl K F' H' g' ρ' σ' → (∀ j w, q.at_ = some (j, w) → σ'[j]? = σ[j]?) → still ρ' q.at_ → ∃ vs, SqT K H' a vs ∧ ShL K F' q.its vs) : SrcOk K σ F H g q (Itt K a) := by
  intro i F' H' g' ρ' σ' l r k s
  obtain ⟨vs, h1, h2⟩ := h F' H' g' ρ' σ' l r k s
  refine ⟨fun x ex => ?_, fun hl => ⟨vs, h1, h2.len ▸ hl⟩⟩
  obtain ⟨v, ev, hv⟩ := h2.get ex
  refine ⟨⟨vs, v, h1, ev⟩, fun v' H'' y => ?_⟩
  obtain ⟨rfl, y⟩ := y
  have := y vs h1
  rw [ev] at this
  cases this
  exact ⟨F', _, .same r.sub hv, hv.own⟩
theorem src_str {x : Str} {o : Option (Nat × W)} : SrcOk K σ F H g ⟨x.cps.toList.map fun c => .str ⟨#[c]⟩, o⟩ (Its x) := by
  intro i F' H' g' ρ' σ' l r k s
  refine ⟨fun y ey => ?_, fun hl => ?_⟩
  · rw [List.getElem?_map] at ey
    cases z : x.cps.toList[i]? with
    | none => rw [z] at ey; cases ey
    | some c =>
      rw [z] at ey
      cases ey
      have z2 : x.cps[i]? = some c := by rw [← Array.getElem?_toList]; exact z
      refine ⟨(Array.getElem?_eq_some_iff.mp z2).1, fun v H'' y => ?_⟩
      obtain ⟨rfl, c', h1, rfl⟩ := y
      rw [z2] at h1
      cases h1
      exact ⟨F', _, .same r.sub (.str _), rfl⟩
  · show x.cps.size ≤ i
    simpa using hl
theorem rngs_len : ∀ (n : Nat) (lo : Int), (rngs lo n).length = n
  | 0, _ => rfl
  | n + 1, lo => congrArg (· + 1) (rngs_len n (lo + 1))
theorem rngs_get : ∀ (n : Nat) (lo : Int) (i : Nat) (x : W), (rngs lo n)[i]? = some x → i < n ∧ x = .int (lo + i)
  | 0, lo, i, x, h => by cases h
  | n + 1, lo, 0, x, h => by
    have h' : some (W.int lo) = some x := h
    cases h'
    exact ⟨Nat.succ_pos _, by simp⟩
  | n + 1, lo, i + 1, x, h => by
    have h' : (rngs (lo + 1) n)[i]? = some x := h
    obtain ⟨h1, h2⟩ := rngs_get n (lo + 1) i x h'
    refine ⟨by omega, ?_⟩
    rw [h2]
    congr 1
    push_cast
    omega
theorem src_rng {lo : Int} {n : Nat} {o : Option (Nat × W)} : SrcOk K σ F H g ⟨rngs lo n, o⟩ (Itr lo n) := by
  intro i F' H' g' ρ' σ' l r k s
  refine ⟨fun y ey => ?_, fun hl => ?_⟩
  · obtain ⟨h1, h2⟩ := rngs_get n lo i y ey
    refine ⟨h1, fun v H'' y => ?_⟩
    obtain ⟨rfl, rfl⟩ := y
    rw [h2]
    exact ⟨F', _, .same r.sub (.int _), rfl⟩
  · have hl' : (rngs lo n).length ≤ i := hl
    rw [rngs_len] at hl'
    exact hl'
theorem pairs_get {x : W} : ∀ {xs ys : List W} {i : Nat}, (pairs xs ys)[i]? = some x → ∃ a b, xs[i]? = some a ∧ ys[i]? = some b ∧ x = .tup [a, b] := by
  intro xs
  induction xs with
  | nil => intro ys i h; cases h
  | cons a xs ih =>
    intro ys i h
    cases ys with
    | nil => cases h
    | cons b ys =>
      cases i with
      | zero =>
        have h' : some (W.tup [a, b]) = some x := h
        cases h'
        exact ⟨a, b, rfl, rfl, rfl⟩
      | succ i =>
        have h' : (pairs xs ys)[i]? = some x := h
        exact ih h'
theorem pairs_len : ∀ {xs ys : List W} {i : Nat}, (pairs xs ys).length ≤ i → xs.length ≤ i ∨ ys.length ≤ i
  | [], _, i, h => .inl (Nat.zero_le _)
  | _ :: _, [], i, h => .inr (Nat.zero_le _)
  | a :: xs, b :: ys, 0, h => by simp [pairs] at h
  | a :: xs, b :: ys, i + 1, h => by
    have h' : (pairs xs ys).length ≤ i := by simpa [pairs] using h
    rcases pairs_len h' with z | z
    · exact .inl (by simpa using z)
    · exact .inr (by simpa using z)
theorem src_zipL {a b : Addr} {xs ys : List W} {vs us : List V} (ha : F a = some (.lst vs)) (hb : F b = some (.lst us)) (h1 : ShL K F xs vs) (h2 : ShL K F ys us) : SrcOk K σ F H g ⟨pairs xs ys, none⟩ (Itz K a b) := by
  intro i F' H' g' ρ' σ' l r k s
  have qa : SqL K H' a vs := .inl (.inl (r.sub _ _ (l.fx _ _ ha)))
  have qb : SqL K H' b us := .inl (.inl (r.sub _ _ (l.fx _ _ hb)))
  refine ⟨fun x ex => ?_, fun hl => ⟨vs, us, qa, qb, by rw [← h1.len, ← h2.len]; exact pairs_len hl⟩⟩
  obtain ⟨p, q, e1, e2, rfl⟩ := pairs_get ex
  obtain ⟨v, ev, hv⟩ := (h1.sub l.fx).get e1
  obtain ⟨u, eu, hu⟩ := (h2.sub l.fx).get e2
  refine ⟨⟨vs, us, v, u, qa, qb, ev, eu⟩, fun v' H'' y => ?_⟩
  obtain ⟨T, x', y', rfl, hT, rfl, f1, f2⟩ := y
  have z1 := f1 vs qa
  have z2 := f2 us qb
  rw [ev] at z1; cases z1
  rw [eu] at z2; cases z2
  exact ⟨_, _, Nw.tup r.sub hT (.cons hv (.cons hu .nil)), rfl⟩
theorem src_zipT {a b : Addr} {xs ys : List W} {vs us : List V} (ha : SqT K F a vs) (hb : SqT K F b us) (h1 : ShL K F xs vs) (h2 : ShL K F ys us) : SrcOk K σ F H g ⟨pairs xs ys, none⟩ (RZ.ItzT K a b) := by
  intro i F' H' g' ρ' σ' l r k s
  have qa : SqT K H' a vs := SqT.sub r.sub (SqT.sub l.fx ha)
  have qb : SqT K H' b us := SqT.sub r.sub (SqT.sub l.fx hb)
  refine ⟨fun x ex => ?_, fun hl => ⟨vs, us, qa, qb, by rw [← h1.len, ← h2.len]; exact pairs_len hl⟩⟩
  obtain ⟨p, q, e1, e2, rfl⟩ := pairs_get ex
  obtain ⟨v, ev, hv⟩ := (h1.sub l.fx).get e1
  obtain ⟨u, eu, hu⟩ := (h2.sub l.fx).get e2
  refine ⟨⟨vs, us, v, u, qa, qb, ev, eu⟩, fun v' H'' y => ?_⟩
  obtain ⟨T, x', y', rfl, hT, rfl, f1, f2⟩ := y
  have z1 := f1 vs qa
  have z2 := f2 us qb
  rw [ev] at z1; cases z1
  rw [eu] at z2; cases z2
  exact ⟨_, _, Nw.tup r.sub hT (.cons hv (.cons hu .nil)), rfl⟩
end
section
variable {X : Cx} {Z : WX} {tg : Expr}
theorem of_pi {e : Expr} {e' : Ex} (pe : PE X e (rE X.K Z (ev e'))) : PI X tg e (rI X.K Z (src (.of e'))) := by
  refine ⟨fun pins s σ H R I ⟨F, g, ρ, rl, c⟩ => ?_⟩
  unfold src at c
  obtain ⟨r, ρ1, e1, z⟩ := c.bnd
  cases r with
  | ex w => exact (pi_list pe).run pins s σ H R I ⟨F, g, ρ, rl, .ex w, ρ1, e1, z⟩
  | ok t =>
    obtain ⟨w, ew, z2⟩ := z.rd
    have step : ∀ {P : V → Hp → Prop}, (∀ v F' H' g', Ps X.K σ F H g ρ F' H' g' ρ1 → Tm X.K σ H F' H' g' ρ1 t v → P v H') → rE X.K Z (ev e') σ H P := fun {P} h => ⟨F, g, ρ, rl, .ok t, ρ1, e1, h⟩
    have tmp : ∀ {its : List W} {C : Src → Rho → Prop}, Ct X.K Z σ F H g ρ (match t with
        | .val _ => ret (⟨its, none⟩ : Src)
        | .pl i none => ret ⟨its, if own w then some (i, w) else none⟩
        | .pl _ (some _) => stuck) ρ1 C → ∃ o, C ⟨its, o⟩ ρ1 ∧ ((∃ x, t = .val x ∧ o = none) ∨ ∃ i, t = .pl i none ∧ o = if own w then some (i, w) else none) := fun {its C} c => by
      cases t with
      | val x => exact ⟨_, c.ret, .inl ⟨x, rfl, rfl⟩⟩
      | pl i f => cases f with
        | none => exact ⟨_, c.ret, .inr ⟨i, rfl, rfl⟩⟩
        | some f => exact c.stuck.elim
    cases w with
    | tup xs =>
      obtain ⟨o, q, ho⟩ := tmp z2
      refine (pi_tup pe).run pins s σ H R I (step fun v F' H' g' p tm => ?_)
      have hsh : Sh X.K F' (.tup xs) v := by
        obtain ⟨P, hP⟩ := tm.drf p.rl ew
        exact hP.sh rfl
      cases hsh with
      | tup h1 h2 =>
        rename_i a vs
        exact ⟨a, rfl, ⟨vs, SqT.sub p.rl.sub h1⟩, q _ _ _ _ p (src_tup fun F2 H2 g2 ρ2 σ2 l r k s => ⟨vs, SqT.sub r.sub (SqT.sub l.fx h1), h2.sub l.fx⟩)⟩
    | str x =>
      obtain ⟨o, q, ho⟩ := tmp z2
      refine (pi_str pe).run pins s σ H R I (step fun v F' H' g' p tm => ?_)
      cases (tm.drf p.rl ew).str
      exact ⟨x, rfl, q _ _ _ _ p src_str⟩
    | lst b xs =>
      obtain ⟨o, q, ho⟩ := tmp z2
      refine (pi_list pe).run pins s σ H R I (step fun v F' H' g' p tm => ?_)
      obtain ⟨a, vs, rfl, h1, h2⟩ := (tm.drf p.rl ew).lst p.rl.sub
      refine ⟨a, rfl, ⟨vs, .inl (.inl h1)⟩, q _ _ _ _ p (src_list fun F2 H2 g2 ρ2 σ2 l r k s => ?_)⟩
      cases b with
      | false =>
        obtain ⟨P, hP⟩ := tm.drf p.rl ew
        have hsh : Sh X.K F' (.lst false xs) (.ref a) := hP.sh rfl
        cases hsh with
        | lst k1 k2 => exact ⟨_, .inl (.inl (r.sub _ _ (l.fx _ _ k1))), k2.sub l.fx⟩
      | true =>
        rcases ho with ⟨x, rfl, rfl⟩ | ⟨i, rfl, rfl⟩
        · cases ew
          obtain ⟨mk, hm, a', vs', e', k1, k2, k3⟩ := tm
          cases e'
          obtain ⟨_, y, _, _⟩ := hm _ _ k2
          exact ⟨vs', .inl (.inl (l.fr _ _ k1 y)), k3.sub l.fx⟩
        · have sl : slot ρ2 i = some (.lst true xs) := s
          have hv : σ[i]? = some (some (.ref a)) := tm
          obtain ⟨u, hu, hO⟩ := r.sl i _ sl
          rw [k i _ rfl, hv] at hu
          cases hu
          obtain ⟨a', vs', e', k1, k2, k3⟩ := hO
          cases e'
          exact ⟨vs', .inl (.inl k1), k3⟩
    | _ => exact z2.stuck.elim
theorem rngs_rd {F1 H1 : Hp} {vs : List V} {ws its : List W} (h : RbL X.K F1 H1 ws vs) (e : wRng ws = some its) :
    (∃ j : Int, vs = [.int j] ∧ small j ∧ its = rngs 0 j.toNat) ∨ (∃ i j : Int, vs = [.int i, .int j] ∧ small i ∧ small j ∧ its = rngs i (j - i).toNat) ∨ ∃ i j c : Int, vs = [.int i, .int j, .int c] ∧ 0 < c ∧ c ≤ 64 ∧ mid i ∧ mid j ∧ its = rngc i c (rngN i j c) := by
  unfold wRng at e
  split at e
  · split at e
    · rename_i j c
      cases e
      cases h with
      | cons a b => cases b; cases a.int; exact .inl ⟨j, rfl, c.1, rfl⟩
    · cases e
  · split at e
    · rename_i i j c
      cases e
      cases h with
      | cons a b => cases b with
        | cons a2 b2 => cases b2; cases a.int; cases a2.int; exact .inr (.inl ⟨i, j, rfl, c.1, c.2.1, rfl⟩)
    · cases e
  · split at e
    · rename_i i j k c
      cases e
      cases h with
      | cons a b => cases b with
        | cons a2 b2 => cases b2 with
          | cons a3 b3 => cases b3; cases a.int; cases a2.int; cases a3.int; exact .inr (.inr ⟨i, j, k, rfl, c.1, c.2.1, c.2.2.1, c.2.2.2, rfl⟩)
    · cases e
  · cases e
theorem rng1_pi {a : Expr} {es : List Ex} {p pos : Pos} (hg : Gl X "range") (hm : X.mg "range" = none) (ha : PA X [a] (rAt X.K Z (evT es))) (na : notStar a = true) (l1 : ∀ (ts : List T) (ρ ρ' : Rho), evT es ρ = some (.ok ts, ρ') → ts.length = 1) :
    PI X tg (.Call (.Name "range" p) [a] [] pos) (rI X.K Z (src (.rng es))) := by
  refine ⟨fun pins s σ H R I ⟨F, g, ρ, rl, c⟩ => (pi_range1 hg hm ha (star_cons na)).run pins s σ H R I ?_⟩
  unfold src at c
  obtain ⟨r, ρ1, e1, z⟩ := c.bnd
  cases r with
  | ex w => exact ⟨F, g, ρ, rl, .ex w, ρ1, e1, z⟩
  | ok ts =>
    refine ⟨F, g, ρ, rl, .ok ts, ρ1, e1, fun vs ms F' H' g' p l => ?_⟩
    obtain ⟨ws, ew, z2⟩ := z.rds
    obtain ⟨its, ei, z3⟩ := z2.lft
    have len := l1 ts ρ ρ1 e1
    rcases rngs_rd (l.rb p.rl ew) ei with ⟨j, rfl, hj, rfl⟩ | ⟨i, j, rfl, hi, hj, rfl⟩ | ⟨i, j, c, rfl, _⟩
    · refine ⟨j, rfl, hj.1, hj.2, z3.ret _ _ _ _ p src_rng⟩
    · have := l.ix.1
      rw [len] at this
      cases this
    · have := l.ix.1
      rw [len] at this
      cases this
theorem rng2_pi {a b : Expr} {es : List Ex} {p pos : Pos} (hg : Gl X "range") (hm : X.mg "range" = none) (ha : PA X [a, b] (rAt X.K Z (evT es))) (na : notStar a = true) (nb : notStar b = true) (l1 : ∀ (ts : List T) (ρ ρ' : Rho), evT es ρ = some (.ok ts, ρ') → ts.length = 2) :
    PI X tg (.Call (.Name "range" p) [a, b] [] pos) (rI X.K Z (src (.rng es))) := by
  refine ⟨fun pins s σ H R I ⟨F, g, ρ, rl, c⟩ => (pi_range2 hg hm ha (by rw [star_cons na, star_cons nb]; rfl) (star_cons nb)).run pins s σ H R I ?_⟩
  unfold src at c
  obtain ⟨r, ρ1, e1, z⟩ := c.bnd
  cases r with
  | ex w => exact ⟨F, g, ρ, rl, .ex w, ρ1, e1, z⟩
  | ok ts =>
    refine ⟨F, g, ρ, rl, .ok ts, ρ1, e1, fun vs ms F' H' g' p l => ?_⟩
    obtain ⟨ws, ew, z2⟩ := z.rds
    obtain ⟨its, ei, z3⟩ := z2.lft
    have len := l1 ts ρ ρ1 e1
    rcases rngs_rd (l.rb p.rl ew) ei with ⟨j, rfl, hj, rfl⟩ | ⟨i, j, rfl, hi, hj, rfl⟩ | ⟨i, j, c, rfl, _⟩
    · have := l.ix.1
      rw [len] at this
      cases this
    · exact ⟨i, j, rfl, ⟨hi.1, hi.2, hj.1, hj.2⟩, z3.ret _ _ _ _ p src_rng⟩
    · have := l.ix.1
      rw [len] at this
      cases this
theorem rg_ok {i j c : Int} (hi : mid i) (hj : mid j) (hc : 0 < c) (hc' : c ≤ 64) : RgC i j c (rngN i j c) := by
  have e : Builtin.Range.rangeSize i j c = if i < j then (j - i - 1) / c + 1 else 0 := by
    unfold Builtin.Range.rangeSize
    rw [if_pos hc]
  unfold mid at hi hj
  have q : i < j → 0 ≤ (j - i - 1) / c ∧ (j - i - 1) / c ≤ j - i - 1 := fun h => ⟨Int.ediv_nonneg (by omega) (by omega), Int.ediv_le_self _ (by omega)⟩
  refine ⟨by omega, by omega, ?_, ?_⟩
  · unfold Builtin.Range.small
    rw [e, if_pos hc]
    simp only [Builtin.Range.rangeFitsLong, Bool.and_eq_true, Bool.or_eq_true, decide_eq_true_eq, beq_iff_eq]
    by_cases h : i < j
    · rw [if_pos h]
      obtain ⟨q1, q2⟩ := q h
      generalize (j - i - 1) / c = m2 at q1 q2 ⊢
      omega
    · rw [if_neg h]
      omega
  · rw [e]
    unfold rngN
    by_cases h : i < j
    · rw [if_pos h]
      have := q h
      omega
    · rw [if_neg h]; rfl
theorem rngc_get {c : Int} : ∀ (n : Nat) (lo : Int) (i : Nat) (x : W), (rngc lo c n)[i]? = some x → i < n ∧ x = .int (lo + (i : Nat) * c)
  | 0, lo, i, x, h => by cases h
  | n + 1, lo, 0, x, h => by
    have h' : some (W.int lo) = some x := h
    cases h'
    exact ⟨Nat.succ_pos _, by simp⟩
  | n + 1, lo, i + 1, x, h => by
    have h' : (rngc (lo + c) c n)[i]? = some x := h
    obtain ⟨h1, h2⟩ := rngc_get n (lo + c) i x h'
    refine ⟨by omega, ?_⟩
    rw [h2]
    congr 1
    push_cast
    rw [Int.add_mul]
    omega
theorem rngc_len {c : Int} : ∀ (n : Nat) (lo : Int), (rngc lo c n).length = n
  | 0, _ => rfl
  | n + 1, lo => congrArg (· + 1) (rngc_len n (lo + c))
theorem src_rngc {K : PySem.W.Frag} {F H : Hp} {g : Gh} {σ : L2.St} {lo c : Int} {n : Nat} {o : Option (Nat × W)} : SrcOk K σ F H g ⟨rngc lo c n, o⟩ (Itc lo c n) := by
  intro i F' H' g' ρ' σ' l r k s
  refine ⟨fun y ey => ?_, fun hl => ?_⟩
  · obtain ⟨h1, h2⟩ := rngc_get n lo i y ey
    refine ⟨h1, fun v H'' y => ?_⟩
    obtain ⟨rfl, rfl⟩ := y
    rw [h2]
    exact ⟨F', _, .same r.sub (.int _), rfl⟩
  · have hl' : (rngc lo c n).length ≤ i := hl
    rw [rngc_len] at hl'
    exact hl'
theorem rng3_pi {a b c : Expr} {es : List Ex} {p pos : Pos} (hg : Gl X "range") (hm : X.mg "range" = none) (ha : PA X [a, b, c] (rAt X.K Z (evT es))) (hs : [a, b, c].all notStar = true) (l1 : ∀ (ts : List T) (ρ ρ' : Rho), evT es ρ = some (.ok ts, ρ') → ts.length = 3) :
    PI X tg (.Call (.Name "range" p) [a, b, c] [] pos) (rI X.K Z (src (.rng es))) := by
  have hs' := hs
  rw [List.all_cons, Bool.and_eq_true] at hs'
  refine ⟨fun pins s σ H R I ⟨F, g, ρ, rl, c⟩ => (pi_range3 hg hm ha (star_cons hs'.1) (star_none hs'.2)).run pins s σ H R I ?_⟩
  unfold src at c
  obtain ⟨r, ρ1, e1, z⟩ := c.bnd
  cases r with
  | ex w => exact ⟨F, g, ρ, rl, .ex w, ρ1, e1, z⟩
  | ok ts =>
    refine ⟨F, g, ρ, rl, .ok ts, ρ1, e1, fun vs ms F' H' g' p l => ?_⟩
    obtain ⟨ws, ew, z2⟩ := z.rds
    obtain ⟨its, ei, z3⟩ := z2.lft
    have len := l1 ts ρ ρ1 e1
    rcases rngs_rd (l.rb p.rl ew) ei with ⟨j, rfl, hj, rfl⟩ | ⟨i, j, rfl, hi, hj, rfl⟩ | ⟨i, j, k, rfl, h1, h2, h3, h4, rfl⟩
    · have := l.ix.1
      rw [len] at this
      cases this
    · have := l.ix.1
      rw [len] at this
      cases this
    · exact ⟨i, j, k, _, rfl, rg_ok h3 h4 h1 h2, z3.ret _ _ _ _ p src_rngc⟩
theorem bnd_ret {α β : Type} (a : α) (f : α → M β) : bnd (ret a) f = f a := rfl
theorem src_zip (a b : Ex) : src (.zip a b) = bnd (evs [a, b]) fun ws => match ws with
    | [.tup xs, .tup ys] => ret ⟨pairs xs ys, none⟩
    | [.lst _ xs, .lst _ ys] => ret ⟨pairs xs ys, none⟩
    | _ => stuck := by
  unfold src evs evs evs
  simp only [assoc_bnd, bnd_ret]
  congr 1; funext s
  congr 1; funext x
  congr 1; funext t
  congr 1; funext y
  cases x <;> cases y <;> rfl
theorem zip_pi {a b : Expr} {a' b' : Ex} {p pos tpos : Pos} {elts : List Expr} {kk : Nat} (hg : Gl X "zip") (hm : X.mg "zip" = none) (ha : PA X [a, b] (rAs X.K Z (evs [a', b']))) (na : notStar a = true) (nb : notStar b = true) :
    PI X (.Tuple elts kk tpos) (.Call (.Name "zip" p) [a, b] [] pos) (rI X.K Z (src (.zip a' b'))) := by
  refine ⟨fun pins s σ H R I ⟨F, g, ρ, rl, c⟩ => (RZ.pi_zipA hg hm ha (star_cons na) (star_none (es := [b]) (by simp [nb]))).run pins s σ H R I ?_⟩
  rw [src_zip] at c
  refine ⟨F, g, ρ, rl, c.bnd.imp fun ws ρ1 c1 vs F1 H1 g1 p1 hl => ?_⟩
  have stk : ∀ {C : Src → Rho → Prop}, Ct X.K Z σ F H g ρ (stuck : M Src) ρ1 C → False := fun c => c.stuck
  split at c1
  · rename_i xs ys
    cases hl with
    | cons h1 hl => cases hl with
      | cons h2 hl =>
        cases hl
        cases h1 with
        | tup k1 k2 => cases h2 with
          | tup l1 l2 => exact ⟨_, _, _, _, rfl, .inr ⟨SqT.sub p1.rl.sub k1, SqT.sub p1.rl.sub l1, c1.ret _ _ _ _ p1 (src_zipT k1 l1 k2 l2)⟩⟩
  · rename_i o1 xs o2 ys
    cases hl with
    | cons h1 hl => cases hl with
      | cons h2 hl =>
        cases hl
        cases h1 with
        | lst k1 k2 => cases h2 with
          | lst l1 l2 => exact ⟨_, _, _, _, rfl, .inl ⟨.inl (.inl (p1.rl.sub _ _ k1)), .inl (.inl (p1.rl.sub _ _ l1)), c1.ret _ _ _ _ p1 (src_zipL k1 l1 k2 l2)⟩⟩
  · exact (stk c1).elim
/-! ### enumerate -/
theorem enum_get {x : W} : ∀ {xs : List W} {n i : Nat}, (enum (n : Int) xs)[i]? = some x → ∃ y, xs[i]? = some y ∧ x = .tup [.int ((n + i : Nat) : Int), y]
  | [], _, _, h => by cases h
  | y :: ys, n, 0, h => by
    have h' : some (W.tup [.int (n : Int), y]) = some x := h
    cases h'
    exact ⟨y, rfl, rfl⟩
  | y :: ys, n, i + 1, h => by
    have h' : (enum ((n : Int) + 1) ys)[i]? = some x := h
    have e : (n : Int) + 1 = ((n + 1 : Nat) : Int) := by omega
    rw [e] at h'
    obtain ⟨z, h1, h2⟩ := enum_get h'
    refine ⟨z, h1, ?_⟩
    rw [h2]
    congr 3
    omega
theorem enum_len : ∀ (xs : List W) (n : Int), (enum n xs).length = xs.length
  | [], _ => rfl
  | _ :: xs, n => congrArg (· + 1) (enum_len xs (n + 1))
section
variable {K : PySem.W.Frag} {F H : Hp} {g : Gh} {ρ : Rho} {σ : L2.St}
theorem src_enmL {a : Addr} {xs : List W} {vs : List V} (ha : F a = some (.lst vs)) (h1 : ShL K F xs vs) : SrcOk K σ F H g ⟨enum 0 xs, none⟩ (Ite K a) := by
  intro i F' H' g' ρ' σ' l r k s
  have qa : SqL K H' a vs := .inl (.inl (r.sub _ _ (l.fx _ _ ha)))
  refine ⟨fun x ex => ?_, fun hl => ⟨vs, qa, by rw [← h1.len]; exact (enum_len xs 0) ▸ hl⟩⟩
  obtain ⟨p, e1, rfl⟩ := enum_get (n := 0) ex
  obtain ⟨v, ev, hv⟩ := (h1.sub l.fx).get e1
  refine ⟨⟨vs, v, qa, ev⟩, fun v' H'' y => ?_⟩
  obtain ⟨T, x', rfl, hT, rfl, f1⟩ := y
  have z1 := f1 vs qa
  rw [ev] at z1; cases z1
  refine ⟨_, _, Nw.tup r.sub hT (.cons ?_ (.cons hv .nil)), rfl⟩
  rw [Nat.zero_add]
  exact .int _
theorem src_enmT {a : Addr} {xs : List W} {vs : List V} (ha : SqT K F a vs) (h1 : ShL K F xs vs) : SrcOk K σ F H g ⟨enum 0 xs, none⟩ (IteT K a) := by
  intro i F' H' g' ρ' σ' l r k s
  have qa : SqT K H' a vs := SqT.sub r.sub (SqT.sub l.fx ha)
  refine ⟨fun x ex => ?_, fun hl => ⟨vs, qa, by rw [← h1.len]; exact (enum_len xs 0) ▸ hl⟩⟩
  obtain ⟨p, e1, rfl⟩ := enum_get (n := 0) ex
  obtain ⟨v, ev, hv⟩ := (h1.sub l.fx).get e1
  refine ⟨⟨vs, v, qa, ev⟩, fun v' H'' y => ?_⟩
  obtain ⟨T, x', rfl, hT, rfl, f1⟩ := y
  have z1 := f1 vs qa
  rw [ev] at z1; cases z1
  refine ⟨_, _, Nw.tup r.sub hT (.cons ?_ (.cons hv .nil)), rfl⟩
  rw [Nat.zero_add]
  exact .int _
end
theorem enm_pi {a : Expr} {a' : Ex} {p pos tpos : Pos} {elts : List Expr} {kk : Nat} (hg : Gl X "enumerate") (hm : X.mg "enumerate" = none) (ha : PA X [a] (rAs X.K Z (evs [a']))) (na : notStar a = true) :
    PI X (.Tuple elts kk tpos) (.Call (.Name "enumerate" p) [a] [] pos) (rI X.K Z (src (.enm a'))) := by
  refine ⟨fun pins s σ H R I ⟨F, g, ρ, rl, c⟩ => (pi_enumA hg hm ha (star_cons na)).run pins s σ H R I ?_⟩
  have se : src (.enm a') = bnd (evs [a']) fun ws => match ws with
      | [.tup xs] => ret ⟨enum 0 xs, none⟩
      | [.lst _ xs] => ret ⟨enum 0 xs, none⟩
      | _ => stuck := by
    unfold src evs evs
    simp only [assoc_bnd, bnd_ret]
    congr 1; funext s
    congr 1; funext x
    cases x <;> rfl
  rw [se] at c
  refine ⟨F, g, ρ, rl, c.bnd.imp fun ws ρ1 c1 vs F1 H1 g1 p1 hl => ?_⟩
  split at c1
  · rename_i xs
    cases hl with
    | cons h1 hl =>
      cases hl
      cases h1 with
      | tup k1 k2 => exact ⟨_, _, rfl, .inr ⟨SqT.sub p1.rl.sub k1, c1.ret _ _ _ _ p1 (src_enmT k1 k2)⟩⟩
  · rename_i o1 xs
    cases hl with
    | cons h1 hl =>
      cases hl
      cases h1 with
      | lst k1 k2 => exact ⟨_, _, rfl, .inl ⟨.inl (.inl (p1.rl.sub _ _ k1)), c1.ret _ _ _ _ p1 (src_enmL k1 k2)⟩⟩
  · exact c1.stuck.elim
end
end Rf
/-! list comprehensions -/
namespace Rf
open PySem PySem.Spec PyProof.Rows L2
abbrev Z0 : WX := fun _ _ _ _ => False
theorem slot_set2 {ρ : Rho} {i j : Nat} {w : Option W} : slot (ρ.set i w) j = if j = i then (if i < ρ.length then w else none) else slot ρ j := by
  unfold slot
  rw [List.getElem?_set]
  by_cases c : i = j
  · subst c
    by_cases hl : i < ρ.length <;> simp [hl]
  · simp [c, Ne.symm c]
theorem slot_ge {ρ : Rho} {j : Nat} (h : ¬ j < ρ.length) : slot ρ j = none := by
  unfold slot
  rw [List.getElem?_eq_none (by omega)]; rfl
theorem rwipe_len (ρ : Rho) : ∀ vs : List Nat, (Rf.wipe ρ vs).length = ρ.length
  | [] => rfl
  | v :: vs => by unfold Rf.wipe; rw [List.length_set, rwipe_len ρ vs]
theorem unwipe_len (ρ0 ρ : Rho) : ∀ vs : List Nat, (unwipe ρ0 ρ vs).length = ρ.length
  | [] => rfl
  | v :: vs => by unfold unwipe; rw [List.length_set, unwipe_len ρ0 ρ vs]
theorem slot_wipe {ρ : Rho} {j : Nat} : ∀ {vs : List Nat}, slot (Rf.wipe ρ vs) j = if j ∈ vs then none else slot ρ j
  | [] => by simp [Rf.wipe]
  | v :: vs => by
    unfold Rf.wipe
    rw [slot_set2, slot_wipe]
    by_cases c : j = v
    · simp [c]
    · simp [c]
theorem rwipe_id {ρ : Rho} : ∀ {vs : List Nat}, (∀ v ∈ vs, slot ρ v = none) → Rf.wipe ρ vs = ρ
  | [], _ => rfl
  | v :: vs, h => by
    unfold Rf.wipe
    rw [rwipe_id fun u hu => h u (List.mem_cons_of_mem _ hu)]
    have s := h v (List.mem_cons_self ..)
    apply List.ext_getElem?
    intro j
    rw [List.getElem?_set]
    by_cases cj : v = j
    · subst cj
      by_cases hl : v < ρ.length
      · rw [if_pos rfl, if_pos hl]
        unfold slot at s
        rw [List.getElem?_eq_getElem hl] at s ⊢
        simp only [Option.join_some] at s
        rw [s]
      · rw [if_pos rfl, if_neg hl, List.getElem?_eq_none (Nat.le_of_not_lt hl)]
    · rw [if_neg cj]
theorem slot_unwipe {ρ0 ρ : Rho} (hl : ρ.length = ρ0.length) {j : Nat} : ∀ {vs : List Nat}, slot (unwipe ρ0 ρ vs) j = if j ∈ vs then slot ρ0 j else slot ρ j
  | [] => by simp [unwipe]
  | v :: vs => by
    unfold unwipe
    rw [slot_set2, slot_unwipe hl, unwipe_len]
    by_cases c : j = v
    · subst c
      by_cases hj : j < ρ.length
      · simp [hj, slot]
      · simp [hj, slot_ge (hl ▸ hj)]
    · simp [c]
theorem getP_of {ρ ρ' : Rho} {j : Nat} (h : slot ρ j = slot ρ' j) (f : String) : getP ρ j (some f) = getP ρ' j (some f) := by
  show (slot ρ j).bind _ = (slot ρ' j).bind _
  rw [h]
theorem vp_of {σ σ' : L2.St} {H : Hp} {j : Nat} (h : σ[j]? = σ'[j]?) (f : String) : VP σ H j f = VP σ' H j f := by
  unfold VP; rw [h]
theorem wipe_in {σ : L2.St} {j : Nat} : ∀ {vs : List Nat}, j ∈ vs → (L2.wipe σ vs)[j]? = (σ[j]?).map fun _ => none
  | [], h => by simp at h
  | v :: vs, h => by
    unfold L2.wipe
    rw [List.getElem?_set, L2.wipe_length]
    by_cases c : v = j
    · subst c
      by_cases hj : v < σ.length
      · simp [hj]
      · simp [hj, List.getElem?_eq_none (Nat.le_of_not_lt hj)]
    · rw [if_neg c]
      exact wipe_in ((List.mem_cons.mp h).resolve_left (Ne.symm c))
theorem wipe_eq {σ σ' : L2.St} {vs : List Nat} (hl : σ'.length = σ.length) (h : ∀ j, j ∉ vs → σ'[j]? = σ[j]?) : L2.wipe σ' vs = L2.wipe σ vs := by
  apply List.ext_getElem?
  intro j
  by_cases c : j ∈ vs
  · rw [wipe_in c, wipe_in c]
    by_cases hj : j < σ.length
    · rw [List.getElem?_eq_getElem hj, List.getElem?_eq_getElem (hl ▸ hj)]; rfl
    · rw [List.getElem?_eq_none (Nat.le_of_not_lt hj), List.getElem?_eq_none (by omega)]
  · rw [wipe_out c, wipe_out c, h j c]
/-- the ghost without some slots -/
def gOff (g : Gh) (vs : List Nat) : Gh := fun b => match g b with
  | some (j, f) => if j ∈ vs then none else some (j, f)
  | none => none
def gOn (g g' : Gh) (vs : List Nat) : Gh := fun b => match g b with
  | some (j, f) => if j ∈ vs then some (j, f) else g' b
  | none => g' b
theorem gOff_some {g : Gh} {vs : List Nat} {b : Addr} {p : Nat × Option String} (h : gOff g vs b = some p) : g b = some p ∧ p.1 ∉ vs := by
  unfold gOff at h
  cases x : g b with
  | none => rw [x] at h; cases h
  | some q =>
    rw [x] at h
    dsimp only at h
    split at h
    · cases h
    · rename_i c; cases h; exact ⟨rfl, c⟩
theorem gOff_in {g : Gh} {vs : List Nat} {b : Addr} {j : Nat} {f : Option String} (h : g b = some (j, f)) (hj : j ∈ vs) : gOff g vs b = none := by
  unfold gOff; rw [h]; exact if_pos hj
theorem gOff_out {g : Gh} {vs : List Nat} {b : Addr} {j : Nat} {f : Option String} (h : g b = some (j, f)) (hj : j ∉ vs) : gOff g vs b = some (j, f) := by
  unfold gOff; rw [h]; exact if_neg hj
theorem gOff_none {g : Gh} {vs : List Nat} {b : Addr} (h : g b = none) : gOff g vs b = none := by unfold gOff; rw [h]
section
variable {K : PySem.W.Frag} {F H F1 H1 : Hp} {g g1 : Gh} {ρ : Rho} {σ : L2.St}
theorem Le.off {vs : List Nat} : Le F H g F H (gOff g vs) := ⟨Sub.refl _, fun _ _ e _ => e, fun _ h => h, fun b p h => .inl (gOff_some h).1, fun _ h => .inl h⟩
theorem Rl.off (r : Rl K F H g ρ σ) (vs : List Nat) : Rl K F H (gOff g vs) (Rf.wipe ρ vs) (L2.wipe σ vs) where
  sub := r.sub
  gF := fun a p e => r.gF a p (gOff_some e).1
  gH := fun a p e => r.gH a p (gOff_some e).1
  len := by rw [rwipe_len, L2.wipe_length, r.len]
  sl := fun j x e => by
    rw [slot_wipe] at e
    split at e
    · cases e
    · rename_i c
      obtain ⟨v, hv, hO⟩ := r.sl j x e
      exact ⟨v, by rw [wipe_out c]; exact hv, hO.mono (Sub.refl _) (fun _ _ _ => rfl) fun f a ha => gOff_out ha c⟩
/-- a thing that nobody knows of -/
theorem Rl.updn (r : Rl K F H g ρ σ) {D : Addr} {o : HO} (hF : F D = none) (hg : g D = none) : Rl K F (upd H D o) g ρ σ where
  sub := fun b u e => by
    rw [upd_ne (ne_of_none e hF)]
    exact r.sub b u e
  gF := r.gF
  gH := fun a p e => by
    by_cases c : a = D
    · subst c; rw [hg] at e; cases e
    · rw [upd_ne c]; exact r.gH a p e
  len := r.len
  sl := fun j x e => by
    obtain ⟨v, hv, hO⟩ := r.sl j x e
    refine ⟨v, hv, hO.mono (Sub.refl _) (fun f a ha => upd_ne fun c => ?_) fun _ _ h => h⟩
    subst c
    have ha : g a = some (j, f) := ha
    rw [hg] at ha; cases ha
theorem ls_updn (r : Rl K F H g ρ σ) {D : Addr} {o : HO} (hg : g D = none) {X : Nat → Prop} : Ls X ρ σ H ρ σ (upd H D o) := fun i f w _ e l =>
  ⟨⟨w, e, l⟩, r.vp e fun b C dx vf _ hb => upd_ne fun c => hb (c ▸ hg)⟩
/-- an instance at a slot, its fields -/
theorem Rl.vpAt (r : Rl K F H g ρ σ) {j : Nat} {f : String} {x : W} (e : getP ρ j (some f) = some x) {H1 : Hp} (k : ∀ b, g b = some (j, none) → H1 b = H b) : VP σ H1 j f = VP σ H j f := by
  have e' : (slot ρ j).bind (fun w => getF w f) = some x := e
  cases s : slot ρ j with
  | none => rw [s] at e'; cases e'
  | some y =>
    rw [s] at e'
    cases y with
    | ins o C fs =>
      obtain ⟨v, hv, hO⟩ := r.sl j _ s
      cases o with
      | false => cases hO
      | true =>
        obtain ⟨a, dx, vf, rfl, h1, h2, _⟩ := hO
        unfold VP
        rw [hv]
        simp only [k a h2]
    | _ => cases e'
/-- behind the block: its own slots are as they were -/
theorem Rl.on {F' H' : Hp} {g' : Gh} {ρ' : Rho} {vs : List Nat} (r : Rl K F H g ρ σ) (l : Le F H (gOff g vs) F' H' g') (r' : Rl K F' H' g' (Rf.wipe ρ' vs) (L2.wipe σ vs)) :
    Rl K F' H' (gOn g g' vs) (unwipe ρ ρ' vs) σ ∧ Le F H g F' H' (gOn g g' vs) := by
  have hl : ρ'.length = ρ.length := by
    have h1 := r'.len
    rw [rwipe_len, L2.wipe_length] at h1
    rw [h1, r.len]
  have own1 : ∀ b j f, g b = some (j, f) → j ∈ vs → gOn g g' vs b = some (j, f) ∧ F' b = none ∧ (∀ o, H b = some o → H' b = some o) ∧ H b ≠ none := fun b j f e hj => by
    have off := gOff_in e hj
    have hH := r.gH b _ e
    refine ⟨by unfold gOn; rw [e]; exact if_pos hj, ?_, fun o eo => l.fr b o eo off, hH⟩
    cases z : F' b with
    | none => rfl
    | some o => rcases l.fn b (by rw [z]; exact nofun) with y | y | y
                · exact absurd (r.gF b _ e) y
                · exact absurd off y
                · exact absurd y hH
  have cs : ∀ b p, gOn g g' vs b = some p → (∃ j f, g b = some (j, f) ∧ j ∈ vs ∧ p = (j, f)) ∨ g' b = some p := fun b p e => by
    unfold gOn at e
    cases x : g b with
    | none => rw [x] at e; exact .inr e
    | some q =>
      rw [x] at e
      obtain ⟨j, f⟩ := q
      dsimp only at e
      split at e
      · rename_i c; cases e; exact .inl ⟨j, f, rfl, c, rfl⟩
      · exact .inr e
  refine ⟨⟨r'.sub, fun a p e => ?_, fun a p e => ?_, ?_, fun j x e => ?_⟩, l.fx, fun b o e n => l.fr b o e (gOff_none n), l.dom, fun b p e => ?_, fun b h => ?_⟩
  · rcases cs a p e with ⟨j, f, h1, h2, _⟩ | h
    · exact (own1 a j f h1 h2).2.1
    · exact r'.gF a p h
  · rcases cs a p e with ⟨j, f, h1, h2, _⟩ | h
    · exact l.dom a (own1 a j f h1 h2).2.2.2
    · exact r'.gH a p h
  · rw [unwipe_len, hl, r.len]
  · rw [slot_unwipe hl] at e
    split at e
    · rename_i c
      obtain ⟨v, hv, hO⟩ := r.sl j x e
      refine ⟨v, hv, hO.mono l.fx (fun f a ha => ?_) fun f a ha => (own1 a j f ha c).1⟩
      obtain ⟨_, _, k3, k4⟩ := own1 a j f ha c
      cases z : H a with
      | none => exact absurd z k4
      | some o => exact k3 o z
    · rename_i c
      obtain ⟨v, hv, hO⟩ := r'.sl j x (by rw [slot_wipe, if_neg c]; exact e)
      rw [wipe_out c] at hv
      refine ⟨v, hv, hO.mono (Sub.refl _) (fun _ _ _ => rfl) fun f a ha => ?_⟩
      have ha : g' a = some (j, f) := ha
      unfold gOn
      cases x : g a with
      | none => exact ha
      | some q =>
        obtain ⟨j', f'⟩ := q
        dsimp only
        split
        · rename_i c2
          have := l.gnone (gOff_in x c2) (r.gH a _ x)
          rw [ha] at this; cases this
        · exact ha
  · rcases cs b p e with ⟨j, f, h1, h2, rfl⟩ | h
    · exact .inl h1
    · rcases l.gn b p h with z | z
      · exact .inl (gOff_some z).1
      · exact .inr z
  · rcases l.fn b h with z | z | z
    · exact .inl z
    · refine .inr (.inl fun n => z (gOff_none n))
    · exact .inr (.inr z)
end
/-- a test's reading, by what gives a bool -/
def rB (K : PySem.W.Frag) (Z : WX) (m : M Bool) : TT := fun σ H Q => ∃ F g ρ, Rl K F H g ρ σ ∧ Ct K Z σ F H g ρ m ρ fun b ρ' => ∀ F' H' g', Ps K σ F H g ρ F' H' g' ρ' → Q b H'
theorem pts_none {X : Cx} : PTs X [] (rB X.K Z0 (evB none)) := ⟨fun pins s σ H Q I ⟨F, g, ρ, rl, c⟩ => by
  unfold evB at c
  exact pts_nil.run pins s σ H Q I (c.ret F H g (.refl rl))⟩
theorem pts_some {X : Cx} {c : Expr} {c' : Ex} (h : PT X c (rT X.K Z0 (ev c'))) : PTs X [c] (rB X.K Z0 (evB (some c'))) := ⟨fun pins s σ H Q I q => by
  refine (pts_one h).run pins s σ H Q I ?_
  obtain ⟨F, g, ρ, rl, k⟩ := q
  unfold evB at k
  exact ⟨F, g, ρ, rl, k⟩⟩
section
variable {K : PySem.W.Frag} {Z : WX} {σ : L2.St} {H : Hp} {Q : VK}
theorem lc_rd {elt : Ex} {tg : Tg} {it : It} {c : Option Ex} {ow : List Nat} (hix : ∀ j ∈ tgIx tg, j ∈ ow) (h : rE K Z (ev (.lc elt tg it c ow)) σ H Q) :
    tLc (rI K Z (src it)) (rG K tg) (rB K Z0 (evB c)) (rE K Z0 (ev elt)) ow σ H Q := by
  obtain ⟨F, g, ρ, rl, k⟩ := h
  unfold ev at k
  refine ⟨F, g, ρ, rl, k.bnd.imp fun q ρ1 c1 J F1 H1 g1 p1 so D hD => ?_⟩
  by_cases hlen : q.its.length < LIM
  case neg => rw [if_neg hlen] at c1; exact c1.stuck.elim
  rw [if_pos hlen] at c1
  obtain ⟨r, ρ3, e, z⟩ := c1.bnd
  unfold blk at e
  have fin : ∃ ws ρe, lcL tg q.at_ ow (evB c) (bnd (ev elt) sh) q.its [] (Rf.wipe ρ1 ow) = some (.ok ws, ρe) ∧ r = .ok ws ∧ ρ3 = unwipe ρ1 ρe ow := by
    cases x : lcL tg q.at_ ow (evB c) (bnd (ev elt) sh) q.its [] (Rf.wipe ρ1 ow) with
    | none => rw [x] at e; cases e
    | some p =>
      rw [x] at e
      obtain ⟨r', ρe⟩ := p
      cases r' with
      | ok ws => cases e; exact ⟨ws, ρe, rfl, rfl, rfl⟩
      | ex w => cases e
  obtain ⟨ws, ρe, run, rfl, rfl⟩ := fin
  have C := Ct.ret z
  have still_of : ∀ {its acc ρ'}, lcL tg q.at_ ow (evB c) (bnd (ev elt) sh) its acc ρ' = some (.ok ws, ρe) → still ρ' q.at_ := fun {its acc ρ'} h => by
    cases its with
    | nil =>
      unfold lcL at h
      split at h
      · assumption
      · cases h
    | cons x xs =>
      unfold lcL at h
      split at h
      · assumption
      · cases h
  have at_out : ∀ j w, q.at_ = some (j, w) → j ∉ ow := fun j w ea => by
    have s := still_of run
    rw [ea] at s
    have s : slot (Rf.wipe ρ1 ow) j = some w := s
    intro hj
    rw [slot_wipe, if_pos hj] at s
    cases s
  have hg1D : g1 D = none := by
    cases x : g1 D with
    | none => rfl
    | some q => exact absurd hD (p1.rl.gH D q x)
  have hF1D : F1 D = none := by
    cases x : F1 D with
    | none => rfl
    | some o => rw [p1.rl.sub _ _ x] at hD; cases hD
  let P : Nat → Hp → Prop := fun i H' => ∃ F' g' ρp acc accv, Le F1 H1 (gOff g1 ow) F' H' g' ∧ Rl K F' H' g' (Rf.wipe ρp ow) (L2.wipe σ ow) ∧ F' D = none ∧ g' D = none ∧ H' D = some (.lst accv) ∧ ShL K F' acc accv ∧ acc.length ≤ i ∧
    Ls (· ∉ ow) ρ1 σ H1 ρp (L2.wipe σ ow) H' ∧ lcL tg q.at_ ow (evB c) (bnd (ev elt) sh) (q.its.drop i) acc ρp = some (.ok ws, ρe)
  refine ⟨fun i m H' => m = q.its.length - i ∧ i ≤ q.its.length ∧ P i H', ⟨_, rfl, Nat.zero_le _, F1, gOff g1 ow, Rf.wipe ρ1 ow, [], [], ?_, ?_, hF1D, gOff_none hg1D, upd_same, .nil, Nat.zero_le _, ?_, by rw [List.drop_zero]; exact run⟩, ?_⟩
  · exact (Le.refl (F := F1) (H := H1) (g := gOff g1 ow)).mut (.inl hD)
  · have e1 : Rf.wipe (Rf.wipe ρ1 ow) ow = Rf.wipe ρ1 ow := rwipe_id fun v hv => by rw [slot_wipe, if_pos hv]
    rw [e1]
    exact (p1.rl.off ow).updn hF1D (gOff_none hg1D)
  · intro j f w hj ew lw
    refine ⟨⟨w, ?_, lw⟩, ?_⟩
    · rw [getP_of (ρ' := ρ1) (by rw [slot_wipe, if_neg hj])]; exact ew
    · rw [vp_of (σ' := σ) (wipe_out hj)]
      exact (ls_updn p1.rl hg1D (X := All) j f w trivial ew lw).2
  · rintro i m H' ⟨rfl, hi, F', g', ρp, acc, accv, l, r, hF, hg, hH, ha, hal, ls, run'⟩
    have hs := still_of run'
    have hs' : still (Rf.wipe ρp ow) q.at_ := by
      cases x : q.at_ with
      | none => trivial
      | some p =>
        obtain ⟨j, w⟩ := p
        rw [x] at hs
        have hs : slot ρp j = some w := hs
        show slot (Rf.wipe ρp ow) j = some w
        rw [slot_wipe, if_neg (at_out j w x)]
        exact hs
    obtain ⟨k1, k2⟩ := so i F' H' g' (Rf.wipe ρp ow) (L2.wipe σ ow) (Le.off.trans l) r (fun j w ea => wipe_out (at_out j w ea)) hs'
    by_cases hlt : i < q.its.length
    case neg =>
      have hi' : i = q.its.length := by omega
      subst hi'
      refine .inl ⟨k2 (Nat.le_refl _), ?_⟩
      rw [List.drop_length] at run'
      unfold lcL at run'
      rw [if_pos hs] at run'
      cases run'
      obtain ⟨rl2, le2⟩ := p1.rl.on l r
      have hlen2 : ρe.length = ρ1.length := by
        have h1 := r.len
        rw [rwipe_len, L2.wipe_length] at h1
        rw [h1, p1.rl.len]
      refine C (.ref D) F' H' _ (p1.trans ⟨le2, rl2, fun j f w _ ew lw => ?_⟩) ⟨fun a => if a = D then some none else none, fun a f ea => ?_, D, accv, rfl, hH, if_pos rfl, ha⟩
      · by_cases cj : j ∈ ow
        · refine ⟨⟨w, ?_, lw⟩, p1.rl.vpAt ew fun b hb => ?_⟩
          · rw [getP_of (ρ' := ρ1) (by rw [slot_unwipe hlen2, if_pos cj])]; exact ew
          · cases zz : H1 b with
            | none => exact absurd zz (p1.rl.gH b _ hb)
            | some o => exact l.fr b o zz (gOff_in hb cj)
        · obtain ⟨⟨w', ew', lw'⟩, hv⟩ := ls j f w cj ew lw
          refine ⟨⟨w', ?_, lw'⟩, ?_⟩
          · rw [getP_of (ρ' := ρe) (by rw [slot_unwipe hlen2, if_neg cj])]; exact ew'
          · rw [← hv]; exact vp_of (wipe_out cj).symm f
      · have ea : (if a = D then some none else none) = some f := ea
        split at ea
        · rename_i cc
          subst cc
          refine ⟨hF, ?_, by rw [hH]; exact nofun, p1.le.hnone hD⟩
          unfold gOn; rw [hg1D]; exact hg
        · cases ea
    case pos =>
      have hx : q.its[i]? = some q.its[i] := List.getElem?_eq_getElem hlt
      obtain ⟨go, yl⟩ := k1 _ hx
      refine .inr ⟨go, P (i + 1), fun H'' p => ⟨q.its.length - (i + 1), by omega, rfl, hlt, p⟩, fun v H2 y => ?_⟩
      obtain ⟨F2, mk, nw, hown⟩ := yl v H2 y
      have hdrop : q.its.drop i = q.its[i] :: q.its.drop (i + 1) := List.drop_eq_getElem_cons hlt
      rw [hdrop] at run'
      unfold lcL at run'
      rw [if_pos hs] at run'
      obtain ⟨p2, tm2⟩ := (Ps.refl r).nw nw
      have hsh : Sh K F2 q.its[i] v := nw.ow.sh hown
      have hF2 : F2 D = none := by
        cases zz : F2 D with
        | none => rfl
        | some o => rcases nw.fn D (by rw [zz]; exact nofun) with y | y
                    · exact absurd hF y
                    · rw [hH] at y; cases y
      have hH2 : H2 D = some (.lst accv) := by rw [nw.hx D (by rw [hH]; exact nofun)]; exact hH
      unfold bnd at run'
      cases es : stTg tg q.its[i] (Rf.wipe ρp ow) with
      | none => rw [es] at run'; cases run'
      | some pr =>
        obtain ⟨ro, ρ2⟩ := pr
        rw [es] at run'
        cases ro with
        | ex w => cases run'
        | ok u =>
          refine ⟨F2, g', Rf.wipe ρp ow, q.its[i], ρ2, p2.rl, hsh, es, fun σ2 rl2 hl2 eq2 => ⟨?_, ?_⟩⟩
          · have w1 : L2.wipe (L2.wipe σ ow) ow = L2.wipe σ ow := wipe_eq (L2.wipe_length ..) fun j hj => wipe_out hj
            rw [← w1]
            exact wipe_eq hl2 fun j hj => (eq2 j fun hh => hj (hix j hh)).1
          · -- what a state behind the turn must be
            have turn : ∀ {F5 H5 : Hp} {g5 : Gh} {ρ5 : Rho} {acc5 : List W}, Ps K σ2 F2 H2 g' ρ2 F5 H5 g5 ρ5 → (acc5 = acc → lcL tg q.at_ ow (evB c) (bnd (ev elt) sh) (q.its.drop (i + 1)) acc5 ρ5 = some (.ok ws, ρe) → P (i + 1) H5) ∧
                (∀ w' y', Sh K F5 w' y' → acc5 = acc ++ [w'] → lcL tg q.at_ ow (evB c) (bnd (ev elt) sh) (q.its.drop (i + 1)) acc5 ρ5 = some (.ok ws, ρe) → ∃ a, H5 D = some (.lst a) ∧ a.length < sizeLine ∧ P (i + 1) (upd H5 D (.lst (a ++ [y'])))) := fun {F5 H5 g5 ρ5 acc5} p5 => by
              have hF5 : F5 D = none := by
                cases zz : F5 D with
                | none => rfl
                | some o => rcases p5.le.fn D (by rw [zz]; exact nofun) with y | y | y
                            · exact absurd hF2 y
                            · exact absurd hg y
                            · rw [hH2] at y; cases y
              have hg5 : g5 D = none := p5.le.gnone hg (by rw [hH2]; exact nofun)
              have hH5 : H5 D = some (.lst accv) := p5.le.fr D _ hH2 hg
              have l5 : Le F1 H1 (gOff g1 ow) F5 H5 g5 := (l.trans p2.le).trans p5.le
              have r5 : Rl K F5 H5 g5 (Rf.wipe ρ5 ow) (L2.wipe σ ow) := by
                have off := p5.rl.off ow
                have w2 : L2.wipe σ2 ow = L2.wipe σ ow := by
                  have w1 : L2.wipe (L2.wipe σ ow) ow = L2.wipe σ ow := wipe_eq (L2.wipe_length ..) fun j hj => wipe_out hj
                  rw [← w1]
                  exact wipe_eq hl2 fun j hj => (eq2 j fun hh => hj (hix j hh)).1
                rw [w2] at off
                refine ⟨off.sub, p5.rl.gF, p5.rl.gH, off.len, fun j x ex => ?_⟩
                obtain ⟨vv, hv, hO⟩ := off.sl j x ex
                exact ⟨vv, hv, hO.mono (Sub.refl _) (fun _ _ _ => rfl) fun f a ha => (gOff_some ha).1⟩
              have ls5 : Ls (· ∉ ow) ρ1 σ H1 ρ5 (L2.wipe σ ow) H5 := fun j f w hj ew lw => by
                obtain ⟨⟨w', ew', lw'⟩, hv⟩ := ls j f w hj ew lw
                have e2 : getP (Rf.wipe ρp ow) j (some f) = some w' := by rw [getP_of (ρ' := ρp) (by rw [slot_wipe, if_neg hj])]; exact ew'
                obtain ⟨⟨w3, ew3, lw3⟩, hv3⟩ := p2.ls j f w' trivial e2 lw'
                have hjt : j ∉ tgIx tg := fun hh => hj (hix j hh)
                have e4 : getP ρ2 j (some f) = some w3 := by rw [getP_of (eq2 j hjt).2]; exact ew3
                obtain ⟨⟨w5, ew5, lw5⟩, hv5⟩ := p5.ls j f w3 trivial e4 lw3
                refine ⟨⟨w5, ew5, lw5⟩, ?_⟩
                rw [← hv, ← hv3, vp_of (H := H2) (eq2 j hjt).1.symm f, ← hv5]
                exact vp_of (eq2 j hjt).1.symm f
              have ha5 : ShL K F5 acc accv := (ha.sub nw.fx).sub p5.le.fx
              refine ⟨fun eacc hrun => ⟨F5, g5, ρ5, acc5, accv, l5, r5, hF5, hg5, hH5, eacc ▸ ha5, by rw [eacc]; omega, ls5, hrun⟩, fun w' y' hy eacc hrun => ⟨accv, hH5, ?_, F5, g5, ρ5, acc5, accv ++ [y'], l5.mut (.inl hD), r5.updn hF5 hg5, hF5, hg5, upd_same, ?_, ?_, ?_, hrun⟩⟩
              · rw [← ha5.len]
                exact lim_lt (by omega)
              · rw [eacc]; exact ha5.app (.one hy)
              · rw [eacc, List.length_append]; simp; omega
              · intro j f w hj ew lw
                obtain ⟨⟨w', ew', lw'⟩, hv⟩ := ls5 j f w hj ew lw
                have e5 : getP (Rf.wipe ρ5 ow) j (some f) = some w' := by rw [getP_of (ρ' := ρ5) (by rw [slot_wipe, if_neg hj])]; exact ew'
                exact ⟨⟨w', ew', lw'⟩, ((ls_updn r5 hg5 (X := All) j f w' trivial e5 lw').2).trans hv⟩
            have run2 : bnd (evB c) (fun k => if k then bnd (bnd (ev elt) sh) fun y => lcL tg q.at_ ow (evB c) (bnd (ev elt) sh) (q.its.drop (i + 1)) (acc ++ [y]) else lcL tg q.at_ ow (evB c) (bnd (ev elt) sh) (q.its.drop (i + 1)) acc) ρ2 = some (.ok ws, ρe) := run'
            refine ⟨F2, g', ρ2, rl2, ?_⟩
            unfold bnd at run2
            cases ec : evB c ρ2 with
            | none => rw [ec] at run2; cases run2
            | some pr =>
              obtain ⟨rc, ρ4⟩ := pr
              rw [ec] at run2
              cases rc with
              | ex w => cases run2
              | ok b =>
                refine ⟨.ok b, ρ4, ec, fun F4 H4 g4 p4 => ?_⟩
                cases b with
                | false =>
                  rw [if_neg (by decide)]
                  exact (turn (acc5 := acc) p4).1 rfl run2
                | true =>
                  rw [if_pos rfl]
                  have run3 : bnd (bnd (ev elt) sh) (fun y => lcL tg q.at_ ow (evB c) (bnd (ev elt) sh) (q.its.drop (i + 1)) (acc ++ [y])) ρ4 = some (.ok ws, ρe) := run2
                  rw [assoc_bnd] at run3
                  refine ⟨F4, g4, ρ4, p4.rl, ?_⟩
                  unfold bnd at run3
                  cases ee : ev elt ρ4 with
                  | none => rw [ee] at run3; cases run3
                  | some pr =>
                    obtain ⟨re, ρ5⟩ := pr
                    rw [ee] at run3
                    cases re with
                    | ex w => cases run3
                    | ok t =>
                      refine ⟨.ok t, ρ5, ee, fun yv F5 H5 g5 p5 tm => ?_⟩
                      have run4 : bnd (sh t) (fun y => lcL tg q.at_ ow (evB c) (bnd (ev elt) sh) (q.its.drop (i + 1)) (acc ++ [y])) ρ5 = some (.ok ws, ρe) := run3
                      unfold bnd at run4
                      cases esh : sh t ρ5 with
                      | none => rw [esh] at run4; cases run4
                      | some pr =>
                        obtain ⟨rs, ρ6⟩ := pr
                        rw [esh] at run4
                        obtain ⟨w6, F6, g6, rfl, p6, hs6⟩ := sh_ok (p4.trans p5) (tm.start p4.le) esh
                        exact (turn (acc5 := acc ++ [w6]) p6).2 w6 yv hs6 rfl run4
end
end Rf
/-! a[::-1] -/
namespace Rf
open PySem PySem.Spec PyProof.Rows L2 HT
section
variable {prog : Program} {w : World} {A : Around} {E : Value → Shared → Prop} {s : Shared}
theorem sliceApplied_rev {sl : Addr} {vl vu vs : Value} {n : Nat} {Q : Int × Int × Nat → Shared → Prop} (hs : s.heap.IsSliceOf sl vl vu vs) (pl : IsPart vl none) (pu : IsPart vu none) (ps : IsPart vs (some (-1)))
    (h : Q ((n : Int) - 1, -1, n) s) : wpAny (model prog w) A (Builtin.Slice.sliceApplied (.ref sl) (pure (n : Int))) Q E s := by
  obtain ⟨os, hos, hcs, hds⟩ := id hs
  unfold Builtin.Slice.sliceApplied Builtin.Slice.sliceFields
  refine wpAny_bind (wpAny_bind (wpAny_field hos hds (x := vl) rfl (wpAny_bind (wpAny_field hos hds (x := vu) rfl (wpAny_bind (wpAny_field hos hds (x := vs) rfl (wpAny_pure ?_)))))))
  refine wpAny_bind (slicePart_ ps ?_)
  show wpAny _ _ (if ((-1 : Int) == 0) = true then _ else _) _ _ s
  rw [if_neg (by decide)]
  refine wpAny_bind (slicePart_ pl (wpAny_bind (slicePart_ pu (wpAny_bind (wpAny_pure ?_)))))
  have e1 : Builtin.Slice.sliceAdjust none none (-1) (n : Int) = ((n : Int) - 1, -1) := rfl
  have e2 : Builtin.Slice.slicePlaces ((n : Int) - 1) (-1) (-1) = n := by
    unfold Builtin.Slice.slicePlaces
    rw [if_neg (by decide)]
    by_cases c : (n : Int) - 1 > -1
    · rw [if_pos c]
      have : ((n : Int) - 1 - -1 - 1) / (- -1) = (n : Int) - 1 := by
        rw [show (- -1 : Int) = 1 by decide, Int.ediv_one]; omega
      rw [this]; omega
    · rw [if_neg c]; omega
  show wpAny _ _ (match Builtin.Slice.sliceAdjust none none (-1) (n : Int) with | (lo, hi) => pure (lo, (-1 : Int), Builtin.Slice.slicePlaces lo hi (-1))) _ _ s
  rw [e1]
  show wpAny _ _ (pure ((n : Int) - 1, (-1 : Int), Builtin.Slice.slicePlaces ((n : Int) - 1) (-1) (-1))) _ _ s
  rw [e2]
  exact wpAny_pure h
theorem pick_rev (xs : Array Value) : ((List.range xs.size).filterMap fun (m : Nat) => xs[(((xs.size : Int) - 1) + (m : Int) * (-1)).toNat]?).toArray = xs.toList.reverse.toArray := by
  have e : (fun (m : Nat) => xs[(((xs.size : Int) - 1) + (m : Int) * (-1)).toNat]?) = (fun x => xs[x]?) ∘ fun m => xs.size - 1 - m := by
    funext m
    show _ = xs[xs.size - 1 - m]?
    have : (((xs.size : Int) - 1) + (m : Int) * (-1)).toNat = xs.size - 1 - m := by omega
    rw [this]
  rw [e, ← List.filterMap_map, PySem.W.krv_range, List.filterMap_reverse, PySem.W.krv_all]
theorem getItem_tuple_rev {t sl : Addr} {items : Array Value} {vl vu vs : Value} {Q : Value → Shared → Prop} (ht : IsTup s.heap t items) (hs : s.heap.IsSliceOf sl vl vu vs) (pl : IsPart vl none) (pu : IsPart vu none) (ps : IsPart vs (some (-1)))
    (h : Q (.ref s.heap.objs.size) { s with heap := s.heap.push { cls := .type "tuple", data := .seq items.toList.reverse.toArray } })
    (hsz : items.size ≤ sizeLine) : wpAny (model prog w) A (getItem (.ref t) (.ref sl)) Q E s := by
  have htake : sizeOk (.seq items.toList.reverse.toArray) := by
    show items.toList.reverse.toArray.size ≤ sizeLine
    rw [List.size_toArray, List.length_reverse, Array.length_toList]
    exact hsz
  obtain ⟨os, hos, hcs, hds⟩ := id hs
  have hTs : s.TypeIs (.ref sl) "slice" := ⟨os, hos, hcs⟩
  unfold getItem
  try with_reducible refine wpAny_holding ?_
  first | refine wpAny_bind (wpAny_pure ?_) | skip
  refine wpAny_bind (wpAny_sequenceKey ht.typeIs (by decide) ?_)
  refine wpAny_bind (wpAny_callSpecial?_slot (name := Str.ofString "__getitem__") ht.typeIs PyProof.Rows.slot_tuple_getitem
    (wpAny_call_entry PyProof.Rows.slot_tuple_getitem ht.typeIs entry_tuple_getitem ?_ (args_tuple_getitem _ _)))
  show wpAny _ _ (Builtin.Tuple.tupleItemsOf (.ref t) >>= _) _ _ s
  refine wpAny_bind (tupleItemsOf_ ht ?_)
  refine wpAny_bind (wpAny_typeOf hTs ?_)
  rw [if_pos (by decide)]
  refine wpAny_bind (sliceApplied_rev hs pl pu ps ?_)
  have hno : ¬ ((((items.size : Int) - 1) == 0 && (-1 : Int) == 1 && items.size == items.size) = true) := by
    intro q
    rw [Bool.and_eq_true, Bool.and_eq_true] at q
    exact absurd q.1.2 (by decide)
  show wpAny _ _ (if (((items.size : Int) - 1) == 0 && (-1 : Int) == 1 && items.size == items.size) = true then _ else _) _ _ s
  rw [if_neg hno, pick_rev]
  first
    | exact wpAny_bind (m := Builtin.Tuple.tupleExact _) (wpAny_newObj_type (wpAny_pure ⟨_, rfl, wpAny_pure h⟩) htake)
    | exact wpAny_bind (m := Builtin.Tuple.tupleExact _) (wpAny_newObj_type (wpAny_bind (wpAny_pure (wpAny_pure ⟨_, rfl, wpAny_pure h⟩))) htake)
    | exact wpAny_bind (wpAny_bind (m := Builtin.Tuple.tupleExact _) (wpAny_newObj_type (wpAny_pure (wpAny_pure ⟨_, rfl, wpAny_pure h⟩)) htake))
    | exact wpAny_bind (wpAny_bind (m := Builtin.Tuple.tupleExact _) (wpAny_newObj_type (wpAny_pure ⟨_, rfl, wpAny_pure h⟩) htake))
end
def tRev (K : PySem.W.Frag) (te : TE) : TE := fun σ H Q => te σ H fun x H1 => ∃ a xs, x = .ref a ∧ ((SqL K H1 a xs ∧ ∀ p, H1 p = none → Q (.ref p) (upd H1 p (.lst xs.reverse))) ∨ SqT K H1 a xs ∧ ∀ p, H1 p = none → Q (.ref p) (upd H1 p (.tup xs.reverse)))
section
variable {X : Cx}
theorem pe_rev {e : Expr} {te : TE} {k : Nat} {p1 p2 p3 pos : Pos} (he : PE X e te) : PE X (.Subscript e (.Slice none none (some (.UnaryOp .USub (.Constant (.int 1) k p1) p2)) p3) pos) (tRev X.K te) := by
  refine ⟨fun pins s σ H Q I h => ?_⟩
  refine Subscript_ (thn (he.run pins s σ H _ I h) fun v s1 ⟨x, H1, I1, r1, q1⟩ => ?_)
  obtain ⟨a, xs, ex, q⟩ := q1
  subst ex
  cases r1
  have hst : PO X (some (.UnaryOp .USub (.Constant (.int 1) k p1) p2)) (tPart (tUn (rU fun i => .int (-i)) (tC (.int 1)))) := po_some (pe_un un_neg pe_int)
  refine wpAny_Slice (thn (po_none.run pins s1 σ H1 (fun o H2 => o = none ∧ H2 = H1) I1 ⟨rfl, rfl⟩) fun vl s2 ⟨l, H2, I2, pl, el, e2⟩ => ?_)
  subst el e2
  refine thn (po_none.run pins s2 σ H2 (fun o H3 => o = none ∧ H3 = H2) I2 ⟨rfl, rfl⟩) fun vu s3 ⟨u, H3, I3, pu, eu, e3⟩ => ?_
  subst eu e3
  refine thn (hst.run pins s3 σ H3 (fun o H4 => o = some (-1) ∧ H4 = H3) I3 ⟨1, rfl, -1, rfl, rfl, rfl⟩) fun vs s4 ⟨o, H4, I4, ps, eo, e4⟩ => ?_
  subst eo e4
  have I5 : Inv X pins σ H4 { s4 with heap := s4.heap.push { cls := .type "slice", data := .fields #[vl, vu, vs] } } := I4.kept (t' := s4.toks) fun b ob q => Heap.get?_push_of_some _ q
  show wpAny (model X.prog X.w) X.A (subscriptTail e (.Slice none none (some (.UnaryOp .USub (.Constant (.int 1) k p1) p2)) p3) (.ref a) (.ref s4.heap.objs.size)) (EP X pins σ Q) X.xe { s4 with heap := s4.heap.push { cls := .type "slice", data := .fields #[vl, vu, vs] } }
  rcases q with ⟨hx, q⟩ | ⟨hx, q⟩
  · obtain ⟨its, r, ht, hz⟩ := I5.list hx
    have hlen := r.length
    refine tail_any (ops := [.ref a, .ref s4.heap.objs.size]) ht.isList.typeIs (PySem.slot_list_getitem.lookup) ?_ (by with_unfolding_all rfl)
    refine wpAny_getItem_list_slice ht.isList (Heap.IsSliceOf.new _ vl vu vs) pl pu ps (by decide) ?_ (by rw [List.size_toArray]; omega)
    rw [PySem.W.krv_pick]
    refine ⟨.ref _, _, I5.laid (t' := s4.toks) (o := .lst xs.reverse) (fun b ob q => Heap.get?_push_of_some _ q) (Nat.le_refl _) ?_, rfl, q _ (I5.hok.fresh (Nat.le_refl _))⟩
    exact ⟨by rw [List.length_reverse]; exact hz, _, 0, r.reverse, Heap.get?_push_size _ rfl⟩
  · obtain ⟨its, r, ht, hz⟩ := I5.tuple hx
    have hlen := r.length
    refine tail_any (ops := [.ref a, .ref s4.heap.objs.size]) ht.typeIs (PyProof.Rows.slot_tuple_getitem.lookup) ?_ (by with_unfolding_all rfl)
    refine getItem_tuple_rev ht (Heap.IsSliceOf.new _ vl vu vs) pl pu ps ?_ (by rw [List.size_toArray]; omega)
    refine ⟨.ref _, _, I5.laid (t' := s4.toks) (o := .tup xs.reverse) (fun b ob q => Heap.get?_push_of_some _ q) (Nat.le_refl _) ?_, rfl, q _ (I5.hok.fresh (Nat.le_refl _))⟩
    exact ⟨by rw [List.length_reverse]; exact hz, _, r.reverse, IsTup.new _ _⟩
end
section
variable {K : PySem.W.Frag} {Z : WX} {σ : L2.St} {H : Hp} {Q : VK}
theorem ShL.snoc {F : Hp} : ∀ {ws : List W} {vs : List V} {w : W} {v : V}, ShL K F ws vs → Sh K F w v → ShL K F (ws ++ [w]) (vs ++ [v])
  | _, _, _, _, .nil, h => .cons h .nil
  | _, _, _, _, .cons a b, h => .cons a (ShL.snoc b h)
theorem ShL.rev {F : Hp} : ∀ {ws : List W} {vs : List V}, ShL K F ws vs → ShL K F ws.reverse vs.reverse
  | _, _, .nil => .nil
  | _, _, .cons a b => by
    rw [List.reverse_cons, List.reverse_cons]
    exact ShL.snoc (ShL.rev b) a
theorem rev_rd {a : Ex} (h : rE K Z (ev (.rev a)) σ H Q) : tRev K (rE K Z (ev a)) σ H Q := by
  obtain ⟨F, g, ρ, rl, c⟩ := h
  unfold ev at c
  refine ⟨F, g, ρ, rl, c.bnd.imp fun s ρ1 c1 x F1 H1 g1 p1 m1 => ?_⟩
  obtain ⟨w, ew, c4⟩ := c1.rd
  obtain ⟨w', ew', c5⟩ := c4.lft
  have hb := m1.drf p1.rl ew
  have hs := p1.rl.sub
  cases w with
  | tup xs =>
    obtain ⟨p, vs, rfl, h1, h2⟩ := hb.tup hs
    cases ew'
    refine ⟨p, vs, rfl, .inr ⟨h1, fun b hb' => ?_⟩⟩
    obtain ⟨p4, tm⟩ := p1.nw (Nw.tup hs hb' h2.rev)
    exact c5.ret _ _ _ _ p4 tm
  | lst o xs =>
    obtain ⟨p, vs, rfl, h1, h2⟩ := hb.lst hs
    cases ew'
    refine ⟨p, vs, rfl, .inl ⟨SqL.of h1, fun b hb' => ?_⟩⟩
    obtain ⟨p4, tm⟩ := p1.nw (Nw.lst hs hb' h2.rev)
    exact c5.ret _ _ _ _ p4 tm
  | _ => cases ew'
end
end Rf
/-! tests; what the module's names must be -/
namespace Rf
open PySem PySem.Spec PyProof.Rows L2
section
variable {K : PySem.W.Frag} {Z : WX} {σ : L2.St} {H : Hp} {Q : Bool → Hp → Prop}
theorem ct_tru {F0 H0 : Hp} {g0 : Gh} {ρ0 ρ1 : Rho} {t : T} {C : Bool → Rho → Prop} (c : Ct K Z σ F0 H0 g0 ρ0 (Rf.tru t) ρ1 C) : ∃ w b, drf ρ1 t = some w ∧ wTru w = some b ∧ C b ρ1 := by
  obtain ⟨r, ρ', e, z⟩ := c
  unfold Rf.tru Rf.rd Rf.bnd at e
  dsimp only at e
  cases x : drf ρ1 t with
  | none => rw [x] at e; cases e
  | some w =>
    rw [x] at e
    dsimp only [Rf.lft] at e
    cases y : wTru w with
    | none => rw [y] at e; cases e
    | some b => rw [y] at e; cases e; exact ⟨w, b, rfl, y, z⟩
theorem truth_rd {m : M T} (h : rT K Z m σ H Q) : rE K Z m σ H fun x H' => ∃ k, TruV K x H' k ∧ Q k H' := by
  obtain ⟨F, g, ρ, rl, c⟩ := h
  refine ⟨F, g, ρ, rl, c.bnd.imp fun t ρ1 c1 x F1 H1 g1 p1 m1 => ?_⟩
  obtain ⟨w, b, e1, e2, k⟩ := ct_tru c1
  exact ⟨b, truV_of p1.rl.sub (m1.drf p1.rl e1) e2, k F1 H1 g1 p1⟩
theorem nt_test {a : Ex} (h : rT K Z (ev (.nt a)) σ H Q) : tNot (rT K Z (ev a)) σ H Q := by
  obtain ⟨F, g, ρ, rl, c⟩ := h
  unfold ev at c
  rw [assoc_bnd] at c
  have e : (fun s => bnd (bnd (tru s) fun k => ret (T.val (.bl (!k)))) tru) = fun s => bnd (tru s) fun k => ret (!k) := by
    funext s
    rw [assoc_bnd]
    rfl
  rw [e, ← assoc_bnd] at c
  exact ⟨F, g, ρ, rl, c.bnd.imp fun k ρ1 c1 F1 H1 g1 p1 => c1.ret F1 H1 g1 p1⟩
theorem wTru_frz {w w' : W} (h : frz w = some w') : wTru w' = wTru w := by
  cases w <;> cases h <;> rfl
/-- a thing shared whose value nobody takes -/
theorem sh_any {F0 H0 F1 H1 : Hp} {g0 g1 : Gh} {ρ0 ρ1 ρ' : Rho} {t : T} {w : W} {r : Out W} (p : Ps K σ F0 H0 g0 ρ0 F1 H1 g1 ρ1) (ew : drf ρ1 t = some w) (e : sh t ρ1 = some (r, ρ')) :
    ∃ w' F' g', r = .ok w' ∧ frz w = some w' ∧ Ps K σ F0 H0 g0 ρ0 F' H1 g' ρ' := by
  cases t with
  | val x =>
    cases ew
    have e0 : (match frz w with | none => none | some w' => some (Out.ok w', ρ1)) = some (r, ρ') := e
    cases q : frz w with
    | none => rw [q] at e0; cases e0
    | some w' => rw [q] at e0; cases e0; exact ⟨w', F1, g1, rfl, rfl, p⟩
  | pl i f =>
    have ew' : getP ρ1 i f = some w := ew
    have e0 : sh (.pl i f) ρ1 = some (r, ρ') := e
    unfold sh at e0
    dsimp only at e0
    rw [ew'] at e0
    dsimp only at e0
    cases o : own w with
    | false =>
      rw [o] at e0
      cases e0
      refine ⟨w, F1, g1, rfl, ?_, p⟩
      cases w with
      | lst b xs => cases b with
        | false => rfl
        | true => cases o
      | dic b xs => cases b with
        | false => rfl
        | true => cases o
      | ins b C fs =>
        exfalso
        cases b with
        | true => cases o
        | false =>
          cases f with
          | none =>
            obtain ⟨v, _, hO⟩ := p.rl.sl i _ ew'
            cases hO
          | some f =>
            have e1 : (slot ρ1 i).bind (fun w => getF w f) = some (.ins false C fs) := ew'
            cases s : slot ρ1 i with
            | none => rw [s] at e1; cases e1
            | some y => cases y with
              | ins b' C' fs' => cases b' with
                | true =>
                  obtain ⟨_, _, _, _, _, u, _, _, _, _, _, _, _, hF, _⟩ := p.rl.field ew' (.inr ⟨C', fs', s⟩)
                  cases hF
                | false =>
                  obtain ⟨v, _, hO⟩ := p.rl.sl i _ s
                  cases hO
              | _ => rw [s] at e1; cases e1
      | _ => rfl
    | true =>
      rw [o] at e0
      dsimp only at e0
      have tm : ∃ v, Tm K σ H0 F1 H1 g1 ρ1 (.pl i f) v := by
        cases f with
        | none =>
          obtain ⟨v, hv, _⟩ := p.rl.sl i w ew'
          exact ⟨v, hv⟩
        | some f =>
          obtain ⟨_, _, _, _, _, u, _, _, _, _, _, _, _, hF, hV⟩ := p.rl.field ew' (.inl o)
          refine ⟨u, hV, w, ew', ?_⟩
          cases w with
          | lst _ _ => rfl
          | dic _ _ => rfl
          | ins b _ _ => cases hF
          | _ => cases o
      obtain ⟨v, tm⟩ := tm
      obtain ⟨w', F', g', rfl, p', _⟩ := sh_ok p tm e
      cases q : frz w with
      | none => rw [q] at e0; cases e0
      | some w2 => rw [q] at e0; cases e0; exact ⟨_, F', g', rfl, rfl, p'⟩
/-- a share, then the truth of what is shared -/
theorem sh_tru {F0 H0 F1 H1 : Hp} {g0 g1 : Gh} {ρ0 ρ1 : Rho} {t : T} {w : W} {k : Bool} {C : Bool → Rho → Prop} (ew : drf ρ1 t = some w) (ek : wTru w = some k) (p : Ps K σ F0 H0 g0 ρ0 F1 H1 g1 ρ1)
    (c : Ct K Z σ F0 H0 g0 ρ0 (Rf.bnd (Rf.bnd (Rf.sh t) fun w => Rf.ret (T.val w)) Rf.tru) ρ1 C) : ∃ F' g' ρ', Ps K σ F0 H0 g0 ρ0 F' H1 g' ρ' ∧ C k ρ' := by
  rw [assoc_bnd] at c
  obtain ⟨r, ρ', e, z⟩ := c.bnd
  obtain ⟨w', F', g', rfl, hf, p'⟩ := sh_any p ew e
  have z' : Ct K Z σ F0 H0 g0 ρ0 (Rf.tru (.val w')) ρ' C := z
  obtain ⟨w2, b, e1, e2, k2⟩ := ct_tru z'
  cases e1
  rw [wTru_frz hf, ek] at e2
  cases e2
  exact ⟨F', g', ρ', p', k2⟩
theorem and_test {a b : Ex} (h : rT K Z (ev (.and a b)) σ H Q) : L2.tAnd (rT K Z (ev a)) (rT K Z (ev b)) σ H Q := by
  obtain ⟨F, g, ρ, rl, c⟩ := h
  unfold ev at c
  refine ⟨F, g, ρ, rl, ?_⟩
  rw [assoc_bnd] at c
  obtain ⟨r, ρ1, e1, z⟩ := c.bnd
  cases r with
  | ex w => exact ⟨.ex w, ρ1, by unfold bnd; rw [e1], z⟩
  | ok s =>
    have z' : Ct K Z σ F H g ρ (bnd (bnd (tru s) fun k => if k then ev b else bnd (sh s) fun w => ret (T.val w)) tru) ρ1 fun b ρ' => ∀ F' H' g', Ps K σ F H g ρ F' H' g' ρ' → Q b H' := z
    rw [assoc_bnd] at z'
    obtain ⟨w, k, ew, ek, z2⟩ := z'.tru
    refine ⟨.ok k, ρ1, ?_, fun F1 H1 g1 p1 => ?_⟩
    · unfold bnd; rw [e1]; dsimp only; unfold tru rd bnd; dsimp only; rw [ew]; dsimp only [lft]; rw [ek]
    · cases k with
      | true =>
        rw [if_pos rfl]
        have z3 : Ct K Z σ F H g ρ (bnd (ev b) tru) ρ1 fun b ρ' => ∀ F' H' g', Ps K σ F H g ρ F' H' g' ρ' → Q b H' := z2
        exact ⟨F1, g1, ρ1, p1.rl, (z3.rebase p1).imp fun b ρ2 c2 F2 H2 g2 p2 => c2 F2 H2 g2 (p1.trans p2)⟩
      | false =>
        rw [if_neg (by decide)]
        have z3 : Ct K Z σ F H g ρ (bnd (bnd (sh s) fun w => ret (T.val w)) tru) ρ1 fun b ρ' => ∀ F' H' g', Ps K σ F H g ρ F' H' g' ρ' → Q b H' := z2
        obtain ⟨F2, g2, ρ2, p2, q⟩ := sh_tru ew ek p1 z3
        exact q F2 H1 g2 p2
theorem or_test {a b : Ex} (h : rT K Z (ev (.or a b)) σ H Q) : L2.tOr (rT K Z (ev a)) (rT K Z (ev b)) σ H Q := by
  obtain ⟨F, g, ρ, rl, c⟩ := h
  unfold ev at c
  refine ⟨F, g, ρ, rl, ?_⟩
  rw [assoc_bnd] at c
  obtain ⟨r, ρ1, e1, z⟩ := c.bnd
  cases r with
  | ex w => exact ⟨.ex w, ρ1, by unfold bnd; rw [e1], z⟩
  | ok s =>
    have z' : Ct K Z σ F H g ρ (bnd (bnd (tru s) fun k => if k then bnd (sh s) fun w => ret (T.val w) else ev b) tru) ρ1 fun b ρ' => ∀ F' H' g', Ps K σ F H g ρ F' H' g' ρ' → Q b H' := z
    rw [assoc_bnd] at z'
    obtain ⟨w, k, ew, ek, z2⟩ := z'.tru
    refine ⟨.ok k, ρ1, ?_, fun F1 H1 g1 p1 => ?_⟩
    · unfold bnd; rw [e1]; dsimp only; unfold tru rd bnd; dsimp only; rw [ew]; dsimp only [lft]; rw [ek]
    · cases k with
      | false =>
        rw [if_neg (by decide)]
        have z3 : Ct K Z σ F H g ρ (bnd (ev b) tru) ρ1 fun b ρ' => ∀ F' H' g', Ps K σ F H g ρ F' H' g' ρ' → Q b H' := z2
        exact ⟨F1, g1, ρ1, p1.rl, (z3.rebase p1).imp fun b ρ2 c2 F2 H2 g2 p2 => c2 F2 H2 g2 (p1.trans p2)⟩
      | true =>
        rw [if_pos rfl]
        have z3 : Ct K Z σ F H g ρ (bnd (bnd (sh s) fun w => ret (T.val w)) tru) ρ1 fun b ρ' => ∀ F' H' g', Ps K σ F H g ρ F' H' g' ρ' → Q b H' := z2
        obtain ⟨F2, g2, ρ2, p2, q⟩ := sh_tru ew ek p1 z3
        exact q F2 H1 g2 p2
def tIfT (c t u : TT) : TT := fun σ H Q => c σ H fun k H1 => if k = true then t σ H1 Q else u σ H1 Q
theorem ife_test {c a b : Ex} (h : rT K Z (ev (.ife c a b)) σ H Q) : tIfT (rT K Z (ev c)) (rT K Z (ev a)) (rT K Z (ev b)) σ H Q := by
  obtain ⟨F, g, ρ, rl, q⟩ := h
  unfold ev at q
  rw [assoc_bnd] at q
  have e : (fun s => bnd (bnd (tru s) fun k => if k = true then ev a else ev b) tru) = fun s => bnd (tru s) fun k => if k = true then bnd (ev a) tru else bnd (ev b) tru := by
    funext s
    rw [assoc_bnd]
    congr 1; funext k
    cases k <;> rfl
  rw [e, ← assoc_bnd] at q
  refine ⟨F, g, ρ, rl, q.bnd.imp fun k ρ1 c1 F1 H1 g1 p1 => ?_⟩
  cases k with
  | true => exact ⟨F1, g1, ρ1, p1.rl, (c1.rebase p1).imp fun t ρ2 c4 F2 H2 g2 p2 => c4 F2 H2 g2 (p1.trans p2)⟩
  | false => exact ⟨F1, g1, ρ1, p1.rl, (c1.rebase p1).imp fun t ρ2 c4 F2 H2 g2 p2 => c4 F2 H2 g2 (p1.trans p2)⟩
end
section
variable {K : PySem.W.Frag} {Z : WX} {σ : L2.St} {H : Hp} {Q : VK}
/-- a dict display of one pair: the new dict stands while the pair is made -/
theorem disp_rd {k v : Ex} (h : rE K Z (ev (.dc1 k v)) σ H Q) : tDisp [(rE K Z (ev k), rE K Z (ev v))] σ H Q := by
  obtain ⟨F, g, ρ, rl, c⟩ := h
  intro p hp
  have hg : g p = none := by
    cases x : g p with
    | none => rfl
    | some q => exact absurd hp (rl.gH p q x)
  have hF : F p = none := by
    cases x : F p with
    | none => rfl
    | some o => rw [rl.sub _ _ x] at hp; cases hp
  have p0 : Ps K σ F H g ρ F (upd H p (.dK [])) g ρ := ⟨Le.refl.mut (.inl hp), rl.updn hF hg, ls_updn rl hg⟩
  unfold ev at c
  refine ⟨F, g, ρ, p0.rl, (c.bnd.rebase p0).imp fun s ρ1 c1 x F1 H1 g1 p1 m1 => ?_⟩
  obtain ⟨wk, ek, c2⟩ := c1.rd
  refine ⟨F1, g1, ρ1, p1.rl, (c2.bnd.rebase (p0.trans p1)).imp fun t ρ2 c3 y F2 H2 g2 p2 m2 => ?_⟩
  obtain ⟨r, ρ3, e3, z⟩ := c3.bnd
  obtain ⟨w, F3, g3, rfl, p3, hs⟩ := sh_ok p2 m2 e3
  have q : Ps K σ F (upd H p (.dK [])) g ρ F3 H2 g3 ρ3 := p1.trans p3
  have hH2 : H2 p = some (.dK []) := q.le.fr p _ upd_same hg
  have hg3 : g3 p = none := q.le.gnone hg (by rw [upd_same]; exact nofun)
  have hF3 : F3 p = none := by
    cases zz : F3 p with
    | none => rfl
    | some o => rcases q.le.fn p (by rw [zz]; exact nofun) with y | y | y
                · exact absurd hF y
                · exact absurd hg y
                · rw [upd_same] at y; cases y
  refine ⟨hH2, ?_⟩
  have fin : ∀ (key : Ky), Ct K Z σ F H g ρ (ret (.val (.dic true [(key, w)]))) ρ3 (fun t ρ' => ∀ v F' H' g', Ps K σ F H g ρ F' H' g' ρ' → Tm K σ H F' H' g' ρ' t v → Q v H') → Q (.ref p) (upd H2 p (.dK [(key, y)])) := fun key cc => by
    have all : Ps K σ F H g ρ F3 (upd H2 p (.dK [(key, y)])) g3 ρ3 := ⟨(p0.trans q).le.mut (.inl hp), (p0.trans q).rl.updn hF3 hg3, (p0.trans q).ls.trans (ls_updn q.rl hg3)⟩
    refine cc.ret (.ref p) F3 _ g3 all ⟨fun a => if a = p then some none else none, fun a f ea => ?_, p, [(key, y)], rfl, upd_same, if_pos rfl, .cons hs .nil⟩
    have ea : (if a = p then some none else none) = some f := ea
    split at ea
    · rename_i cc; subst cc
      exact ⟨hF3, hg3, by rw [upd_same]; exact nofun, hp⟩
    · cases ea
  have rb := m1.drf p1.rl ek
  dsimp only at z
  split at z
  · rename_i i
    cases rb.int
    exact ⟨[(.inl i, y)], rfl, (show 1 ≤ 15 by decide), fin _ z⟩
  · rename_i xs
    cases rb.str
    exact ⟨[(.inr xs, y)], rfl, (show 1 ≤ 15 by decide), fin _ z⟩
  · exact z.stuck.elim
end
section
variable {X : Cx} {pos : Pos}
theorem pt_ife {c a b : Expr} {tc ta tb : TT} (hc : PT X c tc) (ha : PT X a ta) (hb : PT X b tb) : PT X (.IfExp c a b pos) (tIfT tc ta tb) := by
  refine ⟨fun pins s σ H Q I h => ?_⟩
  show wpAny (model X.prog X.w) X.A (do if ← isTrue c X.env (eval c X.env) then isTrue a X.env (eval a X.env) else isTrue b X.env (eval b X.env)) (TP X pins σ Q) X.xe s
  refine wpAny_bind (thn (hc.run pins s σ H _ I h) fun k s1 ⟨H1, I1, q1⟩ => ?_)
  cases k with
  | true => exact ha.run pins s1 σ H1 Q I1 q1
  | false => exact hb.run pins s1 σ H1 Q I1 q1
theorem PT.mono2 {e : Expr} {t t' : TT} (h : PT X e t) (k : ∀ σ H Q, t' σ H Q → t σ H Q) : PT X e t' := PT.mono h k
theorem PW.mono {e : Expr} {t t' : TT} (h : PW X e t) (k : ∀ σ H Q, t' σ H Q → t σ H Q) : PW X e t' := ⟨fun wh pins s σ H Q I q => h.run wh pins s σ H Q I (k σ H Q q)⟩
theorem PO.mono {e : Option Expr} {t t' : TO} (h : PO X e t) (k : ∀ σ H Q, t' σ H Q → t σ H Q) : PO X e t' := ⟨fun pins s σ H Q I q => h.run pins s σ H Q I (k σ H Q q)⟩
theorem pass_no : Passes (L2.CX X.prog X.w) X (fun _ _ _ => False) := fun pins σ H s e s' I c => by
  obtain ⟨a, B, sI, pins', σ', H', cls, d, _, _, _, _, _, _, _, _, w⟩ := XE.of_call (W := Z0) I (fun _ _ _ h => h) c
  exact w.elim
theorem takes_no {s : Shared} {H : Hp} {scope : Scope} {cenv : Env} {fp : List Addr} : Takes (X.blk s H scope cenv fp) Z0 := fun u s' ⟨a, B, sI, pins', σ', H', cls, d, _, _, _, _, _, _, _, _, w⟩ => w
end
/-- the built-in names that the program leaves alone -/
def bltNames : List Str := ["len", "abs", "min", "max", "int", "str", "tuple", "list", "all", "any", "sum", "divmod", "isinstance", "range", "zip", "enumerate", "bool", "dict", "ValueError", "sorted"].map nm
/-- the __init__ of an exception class with one field -/
def spXi (K : PySem.W.Frag) (C f : String) : Sp := fun vs H Q _ => ∃ (a : Addr) (y : V), vs = [.ref a, y] ∧ H a = some (exo a (cad K C) none) ∧ ∀ dx, H dx = none → dx ≠ a → Q .non (upd (upd H dx (exd dx [(nm f, y)])) a (exo a (cad K C) (some dx)))
/-- what the table says is so -/
structure Gd (tb : Tb) (k : Nat) (P : Program) (w : World) (K : PySem.W.Frag) (mg : Str → Option Value) (base : Heap) : Prop where
  blt : ∀ x ∈ bltNames, mg x = none
  fn : ∀ x F np, tb.gl x = some (.fn F np) → ∃ f fd ps, mg x = some (.ref f) ∧ FnOk P w K mg base (L2.CX P w) k f fd ps (spW K F) ∧ PySem.W.keepIn K (.ref f) = true ∧ Binds K fd ps []
  cls : ∀ x C F np, tb.gl x = some (.cls C F np) → ∃ f fd ps, mg x = some (.ref (cad K C)) ∧ L2.Mk K (cad K C) f ∧ FnOk P w K mg base (L2.CX P w) k f fd ps (spW K F) ∧ Binds K fd ps []
  con : ∀ x c, tb.gl x = some (.con c) → ∃ u v, mg x = some u ∧ RelV v u ∧ ∀ F, Sh K F c v
  mt : ∀ x C m F np, tb.mt x = some (C, m, F, np) → x = nm m ∧ ∃ f fd ps, Cls K (cad K C) ∧ Meth K (cad K C) (nm m) f ∧ FnOk P w K mg base (L2.CX P w) k f fd ps (spW K F) ∧ Binds K fd ps []
  fl : ∀ x f, tb.fl x = some f → x = nm f ∧ (∀ C ∈ tb.cs, Cls K (cad K C) ∧ NoAttr K (cad K C) (nm f)) ∧ ∀ C ∈ tb.xs, XcF K (cad K C) ∧ PySem.W.findIn K (.ref (cad K C)) (nm f) = some none
  xc : ∀ x D, tb.xc x = some D → ∃ c cv, RelV c cv ∧ (∀ u, RelV c u → u = cv) ∧ (mg x = some cv ∨ (mg x = none ∧ bootBuiltins x = some cv ∧ x ≠ "__name__")) ∧ PySem.W.kitOne K (.type "NoneType") cv = some false ∧ ∀ C ∈ tb.xs, XcF K (cad K C) ∧ PySem.W.kitOne K (.ref (cad K C)) cv = some ((excUp C).contains D)
  ex0 : ∀ x C, tb.gl x = some (.exc C none) → mg x = some (.ref (cad K C)) ∧ PySem.W.excIn K (cad K C) [.type "ValueError", .type "Exception", .type "BaseException", .type "object"] "ValueError.__new__" = true ∧
    PySem.W.keepIn K (.ref (cad K C)) = true ∧ PySem.W.subIn K (.ref (cad K C)) (.type "BaseException") = some true ∧ PySem.W.typeIn K (.ref (cad K C)) = some (.type "type")
  ex1 : ∀ x C f, tb.gl x = some (.exc C (some f)) → mg x = some (.ref (cad K C)) ∧ OexC K (cad K C) ∧ ∃ fI fd ps, PySem.W.findIn K (.ref (cad K C)) "__init__" = some (some (.ref fI)) ∧ PySem.W.typeIn K (.ref fI) = some (.type "function") ∧
    FnOk P w K mg base (L2.CX P w) k fI fd ps (spXi K C f) ∧ Binds K fd ps []
  xm : ∀ x D, tb.xm x = some D → mg x = some (.ref (cad K D)) ∧ ∀ C ∈ tb.xs, PySem.W.exmOne K (.ref (cad K C)) (.ref (cad K D)) = some ((excUp C).contains D)
  fv : ∀ x C, tb.fv x = some C → mg x = some (.ref (cad K C))
  lc : ∀ C F, tb.lc.lookup C = some F → ∃ fd ps, FnOk P w K mg base (L2.CX P w) k (cad K C) fd ps (spW K F) ∧ PySem.W.keepIn K (.ref (cad K C)) = true ∧ Binds K fd ps []
/-- where the translated text runs -/
structure At (tb : Tb) (k : Nat) (sc : Scope) (N : List Str) (X : Cx) : Prop where
  sc : X.env.scope = sc
  N : X.N = N
  nd : X.N.Nodup
  calm : tb.su = false → X.calm = true
  room : tb.su = false → Room (k + 1) X.A
  uni : X.A.units + 64 < cLine
  gd : Gd tb k X.prog X.w X.K X.mg X.base
theorem At.blk {tb : Tb} {k : Nat} {sc : Scope} {N : List Str} {X : Cx} (a : At tb k sc N X) {s : Shared} {H : Hp} {scope : Scope} {C : Addr} {cl : List (Str × Addr)} {fp : List Addr} :
    At tb k (inScope sc scope) N (X.blk s H scope (compEnvC scope cl C X.env) fp) := ⟨by rw [← a.sc]; rfl, a.N, a.nd, a.calm, a.room, a.uni, a.gd⟩
end Rf
/-! isinstance of several classes; dict displays with texts as keys; enumerate -/
namespace Rf
open PySem PySem.Spec PyProof.Rows L2
/-- names of classes, what they stand for -/
inductive ClsL (X : Cx) (Xs : List String) : List Expr → List String → List V → List Value → Prop
  | nil : ClsL X Xs [] [] [] []
  | cons {t : Expr} {D : String} {c : V} {cv : Value} {ts : List Expr} {Ds : List String} {cs : List V} {cvs : List Value} : PE X t (tC c) → notStar t = true → (∀ u, RelV c u → u = cv) →
      (∀ C ∈ Xs, XcF X.K (cad X.K C) ∧ PySem.W.kitOne X.K (.ref (cad X.K C)) cv = some ((excUp C).contains D)) → ClsL X Xs ts Ds cs cvs → ClsL X Xs (t :: ts) (D :: Ds) (c :: cs) (cv :: cvs)
section
variable {X : Cx} {Xs : List String} {ts : List Expr} {Ds : List String} {cs : List V} {cvs : List Value}
theorem ClsL.pa (h : ClsL X Xs ts Ds cs cvs) : PA X ts (fun _ H Q => Q cs H) := by
  induction h with
  | nil => exact pa_nil
  | cons h1 h2 h3 h4 h5 ih => exact PA.mono (pa_cons h1 ih (star_cons h2)) fun σ H Q q => q
theorem ClsL.vals (h : ClsL X Xs ts Ds cs cvs) : ∀ {its : List Value}, Vals cs its → its = cvs := by
  induction h with
  | nil => intro its r; cases r; rfl
  | cons h1 h2 h3 h4 h5 ih =>
    intro its r
    cases r with
    | cons a b => rw [h3 _ a, ih b]
theorem ClsL.any (h : ClsL X Xs ts Ds cs cvs) {C : String} (hC : C ∈ Xs) : PySem.W.kitAny X.K (.ref (cad X.K C)) cvs = some (Ds.any (excUp C).contains) := by
  induction h with
  | nil => exact kitAny_nil
  | cons h1 h2 h3 h4 h5 ih =>
    refine kitAny_cons (h4 C hC).2 (fun e => ?_) fun e => ?_
    · rw [List.any_cons, e, Bool.false_or]; exact ih
    · rw [List.any_cons, e, Bool.true_or]
theorem ClsL.xc (h : ClsL X Xs ts Ds cs cvs) (ne : ts ≠ []) {C : String} (hC : C ∈ Xs) : XcF X.K (cad X.K C) := by
  cases h with
  | nil => exact absurd rfl ne
  | cons h1 h2 h3 h4 h5 => exact (h4 C hC).1
theorem ClsL.len (h : ClsL X Xs ts Ds cs cvs) : cs.length = ts.length := by
  induction h with
  | nil => rfl
  | cons h1 h2 h3 h4 h5 ih => exact congrArg (· + 1) ih
theorem isxs_pe {Z : WX} {a : Expr} {a' : Ex} {p pos tpos : Pos} {kk : Nat} (ha : PE X a (rE X.K Z (ev a'))) (na : notStar a = true) (L : ClsL X Xs ts Ds cs cvs) (ne : ts ≠ []) (hl : ts.length ≤ 1000) (hg : Gl X "isinstance") (hm : X.mg "isinstance" = none) :
    PE X (.Call (.Name "isinstance" p) [a, .Tuple ts kk tpos] [] pos) (rE X.K Z (ev (.isxs a' Ds Xs))) := by
  have rule : CallR X (.builtin "isinstance") (fun xs H Q => ∃ (F : Hp) (C : String) (fs : List (String × W)) (x : V) (tp : Addr), xs = [x, .ref tp] ∧ C ∈ Xs ∧ Sub F H ∧ Sh X.K F (.exc C fs) x ∧ H tp = some (.tup cs) ∧ Q (.bl (Ds.any (excUp C).contains)) H) := by
    intro pins s σ H xs us Q I r ⟨F, C, fs, x, tp, ex, hmem, hs, hsh, hT, q⟩
    subst ex
    obtain ⟨u1, u2, rfl, r1, r2⟩ := vals2 r
    cases (show u2 = Value.ref tp from r2)
    have k1 := L.xc ne hmem
    obtain ⟨b, ox, od, rfl, J, _⟩ := exc_at I hs hsh
    cases r1
    obtain ⟨_, its, rv, o, h1, h2, n, h3⟩ := (show ObjOk X.prog X.w H s.heap tp (.tup cs) from I.hok tp _ hT)
    have e3 := L.vals rv
    subst e3
    obtain ⟨oc, od', dt, sl⟩ := o
    simp only at h2 h3
    subst h2 h3
    exact PySem.W.kia_tup (PySem.W.kitx_exc k1.cl k1.ga k1.gg k1.ex k1.hc k1.hg k1.ht k1.ho) I.kIn J h1 (L.any hmem) (fun z => nomatch z) fun tk => ⟨.bl _, H, I.tok tk, rfl, q⟩
  have pt : PE X (.Tuple ts kk tpos) (tTup (fun _ H Q => Q cs H)) := pe_tup L.pa
  refine PE.mono (pe_callB rule hg hm (by decide +kernel) (pa_cons ha (pa_cons pt pa_nil (star_cons rfl)) (star_cons na)) (by decide) (by decide) (star_cons na) (star_none (es := [.Tuple ts kk tpos]) rfl)) fun σ H Q ⟨F, g, ρ, rl, q⟩ => ?_
  unfold ev at q
  refine ⟨F, g, ρ, rl, q.bnd.imp fun s ρ1 c1 x F1 H1 g1 p1 m1 => ?_⟩
  obtain ⟨w, ew, c2⟩ := c1.rd
  obtain ⟨k, ek, c3⟩ := c2.lft
  cases w with
  | exc C fs =>
    have ek' : (if C ∈ Xs then some (Ds.any (excUp C).contains) else none) = some k := ek
    split at ek'
    · rename_i hmem
      cases ek'
      obtain ⟨P, hP⟩ := m1.drf p1.rl ew
      refine ⟨by rw [L.len, sizeLine_eq]; omega, fun tp htp => ?_⟩
      have hg1 : g1 tp = none := by
        cases y : g1 tp with
        | none => rfl
        | some q => exact absurd htp (p1.rl.gH tp q y)
      have hF1 : F1 tp = none := by
        cases y : F1 tp with
        | none => rfl
        | some o => rw [p1.rl.sub _ _ y] at htp; cases htp
      have p2 : Ps X.K σ F H g ρ F1 (upd H1 tp (.tup cs)) g1 ρ1 := p1.trans ⟨Le.refl.mut (.inl htp), p1.rl.updn hF1 hg1, ls_updn p1.rl hg1⟩
      exact ⟨F1, C, fs, x, tp, rfl, hmem, p2.rl.sub, hP.sh rfl, upd_same, c3.ret _ F1 _ g1 p2 (Tm.of (.bl _))⟩
    · cases ek'
  | _ => cases ek
end
/-! ### dict displays -/
section
variable {K : PySem.W.Frag} {Z : WX} {σ : L2.St} {H : Hp} {Q : VK}
theorem rE_mono {m : M T} {Q' : VK} (h : rE K Z m σ H Q) (k : ∀ v H', Q v H' → Q' v H') : rE K Z m σ H Q' := by
  obtain ⟨F, g, ρ, rl, c⟩ := h
  exact ⟨F, g, ρ, rl, c.imp fun t ρ' z v F' H' g' p tm => k v H' (z v F' H' g' p tm)⟩
def trs (K : PySem.W.Frag) (Z : WX) : List Str → List Ex → List (TE × TE)
  | k :: ks, v :: vs => (tC (.str k), rE K Z (ev v)) :: trs K Z ks vs
  | _, _ => []
theorem pairs_rd : ∀ {ks : List Str} {vs : List Ex} (_ : ks.length = vs.length) {H : Hp} {Q : List (V × V) → Hp → Prop}, rAs K Z (evs vs) σ H (fun us H' => Q ((ks.map V.str).zip us) H') → tPairs (trs K Z ks vs) σ H Q
  | [], [], _, H, Q, h => evs_nil h
  | k :: ks, v :: vs, hl, H, Q, h => by
    have h2 : rE K Z (ev v) σ H fun y H1 => rAs K Z (evs vs) σ H1 fun us H2 => Q (((k :: ks).map V.str).zip (y :: us)) H2 := evs_cons h
    show rE K Z (ev v) σ H fun y H2 => tPairs (trs K Z ks vs) σ H2 fun ps H3 => Q ((.str k, y) :: ps) H3
    exact rE_mono h2 fun y H1 h3 => pairs_rd (by simpa using hl) h3
  | [], _ :: _, hl, _, _, _ => by cases hl
  | _ :: _, [], hl, _, _, _ => by cases hl
theorem putK_new {kvs : List (Key × V)} {k : Key} {v : V} (h : k ∉ kvs.map (·.1)) : L2.putK kvs k v = kvs ++ [(k, v)] := by
  unfold L2.putK
  rw [if_neg]
  intro z
  obtain ⟨p, hp, e⟩ := List.any_eq_true.mp z
  exact h (List.mem_map.mpr ⟨p, hp, of_decide_eq_true e⟩)
theorem merge_new : ∀ {more kvs : List (Key × V)}, (more.map (·.1)).Nodup → (∀ k ∈ more.map (·.1), k ∉ kvs.map (·.1)) → mergeK kvs more = kvs ++ more
  | [], kvs, _, _ => by simp [mergeK]
  | (k, v) :: more, kvs, nd, dj => by
    have h1 : k ∉ kvs.map (·.1) := dj k (by simp)
    rw [List.map_cons, List.nodup_cons] at nd
    have e : mergeK kvs ((k, v) :: more) = mergeK (L2.putK kvs k v) more := rfl
    rw [e, putK_new h1, merge_new nd.2 fun j hj => ?_]
    · simp
    · rw [List.map_append, List.mem_append]
      rintro (z | z)
      · exact dj j (by simp [hj]) z
      · have : j = k := by simpa using z
        subst this
        exact nd.1 hj
theorem shk_zip {F : Hp} : ∀ {ks : List Str} {ws : List W} {us : List V}, ShL K F ws us → ShK K F ((ks.map Sum.inr).zip ws) ((ks.map Sum.inr).zip us)
  | [], _, _, _ => .nil
  | _ :: _, _, _, .nil => .nil
  | k :: ks, _, _, .cons a b => .cons a (shk_zip b)
theorem zip_kv : ∀ (ks : List Str) (us : List V), (ks.map V.str).zip us = ((ks.map (Sum.inr : Str → Key)).zip us).map fun kv => (kV kv.1, kv.2)
  | [], _ => rfl
  | _ :: _, [] => rfl
  | k :: ks, u :: us => congrArg ((V.str k, u) :: ·) (zip_kv ks us)
theorem dcs_rd {ks : List Str} {vs : List Ex} (hl : ks.length = vs.length) (h15 : ks.length ≤ 15) (h : rE K Z (ev (.dcs ks vs)) σ H Q) : tDisp (trs K Z ks vs) σ H Q := by
  obtain ⟨F, g, ρ, rl, c⟩ := h
  intro p hp
  have hg : g p = none := by
    cases x : g p with
    | none => rfl
    | some q => exact absurd hp (rl.gH p q x)
  have hF : F p = none := by
    cases x : F p with
    | none => rfl
    | some o => rw [rl.sub _ _ x] at hp; cases hp
  have p0 : Ps K σ F H g ρ F (upd H p (.dK [])) g ρ := ⟨Le.refl.mut (.inl hp), rl.updn hF hg, ls_updn rl hg⟩
  unfold ev at c
  refine pairs_rd hl ⟨F, g, ρ, p0.rl, (c.bnd.rebase p0).imp fun ws ρ3 z us F3 H2 g3 q hs => ?_⟩
  have hH2 : H2 p = some (.dK []) := q.le.fr p _ upd_same hg
  have hg3 : g3 p = none := q.le.gnone hg (by rw [upd_same]; exact nofun)
  have hF3 : F3 p = none := by
    cases zz : F3 p with
    | none => rfl
    | some o => rcases q.le.fn p (by rw [zz]; exact nofun) with y | y | y
                · exact absurd hF y
                · exact absurd hg y
                · rw [upd_same] at y; cases y
  split at z
  · rename_i cc
    obtain ⟨nd, lw⟩ := cc
    refine ⟨hH2, (ks.map Sum.inr).zip us, zip_kv ks us, ?_, ?_⟩
    · rw [List.length_zip, List.length_map]; omega
    · have lz : ((ks.map (Sum.inr : Str → Key)).zip us).map (·.1) = ks.map Sum.inr := by
        rw [List.map_fst_zip]
        rw [List.length_map, lw, hs.len]; exact Nat.le_refl _
      have em : mergeK [] ((ks.map (Sum.inr : Str → Key)).zip us) = (ks.map Sum.inr).zip us := by
        rw [merge_new]
        · rfl
        · rw [lz]
          exact List.Pairwise.map _ (fun a b ne e => ne (Sum.inr.inj e)) nd
        · intro k _ z; cases z
      rw [em]
      have all : Ps K σ F H g ρ F3 (upd H2 p (.dK ((ks.map Sum.inr).zip us))) g3 ρ3 := ⟨(p0.trans q).le.mut (.inl hp), (p0.trans q).rl.updn hF3 hg3, (p0.trans q).ls.trans (ls_updn q.rl hg3)⟩
      refine z.ret (.ref p) F3 _ g3 all ⟨fun a => if a = p then some none else none, fun a f ea => ?_, p, (ks.map Sum.inr).zip us, rfl, upd_same, if_pos rfl, shk_zip hs⟩
      have ea : (if a = p then some none else none) = some f := ea
      split at ea
      · rename_i cc; subst cc
        exact ⟨hF3, hg3, by rw [upd_same]; exact nofun, hp⟩
      · cases ea
  · exact z.stuck.elim
end
theorem strKs_ok : ∀ {ks : List (Option Expr)} {xs : List Str}, strKs ks = some xs → ks.all (·.isSome) = true ∧ ks.length = xs.length
  | [], xs, h => by
    have h' : some ([] : List Str) = some xs := h
    cases h'; exact ⟨rfl, rfl⟩
  | some (.Constant (.str x) j p) :: r, xs, h => by
    have h' : (strKs r).map (x :: ·) = some xs := h
    obtain ⟨ys, h1, rfl⟩ := Option.map_eq_some_iff.mp h'
    obtain ⟨a, b⟩ := strKs_ok h1
    exact ⟨by rw [List.all_cons, a]; rfl, congrArg (· + 1) b⟩
theorem pps_str {X : Cx} {Z : WX} {pos : Pos} : ∀ {ks : List (Option Expr)} {xs : List Str} {vs : List Expr} {vs' : List Ex}, strKs ks = some xs → PEL X Z vs vs' → ks.length = vs.length → PPs X pos ks vs (trs X.K Z xs vs')
  | [], xs, [], _, h, .nil, _ => by
    have h' : some ([] : List Str) = some xs := h
    cases h'; exact pps_nil
  | [], _, _ :: _, _, _, _, hl => by cases hl
  | _ :: _, _, [], _, _, _, hl => by cases hl
  | some (.Constant (.str x) j p) :: r, xs, v :: vs, _, h, .cons hv hr, hl => by
    have h' : (strKs r).map (x :: ·) = some xs := h
    obtain ⟨ys, h1, rfl⟩ := Option.map_eq_some_iff.mp h'
    exact pps_cons pe_str hv (pps_str h1 hr (by simpa using hl))
end Rf
/-! what is translated runs as its pure run says: all but calls and comprehensions -/
namespace Rf
open PySem PySem.Spec PyProof.Rows L2
/-- what is told of a translation with n steps -/
structure TrOk (tb : Tb) (k n : Nat) : Prop where
  e : ∀ X Z sc N e e', At tb k sc N X → Takes X Z → trE tb n sc N e = some e' → PE X e (rE X.K Z (ev e')) ∧ PT X e (rT X.K Z (ev e'))
  es : ∀ X Z sc N es es', At tb k sc N X → Takes X Z → trEs tb n sc N es = some es' → PA X es (rAs X.K Z (evs es')) ∧ PA X es (rAt X.K Z (evT es')) ∧ PEL X Z es es' ∧ es.all notStar = true ∧ es'.length = es.length
  b : ∀ X Z sc N o es e' pos, At tb k sc N X → Takes X Z → trB tb n sc N o es = some e' → PE X (.BoolOp o es pos) (rE X.K Z (ev e')) ∧ PW X (.BoolOp o es pos) (rT X.K Z (ev e'))
  o : ∀ X Z sc N o o', At tb k sc N X → Takes X Z → trO tb n sc N o = some o' → PO X o (rO X.K Z (evO o'))
  i : ∀ X Z sc N e tg it, At tb k sc N X → Takes X Z → trI tb n sc N e tg = some it → PI X tg e (rI X.K Z (src it)) ∧ ∀ x, foldedSetIterable e X.env x = pure x
section
variable {tb : Tb} {k n : Nat} {X : Cx} {Z : WX} {sc : Scope} {N : List Str}
theorem plainT {e : Expr} {m : M T} (pe : PE X e (rE X.K Z m)) (he : ∀ whole, isTrue e X.env whole = (do let v ← whole; standAt e.pos; holding [v] (truthy v))) : PE X e (rE X.K Z m) ∧ PT X e (rT X.K Z m) :=
  ⟨pe, PT.mono (pt_truth pe he) fun σ H Q h => truth_rd h⟩
theorem okNm_ne {x : Str} (h : okNm x = true) : (x == ("__debug__" : Str)) = false ∧ (x == ("__classdict__" : Str)) = false ∧ x ≠ "__name__" := by
  unfold okNm at h
  simp only [Bool.and_eq_true, Bool.not_eq_true'] at h
  exact ⟨h.1.1, h.1.2, fun e => by rw [e] at h; simp at h⟩
theorem vis_of {x : Str} (h : isLocal (sc.names.lookup x) = true) : Vis sc x := by
  unfold isLocal at h
  split at h
  · rename_i e; exact .inl e
  · rename_i e; exact .inr (.inl e)
  · rename_i e; exact .inr (.inr e)
  · cases h
theorem At.gl (a : At tb k sc N X) {x : Str} (h : isGlob (sc.names.lookup x) = true) : Gl X x := by
  unfold isGlob at h
  split at h
  · rename_i e
    show X.env.scope.names.lookup x = _
    rw [a.sc]; exact e
  · cases h
theorem tr_name {x : Str} {p : Pos} {e' : Ex} (a : At tb k sc N X) (h : trE tb (n + 1) sc N (.Name x p) = some e') : PE X (.Name x p) (rE X.K Z (ev e')) ∧ PT X (.Name x p) (rT X.K Z (ev e')) := by
  unfold trE at h
  dsimp only at h
  split at h
  · rename_i hok
    obtain ⟨d1, d2, d3⟩ := okNm_ne hok
    split at h
    · rename_i hl
      cases y : ixOf x N 0 with
      | none => rw [y] at h; cases h
      | some i =>
        rw [y] at h
        cases h
        refine plainT (PE.mono (pe_var (by rw [a.N]; exact ixOf_at y) (by rw [a.sc]; exact vis_of hl) d1 d2) fun σ H Q => var_rd) fun _ => rfl
    · split at h
      · rename_i hg
        split at h
        · rename_i w hw
          cases h
          obtain ⟨u, v, h1, h2, h3⟩ := a.gd.con x w hw
          refine plainT (PE.mono (pe_glob (a.gl hg) h1 h2 d1) fun σ H Q hh => ?_) fun _ => rfl
          unfold ev at hh
          exact con_rd h3 hh
        · rename_i F np hw
          cases y : tb.fv x with
          | none => rw [y] at h; cases h
          | some C =>
            rw [y] at h
            cases h
            have h1 := a.gd.fv x C y
            refine plainT (PE.mono (pe_glob (v := .ref (cad X.K C)) (a.gl hg) h1 rfl d1) fun σ H Q hh => ?_) fun _ => rfl
            unfold ev at hh
            exact con_rd (fun F => .fn C) hh
        · cases h
      · cases h
  · cases h
theorem tr_const {c : Const} {j : Nat} {p : Pos} {e' : Ex} (h : trE tb (n + 1) sc N (.Constant c j p) = some e') : PE X (.Constant c j p) (rE X.K Z (ev e')) ∧ PT X (.Constant c j p) (rT X.K Z (ev e')) := by
  unfold trE at h
  dsimp only at h
  split at h
  · cases h
    exact plainT (PE.mono pe_int fun σ H Q hh => con_rd (fun F => .int _) (by unfold ev at hh; exact hh)) fun _ => rfl
  · cases h
    exact plainT (PE.mono pe_bl fun σ H Q hh => con_rd (fun F => .bl _) (by unfold ev at hh; exact hh)) fun _ => rfl
  · cases h
    exact plainT (PE.mono pe_non fun σ H Q hh => con_rd (fun F => .non) (by unfold ev at hh; exact hh)) fun _ => rfl
  · cases h
    exact plainT (PE.mono pe_str fun σ H Q hh => con_rd (fun F => .str _) (by unfold ev at hh; exact hh)) fun _ => rfl
  · cases h
theorem opOf_of {o : Operator} {b : Bop} (h : bopOf o = some b) : opOf b = o := by cases o <;> cases h <;> rfl
theorem cmpOf_of {o : CmpOp} {b : Cop} (h : copOf o = some b) : cmpOf b = o := by cases o <;> cases h <;> rfl
theorem cmpOfs_of : ∀ {os : List CmpOp} {bs : List Cop}, os.mapM copOf = some bs → bs.map cmpOf = os
  | [], bs, h => by cases h; rfl
  | o :: os, bs, h => by
    rw [List.mapM_cons] at h
    cases x : copOf o with
    | none => rw [x] at h; cases h
    | some b =>
      cases y : os.mapM copOf with
      | none => rw [x, y] at h; cases h
      | some bs' =>
        rw [x, y] at h
        cases h
        exact congr (congrArg List.cons (cmpOf_of x)) (cmpOfs_of y)
variable (T : TrOk tb k n) (a : At tb k sc N X) (tk : Takes X Z)
include T a tk
theorem tr_bin {x y : Expr} {o : Operator} {p : Pos} {e' : Ex} (h : trE tb (n + 1) sc N (.BinOp x o y p) = some e') : PE X (.BinOp x o y p) (rE X.K Z (ev e')) ∧ PT X (.BinOp x o y p) (rT X.K Z (ev e')) := by
  unfold trE at h
  dsimp only at h
  split at h
  · rename_i o' x' y' h1 h2 h3
    cases h
    cases opOf_of h1
    exact plainT (PE.mono (pe_op (bin_ok o') (T.e X Z sc N x x' a tk h2).1 (T.e X Z sc N y y' a tk h3).1) fun σ H Q => bin_rd) fun _ => rfl
  · cases h
theorem tr_un {x : Expr} {o : UnaryOp} {p : Pos} {e' : Ex} (h : trE tb (n + 1) sc N (.UnaryOp o x p) = some e') : PE X (.UnaryOp o x p) (rE X.K Z (ev e')) ∧ PT X (.UnaryOp o x p) (rT X.K Z (ev e')) := by
  unfold trE at h
  dsimp only at h
  split at h
  · rename_i x' h2
    cases h
    exact plainT (PE.mono (pe_un neg_ok (T.e X Z sc N x x' a tk h2).1) fun σ H Q => neg_rd) fun _ => rfl
  · rename_i x' h2
    cases h
    obtain ⟨k1, k2⟩ := T.e X Z sc N x x' a tk h2
    exact ⟨PE.mono (pe_notT k1) fun σ H Q => nt_rd, PT.mono (pt_not k2) fun σ H Q => nt_test⟩
  · cases h
theorem tr_ife {c x y : Expr} {p : Pos} {e' : Ex} (h : trE tb (n + 1) sc N (.IfExp c x y p) = some e') : PE X (.IfExp c x y p) (rE X.K Z (ev e')) ∧ PT X (.IfExp c x y p) (rT X.K Z (ev e')) := by
  unfold trE at h
  dsimp only at h
  split at h
  · rename_i c' x' y' h1 h2 h3
    cases h
    obtain ⟨a1, a2⟩ := T.e X Z sc N c c' a tk h1
    obtain ⟨b1, b2⟩ := T.e X Z sc N x x' a tk h2
    obtain ⟨c1, c2⟩ := T.e X Z sc N y y' a tk h3
    exact ⟨PE.mono (pe_ifExp a2 b1 c1) fun σ H Q => ife_rd, PT.mono (pt_ife a2 b2 c2) fun σ H Q => ife_test⟩
  · cases h
theorem tr_cmp {x : Expr} {os : List CmpOp} {es : List Expr} {p : Pos} {e' : Ex} (h : trE tb (n + 1) sc N (.Compare x os es p) = some e') : PE X (.Compare x os es p) (rE X.K Z (ev e')) ∧ PT X (.Compare x os es p) (rT X.K Z (ev e')) := by
  unfold trE at h
  dsimp only at h
  split at h
  · cases h
  · rename_i hm
    split at h
    · rename_i x' os' es' h1 h2 h3
      split at h
      · rename_i hh
        cases h
        cases cmpOfs_of h2
        obtain ⟨b1, b2, b3, b4, b5⟩ := T.es X Z sc N es es' a tk h3
        have ne : es ≠ [] := fun z => by rw [z] at b5; exact hh.2 (List.length_eq_zero_iff.mp b5)
        have ln : os'.length = es.length := hh.1.trans b5
        have hm' : lastMarks (os'.map cmpOf) es = false := by simpa using hm
        have p1 := (T.e X Z sc N x x' a tk h1).1
        exact ⟨pe_cmps a.uni p1 b3 ln hm' ne, pt_cmps a.uni p1 b3 ln hm' ne⟩
      · cases h
    · cases h
theorem tr_tup {es : List Expr} {j : Nat} {p : Pos} {e' : Ex} (h : trE tb (n + 1) sc N (.Tuple es j p) = some e') : PE X (.Tuple es j p) (rE X.K Z (ev e')) ∧ PT X (.Tuple es j p) (rT X.K Z (ev e')) := by
  unfold trE at h
  dsimp only at h
  cases x : trEs tb n sc N es with
  | none => rw [x] at h; cases h
  | some es' =>
    rw [x] at h
    dsimp only [Option.bind_some] at h
    split at h
    · rename_i hl
      cases h
      obtain ⟨b1, _⟩ := T.es X Z sc N es es' a tk x
      exact plainT (PE.mono (pe_tup b1) fun σ H Q => tup_rd hl) fun _ => rfl
    · cases h
theorem tr_lst {es : List Expr} {p : Pos} {e' : Ex} (h : trE tb (n + 1) sc N (.List es p) = some e') : PE X (.List es p) (rE X.K Z (ev e')) ∧ PT X (.List es p) (rT X.K Z (ev e')) := by
  unfold trE at h
  dsimp only at h
  cases x : trEs tb n sc N es with
  | none => rw [x] at h; cases h
  | some es' =>
    rw [x] at h
    dsimp only [Option.bind_some] at h
    split at h
    · rename_i hl
      cases h
      obtain ⟨b1, _⟩ := T.es X Z sc N es es' a tk x
      exact plainT (PE.mono (pe_lst b1) fun σ H Q => lst_rd hl) fun _ => rfl
    · cases h
theorem tr_dict {ks : List (Option Expr)} {vs : List Expr} {p : Pos} {e' : Ex} (h : trE tb (n + 1) sc N (.Dict ks vs p) = some e') : PE X (.Dict ks vs p) (rE X.K Z (ev e')) ∧ PT X (.Dict ks vs p) (rT X.K Z (ev e')) := by
  unfold trE at h
  dsimp only at h
  split at h
  · cases h
    exact plainT (PE.mono pe_dnewK fun σ H Q => dct_rd) fun _ => rfl
  · rename_i k0 v0
    cases h1 : trE tb n sc N k0 with
    | none => rw [h1] at h; cases h
    | some k' =>
      cases h2 : trE tb n sc N v0 with
      | none => rw [h1, h2] at h; cases h
      | some v' =>
        rw [h1, h2] at h
        cases h
        exact plainT (PE.mono (pe_disp (pps_cons (T.e X Z sc N k0 k' a tk h1).1 (T.e X Z sc N v0 v' a tk h2).1 pps_nil) rfl rfl (by intro z; cases z) (show 1 ≤ 15 by decide)) fun σ H Q => disp_rd) fun _ => rfl
  · rename_i k1 k2 ks'
    cases h1 : strKs (k1 :: k2 :: ks') with
    | none => rw [h1] at h; cases h
    | some xs =>
      cases h2 : trEs tb n sc N vs with
      | none => rw [h1, h2] at h; cases h
      | some vs' =>
        rw [h1, h2] at h
        dsimp only at h
        split at h
        · rename_i hl
          cases h
          obtain ⟨b1, b2, b3, b4, b5⟩ := T.es X Z sc N vs vs' a tk h2
          obtain ⟨s1, s2⟩ := strKs_ok h1
          exact plainT (PE.mono (pe_disp (pps_str h1 b3 (by omega)) s1 (by omega) (by intro z; cases z) (by omega)) fun σ H Q => dcs_rd hl.1 hl.2.2) fun _ => rfl
        · cases h
  · cases h
theorem tr_sub {x y : Expr} {p : Pos} {e' : Ex} (h : trE tb (n + 1) sc N (.Subscript x y p) = some e') : PE X (.Subscript x y p) (rE X.K Z (ev e')) ∧ PT X (.Subscript x y p) (rT X.K Z (ev e')) := by
  unfold trE at h
  dsimp only at h
  split at h
  · split at h
    · rename_i x' lo' hi' h1 h2 h3
      cases h
      exact plainT (PE.mono (pe_slice sl_ok (T.e X Z sc N x x' a tk h1).1 (T.o X Z sc N _ lo' a tk h2) (T.o X Z sc N _ hi' a tk h3)) fun σ H Q => sl_rd) fun _ => rfl
    · cases h
  · split at h
    · rename_i hj
      subst hj
      cases h1 : trE tb n sc N x with
      | none => rw [h1] at h; cases h
      | some x' =>
        rw [h1] at h
        cases h
        exact plainT (PE.mono (pe_rev (T.e X Z sc N x x' a tk h1).1) fun σ H Q => rev_rd) fun _ => rfl
    · cases h
  · split at h
    · cases h
    · rename_i hs
      split at h
      · rename_i x' y' h1 h2
        cases h
        have hs' : isSlice y = false := by simpa using hs
        exact plainT (PE.mono (pe_ix (ix_ok (by have := a.uni; omega)) (T.e X Z sc N x x' a tk h1).1 (T.e X Z sc N y y' a tk h2).1 (plainIx_of hs')) fun σ H Q => ix_rd) fun _ => rfl
      · cases h
theorem tr_fld {x : Expr} {f : Str} {p : Pos} {e' : Ex} (h : trE tb (n + 1) sc N (.Attribute x f p) = some e') : PE X (.Attribute x f p) (rE X.K Z (ev e')) ∧ PT X (.Attribute x f p) (rT X.K Z (ev e')) := by
  unfold trE at h
  dsimp only at h
  split at h
  · rename_i hp
    split at h
    · rename_i x' f' h1 h2
      cases h
      obtain ⟨rfl, k1, k2⟩ := a.gd.fl f f' h2
      exact plainT (fld_pe hp (T.e X Z sc N x x' a tk h1).1 k1 k2) fun _ => rfl
    · cases h
  · cases h
theorem tr_bool {es : List Expr} {o : BoolOp} {p : Pos} {e' : Ex} (h : trE tb (n + 1) sc N (.BoolOp o es p) = some e') : PE X (.BoolOp o es p) (rE X.K Z (ev e')) ∧ PT X (.BoolOp o es p) (rT X.K Z (ev e')) := by
  unfold trE at h
  dsimp only at h
  obtain ⟨k1, k2⟩ := T.b X Z sc N o es e' p a tk h
  exact ⟨k1, k2.pt⟩
theorem tr_bs {es : List Expr} {o : BoolOp} {p : Pos} {e' : Ex} (h : trB tb (n + 1) sc N o es = some e') : PE X (.BoolOp o es p) (rE X.K Z (ev e')) ∧ PW X (.BoolOp o es p) (rT X.K Z (ev e')) := by
  unfold trB at h
  split at h
  · cases h
  · rename_i e
    obtain ⟨k1, k2⟩ := T.e X Z sc N e e' a tk h
    refine ⟨pe_one k1, ?_⟩
    cases o with
    | And => exact pw_and1 k2
    | Or => exact pw_or1 k2
  · rename_i e es hne
    cases es with
    | nil => exact (hne rfl).elim
    | cons e2 es =>
      split at h
      · rename_i x y h1 h2
        obtain ⟨a1, a2⟩ := T.e X Z sc N e x a tk h1
        obtain ⟨b1, b2⟩ := T.b X Z sc N o (e2 :: es) y p a tk h2
        cases o with
        | And =>
          cases h
          exact ⟨PE.mono (pe_andT a1 b1) fun σ H Q => and_rd, PW.mono (pw_and a2 b2) fun σ H Q => and_test⟩
        | Or =>
          cases h
          exact ⟨PE.mono (pe_orT a1 b1) fun σ H Q => or_rd, PW.mono (pw_or a2 b2) fun σ H Q => or_test⟩
      · cases h
theorem tr_o {o : Option Expr} {o' : Option Ex} (h : trO tb (n + 1) sc N o = some o') : PO X o (rO X.K Z (evO o')) := by
  cases o with
  | none =>
    have h' : some (none : Option Ex) = some o' := by unfold trO at h; exact h
    cases h'
    exact PO.mono po_none fun σ H Q => evO_none
  | some e =>
    have h' : (trE tb n sc N e).map some = some o' := by unfold trO at h; exact h
    cases y : trE tb n sc N e with
    | none => rw [y] at h'; cases h'
    | some x =>
      rw [y] at h'
      cases h'
      exact PO.mono (po_some (T.e X Z sc N e x a tk y).1) fun σ H Q => evO_some
theorem tr_es {es : List Expr} {es' : List Ex} (h : trEs tb (n + 1) sc N es = some es') : PA X es (rAs X.K Z (evs es')) ∧ PA X es (rAt X.K Z (evT es')) ∧ PEL X Z es es' ∧ es.all notStar = true ∧ es'.length = es.length := by
  cases es with
  | nil =>
    have h' : some ([] : List Ex) = some es' := by unfold trEs at h; exact h
    cases h'
    exact ⟨PA.mono pa_nil fun σ H Q => evs_nil, PA.mono pa_nil fun σ H Q => evT_nil, .nil, rfl, rfl⟩
  | cons e es =>
    unfold trEs at h
    split at h
    · rename_i hs
      split at h
      · rename_i x xs h1 h2
        cases h
        have p1 := (T.e X Z sc N e x a tk h1).1
        obtain ⟨b1, b2, b3, b4, b5⟩ := T.es X Z sc N es xs a tk h2
        exact ⟨PA.mono (pa_cons p1 b1 (star_cons hs)) fun σ H Q => evs_cons, PA.mono (pa_cons p1 b2 (star_cons hs)) fun σ H Q => evT_cons, .cons p1 b3, by rw [List.all_cons, hs, b4]; rfl, congrArg (· + 1) b5⟩
      · cases h
    · cases h
end
end Rf
/-! .. calls, comprehensions, sources; the whole -/
namespace Rf
open PySem PySem.Spec PyProof.Rows L2
section
variable {X : Cx} {Z : WX} {k : Nat} {f : Addr} {fd : FuncData} {ps : List Str} {x : Str} {p pos : Pos}
theorem run_makeS {C : Addr} {CX : CXT} {E : L2.St → XK} {sp : Sp} {pins : List (Addr × Obj)} {σ : L2.St} {H : Hp} {s : Shared} {Q : VK} {us : List Value} {vs : List V} (M : L2.Mk X.K C f) (F : FnOk X.prog X.w X.K X.mg X.base CX k f fd ps sp) (hr : Room (k + 1) X.A) (hb : Binds X.K fd ps [])
    (hx : PassesAt CX X σ (E σ)) (I : Inv X pins σ H s) (r : Vals vs us)
    (h : ∀ x dx, H x = none → H dx = none → dx ≠ x → sp (.ref x :: vs) (upd (upd H dx (.own x)) x (.ins C dx [])) (fun v H2 => v = .non ∧ Q (.ref x) H2) (E σ)) :
    wpAny (model X.prog X.w) X.A (call (.ref C) us) (EP X pins σ Q) X.xe s := by
  have hq := h (s.heap.objs.size + 1) s.heap.objs.size (I.hok.fresh (Nat.le_succ _)) (I.hok.fresh (Nat.le_refl _)) (Nat.ne_of_lt (Nat.lt_succ_self _))
  have I2 := Inv.made (C := C) I
  have r2 : Vals (V.ref (s.heap.objs.size + 1) :: vs) (Value.ref (s.heap.objs.size + 1) :: us) := .cons rfl r
  have hl : (Value.ref (s.heap.objs.size + 1) :: us).length = ps.length := by
    have e := r2.length
    rw [F.len _ _ _ _ hq] at e
    exact e.symm
  have b := hb _ (Value.ref (s.heap.objs.size + 1) :: us) I2.kIn (by rw [List.append_nil]; exact hl)
  rw [List.append_nil] at b
  refine wpAny_call (make_map (f := f) I.kIn M.makes M.init (beq_iff_eq.mp M.fn) (codeAny_mono (F.run _ X.stack _ _ ⟨Value.ref (s.heap.objs.size + 1) :: us, []⟩ (Value.ref (s.heap.objs.size + 1) :: us) _ _ (E σ) (hr.make C us [])
    (I2.env0.make C us []) b r2 hq) fun r s' hq' => ?_))
  cases r with
  | error e => exact hx pins _ _ e s' I2 hq'
  | ok fl =>
    cases fl with
    | ret u =>
      obtain ⟨v, H', I3, rv, ev, q3⟩ := I2.after hq'
      subst ev
      exact ⟨rv, ⟨V.ref (s.heap.objs.size + 1), H', I3, rfl, q3⟩⟩
    | next => exact False.elim hq'
    | brk => exact False.elim hq'
    | cont => exact False.elim hq'
theorem pe_makeS {C : Addr} {CX : CXT} {E : L2.St → XK} {sp : Sp} {e : Expr} {es : List Expr} {t : TA} {pos : Pos} (M : L2.Mk X.K C f) (F : FnOk X.prog X.w X.K X.mg X.base CX k f fd ps sp) (hr : Room (k + 1) X.A) (hg : Gl X x) (hm : X.mg x = some (.ref C)) (hb : Binds X.K fd ps []) (hx : ∀ σ, PassesAt CX X σ (E σ))
    (ha : PA X (e :: es) t) (hdb : (x == ("__debug__" : Str)) = false) (he : starEach (e :: es) X.env = (false, eval e X.env) :: starEach es X.env) (hpl : (backTo pos (starEach es X.env)).any (·.1) = false) :
    PE X (.Call (.Name x p) (e :: es) [] pos) (tMakeS C sp E t) := by
  refine ⟨fun pins s σ H Q I h => ?_⟩
  refine wpAny_Call_Name_kw (ld_glob I hg hm ?_ hdb)
  refine PySem.W.callWith_K (h₀ := X.base) I.ok.mod.kin M.kp (thn (ha.run pos pins s σ H _ I h) fun us s1 ⟨vs, H1, I1, r, q⟩ => ⟨I1.kIn, ?_⟩) he hpl
  exact run_makeS M F hr hb (hx σ) I1 r q
theorem pe_makeS0 {C : Addr} {CX : CXT} {E : L2.St → XK} {sp : Sp} {pos : Pos} (M : L2.Mk X.K C f) (F : FnOk X.prog X.w X.K X.mg X.base CX k f fd ps sp) (hr : Room (k + 1) X.A) (hg : Gl X x) (hm : X.mg x = some (.ref C)) (hb : Binds X.K fd ps []) (hx : ∀ σ, PassesAt CX X σ (E σ))
    (hdb : (x == ("__debug__" : Str)) = false) : PE X (.Call (.Name x p) [] [] pos) (tMakeS C sp E tNil) := by
  refine ⟨fun pins s σ H Q I h => ?_⟩
  refine wpAny_Call_Name_kw (ld_glob I hg hm ?_ hdb)
  exact PySem.W.callWith_K0 I.kIn M.kp (run_makeS (us := []) M F hr hb (hx σ) I .nil h)
theorem callS0 {Fn : Fn} (F : FnOk X.prog X.w X.K X.mg X.base (L2.CX X.prog X.w) k f fd ps (spW X.K Fn)) (hr : Room k X.A) (hg : Gl X x) (hm : X.mg x = some (.ref f)) (hk : PySem.W.keepIn X.K (.ref f) = true) (hb : Binds X.K fd ps []) (tk : Takes X Z)
    (hdb : (x == ("__debug__" : Str)) = false) : PE X (.Call (.Name x p) [] [] pos) (rE X.K Z (ev (.call Fn []))) := by
  refine ⟨fun pins s σ H Q I h => ?_⟩
  have h2 : rAt X.K Z (evT []) σ H fun vs H1 => spW X.K Fn vs H1 Q (WE Z σ) := call_rd h
  have h3 : spW X.K Fn [] H Q (WE Z σ) := evT_nil h2
  refine wpAny_Call_Name_kw (ld_glob I hg hm ?_ hdb)
  exact PySem.W.callWith_K0 I.kIn hk (run_fnS (E := WE Z) (us := []) F hr hb (passAt tk σ) I .nil h3)
theorem pe_callLx {tbl : List (String × Fn)} {i : Nat} {e : Expr} {es : List Expr} {t : TA} (hL : ∀ y F, tbl.lookup y = some F → ∃ fd ps, FnOk X.prog X.w X.K X.mg X.base (L2.CX X.prog X.w) k (cad X.K y) fd ps (spW X.K F) ∧ PySem.W.keepIn X.K (.ref (cad X.K y)) = true ∧ Binds X.K fd ps [])
    (hr : Room k X.A) (hN : X.N[i]? = some x) (hv : Vis X.env.scope x) (tk : Takes X Z) (ha : PA X (e :: es) t) (hdb : (x == ("__debug__" : Str)) = false) (hcd : (x == ("__classdict__" : Str)) = false) (he : starEach (e :: es) X.env = (false, eval e X.env) :: starEach es X.env) (hpl : (backTo pos (starEach es X.env)).any (·.1) = false) :
    PE X (.Call (.Name x p) (e :: es) [] pos) (fun σ H Q => ∃ y F, tbl.lookup y = some F ∧ σ[i]? = some (some (.ref (cad X.K y))) ∧ tCallS (spW X.K F) (WE Z) t σ H Q) := by
  refine ⟨fun pins s σ H Q I h => ?_⟩
  obtain ⟨y, F, hl, hs, ht⟩ := h
  obtain ⟨fd, ps, hF, hk, hb⟩ := hL y F hl
  refine wpAny_Call_Name_kw (thn ((pe_var (pos := p) hN hv hdb hcd).run pins s σ H (fun v H1 => v = .ref (cad X.K y) ∧ H1 = H) I ⟨.ref _, hs, rfl, rfl⟩) fun u s1 ⟨v, H1, I1, r1, q1⟩ => ?_)
  obtain ⟨rfl, rfl⟩ := q1
  cases r1
  refine PySem.W.callWith_K (h₀ := X.base) I.ok.mod.kin hk (thn (ha.run pos pins s1 σ _ _ I1 ht) fun us s2 ⟨vs, H2, I2, r, q⟩ => ⟨I2.kIn, ?_⟩) he hpl
  exact run_fnS hF hr hb (passAt tk σ) I2 r q
end
theorem nl_inj {x : Str} {y : String} (h : x = nm y) {l : List String} (hl : y ∈ l) : x ∈ l.map nm := by rw [h]; exact List.mem_map.mpr ⟨y, hl, rfl⟩
theorem isLook_rel {scope sc : Scope} {x : Str} {k : NameKind} (h : scope.names.lookup x = some k) (hk : k = .local ∨ k = .cell) : (relS scope sc).names.lookup x = some k := by
  show (scope.names.map _).lookup x = some k
  revert h
  generalize scope.names = l
  intro h
  induction l with
  | nil => cases h
  | cons p l ih =>
    obtain ⟨y, ky⟩ := p
    by_cases c : x = y
    · subst c
      rw [List.lookup_cons, beq_self_eq_true] at h
      cases h
      have hfree : k ≠ NameKind.free := by
        rcases hk with rfl | rfl <;> exact nofun
      simp [hfree]
    · have c1 : (x == y) = false := by simpa using c
      rw [List.lookup_cons, c1] at h
      rw [List.map_cons]
      cases hb : (ky == NameKind.free && sc.kind == ScopeKind.function && List.lookup y sc.names == some NameKind.cell) with
      | true =>
        simp only [hb, if_true]
        rw [List.lookup_cons, c1]; exact ih h
      | false =>
        simp only [hb, Bool.false_eq_true, if_false]
        rw [List.lookup_cons, c1]; exact ih h
theorem stOk_blk {X : Cx} {s : Shared} {H : Hp} {scope : Scope} {C : Addr} {cl : List (Str × Addr)} {fp : List Addr} : StOk (X.blk s H scope (compEnvC scope cl C X.env) fp) scope := by
  intro x h
  unfold isStored at h
  split at h
  · rename_i e
    have r := isLook_rel (sc := X.env.scope) e (.inl rfl)
    exact ⟨.inl r, .inr r⟩
  · rename_i e
    refine ⟨.inr (isLook_rel (sc := X.env.scope) e (.inr rfl)), .inl ?_⟩
    show (scope.names.lookup x == some .cell) = true
    rw [e]; rfl
  · cases h
def biNm : Bi → String
  | .len => "len" | .abs => "abs" | .min => "min" | .max => "max" | .int => "int" | .str => "str" | .tuple => "tuple" | .list => "list" | .all => "all" | .any => "any" | .sum => "sum" | .divmod => "divmod" | .sorted => "sorted"
theorem ite_some {p : Prop} [Decidable p] {f g : Bi} {r : Option Bi} (h : (if p then some g else r) = some f) : (p ∧ g = f) ∨ r = some f := by
  by_cases c : p
  · rw [if_pos c] at h; exact .inl ⟨c, Option.some.inj h⟩
  · rw [if_neg c] at h; exact .inr h
theorem bi_name {f : Bi} {x : Str} (h : biOf x = some f) : x = nm (biNm f) := by
  unfold biOf at h
  rcases ite_some h with ⟨e, rfl⟩ | h
  · exact e
  rcases ite_some h with ⟨e, rfl⟩ | h
  · exact e
  rcases ite_some h with ⟨e, rfl⟩ | h
  · exact e
  rcases ite_some h with ⟨e, rfl⟩ | h
  · exact e
  rcases ite_some h with ⟨e, rfl⟩ | h
  · exact e
  rcases ite_some h with ⟨e, rfl⟩ | h
  · exact e
  rcases ite_some h with ⟨e, rfl⟩ | h
  · exact e
  rcases ite_some h with ⟨e, rfl⟩ | h
  · exact e
  rcases ite_some h with ⟨e, rfl⟩ | h
  · exact e
  rcases ite_some h with ⟨e, rfl⟩ | h
  · exact e
  rcases ite_some h with ⟨e, rfl⟩ | h
  · exact e
  rcases ite_some h with ⟨e, rfl⟩ | h
  · exact e
  rcases ite_some h with ⟨e, rfl⟩ | h
  · exact e
  cases h
theorem bi_boot : ∀ f : Bi, bootBuiltins (nm (biNm f)) = some (biV f)
  | .len => by decide +kernel
  | .abs => by decide +kernel
  | .min => by decide +kernel
  | .max => by decide +kernel
  | .int => by decide +kernel
  | .str => by decide +kernel
  | .tuple => by decide +kernel
  | .list => by decide +kernel
  | .all => by decide +kernel
  | .any => by decide +kernel
  | .sum => by decide +kernel
  | .divmod => by decide +kernel
  | .sorted => by decide +kernel
theorem bi_in : ∀ f : Bi, nm (biNm f) ∈ bltNames := fun f => List.mem_map.mpr ⟨biNm f, by cases f <;> decide, rfl⟩
theorem ty_name {t : Str} {T : String} (h : tyOf t = some T) : t = nm T ∧ T ∈ tys ∧ bootBuiltins t = some (.type T) ∧ t ∈ bltNames := by
  unfold tyOf at h
  repeat' split at h
  all_goals first | (rename_i e; cases h; subst e; exact ⟨rfl, by decide, by decide +kernel, by decide +kernel⟩) | (cases h; done)
theorem mu_name {m : Str} {j : Nat} {u : Mu} (h : muOf m j = some u) : Slot "list" m (muId u) ∧ typeOf (.builtin (muId u)) = pure (.type "method_descriptor") := by
  unfold muOf at h
  split at h
  · rename_i e; cases h; subst e; exact ⟨PySem.F.slot_list_append, PySem.F.type_list_append⟩
  split at h
  · rename_i e; cases h; subst e; exact ⟨PySem.F.slot_list_extend, PySem.F.type_list_extend⟩
  split at h
  · rename_i e; cases h; subst e; exact ⟨PySem.F.slot_list_insert, PySem.F.type_list_insert⟩
  split at h
  · rename_i e
    split at h
    · cases h; subst e; exact ⟨PySem.F.slot_list_pop, PySem.F.type_list_pop⟩
    · cases h; subst e; exact ⟨PySem.F.slot_list_pop, PySem.F.type_list_pop⟩
  split at h
  · rename_i e; cases h; subst e; exact ⟨PySem.F.slot_list_remove, PySem.F.type_list_remove⟩
  · cases h
section
variable {tb : Tb} {k n : Nat} {X : Cx} {Z : WX} {sc : Scope} {N : List Str}
variable (T : TrOk tb k n) (a : At tb k sc N X) (tk : Takes X Z)
include T a tk
theorem call_fn (hsu : tb.su = false) {x : Str} {p pos : Pos} {es : List Expr} {es' : List Ex} {F : Fn} {np : Nat} (hd : (x == ("__debug__" : Str)) = false) (hg : Gl X x) (hf : tb.gl x = some (.fn F np)) (h : trEs tb n sc N es = some es') : PE X (.Call (.Name x p) es [] pos) (rE X.K Z (ev (.call F es'))) := by
  obtain ⟨f, fd, ps, h1, h2, h3, h4⟩ := a.gd.fn x F np hf
  obtain ⟨b1, b2, b3, b4, b5⟩ := T.es X Z sc N es es' a tk h
  cases es with
  | nil =>
    cases List.length_eq_zero_iff.mp b5
    exact callS0 h2 ((a.room hsu).mono (Nat.le_succ _)) hg h1 h3 h4 tk hd
  | cons e es =>
    rw [List.all_cons, Bool.and_eq_true] at b4
    exact PE.mono (pe_callS h2 ((a.room hsu).mono (Nat.le_succ _)) hg h1 h3 h4 (fun σ => passAt tk σ) b2 hd (star_cons b4.1) (star_none b4.2)) fun σ H Q => call_rd
theorem call_loc (hsu : tb.su = false) {x : Str} {i : Nat} {p pos : Pos} {es : List Expr} {es' : List Ex} (ok : okNm x = true) (hl : isLocal (sc.names.lookup x) = true) (hne : es ≠ []) (hi : ixOf x N 0 = some i) (h : trEs tb n sc N es = some es') : PE X (.Call (.Name x p) es [] pos) (rE X.K Z (ev (.callL i tb.lc es'))) := by
  obtain ⟨d1, d2, d3⟩ := okNm_ne ok
  obtain ⟨b1, b2, b3, b4, b5⟩ := T.es X Z sc N es es' a tk h
  cases es with
  | nil => exact absurd rfl hne
  | cons e es =>
    rw [List.all_cons, Bool.and_eq_true] at b4
    exact PE.mono (pe_callLx (tbl := tb.lc) (fun y F => a.gd.lc y F) ((a.room hsu).mono (Nat.le_succ _)) (by rw [a.N]; exact ixOf_at hi) (by rw [a.sc]; exact vis_of hl) tk b2 d1 d2 (star_cons b4.1) (star_none b4.2)) fun σ H Q => callL_rd
theorem call_cls (hsu : tb.su = false) {x : Str} {p pos : Pos} {es : List Expr} {es' : List Ex} {C : String} {F : Fn} {np : Nat} (hd : (x == ("__debug__" : Str)) = false) (hg : Gl X x) (hf : tb.gl x = some (.cls C F np)) (h : trEs tb n sc N es = some es') : PE X (.Call (.Name x p) es [] pos) (rE X.K Z (ev (.mk C F es'))) := by
  obtain ⟨f, fd, ps, h1, h2, h3, h4⟩ := a.gd.cls x C F np hf
  obtain ⟨b1, b2, b3, b4, b5⟩ := T.es X Z sc N es es' a tk h
  cases es with
  | nil =>
    cases List.length_eq_zero_iff.mp b5
    refine PE.mono (pe_makeS0 h2 h3 (a.room hsu) hg h1 h4 (fun σ => passAt tk σ) hd) fun σ H Q q => ?_
    exact evT_nil (mk_rd q)
  | cons e es =>
    rw [List.all_cons, Bool.and_eq_true] at b4
    exact PE.mono (pe_makeS h2 h3 (a.room hsu) hg h1 h4 (fun σ => passAt tk σ) b2 hd (star_cons b4.1) (star_none b4.2)) fun σ H Q => mk_rd
theorem call_bi {x : Str} {p pos : Pos} {e : Expr} {es : List Expr} {es' : List Ex} {f : Bi} (hsu : (tb.su && biC f) = false) (hd : (x == ("__debug__" : Str)) = false) (hn : x ≠ "__name__") (hg : Gl X x) (hf : biOf x = some f) (h : trEs tb n sc N (e :: es) = some es') : PE X (.Call (.Name x p) (e :: es) [] pos) (rE X.K Z (ev (.bi f es'))) := by
  obtain ⟨b1, b2, b3, b4, b5⟩ := T.es X Z sc N _ es' a tk h
  rw [List.all_cons, Bool.and_eq_true] at b4
  have k2 := bi_boot f
  have hm : X.mg x = none := a.gd.blt x (bi_name hf ▸ bi_in f)
  rw [← bi_name hf] at k2
  have kinds : (∃ id, biV f = .builtin id) ∨ ∃ Ty, biV f = .type Ty := by cases f <;> first | exact .inl ⟨_, rfl⟩ | exact .inr ⟨_, rfl⟩
  have ok := bi_ok (X := X) f fun z => a.calm (by rw [z, Bool.and_true] at hsu; exact hsu)
  rcases kinds with ⟨id, e1⟩ | ⟨Ty, e1⟩
  · rw [e1] at k2 ok
    exact PE.mono (pe_callB ok hg hm k2 b2 hn hd (star_cons b4.1) (star_none b4.2)) fun σ H Q => bi_rd
  · rw [e1] at k2 ok
    exact PE.mono (pe_callTy ok hg hm k2 b2 hn hd (star_cons b4.1) (star_none b4.2)) fun σ H Q => bi_rd
theorem call_mnd {x : Str} {p pos : Pos} {e : Expr} {e' : Ex} (hsu : tb.su = false) (hd : (x == ("__debug__" : Str)) = false) (hn : x ≠ "__name__") (hg : Gl X x) (hf : biOf x = some .min) (ne : notStar e = true) (h : trE tb n sc N e = some e') : PE X (.Call (.Name x p) [e] [] pos) (rE X.K Z (ev (.mnd e'))) := by
  have k2 := bi_boot .min
  have hm : X.mg x = none := a.gd.blt x (bi_name hf ▸ bi_in .min)
  rw [← bi_name hf] at k2
  exact PE.mono (pe_callB (dk_min (a.calm hsu)) hg hm k2 (pa_cons (T.e X Z sc N e e' a tk h).1 pa_nil (star_cons ne)) hn hd (star_cons ne) (star_none (es := []) rfl)) fun σ H Q => mnd_rd
theorem call_mxd {x : Str} {p pos : Pos} {e : Expr} {e' : Ex} (hsu : tb.su = false) (hd : (x == ("__debug__" : Str)) = false) (hn : x ≠ "__name__") (hg : Gl X x) (hf : biOf x = some .max) (ne : notStar e = true) (h : trE tb n sc N e = some e') : PE X (.Call (.Name x p) [e] [] pos) (rE X.K Z (ev (.mxd e'))) := by
  have k2 := bi_boot .max
  have hm : X.mg x = none := a.gd.blt x (bi_name hf ▸ bi_in .max)
  rw [← bi_name hf] at k2
  exact PE.mono (pe_callB (dk_max (a.calm hsu)) hg hm k2 (pa_cons (T.e X Z sc N e e' a tk h).1 pa_nil (star_cons ne)) hn hd (star_cons ne) (star_none (es := []) rfl)) fun σ H Q => mxd_rd
theorem call_lrng {x : Str} {p p1 p2 pos : Pos} {i j : Expr} {i' j' : Ex} (hsu : tb.su = false) (hg : Gl X x) (hf : biOf x = some .list) (hgr : Gl X "range") (ni : notStar i = true) (nj : notStar j = true) (h1 : trE tb n sc N i = some i') (h2 : trE tb n sc N j = some j') : PE X (.Call (.Name x p) [.Call (.Name "range" p1) [i, j] [] p2] [] pos) (rE X.K Z (ev (.lrng i' j'))) := by
  have ex : x = "list" := bi_name hf
  subst ex
  exact PE.mono (pe_listRg (a.calm hsu) hg (a.gd.blt _ (by decide +kernel)) (prg_2 hgr (a.gd.blt _ (by decide +kernel)) (T.e X Z sc N i i' a tk h1).1 (T.e X Z sc N j j' a tk h2).1 (star_cons ni) (star_cons nj) (star_none (es := [j]) (by rw [List.all_cons, nj]; rfl))) (star_cons rfl)) fun σ H Q => lrng_rd
theorem call_dget (hsu : tb.su = false) {o : Expr} {m : Str} {ap cp : Pos} {es : List Expr} {o' : Ex} {es' : List Ex} (hp : plainO o = true) (hl : es.length < 20) (hline : (ap.endLine == cp.line) = true) (hm : m = ("get" : Str)) (hne : es'.length = 2) (ho : trE tb n sc N o = some o') (h : trEs tb n sc N es = some es') :
    PE X (.Call (.Attribute o m ap) es [] cp) (rE X.K Z (ev (.dget o' es'))) := by
  subst hm
  obtain ⟨b1, b2, b3, b4, b5⟩ := T.es X Z sc N es es' a tk h
  have po := (T.e X Z sc N o o' a tk ho).1
  cases es with
  | nil => rw [b5] at hne; cases hne
  | cons e es =>
    have b4' := b4
    rw [List.all_cons, Bool.and_eq_true] at b4
    refine PE.mono (pe_bm PySem.F.plainAttrs_dict PySem.F.slot_dict_get PySem.F.type_dict_get (mt_dget (by have := (a.room hsu).un; omega)) po b1 (plainO_base hp) ?_ hline (star_cons b4.1) (star_none b4.2)) fun σ H Q => dget_rd
    rw [star_all b4']
    show (true && true && decide ((e :: es).length + 0 + 0 < 30)) = true
    rw [decide_eq_true (by omega)]
    rfl
theorem call_isi1 {e : Expr} {t : Str} {p p1 pos : Pos} {e' : Ex} {Ty : String} (hg : Gl X "isinstance") (hgt : Gl X t) (hT : tyOf t = some Ty) (dt : okNm t = true) (ne : notStar e = true) (h : trE tb n sc N e = some e') : PE X (.Call (.Name "isinstance" p) [e, .Name t p1] [] pos) (rE X.K Z (ev (.isi e' Ty))) := by
  obtain ⟨k1, k2, k3, k4⟩ := ty_name hT
  obtain ⟨d1, d2, d3⟩ := okNm_ne dt
  have pt : PE X (.Name t p1) (tC (.ty Ty)) := pe_bltn hgt (a.gd.blt t k4) k3 rfl d3 d1
  exact PE.mono (pe_callB call_isi hg (a.gd.blt _ (by decide +kernel)) (by decide +kernel) (pa_cons (T.e X Z sc N e e' a tk h).1 (pa_cons pt pa_nil) (star_cons ne)) (by decide) (by decide) (star_cons ne) (star_none (es := [.Name t p1]) rfl)) fun σ H Q => isi_rd k2
theorem call_isx1 {e : Expr} {t : Str} {p p1 pos : Pos} {e' : Ex} {D : String} (hg : Gl X "isinstance") (hgt : Gl X t) (hT : tb.xc t = some D) (dt : okNm t = true) (ne : notStar e = true) (h : trE tb n sc N e = some e') : PE X (.Call (.Name "isinstance" p) [e, .Name t p1] [] pos) (rE X.K Z (ev (.isx e' D tb.xs))) := by
  obtain ⟨c, cv, r1, r2, r3, rN, r4⟩ := a.gd.xc t D hT
  obtain ⟨d1, d2, d3⟩ := okNm_ne dt
  have pt : PE X (.Name t p1) (tC c) := by
    rcases r3 with r3 | ⟨r3, r5, r6⟩
    · exact pe_glob hgt r3 r1 d1
    · exact pe_bltn hgt r3 r5 r1 r6 d1
  exact isx_pe (T.e X Z sc N e e' a tk h).1 pt r2 ne rfl r4 rN hg (a.gd.blt _ (by decide +kernel))
omit T a tk in
theorem trNs_ok {X : Cx} {tb : Tb} {k : Nat} {sc : Scope} {N : List Str} (a : At tb k sc N X) : ∀ {ts : List Expr} {Ds : List String}, trNs tb.xc sc ts = some Ds → ∃ cs cvs, ClsL X tb.xs ts Ds cs cvs
  | [], Ds, h => by
    have h' : some ([] : List String) = some Ds := h
    cases h'; exact ⟨_, _, .nil⟩
  | .Name t p1 :: r, Ds, h => by
    unfold trNs at h
    split at h
    · rename_i hc
      rw [Bool.and_eq_true] at hc
      split at h
      · rename_i D Ds' k1 k2
        cases h
        obtain ⟨cs, cvs, L⟩ := trNs_ok a k2
        obtain ⟨c, cv, r1, r2, r3, _, r4⟩ := a.gd.xc t D k1
        obtain ⟨d1, d2, d3⟩ := okNm_ne hc.1
        have pt : PE X (.Name t p1) (tC c) := by
          rcases r3 with r3 | ⟨r3, r5, r6⟩
          · exact pe_glob (a.gl hc.2) r3 r1 d1
          · exact pe_bltn (a.gl hc.2) r3 r5 r1 r6 d1
        exact ⟨_, _, .cons pt rfl r2 r4 L⟩
      · cases h
    · cases h
omit T a tk in
theorem rm_name {m : Str} {u : Rm} (h : rmOf m = some u) : Slot "list" m (rmId u) ∧ typeOf (.builtin (rmId u)) = pure (.type "method_descriptor") := by
  unfold rmOf at h
  split at h
  · rename_i e; cases h; subst e; exact ⟨PySem.F.slot_list_index, PySem.F.type_list_index⟩
  split at h
  · rename_i e; cases h; subst e; exact ⟨PySem.F.slot_list_count, PySem.F.type_list_count⟩
  · cases h
theorem call_mu (hsu : tb.su = false) {o : Expr} {m : Str} {ap cp : Pos} {es : List Expr} {o' : Ex} {es' : List Ex} {u : Mu} (hp : plainO o = true) (hl : es.length < 20) (hline : (ap.endLine == cp.line) = true) (hu : muOf m es'.length = some u) (ho : trE tb n sc N o = some o') (h : trEs tb n sc N es = some es') :
    PE X (.Call (.Attribute o m ap) es [] cp) (rE X.K Z (ev (.mu o' u es'))) := by
  obtain ⟨b1, b2, b3, b4, b5⟩ := T.es X Z sc N es es' a tk h
  obtain ⟨s1, s2⟩ := mu_name hu
  have po := (T.e X Z sc N o o' a tk ho).1
  cases es with
  | nil =>
    cases List.length_eq_zero_iff.mp b5
    refine PE.mono (pe_bm0 PySem.F.plainAttrs_list s1 s2 (mu_ok (by have := (a.room hsu).un; omega) u) po (plainO_base hp) hline) fun σ H Q q => ?_
    obtain ⟨F, g, ρ, rl, c⟩ := mu_rd q
    exact ⟨F, g, ρ, rl, c.imp fun t ρ1 c1 v F1 H1 g1 p1 m1 => ⟨(c1 v F1 H1 g1 p1 m1).1, evs_nil (c1 v F1 H1 g1 p1 m1).2⟩⟩
  | cons e es =>
    have b4' := b4
    rw [List.all_cons, Bool.and_eq_true] at b4
    refine PE.mono (pe_bm PySem.F.plainAttrs_list s1 s2 (mu_ok (by have := (a.room hsu).un; omega) u) po b1 (plainO_base hp) ?_ hline (star_cons b4.1) (star_none b4.2)) fun σ H Q => mu_rd
    rw [star_all b4']
    show (true && true && decide ((e :: es).length + 0 + 0 < 30)) = true
    rw [decide_eq_true (by omega)]
    rfl
theorem call_rm (hsu : tb.su = false) {o : Expr} {m : Str} {ap cp : Pos} {es : List Expr} {o' : Ex} {es' : List Ex} {u : Rm} (hp : plainO o = true) (hl : es.length < 20) (hline : (ap.endLine == cp.line) = true) (hu : rmOf m = some u) (hne : es' ≠ []) (ho : trE tb n sc N o = some o') (h : trEs tb n sc N es = some es') :
    PE X (.Call (.Attribute o m ap) es [] cp) (rE X.K Z (ev (.rm o' u es'))) := by
  obtain ⟨b1, b2, b3, b4, b5⟩ := T.es X Z sc N es es' a tk h
  have po := (T.e X Z sc N o o' a tk ho).1
  cases es with
  | nil => exact absurd (List.length_eq_zero_iff.mp b5) hne
  | cons e es =>
    have b4' := b4
    rw [List.all_cons, Bool.and_eq_true] at b4
    obtain ⟨n1, n2⟩ := rm_name hu
    refine PE.mono (pe_bm PySem.F.plainAttrs_list n1 n2 (rm_ok (by have := (a.room hsu).un; omega) u) po b1 (plainO_base hp) ?_ hline (star_cons b4.1) (star_none b4.2)) fun σ H Q => rm_rd
    rw [star_all b4']
    show (true && true && decide ((e :: es).length + 0 + 0 < 30)) = true
    rw [decide_eq_true (by omega)]
    rfl
omit T a tk in
theorem tx0_name {m : Str} {u : Tx0} (h : tx0Of m = some u) : Slot "str" m (tx0Id u) ∧ typeOf (.builtin (tx0Id u)) = pure (.type "method_descriptor") := by
  unfold tx0Of at h
  split at h
  · rename_i e; cases h; subst e; exact ⟨PySem.F.slot_str_isdigit, PySem.F.type_str_isdigit⟩
  split at h
  · rename_i e; cases h; subst e; exact ⟨PySem.F.slot_str_upper, PySem.F.type_str_upper⟩
  · cases h
omit T a tk in
theorem tx1_name {m : Str} {u : Tx1} (h : tx1Of m = some u) : Slot "str" m (tx1Id u) ∧ typeOf (.builtin (tx1Id u)) = pure (.type "method_descriptor") := by
  unfold tx1Of at h
  split at h
  · rename_i e; cases h; subst e; exact ⟨PySem.F.slot_str_split, PySem.F.type_str_split⟩
  split at h
  · rename_i e; cases h; subst e; exact ⟨PySem.F.slot_str_partition, PySem.F.type_str_partition⟩
  split at h
  · rename_i e; cases h; subst e; exact ⟨PySem.F.slot_str_join, PySem.F.type_str_join⟩
  · cases h
theorem call_tx0 {o : Expr} {m : Str} {ap cp : Pos} {o' : Ex} {u : Tx0} (hp : plainO o = true) (hline : (ap.endLine == cp.line) = true) (hu : tx0Of m = some u) (ho : trE tb n sc N o = some o') :
    PE X (.Call (.Attribute o m ap) [] [] cp) (rE X.K Z (ev (.tx0 o' u))) := by
  obtain ⟨s1, s2⟩ := tx0_name hu
  exact PE.mono (pe_m0 s1 s2 (mt_tx0 u) (T.e X Z sc N o o' a tk ho).1 (plainO_base hp) hline) fun σ H Q => tx0_rd
theorem call_tx1 {o e : Expr} {m : Str} {ap cp : Pos} {o' e' : Ex} {u : Tx1} (hp : plainO o = true) (hline : (ap.endLine == cp.line) = true) (hu : tx1Of m = some u) (ho : trE tb n sc N o = some o') (ne : notStar e = true) (he : trE tb n sc N e = some e') :
    PE X (.Call (.Attribute o m ap) [e] [] cp) (rE X.K Z (ev (.tx1 o' u e'))) := by
  obtain ⟨s1, s2⟩ := tx1_name hu
  exact PE.mono (pe_m1 s1 s2 (mt_tx1 u) (T.e X Z sc N o o' a tk ho).1 (T.e X Z sc N e e' a tk he).1 (star_cons ne) (plainO_base hp) hline) fun σ H Q => tx1_rd
theorem call_mth (hsu : tb.su = false) {o : Expr} {m : Str} {ap cp : Pos} {es : List Expr} {o' : Ex} {es' : List Ex} {C m' : String} {F : Fn} {np : Nat} (hp : plainO o = true) (hl : es.length < 20) (hline : (ap.endLine == cp.line) = true) (hu : tb.mt m = some (C, m', F, np)) (ho : trE tb n sc N o = some o') (h : trEs tb n sc N es = some es') :
    PE X (.Call (.Attribute o m ap) es [] cp) (rE X.K Z (ev (.mth o' C m' F es'))) := by
  obtain ⟨b1, b2, b3, b4, b5⟩ := T.es X Z sc N es es' a tk h
  obtain ⟨rfl, f, fd, ps, h1, h2, h3, h4⟩ := a.gd.mt m C m' F np hu
  exact mth_pe tk ((a.room hsu).mono (Nat.le_succ _)) hp b4 hline hl (fun z => by rw [z] at b5; exact List.length_eq_zero_iff.mp b5) (T.e X Z sc N o o' a tk ho).1 b2 h1 h2 h3 h4
theorem tr_call {f : Expr} {es : List Expr} {kws : List Keyword} {cp : Pos} {e' : Ex} (h : trE tb (n + 1) sc N (.Call f es kws cp) = some e') : PE X (.Call f es kws cp) (rE X.K Z (ev e')) ∧ PT X (.Call f es kws cp) (rT X.K Z (ev e')) := by
  refine plainT ?_ fun _ => rfl
  unfold trE at h
  dsimp only at h
  split at h
  case h_2 => cases h
  split at h
  · rename_i x p0
    split at h
    case isFalse =>
      split at h
      · rename_i hx
        simp only [Bool.and_eq_true] at hx
        split at h
        · rename_i i es' k1 k2
          cases h
          exact call_loc T a tk (by simpa using hx.2) hx.1.1.1 hx.1.1.2 (fun z => by rw [z] at hx; simp at hx) k1 k2
        · cases h
      · cases h
    rename_i hx
    rw [Bool.and_eq_true] at hx
    obtain ⟨d1, d2, d3⟩ := okNm_ne hx.1
    have hg := a.gl hx.2
    split at h
    · rename_i F np hf
      split at h
      · rename_i hc
        have hsu := hc.2
        cases y : trEs tb n sc N es with
        | none => rw [y] at h; cases h
        | some es' => rw [y] at h; cases h; exact call_fn T a tk hsu d1 hg hf y
      · cases h
    · rename_i C F np hf
      split at h
      · rename_i hc
        have hsu := hc.2
        cases y : trEs tb n sc N es with
        | none => rw [y] at h; cases h
        | some es' => rw [y] at h; cases h; exact call_cls T a tk hsu d1 hg hf y
      · cases h
    · cases h
    · rename_i hnone
      split at h
      · rename_i hi
        subst hi
        split at h
        · rename_i e t p1
          split at h
          · rename_i hc
            simp only [Bool.and_eq_true] at hc
            split at h
            · rename_i Ty e2 k1 k2
              cases h
              exact call_isi1 T a tk hg (a.gl hc.1.1.2) k1 hc.1.1.1.2 hc.2 k2
            · cases h
          · split at h
            · rename_i hc
              simp only [Bool.and_eq_true] at hc
              split at h
              · rename_i D e2 k1 k2
                cases h
                exact call_isx1 T a tk hg (a.gl hc.1.2) k1 hc.1.1 hc.2 k2
              · cases h
            · cases h
        · rename_i e ts kk tpos
          split at h
          · rename_i hc
            simp only [Bool.and_eq_true, decide_eq_true_eq] at hc
            split at h
            · rename_i Ds e2 k1 k2
              cases h
              obtain ⟨cs, cvs, L⟩ := trNs_ok a k1
              exact isxs_pe (T.e X Z sc N e e2 a tk k2).1 hc.1.1 L (fun z => by rw [z] at hc; simp at hc) hc.2 hg (a.gd.blt _ (by decide +kernel))
            · cases h
          · cases h
        · cases h
      · split at h
        · rename_i b hb
          split at h
          · cases h
          rename_i hsu0
          have hsu : (tb.su && biC b) = false := by simpa using hsu0
          have gen : ∀ {e : Expr} {es : List Expr} {r : Option Ex}, r = some e' → r = (trEs tb n sc N (e :: es)).map (.bi b) → PE X (.Call (.Name x p0) (e :: es) [] cp) (rE X.K Z (ev e')) := fun {e} {es} {r} h1 h2 => by
            rw [h1] at h2
            cases y : trEs tb n sc N (e :: es) with
            | none => rw [y] at h2; cases h2
            | some es' => rw [y] at h2; cases h2; exact call_bi T a tk hsu d1 d3 hg hb y
          split at h
          · cases h
          · rename_i e0
            split at h
            · rename_i hb2
              subst hb2
              split at h
              · rename_i ne
                cases y : trE tb n sc N e0 with
                | none => rw [y] at h; cases h
                | some e2 => rw [y] at h; cases h; exact call_mnd T a tk (by simpa [biC] using hsu) d1 d3 hg hb ne y
              · cases h
            split at h
            · rename_i hb2
              subst hb2
              split at h
              · rename_i ne
                cases y : trE tb n sc N e0 with
                | none => rw [y] at h; cases h
                | some e2 => rw [y] at h; cases h; exact call_mxd T a tk (by simpa [biC] using hsu) d1 d3 hg hb ne y
              · cases h
            split at h
            · rename_i y p1 i j p2
              split at h
              · rename_i hy
                subst hy
                split at h
                · rename_i hc
                  simp only [Bool.and_eq_true] at hc
                  split at h
                  · rename_i i2 j2 k1 k2
                    cases h
                    exact call_lrng T a tk (by simpa using hc.2) hg hb (a.gl hc.1.1.2) hc.1.1.1.1.1 hc.1.1.1.1.2 k1 k2
                  · cases h
                · cases h
              · exact gen h rfl
            · exact gen h rfl
          · rename_i hne _
            cases es with
            | nil => exact absurd rfl hne
            | cons e es =>
              cases y : trEs tb n sc N (e :: es) with
              | none => rw [y] at h; cases h
              | some es' => rw [y] at h; cases h; exact call_bi T a tk hsu d1 d3 hg hb y
        · cases h
  · rename_i o m ap
    split at h
    case isFalse => cases h
    rename_i hx
    simp only [Bool.and_eq_true, decide_eq_true_eq] at hx
    obtain ⟨⟨⟨hp, hl⟩, hline⟩, hsu0⟩ := hx
    have hsu : tb.su = false := by simpa using hsu0
    split at h
    · rename_i C m' F np o' es' k1 k2 k3
      split at h
      · cases h; exact call_mth T a tk hsu hp hl hline k1 k2 k3
      · cases h
    · rename_i o' es' k1 k2 k3
      split at h
      · rename_i u hu
        cases h
        exact call_mu T a tk hsu hp hl hline hu k2 k3
      · rename_i r hu1 hu2
        split at h
        · cases h
        · rename_i hne
          cases h
          exact call_rm T a tk hsu hp hl hline hu2 (fun z => hne (by rw [z]; rfl)) k2 k3
      · split at h
        · rename_i hc
          cases h
          exact call_dget T a tk hsu hp hl hline hc.1 hc.2 k2 k3
        · split at h
          · rename_i u hu _
            cases h
            exact call_tx0 T a tk hp hline hu k2
          · rename_i u e0 _ hu
            split at h
            · rename_i ne
              cases y : trE tb n sc N e0 with
              | none => rw [y] at h; cases h
              | some e2 => rw [y] at h; cases h; exact call_tx1 T a tk hp hline hu k2 ne y
            · cases h
          · cases h
    · cases h
  · cases h
end
end Rf
namespace Rf
open PySem PySem.Spec PyProof.Rows L2
theorem folded {e : Expr} {env : Env} (h : ∀ es k p, e ≠ .Set es k p) (x : Value) : foldedSetIterable e env x = pure x := by
  cases e with
  | Set es k p => exact absurd rfl (h es k p)
  | _ => rfl
theorem evT_len : ∀ {es : List Ex} {ρ ρ' : Rho} {ts : List T}, evT es ρ = some (.ok ts, ρ') → ts.length = es.length
  | [], ρ, ρ', ts, h => by
    have h' : some (Out.ok ([] : List T), ρ) = some (.ok ts, ρ') := by unfold evT at h; exact h
    cases h'; rfl
  | e :: es, ρ, ρ', ts, h => by
    unfold evT bnd at h
    cases x : ev e ρ with
    | none => rw [x] at h; cases h
    | some p =>
      obtain ⟨r, ρ1⟩ := p
      rw [x] at h
      cases r with
      | ex w => cases h
      | ok t =>
        dsimp only at h
        cases y : evT es ρ1 with
        | none => rw [y] at h; cases h
        | some p =>
          obtain ⟨r, ρ2⟩ := p
          rw [y] at h
          cases r with
          | ex w => cases h
          | ok ts' => cases h; exact congrArg (· + 1) (evT_len y)
section
variable {tb : Tb} {k n : Nat} {X : Cx} {Z : WX} {sc : Scope} {N : List Str}
/-- a comprehension's block -/
structure LcOk (tb : Tb) (k n : Nat) (X : Cx) (Z : WX) (sc : Scope) (N : List Str) (elt tg iter : Expr) (ifs : List Expr) (scope : Scope) (e' : Ex) : Prop where
  ok : ∃ (elt' : Ex) (tg' : Tg) (it' : It) (c' : Option Ex), e' = .lc elt' tg' it' c' ((owns N scope).map (·.2)) ∧ BlkOk X.N X.env.scope scope (owns N scope) ∧ PI X tg iter (rI X.K Z (src it')) ∧ (∀ x, foldedSetIterable iter X.env x = pure x) ∧
    (∀ (s : Shared) (H : Hp) (C : Addr) (cl : List (Str × Addr)) (fp : List Addr), PG (X.blk s H scope (compEnvC scope cl C X.env) fp) tg (rG X.K tg')) ∧
    (∀ (s : Shared) (H : Hp) (C : Addr) (cl : List (Str × Addr)) (fp : List Addr), PTs (X.blk s H scope (compEnvC scope cl C X.env) fp) ifs (rB X.K Z0 (evB c'))) ∧
    (∀ (s : Shared) (H : Hp) (C : Addr) (cl : List (Str × Addr)) (fp : List Addr), PE (X.blk s H scope (compEnvC scope cl C X.env) fp) elt (rE X.K Z0 (ev elt'))) ∧
    (∀ j ∈ tgIx tg', j ∈ (owns N scope).map (·.2))
variable (T : TrOk tb k n) (a : At tb k sc N X) (tk : Takes X Z)
include T a tk
theorem lc_parts {elt : Expr} {gs : List Comprehension} {scope : Scope} {p : Pos} {e' : Ex} (h : trE tb (n + 1) sc N (.ListComp elt gs scope p) = some e') : ∃ tg iter ifs, tb.su = false ∧ gs = [⟨tg, iter, ifs, 0⟩] ∧ LcOk tb k n X Z sc N elt tg iter ifs scope e' := by
  unfold trE at h
  dsimp only at h
  split at h
  case h_2 => cases h
  rename_i tg iter ifs j
  split at h
  case isFalse => cases h
  rename_i hc
  obtain ⟨⟨rfl, hblk⟩, hsu⟩ := hc
  split at h
  case h_2 => cases h
  rename_i tg' it' elt' h1 h2 h3
  split at h
  case isFalse => cases h
  rename_i hall
  have hix : ∀ j ∈ tgIx tg', j ∈ (owns N scope).map (·.2) := fun j hj => by
    have := List.all_eq_true.mp hall j hj
    simpa using this
  have hok : BlkOk X.N X.env.scope scope (owns N scope) := by
    rw [a.N, a.sc]
    exact blkOk_by hblk
  obtain ⟨pi, hs⟩ := T.i X Z sc N iter tg it' a tk h2
  have pg : ∀ (s : Shared) (H : Hp) (C : Addr) (cl : List (Str × Addr)) (fp : List Addr), PG (X.blk s H scope (compEnvC scope cl C X.env) fp) tg (rG X.K tg') := fun s H C cl fp =>
    pg_tr (X := X.blk s H scope (compEnvC scope cl C X.env) fp) (a.calm hsu) a.nd stOk_blk 5 tg tg' (by show trTg scope X.N 5 tg = _; rw [a.N]; exact h1)
  have pe : ∀ (s : Shared) (H : Hp) (C : Addr) (cl : List (Str × Addr)) (fp : List Addr), PE (X.blk s H scope (compEnvC scope cl C X.env) fp) elt (rE X.K Z0 (ev elt')) := fun s H C cl fp =>
    (T.e (X.blk s H scope (compEnvC scope cl C X.env) fp) Z0 (inScope sc scope) N elt elt' a.blk takes_no h3).1
  refine ⟨tg, iter, ifs, hsu, rfl, ?_⟩
  split at h
  · cases h
    exact ⟨elt', tg', it', none, rfl, hok, pi, hs, pg, fun s H C cl fp => pts_none, pe, hix⟩
  · rename_i c
    cases y : trE tb n (inScope sc scope) N c with
    | none => rw [y] at h; cases h
    | some c' =>
      rw [y] at h
      cases h
      exact ⟨elt', tg', it', some c', rfl, hok, pi, hs, pg, fun s H C cl fp => pts_some (T.e (X.blk s H scope (compEnvC scope cl C X.env) fp) Z0 (inScope sc scope) N c c' a.blk takes_no y).2, pe, hix⟩
  · cases h
theorem tr_lc {elt : Expr} {gs : List Comprehension} {scope : Scope} {p : Pos} {e' : Ex} (h : trE tb (n + 1) sc N (.ListComp elt gs scope p) = some e') : PE X (.ListComp elt gs scope p) (rE X.K Z (ev e')) ∧ PT X (.ListComp elt gs scope p) (rT X.K Z (ev e')) := by
  obtain ⟨tg, iter, ifs, hsu, rfl, elt', tg', it', c', rfl, hok, pi, hs, pg, pt, pe, hix⟩ := lc_parts T a tk h
  exact plainT (PE.mono (pe_lc (a.calm hsu) a.nd pi hok pg pt pe hs) fun σ H Q => lc_rd hix) fun _ => rfl
theorem of_src {e tg : Expr} {it : It} (hns : ∀ es k p, e ≠ .Set es k p) (h : (trE tb n sc N e).map .of = some it) : PI X tg e (rI X.K Z (src it)) ∧ ∀ x, foldedSetIterable e X.env x = pure x := by
  cases y : trE tb n sc N e with
  | none => rw [y] at h; cases h
  | some e' =>
    rw [y] at h
    cases h
    exact ⟨of_pi (T.e X Z sc N e e' a tk y).1, folded hns⟩
theorem tr_i {e tg : Expr} {it : It} (h : trI tb (n + 1) sc N e tg = some it) : PI X tg e (rI X.K Z (src it)) ∧ ∀ x, foldedSetIterable e X.env x = pure x := by
  unfold trI at h
  split at h
  · rename_i x p0 es cp
    have hns : ∀ es' k p, Expr.Call (.Name x p0) es [] cp ≠ .Set es' k p := fun _ _ _ => nofun
    split at h
    · rename_i hx
      simp only [Bool.and_eq_true] at hx
      obtain ⟨d1, d2, d3⟩ := okNm_ne hx.1.1
      have hg := a.gl hx.1.2
      split at h
      · rename_i er
        subst er
        have hm : X.mg ("range" : Str) = none := a.gd.blt _ (by decide +kernel)
        split at h
        · rename_i e1
          cases y : trEs tb n sc N [e1] with
          | none => rw [y] at h; cases h
          | some es' =>
            rw [y] at h
            cases h
            obtain ⟨b1, b2, b3, b4, b5⟩ := T.es X Z sc N _ es' a tk y
            simp only [List.all_cons, List.all_nil, Bool.and_true] at b4
            exact ⟨rng1_pi hg hm b2 b4 fun ts ρ ρ' h => (evT_len h).trans b5, folded hns⟩
        · rename_i e1 e2
          cases y : trEs tb n sc N [e1, e2] with
          | none => rw [y] at h; cases h
          | some es' =>
            rw [y] at h
            cases h
            obtain ⟨b1, b2, b3, b4, b5⟩ := T.es X Z sc N _ es' a tk y
            simp only [List.all_cons, List.all_nil, Bool.and_true, Bool.and_eq_true] at b4
            exact ⟨rng2_pi hg hm b2 b4.1 b4.2 fun ts ρ ρ' h => (evT_len h).trans b5, folded hns⟩
        · rename_i e1 e2 e3
          cases y : trEs tb n sc N [e1, e2, e3] with
          | none => rw [y] at h; cases h
          | some es' =>
            rw [y] at h
            cases h
            obtain ⟨b1, b2, b3, b4, b5⟩ := T.es X Z sc N _ es' a tk y
            exact ⟨rng3_pi hg hm b2 b4 fun ts ρ ρ' h => (evT_len h).trans b5, folded hns⟩
        · cases h
      · split at h
        · rename_i er
          subst er
          have hm : X.mg ("zip" : Str) = none := a.gd.blt _ (by decide +kernel)
          split at h
          · rename_i e1 e2 el kk tp
            split at h
            · rename_i hst
              simp only [Bool.and_eq_true] at hst
              split at h
              · rename_i a' b' y1 y2
                cases h
                have p1 := (T.e X Z sc N e1 a' a tk y1).1
                have p2 := (T.e X Z sc N e2 b' a tk y2).1
                have pa : PA X [e1, e2] (rAs X.K Z (evs [a', b'])) := PA.mono (pa_cons p1 (PA.mono (pa_cons p2 (PA.mono pa_nil fun σ H Q => evs_nil) (star_cons hst.2)) fun σ H Q => evs_cons) (star_cons hst.1)) fun σ H Q => evs_cons
                exact ⟨zip_pi hg hm pa hst.1 hst.2, folded hns⟩
              · cases h
            · cases h
          · cases h
        · split at h
          · rename_i er
            subst er
            have hm : X.mg ("enumerate" : Str) = none := a.gd.blt _ (by decide +kernel)
            split at h
            · rename_i e1 el kk tp
              split at h
              · rename_i hst
                cases y1 : trE tb n sc N e1 with
                | none => rw [y1] at h; cases h
                | some a' =>
                  rw [y1] at h
                  cases h
                  have p1 := (T.e X Z sc N e1 a' a tk y1).1
                  have pa : PA X [e1] (rAs X.K Z (evs [a'])) := PA.mono (pa_cons p1 (PA.mono pa_nil fun σ H Q => evs_nil) (star_cons hst)) fun σ H Q => evs_cons
                  exact ⟨enm_pi hg hm pa hst, folded hns⟩
              · cases h
            · cases h
          · exact of_src T a tk hns h
    · exact of_src T a tk hns h
  · cases h
  · rename_i hns
    exact of_src T a tk (fun es k p => by
      intro e1
      exact hns es k p e1) h
end
theorem tr_all (tb : Tb) (k : Nat) : ∀ n, TrOk tb k n
  | 0 => by
    refine ⟨fun X Z sc N e e' a tk h => ?_, fun X Z sc N es es' a tk h => ?_, fun X Z sc N o es e' pos a tk h => ?_, fun X Z sc N o o' a tk h => ?_, fun X Z sc N e tg it a tk h => ?_⟩
    · unfold trE at h; cases h
    · cases es with
      | nil =>
        have h' : some ([] : List Ex) = some es' := by unfold trEs at h; exact h
        cases h'
        exact ⟨PA.mono pa_nil fun σ H Q => evs_nil, PA.mono pa_nil fun σ H Q => evT_nil, .nil, rfl, rfl⟩
      | cons e es => unfold trEs at h; cases h
    · unfold trB at h; cases h
    · cases o with
      | none =>
        have h' : some (none : Option Ex) = some o' := by unfold trO at h; exact h
        cases h'
        exact PO.mono po_none fun σ H Q => evO_none
      | some e => unfold trO at h; cases h
    · unfold trI at h; cases h
  | n + 1 => by
    have T := tr_all tb k n
    refine ⟨fun X Z sc N e e' a tk h => ?_, fun X Z sc N es es' a tk h => tr_es T a tk h, fun X Z sc N o es e' pos a tk h => tr_bs T a tk h, fun X Z sc N o o' a tk h => tr_o T a tk h, fun X Z sc N e tg it a tk h => tr_i T a tk h⟩
    cases e with
    | Name x p => exact tr_name a h
    | Constant c j p => exact tr_const h
    | BinOp x o y p => exact tr_bin T a tk h
    | UnaryOp o x p => exact tr_un T a tk h
    | BoolOp o es p => exact tr_bool T a tk h
    | Compare x os es p => exact tr_cmp T a tk h
    | IfExp c x y p => exact tr_ife T a tk h
    | Tuple es j p => exact tr_tup T a tk h
    | List es p => exact tr_lst T a tk h
    | Dict ks vs p => exact tr_dict T a tk h
    | Subscript x y p => exact tr_sub T a tk h
    | Attribute x f p => exact tr_fld T a tk h
    | Call f es kws cp => exact tr_call T a tk h
    | ListComp elt gs scope p => exact tr_lc T a tk h
    | _ => unfold trE at h; cases h
end Rf
/-! statements: the readings, names, blocks, tests -/
namespace Rf
open PySem PySem.Spec PyProof.Rows L2
/-- from one state to a later one, the slots A may have been stored -/
structure Pn (K : PySem.W.Frag) (A : Nat → Prop) (σ : L2.St) (F H : Hp) (g : Gh) (ρ : Rho) (σ' : L2.St) (F' H' : Hp) (g' : Gh) (ρ' : Rho) : Prop where
  le : Le F H g F' H' g'
  rl : Rl K F' H' g' ρ' σ'
  ls : Ls (fun j => ¬ A j) ρ σ H ρ' σ' H'
  eq : ∀ j, ¬ A j → σ'[j]? = σ[j]?
  len : σ'.length = σ.length
/-- what leaves a def: its marks are new, or of slots from np on -/
def Rv (K : PySem.W.Frag) (np : Nat) (H : Hp) (g : Gh) (F' H' : Hp) (g' : Gh) (w : W) (v : V) : Prop :=
  ∃ m : Mk, Ow K F' H' (fun f a => m a = some f) w v ∧ ∀ a f, m a = some f → F' a = none ∧ g' a = none ∧ H' a ≠ none ∧ (H a = none ∨ ∃ i f', np ≤ i ∧ g a = some (i, f'))
def fin1 (K : PySem.W.Frag) (np : Nat) (H : Hp) (g : Gh) (D : Ends) (σ' : L2.St) (F' H' : Hp) (g' : Gh) : Flow → Prop
  | .nx => D.nx σ' H'
  | .bk => D.bk σ' H'
  | .rt w => ∀ v, Rv K np H g F' H' g' w v → D.rt v H'
/-- the slots that may be stored; a return may clear those behind the parameters -/
def sA (A : List Nat) : Nat → Prop := fun j => j ∈ A
def fA (np : Nat) (A : List Nat) : Flow → Nat → Prop
  | .rt _ => fun j => j ∈ A ∨ np ≤ j
  | _ => sA A
theorem sA_fA {np : Nat} {A : List Nat} {fl : Flow} {j : Nat} (h : sA A j) : fA np A fl j := by
  cases fl with
  | rt w => exact .inl h
  | nx => exact h
  | bk => exact h
theorem fA_imp {np : Nat} {A B : List Nat} (h : ∀ j ∈ A, j ∈ B) {fl : Flow} {j : Nat} (x : fA np A fl j) : fA np B fl j := by
  cases fl with
  | rt w => exact x.imp (h j) id
  | nx => exact h j x
  | bk => exact h j x
def Cs (K : PySem.W.Frag) (Z : WX) (np : Nat) (A : List Nat) (σ : L2.St) (F H : Hp) (g : Gh) (ρ : Rho) (D : Ends) (m : M Flow) (ρ1 : Rho) : Prop :=
  ∃ r ρ', m ρ1 = some (r, ρ') ∧ match r with
    | .ok fl => ∀ σ' F' H' g', Pn K (fA np A fl) σ F H g ρ σ' F' H' g' ρ' → fin1 K np H g D σ' F' H' g' fl
    | .ex w => ∀ cls d σ' F' H' g', Pn K (sA A) σ F H g ρ σ' F' H' g' ρ' → Xv K F' w cls d → Z cls d σ' H'
def rS (K : PySem.W.Frag) (Z : WX) (np : Nat) (A : List Nat) (m : M Flow) : TS := fun D σ H => ∃ F g ρ, Rl K F H g ρ σ ∧ Cs K Z np A σ F H g ρ D m ρ
section
variable {K : PySem.W.Frag} {Z : WX} {np : Nat} {A B : List Nat} {σ σ1 σ2 : L2.St} {F H F1 H1 F2 H2 : Hp} {g g1 g2 : Gh} {ρ ρ1 ρ2 : Rho} {D : Ends} {α : Type}
variable {P P' : Nat → Prop}
theorem Pn.refl (r : Rl K F H g ρ σ) : Pn K P σ F H g ρ σ F H g ρ := ⟨.refl, r, .refl, fun _ _ => rfl, rfl⟩
theorem Pn.trans (a : Pn K P σ F H g ρ σ1 F1 H1 g1 ρ1) (b : Pn K P σ1 F1 H1 g1 ρ1 σ2 F2 H2 g2 ρ2) : Pn K P σ F H g ρ σ2 F2 H2 g2 ρ2 :=
  ⟨a.le.trans b.le, b.rl, a.ls.trans b.ls, fun j h => (b.eq j h).trans (a.eq j h), b.len.trans a.len⟩
theorem Pn.of (p : Ps K σ F H g ρ F1 H1 g1 ρ1) : Pn K P σ F H g ρ σ F1 H1 g1 ρ1 := ⟨p.le, p.rl, p.ls.imp fun _ _ => trivial, fun _ _ => rfl, rfl⟩
theorem Pn.imp (h : ∀ j, P j → P' j) (p : Pn K P σ F H g ρ σ1 F1 H1 g1 ρ1) : Pn K P' σ F H g ρ σ1 F1 H1 g1 ρ1 :=
  ⟨p.le, p.rl, p.ls.imp fun j hj x => hj (h j x), fun j hj => p.eq j fun x => hj (h j x), p.len⟩
theorem Rv.start {w : W} {v : V} (r : Rv K np H1 g1 F2 H2 g2 w v) (l : Le F H g F1 H1 g1) : Rv K np H g F2 H2 g2 w v := by
  obtain ⟨m, h1, h2⟩ := r
  refine ⟨m, h1, fun a f e => ?_⟩
  obtain ⟨k1, k2, k3, k4⟩ := h2 a f e
  refine ⟨k1, k2, k3, ?_⟩
  rcases k4 with k | ⟨i, f', hi, k⟩
  · exact .inl (l.hnone k)
  · rcases l.gn a _ k with z | z
    · exact .inr ⟨i, f', hi, z⟩
    · exact .inl z
theorem fin1.start {σ' : L2.St} {F' H' : Hp} {g' : Gh} {fl : Flow} (l : Le F H g F1 H1 g1) (h : fin1 K np H g D σ' F' H' g' fl) : fin1 K np H1 g1 D σ' F' H' g' fl := by
  cases fl with
  | nx => exact h
  | bk => exact h
  | rt w => exact fun v r => h v (r.start l)
theorem Cs.rebase {m : M Flow} (c : Cs K Z np A σ F H g ρ D m ρ2) (p : Pn K (sA A) σ F H g ρ σ1 F1 H1 g1 ρ1) : Cs K Z np A σ1 F1 H1 g1 ρ1 D m ρ2 := by
  obtain ⟨r, ρ', e, h⟩ := c
  refine ⟨r, ρ', e, ?_⟩
  cases r with
  | ok fl => exact fun σ' F' H' g' q => (h σ' F' H' g' ((p.imp fun j => sA_fA).trans q)).start p.le
  | ex w => exact fun cls d σ' F' H' g' q x => h cls d σ' F' H' g' (p.trans q) x
theorem Cs.imp (h : ∀ j ∈ A, j ∈ B) {m : M Flow} (c : Cs K Z np B σ F H g ρ D m ρ2) : Cs K Z np A σ F H g ρ D m ρ2 := by
  obtain ⟨r, ρ', e, z⟩ := c
  refine ⟨r, ρ', e, ?_⟩
  cases r with
  | ok fl => exact fun σ' F' H' g' q => z σ' F' H' g' (q.imp fun j => fA_imp h)
  | ex w => exact fun cls d σ' F' H' g' q x => z cls d σ' F' H' g' (q.imp h) x
/-- an expression's step within a statement -/
theorem Cs.ev {m : M α} {k : α → M Flow} (c : Cs K Z np A σ F H g ρ D (Rf.bnd m k) ρ1) : Ct K Z σ F H g ρ m ρ1 fun a ρ2 => Cs K Z np A σ F H g ρ D (k a) ρ2 := by
  obtain ⟨r, ρ', e, z⟩ := c
  unfold Rf.bnd at e
  cases x : m ρ1 with
  | none => rw [x] at e; cases e
  | some q =>
    rw [x] at e
    obtain ⟨s, ρ2⟩ := q
    cases s with
    | ok a => exact ⟨.ok a, ρ2, x, r, ρ', e, z⟩
    | ex w => cases e; exact ⟨.ex w, _, x, fun cls d F' H' g' p xv => z cls d σ F' H' g' (.of p) xv⟩
theorem Cs.rd {t : T} {k : W → M Flow} (c : Cs K Z np A σ F H g ρ D (Rf.bnd (Rf.rd t) k) ρ1) : ∃ w, drf ρ1 t = some w ∧ Cs K Z np A σ F H g ρ D (k w) ρ1 := by
  obtain ⟨r, ρ', e, z⟩ := c
  unfold Rf.bnd Rf.rd at e
  cases x : drf ρ1 t with
  | none => rw [x] at e; cases e
  | some w => rw [x] at e; exact ⟨w, rfl, r, ρ', e, z⟩
theorem Cs.lft {o : Option α} {k : α → M Flow} (c : Cs K Z np A σ F H g ρ D (Rf.bnd (Rf.lft o) k) ρ1) : ∃ w, o = some w ∧ Cs K Z np A σ F H g ρ D (k w) ρ1 := by
  obtain ⟨r, ρ', e, z⟩ := c
  unfold Rf.bnd Rf.lft at e
  cases x : o with
  | none => rw [x] at e; cases e
  | some w => rw [x] at e; exact ⟨w, rfl, r, ρ', e, z⟩
theorem Cs.stuck (c : Cs K Z np A σ F H g ρ D Rf.stuck ρ1) : False := by
  obtain ⟨r, ρ', e, z⟩ := c
  cases e
theorem Cs.ret {fl : Flow} (c : Cs K Z np A σ F H g ρ D (Rf.ret fl) ρ1) {σ' : L2.St} {F' H' : Hp} {g' : Gh} (p : Pn K (fA np A fl) σ F H g ρ σ' F' H' g' ρ1) : fin1 K np H g D σ' F' H' g' fl := by
  obtain ⟨r, ρ', e, z⟩ := c
  cases e
  exact z σ' F' H' g' p
/-- a value put into a slot, with what it owns -/
theorem Pn.set (p : Ps K σ F H g ρ F1 H1 g1 ρ1) {i : Nat} {w : W} {v : V} (hi : i < ρ1.length) (hA : i ∈ A) (tm : Tm K σ H F1 H1 g1 ρ1 (.val w) v) : ∃ g2, Pn K (sA A) σ F H g ρ (σ.set i (some v)) F1 H1 g2 (ρ1.set i (some w)) := by
  obtain ⟨m, hm, hO⟩ := tm
  refine ⟨gset g1 i m, p.le.set hm, p.rl.set hi hm hO, fun j f x hj e l => ?_, fun j hj => ?_, List.length_set ..⟩
  · have ne : i ≠ j := fun z => hj (z ▸ hA)
    obtain ⟨⟨w', e', l'⟩, hv⟩ := p.ls j f x trivial e l
    refine ⟨⟨w', ?_, l'⟩, ?_⟩
    · rw [getP_of (ρ' := ρ1) (by rw [slot_set hi, if_neg (Ne.symm ne)])]; exact e'
    · rw [← hv]; exact vp_of (List.getElem?_set_ne ne) f
  · refine List.getElem?_set_ne fun z => hj ?_
    subst z; exact hA
theorem Cs.stN {i : Nat} {w : W} {k : Unit → M Flow} (c : Cs K Z np A σ F H g ρ D (Rf.bnd (Rf.stN i w) k) ρ1) : i < ρ1.length ∧ Cs K Z np A σ F H g ρ D (k ()) (ρ1.set i (some w)) := by
  obtain ⟨r, ρ', e, z⟩ := c
  unfold Rf.bnd Rf.stN at e
  by_cases h : i < ρ1.length
  · rw [if_pos h] at e; exact ⟨h, r, ρ', e, z⟩
  · rw [if_neg h] at e; cases e
/-! ### the readings of the small statements -/
theorem asg_rd {i : Nat} {e : Ex} (hA : i ∈ A) (h : rS K Z np A (exec np (.asg (.nm i) e)) D σ H) : tAsg (rE K Z (ev e)) (gName i) D σ H := by
  obtain ⟨F, g, ρ, rl, c⟩ := h
  unfold exec at c
  refine ⟨F, g, ρ, rl, c.ev.imp fun t ρ1 c1 x F1 H1 g1 p1 m1 => ?_⟩
  obtain ⟨r, ρ2, e2, z⟩ := c1.ev
  obtain ⟨w, F2, g2, rfl, p2, tm2⟩ := mv_ok p1 m1 e2
  have z' : Cs K Z np A σ F H g ρ D (bnd (stN i w) fun _ => ret Flow.nx) ρ2 := z
  obtain ⟨hi, c3⟩ := z'.stN
  obtain ⟨g3, pn⟩ := Pn.set p2 hi hA tm2
  exact c3.ret pn
theorem expr_rd {e : Ex} (h : rS K Z np A (exec np (.expr e)) D σ H) : tDrop (rE K Z (ev e)) D σ H := by
  obtain ⟨F, g, ρ, rl, c⟩ := h
  unfold exec at c
  exact ⟨F, g, ρ, rl, c.ev.imp fun t ρ1 c1 x F1 H1 g1 p1 m1 => c1.ret (.of p1)⟩
theorem pass_rd (h : rS K Z np A (exec np .pass) D σ H) : tNext D σ H := by
  obtain ⟨F, g, ρ, rl, c⟩ := h
  unfold exec at c
  exact c.ret (.refl rl)
theorem brk_rd (h : rS K Z np A (exec np .brk) D σ H) : tBreak D σ H := by
  obtain ⟨F, g, ρ, rl, c⟩ := h
  unfold exec at c
  exact c.ret (.refl rl)
theorem nil_rd (h : rS K Z np A (execs np []) D σ H) : tNext D σ H := by
  obtain ⟨F, g, ρ, rl, c⟩ := h
  unfold execs at c
  exact c.ret (.refl rl)
/-- the flow behind a first part -/
def thenF (k : M Flow) : Flow → M Flow
  | .nx => k
  | f => ret f
theorem seq_cs {D : Ends} {m k : M Flow} (rl : Rl K F H g ρ σ) (c : Cs K Z np A σ F H g ρ D (bnd m (thenF k)) ρ) : Cs K Z np A σ F H g ρ { D with nx := rS K Z np A k D } m ρ := by
  obtain ⟨r, ρ', e, z⟩ := c
  unfold bnd at e
  cases x : m ρ with
  | none => rw [x] at e; cases e
  | some q =>
    obtain ⟨s, ρ1⟩ := q
    rw [x] at e
    refine ⟨s, ρ1, x, ?_⟩
    cases s with
    | ex w => cases e; exact z
    | ok fl =>
      cases fl with
      | nx =>
        intro σ' F' H' g' p
        have c2 : Cs K Z np A σ F H g ρ D k ρ1 := ⟨r, ρ', e, z⟩
        exact ⟨F', g', ρ1, p.rl, c2.rebase p⟩
      | bk => cases e; exact z
      | rt w => cases e; exact z
theorem cons_rd {s : St} {ss : List St} (h : rS K Z np A (execs np (s :: ss)) D σ H) : tSeq (rS K Z np A (exec np s)) (rS K Z np A (execs np ss)) D σ H := by
  obtain ⟨F, g, ρ, rl, c⟩ := h
  unfold execs at c
  refine ⟨F, g, ρ, rl, seq_cs rl ?_⟩
  have e : (fun f => match f with | Flow.nx => execs np ss | f => ret f) = thenF (execs np ss) := by funext f; cases f <;> rfl
  rw [← e]; exact c
theorem ite_rd {c : Ex} {a b : List St} (h : rS K Z np A (exec np (.ite c a b)) D σ H) : tIfS (rT K Z (ev c)) (rS K Z np A (execs np a)) (rS K Z np A (execs np b)) D σ H := by
  obtain ⟨F, g, ρ, rl, q⟩ := h
  unfold exec at q
  rw [← assoc_bnd] at q
  refine ⟨F, g, ρ, rl, q.ev.imp fun k ρ1 c1 F1 H1 g1 p1 => ?_⟩
  cases k with
  | true => exact ⟨F1, g1, ρ1, p1.rl, Cs.rebase c1 (.of p1)⟩
  | false => exact ⟨F1, g1, ρ1, p1.rl, Cs.rebase c1 (.of p1)⟩
/-- what leaves a def -/
theorem ret_rd {e : Ex} (h : rS K Z np A (exec np (.ret e)) D σ H) : tRet (rE K Z (ev e)) D σ H := by
  obtain ⟨F, g, ρ, rl, q⟩ := h
  unfold exec at q
  refine ⟨F, g, ρ, rl, q.ev.imp fun t ρ1 c1 x F1 H1 g1 p1 m1 => ?_⟩
  have val : ∀ {w : W} {F2 : Hp} {g2 : Gh} {ρ2 : Rho}, Ps K σ F H g ρ F2 H1 g2 ρ2 → Tm K σ H F2 H1 g2 ρ2 (.val w) x → Cs K Z np A σ F H g ρ D (ret (.rt w)) ρ2 → D.rt x H1 := fun {w F2 g2 ρ2} p2 tm c2 => by
    obtain ⟨m, hm, hO⟩ := tm
    exact c2.ret (.of p2) x ⟨m, hO, fun a f ea => by
      obtain ⟨k1, k2, k3, k4⟩ := hm a f ea
      exact ⟨k1, k2, k3, .inl k4⟩⟩
  have shd : ∀ {i : Nat} {f : Option String}, t = .pl i f → Cs K Z np A σ F H g ρ D (bnd (sh (.pl i f)) fun w => ret (.rt w)) ρ1 → D.rt x H1 := fun {i f} et c2 => by
    subst et
    obtain ⟨r, ρ2, e2, z⟩ := c2.ev
    obtain ⟨w, F2, g2, rfl, p2, hs⟩ := sh_ok p1 m1 e2
    exact val p2 (Tm.of hs) z
  cases t with
  | val w => exact val p1 m1 c1
  | pl i f =>
    cases f with
    | some f => exact shd rfl (by obtain ⟨r, ρ', e1, z⟩ := c1; exact ⟨r, ρ', e1, z⟩)
    | none =>
      obtain ⟨r, ρ', e1, z⟩ := c1
      have e1' : (match slot ρ1 i with
        | none => none
        | some w => if np ≤ i then some (Out.ok (Flow.rt w), ρ1.set i none) else (bnd (sh (.pl i none)) fun w => ret (Flow.rt w)) ρ1) = some (r, ρ') := e1
      cases s : slot ρ1 i with
      | none => rw [s] at e1'; cases e1'
      | some w =>
        rw [s] at e1'
        dsimp only at e1'
        split at e1'
        · rename_i hnp
          cases e1'
          have hx : σ[i]? = some (some x) := m1
          obtain ⟨v, hv, hO⟩ := p1.rl.sl i w s
          rw [hx] at hv
          cases hv
          -- the slot's marks go with the value
          let m : Mk := fun b => match g1 b with
            | some (j, f) => if j = i then some f else none
            | none => none
          have hm : ∀ b f, m b = some f ↔ g1 b = some (i, f) := fun b f => by
            show (match g1 b with
              | some (j, f) => if j = i then some f else none
              | none => none) = some f ↔ _
            cases y : g1 b with
            | none => simp
            | some q =>
              obtain ⟨j, f'⟩ := q
              by_cases cj : j = i
              · subst cj; simp
              · simp [cj]
          let g2 : Gh := fun b => match g1 b with
            | some (j, f) => if j = i then none else some (j, f)
            | none => none
          have hg2 : ∀ b p, g2 b = some p → g1 b = some p ∧ p.1 ≠ i := fun b p hp => by
            have hp' : (match g1 b with
              | some (j, f) => if j = i then none else some (j, f)
              | none => none) = some p := hp
            cases y : g1 b with
            | none => rw [y] at hp'; cases hp'
            | some q =>
              obtain ⟨j, f'⟩ := q
              rw [y] at hp'
              dsimp only at hp'
              split at hp'
              · cases hp'
              · rename_i cj; cases hp'; exact ⟨rfl, cj⟩
          have hilt : i < ρ1.length := slot_lt s
          have ne_of : ∀ {b j f}, g1 b = some (j, f) → j ≠ i → g2 b = some (j, f) := fun {b j f} e ne => by
            show (match g1 b with
              | some (j, f) => if j = i then none else some (j, f)
              | none => none) = some (j, f)
            rw [e]; exact if_neg ne
          have pn : Pn K (fA np A (.rt w)) σ F H g ρ σ F1 H1 g2 (ρ1.set i none) := by
            refine ⟨⟨p1.le.fx, p1.le.fr, p1.le.dom, fun b p hp => p1.le.gn b p (hg2 b p hp).1, p1.le.fn⟩, ⟨p1.rl.sub, fun b p hp => p1.rl.gF b p (hg2 b p hp).1, fun b p hp => p1.rl.gH b p (hg2 b p hp).1, by rw [List.length_set]; exact p1.rl.len, fun j y ey => ?_⟩, fun j f y hj ey ly => ?_, fun _ _ => rfl, rfl⟩
            · rw [slot_set hilt] at ey
              split at ey
              · cases ey
              · rename_i ne
                obtain ⟨v, hv, hO⟩ := p1.rl.sl j y ey
                exact ⟨v, hv, hO.mono (Sub.refl _) (fun _ _ _ => rfl) fun f a ha => ne_of ha ne⟩
            · have hj' : ¬ (j ∈ A ∨ np ≤ j) := hj
              have ne : j ≠ i := fun z => hj' (.inr (z ▸ hnp))
              obtain ⟨⟨w', e', l'⟩, hv⟩ := p1.ls j f y trivial ey ly
              refine ⟨⟨w', ?_, l'⟩, hv⟩
              rw [getP_of (ρ' := ρ1) (by rw [slot_set hilt, if_neg ne])]; exact e'
          refine z σ F1 H1 g2 pn x ⟨m, ?_, fun a f ea => ?_⟩
          · exact hO.mono (Sub.refl _) (fun _ _ _ => rfl) fun f a ha => (hm a f).mpr ha
          · have hga := (hm a f).mp ea
            refine ⟨p1.rl.gF a _ hga, ?_, p1.rl.gH a _ hga, ?_⟩
            · cases y : g2 a with
              | none => rfl
              | some q =>
                obtain ⟨k1, k2⟩ := hg2 a q y
                rw [hga] at k1; cases k1
                exact absurd rfl k2
            · rcases p1.le.gn a _ hga with k | k
              · exact .inr ⟨i, f, hnp, k⟩
              · exact .inl k
        · exact shd rfl ⟨r, ρ', e1', z⟩
end
end Rf
/-! loops -/
namespace Rf
open PySem PySem.Spec PyProof.Rows L2
def loopF (k : M Flow) : Flow → M Flow
  | .nx => k
  | .bk => ret .nx
  | .rt w => ret (.rt w)
section
variable {K : PySem.W.Frag} {Z : WX} {np : Nat} {A B : List Nat} {σ σ1 σ2 : L2.St} {F H F1 H1 F2 H2 : Hp} {g g1 g2 : Gh} {ρ ρ1 ρ2 : Rho} {D : Ends}
theorem loop_cs {m k : M Flow} {N : L2.St → Hp → Prop} (c : Cs K Z np A σ F H g ρ D (bnd m (loopF k)) ρ)
    (hN : ∀ σ' F' H' g' ρ', Pn K (sA A) σ F H g ρ σ' F' H' g' ρ' → Cs K Z np A σ' F' H' g' ρ' D k ρ' → N σ' H') : Cs K Z np A σ F H g ρ { D with nx := N, ct := N, bk := D.nx } m ρ := by
  obtain ⟨r, ρ', e, z⟩ := c
  unfold bnd at e
  cases x : m ρ with
  | none => rw [x] at e; cases e
  | some q =>
    obtain ⟨s, ρ1⟩ := q
    rw [x] at e
    refine ⟨s, ρ1, x, ?_⟩
    cases s with
    | ex w => cases e; exact z
    | ok fl =>
      cases fl with
      | nx =>
        intro σ' F' H' g' p
        have c2 : Cs K Z np A σ F H g ρ D k ρ1 := ⟨r, ρ', e, z⟩
        exact hN σ' F' H' g' ρ1 p (c2.rebase p)
      | bk => cases e; exact z
      | rt w => cases e; exact z
theorem whN_succ (c : M Bool) (b : M Flow) (n : Nat) : whN c b (n + 1) = bnd c fun k => if k then bnd b (loopF (whN c b n)) else ret .nx := by
  have e : (fun f => match f with | Flow.nx => whN c b n | .bk => ret .nx | .rt w => ret (.rt w)) = loopF (whN c b n) := by funext f; cases f <;> rfl
  rw [← e]
  rfl
theorem whl_rd {c : Ex} {b : List St} (h : rS K Z np A (exec np (.whl c b)) D σ H) : tWhile (rT K Z (ev c)) (rS K Z np A (execs np b)) D σ H := by
  obtain ⟨F, g, ρ, rl, q⟩ := h
  unfold exec at q
  have run : ∃ n, Cs K Z np A σ F H g ρ D (whN (bnd (ev c) tru) (execs np b) n) ρ := by
    obtain ⟨r, ρ', e, z⟩ := q
    unfold whl at e
    split at e
    · rename_i hh
      exact ⟨_, r, ρ', e, z⟩
    · cases e
  obtain ⟨n, cn⟩ := run
  refine ⟨fun m σ1 H1 => ∃ F1 g1 ρ1, Rl K F1 H1 g1 ρ1 σ1 ∧ Cs K Z np A σ1 F1 H1 g1 ρ1 D (whN (bnd (ev c) tru) (execs np b) m) ρ1, ⟨n, F, g, ρ, rl, cn⟩, ?_⟩
  rintro m σ1 H1 ⟨F1, g1, ρ1, rl1, c1⟩
  cases m with
  | zero => exact c1.stuck.elim
  | succ m =>
    rw [whN_succ] at c1
    refine ⟨F1, g1, ρ1, rl1, c1.ev.imp fun k ρ2 c2 F2 H2 g2 p2 => ?_⟩
    cases k with
    | false =>
      rw [if_neg (by decide)]
      exact Cs.ret (fl := .nx) c2 (.of p2)
    | true =>
      rw [if_pos rfl]
      have c3 : Cs K Z np A σ1 F1 H1 g1 ρ1 D (bnd (execs np b) (loopF (whN (bnd (ev c) tru) (execs np b) m))) ρ2 := c2
      refine ⟨_, fun σ' H' hh => ⟨m, Nat.lt_succ_self m, hh⟩, F2, g2, ρ2, p2.rl, loop_cs (c3.rebase (.of p2)) fun σ' F' H' g' ρ' p' c' => ⟨F', g', ρ', p'.rl, c'⟩⟩
theorem forL_cons (tg : Tg) (s : Option (Nat × W)) (b : M Flow) (x : W) (xs : List W) (ρ : Rho) (h : still ρ s) : forL tg s b (x :: xs) ρ = bnd (stTg tg x) (fun _ => bnd b (loopF (forL tg s b xs))) ρ := by
  have e : (fun f => match f with | Flow.nx => forL tg s b xs | .bk => ret .nx | .rt w => ret (.rt w)) = loopF (forL tg s b xs) := by funext f; cases f <;> rfl
  rw [← e]
  rw [forL]
  dsimp only
  rw [if_pos h]
  try rfl
theorem forL_still {tg : Tg} {s : Option (Nat × W)} {b : M Flow} {xs : List W} {ρ : Rho} {r : Out Flow × Rho} (h : forL tg s b xs ρ = some r) : still ρ s := by
  cases xs with
  | nil =>
    unfold forL at h
    split at h
    · assumption
    · cases h
  | cons x xs =>
    unfold forL at h
    split at h
    · assumption
    · cases h
theorem for_rd {tg : Tg} {it : It} {b : List St} (hA : ∀ j ∈ tgIx tg ++ stsIx b, j ∈ A) (h : rS K Z np A (exec np (.for_ tg it b)) D σ H) : tFor (rI K Z (src it)) (rG K tg) (rS K Z np (tgIx tg ++ stsIx b) (execs np b)) D σ H := by
  obtain ⟨F, g, ρ, rl, c⟩ := h
  unfold exec at c
  refine ⟨F, g, ρ, rl, c.ev.imp fun q ρ1 c1 J F1 H1 g1 p1 so => ?_⟩
  by_cases hoff : srcOff q.at_ (tgIx tg ++ stsIx b) = true
  case neg => rw [if_neg hoff] at c1; exact c1.stuck.elim
  rw [if_pos hoff] at c1
  have hsrc : ∀ j w, q.at_ = some (j, w) → j ∉ tgIx tg ++ stsIx b := fun j w e => by
    rw [e] at hoff
    simpa [srcOff] using hoff
  have c2 := (c1.rebase (.of p1)).imp hA
  refine ⟨fun i m σ' H' => m = q.its.length - i ∧ i ≤ q.its.length ∧ ∃ F' g' ρ', Pn K (sA (tgIx tg ++ stsIx b)) σ F1 H1 g1 ρ1 σ' F' H' g' ρ' ∧ Cs K Z np (tgIx tg ++ stsIx b) σ' F' H' g' ρ' D (forL tg q.at_ (execs np b) (q.its.drop i)) ρ',
    ⟨_, rfl, Nat.zero_le _, F1, g1, ρ1, .refl p1.rl, by rw [List.drop_zero]; exact c2⟩, ?_⟩
  rintro i m σ' H' ⟨rfl, hi, F', g', ρ', pn, c3⟩
  have hs : still ρ' q.at_ := by
    obtain ⟨r, ρ3, e, _⟩ := c3
    exact forL_still e
  obtain ⟨k1, k2⟩ := so i F' H' g' ρ' σ' pn.le pn.rl (fun j w ea => pn.eq j (hsrc j w ea)) hs
  by_cases hlt : i < q.its.length
  case neg =>
    have hi' : i = q.its.length := by omega
    subst hi'
    refine .inl ⟨k2 (Nat.le_refl _), ?_⟩
    rw [List.drop_length] at c3
    have c4 : Cs K Z np (tgIx tg ++ stsIx b) σ' F' H' g' ρ' D (ret .nx) ρ' := by
      obtain ⟨r, ρ3, e, z⟩ := c3
      unfold forL at e
      rw [if_pos hs] at e
      exact ⟨r, ρ3, e, z⟩
    exact Cs.ret (fl := .nx) c4 (.refl pn.rl)
  case pos =>
    have hx : q.its[i]? = some q.its[i] := List.getElem?_eq_getElem hlt
    obtain ⟨go, yl⟩ := k1 _ hx
    have hdrop : q.its.drop i = q.its[i] :: q.its.drop (i + 1) := List.drop_eq_getElem_cons hlt
    rw [hdrop] at c3
    refine .inr ⟨go, fun σ3 H3 => q.its.length - (i + 1) = q.its.length - (i + 1) ∧ i + 1 ≤ q.its.length ∧ ∃ F' g' ρ', Pn K (sA (tgIx tg ++ stsIx b)) σ F1 H1 g1 ρ1 σ3 F' H3 g' ρ' ∧ Cs K Z np (tgIx tg ++ stsIx b) σ3 F' H3 g' ρ' D (forL tg q.at_ (execs np b) (q.its.drop (i + 1))) ρ', fun σ3 H3 hh => ⟨_, by omega, hh⟩, fun v H2 y => ?_⟩
    obtain ⟨F2, mk, nw, hown⟩ := yl v H2 y
    obtain ⟨p2, tm2⟩ := (Ps.refl pn.rl).nw nw
    have hsh : Sh K F2 q.its[i] v := nw.ow.sh hown
    have c4 : Cs K Z np (tgIx tg ++ stsIx b) σ' F' H' g' ρ' D (bnd (stTg tg q.its[i]) (fun _ => bnd (execs np b) (loopF (forL tg q.at_ (execs np b) (q.its.drop (i + 1)))))) ρ' := by
      obtain ⟨r, ρ3, e, z⟩ := c3
      rw [forL_cons _ _ _ _ _ _ hs] at e
      exact ⟨r, ρ3, e, z⟩
    obtain ⟨r, ρ3, e, z⟩ := c4
    unfold bnd at e
    cases es : stTg tg q.its[i] ρ' with
    | none => rw [es] at e; cases e
    | some pr =>
      obtain ⟨ro, ρ2⟩ := pr
      rw [es] at e
      cases ro with
      | ex w =>
        exfalso
        have no : ∀ (tg : Tg) (w : W) (ρ ρ2 : Rho) (y : W), stTg tg w ρ = some (.ex y, ρ2) → False := by
          intro tg
          have both : (∀ (w : W) (ρ ρ2 : Rho) (y : W), stTg tg w ρ = some (.ex y, ρ2) → False) := by
            refine Tg.rec (motive_1 := fun tg => ∀ (w : W) (ρ ρ2 : Rho) (y : W), stTg tg w ρ = some (.ex y, ρ2) → False) (motive_2 := fun ts => ∀ (ws : List W) (ρ ρ2 : Rho) (y : W), stTgs ts ws ρ = some (.ex y, ρ2) → False) ?_ ?_ ?_ ?_ tg
            · intro i w ρ ρ2 y e
              have e' : (if i < ρ.length then some (Out.ok (), ρ.set i (some w)) else none) = some (.ex y, ρ2) := e
              split at e' <;> cases e'
            · intro ts ih w ρ ρ2 y e
              cases w with
              | tup xs => exact ih xs ρ ρ2 y e
              | _ => cases e
            · intro ws ρ ρ2 y e
              cases ws <;> cases e
            · intro t ts ih1 ih2 ws ρ ρ2 y e
              cases ws with
              | nil => cases e
              | cons x xs =>
                have e' : bnd (stTg t x) (fun _ => stTgs ts xs) ρ = some (.ex y, ρ2) := e
                unfold bnd at e'
                cases q : stTg t x ρ with
                | none => rw [q] at e'; cases e'
                | some p =>
                  obtain ⟨r, ρ1⟩ := p
                  rw [q] at e'
                  cases r with
                  | ex z => exact ih1 x ρ ρ1 z q
                  | ok u => exact ih2 xs ρ1 ρ2 y e'
          exact both
        exact no tg _ _ _ _ es
      | ok u =>
        refine ⟨F2, g', ρ', q.its[i], ρ2, p2.rl, hsh, es, fun σ2 rl2 hl2 eq2 => ?_⟩
        have pt : Pn K (sA (tgIx tg ++ stsIx b)) σ' F' H' g' ρ' σ2 F2 H2 g' ρ2 := by
          refine ⟨p2.le, rl2, fun j f w hj ew lw => ?_, fun j hj => (eq2 j fun hh => hj (List.mem_append_left _ hh)).1, hl2⟩
          obtain ⟨q1, q2⟩ := eq2 j fun hh => hj (List.mem_append_left _ hh)
          obtain ⟨⟨w', ew', lw'⟩, hv⟩ := p2.ls j f w trivial ew lw
          refine ⟨⟨w', ?_, lw'⟩, ?_⟩
          · rw [getP_of q2]; exact ew'
          · rw [← hv]; exact vp_of q1 f
        have c5 : Cs K Z np (tgIx tg ++ stsIx b) σ' F' H' g' ρ' D (bnd (execs np b) (loopF (forL tg q.at_ (execs np b) (q.its.drop (i + 1))))) ρ2 := ⟨r, ρ3, e, z⟩
        exact ⟨F2, g', ρ2, rl2, loop_cs (c5.rebase pt) fun σ3 F3 H3 g3 ρ3 p3 c6 => ⟨rfl, hlt, F3, g3, ρ3, (pn.trans pt).trans p3, c6⟩⟩
end
end Rf
/-! stores -/
namespace Rf
open PySem PySem.Spec PyProof.Rows L2
def Cu (K : PySem.W.Frag) (Z : WX) (A : List Nat) (σ : L2.St) (F H : Hp) (g : Gh) (ρ : Rho) (m : M Unit) (ρ1 : Rho) (Q : L2.St → Hp → Prop) : Prop :=
  ∃ r ρ', m ρ1 = some (r, ρ') ∧ match r with
    | .ok _ => ∀ σ' F' H' g', Pn K (sA A) σ F H g ρ σ' F' H' g' ρ' → Q σ' H'
    | .ex w => ∀ cls d σ' F' H' g', Pn K (sA A) σ F H g ρ σ' F' H' g' ρ' → Xv K F' w cls d → Z cls d σ' H'
def rA (K : PySem.W.Frag) (Z : WX) (A : List Nat) (ta : Ta) : TG := fun v σ H Q => ∃ F g ρ w, Rl K F H g ρ σ ∧ Sh K F w v ∧ Cu K Z A σ F H g ρ (stA ta w) ρ Q
def rAL (K : PySem.W.Frag) (Z : WX) (A : List Nat) (ts : List Ta) : TGs := fun vs σ H Q => ∃ F g ρ ws, Rl K F H g ρ σ ∧ ShL K F ws vs ∧ Cu K Z A σ F H g ρ (stAs ts ws) ρ Q
section
variable {K : PySem.W.Frag} {Z : WX} {np : Nat} {A B : List Nat} {σ σ1 σ2 : L2.St} {F H F1 H1 F2 H2 : Hp} {g g1 g2 : Gh} {ρ ρ1 ρ2 : Rho} {D : Ends} {Q : L2.St → Hp → Prop} {α : Type}
theorem Cu.of {m : M Unit} (c : Cs K Z np A σ F H g ρ D (bnd m fun _ => ret Flow.nx) ρ1) : Cu K Z A σ F H g ρ m ρ1 D.nx := by
  obtain ⟨r, ρ', e, z⟩ := c
  unfold bnd at e
  cases x : m ρ1 with
  | none => rw [x] at e; cases e
  | some q =>
    obtain ⟨s, ρ2⟩ := q
    rw [x] at e
    refine ⟨s, ρ2, x, ?_⟩
    cases s with
    | ex w => cases e; exact z
    | ok u => cases e; exact z
theorem Cu.rebase {m : M Unit} (c : Cu K Z A σ F H g ρ m ρ2 Q) (p : Pn K (sA A) σ F H g ρ σ1 F1 H1 g1 ρ1) : Cu K Z A σ1 F1 H1 g1 ρ1 m ρ2 Q := by
  obtain ⟨r, ρ', e, h⟩ := c
  refine ⟨r, ρ', e, ?_⟩
  cases r with
  | ok fl => exact fun σ' F' H' g' q => h σ' F' H' g' (p.trans q)
  | ex w => exact fun cls d σ' F' H' g' q x => h cls d σ' F' H' g' (p.trans q) x
theorem Cu.ev {m : M α} {k : α → M Unit} (c : Cu K Z A σ F H g ρ (Rf.bnd m k) ρ1 Q) : Ct K Z σ F H g ρ m ρ1 fun a ρ2 => Cu K Z A σ F H g ρ (k a) ρ2 Q := by
  obtain ⟨r, ρ', e, z⟩ := c
  unfold Rf.bnd at e
  cases x : m ρ1 with
  | none => rw [x] at e; cases e
  | some q =>
    rw [x] at e
    obtain ⟨s, ρ2⟩ := q
    cases s with
    | ok a => exact ⟨.ok a, ρ2, x, r, ρ', e, z⟩
    | ex w => cases e; exact ⟨.ex w, _, x, fun cls d F' H' g' p xv => z cls d σ F' H' g' (.of p) xv⟩
theorem Cu.rd {t : T} {k : W → M Unit} (c : Cu K Z A σ F H g ρ (Rf.bnd (Rf.rd t) k) ρ1 Q) : ∃ w, drf ρ1 t = some w ∧ Cu K Z A σ F H g ρ (k w) ρ1 Q := by
  obtain ⟨r, ρ', e, z⟩ := c
  unfold Rf.bnd Rf.rd at e
  cases x : drf ρ1 t with
  | none => rw [x] at e; cases e
  | some w => rw [x] at e; exact ⟨w, rfl, r, ρ', e, z⟩
theorem Cu.lft {o : Option α} {k : α → M Unit} (c : Cu K Z A σ F H g ρ (Rf.bnd (Rf.lft o) k) ρ1 Q) : ∃ w, o = some w ∧ Cu K Z A σ F H g ρ (k w) ρ1 Q := by
  obtain ⟨r, ρ', e, z⟩ := c
  unfold Rf.bnd Rf.lft at e
  cases x : o with
  | none => rw [x] at e; cases e
  | some w => rw [x] at e; exact ⟨w, rfl, r, ρ', e, z⟩
theorem nmA_rd {i : Nat} {v : V} (hA : i ∈ A) (h : rA K Z A (.nm i) v σ H Q) : gName i v σ H Q := by
  obtain ⟨F, g, ρ, w, rl, hs, r, ρ', e, z⟩ := h
  have e' : (if i < ρ.length then some (Out.ok (), ρ.set i (some w)) else none) = some (r, ρ') := e
  split at e'
  · rename_i hi
    cases e'
    obtain ⟨g3, pn⟩ := Pn.set (A := A) (Ps.refl rl) hi hA (Tm.of (σ := σ) (H0 := H) hs)
    exact z _ _ _ _ pn
  · cases e'
theorem wSet_inv {x y w z : W} (h : wSet x y w = some z) : (∃ xs i j, x = .lst true xs ∧ y = .int i ∧ ixN xs.length i = some j ∧ z = .lst true (xs.set j w)) ∨
    ∃ kvs k, x = .dic true kvs ∧ ((∃ i, k = .inl i ∧ y = .int i) ∨ ∃ s, k = .inr s ∧ y = .str s) ∧ kvs.length < 100000 ∧ z = .dic true (dput kvs k w) := by
  unfold wSet at h
  split at h
  · rename_i xs i
    obtain ⟨j, h1, h2⟩ := Option.map_eq_some_iff.mp h
    exact .inl ⟨xs, i, j, rfl, rfl, h1, h2.symm⟩
  · rename_i kvs i
    split at h
    · cases h; exact .inr ⟨kvs, _, rfl, .inl ⟨i, rfl, rfl⟩, by assumption, rfl⟩
    · cases h
  · rename_i kvs s
    split at h
    · cases h; exact .inr ⟨kvs, _, rfl, .inr ⟨s, rfl, rfl⟩, by assumption, rfl⟩
    · cases h
  · cases h
theorem shk_any {F : Hp} {k : Ky} : ∀ {kvs : List (Ky × W)} {vk : List (Key × V)}, ShK K F kvs vk → (kvs.any fun kv => decide (kv.1 = k)) = vk.any fun kv => decide (kv.1 = k)
  | _, _, .nil => rfl
  | _, _, .cons h l => by rw [List.any_cons, List.any_cons, shk_any l]
theorem shk_map {F : Hp} {k : Ky} {w : W} {v : V} (hw : Sh K F w v) : ∀ {kvs : List (Ky × W)} {vk : List (Key × V)}, ShK K F kvs vk → ShK K F (kvs.map fun kv => if kv.1 = k then (kv.1, w) else kv) (vk.map fun kv => if kv.1 = k then (kv.1, v) else kv)
  | _, _, .nil => .nil
  | _, _, .cons (k := g) h l => by
    rw [List.map_cons, List.map_cons]
    by_cases c : g = k
    · rw [if_pos c, if_pos c]; exact .cons hw (shk_map hw l)
    · rw [if_neg c, if_neg c]; exact .cons h (shk_map hw l)
theorem shk_snoc {F : Hp} {k : Ky} {w : W} {v : V} (hw : Sh K F w v) : ∀ {kvs : List (Ky × W)} {vk : List (Key × V)}, ShK K F kvs vk → ShK K F (kvs ++ [(k, w)]) (vk ++ [(k, v)])
  | _, _, .nil => .cons hw .nil
  | _, _, .cons h l => .cons h (shk_snoc hw l)
theorem shk_len {F : Hp} : ∀ {kvs : List (Ky × W)} {vk : List (Key × V)}, ShK K F kvs vk → vk.length = kvs.length
  | _, _, .nil => rfl
  | _, _, .cons h l => by rw [List.length_cons, List.length_cons, shk_len l]
theorem shk_put {F : Hp} {k : Ky} {w : W} {v : V} {kvs : List (Ky × W)} {vk : List (Key × V)} (hw : Sh K F w v) (h : ShK K F kvs vk) : ShK K F (dput kvs k w) (L2.putK vk k v) := by
  unfold dput L2.putK
  rw [shk_any h]
  split
  · exact shk_map hw h
  · exact shk_snoc hw h
/-- o[i] = v: a list's or a dict's -/
def rSetB : TSet := fun o i v H Q => rSetL o i v H Q ∨ ∃ a H', o = .ref a ∧ DPut H a i v H' ∧ Q H'
theorem set_both {X : Cx} (hu : X.A.units + 1 < cLine) : PSet X rSetB := by
  intro pins s σ H o i v ov iv u Q I ro ri rv h
  rcases h with h | ⟨a, H', eo, g, q⟩
  · exact set_list pins s σ H o i v ov iv u Q I ro ri rv h
  · subst eo
    cases (show ov = Value.ref a from ro)
    exact d_setItem hu I g ri rv fun s' I' => ⟨H', I', q⟩
theorem subA_rd {o ix : Ex} {v : V} (h : rA K Z A (.sub o ix) v σ H Q) : gSub (rE K Z (ev o)) (rE K Z (ev ix)) rSetB v σ H Q := by
  obtain ⟨F, g, ρ, w, rl, hs, c⟩ := h
  unfold stA at c
  refine ⟨F, g, ρ, rl, c.ev.imp fun t ρ1 c1 x F1 H1 g1 p1 m1 => ⟨F1, g1, ρ1, p1.rl, ((c1.ev).rebase p1).imp fun u ρ2 c2 y F2 H2 g2 p2 m2 => ?_⟩⟩
  obtain ⟨wx, ex, c3⟩ := c2.rd
  obtain ⟨wy, ey, c4⟩ := c3.rd
  obtain ⟨wz, ez, c5⟩ := c4.lft
  have p12 := p1.trans p2
  have m12 := m1.later p2
  rcases wSet_inv ez with ⟨xs, i, j, rfl, rfl, hj, rfl⟩ | ⟨kvs, k0, rfl, hk, hl, rfl⟩
  · cases t with
    | val wv =>
      obtain ⟨r, ρ', e, z⟩ := c5
      cases e
    | pl k f =>
      obtain ⟨r, ρ', e, z⟩ := c5
      cases e
      obtain ⟨a, vs, rfl, h1, h2⟩ := (m12.drf p2.rl ex).lst p2.rl.sub
      cases (m2.drf p2.rl ey).int
      refine .inl ⟨a, vs, i, j, rfl, rfl, h1, by rw [← h2.len]; exact hj, ?_⟩
      have m12' : Tm K σ H F2 H2 g2 ρ2 (.pl k f) (.ref a) := by
        cases f with
        | none => exact m12
        | some f => exact m12
      have pm := Ps.mut (w' := .lst true (xs.set j w)) (o := .lst (vs.set j v)) p12 ex rfl rfl m12' rfl (fun P hP => ⟨a, _, rfl, upd_same, hP, h2.set j (hs.sub p12.le.fx)⟩) rfl
      exact z _ _ _ _ (.of pm)
  · cases t with
    | val wv =>
      obtain ⟨r, ρ', e, z⟩ := c5
      cases e
    | pl k f =>
      obtain ⟨r, ρ', e, z⟩ := c5
      cases e
      obtain ⟨P0, a, vk, rfl, h1, hP0, h2⟩ := m12.drf p2.rl ex
      have ky : y = kV k0 := by
        rcases hk with ⟨i, rfl, rfl⟩ | ⟨s, rfl, rfl⟩
        · exact (m2.drf p2.rl ey).int
        · exact (m2.drf p2.rl ey).str
      subst ky
      have lz : vk.length < sizeLine := by
        rw [shk_len h2, sizeLine_eq]; omega
      refine .inr ⟨a, _, rfl, DPut.k h1 lz, ?_⟩
      have m12' : Tm K σ H F2 H2 g2 ρ2 (.pl k f) (.ref a) := by
        cases f with
        | none => exact m12
        | some f => exact m12
      have pm := Ps.mut (w' := .dic true (dput kvs k0 w)) (o := .dK (L2.putK vk k0 v)) p12 ex rfl rfl m12' rfl (fun P hP => ⟨a, _, rfl, upd_same, hP, shk_put (hs.sub p12.le.fx) h2⟩) rfl
      exact z _ _ _ _ (.of pm)
theorem asgSub_rd {o ix e : Ex} (h : rS K Z np A (exec np (.asg (.sub o ix) e)) D σ H) : tAsg (rE K Z (ev e)) (rA K Z A (.sub o ix)) D σ H := by
  obtain ⟨F, g, ρ, rl, c⟩ := h
  unfold exec at c
  refine ⟨F, g, ρ, rl, c.ev.imp fun t ρ1 c1 x F1 H1 g1 p1 m1 => ?_⟩
  obtain ⟨r, ρ2, e2, z⟩ := c1.ev
  obtain ⟨w, F2, g2, rfl, p2, hs⟩ := sh_ok p1 m1 e2
  have z' : Cs K Z np A σ F H g ρ D (bnd (stA (.sub o ix) w) fun _ => ret Flow.nx) ρ2 := z
  exact ⟨F2, g2, ρ2, w, p2.rl, hs, (Cu.of z').rebase (.of p2)⟩
theorem nilA_rd {vs : List V} (h : rAL K Z A [] vs σ H Q) : gNil vs σ H Q := by
  obtain ⟨F, g, ρ, ws, rl, hs, r, ρ', e, z⟩ := h
  unfold stAs at e
  cases hs with
  | nil => cases e; exact ⟨rfl, z _ _ _ _ (.refl rl)⟩
  | cons a b => cases e
theorem consA_rd {t : Ta} {ts : List Ta} {vs : List V} (h : rAL K Z A (t :: ts) vs σ H Q) : gCons (rA K Z A t) (rAL K Z A ts) vs σ H Q := by
  obtain ⟨F, g, ρ, ws, rl, hs, c⟩ := h
  cases hs with
  | nil =>
    obtain ⟨r, ρ', e, z⟩ := c
    unfold stAs at e
    cases e
  | cons a b =>
    rename_i w v ws vs
    unfold stAs at c
    refine ⟨v, vs, rfl, F, g, ρ, w, rl, a, ?_⟩
    obtain ⟨r, ρ', e, z⟩ := c
    unfold bnd at e
    cases x : stA t w ρ with
    | none => rw [x] at e; cases e
    | some q =>
      obtain ⟨s, ρ1⟩ := q
      rw [x] at e
      refine ⟨s, ρ1, x, ?_⟩
      cases s with
      | ex w => cases e; exact z
      | ok u =>
        intro σ' F' H' g' p
        have c2 : Cu K Z A σ F H g ρ (stAs ts ws) ρ1 Q := ⟨r, ρ', e, z⟩
        exact ⟨F', g', ρ1, ws, p.rl, b.sub p.le.fx, c2.rebase p⟩
/-- a, b, .. = a tuple -/
theorem mul_rd {ts : List Ta} {e : Ex} (h : rS K Z np A (exec np (.mul ts e)) D σ H) : tAsg (rE K Z (ev e)) (gTup K ts.length (rAL K Z A ts)) D σ H := by
  obtain ⟨F, g, ρ, rl, c⟩ := h
  unfold exec at c
  refine ⟨F, g, ρ, rl, c.ev.imp fun t ρ1 c1 x F1 H1 g1 p1 m1 => ?_⟩
  obtain ⟨r, ρ2, e2, z⟩ := c1.ev
  obtain ⟨w, F2, g2, rfl, p2, hs⟩ := sh_ok p1 m1 e2
  dsimp only at z
  split at z
  · rename_i ws
    split at z
    · rename_i hl
      have z' : Cs K Z np A σ F H g ρ D (bnd (stAs ts ws) fun _ => ret Flow.nx) ρ2 := z
      have cu := (Cu.of z').rebase (.of p2)
      cases hs with
      | tup k1 k2 =>
        rename_i a vs
        exact ⟨a, vs, rfl, SqT.sub p2.rl.sub k1, by rw [← k2.len]; exact hl, F2, g2, ρ2, ws, p2.rl, k2, cu⟩
    · exact z.stuck.elim
  · exact z.stuck.elim
end
end Rf
/-! o.f = v -/
namespace Rf
open PySem PySem.Spec PyProof.Rows L2
section
variable {K : PySem.W.Frag} {Z : WX} {np : Nat} {A : List Nat} {σ : L2.St} {F H F2 H2 : Hp} {g g2 : Gh} {ρ ρ2 : Rho} {D : Ends}
theorem fld_st (p : Ps K σ F H g ρ F2 H2 g2 ρ2) {i : Nat} {C f : String} {fs : List (String × W)} {a dx : Addr} {vf : List (Str × V)} {w : W} {y : V} (s : slot ρ2 i = some (.ins true C fs)) (hx : σ[i]? = some (some (.ref a))) (ha : H2 a = some (.ins (cad K C) dx vf))
    (tm : Tm K σ H F2 H2 g2 ρ2 (.val w) y) (ni : isIns w = false) (old : ((fs.lookup f).map isLD).getD false = false) : ∃ g3, Ps K σ F H g ρ F2 (upd H2 a (.ins (cad K C) dx (putF (nm f) y vf))) g3 (setP ρ2 i (some f) w) := by
  obtain ⟨m, hm, hO⟩ := tm
  obtain ⟨v, hv, hI⟩ := p.rl.sl i _ s
  rw [hx] at hv
  cases hv
  obtain ⟨a', dx', vf', e', h1, h2, h3, h4⟩ := hI
  cases e'
  rw [ha] at h1
  cases h1
  have hi : i < ρ2.length := slot_lt s
  have ga : g2 a = some (i, none) := h2
  let g3 : Gh := fun b => match m b with
    | some none => some (i, some f)
    | _ => g2 b
  have g3_of : ∀ {b q}, g2 b = some q → g3 b = some q := fun {b q} e => by
    show (match m b with | some none => some (i, some f) | _ => g2 b) = some q
    cases x : m b with
    | none => exact e
    | some o => exact absurd ((hm b o x).2.1) (by rw [e]; exact nofun)
  have g3_m : ∀ {b}, m b = some none → g3 b = some (i, some f) := fun {b} e => by
    show (match m b with | some none => some (i, some f) | _ => g2 b) = some (i, some f)
    rw [e]
  have of_g3 : ∀ {b q}, g3 b = some q → g2 b = some q ∨ m b = some none := fun {b q} e => by
    have e' : (match m b with | some none => some (i, some f) | _ => g2 b) = some q := e
    cases x : m b with
    | none => rw [x] at e'; exact .inl e'
    | some o => cases o with
      | none => exact .inr rfl
      | some o => rw [x] at e'; exact .inl e'
  have ma : ∀ {b o}, m b = some o → b ≠ a := fun {b o} e z => by
    have := (hm b o e).2.1
    rw [z, ga] at this; cases this
  have nF : F2 a = none := p.rl.gF a _ ga
  have field : OwF K F2 (upd H2 a (.ins (cad K C) dx (putF (nm f) y vf))) (fun f0 b => g3 b = some (i, f0)) f w y := by
    cases w with
    | lst o xs =>
      cases o with
      | true =>
        obtain ⟨b, vs, e, k1, k2, k3⟩ := hO
        exact ⟨b, vs, e, by rw [upd_ne (ma k2)]; exact k1, g3_m k2, k3⟩
      | false => exact OwF.of (w := .lst false xs) (hO.sh rfl)
    | dic o xs =>
      cases o with
      | true =>
        obtain ⟨b, vs, e, k1, k2, k3⟩ := hO
        exact ⟨b, vs, e, by rw [upd_ne (ma k2)]; exact k1, g3_m k2, k3⟩
      | false => exact OwF.of (w := .dic false xs) (hO.sh rfl)
    | ins o C fs => cases ni
    | non => exact OwF.of (hO.sh rfl)
    | bl _ => exact OwF.of (hO.sh rfl)
    | int _ => exact OwF.of (hO.sh rfl)
    | str _ => exact OwF.of (hO.sh rfl)
    | tup _ => exact OwF.of (hO.sh rfl)
    | exc _ _ => exact OwF.of (hO.sh rfl)
    | fn _ => exact OwF.of (hO.sh rfl)
    | scr _ => exact OwF.of (hO.sh rfl)
  have slotI : slot (setP ρ2 i (some f) w) i = some (.ins true C (putA f w fs)) := by
    rw [slot_setP hi, s]
  have slotN : ∀ {j}, j ≠ i → slot (setP ρ2 i (some f) w) j = slot ρ2 j := fun h => slot_setP_ne h
  refine ⟨g3, ⟨p.le.fx, ?_, ?_, ?_, ?_⟩, ⟨?_, ?_, ?_, ?_, ?_⟩, ?_⟩
  · intro b o eb n
    have e2 := p.le.fr b o eb n
    rw [upd_ne]; exact e2
    intro z; subst z
    rcases p.le.gn b _ ga with q | q
    · rw [n] at q; cases q
    · rw [q] at eb; cases eb
  · intro b hb
    by_cases c : b = a
    · subst c; rw [upd_same]; exact nofun
    · rw [upd_ne c]; exact p.le.dom b hb
  · intro b q e
    rcases of_g3 e with e | e
    · exact p.le.gn b q e
    · exact .inr (hm b _ e).2.2.2
  · exact p.le.fn
  · intro b u eb
    rw [upd_ne (ne_of_none eb nF)]; exact p.rl.sub b u eb
  · intro b q e
    rcases of_g3 e with e | e
    · exact p.rl.gF b q e
    · exact (hm b _ e).1
  · intro b q e
    by_cases c : b = a
    · subst c; rw [upd_same]; exact nofun
    · rw [upd_ne c]
      rcases of_g3 e with e | e
      · exact p.rl.gH b q e
      · exact (hm b _ e).2.2.1
  · rw [setP_len]; exact p.rl.len
  · intro j x ex
    by_cases c : j = i
    · subst c
      rw [slotI] at ex
      cases ex
      refine ⟨.ref a, hx, a, dx, putF (nm f) y vf, rfl, upd_same, g3_of ga, ?_, nodup_putA h4⟩
      refine h3.put h4 field fun f' w' v' ne h => h.mono (Sub.refl _) (fun b hb => upd_ne fun z => ?_) fun b hb => g3_of hb
      subst z
      have hb : g2 b = some (j, some f') := hb
      rw [ga] at hb; cases hb
    · rw [slotN c] at ex
      obtain ⟨v, hv, hQ⟩ := p.rl.sl j x ex
      refine ⟨v, hv, hQ.mono (Sub.refl _) (fun f' b hb => upd_ne fun z => ?_) fun f' b hb => g3_of hb⟩
      subst z
      have hb : g2 b = some (j, f') := hb
      rw [ga] at hb; cases hb; exact c rfl
  · refine p.ls.trans fun j f' x _ ex lx => ?_
    by_cases c : j = i
    · subst c
      have ex' : (slot ρ2 j).bind (fun w => getF w f') = some x := ex
      rw [s] at ex'
      have el : fs.lookup f' = some x := ex'
      have ne : f' ≠ f := fun z => by
        subst z
        rw [el] at old
        have : isLD x = false := old
        rw [lx] at this; cases this
      refine ⟨⟨x, ?_, lx⟩, ?_⟩
      · show (slot (setP ρ2 j (some f) w) j).bind (fun w => getF w f') = some x
        rw [slotI]
        show (putA f w fs).lookup f' = some x
        rw [lookup_putA, if_neg ne]; exact el
      · unfold VP
        rw [hx]
        simp only [upd_same, ha]
        rw [lookup_putF, if_neg fun z => ne (nm_inj z)]
    · refine ⟨⟨x, ?_, lx⟩, p.rl.vpAt ex fun b hb => upd_ne fun z => ?_⟩
      · rw [getP_of (slotN c)]; exact ex
      · subst z
        rw [ga] at hb; cases hb; exact c rfl
theorem OwFs.len {P : Option String → Addr → Prop} : ∀ {fs : List (String × W)} {vf : List (Str × V)}, OwFs K F H P fs vf → vf.length = fs.length
  | _, _, .nil => rfl
  | _, _, .cons _ l => congrArg (· + 1) (OwFs.len l)
theorem asgFld_rd {o e : Ex} {f : String} {Ks : List String} (hC : ∀ C ∈ Ks, Cls K (cad K C) ∧ NoAttr K (cad K C) (nm f)) (h : rS K Z np A (exec np (.asg (.fld o f Ks) e)) D σ H) : sFld K (rE K Z (ev o)) (rE K Z (ev e)) (nm f) D σ H := by
  obtain ⟨F, g, ρ, rl, c⟩ := h
  unfold exec at c
  refine ⟨F, g, ρ, rl, c.ev.imp fun t ρ1 c1 y F1 H1 g1 p1 m1 => ?_⟩
  obtain ⟨r, ρ2, e2, z⟩ := c1.ev
  obtain ⟨w, F2, g2, rfl, p2, tm2⟩ := mv_ok p1 m1 e2
  have c3 : Cs K Z np A σ F H g ρ D (bnd (stA (.fld o f Ks) w) fun _ => ret Flow.nx) ρ2 := z
  unfold stA at c3
  rw [assoc_bnd] at c3
  refine ⟨F2, g2, ρ2, p2.rl, (c3.ev.rebase p2).imp fun t ρ3 c4 x F3 H3 g3 p3 m3 => ?_⟩
  have p23 := p2.trans p3
  cases t with
  | val v =>
    obtain ⟨r, ρ', e4, _⟩ := c4
    cases e4
  | pl i fo => cases fo with
    | some fo =>
      obtain ⟨r, ρ', e4, _⟩ := c4
      cases e4
    | none =>
      have hx : σ[i]? = some (some x) := m3
      obtain ⟨r, ρ', e4, z4⟩ := c4
      unfold bnd at e4
      dsimp only at e4
      cases s : slot ρ3 i with
      | none => rw [s] at e4; cases e4
      | some q => cases q with
        | ins b C fs => cases b with
          | false => rw [s] at e4; cases e4
          | true =>
            rw [s] at e4
            dsimp only at e4
            by_cases c1 : (decide (C ∉ Ks) || isIns w || ((fs.lookup f).map isLD).getD false) = true
            · rw [if_pos c1] at e4; cases e4
            · rw [if_neg c1] at e4
              by_cases c2 : fs.length < 500
              · rw [if_pos c2] at e4
                cases e4
                have c1' : (decide (C ∉ Ks) || isIns w || ((fs.lookup f).map isLD).getD false) = false := by simpa using c1
                simp only [Bool.or_eq_false_iff, decide_eq_false_iff_not, Classical.not_not] at c1'
                obtain ⟨⟨hm, ni⟩, old⟩ := c1'
                obtain ⟨v, hv, hI⟩ := p3.rl.sl i _ s
                rw [hx] at hv
                cases hv
                obtain ⟨a, dx, vf, rfl, h1, h2, h3, h4⟩ := hI
                obtain ⟨g4, p4⟩ := fld_st p23 s hx h1 (tm2.later p3) ni old
                exact ⟨a, _, dx, vf, rfl, h1, (hC C hm).1, (hC C hm).2, by rw [h3.len]; omega, z4 _ _ _ _ (.of p4)⟩
              · rw [if_neg c2] at e4; cases e4
        | _ => rw [s] at e4; cases e4
end
end Rf
/-! raise -/
namespace Rf
open PySem PySem.Spec PyProof.Rows L2
section
variable {K : PySem.W.Frag} {Z : WX} {np : Nat} {A : List Nat} {σ : L2.St} {H : Hp} {D : Ends}
/-- raise C('..'), C a class without fields -/
theorem rse0_rd {C : String} (h : rS K Z np A (exec np (.rse C [])) D σ H) : Z (.ref (cad K C)) none σ H := by
  obtain ⟨F, g, ρ, rl, r, ρ', e, z⟩ := h
  have e' : some (Out.ex (W.exc C []), ρ) = some (r, ρ') := by
    unfold exec evF at e
    exact e
  cases e'
  exact z _ _ σ F H g (.refl rl) ⟨C, [], [], rfl, rfl, .inl ⟨rfl, rfl⟩, .nil⟩
end
end Rf
/-! try .. except C as n: the caught object stands in the frozen part while the suite runs -/
namespace Rf
open PySem PySem.Spec PyProof.Rows L2
theorem exO_okk {P : Program} {w : World} {H : Hp} {h : Heap} {a : Addr} {cls : Value} {d : Option Addr} {oe : Obj} {vs : Array Value} (e : h.get? a = some oe) (z : Zc cls d oe) (dd : oe.data = .fields vs) : ObjOk P w H h a (exO cls d a) := by
  refine ⟨⟨oe, vs, e, z.1, z.2, dd⟩, ⟨oe, e⟩, ?_⟩
  rintro h1 h2 ⟨o, us, q1, q2, q3, q4⟩ k
  exact ⟨o, us, k o q1, q2, q3, q4⟩
section
variable {X : Cx} {pins : List (Addr × Obj)} {σ : L2.St} {H : Hp} {s : Shared}
/-- into a suite, nothing pinned but what was -/
theorem inv_to_suite (I : Inv X pins σ H s) (a : Addr) : Inv (X.suite a (X.pn ++ pins)) [] σ H s where
  ok := I.ok.suite a (X.pn ++ pins)
  os := I.os
  bare := I.bare
  base := I.base
  loc := I.loc
  cell := I.cell
  free := I.free
  freeC := I.freeC
  pin := fun q hq => I.pin q (by simpa using hq)
  hok := I.hok
  len := I.len
theorem inv_of_suite {a : Addr} {pn : List (Addr × Obj)} (I : Inv (X.suite a (X.pn ++ pins)) pn σ H s) (ok : X.Ok) : Inv X pins σ H s where
  ok := ok
  os := I.os
  bare := I.bare
  base := I.base
  loc := I.loc
  cell := I.cell
  free := I.free
  freeC := I.freeC
  pin := fun q hq => I.pin q (List.mem_append_left _ hq)
  hok := I.hok
  len := I.len
/-- landed, and the exception tracked from now on -/
theorem inv_caught {B : Heap} {sI s' : Shared} {h4 : Heap} {env : Env} {a : Addr} {cls : Value} {d : Option Addr} (I : Inv X pins σ H sI) (hs : X.stack = X.env :: X.outer)
    (nb : ∀ b o, sI.heap.get? b = some o → b ∉ frs X.stack → B.get? b = some o) (up : sI.heap.UpToSlots h4)
    (fl : HandSPX.FlyingZ B (X.env :: X.outer) a (Zc cls d) h4) (na : H a = none) (os : s'.os = sI.os) (ag : AllBare s'.gens) : Inv X pins σ (upd H a (exO cls d a)) { s' with heap := h4 } := by
  obtain ⟨oe, us, g1, g2, g3⟩ := fl.there
  obtain ⟨stB, bN, ff, _⟩ := fl
  have notF : a ∉ frs X.stack := fun m => by
    rw [hs] at m
    obtain ⟨_, o2, q1, q2⟩ := ff.mem m
    rw [g1] at q1
    cases q1
    exact q2 _ g3
  have nI : sI.heap.get? a = none := by
    cases q : sI.heap.get? a with
    | none => rfl
    | some o =>
      have := nb a o q notF
      rw [bN] at this
      cases this
  obtain ⟨G, r1, r2⟩ := restrict h4 fun b => decide (b ≠ a)
  have Ga : G.get? a = none := r2 a (by simp)
  have Gb : ∀ b, b ≠ a → G.get? b = h4.get? b := fun b q => r1 b (by simpa using q)
  have ne1 : ∀ {b : Addr} {o : Obj}, sI.heap.get? b = some o → b ≠ a := fun {b o} q z => by rw [z, nI] at q; cases q
  have J := I.landed (s' := { s' with heap := G }) nb (fun b o q => by
      have nba : b ≠ a := fun z => by rw [z, bN] at q; cases q
      show G.get? b = some o
      rw [Gb b nba]
      exact stB b o q) (fun b o q hd => by
      obtain ⟨sl, y⟩ := up b o q hd
      exact ⟨sl, (Gb b (ne1 q)).trans y⟩) os ag
  exact J.laidN (t' := s'.toks) (fun b u q => by
    have nba : b ≠ a := fun z => by
      rw [z] at q
      have q' : G.get? a = some u := q
      rw [Ga] at q'
      cases q'
    exact (Gb b nba).symm.trans q) Ga na (exO_okk g1 g2 g3)
/-- what a caught exception is wished -/
def wCat (K : PySem.W.Frag) (c : Value) (n : Nat) (ts : TS) (Wout : WX) (D : Ends) : WX := fun cls d σ H =>
  ∃ b, PySem.W.exmOne K cls c = some b ∧ (b = true → ∀ a, H a = none → ts ⟨fun σ' H' => D.nx (σ'.set n none) H', D.rt, fun σ' H' => D.bk (σ'.set n none) H', fun σ' H' => D.ct (σ'.set n none) H'⟩ (σ.set n (some (.ref a))) (upd H a (exO cls d a))) ∧
    (b = false → Wout cls d σ H)
theorem ps_catch {x y : Str} {c : Value} {n : Nat} {body suite : List Stmt} {b0 : Stmt} {p1 p2 p3 : Pos} {tb : WX → TS} {ts : TS} {Wout : WX} (hs : X.stack = X.env :: X.outer) (hf : X.env.frame = some X.env.locals) (hN : X.N.Nodup) (hn : X.N[n]? = some y) (hl : X.env.kindOf y = some .local) (hc : Names X x c) (tk : Takes X Wout)
    (hb : ∀ (W : WX) (pn : List (Addr × Obj)) (xe : Value → Shared → Prop), Takes (X.tr pn xe) W → PassesOwn (model X.prog X.w) X.A X.env xe → PSs (X.tr pn xe) body (tb W))
    (hsu : ∀ (a : Addr) (pn : List (Addr × Obj)), PSs (X.suite a pn) (b0 :: suite) ts) :
    PS X (.Try body [.ExceptHandler (some (.Name x p1)) (some y) (b0 :: suite) p2] [] [] p3) (fun D σ H => tb (wCat X.K c n ts Wout D) D σ H) := by
  constructor
  intro pins s σ H D I h
  have okX := I.ok
  have frm : X.A.frames = some (X.env :: X.outer) := okX.frames.trans (congrArg some hs)
  have seen : Loc X.env.scope y := .inl hl
  refine wpAny_Try_except ?_
  refine wpAny_mono ((hb (wCat X.K c n ts Wout D) (X.pn ++ pins) (fun e t1 => wpAny (model X.prog X.w) X.A (noteFrame e X.env) (fun _ t2 => wpAny (model X.prog X.w) X.A (setFlight e none) (fun _ t3 =>
      wpAny (model X.prog X.w) X.A (handleBy e X.env [.ExceptHandler (some (.Name x p1)) (some y) (b0 :: suite) p2]) (SP X pins D) X.xe t3) X.xe t2) X.xe t1) ?_ PassesOwn.looking).run [] s σ H D (I.toTry _) h) ?_ fun _ _ z => z
  · rintro u s' ⟨a, B, sI, pI, σ1, H1, cls, d, rfl, JI, nb, up, sky, na, osI, ag, b, e1, yes, no⟩
    have J : Inv X pins σ1 H1 sI := JI.ofTry okX
    have sk : Sky B (X.env :: X.outer) a (Zc cls d) X.env.locals s'.heap := by rw [← hs]; exact sky
    show wpAny (model X.prog X.w) X.A (noteFrame (.ref a) X.env) _ _ _
    refine Sky.land Zc.steady frm hf sk fun h3 fl3 up3 => ?_
    have T3 : Inv X pins σ1 (upd H1 a (exO cls d a)) { s' with heap := h3 } := inv_caught (env := X.env) J hs nb (up.trans up3) fl3 na osI ag
    have S3 := inv_to_suite T3 a
    obtain ⟨oe, us, g1, g2, g3⟩ := fl3.there
    refine wpAny_handleBy_cons (codeAny_handlers_test ?_) (by intro q; cases q)
    have ty : PySem.W.Looks (model X.prog X.w) h3 (typeOf (.ref a)) cls := fun A Q E s k q => wpAny_typeOf_ref (k _ _ g1) (by rw [g2.1]; exact q)
    have mt := PySem.W.exm_one (M := model X.prog X.w) T3.kIn ty e1
    have nmd : ∀ {Q : Value → Shared → Prop} {E : Value → Shared → Prop}, Q c { s' with heap := h3 } → wpAny (model X.prog X.w) (X.A.mark (some (.ref a))) (eval (.Name x p1) X.env) Q E { s' with heap := h3 } := by
      intro Q E q
      obtain ⟨n1, n2, n3 | ⟨n3, n4, n5⟩⟩ := hc
      · exact ld_glob S3 n1 n3 q n2
      · exact ld_blt S3 n1 n3 n4 q n5 n2
    refine nmd (mt.here ?_)
    cases b
    · show wpAny _ X.A (handleBy (.ref a) X.env []) _ _ _
      refine wpAny_handleBy_nil ?_
      have fl3' := fl3
      obtain ⟨k1, k2, k3, oo, uu, T, oT, tt, f1, f2, f3, f4, f5⟩ := fl3'
      have J3 : Inv X pins σ1 H1 { s' with heap := h3 } := J.landed nb k1 (up.trans up3) osI ag
      unfold PySem.passOn
      refine wpAny_bind (wpAny_field f1 f3 f4 ?_)
      rw [if_neg (show ¬ ((Value.ref T == Value.none) = true) by simp)]
      have go : wpAny (model X.prog X.w) X.A (setFlight (.ref a) X.env.frame) (fun _ s4 => wpAny (model X.prog X.w) X.A (throw (.ref a) : Sem PySem.Flow) (SP X pins D) X.xe s4) X.xe { s' with heap := h3 } := by
        rw [hf]
        refine HandSPX.setFlight_upZ fl3 fun h4 hh4 up4 => wpAny_throw (tk _ _ ⟨a, B, sI, pins, σ1, H1, cls, d, rfl, J, nb, (up.trans up3).trans up4, .inr (.inr (by rw [hs]; exact hh4)), na, osI, ag, no rfl⟩)
      first
        | exact wpAny_bind (wpAny_pure (wpAny_bind go))
        | exact wpAny_bind go
    · refine codeAny_handlers_suite_as ?_
      refine HandSPX.lands_againZ fl3 fun h4 fl4 up4 => ?_
      have T4 : Inv X pins σ1 (upd H1 a (exO cls d a)) { s' with heap := h4 } := inv_caught (env := X.env) J hs nb ((up.trans up3).trans up4) fl4 na osI ag
      refine store_ok (X := X.suite a (X.pn ++ pins)) (v := .ref a) (inv_to_suite T4 a) hN hn seen rfl (fun s5 S5 => ?_) (.inr hl)
      refine wpAny_mono ((hsu a (X.pn ++ pins)).run [] s5 _ _ _ S5 (yes rfl a na)) ?_ fun _ _ z => z.elim
      intro f s6 r6
      have gone : ∀ {σ6 : L2.St} {H6 : Hp} {Q : Shared → Prop}, Inv (X.suite a (X.pn ++ pins)) [] σ6 H6 s6 → (∀ s7, Inv X pins (σ6.set n none) H6 s7 → Q s7) →
          wpAny (model X.prog X.w) X.A (do bindName X.env y .none; unbindBehindTheSuite X.env y p2) (fun _ s7 => Q s7) X.xe s6 := fun I6 q => gone_ok (inv_of_suite I6 okX) hN hn hl q
      cases f with
      | next => obtain ⟨σ6, H6, I6, q6⟩ := r6; exact gone I6 fun s7 I7 => ⟨_, _, I7, q6⟩
      | brk => obtain ⟨σ6, H6, I6, q6⟩ := r6; exact gone I6 fun s7 I7 => ⟨_, _, I7, q6⟩
      | cont => obtain ⟨σ6, H6, I6, q6⟩ := r6; exact gone I6 fun s7 I7 => ⟨_, _, I7, q6⟩
      | ret u => obtain ⟨v6, σ6, H6, I6, rv, q6⟩ := r6; exact gone I6 fun s7 I7 => ⟨_, _, _, I7, rv, q6⟩
  · intro f s1 r1
    cases f with
    | next => obtain ⟨σ1, H1, J, q⟩ := r1; exact wpAny_execs_nil ⟨σ1, H1, J.ofTry okX, q⟩
    | brk => obtain ⟨σ1, H1, J, q⟩ := r1; exact ⟨σ1, H1, J.ofTry okX, q⟩
    | cont => obtain ⟨σ1, H1, J, q⟩ := r1; exact ⟨σ1, H1, J.ofTry okX, q⟩
    | ret u => obtain ⟨v, σ1, H1, J, r, q⟩ := r1; exact ⟨v, σ1, H1, J.ofTry okX, r, q⟩
end
end Rf
/-! try: the readings -/
namespace Rf
open PySem PySem.Spec PyProof.Rows L2
section
variable {K : PySem.W.Frag} {Z : WX} {np : Nat} {A : List Nat} {σ σ1 : L2.St} {F H F1 H1 F2 H2 : Hp} {g g1 g2 : Gh} {ρ ρ1 ρ2 : Rho} {D : Ends} {P : Nat → Prop} {w : W} {v : V}
theorem Pn.unset (p : Pn K P σ F H g ρ σ1 F1 H1 g1 ρ1) {n : Nat} (hP : P n) : Pn K P σ F H g ρ (σ1.set n none) F1 H1 g1 (ρ1.set n none) where
  le := p.le
  rl := p.rl.unset
  ls := fun j f x hj ex lx => by
    obtain ⟨⟨w', e', l'⟩, hv⟩ := p.ls j f x hj ex lx
    have ne : j ≠ n := fun z => hj (z ▸ hP)
    have sl : slot (ρ1.set n none) j = slot ρ1 j := by
      unfold slot; rw [List.getElem?_set_ne (Ne.symm ne)]
    refine ⟨⟨w', (getP_of sl f).trans e', l'⟩, ?_⟩
    rw [← hv]
    exact vp_of (List.getElem?_set_ne (Ne.symm ne)) f
  eq := fun j hj => by
    have ne : n ≠ j := fun z => hj (z ▸ hP)
    rw [List.getElem?_set_ne ne]
    exact p.eq j hj
  len := by rw [List.length_set]; exact p.len
/-- a new frozen object of any kind that speaks of itself alone -/
theorem Nw.frz (s : Sub F H) {q : Addr} {o : HO} (hq : H q = none) (h : ∀ F', Sub F F' → F' q = some o → Sh K F' w v) : Nw K F H w v (upd F q o) (upd H q o) (fun _ => none) := by
  have nF : F q = none := by
    cases z : F q with
    | none => rfl
    | some o => rw [s _ _ z] at hq; cases hq
  refine ⟨sub_upd nF, fun b u e => ?_, fun b h => upd_ne (fun z => h (z ▸ hq)), fun b h => ?_, nofun, Ow.of (h _ (sub_upd nF) upd_same)⟩
  · by_cases c : b = q
    · rw [c, upd_same] at e
      rw [c, upd_same]; exact e
    · rw [upd_ne c] at e
      rw [upd_ne c]; exact s _ _ e
  · by_cases c : b = q
    · exact .inr (c ▸ hq)
    · rw [upd_ne c] at h; exact .inl h
/-- the exception, caught -/
theorem Xv.nw {cls : Value} {d : Option Addr} {a : Addr} (x : Xv K F w cls d) (s : Sub F H) (na : H a = none) : Nw K F H w (.ref a) (upd F a (exO cls d a)) (upd H a (exO cls d a)) (fun _ => none) := by
  obtain ⟨C, fs, vf, rfl, rfl, h1, h2⟩ := x
  refine Nw.frz s na fun F' s' e => .exc e ?_ (h2.sub s')
  rcases h1 with h1 | ⟨dd, h1, h3⟩
  · exact .inl h1
  · exact .inr ⟨dd, h1, s' _ _ h3⟩
theorem bnd_ex {α β : Type} {m : M α} {k : α → M β} {ρ ρ' : Rho} {w : W} (e : bnd m k ρ = some (.ex w, ρ')) : m ρ = some (.ex w, ρ') ∨ ∃ a ρ1, m ρ = some (.ok a, ρ1) ∧ k a ρ1 = some (.ex w, ρ') := by
  unfold bnd at e
  cases y : m ρ with
  | none => rw [y] at e; cases e
  | some q =>
    obtain ⟨r, ρ1⟩ := q
    rw [y] at e
    cases r with
    | ex x => cases e; exact .inl rfl
    | ok a => exact .inr ⟨a, ρ1, rfl, e⟩
theorem sh_nox {t : T} {ρ ρ' : Rho} {w : W} (e : sh t ρ = some (.ex w, ρ')) : False := by
  cases t with
  | val u =>
    have e' : (match frz u with | none => none | some w' => some (Out.ok w', ρ)) = some (.ex w, ρ') := e
    split at e' <;> cases e'
  | pl i f =>
    have z' : (match getP ρ i f with
      | none => none
      | some w => match own w with
        | false => some (Out.ok w, ρ)
        | true => match frz w with
          | none => none
          | some w' => some (.ok w', setP ρ i f w')) = some (.ex w, ρ') := e
    split at z'
    · cases z'
    · split at z'
      · cases z'
      · split at z' <;> cases z'
/-! what can raise nothing -/
mutual
def noxE : Ex → Bool
  | .var _ => true
  | .con _ => true
  | .bin _ a b => noxE a && noxE b
  | .neg a => noxE a
  | .nt a => noxE a
  | .and a b => noxE a && noxE b
  | .or a b => noxE a && noxE b
  | .cmp a _ bs => noxE a && noxEs bs
  | .ife c a b => noxE c && (noxE a && noxE b)
  | .tup es => noxEs es
  | .lst es => noxEs es
  | .ix a b => noxE a && noxE b
  | .bi _ es => noxEs es
  | .isi a _ => noxE a
  | .isx a _ _ => noxE a
  | .isxs a _ _ => noxE a
  | .fld o _ _ _ => noxE o
  | _ => false
def noxEs : List Ex → Bool
  | [] => true
  | e :: es => noxE e && noxEs es
end
mutual
def noxS : St → Bool
  | .asg (.nm _) e => noxE e
  | .ite c a b => noxE c && (noxSs a && noxSs b)
  | .pass => true
  | _ => false
def noxSs : List St → Bool
  | [] => true
  | s :: ss => noxS s && noxSs ss
end
def NX {α : Type} (m : M α) : Prop := ∀ ρ w ρ', m ρ ≠ some (.ex w, ρ')
theorem NX.bnd {α β : Type} {m : M α} {k : α → M β} (h : NX m) (g : ∀ a, NX (k a)) : NX (bnd m k) := fun ρ w ρ' e => by
  rcases bnd_ex e with e | ⟨a, ρ1, _, e⟩
  · exact h _ _ _ e
  · exact g a _ _ _ e
theorem NX.ret {α : Type} {a : α} : NX (ret a) := fun ρ w ρ' e => by cases e
theorem NX.stuck {α : Type} : NX (stuck : M α) := fun ρ w ρ' e => by cases e
theorem NX.lft {α : Type} {o : Option α} : NX (lft o) := fun ρ w ρ' e => by
  unfold Rf.lft at e
  split at e <;> cases e
theorem NX.rd {t : T} : NX (rd t) := fun ρ w ρ' e => by
  unfold Rf.rd at e
  split at e <;> cases e
theorem NX.sh {t : T} : NX (sh t) := fun ρ w ρ' e => sh_nox e
theorem NX.tru {t : T} : NX (tru t) := .bnd .rd fun _ => .lft
theorem NX.rds : ∀ {ts : List T}, NX (rds ts)
  | [] => .ret
  | _ :: _ => .bnd .rd fun _ => .bnd .rds fun _ => .ret
theorem NX.ite {α : Type} {c : Prop} [Decidable c] {m k : M α} (h : NX m) (g : NX k) : NX (if c then m else k) := by
  split
  · exact h
  · exact g
theorem nx_b {a b : Bool} (h : (a && b) = true) : a = true ∧ b = true := by rwa [Bool.and_eq_true] at h
mutual
theorem nox_e : ∀ {e : Ex}, noxE e = true → NX (ev e)
  | .var i, _ => fun ρ w ρ' e => by
    unfold ev at e
    split at e <;> cases e
  | .con w, _ => by unfold ev; exact .ret
  | .bin o a b, h => by
    unfold noxE at h
    unfold ev
    exact .bnd (nox_e (nx_b h).1) fun _ => .bnd (nox_e (nx_b h).2) fun _ => .bnd .rd fun _ => .bnd .rd fun _ => .bnd .lft fun _ => .ret
  | .neg a, h => by
    unfold noxE at h
    unfold ev
    exact .bnd (nox_e h) fun _ => .bnd .rd fun _ => .bnd .lft fun _ => .ret
  | .nt a, h => by
    unfold noxE at h
    unfold ev
    exact .bnd (nox_e h) fun _ => .bnd .tru fun _ => .ret
  | .and a b, h => by
    unfold noxE at h
    unfold ev
    exact .bnd (nox_e (nx_b h).1) fun _ => .bnd .tru fun _ => .ite (nox_e (nx_b h).2) (.bnd .sh fun _ => .ret)
  | .or a b, h => by
    unfold noxE at h
    unfold ev
    exact .bnd (nox_e (nx_b h).1) fun _ => .bnd .tru fun _ => .ite (.bnd .sh fun _ => .ret) (nox_e (nx_b h).2)
  | .cmp a os bs, h => by
    unfold noxE at h
    unfold ev
    exact .bnd (nox_e (nx_b h).1) fun s => nox_c (nx_b h).2
  | .ife c a b, h => by
    unfold noxE at h
    unfold ev
    exact .bnd (nox_e (nx_b h).1) fun _ => .bnd .tru fun _ => .ite (nox_e (nx_b (nx_b h).2).1) (nox_e (nx_b (nx_b h).2).2)
  | .tup es, h => by
    unfold noxE at h
    unfold ev
    exact .bnd (nox_es h) fun _ => .ret
  | .lst es, h => by
    unfold noxE at h
    unfold ev
    exact .bnd (nox_es h) fun _ => .ret
  | .ix a b, h => by
    unfold noxE at h
    unfold ev
    exact .bnd (nox_e (nx_b h).1) fun _ => .bnd (nox_e (nx_b h).2) fun _ => .bnd .rd fun _ => .bnd .rd fun _ => .bnd .lft fun _ => .ret
  | .bi f es, h => by
    unfold noxE at h
    unfold ev
    exact .bnd (nox_t h) fun _ => .bnd .rds fun _ => .bnd .lft fun _ => .ret
  | .isi a T, h => by
    unfold noxE at h
    unfold ev
    exact .bnd (nox_e h) fun _ => .bnd .rd fun _ => .bnd .lft fun _ => .ret
  | .isx a T Xs, h => by
    unfold noxE at h
    unfold ev
    exact .bnd (nox_e h) fun _ => .bnd .rd fun _ => .bnd .lft fun _ => .ret
  | .isxs a T Xs, h => by
    unfold noxE at h
    unfold ev
    exact .bnd (nox_e h) fun _ => .bnd .rd fun _ => .bnd .lft fun _ => .ret
  | .fld o f Cs Xs, h => by
    unfold noxE at h
    unfold ev
    refine .bnd (nox_e h) fun t => ?_
    split
    · intro ρ w ρ' e
      dsimp only at e
      split at e
      · split at e
        · split at e <;> cases e
        · cases e
      · cases e
    · exact .ite .lft .stuck
    · exact .stuck
  | .dct _ _, h => by cases h
  | .dc1 _ _, h => by cases h
  | .sl _ _ _, h => by cases h
  | .call _ _, h => by cases h
  | .mk _ _ _, h => by cases h
  | .mu _ _ _, h => by cases h
  | .rm _ _ _, h => by cases h
  | .mth _ _ _ _ _, h => by cases h
  | .lc _ _ _ _ _, h => by cases h
  | .dcs _ _, h => by cases h
  | .rev _, h => by cases h
  | .dget _ _, h => by cases h
  | .mnd _, h => by cases h
  | .mxd _, h => by cases h
  | .lrng _ _, h => by cases h
  | .callL _ _ _, h => by cases h
  | .tx0 _ _, h => by cases h
  | .tx1 _ _ _, h => by cases h
theorem nox_es : ∀ {es : List Ex}, noxEs es = true → NX (evs es)
  | [], _ => by unfold evs; exact .ret
  | e :: es, h => by
    unfold noxEs at h
    unfold evs
    exact .bnd (nox_e (nx_b h).1) fun _ => .bnd .sh fun _ => .bnd (nox_es (nx_b h).2) fun _ => .ret
theorem nox_t : ∀ {es : List Ex}, noxEs es = true → NX (evT es)
  | [], _ => by unfold evT; exact .ret
  | e :: es, h => by
    unfold noxEs at h
    unfold evT
    exact .bnd (nox_e (nx_b h).1) fun _ => .bnd (nox_t (nx_b h).2) fun _ => .ret
theorem nox_c : ∀ {bs : List Ex} {s : T} {os : List Cop}, noxEs bs = true → NX (evC s os bs)
  | [], s, os, _ => by
    unfold evC
    split
    all_goals first | exact .stuck | (rename_i heq; cases heq)
  | b :: bs, s, os, h => by
    unfold noxEs at h
    have hb := nox_e (nx_b h).1
    have hbs := fun (s : T) (os : List Cop) => nox_c (s := s) (os := os) (nx_b h).2
    unfold evC
    split
    · rename_i heq
      cases heq
      exact .bnd hb fun _ => .bnd .rd fun _ => .bnd .rd fun _ => .bnd .lft fun _ => .ret
    · rename_i heq
      cases heq
      exact .bnd hb fun t => .bnd .rd fun _ => .bnd .rd fun _ => .bnd .lft fun _ => .bnd .lft fun _ => .ite (hbs _ _) .ret
    · exact .stuck
end
theorem NX.stN {i : Nat} {w : W} : NX (stN i w) := fun ρ u ρ' e => by
  unfold Rf.stN at e
  split at e <;> cases e
theorem NX.mv {t : T} : NX (mv t) := by
  cases t with
  | val w => exact .ret
  | pl i f => exact fun ρ w ρ' e => sh_nox (show Rf.sh (.pl i f) ρ = _ from e)
mutual
theorem nox_s {np : Nat} : ∀ {s : St}, noxS s = true → NX (exec np s)
  | .asg (.nm i) e, h => by
    unfold noxS at h
    unfold exec
    exact .bnd (nox_e h) fun _ => .bnd .mv fun _ => .bnd .stN fun _ => .ret
  | .ite c a b, h => by
    unfold noxS at h
    unfold exec
    exact .bnd (nox_e (nx_b h).1) fun _ => .bnd .tru fun _ => .ite (nox_ss (nx_b (nx_b h).2).1) (nox_ss (nx_b (nx_b h).2).2)
  | .pass, _ => by unfold exec; exact .ret
  | .asg (.sub _ _) _, h => by cases h
  | .asg (.fld _ _ _) _, h => by cases h
  | .mul _ _, h => by cases h
  | .par _ _, h => by cases h
  | .expr _, h => by cases h
  | .ret _, h => by cases h
  | .whl _ _, h => by cases h
  | .for_ _ _ _, h => by cases h
  | .rse _ _, h => by cases h
  | .tr _ _ _ _ _, h => by cases h
  | .brk, h => by cases h
  | .parO _ _, h => by cases h
theorem nox_ss {np : Nat} : ∀ {ss : List St}, noxSs ss = true → NX (execs np ss)
  | [], _ => by unfold execs; exact .ret
  | s :: ss, h => by
    unfold noxSs at h
    unfold execs
    refine .bnd (nox_s (nx_b h).1) fun f => ?_
    split
    · exact nox_ss (nx_b h).2
    · exact .ret
end
theorem nox_asg {np i j : Nat} {ρ ρ' : Rho} {w : W} (e : execs np [St.asg (.nm j) (.var i)] ρ = some (.ex w, ρ')) : False := by
  unfold execs at e
  rcases bnd_ex e with e | ⟨f, ρ1, _, e⟩
  · unfold exec at e
    rcases bnd_ex e with e | ⟨t, ρ1, _, e⟩
    · unfold ev at e
      split at e <;> cases e
    · rcases bnd_ex e with e | ⟨u, ρ2, _, e⟩
      · cases t with
        | val u => cases e
        | pl i f => exact sh_nox (show sh (.pl i f) ρ1 = _ from e)
      · rcases bnd_ex e with e | ⟨_, ρ3, _, e⟩
        · unfold Rf.stN at e
          split at e <;> cases e
        · cases e
  · cases f with
    | nx => unfold execs at e; cases e
    | bk => cases e
    | rt w => cases e
theorem nox_ret {np : Nat} {ρ ρ' : Rho} {w u : W} (e : execs np [St.ret (.con w)] ρ = some (.ex u, ρ')) : False := by
  unfold execs exec ev rtT at e
  simp [bnd, Rf.ret] at e
theorem trN_rd {b s : List St} {C : String} {Xs : List String} {n : Nat} {cv : Value} (hX : ∀ D ∈ Xs, PySem.W.exmOne K (.ref (cad K D)) cv = some ((excUp D).contains C)) (hn : n ∈ A)
    (hse : ∀ ρ w ρ', execs np s ρ ≠ some (.ex w, ρ')) (h : rS K Z np A (exec np (.tr b C Xs (some n) s)) D σ H) : rS K (wCat K cv n (rS K Z0 np A (execs np s)) Z D) np A (execs np b) D σ H := by
  obtain ⟨F, g, ρ, rl, r, ρ', e, z⟩ := h
  refine ⟨F, g, ρ, rl, ?_⟩
  unfold exec at e
  cases y : execs np b ρ with
  | none => rw [y] at e; cases e
  | some q =>
    obtain ⟨o, ρ1⟩ := q
    rw [y] at e
    refine ⟨o, ρ1, y, ?_⟩
    cases o with
    | ok fl => cases e; exact z
    | ex w =>
      intro cls d σ1 F1 H1 g1 p x
      have x' := x
      obtain ⟨E, fs, vf, rfl, rfl, h1, h2⟩ := x'
      dsimp only at e
      by_cases c1 : E ∈ Xs
      · rw [if_pos c1] at e
        refine ⟨(excUp E).contains C, hX E c1, fun yes a na => ?_, fun no => ?_⟩
        · rw [if_pos yes] at e
          obtain ⟨p2, tm⟩ := (Ps.refl (g := g1) p.rl).nw (x.nw p.rl.sub na)
          -- the store
          unfold bnd Rf.stN at e
          by_cases hlt : n < ρ1.length
          · rw [if_pos hlt] at e
            dsimp only at e
            obtain ⟨g3, p3⟩ := Pn.set (A := A) p2 hlt hn tm
            have p03 := p.trans p3
            refine ⟨_, g3, _, p3.rl, ?_⟩
            cases ys : execs np s (ρ1.set n (some (.exc E fs))) with
            | none => rw [ys] at e; cases e
            | some q =>
              obtain ⟨o, ρ3⟩ := q
              rw [ys] at e
              cases o with
              | ex w => exact absurd ys (hse _ _ _)
              | ok fl =>
                cases e
                refine ⟨.ok fl, ρ3, ys, fun σ4 F4 H4 g4 p4 => ?_⟩
                have key := z (σ4.set n none) F4 H4 g4 (((p03.imp fun j => sA_fA (fl := fl)).trans p4).unset (sA_fA (fl := fl) hn))
                cases fl with
                | nx => exact key
                | bk => exact key
                | rt w => exact fun v hv => key v (hv.start p03.le)
          · rw [if_neg hlt] at e; cases e
        · rw [if_neg (by rw [no]; decide)] at e
          cases e
          exact z _ d σ1 F1 H1 g1 p x
      · rw [if_neg c1] at e; cases e
theorem tr0_rd {b s : List St} {C : String} {Xs : List String} {cv : Value} (hX : ∀ D ∈ Xs, PySem.W.exmOne K (.ref (cad K D)) cv = some ((excUp D).contains C))
    (hse : ∀ ρ w ρ', execs np s ρ ≠ some (.ex w, ρ')) (h : rS K Z np A (exec np (.tr b C Xs none s)) D σ H) : rS K (wOnly K cv (fun _ _ _ => rS K Z0 np A (execs np s)) Z D) np A (execs np b) D σ H := by
  obtain ⟨F, g, ρ, rl, r, ρ', e, z⟩ := h
  refine ⟨F, g, ρ, rl, ?_⟩
  unfold exec at e
  cases y : execs np b ρ with
  | none => rw [y] at e; cases e
  | some q =>
    obtain ⟨o, ρ1⟩ := q
    rw [y] at e
    refine ⟨o, ρ1, y, ?_⟩
    cases o with
    | ok fl => cases e; exact z
    | ex w =>
      intro cls d σ1 F1 H1 g1 p x
      have x' := x
      obtain ⟨E, fs, vf, rfl, rfl, h1, h2⟩ := x'
      dsimp only at e
      by_cases c1 : E ∈ Xs
      · rw [if_pos c1] at e
        refine ⟨(excUp E).contains C, hX E c1, fun yes a na => ?_, fun no => ?_⟩
        · rw [if_pos yes] at e
          refine ⟨F1, g1, ρ1, p.rl, r, ρ', e, ?_⟩
          cases r with
          | ex w => exact absurd e (hse _ _ _)
          | ok fl =>
            intro σ4 F4 H4 g4 p4
            have key := z σ4 F4 H4 g4 ((p.imp fun j => sA_fA (fl := fl)).trans p4)
            cases fl with
            | nx => exact key
            | bk => exact key
            | rt w => exact fun v hv => key v (hv.start p.le)
        · rw [if_neg (by rw [no]; decide)] at e
          cases e
          exact z _ d σ1 F1 H1 g1 p x
      · rw [if_neg c1] at e; cases e
end
end Rf
/-! exception classes with one field -/
namespace Rf
open PySem PySem.Spec PyProof.Rows L2
/-- an own class whose __init__ is ValueError's -/
structure VeI (K : PySem.W.Frag) (C0 : Addr) : Prop where
  ga : PySem.W.specialIn K (.ref C0) "__getattribute__" = some (some (.builtin "type.__getattribute__"))
  ty : PySem.W.typeIn K (.ref C0) = some (.type "type")
  rd : PySem.W.readsIn K C0 (.type "type") = true
  fd : PySem.W.findCls K (.ref C0) (.type "type") "__init__" = some (.val (.builtin "ValueError.__init__"))
theorem pe_vei {X : Cx} {x : Str} {C0 : Addr} {e : Expr} {es : List Expr} {ta : TA} {p1 p2 pos : Pos} (hg : Gl X x) (hm : X.mg x = some (.ref C0)) (hd : (x == ("__debug__" : Str)) = false) (c : VeI X.K C0) (ha : PA X (e :: es) ta)
    (hs : (e :: es).all notStar = true) (hl : (p2.endLine == pos.line) = true) (hn : (e :: es).length < 20) : PE X (.Call (.Attribute (.Name x p1) "__init__" p2) (e :: es) [] pos) (tVeI X.K ta) := by
  constructor
  intro pins s σ H Q I h
  have hs2 := hs
  rw [List.all_cons, Bool.and_eq_true] at hs2
  refine PySem.W.methodCall_KW (ld_glob I hg hm ?_ hd) (meth_tree rfl hs hl hn)
  obtain ⟨m, fr⟩ := I.fr
  refine PySem.W.method_of_cls fr I.ok.mod.kin c.ga (PySem.W.cls_val fr I.ok.mod.kin c.ty c.rd c.fd (by decide +kernel) ?_)
  refine PyProof.Rows.callWith_method1 (thn (ha.run pos pins _ σ H _ (I.tok _) h) ?_) (star_cons hs2.1) (star_none hs2.2)
  rintro us s1 ⟨vs, H1, J, rv, a, C, ws, rfl, hlen, T, ea, q⟩
  cases rv with
  | cons ra rw2 =>
    cases ra
    refine oinit_ok T J ea ?_ fun s' J' => ⟨.non, H1, J', rfl, q⟩
    rw [← Paired.length rw2, sizeLine_eq]; omega
/-- the body of such an __init__: base, field, self, parameter -/
def xiOf (sc : Scope) : List Stmt → Option (Str × Str × Str × Str)
  | [.Expr (.Call (.Attribute (.Name c _) m p2) [.Name s1 _, .Constant (.str _) _ _] [] p5) _, .Assign [.Attribute (.Name s2 _) f _] (.Name q _) _] =>
    if m = ("__init__" : Str) ∧ s1 = s2 ∧ (okNm c && okNm s1 && okNm q && isGlob (sc.names.lookup c) && isLocal (sc.names.lookup s1) && isLocal (sc.names.lookup q) && (p2.endLine == p5.line)) = true then some (c, f, s1, q) else none
  | _ => none
theorem okNm_two {x : Str} (h : okNm x = true) : (x == ("__debug__" : Str)) = false ∧ (x == ("__classdict__" : Str)) = false := ⟨(okNm_ne h).1, (okNm_ne h).2.1⟩
/-- it keeps its promise -/
theorem xi_ok {P : Program} {w : World} {K : PySem.W.Frag} {mg : Str → Option Value} {base : Heap} {qual : Str} {params : Arguments} {body : List Stmt} {scope : Scope} {dvs : List V} {kws : List (Str × V)} {fI : Addr} {fd : FuncData} {c fs s q : Str} {C f : String} {C0 : Addr} {k : Nat}
    (F : FunD K "__init__" qual params body scope dvs kws fI fd) (S : FnScope [s, q] [s, q] scope) (hb : xiOf scope body = some (c, fs, s, q)) (hf : fs = nm f) (hm : mg c = some (.ref C0)) (v : VeI K C0)
    (T : OexC K (cad K C)) (hn : PySem.W.findIn K (.ref (cad K C)) (nm f) = some none) : FnOk P w K mg base (L2.CX P w) (k + 1) fI fd [s, q] (spXi K C f) := by
  subst hf
  have len : ∀ vs H Q E, spXi K C f vs H Q E → vs.length = [s, q].length := fun vs H Q E ⟨a, y, e, _⟩ => by rw [e]; rfl
  refine F.ok S len fun cdv A outer st H vs Q E hr ⟨a, y, ev, e1, e2⟩ => ?_
  subst ev
  unfold xiOf at hb
  split at hb
  · rename_i c' p1 m p2 s1 p3 z j p4 p5 p6 s2 p7 f' p8 q' p9 p10
    split at hb
    · rename_i hc
      cases hb
      obtain ⟨rfl, rfl, hall⟩ := hc
      simp only [Bool.and_eq_true] at hall
      obtain ⟨⟨⟨⟨⟨⟨k1, k2⟩, k3⟩, k4⟩, k5⟩, k6⟩, k7⟩ := hall
      have gl : Gl (cxOf (L2.CX P w) P w K mg base [s, q] qual scope fI cdv A outer st H E) c := by
        show scope.names.lookup c = some .globalImplicit
        unfold isGlob at k4
        split at k4
        · assumption
        · cases k4
      have nd := S.nd
      have v0 : PE (cxOf (L2.CX P w) P w K mg base [s, q] qual scope fI cdv A outer st H E) (.Name s p3) (tVar 0) := pe_var rfl (vis_of k5) (okNm_two k2).1 (okNm_two k2).2
      have v0' : PE (cxOf (L2.CX P w) P w K mg base [s, q] qual scope fI cdv A outer st H E) (.Name s p7) (tVar 0) := pe_var rfl (vis_of k5) (okNm_two k2).1 (okNm_two k2).2
      have v1 : PE (cxOf (L2.CX P w) P w K mg base [s, q] qual scope fI cdv A outer st H E) (.Name q p9) (tVar 1) := pe_var rfl (vis_of k6) (okNm_two k3).1 (okNm_two k3).2
      refine ⟨_, pss_cons (ps_expr (pe_vei gl hm (okNm_two k1).1 v (pa_cons v0 (pa_cons pe_str pa_nil)) rfl k7 (by simp))) (pss_cons (ps_ost v0' v1) pss_nil), ?_⟩
      refine ⟨.ref a, rfl, ⟨a, cad K C, [.str z], rfl, by simp, T, e1, ?_⟩⟩
      refine ⟨y, rfl, .ref a, rfl, a, cad K C, rfl, T, hn, .inl ⟨e1, fun dx n ne => e2 dx n ne⟩⟩
    · cases hb
  · cases hb
section
variable {K : PySem.W.Frag} {Z : WX} {np : Nat} {A : List Nat} {σ : L2.St} {H : Hp} {D : Ends}
/-- raise C(e), C a class with one field -/
theorem rse1_rd {C f : String} {e : Ex} (h : rS K Z np A (exec np (.rse C [(f, e)])) D σ H) : tMkO (cad K C) (spXi K C f) [] (rAs K Z (evs [e])) σ H fun cls d H' => Z cls d σ H' := by
  obtain ⟨F, g, ρ, rl, c⟩ := h
  have eq : exec np (.rse C [(f, e)]) = bnd (evs [e]) fun ws => fun ρ => match ws with
      | [w] => some (.ex (.exc C [(f, w)]), ρ)
      | _ => none := by
    unfold exec evF evF evs evs
    simp only [assoc_bnd]
    funext ρ
    unfold bnd
    cases ev e ρ with
    | none => rfl
    | some q =>
      obtain ⟨o, ρ1⟩ := q
      cases o with
      | ex w => rfl
      | ok t =>
        dsimp only
        cases sh t ρ1 with
        | none => rfl
        | some q =>
          obtain ⟨o, ρ2⟩ := q
          cases o with
          | ex w => rfl
          | ok w => rfl
  rw [eq] at c
  refine ⟨F, g, ρ, rl, c.ev.imp fun ws ρ1 c1 vs F1 H1 g1 p1 hl => ?_⟩
  obtain ⟨r, ρ', e1, z⟩ := c1
  cases ws with
  | nil => cases e1
  | cons w ws => cases ws with
    | cons _ _ => cases e1
    | nil =>
      cases e1
      cases hl with
      | cons hw hn =>
        cases hn
        rename_i v
        refine ⟨by simp, fun a na => ⟨a, v, rfl, upd_same, fun dx n ne => ⟨rfl, dx, [(nm f, v)], upd_same, by rw [upd_ne ne, upd_same], ?_, ?_⟩⟩⟩
        · rw [upd_ne ne] at n; exact n
        · have n1 : H1 dx = none := by rw [upd_ne ne] at n; exact n
          have eh : upd (del (upd (upd (upd H1 a (exo a (cad K C) none)) dx (exd dx [(nm f, v)])) a (exo a (cad K C) (some dx))) a) dx (.xd [(nm f, v)]) = upd H1 dx (.xd [(nm f, v)]) := by
            funext b
            by_cases hb : b = dx
            · rw [hb, upd_same, upd_same]
            · rw [upd_ne hb, upd_ne hb]
              by_cases ha : b = a
              · rw [ha, del_same, na]
              · rw [del_ne ha, upd_ne ha, upd_ne hb, upd_ne ha]
          rw [eh]
          have nw : Nw K F1 H1 .non .non (upd F1 dx (.xd [(nm f, v)])) (upd H1 dx (.xd [(nm f, v)])) (fun _ => none) := Nw.frz p1.rl.sub n1 fun _ _ _ => .non
          obtain ⟨p2, _⟩ := p1.nw nw
          exact z _ _ σ _ _ _ (.of p2) ⟨C, [(f, w)], [(nm f, v)], rfl, rfl, .inr ⟨dx, rfl, upd_same⟩, .cons (hw.sub (sub_upd (by
            cases q : F1 dx with
            | none => rfl
            | some o => rw [p1.rl.sub _ _ q] at n1; cases n1))) .nil⟩
end
end Rf
/-! statements: from the model's syntax, and that they run so -/
namespace Rf
open PySem PySem.Spec PyProof.Rows L2
def nmIx (sc : Scope) (N : List Str) (x : Str) : Option Nat := if isStored (sc.names.lookup x) then ixOf x N 0 else none
def isFun (sc : Scope) : Bool := match sc.kind with | .function => true | _ => false
def isLoc (o : Option NameKind) : Bool := match o with | some .local => true | _ => false
/-- the stores of a, b = x, y by names alone -/
def swp2 (sc : Scope) (x y : Str) (px py : Pos) (a b : Expr) : Bool :=
  isFun sc && notStar a && notStar b && isLoc (sc.names.lookup x) && isLoc (sc.names.lookup y) && (py.line == px.line) && !(x == y) && !(foldedForSure 8 a && foldedForSure 8 b) && !(constantsAlone 8 a && constantsAlone 8 b)
def swp3 (sc : Scope) (x y z : Str) (px py pz : Pos) (a b c : Expr) : Bool :=
  isFun sc && notStar a && notStar b && notStar c && isLoc (sc.names.lookup x) && isLoc (sc.names.lookup y) && isLoc (sc.names.lookup z) && (py.line == px.line) && (pz.line == px.line) && !(x == y) && !(x == z) && !(y == z) &&
    !(foldedForSure 8 a && foldedForSure 8 b && foldedForSure 8 c) && !(constantsAlone 8 a && constantsAlone 8 b && constantsAlone 8 c)
/-- no such stores -/
def noSwp (ts vs : List Expr) : Bool := isFunFold ts vs
where isFunFold (ts vs : List Expr) : Bool := vs.all (fun e => notStar e) && vs.all (foldedForSure 8) && (vs.length == ts.length)
variable (tb : Tb) in
def trA (n : Nat) (sc : Scope) (N : List Str) : Expr → Option Ta
  | .Name x _ => (nmIx sc N x).map .nm
  | .Subscript o i _ => if isSlice i then none else match trE tb n sc N o, trE tb n sc N i with
    | some o, some i => some (.sub o i)
    | _, _ => none
  | _ => none
def isTupE : Expr → Bool
  | .Tuple _ _ _ => true
  | _ => false
/-- a tuple of constants: it is stored as a whole -/
def allFold : Expr → Bool
  | .Tuple vs _ _ => vs.all (foldedForSure 8)
  | _ => false
def isStrC : Expr → Bool
  | .Constant (.str _) _ _ => true
  | _ => false
/-- a, b = x, y where a or b is a cell: no stores by names alone -/
def notSw (sc : Scope) : List Expr → Expr → Bool
  | [.Name x _, .Name y _], .Tuple [_, _] _ _ => !(isLoc (sc.names.lookup x)) || !(isLoc (sc.names.lookup y))
  | _, _ => false
mutual
def trS (tb : Tb) : Nat → Scope → List Str → Stmt → Option St
  | 0, _, _, _ => none
  | n + 1, sc, N, st => match st with
    | .Assign [tg] e _ => match tg with
      | .Name x _ => match nmIx sc N x, trE tb n sc N e with
        | some i, some e => some (.asg (.nm i) e)
        | _, _ => none
      | .Subscript o i p => match trA tb n sc N (.Subscript o i p), trE tb n sc N e with
        | some (.sub o i), some e => some (.asg (.sub o i) e)
        | _, _ => none
      | .Attribute o f _ => match trE tb n sc N o, tb.fl f, trE tb n sc N e with
        | some o, some f, some e => some (.asg (.fld o f tb.cs) e)
        | _, _, _ => none
      | .Tuple ts _ _ => if tb.su then none else if isTupE e && !allFold e && !notSw sc ts e then (match ts, e with
          | [.Name x px, .Name y py], .Tuple [a, b] _ _ => if swp2 sc x y px py a b then (match ixOf x N 0, ixOf y N 0, trEs tb n sc N [a, b] with
            | some i, some j, some es => if i = j then none else some (match es with
              | [.mk C F xs, .mk C2 F2 ys] => .parO [i, j] [.mk C F xs, .mk C2 F2 ys]
              | es => .par [i, j] es)
            | _, _, _ => none) else none
          | [.Name x px, .Name y py, .Name z pz], .Tuple [a, b, c] _ _ => if swp3 sc x y z px py pz a b c then (match ixOf x N 0, ixOf y N 0, ixOf z N 0, trEs tb n sc N [a, b, c] with
            | some i, some j, some l, some es => if i = j ∨ i = l ∨ j = l then none else some (.par [i, j, l] es)
            | _, _, _, _ => none) else none
          | _, _ => none)
        else if ts.all notStar then (match ts.mapM (trA tb n sc N), trE tb n sc N e with
          | some ts, some e => some (.mul ts e)
          | _, _ => none) else none
      | _ => none
    | .Expr e _ => if isComp e then none else (trE tb n sc N e).map .expr
    | .Return e _ => match e with
      | none => some (.ret (.con .non))
      | some e => (trE tb n sc N e).map .ret
    | .If c a b _ => match trE tb n sc N c, trSs tb n sc N a, trSs tb n sc N b with
      | some c, some a, some b => some (.ite c a b)
      | _, _, _ => none
    | .While c b [] _ => if tb.su then none else match trE tb n sc N c, trSs tb n sc N b with
      | some c, some b => some (.whl c b)
      | _, _ => none
    | .For tg e b [] _ => if tb.su then none else match trTg sc N 5 tg, trI tb n sc N e tg, trSs tb n sc N b with
      | some tg, some it, some b => some (.for_ tg it b)
      | _, _, _ => none
    | .Raise e c _ => if tb.su then none else match e, c with
      | some (.Call (.Name x _) [e] [] _), none => if okNm x && isGlob (sc.names.lookup x) && notStar e then (match tb.gl x with
        | some (.exc C none) => if isStrC e then some (.rse C []) else none
        | some (.exc C (some f)) => (trE tb n sc N e).map fun e => .rse C [(f, e)]
        | _ => none) else none
      | _, _ => none
    | .Try body hs [] [] _ => if tb.su then none else match hs with
      | [.ExceptHandler (some (.Name x _)) o su _] => if okNm x && isGlob (sc.names.lookup x) then (match tb.xm x, trSs tb n sc N body with
        | some C, some b => (match o, su with
          | some y, su => if isLoc (sc.names.lookup y) && okNm y then (match ixOf y N 0, trSs { tb with su := true } n sc N su with
            | some i, some (s1 :: su') => if noxSs (s1 :: su') && !(stsIx (s1 :: su')).contains i then some (.tr b C tb.xs (some i) (s1 :: su')) else none
            | _, _ => none) else none
          | none, [.Return (some (.Constant c j p)) _] => (match trE tb n sc N (.Constant c j p) with
            | some (.con w) => some (.tr b C tb.xs none [.ret (.con w)])
            | _ => none)
          | _, _ => none)
        | _, _ => none) else none
      | _ => none
    | .Pass _ => some .pass
    | .Break _ => some .brk
    | _ => none
def trSs (tb : Tb) : Nat → Scope → List Str → List Stmt → Option (List St)
  | _, _, _, [] => some []
  | 0, _, _, _ => none
  | n + 1, sc, N, s :: ss => match trS tb n sc N s, trSs tb n sc N ss with
    | some s, some ss => some (s :: ss)
    | _, _ => none
end
theorem PS.mono {X : Cx} {st : Stmt} {t t' : TS} (h : PS X st t) (k : ∀ D σ H, t' D σ H → t D σ H) : PS X st t' := ⟨fun pins s σ H D I q => h.run pins s σ H D I (k D σ H q)⟩
theorem PSs.mono {X : Cx} {st : List Stmt} {t t' : TS} (h : PSs X st t) (k : ∀ D σ H, t' D σ H → t D σ H) : PSs X st t' := ⟨fun pins s σ H D I q => h.run pins s σ H D I (k D σ H q)⟩
/-- where a def's statements run -/
structure AtS (tb : Tb) (k : Nat) (sc : Scope) (N : List Str) (X : Cx) : Prop where
  at_ : At tb k sc N X
  own : tb.su = false → PassesOwn (model X.prog X.w) X.A X.env X.xe
  st : StOk X sc
  fn : isFun sc = true
  stk : X.stack = X.env :: X.outer
  frm : X.env.frame = some X.env.locals
structure TsOk (tb : Tb) (k n : Nat) : Prop where
  s : ∀ X Z sc N np A st st', AtS tb k sc N X → Takes X Z → trS tb n sc N st = some st' → (∀ j ∈ stIx st', j ∈ A) → PS X st (rS X.K Z np A (exec np st'))
  ss : ∀ X Z sc N np A st st', AtS tb k sc N X → Takes X Z → trSs tb n sc N st = some st' → (∀ j ∈ stsIx st', j ∈ A) → PSs X st (rS X.K Z np A (execs np st'))
theorem sw_no {e : Expr} {t : Option Expr} {l : Nat} {env : Env} (h : isComp e = false) : swapsWith e t l env = pure false := by
  cases e <;> first | rfl | cases h
theorem sw_nn {e t : Expr} {l : Nat} {env : Env} (h : ∀ x p, t ≠ .Name x p) : swapsWith e (some t) l env = pure false := by
  cases e <;> first | rfl | (cases t <;> first | rfl | exact absurd rfl (h _ _))
theorem ss_no {e t : Expr} {env : Env} (h : isTupE e = false) : swappedStores [t] e env = pure none := by
  cases e <;> first | (cases t <;> rfl) | cases h
theorem ss_fold {ts : List Expr} {e : Expr} {k : Nat} {p : Pos} {env : Env} (h : allFold e = true) : swappedStores [.Tuple ts k p] e env = pure none := by
  cases e with
  | Tuple vs k2 p2 =>
    have h' : vs.all (foldedForSure 8) = true := h
    unfold swappedStores
    simp only [h', if_true]
    split
    · rfl
    · split
      · rfl
      · split
        · rfl
        · rfl
  | _ => cases h
theorem ss_nt {e t : Expr} {env : Env} (h : ∀ es k p, t ≠ .Tuple es k p) (h2 : ∀ es p, t ≠ .List es p) : swappedStores [t] e env = pure none := by
  cases t <;> first | exact absurd rfl (h _ _ _) | exact absurd rfl (h2 _ _) | (cases e <;> rfl)
section
variable {tb : Tb} {k n np : Nat} {X : Cx} {Z : WX} {sc : Scope} {N : List Str} {A : List Nat}
theorem nmIx_of {x : Str} {i : Nat} (h : nmIx sc N x = some i) : isStored (sc.names.lookup x) = true ∧ N[i]? = some x := by
  unfold nmIx at h
  split at h
  · rename_i c; exact ⟨c, ixOf_at h⟩
  · cases h
theorem fun_kind (h : isFun sc = true) : sc.kind = .function := by
  unfold isFun at h
  split at h
  · assumption
  · cases h
theorem loc_of {o : Option NameKind} (h : isLoc o = true) : o = some .local := by
  unfold isLoc at h
  split at h
  · rfl
  · cases h
theorem bk_of {env : Env} (h : env.scope.kind = .function) : env.blockKind = .function := by
  unfold Env.blockKind; rw [h]; rfl
theorem star_any {es : List Expr} (h : es.all notStar = true) : (es.any fun | .Starred .. => true | _ => false) = false := by
  induction es with
  | nil => rfl
  | cons e es ih =>
    rw [List.all_cons, Bool.and_eq_true] at h
    rw [List.any_cons, ih h.2, Bool.or_false]
    have := h.1
    cases e <;> first | rfl | cases this
def starB : Expr → Bool
  | .Starred _ _ => true
  | _ => false
theorem star_eq : ∀ {e : Expr}, notStar e = true → (match (generalizing := false) e with | .Starred _ _ => true | _ => false) = false := by
  intro e h
  cases e <;> first | rfl | cases h
theorem swp2_of {x y : Str} {px py pt pt2 : Pos} {a b : Expr} {k1 k2 : Nat} {env : Env} (he : env.scope = sc) (h : swp2 sc x y px py a b = true) : swappedStores [.Tuple [.Name x px, .Name y py] k1 pt] (.Tuple [a, b] k2 pt2) env = pure (some [x, y]) := by
  unfold swp2 at h
  simp only [Bool.and_eq_true, Bool.not_eq_true'] at h
  obtain ⟨⟨⟨⟨⟨⟨⟨⟨h1, h2⟩, h3⟩, h4⟩, h5⟩, h6⟩, h7⟩, h8⟩, h9⟩ := h
  have hk : env.blockKind = .function := bk_of (by rw [he]; exact fun_kind h1)
  have kx : env.kindOf x = some .local := by show env.scope.names.lookup x = _; rw [he]; exact loc_of h4
  have ky : env.kindOf y = some .local := by show env.scope.names.lookup y = _; rw [he]; exact loc_of h5
  have sa := star_eq h2
  have sb := star_eq h3
  have hxy : (y == x) = false := by rw [Bool.eq_false_iff] at h7 ⊢; intro z; apply h7; rw [beq_iff_eq] at z ⊢; exact z.symm
  have hl : py.line = px.line := by simpa using h6
  rw [Bool.and_eq_false_iff] at h8 h9
  have h8' : ¬ (foldedForSure 8 a = true ∧ foldedForSure 8 b = true) := fun ⟨z, z2⟩ => by rcases h8 with q | q; rw [z] at q; cases q; rw [z2] at q; cases q
  have h9' : ¬ (constantsAlone 8 a = true ∧ constantsAlone 8 b = true) := fun ⟨z, z2⟩ => by rcases h9 with q | q; rw [z] at q; cases q; rw [z2] at q; cases q
  unfold swappedStores
  simp [hk, kx, ky, hl, sa, sb, hxy, h8', h9', List.eraseDups_cons, Expr.pos, List.filterMap_cons]
  rintro (hh | hh)
  · exact absurd (hh.symm.trans sa) (by decide)
  · exact absurd (hh.symm.trans sb) (by decide)
theorem swp3_of {x y z : Str} {px py pz pt pt2 : Pos} {a b c : Expr} {k1 k2 : Nat} {env : Env} (he : env.scope = sc) (h : swp3 sc x y z px py pz a b c = true) : swappedStores [.Tuple [.Name x px, .Name y py, .Name z pz] k1 pt] (.Tuple [a, b, c] k2 pt2) env = pure (some [x, y, z]) := by
  unfold swp3 at h
  simp only [Bool.and_eq_true, Bool.not_eq_true'] at h
  obtain ⟨⟨⟨⟨⟨⟨⟨⟨⟨⟨⟨⟨⟨h1, h2⟩, h3⟩, hsc⟩, h4⟩, h5⟩, h5c⟩, h6⟩, h6c⟩, h7⟩, h7b⟩, h7c⟩, h8⟩, h9⟩ := h
  have hk : env.blockKind = .function := bk_of (by rw [he]; exact fun_kind h1)
  have kx : env.kindOf x = some .local := by show env.scope.names.lookup x = _; rw [he]; exact loc_of h4
  have ky : env.kindOf y = some .local := by show env.scope.names.lookup y = _; rw [he]; exact loc_of h5
  have kz : env.kindOf z = some .local := by show env.scope.names.lookup z = _; rw [he]; exact loc_of h5c
  have sa := star_eq h2
  have sb := star_eq h3
  have sc' := star_eq hsc
  have flip : ∀ {p q : Str}, (p == q) = false → (q == p) = false := fun {p q} h => by rw [Bool.eq_false_iff] at h ⊢; intro z; apply h; rw [beq_iff_eq] at z ⊢; exact z.symm
  have hl : py.line = px.line := by simpa using h6
  have hl2 : pz.line = px.line := by simpa using h6c
  have h8' : ¬ (foldedForSure 8 a = true ∧ foldedForSure 8 b = true ∧ foldedForSure 8 c = true) := fun ⟨p, q, r⟩ => by rw [p, q, r] at h8; cases h8
  have h9' : ¬ (constantsAlone 8 a = true ∧ constantsAlone 8 b = true ∧ constantsAlone 8 c = true) := fun ⟨p, q, r⟩ => by rw [p, q, r] at h9; cases h9
  unfold swappedStores
  simp [hk, kx, ky, kz, hl, hl2, sa, sb, sc', flip h7, flip h7b, flip h7c, h8', h9', List.eraseDups_cons, Expr.pos, List.filterMap_cons]
  rintro (hh | hh | hh)
  · exact absurd (hh.symm.trans sa) (by decide)
  · exact absurd (hh.symm.trans sb) (by decide)
  · exact absurd (hh.symm.trans sc') (by decide)
theorem ss_notsw {ts : List Expr} {e : Expr} {k : Nat} {p : Pos} {env : Env} (he : env.scope = sc) (h : notSw sc ts e = true) : swappedStores [.Tuple ts k p] e env = pure none := by
  unfold notSw at h
  split at h
  · rename_i x px y py a b k2 p2
    rw [Bool.or_eq_true, Bool.not_eq_true', Bool.not_eq_true'] at h
    have key : ∀ z : Str, isLoc (sc.names.lookup z) = false → (env.kindOf z == some NameKind.local) = false := fun z hz => by
      show (env.scope.names.lookup z == some NameKind.local) = false
      rw [he, Bool.eq_false_iff]
      intro w
      rw [beq_iff_eq] at w
      rw [w] at hz
      cases hz
    unfold swappedStores
    rcases h with h | h
    · have kx : ¬ (env.kindOf x = some NameKind.local) := by simpa using key x h
      simp only [List.any_cons, List.any_nil, List.filterMap_cons, List.filterMap_nil]
      simp [kx]
      intro _ _ _ hl
      split at hl <;> simp at hl
    · have ky : ¬ (env.kindOf y = some NameKind.local) := by simpa using key y h
      simp only [List.any_cons, List.any_nil, List.filterMap_cons, List.filterMap_nil]
      simp [ky]
      intro _ _ _ hl
      split at hl <;> simp at hl
  · cases h
end
end Rf
/-! statements run as their pure runs say -/
namespace Rf
open PySem PySem.Spec PyProof.Rows L2
section
variable {K : PySem.W.Frag} {Z : WX} {np : Nat} {A : List Nat} {σ : L2.St} {H : Hp} {D : Ends}
/-- two stores side by side -/
theorem stN2 {F : Hp} {g : Gh} {ρ : Rho} {F1 H1 : Hp} {g1 : Gh} {ρ1 : Rho} {i : Nat} {w : W} {v : V} {σ1 : L2.St} (p : Pn K (sA A) σ F H g ρ σ1 F1 H1 g1 ρ1) (hi : i < ρ1.length) (hA : i ∈ A) (hs : Sh K F1 w v) : ∃ g2, Pn K (sA A) σ F H g ρ (σ1.set i (some v)) F1 H1 g2 (ρ1.set i (some w)) := by
  obtain ⟨g2, q⟩ := Pn.set (A := A) (Ps.refl p.rl) hi hA (Tm.of (σ := σ1) (H0 := H1) hs)
  exact ⟨g2, p.trans q⟩
theorem par2_rd {i j : Nat} {a b : Ex} (hi : i ∈ A) (hj : j ∈ A) (h : rS K Z np A (exec np (.par [i, j] [a, b])) D σ H) : tPar i j (rAs K Z (evs [a, b])) D σ H := by
  obtain ⟨F, g, ρ, rl, c⟩ := h
  unfold exec at c
  refine ⟨F, g, ρ, rl, c.ev.imp fun ws ρ1 c1 vs F1 H1 g1 p1 hl => ?_⟩
  cases hl with
  | nil => obtain ⟨r, ρ', e, z⟩ := c1; cases e
  | cons s1 hl => cases hl with
    | nil =>
      have c2 : Cs K Z np A σ F H g ρ D (bnd (bnd (stN i _) fun _ => stuck) fun _ => ret Flow.nx) ρ1 := c1
      rw [assoc_bnd] at c2
      obtain ⟨_, c3⟩ := c2.stN
      obtain ⟨r, ρ', e, z⟩ := c3
      cases e
    | cons s2 hl => cases hl with
      | nil =>
        rename_i w1 v1 w2 v2
        have c2 : Cs K Z np A σ F H g ρ D (bnd (bnd (stN i w1) fun _ => bnd (stN j w2) fun _ => ret ()) fun _ => ret Flow.nx) ρ1 := c1
        simp only [assoc_bnd] at c2
        obtain ⟨l1, c3⟩ := c2.stN
        obtain ⟨l2, c4⟩ := c3.stN
        obtain ⟨g2, q1⟩ := stN2 (A := A) (.of p1) l1 hi s1
        obtain ⟨g3, q2⟩ := stN2 q1 l2 hj s2
        exact ⟨v1, v2, rfl, Cs.ret (fl := .nx) c4 q2⟩
      | cons s3 hl =>
        rename_i w1 v1 w2 v2 w3 v3 ws vs
        have c2 : Cs K Z np A σ F H g ρ D (bnd (bnd (stN i w1) fun _ => bnd (stN j w2) fun _ => stuck) fun _ => ret Flow.nx) ρ1 := c1
        simp only [assoc_bnd] at c2
        obtain ⟨_, c3⟩ := c2.stN
        obtain ⟨_, c4⟩ := c3.stN
        obtain ⟨r, ρ', e, z⟩ := c4
        cases e
theorem Pn.setM {σ1 : L2.St} {F H F1 H1 : Hp} {g g1 : Gh} {ρ ρ1 : Rho} {σ : L2.St} (p : Pn K (sA A) σ F H g ρ σ1 F1 H1 g1 ρ1) {i : Nat} {w : W} {v : V} {m : Mk} (hi : i < ρ1.length) (hA : i ∈ A) (hm : Mks H F1 H1 g1 m) (hO : Ow K F1 H1 (fun f a => m a = some f) w v) : Pn K (sA A) σ F H g ρ (σ1.set i (some v)) F1 H1 (gset g1 i m) (ρ1.set i (some w)) := by
  refine ⟨p.le.set hm, p.rl.set hi hm hO, fun j f x hj e l => ?_, fun j hj => ?_, by rw [List.length_set]; exact p.len⟩
  · have ne : i ≠ j := fun z => hj (z ▸ hA)
    obtain ⟨⟨w', e', l'⟩, hv⟩ := p.ls j f x hj e l
    refine ⟨⟨w', ?_, l'⟩, ?_⟩
    · rw [getP_of (ρ' := ρ1) (by rw [slot_set hi, if_neg (Ne.symm ne)])]; exact e'
    · rw [← hv]; exact vp_of (List.getElem?_set_ne ne) f
  · rw [List.getElem?_set_ne fun z => hj (by subst z; exact hA)]
    exact p.eq j hj
theorem parO_rd {i j : Nat} {a b : Ex} (hi : i ∈ A) (hj : j ∈ A) (h : rS K Z np A (exec np (.parO [i, j] [a, b])) D σ H) : tPar i j (rAt K Z (evT [a, b])) D σ H := by
  obtain ⟨F, g, ρ, rl, c⟩ := h
  unfold exec at c
  refine ⟨F, g, ρ, rl, c.ev.imp fun ts ρ1 c1 vs ms F1 H1 g1 p1 hl => ?_⟩
  match ts, vs, ms, hl, c1 with
  | [.val x, .val y], [v, w], [m1, m2], .cons h1 d1 (.cons h2 d2 .nil), c1 =>
    obtain ⟨k1, o1⟩ := h1
    obtain ⟨k2, o2⟩ := h2
    have c2 : Cs K Z np A σ F H g ρ D (bnd (stN i x) fun _ => bnd (stN j y) fun _ => ret Flow.nx) ρ1 := c1
    obtain ⟨l1, c3⟩ := c2.stN
    obtain ⟨l2, c4⟩ := c3.stN
    have q1 := Pn.setM (A := A) (.of p1) l1 hi k1 o1
    have k2' : Mks H F1 H1 (gset g1 i m1) m2 := fun b f e => by
      obtain ⟨e1, e2, e3, e4⟩ := k2 b f e
      refine ⟨e1, ?_, e3, e4⟩
      have n1 : m1 b = none := by
        cases z : m1 b with
        | none => rfl
        | some f' =>
          have := d1 m2 (by simp) b (by rw [z]; exact fun h => nomatch h)
          rw [this] at e; cases e
      unfold gset
      rw [n1]
      dsimp only
      rw [e2]
    have q2 := Pn.setM (A := A) q1 l2 hj k2' o2
    exact ⟨v, w, rfl, Cs.ret (fl := .nx) c4 q2⟩
  | [], _, _, _, c1 => obtain ⟨r, ρ', e, z⟩ := c1; cases e
  | [.val _], _, _, _, c1 => obtain ⟨r, ρ', e, z⟩ := c1; cases e
  | [.pl _ _], _, _, _, c1 => obtain ⟨r, ρ', e, z⟩ := c1; cases e
  | .pl _ _ :: _ :: _, _, _, _, c1 => obtain ⟨r, ρ', e, z⟩ := c1; cases e
  | .val _ :: .pl _ _ :: _, _, _, _, c1 => obtain ⟨r, ρ', e, z⟩ := c1; cases e
  | .val _ :: .val _ :: _ :: _, _, _, _, c1 => obtain ⟨r, ρ', e, z⟩ := c1; cases e
theorem par3_rd {i j l : Nat} {a b c : Ex} (hi : i ∈ A) (hj : j ∈ A) (hl0 : l ∈ A) (h : rS K Z np A (exec np (.par [i, j, l] [a, b, c])) D σ H) : tPar3 i j l (rAs K Z (evs [a, b, c])) D σ H := by
  obtain ⟨F, g, ρ, rl, c0⟩ := h
  unfold exec at c0
  have c0' := c0.ev
  refine ⟨F, g, ρ, rl, (Ct.evs c0').imp fun ws ρ1 ⟨hlen, c1⟩ vs F1 H1 g1 p1 hl => ?_⟩
  have hlen : ws.length = 3 := hlen
  obtain ⟨w1, w2, w3, rfl⟩ : ∃ w1 w2 w3, ws = [w1, w2, w3] := by
    match ws, hlen with
    | [w1, w2, w3], _ => exact ⟨w1, w2, w3, rfl⟩
  cases hl with
  | cons s1 hl => cases hl with
    | cons s2 hl => cases hl with
      | cons s3 hl =>
        cases hl
        have c2 : Cs K Z np A σ F H g ρ D (bnd (bnd (stN i w1) fun _ => bnd (stN j w2) fun _ => bnd (stN l w3) fun _ => ret ()) fun _ => ret Flow.nx) ρ1 := c1
        simp only [assoc_bnd] at c2
        obtain ⟨l1, c3⟩ := c2.stN
        obtain ⟨l2, c4⟩ := c3.stN
        obtain ⟨l3, c5⟩ := c4.stN
        obtain ⟨g2, q1⟩ := stN2 (A := A) (.of p1) l1 hi s1
        obtain ⟨g3, q2⟩ := stN2 q1 l2 hj s2
        obtain ⟨g4, q3⟩ := stN2 q2 l3 hl0 s3
        exact ⟨_, _, _, rfl, Cs.ret (fl := .nx) c5 q3⟩
end
section
variable {tb : Tb} {k n np : Nat} {X : Cx} {Z : WX} {sc : Scope} {N : List Str} {A : List Nat}
theorem AtS.E (a : AtS tb k sc N X) (tk : Takes X Z) {e : Expr} {e' : Ex} (h : trE tb n sc N e = some e') : PE X e (rE X.K Z (ev e')) ∧ PT X e (rT X.K Z (ev e')) := (tr_all tb k n).e X Z sc N e e' a.at_ tk h
theorem pg_ta (a : AtS tb k sc N X) (tk : Takes X Z) {t : Expr} {t' : Ta} (h : trA tb n sc N t = some t') (hA : ∀ j ∈ taIx [t'], j ∈ A) : PG X t (rA X.K Z A t') := by
  unfold trA at h
  split at h
  · rename_i x p
    cases y : nmIx sc N x with
    | none => rw [y] at h; cases h
    | some i =>
      rw [y] at h
      cases h
      obtain ⟨h1, h2⟩ := nmIx_of y
      obtain ⟨s1, s2⟩ := a.st x h1
      exact PG.mono (pg_name a.at_.nd (by rw [a.at_.N]; exact h2) s1 s2) fun v σ H Q => nmA_rd (hA i (by simp [taIx]))
  · rename_i o i p
    split at h
    · cases h
    · rename_i hsl
      split at h
      · rename_i o' i' h1 h2
        cases h
        have hns : isSlice i = false := by simpa using hsl
        refine PG.mono (pg_sub (a.E tk h1).1 (a.E tk h2).1 (set_both (by have := a.at_.uni; omega)) (fun v => ?_)) fun v σ H Q => subA_rd
        cases i <;> first | rfl | cases hns
      · cases h
  · cases h
theorem pgs_ta (a : AtS tb k sc N X) (tk : Takes X Z) : ∀ {ts : List Expr} {ts' : List Ta}, ts.all notStar = true → ts.mapM (trA tb n sc N) = some ts' → (∀ j ∈ taIx ts', j ∈ A) → PGs X ts (rAL X.K Z A ts') ∧ ts.length = ts'.length
  | [], ts', _, h, _ => by cases h; exact ⟨PGs.mono pgs_nil fun v σ H Q => nilA_rd, rfl⟩
  | t :: ts, ts', hs, h, hA => by
    rw [List.all_cons, Bool.and_eq_true] at hs
    rw [List.mapM_cons] at h
    cases x : trA tb n sc N t with
    | none => rw [x] at h; cases h
    | some t' =>
      cases y : ts.mapM (trA tb n sc N) with
      | none => rw [x, y] at h; cases h
      | some ts2 =>
        rw [x, y] at h
        cases h
        have split : ∀ j, j ∈ taIx [t'] ∨ j ∈ taIx ts2 → j ∈ taIx (t' :: ts2) := fun j hj => by
          cases t' with
          | nm i => simp only [taIx, List.mem_cons, List.not_mem_nil, or_false] at hj ⊢; exact hj
          | sub o i => simp only [taIx, List.not_mem_nil, false_or] at hj ⊢; exact hj
          | fld o f Cs => simp only [taIx, List.not_mem_nil, false_or] at hj ⊢; exact hj
        obtain ⟨k1, k2⟩ := pgs_ta a tk hs.2 y fun j hj => hA j (split j (.inr hj))
        exact ⟨PGs.mono (pgs_cons (pg_ta a tk x fun j hj => hA j (split j (.inl hj))) k1 (by rw [asg_cons hs.1]; rfl)) fun v σ H Q => consA_rd, congrArg (· + 1) k2⟩
theorem s_name (a : AtS tb k sc N X) (tk : Takes X Z) {x : Str} {px pos : Pos} {e : Expr} {i : Nat} {e' : Ex} (h1 : nmIx sc N x = some i) (h2 : trE tb n sc N e = some e') (hA : i ∈ A) : PS X (.Assign [.Name x px] e pos) (rS X.K Z np A (exec np (.asg (.nm i) e'))) := by
  obtain ⟨q1, q2⟩ := nmIx_of h1
  obtain ⟨s1, s2⟩ := a.st x q1
  have hi : X.N[i]? = some x := by rw [a.at_.N]; exact q2
  have plain : swapsWith e (some (.Name x px)) pos.line X.env = pure false → PS X (.Assign [.Name x px] e pos) (rS X.K Z np A (exec np (.asg (.nm i) e'))) := fun hs =>
    PS.mono (ps_set a.at_.nd hi s1 (a.E tk h2).1 hs s2) fun D σ H => asg_rd hA
  cases e with
  | ListComp elt gs scope p =>
    cases hc : (X.env.blockKind == .function && X.env.kindOf x == some .local && px.line == p.line && !(scope.names.any fun (n, k) => n == x && (k == .local || k == .cell))) with
    | false =>
      refine plain ?_
      show (pure (X.env.blockKind == .function && X.env.kindOf x == some .local && px.line == p.line && !(scope.names.any fun (n, k) => n == x && (k == .local || k == .cell))) : Sem Bool) = pure false
      rw [hc]
    | true =>
      have hsw : swapsWith (.ListComp elt gs scope p) (some (.Name x px)) pos.line X.env = pure true := by
        show (pure (X.env.blockKind == .function && X.env.kindOf x == some .local && px.line == p.line && !(scope.names.any fun (n, k) => n == x && (k == .local || k == .cell))) : Sem Bool) = pure true
        rw [hc]
      have hyl : X.env.scope.names.lookup x = some .local := by
        simp only [Bool.and_eq_true, beq_iff_eq] at hc
        exact hc.1.1.2
      cases n with
      | zero => unfold trE at h2; cases h2
      | succ n =>
        obtain ⟨tg, iter, ifs, hsu, rfl, elt', tg', it', c', rfl, hok, pi, hs, pg, pt, pe, hix⟩ := lc_parts (tr_all tb k n) a.at_ tk h2
        refine PS.mono (ps_setLc (a.at_.calm hsu) a.at_.nd hi hyl hsw pi hok pg pt pe hs) fun D σ H hh => ?_
        exact lc_rd hix (asg_rd hA hh)
  | SetComp _ _ _ _ => cases n <;> (unfold trE at h2; cases h2)
  | DictComp _ _ _ _ _ => cases n <;> (unfold trE at h2; cases h2)
  | _ => exact plain (sw_no rfl)
end
end Rf
namespace Rf
open PySem PySem.Spec PyProof.Rows L2
section
variable {tb : Tb} {k n np : Nat} {X : Cx} {Z : WX} {sc : Scope} {N : List Str} {A : List Nat}
theorem s_par2 (hsu : tb.su = false) (a : AtS tb k sc N X) (tk : Takes X Z) {x y : Str} {px py pt pt2 pos : Pos} {e1 e2 : Expr} {k1 k2 i j : Nat} {es : List Ex} (hs : swp2 sc x y px py e1 e2 = true) (hi : ixOf x N 0 = some i) (hj : ixOf y N 0 = some j) (hij : i ≠ j) (h : trEs tb n sc N [e1, e2] = some es) (hA : ∀ l ∈ [i, j], l ∈ A) :
    PS X (.Assign [.Tuple [.Name x px, .Name y py] k1 pt] (.Tuple [e1, e2] k2 pt2) pos) (rS X.K Z np A (exec np (.par [i, j] es))) := by
  obtain ⟨b1, b2, b3, b4, b5⟩ := (tr_all tb k n).es X Z sc N _ es a.at_ tk h
  obtain ⟨a', b', rfl⟩ : ∃ a' b', es = [a', b'] := by
    match es, b5 with
    | [a', b'], _ => exact ⟨a', b', rfl⟩
  have hx : X.env.scope.names.lookup x = some .local := by
    rw [a.at_.sc]; unfold swp2 at hs; simp only [Bool.and_eq_true] at hs; exact loc_of hs.1.1.1.1.1.2
  have hy : X.env.scope.names.lookup y = some .local := by
    rw [a.at_.sc]; unfold swp2 at hs; simp only [Bool.and_eq_true] at hs; exact loc_of hs.1.1.1.1.2
  exact PS.mono (ps_par (a.at_.calm hsu) a.at_.nd (by rw [a.at_.N]; exact ixOf_at hi) (by rw [a.at_.N]; exact ixOf_at hj) hij hx hy b1 (swp2_of a.at_.sc hs)) fun D σ H => par2_rd (hA i (by simp)) (hA j (by simp))
theorem s_parO (hsu : tb.su = false) (a : AtS tb k sc N X) (tk : Takes X Z) {x y : Str} {px py pt pt2 pos : Pos} {e1 e2 : Expr} {k1 k2 i j : Nat} {a' b' : Ex} (hs : swp2 sc x y px py e1 e2 = true) (hi : ixOf x N 0 = some i) (hj : ixOf y N 0 = some j) (hij : i ≠ j) (h : trEs tb n sc N [e1, e2] = some [a', b']) (hA : ∀ l ∈ [i, j], l ∈ A) :
    PS X (.Assign [.Tuple [.Name x px, .Name y py] k1 pt] (.Tuple [e1, e2] k2 pt2) pos) (rS X.K Z np A (exec np (.parO [i, j] [a', b']))) := by
  obtain ⟨b1, b2, b3, b4, b5⟩ := (tr_all tb k n).es X Z sc N _ _ a.at_ tk h
  have hx : X.env.scope.names.lookup x = some .local := by
    rw [a.at_.sc]; unfold swp2 at hs; simp only [Bool.and_eq_true] at hs; exact loc_of hs.1.1.1.1.1.2
  have hy : X.env.scope.names.lookup y = some .local := by
    rw [a.at_.sc]; unfold swp2 at hs; simp only [Bool.and_eq_true] at hs; exact loc_of hs.1.1.1.1.2
  exact PS.mono (ps_par (a.at_.calm hsu) a.at_.nd (by rw [a.at_.N]; exact ixOf_at hi) (by rw [a.at_.N]; exact ixOf_at hj) hij hx hy b2 (swp2_of a.at_.sc hs)) fun D σ H => parO_rd (hA i (by simp)) (hA j (by simp))
theorem s_par3 (hsu : tb.su = false) (a : AtS tb k sc N X) (tk : Takes X Z) {x y z : Str} {px py pz pt pt2 pos : Pos} {e1 e2 e3 : Expr} {k1 k2 i j l : Nat} {es : List Ex} (hs : swp3 sc x y z px py pz e1 e2 e3 = true) (hi : ixOf x N 0 = some i) (hj : ixOf y N 0 = some j) (hl : ixOf z N 0 = some l) (hij : ¬ (i = j ∨ i = l ∨ j = l)) (h : trEs tb n sc N [e1, e2, e3] = some es) (hA : ∀ m ∈ [i, j, l], m ∈ A) :
    PS X (.Assign [.Tuple [.Name x px, .Name y py, .Name z pz] k1 pt] (.Tuple [e1, e2, e3] k2 pt2) pos) (rS X.K Z np A (exec np (.par [i, j, l] es))) := by
  obtain ⟨b1, b2, b3, b4, b5⟩ := (tr_all tb k n).es X Z sc N _ es a.at_ tk h
  obtain ⟨a', b', c', rfl⟩ : ∃ a' b' c', es = [a', b', c'] := by
    match es, b5 with
    | [a', b', c'], _ => exact ⟨a', b', c', rfl⟩
  have hall := hs
  unfold swp3 at hall
  simp only [Bool.and_eq_true] at hall
  have hx : X.env.scope.names.lookup x = some .local := by rw [a.at_.sc]; exact loc_of hall.1.1.1.1.1.1.1.1.1.2
  have hy : X.env.scope.names.lookup y = some .local := by rw [a.at_.sc]; exact loc_of hall.1.1.1.1.1.1.1.1.2
  have hz : X.env.scope.names.lookup z = some .local := by rw [a.at_.sc]; exact loc_of hall.1.1.1.1.1.1.1.2
  exact PS.mono (ps_par3 (a.at_.calm hsu) a.at_.nd (by rw [a.at_.N]; exact ixOf_at hi) (by rw [a.at_.N]; exact ixOf_at hj) (by rw [a.at_.N]; exact ixOf_at hl) (fun e => hij (.inl e)) (fun e => hij (.inr (.inl e))) (fun e => hij (.inr (.inr e))) hx hy hz b1 (swp3_of a.at_.sc hs)) fun D σ H => par3_rd (hA i (by simp)) (hA j (by simp)) (hA l (by simp))
theorem s_assign (a : AtS tb k sc N X) (tk : Takes X Z) {ts : List Expr} {e : Expr} {pos : Pos} {st' : St} (h : trS tb (n + 1) sc N (.Assign ts e pos) = some st') (hA : ∀ j ∈ stIx st', j ∈ A) : PS X (.Assign ts e pos) (rS X.K Z np A (exec np st')) := by
  unfold trS at h
  split at h
  case h_1 tg e2 p2 heq =>
    cases heq
    split at h
    · rename_i x px
      split at h
      · rename_i i e' h1 h2
        cases h
        exact s_name a tk h1 h2 (hA i (by simp [stIx, taIx]))
      · cases h
    · rename_i o i p
      split at h
      · rename_i o' i' e' h1 h2
        cases h
        refine PS.mono (ps_asg (a.E tk h2).1 (pg_ta (A := A) a tk h1 fun j hj => by simp [taIx] at hj) (show swapsWith e (some (.Subscript o i p)) pos.line X.env = pure false from sw_nn fun x p => by intro z; cases z) (ss_nt (fun _ _ _ => by intro z; cases z) fun _ _ => by intro z; cases z)) fun D σ H => asgSub_rd
      · cases h
    · rename_i o f p
      split at h
      · rename_i o' f' e' h1 h2 h3
        cases h
        obtain ⟨rfl, k1, k2⟩ := a.at_.gd.fl f f' h2
        exact PS.mono (ps_fld (a.E tk h1).1 (a.E tk h3).1 (sw_nn fun x p => by intro z; cases z)) fun D σ H => asgFld_rd k1
      · cases h
    · rename_i ts kk tp
      split at h
      · cases h
      rename_i hsu0
      have hsu : tb.su = false := by simpa using hsu0
      split at h
      · rename_i hte
        split at h
        · rename_i x px y py e1 e2 kk2 tp2
          split at h
          · rename_i hs
            split at h
            · rename_i i j es h1 h2 h3
              split at h
              · cases h
              · rename_i hij
                split at h
                · cases h
                  exact s_parO hsu a tk hs h1 h2 hij h3 hA
                · cases h
                  exact s_par2 hsu a tk hs h1 h2 hij h3 hA
            · cases h
          · cases h
        · rename_i x px y py z pz e1 e2 e3 kk2 tp2
          split at h
          · rename_i hs
            split at h
            · rename_i i j l es h1 h2 h3 h4
              split at h
              · cases h
              · rename_i hij
                cases h
                exact s_par3 hsu a tk hs h1 h2 h3 hij h4 hA
            · cases h
          · cases h
        · cases h
      · rename_i hte
        split at h
        · rename_i hst
          split at h
          · rename_i ts' e' h1 h2
            cases h
            obtain ⟨k1, k2⟩ := pgs_ta a tk hst h1 hA
            obtain ⟨l1, l2⟩ := asg_len (env := X.env) hst
            have hne : isTupE e = false ∨ allFold e = true ∨ notSw sc ts e = true := by
              cases h1 : isTupE e with
              | false => exact .inl rfl
              | true =>
                cases h2 : allFold e with
                | true => exact .inr (.inl rfl)
                | false =>
                  cases h3 : notSw sc ts e with
                  | true => exact .inr (.inr rfl)
                  | false => exact absurd (by rw [h1, h2, h3]; rfl) hte
            exact PS.mono (ps_asg (a.E tk h2).1 (pg_tup (a.at_.calm hsu) k1 (l1.trans k2) l2) (show swapsWith e (some (.Tuple ts kk tp)) pos.line X.env = pure false from sw_nn fun x p => by intro z; cases z) (hne.elim (fun z => ss_no z) fun z => z.elim (fun z => ss_fold z) fun z => ss_notsw a.at_.sc z)) fun D σ H => mul_rd
          · cases h
        · cases h
    · cases h
  all_goals first | (rename_i heq; cases heq; done) | cases h
end
theorem ts_alls (k : Nat) : ∀ (n : Nat) (tb : Tb), TsOk tb k n
  | 0, tb => by
    refine ⟨fun X Z sc N np A st st' a tk h hA => ?_, fun X Z sc N np A st st' a tk h hA => ?_⟩
    · unfold trS at h; cases h
    · cases st with
      | nil =>
        have h' : some ([] : List St) = some st' := by unfold trSs at h; exact h
        cases h'
        exact PSs.mono pss_nil fun D σ H => nil_rd
      | cons s ss => unfold trSs at h; cases h
  | n + 1, tb => by
    have T := ts_alls k n tb
    refine ⟨fun X Z sc N np A st st' a tk h hA => ?_, fun X Z sc N np A st st' a tk h hA => ?_⟩
    · cases st with
      | Assign ts e pos => exact s_assign a tk h hA
      | Expr e p =>
        have h' : (if isComp e then none else (trE tb n sc N e).map St.expr) = some st' := by unfold trS at h; exact h
        split at h'
        · cases h'
        · rename_i hc
          cases y : trE tb n sc N e with
          | none => rw [y] at h'; cases h'
          | some e' =>
            rw [y] at h'
            cases h'
            exact PS.mono (ps_expr (a.E tk y).1 (sw_no (by simpa using hc))) fun D σ H => expr_rd
      | Return o p =>
        cases o with
        | none =>
          have h' : some (St.ret (.con .non)) = some st' := by unfold trS at h; exact h
          cases h'
          refine PS.mono ps_retN fun D σ H hh => ?_
          have h2 := ret_rd hh
          have h3 : rE X.K Z (ret (.val .non)) σ H D.rt := by
            have : rE X.K Z (ev (.con .non)) σ H D.rt := h2
            unfold ev at this
            exact this
          exact con_rd (v := .non) (fun F => .non) h3
        | some e =>
          have h' : (trE tb n sc N e).map St.ret = some st' := by unfold trS at h; exact h
          cases y : trE tb n sc N e with
          | none => rw [y] at h'; cases h'
          | some e' =>
            rw [y] at h'
            cases h'
            exact PS.mono (ps_ret (a.E tk y).1) fun D σ H => ret_rd
      | If c x y p =>
        unfold trS at h
        dsimp only at h
        split at h
        · rename_i c' x' y' h1 h2 h3
          cases h
          exact PS.mono (ps_if (a.E tk h1).2 (T.ss X Z sc N np A x x' a tk h2 fun j hj => hA j (by rw [stIx]; exact List.mem_append_left _ hj)) (T.ss X Z sc N np A y y' a tk h3 fun j hj => hA j (by rw [stIx]; exact List.mem_append_right _ hj))) fun D σ H => ite_rd
        · cases h
      | While c b o p =>
        cases o with
        | cons _ _ => unfold trS at h; cases h
        | nil =>
          unfold trS at h
          dsimp only at h
          split at h
          · cases h
          rename_i hsu0
          have hsu : tb.su = false := by simpa using hsu0
          split at h
          · rename_i c' b' h1 h2
            cases h
            exact PS.mono (ps_while (a.own hsu) (a.E tk h1).2 (T.ss X Z sc N np A b b' a tk h2 fun j hj => hA j (by rw [stIx]; exact hj))) fun D σ H => whl_rd
          · cases h
      | For tg e b o p =>
        cases o with
        | cons _ _ => unfold trS at h; cases h
        | nil =>
          unfold trS at h
          dsimp only at h
          split at h
          · cases h
          rename_i hsu0
          have hsu : tb.su = false := by simpa using hsu0
          split at h
          · rename_i tg' it' b' h1 h2 h3
            cases h
            have hA' : ∀ j ∈ tgIx tg' ++ stsIx b', j ∈ A := fun j hj => hA j (by rw [stIx]; exact hj)
            obtain ⟨pi, hs⟩ := (tr_all tb k n).i X Z sc N e tg it' a.at_ tk h2
            have pg := pg_tr (a.at_.calm hsu) a.at_.nd a.st 5 tg tg' (by rw [a.at_.N]; exact h1)
            exact PS.mono (ps_for (a.own hsu) (a.at_.calm hsu) pi pg (T.ss X Z sc N np (tgIx tg' ++ stsIx b') b b' a tk h3 fun j hj => List.mem_append_right _ hj) hs) fun D σ H => for_rd hA'
          · cases h
      | Raise e c p =>
        unfold trS at h
        dsimp only at h
        split at h
        · cases h
        rename_i hsu0
        have hsu : tb.su = false := by simpa using hsu0
        split at h
        · rename_i x p1 e p3
          split at h
          · rename_i hx
            simp only [Bool.and_eq_true] at hx
            obtain ⟨⟨hx1, hx2⟩, hx3⟩ := hx
            obtain ⟨d1, d2, d3⟩ := okNm_ne hx1
            split at h
            · rename_i C hC
              split at h
              · rename_i hs
                cases h
                obtain ⟨h1, h2, h3, h4, h5⟩ := a.at_.gd.ex0 x C hC
                cases e with
                | Constant c j p2 =>
                  cases c with
                  | str m => exact PS.mono (ps_raise (a.at_.calm hsu) tk (pmk_own PySem.F.excBase_ValueError h2 h1 h3 (raises_own h4 h5) (a.at_.gl hx2) d1)) fun D σ H hh => rse0_rd hh
                  | _ => cases hs
                | _ => cases hs
              · cases h
            · rename_i C f hC
              obtain ⟨h1, h2, fI, fd, ps, h3, h4, h5, h6⟩ := a.at_.gd.ex1 x C f hC
              cases y : trE tb n sc N e with
              | none => rw [y] at h; cases h
              | some e' =>
                rw [y] at h
                cases h
                have pa : PA X [e] (rAs X.K Z (evs [e'])) := PA.mono (pa_cons (a.E tk y).1 (PA.mono pa_nil fun σ H Q => evs_nil) (star_cons hx3)) fun σ H Q => evs_cons
                exact PS.mono (ps_raise (a.at_.calm hsu) tk (pmk_oex h2 h3 h4 h5 (a.at_.room hsu) h6 .nil pass_no (a.at_.gl hx2) h1 pa d1 (star_cons hx3) rfl)) fun D σ H hh => rse1_rd hh
            · cases h
          · cases h
        · cases h
      | Try body hs o2 f2 p =>
        cases o2 with
        | cons _ _ => unfold trS at h; cases h
        | nil =>
        cases f2 with
        | cons _ _ => unfold trS at h; cases h
        | nil =>
        unfold trS at h
        dsimp only at h
        split at h
        · cases h
        rename_i hsu0
        have hsuF : tb.su = false := by simpa using hsu0
        split at h
        · rename_i x p1 o su p2
          split at h
          · rename_i hx
            rw [Bool.and_eq_true] at hx
            obtain ⟨d1, d2, d3⟩ := okNm_ne hx.1
            split at h
            · rename_i C b hC hb
              obtain ⟨m1, m2⟩ := a.at_.gd.xm x C hC
              have nms : Names X x (.ref (cad X.K C)) := ⟨a.at_.gl hx.2, d1, .inl m1⟩
              have atr : ∀ (W : WX) (pn : List (Addr × Obj)) (xe : Value → Shared → Prop), PassesOwn (model X.prog X.w) X.A X.env xe → AtS tb k sc N (X.tr pn xe) := fun W pn xe po =>
                ⟨⟨a.at_.sc, a.at_.N, a.at_.nd, a.at_.calm, a.at_.room, a.at_.uni, a.at_.gd⟩, fun _ => po, a.st, a.fn, a.stk, a.frm⟩
              split at h
              · rename_i y
                split at h
                · rename_i hy2
                  rw [Bool.and_eq_true] at hy2
                  split at h
                  · rename_i i s1 su' hi hsu2
                    split at h
                    · rename_i hnx
                      rw [Bool.and_eq_true] at hnx
                      cases h
                      have hyl : sc.names.lookup y = some .local := loc_of hy2.1
                      have kl : X.env.kindOf y = some .local := by
                        show X.env.scope.names.lookup y = _
                        rw [a.at_.sc]; exact hyl
                      have iA : i ∈ A := hA i (by simp [stIx])
                      have hN : X.N[i]? = some y := by rw [a.at_.N]; exact ixOf_at hi
                      have hse : ∀ ρ w ρ', execs np (s1 :: su') ρ ≠ some (.ex w, ρ') := nox_ss hnx.1
                      have gd := a.at_.gd
                      have asu : ∀ (c : Addr) (pn : List (Addr × Obj)), AtS { tb with su := true } k sc N (X.suite c pn) := fun c pn =>
                        ⟨⟨a.at_.sc, a.at_.N, a.at_.nd, (fun z => nomatch z), (fun z => nomatch z), a.at_.uni, ⟨gd.blt, gd.fn, gd.cls, gd.con, gd.mt, gd.fl, gd.xc, gd.ex0, gd.ex1, gd.xm, gd.fv, gd.lc⟩⟩, (fun z => nomatch z), a.st, a.fn, a.stk, a.frm⟩
                      cases su with
                      | nil => cases n <;> cases hsu2
                      | cons b0 suite =>
                      have hsu : ∀ (c : Addr) (pn : List (Addr × Obj)), PSs (X.suite c pn) (b0 :: suite) (rS X.K Z0 np A (execs np (s1 :: su'))) := fun c pn =>
                        (ts_alls k n { tb with su := true }).ss (X.suite c pn) Z0 sc N np A (b0 :: suite) (s1 :: su') (asu c pn) (fun u s' ⟨a, B, sI, pins', σ', H', cls, d, _, _, _, _, _, _, _, _, w⟩ => w) hsu2 fun j hj => hA j (by rw [stIx]; exact List.mem_append_right _ (List.mem_append_right _ hj))
                      refine PS.mono (ps_catch (tb := fun W => rS X.K W np A (execs np b)) a.stk a.frm a.at_.nd hN kl nms tk (fun W pn xe tkW po => T.ss _ W sc N np A body b (atr W pn xe po) tkW hb fun l hl => hA l (by rw [stIx]; exact List.mem_append_left _ hl)) hsu) fun D σ H hh => ?_
                      exact trN_rd m2 iA hse hh
                    · cases h
                  · cases h
                · cases h
              · rename_i c j p3 p4
                split at h
                · rename_i w hw
                  cases h
                  have hse : ∀ ρ u ρ', execs np [St.ret (.con w)] ρ ≠ some (.ex u, ρ') := fun ρ u ρ' e => nox_ret e
                  have hsu : ∀ (e : Addr) (oe : Obj) (cls : Value) (d : Option Addr) (pn : List (Addr × Obj)), Zc cls d oe → (∃ vs, oe.data = .fields vs) → PSs (X.suite e ((e, oe) :: pn)) [.Return (some (.Constant c j p3)) p4] (rS X.K Z0 np A (execs np [St.ret (.con w)])) := fun e oe cls d pn _ _ => by
                    cases n with
                    | zero => unfold trE at hw; cases hw
                    | succ n =>
                    have pc : PE (X.suite e ((e, oe) :: pn)) (.Constant c j p3) (rE X.K Z0 (ev (.con w))) := (tr_const (X := X.suite e ((e, oe) :: pn)) hw).1
                    have p : PS (X.suite e ((e, oe) :: pn)) (.Return (some (.Constant c j p3)) p4) (rS X.K Z0 np A (exec np (St.ret (.con w)))) := PS.mono (ps_ret pc) fun D σ H => ret_rd
                    exact PSs.mono (pss_cons p (PSs.mono pss_nil fun D σ H => nil_rd)) fun D σ H => cons_rd
                  refine PS.mono (ps_try_only (tb := fun W => rS X.K W np A (execs np b)) a.stk a.frm nms tk (fun W pn xe tkW po => T.ss _ W sc N np A body b (atr W pn xe po) tkW hb fun l hl => hA l (by rw [stIx]; exact List.mem_append_left _ hl)) hsu) fun D σ H hh => ?_
                  exact tr0_rd m2 hse hh
                · cases h
              · cases h
            · cases h
          · cases h
        · cases h
      | Pass p =>
        have h' : some St.pass = some st' := by unfold trS at h; exact h
        cases h'
        exact PS.mono ps_pass fun D σ H => pass_rd
      | Break p =>
        have h' : some St.brk = some st' := by unfold trS at h; exact h
        cases h'
        exact PS.mono ps_break fun D σ H => brk_rd
      | _ => unfold trS at h; cases h
    · cases st with
      | nil =>
        have h' : some ([] : List St) = some st' := by unfold trSs at h; exact h
        cases h'
        exact PSs.mono pss_nil fun D σ H => nil_rd
      | cons s ss =>
        unfold trSs at h
        split at h
        · rename_i s' ss' h1 h2
          cases h
          exact PSs.mono (pss_cons (T.s X Z sc N np A s s' a tk h1 fun j hj => hA j (by rw [stsIx]; exact List.mem_append_left _ hj)) (T.ss X Z sc N np A ss ss' a tk h2 fun j hj => hA j (by rw [stsIx]; exact List.mem_append_right _ hj))) fun D σ H => cons_rd
        · cases h
theorem ts_all (tb : Tb) (k n : Nat) : TsOk tb k n := ts_alls k n tb
end Rf
/-! defs -/
namespace Rf
open PySem PySem.Spec PyProof.Rows L2
def gCut (g : Gh) (np : Nat) : Gh := fun b => match g b with
  | some (j, f) => if j < np then some (j, f) else none
  | none => none
theorem gCut_some {g : Gh} {np : Nat} {b : Addr} {p : Nat × Option String} (h : gCut g np b = some p) : g b = some p ∧ p.1 < np := by
  unfold gCut at h
  cases x : g b with
  | none => rw [x] at h; cases h
  | some q =>
    rw [x] at h
    dsimp only at h
    split at h
    · rename_i c; cases h; exact ⟨rfl, c⟩
    · cases h
theorem gCut_in {g : Gh} {np : Nat} {b : Addr} {j : Nat} {f : Option String} (h : g b = some (j, f)) (hj : j < np) : gCut g np b = some (j, f) := by
  unfold gCut; rw [h]; exact if_pos hj
section
variable {K : PySem.W.Frag} {F H F1 F' H' : Hp} {g g1 g' : Gh} {ρ ρ1 ρ' : Rho} {σ : L2.St}
theorem slot_app {ws : List W} {n : Nat} {j : Nat} {w : W} (h : slot (ws.map some ++ List.replicate n none) j = some w) : ws[j]? = some w ∧ j < ws.length := by
  unfold slot at h
  by_cases c : j < ws.length
  · rw [List.getElem?_append_left (by simpa using c)] at h
    have := slot_map (ws := ws) (i := j) (x := w) h
    exact ⟨this, c⟩
  · rw [List.getElem?_append_right (by simpa using c)] at h
    rw [List.getElem?_replicate] at h
    split at h <;> cases h
theorem slot_app_of {ws : List W} {n : Nat} {j : Nat} {w : W} (h : ws[j]? = some w) : slot (ws.map some ++ List.replicate n none) j = some w := by
  have c : j < ws.length := (List.getElem?_eq_some_iff.mp h).1
  unfold slot
  rw [List.getElem?_append_left (by simpa using c), List.getElem?_map, h]
  rfl
theorem start_at {N : List Str} {vs : List V} {j : Nat} (h : j < vs.length) : (L2.start N vs)[j]? = (vs.map some)[j]? := by
  unfold L2.start
  rw [List.getElem?_append_left (by simpa using h)]
/-- at a def's entry -/
theorem Rl.entry {ws : List W} {vs : List V} {N : List Str} (r : Rl K F H g (ws.map some) (vs.map some)) : Rl K F H (gCut g ws.length) (ws.map some ++ List.replicate (N.length - ws.length) none) (L2.start N vs) where
  sub := r.sub
  gF := fun a p e => r.gF a p (gCut_some e).1
  gH := fun a p e => r.gH a p (gCut_some e).1
  len := by
    have hl : ws.length = vs.length := by simpa using r.len
    unfold L2.start
    simp [hl]
  sl := fun j w e => by
    have hl : ws.length = vs.length := by simpa using r.len
    obtain ⟨h1, h2⟩ := slot_app e
    have e2 : slot (ws.map some) j = some w := by unfold slot; rw [List.getElem?_map, h1]; rfl
    obtain ⟨v, hv, hO⟩ := r.sl j w e2
    exact ⟨v, by rw [start_at (hl ▸ h2)]; exact hv, hO.mono (Sub.refl _) (fun _ _ _ => rfl) fun f a ha => gCut_in ha h2⟩
theorem fz_ok : ∀ {js : List Nat} {F1 : Hp} {g1 : Gh} {ρ1 ρ' : Rho} {r : Out Unit}, Rl K F1 H g1 ρ1 σ → fzS js ρ1 = some (r, ρ') →
    r = .ok () ∧ ∃ F' g', Ps K σ F1 H g1 ρ1 F' H g' ρ' ∧ (∀ j ∈ js, ∃ w w' v, slot ρ1 j = some w ∧ frz w = some w' ∧ σ[j]? = some (some v) ∧ Sh K F' w' v) ∧ ∀ j, j ∉ js → slot ρ' j = slot ρ1 j
  | [], F1, g1, ρ1, ρ', r, p, e => by
    cases e
    exact ⟨rfl, F1, g1, .refl p, fun j hj => (by simp at hj), fun _ _ => rfl⟩
  | j0 :: js, F1, g1, ρ1, ρ', r, p, e => by
    have e' : bnd (sh (.pl j0 none)) (fun _ => fzS js) ρ1 = some (r, ρ') := e
    unfold bnd at e'
    cases x : sh (.pl j0 none) ρ1 with
    | none => rw [x] at e'; cases e'
    | some q =>
      obtain ⟨r1, ρ2⟩ := q
      rw [x] at e'
      have x0 : (match slot ρ1 j0 with
        | none => none
        | some w => match own w with
          | false => some (Out.ok w, ρ1)
          | true => match frz w with
            | none => none
            | some w' => some (Out.ok w', setP ρ1 j0 none w')) = some (r1, ρ2) := x
      cases s : slot ρ1 j0 with
      | none => rw [s] at x0; cases x0
      | some w0 =>
        obtain ⟨v, hv, _⟩ := p.sl j0 w0 s
        have tm : Tm K σ H F1 H g1 ρ1 (.pl j0 none) v := hv
        obtain ⟨w, F2, g2, rfl, p2, hs⟩ := sh_ok (.refl p) tm x
        have hw : frz w0 = some w ∧ ∀ j, j ≠ j0 → slot ρ2 j = slot ρ1 j := by
          rw [s] at x0
          dsimp only at x0
          cases o : own w0 with
          | false =>
            rw [o] at x0
            cases x0
            exact ⟨hs.frz, fun _ _ => rfl⟩
          | true =>
            rw [o] at x0
            dsimp only at x0
            cases q : frz w0 with
            | none => rw [q] at x0; cases x0
            | some w' => rw [q] at x0; cases x0; exact ⟨rfl, fun j hj => slot_setP_ne hj⟩
        have hw0 : slot ρ2 j0 = some w := by
          rw [s] at x0
          dsimp only at x0
          cases o : own w0 with
          | false => rw [o] at x0; cases x0; exact s
          | true =>
            rw [o] at x0
            dsimp only at x0
            rw [hw.1] at x0
            cases x0
            show slot (ρ1.set j0 (some w)) j0 = some w
            rw [slot_set (slot_lt s), if_pos rfl]
        obtain ⟨er, F3, g3, p3, k1, k2⟩ := fz_ok p2.rl e'
        refine ⟨er, F3, g3, p2.trans p3, fun j hj => ?_, fun j hj => ?_⟩
        · by_cases c : j = j0
          · subst c
            refine ⟨w0, w, v, s, hw.1, hv, hs.sub p3.le.fx⟩
          · obtain ⟨w1, w2, v1, a1, a2, a3, a4⟩ := k1 j ((List.mem_cons.mp hj).resolve_left c)
            exact ⟨w1, w2, v1, by rw [← hw.2 j c]; exact a1, a2, a3, a4⟩
        · rw [List.mem_cons, not_or] at hj
          rw [k2 j hj.2, hw.2 j hj.1]

theorem outs_get {asg : List Nat} {ρ : Rho} : ∀ {ws : List W} {n : Nat} {os : List W}, outs asg ρ n ws = some os → os.length = ws.length ∧ ∀ (j : Nat) (w : W), ws[j]? = some w → ∃ o, os[j]? = some o ∧ (if own w then (if n + j ∈ asg then frz w else slot ρ (n + j)) else some w) = some o
  | [], n, os, e => by
    cases e
    exact ⟨rfl, fun j w h => (by simp at h)⟩
  | w :: ws, n, os, e => by
    unfold outs at e
    split at e
    · rename_i o os' h1 h2
      cases e
      obtain ⟨k1, k2⟩ := outs_get h2
      refine ⟨congrArg (· + 1) k1, fun j u hj => ?_⟩
      cases j with
      | zero =>
        have hj' : w = u := by simpa using hj
        subst hj'
        exact ⟨o, rfl, h1⟩
      | succ j =>
        obtain ⟨o', a1, a2⟩ := k2 j u (by simpa using hj)
        refine ⟨o', by simpa using a1, ?_⟩
        have : n + (j + 1) = n + 1 + j := by omega
        rw [this]; exact a2
    · cases e
/-- behind a def's body: the parameters -/
theorem def_end {ws os : List W} {vs : List V} {N : List Str} {asg : List Nat} {P : Nat → Prop} {σ' : L2.St} (r : Rl K F H g (ws.map some) (vs.map some)) (hP : ∀ j, P j → j ∈ asg ∨ ws.length ≤ j)
    (p1 : Ps K (L2.start N vs) F H (gCut g ws.length) (ws.map some ++ List.replicate (N.length - ws.length) none) F1 H g1 ρ1)
    (fz : ∀ j ∈ asg, j < ws.length → ∃ w w' v, ws[j]? = some w ∧ frz w = some w' ∧ (vs.map some)[j]? = some (some v) ∧ Sh K F1 w' v)
    (q : Pn K P (L2.start N vs) F1 H g1 ρ1 σ' F' H' g' ρ') (e : outs asg ρ' 0 ws = some os) :
    Le F H g F' H' g' ∧ Rl K F' H' g' (outR ws os) (vs.map some) ∧ Ls All (ws.map some) (vs.map some) H (outR ws os) (vs.map some) H' := by
  have hl : ws.length = vs.length := by simpa using r.len
  obtain ⟨ol, og⟩ := outs_get e
  have kept : ∀ j, j < ws.length → j ∉ asg → σ'[j]? = (vs.map some)[j]? := fun j hj na => by
    rw [q.eq j fun z => (hP j z).elim na fun z => by omega]
    exact start_at (hl ▸ hj)
  have notins : ∀ j f x, getP (ws.map some) j (some f) = some x → ∃ C fs, ws[j]? = some (.ins true C fs) ∧ j < ws.length ∧ j ∉ asg := fun j f x ex => by
    have ex' : (slot (ws.map some) j).bind (fun w => getF w f) = some x := ex
    cases s : slot (ws.map some) j with
    | none => rw [s] at ex'; cases ex'
    | some y =>
      rw [s] at ex'
      have hy := slot_map s
      have hj : j < ws.length := (List.getElem?_eq_some_iff.mp hy).1
      cases y with
      | ins o C fs =>
        obtain ⟨v, _, hO⟩ := r.sl j _ s
        cases o with
        | false => cases hO
        | true =>
          refine ⟨C, fs, hy, hj, fun ha => ?_⟩
          obtain ⟨w, w', _, k1, k2, _⟩ := fz j ha hj
          rw [hy] at k1
          cases k1
          cases k2
      | _ => cases ex'
  refine ⟨?_, ⟨q.rl.sub, q.rl.gF, q.rl.gH, by rw [outR_len]; simpa using hl, fun j x ex => ?_⟩, fun j f x _ ex lx => ?_⟩
  · have l1 : Le F H (gCut g ws.length) F' H' g' := p1.le.trans q.le
    refine ⟨l1.fx, fun b o eb n => l1.fr b o eb (by unfold gCut; rw [n]), l1.dom, fun b p h => ?_, fun b h => ?_⟩
    · rcases l1.gn b p h with z | z
      · exact .inl (gCut_some z).1
      · exact .inr z
    · rcases l1.fn b h with z | z | z
      · exact .inl z
      · refine .inr (.inl fun n => z (by unfold gCut; rw [n]))
      · exact .inr (.inr z)
  · have hj : j < ws.length := by
      have := slot_lt ex
      rwa [outR_len] at this
    have hw : ws[j]? = some ws[j] := List.getElem?_eq_getElem hj
    obtain ⟨o, k1, k2⟩ := og j _ hw
    rw [outR_get hw k1] at ex
    split at ex
    · rename_i ho
      cases ex
      rw [if_pos ho, Nat.zero_add] at k2
      split at k2
      · rename_i ha
        obtain ⟨w, w', v, a1, a2, a3, a4⟩ := fz j ha hj
        rw [hw] at a1
        cases a1
        rw [a2] at k2
        cases k2
        exact ⟨v, a3, Ow.of (a4.sub q.le.fx)⟩
      · rename_i ha
        obtain ⟨v, hv, hO⟩ := q.rl.sl j _ k2
        exact ⟨v, by rw [← kept j hj ha]; exact hv, hO⟩
    · cases ex
  · obtain ⟨C, fs, hw, hj, ha⟩ := notins j f x ex
    have e0 : getP (ws.map some ++ List.replicate (N.length - ws.length) none) j (some f) = some x := by
      rw [getP_of (ρ' := ws.map some) (by rw [slot_app_of hw]; unfold slot; rw [List.getElem?_map, hw]; rfl)]
      exact ex
    obtain ⟨⟨w1, e1, l1⟩, hv1⟩ := p1.ls j f x trivial e0 lx
    obtain ⟨⟨w2, e2, l2⟩, hv2⟩ := q.ls j f w1 (fun z => (hP j z).elim ha fun z => by omega) e1 l1
    obtain ⟨o, k1, k2⟩ := og j _ hw
    have hown : own (W.ins true C fs) = true := rfl
    rw [if_pos hown, Nat.zero_add, if_neg ha] at k2
    have so : slot (outR ws os) j = slot ρ' j := by rw [outR_get hw k1, if_pos hown, k2]
    refine ⟨⟨w2, by rw [getP_of so]; exact e2, l2⟩, ?_⟩
    rw [vp_of (kept j hj ha).symm f, hv2, hv1]
    exact vp_of (start_at (hl ▸ hj)) f
end
theorem loc_st {sc : Scope} {x : Str} (h : isStored (sc.names.lookup x) = true) : Loc sc x := by
  unfold isStored at h
  split at h
  · rename_i e; exact .inl e
  · rename_i e; exact .inr e
  · cases h
/-- THE RULE: a def whose body is translated does what its pure run says -/
theorem def_ok {tb : Tb} {k n : Nat} {P : Program} {w : World} {K : PySem.W.Frag} {mg : Str → Option Value} {base : Heap} {x qual : Str} {params : Arguments} {body : List Stmt} {scope : Scope} {dvs : List V} {kws : List (Str × V)} {f : Addr} {fd : FuncData} {N ps : List Str} {body' : List St}
    (F : FunD K x qual params body scope dvs kws f fd) (S : FnScope N ps scope) (gd : Gd tb k P w K mg base) (tr : trSs tb n scope N body = some body') :
    FnOk P w K mg base (L2.CX P w) (k + 2) f fd ps (spW K (runFn ps.length N.length body')) := by
  have lenW : ∀ vs H Q E, spW K (runFn ps.length N.length body') vs H Q E → vs.length = ps.length := fun vs H Q E ⟨Fz, g, ws, r, os, rl, e, _⟩ => by
    have hl : ws.length = vs.length := by simpa using rl.len
    unfold runFn at e
    split at e
    · omega
    · cases e
  refine F.ok S lenW fun cdv A outer s H vs Q E hr hsp => ?_
  have at_ : AtS tb k scope N (cxOf (L2.CX P w) P w K mg base N qual scope f cdv A outer s H E) := ⟨⟨rfl, rfl, S.nd, fun _ => rfl, fun _ => hr, hr.units, gd⟩, fun _ => passes_of (K := fun e s'' => L2.CX P w outer H s E e s'') (E₁ := fun e s'' => L2.CX P w outer H s E e s'') rfl, fun y hy => ⟨loc_st hy, .inl rfl⟩, by unfold isFun; rw [S.kind], rfl, rfl⟩
  have tk : Takes (cxOf (L2.CX P w) P w K mg base N qual scope f cdv A outer s H E) (fun cls d _ H' => E cls d H') := takes_of (E₁ := fun e s'' => L2.CX P w outer H s E e s'') rfl rfl rfl rfl
  have pss := (ts_all tb k n).ss _ _ scope N ps.length (stsIx body') body body' at_ tk tr fun j hj => hj
  refine ⟨_, pss, ?_⟩
  obtain ⟨Fz, g, ws, r, os, rl, e, z⟩ := hsp
  have hl : ws.length = vs.length := by simpa using rl.len
  unfold runFn at e
  split at e
  case isFalse => cases e
  rename_i hws
  rw [← hws] at e ⊢
  have rl0 := rl.entry (N := N)
  have run : ∃ res ρe, (bnd (fzS ((List.range ws.length).filter fun j => decide (j ∈ stsIx body'))) fun _ => execs ws.length body') (ws.map some ++ List.replicate (N.length - ws.length) none) = some (res, ρe) ∧
      ∃ os', outs (stsIx body') ρe 0 ws = some os' ∧ ((∃ w, res = .ok (.rt w) ∧ r = .ok w) ∨ (res = .ok .nx ∧ r = .ok .non) ∨ ∃ w, res = .ex w ∧ r = .ex w) ∧ os' = os := by
    split at e
    · rename_i w0 ρe h0
      obtain ⟨os', h1, h2⟩ := Option.map_eq_some_iff.mp e
      cases h2
      exact ⟨_, ρe, h0, os, h1, .inl ⟨w0, rfl, rfl⟩, rfl⟩
    · rename_i ρe h0
      obtain ⟨os', h1, h2⟩ := Option.map_eq_some_iff.mp e
      cases h2
      exact ⟨_, ρe, h0, os, h1, .inr (.inl ⟨rfl, rfl⟩), rfl⟩
    · rename_i w0 ρe h0
      obtain ⟨os', h1, h2⟩ := Option.map_eq_some_iff.mp e
      cases h2
      exact ⟨_, ρe, h0, os, h1, .inr (.inr ⟨w0, rfl, rfl⟩), rfl⟩
    · cases e
  obtain ⟨res, ρe, hrun, os', ho, hres, rfl⟩ := run
  unfold bnd at hrun
  cases y : fzS ((List.range ws.length).filter fun j => decide (j ∈ stsIx body')) (ws.map some ++ List.replicate (N.length - ws.length) none) with
  | none => rw [y] at hrun; cases hrun
  | some q =>
    obtain ⟨r1, ρ1⟩ := q
    rw [y] at hrun
    obtain ⟨rfl, F1, g1, p1, fz, _⟩ := fz_ok rl0 y
    have hrun' : execs ws.length body' ρ1 = some (res, ρe) := hrun
    have fz' : ∀ j ∈ stsIx body', j < ws.length → ∃ w w' v, ws[j]? = some w ∧ frz w = some w' ∧ (vs.map some)[j]? = some (some v) ∧ Sh K F1 w' v := fun j hj hlt => by
      obtain ⟨w0, w1, v, a1, a2, a3, a4⟩ := fz j (List.mem_filter.mpr ⟨List.mem_range.mpr hlt, by simpa using hj⟩)
      exact ⟨w0, w1, v, (slot_app a1).1, a2, by rw [← start_at (N := N) (hl ▸ hlt)]; exact a3, a4⟩
    refine ⟨F1, g1, ρ1, p1.rl, res, ρe, hrun', ?_⟩
    rcases hres with ⟨w0, rfl, rfl⟩ | ⟨rfl, rfl⟩ | ⟨w0, rfl, rfl⟩
    · intro σ' F' H' g' pn v ⟨m, hO, hm⟩
      obtain ⟨l1, l2, l3⟩ := def_end rl (fun j hj => hj) p1 fz' pn ho
      refine z v F' H' g' m l1 l2 l3 (fun a f ea => ?_) hO
      obtain ⟨k1, k2, k3, k4⟩ := hm a f ea
      refine ⟨k1, k2, k3, ?_⟩
      rcases k4 with k4 | ⟨i, f', hi, k4⟩
      · exact k4
      · rcases p1.le.gn a _ k4 with zz | zz
        · have := (gCut_some zz).2
          dsimp only at this
          omega
        · exact zz
    · intro σ' F' H' g' pn
      obtain ⟨l1, l2, l3⟩ := def_end rl (fun j hj => .inl hj) p1 fz' pn ho
      exact z .non F' H' g' (fun _ => none) l1 l2 l3 nofun (Ow.of .non)
    · intro cls d σ' F' H' g' pn xv
      obtain ⟨l1, l2, l3⟩ := def_end rl (fun j hj => .inl hj) p1 fz' pn ho
      exact z cls d F' H' g' l1 l2 l3 xv
end Rf
namespace Rf
open PySem PySem.Spec PyProof.Rows L2
def nmL (l : List String) (x : Str) : Option String := l.find? fun f => decide (x = nm f)
theorem nmL_of {l : List String} {x : Str} {f : String} (h : nmL l x = some f) : x = nm f ∧ f ∈ l := by
  unfold nmL at h
  have h1 := List.find?_some h
  exact ⟨by simpa using h1, List.mem_of_find?_eq_some h⟩
abbrev Mtb := List (Str × (String × String × Fn × Nat))
def lcOf (fv : List String) : List (Str × Gk) → List (String × Fn)
  | [] => []
  | (x, .fn F _) :: l => match nmL fv x with
    | some C => (C, F) :: lcOf fv l
    | none => lcOf fv l
  | (_, .cls _ _ _) :: l => lcOf fv l
  | (_, .exc _ _) :: l => lcOf fv l
  | (_, .con _) :: l => lcOf fv l
def tbx (S : Fx) (m : Mtb) (l : List (Str × Gk)) : Tb := ⟨fun x => l.lookup x, fun x => m.lookup x, nmL S.fl, S.cs, S.xs, nmL S.xc, nmL S.xm, nmL S.fv, lcOf S.fv l, false⟩
theorem xcB_ok {K : PySem.W.Frag} {C : Addr} (h : xcB K C = true) : XcF K C := by
  unfold xcB at h
  simp only [Bool.and_eq_true, decide_eq_true_eq] at h
  obtain ⟨h1, h2, h3, h4, h5, h6, h7, h8, h9⟩ := h
  exact ⟨h1, h2, h3, h4, h5, h6, h7, h8, h9⟩
section
variable {P : Program} {w : World} {K : PySem.W.Frag} {mg : Str → Option Value} {base : Heap} {S : Fx} {m : Mtb} {l : List (Str × Gk)} {k k' : Nat}
theorem gd_nil {h : Heap} (X : K.In h) (G : h.Ns mainGlobals mg) (hb : ∀ x ∈ bltNames, mg x = none) (hS : S.okB K = true) : Gd (tbx S [] []) k P w K mg base := by
  unfold Fx.okB at hS
  simp only [Bool.and_eq_true, Bool.or_eq_true, List.all_eq_true, decide_eq_true_eq] at hS
  obtain ⟨⟨⟨h1, h2⟩, h3⟩, ⟨h4, h5⟩, h6⟩ := hS
  have glo : ∀ D, gloB K D = true → mg (nm D) = some (.ref (cad K D)) := fun D e => PySem.W.mg_of X G (He.eqO_ok e)
  refine ⟨hb, (fun x F np e => by cases e), (fun x C F np e => by cases e), (fun x c e => by cases e), (fun x C m F np e => by cases e), (fun x f e => ?_), (fun x D e => ?_), (fun x C e => by cases e), (fun x C f e => by cases e), fun x D e => ?_, fun x D e => ?_, fun C F e => by cases e⟩
  · obtain ⟨rfl, hf⟩ := nmL_of e
    refine ⟨rfl, fun C hC => ⟨He.cls_ok (h1 C hC).1, He.noat_ok ((h1 C hC).2 f hf)⟩, fun C hC => ⟨?_, (h3 C hC).1 f hf⟩⟩
    rcases h2 with h2 | h2
    · have : S.fl = [] := List.isEmpty_iff.mp h2.1
      rw [this] at hf; cases hf
    · exact xcB_ok (h2 C hC)
  · obtain ⟨rfl, hD⟩ := nmL_of e
    have hx : ∀ C ∈ S.xs, XcF K (cad K C) ∧ PySem.W.kitOne K (.ref (cad K C)) (clV K D) = some ((excUp C).contains D) := fun C hC => by
      refine ⟨?_, (h3 C hC).2.1 D hD⟩
      rcases h2 with h2 | h2
      · have : S.xc = [] := List.isEmpty_iff.mp h2.2
        rw [this] at hD; cases hD
      · exact xcB_ok (h2 C hC)
    by_cases c : D = "ValueError"
    · subst c
      refine ⟨.ty "ValueError", .type "ValueError", rfl, fun u r => r, .inr ⟨hb _ (by decide +kernel), PyProof.Rows.Boot.«ValueError», by decide⟩, (by have := (h4 _ hD).2; unfold clV at this; rw [if_pos rfl] at this; exact this), fun C hC => ?_⟩
      have := hx C hC
      unfold clV at this
      rw [if_pos rfl] at this
      exact this
    · have e2 : clV K D = .ref (cad K D) := if_neg c
      rw [e2] at hx
      refine ⟨.ref (cad K D), .ref (cad K D), rfl, fun u r => r, .inl (glo D ?_), (by have := (h4 D hD).2; rw [e2] at this; exact this), hx⟩
      rcases (h4 D hD).1 with z | z
      · exact absurd z c
      · exact z
  · obtain ⟨rfl, hD⟩ := nmL_of e
    exact ⟨glo D (h5 D hD), fun C hC => (h3 C hC).2.2 D hD⟩
  · obtain ⟨rfl, hD⟩ := nmL_of e
    exact glo D (h6 D hD)
def EntOk (P : Program) (w : World) (K : PySem.W.Frag) (mg : Str → Option Value) (base : Heap) (k : Nat) (x : Str) : Gk → Prop
  | .fn F np => ∃ f fd ps, mg x = some (.ref f) ∧ FnOk P w K mg base (L2.CX P w) k f fd ps (spW K F) ∧ PySem.W.keepIn K (.ref f) = true ∧ Binds K fd ps []
  | .cls C F np => ∃ f fd ps, mg x = some (.ref (cad K C)) ∧ L2.Mk K (cad K C) f ∧ FnOk P w K mg base (L2.CX P w) k f fd ps (spW K F) ∧ Binds K fd ps []
  | .con c => ∃ u v, mg x = some u ∧ RelV v u ∧ ∀ F, Sh K F c v
  | .exc C none => mg x = some (.ref (cad K C)) ∧ PySem.W.excIn K (cad K C) [.type "ValueError", .type "Exception", .type "BaseException", .type "object"] "ValueError.__new__" = true ∧
    PySem.W.keepIn K (.ref (cad K C)) = true ∧ PySem.W.subIn K (.ref (cad K C)) (.type "BaseException") = some true ∧ PySem.W.typeIn K (.ref (cad K C)) = some (.type "type")
  | .exc C (some f) => mg x = some (.ref (cad K C)) ∧ OexC K (cad K C) ∧ ∃ fI fd ps, PySem.W.findIn K (.ref (cad K C)) "__init__" = some (some (.ref fI)) ∧ PySem.W.typeIn K (.ref fI) = some (.type "function") ∧
    FnOk P w K mg base (L2.CX P w) k fI fd ps (spXi K C f) ∧ Binds K fd ps []
theorem gd_gl {x : Str} {g : Gk} (gd : Gd (tbx S m l) k P w K mg base) (hk : k ≤ k') (h : EntOk P w K mg base k' x g) : Gd (tbx S m ((x, g) :: l)) k' P w K mg base := by
  have look : ∀ {y : Str} {e : Gk}, ((x, g) :: l).lookup y = some e → (y = x ∧ g = e) ∨ l.lookup y = some e := fun {y e} hy => by
    by_cases c : y = x
    · subst c
      rw [List.lookup_cons, beq_self_eq_true] at hy
      cases hy; exact .inl ⟨rfl, rfl⟩
    · have c1 : (y == x) = false := by simpa using c
      rw [List.lookup_cons, c1] at hy
      exact .inr hy
  refine ⟨gd.blt, fun y F np e => ?_, fun y C F np e => ?_, fun y c e => ?_, fun y C m F np e => ?_, gd.fl, gd.xc, fun y C e => ?_, fun y C f e => ?_, gd.xm, gd.fv, fun C F e => ?_⟩
  · rcases look e with ⟨rfl, rfl⟩ | e
    · exact h
    · obtain ⟨f, fd, ps, h1, h2, h3⟩ := gd.fn y F np e
      exact ⟨f, fd, ps, h1, h2.mono hk, h3⟩
  · rcases look e with ⟨rfl, rfl⟩ | e
    · exact h
    · obtain ⟨f, fd, ps, h1, h2, h3, h4⟩ := gd.cls y C F np e
      exact ⟨f, fd, ps, h1, h2, h3.mono hk, h4⟩
  · rcases look e with ⟨rfl, rfl⟩ | e
    · exact h
    · exact gd.con y c e
  · obtain ⟨h0, f, fd, ps, h1, h2, h3, h4⟩ := gd.mt y C m F np e
    exact ⟨h0, f, fd, ps, h1, h2, h3.mono hk, h4⟩
  · rcases look e with ⟨rfl, rfl⟩ | e
    · exact h
    · exact gd.ex0 y C e
  · rcases look e with ⟨rfl, rfl⟩ | e
    · exact h
    · obtain ⟨h1, h2, fI, fd, ps, h3, h4, h5, h6⟩ := gd.ex1 y C f e
      exact ⟨h1, h2, fI, fd, ps, h3, h4, h5.mono hk, h6⟩
  · have old : (lcOf S.fv l).lookup C = some F → ∃ fd ps, FnOk P w K mg base (L2.CX P w) k' (cad K C) fd ps (spW K F) ∧ PySem.W.keepIn K (.ref (cad K C)) = true ∧ Binds K fd ps [] := fun e => by
      obtain ⟨fd, ps, h1, h2⟩ := gd.lc C F e
      exact ⟨fd, ps, h1.mono hk, h2⟩
    have e' : (lcOf S.fv ((x, g) :: l)).lookup C = some F := e
    cases g with
    | fn F0 np =>
      unfold lcOf at e'
      split at e'
      · rename_i C0 hC0
        by_cases c : C = C0
        · subst c
          rw [List.lookup_cons, beq_self_eq_true] at e'
          cases e'
          obtain ⟨f, fd, ps, h1, h2, h3, h4⟩ := h
          have hm := gd.fv x C hC0
          have ef : f = cad K C := by
            have := h1.symm.trans hm
            injection this with this
            injection this
          subst ef
          exact ⟨fd, ps, h2, h3, h4⟩
        · rw [List.lookup_cons, show (C == C0) = false by simpa using c] at e'
          exact old e'
      · exact old e'
    | cls _ _ _ => exact old e'
    | exc _ _ => exact old e'
    | con _ => exact old e'
theorem gd_mt {C mm : String} {F : Fn} {np : Nat} {f : Addr} {fd : FuncData} {ps : List Str} (gd : Gd (tbx S m l) k P w K mg base) (hk : k ≤ k') (h1 : Cls K (cad K C)) (h2 : Meth K (cad K C) (nm mm) f) (h3 : FnOk P w K mg base (L2.CX P w) k' f fd ps (spW K F)) (h4 : Binds K fd ps []) :
    Gd (tbx S ((nm mm, (C, mm, F, np)) :: m) l) k' P w K mg base := by
  refine ⟨gd.blt, fun y F np e => ?_, fun y C F np e => ?_, gd.con, fun y C' m' F' np' e => ?_, gd.fl, gd.xc, gd.ex0, fun y C f e => ?_, gd.xm, gd.fv, fun C F e => ?_⟩
  · obtain ⟨f, fd, ps, h1, h2, h3⟩ := gd.fn y F np e
    exact ⟨f, fd, ps, h1, h2.mono hk, h3⟩
  · obtain ⟨f, fd, ps, h1, h2, h3, h4⟩ := gd.cls y C F np e
    exact ⟨f, fd, ps, h1, h2, h3.mono hk, h4⟩
  · have e' : ((nm mm, (C, mm, F, np)) :: m).lookup y = some (C', m', F', np') := e
    by_cases c : y = nm mm
    · subst c
      rw [List.lookup_cons, beq_self_eq_true] at e'
      cases e'
      exact ⟨rfl, f, fd, ps, h1, h2, h3, h4⟩
    · have c1 : (y == nm mm) = false := by simpa using c
      rw [List.lookup_cons, c1] at e'
      obtain ⟨h0, f', fd', ps', k1, k2, k3, k4⟩ := gd.mt y C' m' F' np' e'
      exact ⟨h0, f', fd', ps', k1, k2, k3.mono hk, k4⟩
  · obtain ⟨h1, h2, fI, fd, ps, h3, h4, h5, h6⟩ := gd.ex1 y C f e
    exact ⟨h1, h2, fI, fd, ps, h3, h4, h5.mono hk, h6⟩
  · obtain ⟨fd, ps, h1, h2⟩ := gd.lc C F e
    exact ⟨fd, ps, h1.mono hk, h2⟩
theorem fn_step {n : Nat} {x qual : Str} {st : Stmt} {N ps : List Str} {body' : List St} {F : Fn} {f : Addr} {fd : FuncData} (gd : Gd (tbx S m l) k P w K mg base) (fu : FunD K x qual (defArgs st) (defBody st) (defScope st) [] [] f fd) (hs : C8.scC N ps (defScope st) = true) (tr : trSs (tbx S m l) n (defScope st) N (defBody st) = some body')
    (hF : F = runFn ps.length N.length body') (hb : ∀ (kV doc pm : Value) (an : Option Addr) (cdv ct : Value) (us : List Value), us.length = ps.length → bindArgs (PySem.W.fnOf x qual (defArgs st) (defBody st) (defScope st) .none kV doc pm an cdv ct) ⟨us, []⟩ = pure (ps.zip us)) :
    FnOk P w K mg base (L2.CX P w) (k + 2) f fd ps (spW K F) ∧ Binds K fd ps [] := by
  refine ⟨?_, fu.bindsN hb⟩
  rw [hF]
  exact def_ok fu (C8.fnScope_by hs) gd tr
theorem gd_step {n np : Nat} {x : Str} {st : Stmt} {N ps : List Str} {body' : List St} {F : Fn} {f : Addr} {fd : FuncData} (gd : Gd (tbx S m l) k P w K mg base) (fu : FunD K x x (defArgs st) (defBody st) (defScope st) [] [] f fd) (hs : C8.scC N ps (defScope st) = true) (tr : trSs (tbx S m l) n (defScope st) N (defBody st) = some body')
    (hF : F = runFn ps.length N.length body') (hm : mg x = some (.ref f)) (hb : ∀ (kV doc pm : Value) (an : Option Addr) (cdv ct : Value) (us : List Value), us.length = ps.length → bindArgs (PySem.W.fnOf x x (defArgs st) (defBody st) (defScope st) .none kV doc pm an cdv ct) ⟨us, []⟩ = pure (ps.zip us)) :
    FnOk P w K mg base (L2.CX P w) (k + 2) f fd ps (spW K F) ∧ Gd (tbx S m ((x, .fn F np) :: l)) (k + 2) P w K mg base := by
  obtain ⟨ok, bi⟩ := fn_step gd fu hs tr hF hb
  exact ⟨ok, gd_gl gd (Nat.le_add_right _ _) ⟨f, fd, ps, hm, ok, fu.kp, bi⟩⟩
theorem gd_exc {x : Str} {C : String} (gd : Gd (tbx S m l) k P w K mg base) (h : mg x = some (.ref (cad K C)) ∧ PySem.W.excIn K (cad K C) [.type "ValueError", .type "Exception", .type "BaseException", .type "object"] "ValueError.__new__" = true ∧
    PySem.W.keepIn K (.ref (cad K C)) = true ∧ PySem.W.subIn K (.ref (cad K C)) (.type "BaseException") = some true ∧ PySem.W.typeIn K (.ref (cad K C)) = some (.type "type")) : Gd (tbx S m ((x, .exc C none) :: l)) k P w K mg base := gd_gl gd (Nat.le_refl _) h
theorem gd_con {x : Str} {c0 : W} {u : Value} {v0 : V} (gd : Gd (tbx S m l) k P w K mg base) (hm : mg x = some u) (hr : RelV v0 u) (hs : ∀ F, Sh K F c0 v0) : Gd (tbx S m ((x, .con c0) :: l)) k P w K mg base := gd_gl gd (Nat.le_refl _) ⟨u, v0, hm, hr, hs⟩
theorem oexB_ok {C : Addr} (h : oexB K C = true) : OexC K C := by
  unfold oexB at h
  rw [Bool.and_eq_true] at h
  obtain ⟨h0, h1⟩ := h
  simp only [Bool.and_eq_true, decide_eq_true_eq] at h1
  obtain ⟨h1, h2, h3, h4⟩ := h1
  refine ⟨?_, h1, h2, h3, h4⟩
  split at h0
  · rename_i dd c sl hk
    rw [Bool.and_eq_true] at h0
    obtain ⟨e1, e2⟩ := h0
    split at e1
    · rename_i D up hm
      simp only [Bool.and_eq_true, decide_eq_true_eq, Bool.not_eq_true'] at e1
      obtain ⟨rfl, r1, r2, r3⟩ := e1
      split at e2
      · rename_i a0 a1 a2 a3 z a5 hsl
        have ez := of_decide_eq_true e2
        subst ez
        obtain ⟨c1, c2, c3, c4, c5, c6, c7, c8, c9, c10, c11⟩ := c
        dsimp only at hm r2 r3
        subst hm
        subst r2
        subst r3
        obtain ⟨sl⟩ := sl
        dsimp only at hsl
        subst hsl
        exact ⟨_, _, _, _, _, _, _, _, _, _, _, _, _, _, _, hk, r1⟩
      · cases e2
    · cases e1
  · cases h0
theorem veiB_ok {C0 : Addr} (h : veiB K C0 = true) : VeI K C0 := by
  unfold veiB at h
  simp only [Bool.and_eq_true, decide_eq_true_eq] at h
  obtain ⟨h1, h2, h3, h4⟩ := h
  refine ⟨h1, h2, h3, ?_⟩
  split at h4
  · rename_i z e
    have := of_decide_eq_true h4
    subst this
    exact e
  · cases h4
theorem gd_exi {x c fs s q qual : Str} {C D f : String} {st : Stmt} {fd : FuncData} (gd : Gd (tbx S m l) k P w K mg base) (hm : mg x = some (.ref (cad K C))) (hD : mg c = some (.ref (cad K D))) (h1 : oexB K (cad K C) = true) (h2 : veiB K (cad K D) = true)
    (h3 : PySem.W.findIn K (.ref (cad K C)) (nm f) = some none) (h4 : (He.Fa.meth (nm C) "__init__").ok K = true) (fu : FunD K "__init__" qual (defArgs st) (defBody st) (defScope st) [] [] (He.ma K (cad K C) "__init__") fd)
    (hs : C8.scC [s, q] [s, q] (defScope st) = true) (hx : xiOf (defScope st) (defBody st) = some (c, fs, s, q)) (hf : fs = nm f)
    (hb : ∀ (kV doc pm : Value) (an : Option Addr) (cdv ct : Value) (us : List Value), us.length = 2 → bindArgs (PySem.W.fnOf "__init__" qual (defArgs st) (defBody st) (defScope st) .none kV doc pm an cdv ct) ⟨us, []⟩ = pure ([s, q].zip us)) :
    Gd (tbx S m ((x, .exc C (some f)) :: l)) (k + 1) P w K mg base := by
  obtain ⟨m1, m2, m3⟩ := He.meth_ok h4
  refine gd_gl gd (Nat.le_add_right _ _) ⟨hm, oexB_ok h1, _, fd, [s, q], m1, ?_, xi_ok fu (C8.fnScope_by hs) hx hf hD (veiB_ok h2) (oexB_ok h1) h3, fu.bindsN hb⟩
  exact beq_iff_eq.mp m2
end
section
open PySem.W
variable {tabs : List Ck} {fa : List He.Fa} {fn : List He.DefD} {K : PySem.W.Frag}
theorem tupP_ok {K : PySem.W.Frag} {a : Addr} {vs : List He.Dv} (h : tupP K a vs = true) (H : Hp) : SqT K H a (vs.map (He.Dv.v K)) := by
  unfold tupP at h
  cases q : K.lookup a with
  | none =>
    rw [q] at h
    cases h
  | some o =>
    obtain ⟨oc, od, dt, osl⟩ := o
    rw [q] at h
    cases oc with
    | type c =>
      cases dt with
      | seq its n =>
        have h' : (decide (c = "tuple") && (decide (its.size ≤ sizeLine) && He.relAll (vs.map (He.Dv.v K)) its.toList)) = true := h
        rw [Bool.and_eq_true, Bool.and_eq_true] at h'
        obtain ⟨h1, h3, h4⟩ := h'
        exact .inr ⟨_, its, n, q, congrArg Value.type (of_decide_eq_true h1), rfl, of_decide_eq_true h3, He.relAll_ok h4⟩
      | _ => cases h
    | _ => cases dt <;> cases h
theorem gd_ali {P : Program} {w : World} {mg : Str → Option Value} {base : Heap} {S : Fx} {m : Mtb} {l : List (Str × Gk)} {k : Nat} {x y : Str} {F : Fn} {np : Nat} (gd : Gd (tbx S m l) k P w K mg base) (hy : l.lookup y = some (.fn F np)) (gx : mg x = some (.ref (He.ga K x))) (gy : mg y = some (.ref (He.ga K y))) (h : (Ck.ali x y).ok K = true) :
    Gd (tbx S m ((x, .fn F np) :: l)) k P w K mg base := by
  obtain ⟨f, fd, ps, h1, h2, h3, h4⟩ := gd.fn y F np hy
  have e : He.ga K x = He.ga K y := by
    have e0 : PySem.W.nsIn K mainGlobals x = PySem.W.nsIn K mainGlobals y := He.eqO_ok h
    unfold He.ga
    rw [e0]
  exact gd_gl gd (Nat.le_refl _) ⟨f, fd, ps, by rw [gx, e, ← gy, h1], h2, h3, h4⟩
theorem SaysR.d (c : SaysR tabs fa fn K) : He.SaysD fa fn K := by
  have c1 : ((He.obsD fa fn K).1 && tabs.all (fun t => t.ok K)) = true := congrArg (fun z : He.AlD => z.1) c
  have c2 : (He.obsD fa fn K).2 = fn.map He.DefD.val := congrArg (fun z : He.AlD => z.2) c
  rw [Bool.and_eq_true] at c1
  show He.obsD fa fn K = (true, fn.map He.DefD.val)
  rw [← c1.1, ← c2]
theorem SaysR.tab (c : SaysR tabs fa fn K) (i : Nat) {t : Ck} (h : tabs[i]? = some t := by rfl) : t.ok K = true := by
  have c1 : ((He.obsD fa fn K).1 && tabs.all (fun t => t.ok K)) = true := congrArg (fun z : He.AlD => z.1) c
  rw [Bool.and_eq_true] at c1
  exact List.all_eq_true.mp c1.2 t (List.mem_of_getElem? h)
end
theorem law_end {l : PySem.W.OpenLaw} {n k : Nat} {q : Program} {loose : List Str} {XP : (Str → Option Value) → Heap → Prop} {YP : World → Heap → Prop} {d : DefRec} {x : Str} {Fn : Fn}
    (hn : l.most = some n) (hn2 : n ≤ sizeLine) (hdf : d.params.defaults = []) (hr : Room k callerA)
    (F : ∀ (w : World) (mg : Str → Option Value) (fa : Addr) (h : Heap), YP w h → h.Ns mainGlobals mg → mg d.name = some (.ref fa) →
      ∃ (K : PySem.W.Frag) (fd : FuncData), K.In h ∧ (∀ (s : Shared) (u : Value), BindsTo s fd ⟨[u], []⟩ [(x, u)]) ∧ ∀ base : Heap, K.In base → base.Ns mainGlobals mg → FnOk l.prog w K mg base (L2.CX l.prog w) k fa fd [x] (spW K Fn))
    (pure_ : ∀ ns : List Int, ns.length ≤ n → (∀ z ∈ ns, Builtin.Int.intBits z ≤ 1048576) → ∃ os, Fn [.scr ns] = some (.ok (.bl true), os)) :
    PySem.W.WalkO q loose XP YP l.row.toRowW d [] (fun f vs => PySem.call f vs) := by
  refine Att.attach_callB hn hdf fun w s0 s1 mg mb fa o pm cd doc a vs ns G Y ho hd hcd hmg hobj hints hlen hbits hg => ?_
  obtain ⟨K, fd, KX, hb, hF⟩ := F w mg fa _ Y G.T.g hmg
  refine law_call KX G.T.g G.T.b G.T.builtins G.T.nolimit hg hobj hints (Nat.le_trans hlen hn2) hr hF hb (fun H hO hS => ?_) fun H e s' ⟨_, _, _, _, _, _, _, _, _, _, _, _, z⟩ => z
  obtain ⟨os, hp⟩ := pure_ ns hlen hbits
  refine ⟨H, fun _ => none, [.scr ns], .ok (.bl true), os, ⟨Sub.refl _, fun _ _ z => (nomatch z), fun _ _ z => (nomatch z), rfl, fun i u hu => ?_⟩, hp, fun v F' H' g' m _ _ _ _ hO => by cases hO; rfl⟩
  cases i with
  | zero => cases hu; exact ⟨.ref a, rfl, Ow.of (.scr hS)⟩
  | succ i => cases hu
end Rf
/-! plain laws of the pure runs -/
namespace Rf
open PySem
theorem bnd_ok {α β : Type} {m : M α} {k : α → M β} {ρ ρ' : Rho} {a : α} (h : m ρ = some (.ok a, ρ')) : bnd m k ρ = k a ρ' := by unfold bnd; rw [h]
/-! ### while -/
theorem whN_mono {c : M Bool} {b : M Flow} : ∀ {n : Nat} {ρ : Rho} {r : Out Flow × Rho}, whN c b n ρ = some r → ∀ k, whN c b (n + k) ρ = some r
  | 0, ρ, r, h, k => by cases h
  | n + 1, ρ, r, h, k => by
    rw [whN_succ] at h
    have e : n + 1 + k = (n + k) + 1 := by omega
    rw [e, whN_succ]
    unfold bnd at h ⊢
    cases x : c ρ with
    | none => rw [x] at h; cases h
    | some q =>
      obtain ⟨o, ρ1⟩ := q
      rw [x] at h
      cases o with
      | ex w => exact h
      | ok t =>
        cases t with
        | false => exact h
        | true =>
          dsimp only at h ⊢
          rw [if_pos rfl] at h ⊢
          cases y : b ρ1 with
          | none => rw [y] at h; cases h
          | some q =>
            obtain ⟨o, ρ2⟩ := q
            rw [y] at h
            cases o with
            | ex w => exact h
            | ok f =>
              cases f with
              | nx => exact whN_mono (n := n) h k
              | bk => exact h
              | rt w => exact h
theorem whl_of {c : M Bool} {b : M Flow} {n : Nat} {ρ : Rho} {r : Out Flow × Rho} (h : whN c b n ρ = some r) : whl c b ρ = some r := by
  have hh : ∃ n, (whN c b n ρ).isSome = true := ⟨n, by rw [h]; rfl⟩
  unfold whl
  rw [dif_pos hh]
  obtain ⟨q, hq⟩ := Option.isSome_iff_exists.mp (Classical.choose_spec hh)
  rw [hq]
  have a := whN_mono hq n
  have d := whN_mono h (Classical.choose hh)
  rw [Nat.add_comm] at a
  rw [d] at a
  exact a.symm
theorem whl_some {c : M Bool} {b : M Flow} {ρ : Rho} {r : Out Flow × Rho} (h : whl c b ρ = some r) : ∃ n, whN c b n ρ = some r := by
  unfold whl at h
  split at h
  · exact ⟨_, h⟩
  · cases h
/-- the loop is over -/
theorem whl_stop {c : M Bool} {b : M Flow} {ρ ρ' : Rho} (h : c ρ = some (.ok false, ρ')) : whl c b ρ = some (.ok .nx, ρ') := by
  refine whl_of (n := 1) ?_
  rw [whN_succ, bnd_ok h]
  rfl
/-- a turn, then the rest -/
theorem whl_turn {c : M Bool} {b : M Flow} {ρ ρ1 ρ2 : Rho} {r : Out Flow × Rho} (h : c ρ = some (.ok true, ρ1)) (hb : b ρ1 = some (.ok .nx, ρ2)) (hr : whl c b ρ2 = some r) : whl c b ρ = some r := by
  obtain ⟨n, hn⟩ := whl_some hr
  refine whl_of (n := n + 1) ?_
  rw [whN_succ, bnd_ok h, if_pos rfl, bnd_ok hb]
  exact hn
/-! ### for -/
theorem forL_nil {tg : Tg} {s : Option (Nat × W)} {b : M Flow} {ρ : Rho} (h : still ρ s) : forL tg s b [] ρ = some (.ok .nx, ρ) := by
  unfold forL
  exact if_pos h
theorem forL_turn {tg : Tg} {s : Option (Nat × W)} {b : M Flow} {x : W} {xs : List W} {ρ ρ1 ρ2 : Rho} {r : Option (Out Flow × Rho)} (h : still ρ s) (ht : stTg tg x ρ = some (.ok (), ρ1)) (hb : b ρ1 = some (.ok .nx, ρ2)) (hr : forL tg s b xs ρ2 = r) : forL tg s b (x :: xs) ρ = r := by
  rw [forL_cons _ _ _ _ _ _ h, bnd_ok ht, bnd_ok hb]
  exact hr
/-- a loop whose body always goes on -/
theorem forL_inv {tg : Tg} {b : M Flow} (I : Rho → Prop) : ∀ (xs : List W) (ρ : Rho), I ρ → (∀ x ∈ xs, ∀ ρ, I ρ → ∃ ρ1 ρ2, stTg tg x ρ = some (.ok (), ρ1) ∧ b ρ1 = some (.ok .nx, ρ2) ∧ I ρ2) → ∃ ρ', forL tg none b xs ρ = some (.ok .nx, ρ') ∧ I ρ'
  | [], ρ, h, _ => ⟨ρ, forL_nil trivial, h⟩
  | x :: xs, ρ, h, k => by
    obtain ⟨ρ1, ρ2, h1, h2, h3⟩ := k x (List.mem_cons_self ..) ρ h
    obtain ⟨ρ', h4, h5⟩ := forL_inv I xs ρ2 h3 fun y hy => k y (List.mem_cons_of_mem _ hy)
    exact ⟨ρ', forL_turn trivial h1 h2 h4, h5⟩
/-! ### comprehensions -/
theorem lcL_gen {tg : Tg} {s : Option (Nat × W)} {ow : List Nat} {c : M Bool} {m : M W} {ρ0 : Rho} (R : W → Rho) (p : W → Bool) (f : W → W) (hw : wipe ρ0 ow = ρ0) (hs : still ρ0 s) :
    ∀ (its acc : List W) (ρ : Rho), wipe ρ ow = ρ0 → still ρ s → (∀ x ∈ its, stTg tg x ρ0 = some (.ok (), R x) ∧ c (R x) = some (.ok (p x), R x) ∧ (p x = true → m (R x) = some (.ok (f x), R x)) ∧ wipe (R x) ow = ρ0 ∧ still (R x) s) →
      ∃ ρ', lcL tg s ow c m its acc ρ = some (.ok (acc ++ (its.filter p).map f), ρ') ∧ (ρ' = ρ ∨ ∃ x ∈ its, ρ' = R x)
  | [], acc, ρ, h1, h2, _ => by
    refine ⟨ρ, ?_, .inl rfl⟩
    unfold lcL
    rw [if_pos h2]
    simp
  | x :: xs, acc, ρ, h1, h2, k => by
    obtain ⟨k1, k2, k3, k4, k5⟩ := k x (List.mem_cons_self ..)
    have kr := fun y hy => k y (List.mem_cons_of_mem _ hy)
    unfold lcL
    rw [if_pos h2, h1, bnd_ok k1, bnd_ok k2]
    cases hp : p x with
    | true =>
      rw [if_pos rfl, bnd_ok (k3 hp)]
      obtain ⟨ρ', e1, e2⟩ := lcL_gen R p f hw hs xs (acc ++ [f x]) (R x) k4 k5 kr
      refine ⟨ρ', ?_, ?_⟩
      · rw [e1, List.filter_cons_of_pos hp]
        simp
      · rcases e2 with rfl | ⟨y, hy, rfl⟩
        · exact .inr ⟨x, List.mem_cons_self .., rfl⟩
        · exact .inr ⟨y, List.mem_cons_of_mem _ hy, rfl⟩
    | false =>
      rw [if_neg (by decide)]
      obtain ⟨ρ', e1, e2⟩ := lcL_gen R p f hw hs xs acc (R x) k4 k5 kr
      refine ⟨ρ', ?_, ?_⟩
      · rw [e1, List.filter_cons_of_neg (by rw [hp]; decide)]
      · rcases e2 with rfl | ⟨y, hy, rfl⟩
        · exact .inr ⟨x, List.mem_cons_self .., rfl⟩
        · exact .inr ⟨y, List.mem_cons_of_mem _ hy, rfl⟩
/-- [f(x) for x in its if p(x)], one name -/
theorem lc_nm {v : Nat} {c : M Bool} {m : M W} {its : List W} {ρ : Rho} (p : W → Bool) (f : W → W) (hv : v < ρ.length) (h : ∀ x ∈ its, c (ρ.set v (some x)) = some (.ok (p x), ρ.set v (some x)) ∧ (p x = true → m (ρ.set v (some x)) = some (.ok (f x), ρ.set v (some x)))) :
    blk [v] (lcL (.nm v) none [v] c m its []) ρ = some (.ok ((its.filter p).map f), ρ) := by
  have hlen : v < (wipe ρ [v]).length := by
    show v < (ρ.set v none).length
    rwa [List.length_set]
  have hset : ∀ w : Option W, (ρ.set v none).set v w = ρ.set v w := fun w => by simp
  obtain ⟨ρ', e1, e2⟩ := lcL_gen (tg := .nm v) (s := none) (ow := [v]) (c := c) (m := m) (ρ0 := wipe ρ [v]) (fun x => ρ.set v (some x)) p f (by show ((ρ.set v none).set v none) = ρ.set v none; simp) trivial its [] (wipe ρ [v]) (by show ((ρ.set v none).set v none) = ρ.set v none; simp) trivial fun x hx => by
    obtain ⟨h1, h2⟩ := h x hx
    refine ⟨?_, h1, h2, by show ((ρ.set v (some x)).set v none) = ρ.set v none; simp, trivial⟩
    show (if v < (ρ.set v none).length then some (Out.ok (), (ρ.set v none).set v (some x)) else none) = _
    rw [List.length_set, if_pos hv, hset]
  unfold blk
  rw [e1]
  have back : ∀ w : Option W, (ρ.set v w).set v ((ρ[v]?).join) = ρ := fun w => by
    rw [List.getElem?_eq_getElem hv]
    simp
  have e3 : unwipe ρ ρ' [v] = ρ := by
    show ρ'.set v ((ρ[v]?).join) = ρ
    rcases e2 with rfl | ⟨x, _, rfl⟩
    · exact back none
    · exact back _
  show some (Out.ok ([] ++ (its.filter p).map f), unwipe ρ ρ' [v]) = _
  rw [e3]; rfl
theorem lc_all {v : Nat} {m : M W} {its : List W} {ρ : Rho} (f : W → W) (hv : v < ρ.length) (h : ∀ x ∈ its, m (ρ.set v (some x)) = some (.ok (f x), ρ.set v (some x))) :
    blk [v] (lcL (.nm v) none [v] (evB none) m its []) ρ = some (.ok (its.map f), ρ) := by
  have e := lc_nm (c := evB none) (m := m) (its := its) (fun _ => true) f hv fun x hx => ⟨by unfold evB; rfl, fun _ => h x hx⟩
  rw [e]
  have e2 : its.filter (fun _ => true) = its := List.filter_eq_self.mpr fun _ _ => rfl
  rw [e2]
theorem bools_map (g : W → Bool) : ∀ its : List W, bools (its.map fun x => .bl (g x)) = some (its.map g)
  | [] => rfl
  | x :: xs => by
    show (bools (xs.map fun x => .bl (g x))).map (g x :: ·) = _
    rw [bools_map g xs]; rfl
/-! ### operators at ints -/
theorem wb_add {i j : Int} : wBin .add (.int i) (.int j) = some (.int (i + j)) := rfl
theorem wb_sub {i j : Int} : wBin .sub (.int i) (.int j) = some (.int (i - j)) := rfl
theorem wb_mul {i j : Int} (h : i.natAbs.log2 + j.natAbs.log2 < MUL) : wBin .mul (.int i) (.int j) = some (.int (i * j)) := if_pos h
theorem wb_mod {i j : Int} (h : 0 < j) : wBin .mod (.int i) (.int j) = some (.int (i % j)) := by
  show (if j ≠ 0 then some (W.int (i.fmod j)) else none) = _
  rw [if_pos (by omega), Int.fmod_eq_emod_of_nonneg _ (by omega)]
theorem wb_fdiv {i j : Int} (h : 0 < j) (h2 : j.natAbs.log2 < DIV) : wBin .fdiv (.int i) (.int j) = some (.int (i / j)) := by
  show (if j ≠ 0 ∧ j.natAbs.log2 < DIV then some (W.int (i.fdiv j)) else none) = _
  rw [if_pos ⟨by omega, h2⟩, Int.fdiv_eq_ediv_of_nonneg _ (by omega)]
theorem wb_pow {i j : Int} (h : 0 ≤ j ∧ j ≤ 1000000 ∧ i.natAbs < 2 ^ 64) : wBin .pow (.int i) (.int j) = some (.int (i ^ j.toNat)) := if_pos h
/-- the bits of what is below a power of two -/
theorem log_lt {i : Int} {n : Nat} (hn : 0 < n) (h : i.natAbs < 2 ^ n) : i.natAbs.log2 < n := by
  by_cases c : i.natAbs = 0
  · rw [c]; simpa using hn
  · exact (Nat.log2_lt c).mpr h
theorem rg1 : List.range 1 = [0] := rfl
theorem rg2 : List.range 2 = [0, 1] := rfl
theorem rg3 : List.range 3 = [0, 1, 2] := rfl
theorem rg4 : List.range 4 = [0, 1, 2, 3] := rfl
theorem rg5 : List.range 5 = [0, 1, 2, 3, 4] := rfl
theorem rg6 : List.range 6 = [0, 1, 2, 3, 4, 5] := rfl
theorem rg7 : List.range 7 = [0, 1, 2, 3, 4, 5, 6] := rfl
/-- a comprehension over one name -/
theorem ev_lcp {elt : Ex} {v : Nat} {it : It} {c : Option Ex} {ρ ρ0 : Rho} {its : List W} (p : W → Bool) (f : W → W) (hsrc : src it ρ0 = some (.ok ⟨its, none⟩, ρ)) (hl : its.length < LIM) (hv : v < ρ.length)
    (h : ∀ x ∈ its, evB c (ρ.set v (some x)) = some (.ok (p x), ρ.set v (some x)) ∧ (p x = true → (bnd (ev elt) sh) (ρ.set v (some x)) = some (.ok (f x), ρ.set v (some x)))) :
    ev (.lc elt (.nm v) it c [v]) ρ0 = some (.ok (.val (.lst true ((its.filter p).map f))), ρ) := by
  unfold ev
  rw [bnd_ok hsrc]
  dsimp only
  rw [if_pos hl, bnd_ok (lc_nm p f hv h)]
  rfl
theorem ev_lc {elt : Ex} {v : Nat} {it : It} {ρ ρ0 : Rho} {its : List W} (f : W → W) (hsrc : src it ρ0 = some (.ok ⟨its, none⟩, ρ)) (hl : its.length < LIM) (hv : v < ρ.length)
    (h : ∀ x ∈ its, (bnd (ev elt) sh) (ρ.set v (some x)) = some (.ok (f x), ρ.set v (some x))) : ev (.lc elt (.nm v) it none [v]) ρ0 = some (.ok (.val (.lst true (its.map f))), ρ) := by
  unfold ev
  rw [bnd_ok hsrc]
  dsimp only
  rw [if_pos hl, bnd_ok (lc_all f hv h)]
  rfl
/-- Euclid's loop -/
theorem euclidG (c : M Bool) (body : M Flow) (S : Int → Int → Rho) (hc : ∀ x y, c (S x y) = some (.ok (!(y == 0)), S x y)) (hb : ∀ x y, 0 < y → body (S x y) = some (.ok .nx, S y (x % y))) :
    ∀ (n : Nat) (x y : Int), 0 ≤ x → 0 ≤ y → y.toNat ≤ n → whl c body (S x y) = some (.ok .nx, S (Int.gcd x y) 0) := by
  have stop : ∀ x : Int, 0 ≤ x → whl c body (S x 0) = some (.ok .nx, S (Int.gcd x 0) 0) := fun x hx => by
    have e : ((Int.gcd x 0 : Nat) : Int) = x := by simp [Int.gcd, Int.natAbs_of_nonneg hx]
    rw [e]
    exact whl_stop (hc x 0)
  intro n
  induction n with
  | zero =>
    intro x y hx hy hn
    have : y = 0 := by omega
    subst this
    exact stop x hx
  | succ n ih =>
    intro x y hx hy hn
    by_cases z : y = 0
    · subst z
      exact stop x hx
    · have hp : 0 < y := by omega
      have hm := Int.emod_nonneg x z
      have hl := Int.emod_lt_of_pos x hp
      have e := ih y (x % y) hy hm (by omega)
      have g : Int.gcd y (x % y) = Int.gcd x y := by
        obtain ⟨a, rfl⟩ := Int.eq_ofNat_of_zero_le hx
        obtain ⟨b, rfl⟩ := Int.eq_ofNat_of_zero_le hy
        show Nat.gcd b (a % b) = Nat.gcd a b
        rw [Nat.gcd_comm a b, Nat.gcd_rec b a, Nat.gcd_comm]
      rw [g] at e
      refine whl_turn (ρ1 := S x y) (ρ2 := S y (x % y)) ?_ (hb x y hp) e
      have hh := hc x y
      have q : (y == 0) = false := by simpa using z
      rw [q] at hh
      exact hh
/-- .. over a list that stands in a slot -/
theorem lc_nmS {v i : Nat} {w0 : W} {c : M Bool} {m : M W} {its : List W} {ρ : Rho} (p : W → Bool) (f : W → W) (hv : v < ρ.length) (hi : i ≠ v) (hs : slot ρ i = some w0) (h : ∀ x ∈ its, c (ρ.set v (some x)) = some (.ok (p x), ρ.set v (some x)) ∧ (p x = true → m (ρ.set v (some x)) = some (.ok (f x), ρ.set v (some x)))) :
    blk [v] (lcL (.nm v) (some (i, w0)) [v] c m its []) ρ = some (.ok ((its.filter p).map f), ρ) := by
  have hset : ∀ w : Option W, (ρ.set v none).set v w = ρ.set v w := fun w => by simp
  have st : ∀ o : Option W, still (ρ.set v o) (some (i, w0)) := fun o => by
    show slot (ρ.set v o) i = some w0
    rw [slot_set hv, if_neg hi]; exact hs
  obtain ⟨ρ', e1, e2⟩ := lcL_gen (tg := .nm v) (s := some (i, w0)) (ow := [v]) (c := c) (m := m) (ρ0 := wipe ρ [v]) (fun x => ρ.set v (some x)) p f (by show ((ρ.set v none).set v none) = ρ.set v none; simp) (st none) its [] (wipe ρ [v]) (by show ((ρ.set v none).set v none) = ρ.set v none; simp) (st none) fun x hx => by
    obtain ⟨h1, h2⟩ := h x hx
    refine ⟨?_, h1, h2, by show ((ρ.set v (some x)).set v none) = ρ.set v none; simp, st _⟩
    show (if v < (ρ.set v none).length then some (Out.ok (), (ρ.set v none).set v (some x)) else none) = _
    rw [List.length_set, if_pos hv, hset]
  unfold blk
  rw [e1]
  have back : ∀ w : Option W, (ρ.set v w).set v ((ρ[v]?).join) = ρ := fun w => by
    rw [List.getElem?_eq_getElem hv]
    simp
  have e3 : unwipe ρ ρ' [v] = ρ := by
    show ρ'.set v ((ρ[v]?).join) = ρ
    rcases e2 with rfl | ⟨x, _, rfl⟩
    · exact back none
    · exact back _
  show some (Out.ok ([] ++ (its.filter p).map f), unwipe ρ ρ' [v]) = _
  rw [e3]; rfl
theorem ev_lcS {elt : Ex} {v i : Nat} {ρ : Rho} {its : List W} (f : W → W) (hs : slot ρ i = some (.lst true its)) (hl : its.length < LIM) (hv : v < ρ.length) (hi : i ≠ v)
    (h : ∀ x ∈ its, (bnd (ev elt) sh) (ρ.set v (some x)) = some (.ok (f x), ρ.set v (some x))) : ev (.lc elt (.nm v) (.of (.var i)) none [v]) ρ = some (.ok (.val (.lst true (its.map f))), ρ) := by
  have hsrc : src (.of (.var i)) ρ = some (.ok ⟨its, some (i, .lst true its)⟩, ρ) := by
    unfold src ev
    unfold bnd
    dsimp only
    rw [hs]
    simp [own, rd, drf, getP, hs, wOf, ret, bnd]
  unfold ev
  rw [bnd_ok hsrc]
  dsimp only
  have e2 : its.filter (fun _ => true) = its := List.filter_eq_self.mpr fun _ _ => rfl
  rw [if_pos hl, bnd_ok (lc_nmS (fun _ => true) f hv hi hs fun x hx => ⟨by unfold evB; rfl, fun _ => h x hx⟩), e2]
  rfl
theorem wb_cat {o o' : Bool} {xs ys : List W} (h : xs.length + ys.length < LIM) : wBin .add (.lst o xs) (.lst o' ys) = some (.lst true (xs ++ ys)) := if_pos h
theorem ix_head {o : Bool} {w : W} {r : List W} : wIx (.lst o (w :: r)) (.int 0) = some w := by
  show (ixN (w :: r).length 0).bind (fun j => (w :: r)[j]?) = some w
  have : ixN (w :: r).length 0 = some 0 := by
    unfold ixN
    rw [if_pos (by decide), if_pos (by simp)]
    rfl
  rw [this]; rfl
theorem bools_bl : ∀ bs : List Bool, bools (bs.map .bl) = some bs
  | [] => rfl
  | b :: bs => by
    show (bools (bs.map .bl)).map (b :: ·) = _
    rw [bools_bl bs]; rfl
theorem all_bl (bs : List Bool) (o : Bool) : wBi .all [.lst o (bs.map .bl)] = some (.bl (bs.all id)) := by
  show (bools (bs.map .bl)).map (fun bs => W.bl (bs.all id)) = _
  rw [bools_bl]; rfl
/-- if not all(..): return False, when all hold -/
theorem if_all {np : Nat} {L : Ex} {ρ : Rho} {bs : List Bool} (h : ev L ρ = some (.ok (.val (.lst true (bs.map .bl))), ρ)) (ha : bs.all id = true) : exec np (.ite (.nt (.bi .all [L])) [(.ret (.con (.bl false)))] []) ρ = some (.ok .nx, ρ) := by
  have q := all_bl bs true
  rw [ha] at q
  simp [exec, execs, ev, evT, bnd, ret, h, rds, rd, drf, lft, q, tru, wTru]
theorem execs_nx {np : Nat} {s : St} {ss : List St} {ρ ρ' : Rho} (h : exec np s ρ = some (.ok .nx, ρ')) : execs np (s :: ss) ρ = execs np ss ρ' := by
  rw [execs, bnd_ok h]
theorem execs_nil {np : Nat} {ρ : Rho} : execs np [] ρ = some (.ok .nx, ρ) := by
  rw [execs]; rfl
end Rf
/-! typed values, stepping lemmas -/
namespace Rf
open PySem
/-! ### tables by constructors -/
theorem own_non : own .non = false := rfl
theorem own_bl {b : Bool} : own (.bl b) = false := rfl
theorem own_int {i : Int} : own (.int i) = false := rfl
theorem own_str {x : Str} : own (.str x) = false := rfl
theorem own_tup {xs : List W} : own (.tup xs) = false := rfl
theorem own_lst {o : Bool} {xs : List W} : own (.lst o xs) = o := rfl
theorem own_dic {o : Bool} {xs : List (Ky × W)} : own (.dic o xs) = o := rfl
theorem own_ins {o : Bool} {C : String} {fs : List (String × W)} : own (.ins o C fs) = o := rfl
theorem own_exc {C : String} {fs : List (String × W)} : own (.exc C fs) = false := rfl
theorem own_scr {ns : List Int} : own (.scr ns) = false := rfl
theorem frz_non : frz .non = some .non := rfl
theorem frz_bl {b : Bool} : frz (.bl b) = some (.bl b) := rfl
theorem frz_int {i : Int} : frz (.int i) = some (.int i) := rfl
theorem frz_str {x : Str} : frz (.str x) = some (.str x) := rfl
theorem frz_tup {xs : List W} : frz (.tup xs) = some (.tup xs) := rfl
theorem frz_lst {o : Bool} {xs : List W} : frz (.lst o xs) = some (.lst false xs) := rfl
theorem frz_dic {o : Bool} {xs : List (Ky × W)} : frz (.dic o xs) = some (.dic false xs) := rfl
theorem frz_exc {C : String} {fs : List (String × W)} : frz (.exc C fs) = some (.exc C fs) := rfl
theorem frz_scr {ns : List Int} : frz (.scr ns) = some (.scr ns) := rfl
theorem tru_non : wTru .non = some false := rfl
theorem tru_bl {b : Bool} : wTru (.bl b) = some b := rfl
theorem tru_int {i : Int} : wTru (.int i) = some (i != 0) := rfl
theorem tru_tup {xs : List W} : wTru (.tup xs) = some (!xs.isEmpty) := rfl
theorem tru_lst {o : Bool} {xs : List W} : wTru (.lst o xs) = some (!xs.isEmpty) := rfl
theorem of_tup {xs : List W} : wOf (.tup xs) = some xs := rfl
theorem of_lst {o : Bool} {xs : List W} : wOf (.lst o xs) = some xs := rfl
theorem in_lst {o : Bool} {xs : List W} : isIn (.lst o xs) = false := rfl
theorem in_dic {o : Bool} {xs : List (Ky × W)} : isIn (.dic o xs) = false := rfl
theorem in_ins {o : Bool} {C : String} {fs : List (String × W)} : isIn (.ins o C fs) = true := rfl
theorem ls_lst {o : Bool} {xs : List W} : isLs (.lst o xs) = true := rfl
theorem ls_dic {o : Bool} {xs : List (Ky × W)} : isLs (.dic o xs) = true := rfl
theorem ls_ins {o : Bool} {C : String} {fs : List (String × W)} : isLs (.ins o C fs) = false := rfl
theorem isi_non {T : String} : wIsi .non T = some false := rfl
theorem isi_bl {b : Bool} {T : String} : wIsi (.bl b) T = some (T == "bool" || T == "int") := rfl
theorem isi_i {i : Int} {T : String} : wIsi (.int i) T = some (T == "int") := rfl
theorem isi_str {x : Str} {T : String} : wIsi (.str x) T = some (T == "str") := rfl
theorem isi_t {xs : List W} {T : String} : wIsi (.tup xs) T = some (T == "tuple") := rfl
theorem isi_l {o : Bool} {xs : List W} {T : String} : wIsi (.lst o xs) T = some (T == "list") := rfl
theorem isi_d {o : Bool} {xs : List (Ky × W)} {T : String} : wIsi (.dic o xs) T = some (T == "dict") := rfl
/-! ### stepping -/
section
variable {np nl : Nat} {ρ ρ1 ρ2 : Rho} {s : St} {ss body : List St} {ws os : List W} {w : W}
theorem run_rt (hl : ws.length = np) (hf : fzS ((List.range np).filter fun j => decide (j ∈ stsIx body)) (ws.map some ++ List.replicate (nl - np) none) = some (.ok (), ρ1)) (h : execs np body ρ1 = some (.ok (.rt w), ρ2)) (ho : outs (stsIx body) ρ2 0 ws = some os) :
    runFn np nl body ws = some (.ok w, os) := by
  unfold runFn
  rw [if_pos hl, bnd_ok hf, h]
  show fin _ _ _ _ = _
  unfold fin
  rw [ho]; rfl
theorem run_nx (hl : ws.length = np) (hf : fzS ((List.range np).filter fun j => decide (j ∈ stsIx body)) (ws.map some ++ List.replicate (nl - np) none) = some (.ok (), ρ1)) (h : execs np body ρ1 = some (.ok .nx, ρ2)) (ho : outs (stsIx body) ρ2 0 ws = some os) :
    runFn np nl body ws = some (.ok .non, os) := by
  unfold runFn
  rw [if_pos hl, bnd_ok hf, h]
  show fin _ _ _ _ = _
  unfold fin
  rw [ho]; rfl
theorem run_ex (hl : ws.length = np) (hf : fzS ((List.range np).filter fun j => decide (j ∈ stsIx body)) (ws.map some ++ List.replicate (nl - np) none) = some (.ok (), ρ1)) (h : execs np body ρ1 = some (.ex w, ρ2)) (ho : outs (stsIx body) ρ2 0 ws = some os) :
    runFn np nl body ws = some (.ex w, os) := by
  unfold runFn
  rw [if_pos hl, bnd_ok hf, h]
  show fin _ _ _ _ = _
  unfold fin
  rw [ho]; rfl
theorem stp {r : Option (Out Flow × Rho)} (h : exec np s ρ = some (.ok .nx, ρ1)) (k : execs np ss ρ1 = r) : execs np (s :: ss) ρ = r := by
  rw [execs_nx h]; exact k
theorem stp_rt (h : exec np s ρ = some (.ok (.rt w), ρ1)) : execs np (s :: ss) ρ = some (.ok (.rt w), ρ1) := by
  rw [execs, bnd_ok h]; rfl
theorem stp_ex (h : exec np s ρ = some (.ex w, ρ1)) : execs np (s :: ss) ρ = some (.ex w, ρ1) := by
  rw [execs]; unfold bnd; rw [h]
theorem x_ite {c : Ex} {a b : List St} {k : Bool} {r : Option (Out Flow × Rho)} (hc : bnd (ev c) tru ρ = some (.ok k, ρ1)) (h : execs np (if k then a else b) ρ1 = r) : exec np (.ite c a b) ρ = r := by
  rw [exec]
  have e : bnd (ev c) (fun t => bnd (tru t) fun k => if k then execs np a else execs np b) ρ = bnd (bnd (ev c) tru) (fun k => if k then execs np a else execs np b) ρ := by
    unfold bnd
    cases ev c ρ with
    | none => rfl
    | some q => obtain ⟨o, q⟩ := q; cases o <;> rfl
  rw [e, bnd_ok hc]
  cases k <;> exact h
theorem x_for {tg : Tg} {it : It} {b : List St} {its : List W} {a : Option (Nat × W)} {r : Option (Out Flow × Rho)} (hs : src it ρ = some (.ok ⟨its, a⟩, ρ1)) (ho : srcOff a (tgIx tg ++ stsIx b) = true) (h : forL tg a (execs np b) its ρ1 = r) : exec np (.for_ tg it b) ρ = r := by
  rw [exec, bnd_ok hs]
  dsimp only
  rw [if_pos ho]; exact h
theorem x_whl {c : Ex} {b : List St} {r : Option (Out Flow × Rho)} (h : whl (bnd (ev c) tru) (execs np b) ρ = r) : exec np (.whl c b) ρ = r := by
  rw [exec]; exact h
end
/-- a loop whose body always goes on: an invariant by the number of turns -/
theorem forL_ix {tg : Tg} {b : M Flow} (I : Nat → Rho → Prop) : ∀ (xs : List W) (n : Nat) (ρ : Rho), I n ρ → (∀ i x, xs[i]? = some x → ∀ ρ, I (n + i) ρ → ∃ ρ1 ρ2, stTg tg x ρ = some (.ok (), ρ1) ∧ b ρ1 = some (.ok .nx, ρ2) ∧ I (n + i + 1) ρ2) → ∃ ρ', forL tg none b xs ρ = some (.ok .nx, ρ') ∧ I (n + xs.length) ρ'
  | [], n, ρ, h, _ => ⟨ρ, forL_nil trivial, h⟩
  | x :: xs, n, ρ, h, k => by
    obtain ⟨ρ1, ρ2, h1, h2, h3⟩ := k 0 x rfl ρ h
    obtain ⟨ρ', h4, h5⟩ := forL_ix I xs (n + 1) ρ2 h3 fun i y hy ρ hI => by
      have := k (i + 1) y (by simpa using hy) ρ (by rw [show n + (i + 1) = n + 1 + i by omega]; exact hI)
      rw [show n + (i + 1) = n + 1 + i by omega] at this
      exact this
    refine ⟨ρ', forL_turn trivial h1 h2 h4, ?_⟩
    rw [List.length_cons, show n + (xs.length + 1) = n + 1 + xs.length by omega]
    exact h5
/-- a loop that may return -/
theorem forL_rt {tg : Tg} {b : M Flow} (I : Nat → Rho → Prop) (R : W → Rho → Prop) : ∀ (xs : List W) (n : Nat) (ρ : Rho), I n ρ → (∀ i x, xs[i]? = some x → ∀ ρ, I (n + i) ρ → ∃ ρ1, stTg tg x ρ = some (.ok (), ρ1) ∧ ((∃ ρ2, b ρ1 = some (.ok .nx, ρ2) ∧ I (n + i + 1) ρ2) ∨ ∃ w ρ2, b ρ1 = some (.ok (.rt w), ρ2) ∧ R w ρ2)) →
    (∃ ρ', forL tg none b xs ρ = some (.ok .nx, ρ') ∧ I (n + xs.length) ρ') ∨ ∃ w ρ', forL tg none b xs ρ = some (.ok (.rt w), ρ') ∧ R w ρ'
  | [], n, ρ, h, _ => .inl ⟨ρ, forL_nil trivial, h⟩
  | x :: xs, n, ρ, h, k => by
    obtain ⟨ρ1, h1, h2⟩ := k 0 x rfl ρ h
    rcases h2 with ⟨ρ2, h2, h3⟩ | ⟨w, ρ2, h2, h3⟩
    · have := forL_rt I R xs (n + 1) ρ2 h3 fun i y hy ρ hI => by
        have := k (i + 1) y (by simpa using hy) ρ (by rw [show n + (i + 1) = n + 1 + i by omega]; exact hI)
        rw [show n + (i + 1) = n + 1 + i by omega] at this
        exact this
      rcases this with ⟨ρ', h4, h5⟩ | ⟨w, ρ', h4, h5⟩
      · refine .inl ⟨ρ', forL_turn trivial h1 h2 h4, ?_⟩
        rw [List.length_cons, show n + (xs.length + 1) = n + 1 + xs.length by omega]
        exact h5
      · exact .inr ⟨w, ρ', forL_turn trivial h1 h2 h4, h5⟩
    · refine .inr ⟨w, ρ2, ?_, h3⟩
      rw [forL_cons tg none b x xs ρ trivial, bnd_ok h1, bnd_ok h2]
      rfl
/-! ### ranges -/
theorem rngs_eq : ∀ (n : Nat) (lo : Int), rngs lo n = (List.range n).map fun (i : Nat) => W.int (lo + (i : Int)) := fun n lo => by
  apply List.ext_getElem?
  intro i
  rcases h : (rngs lo n)[i]? with _ | x
  · have := List.getElem?_eq_none_iff.mp h
    rw [rngs_len] at this
    rw [List.getElem?_eq_none (by simpa using this)]
  · obtain ⟨h1, h2⟩ := rngs_get n lo i x h
    simp [List.getElem?_range h1, h2]
theorem w_rng1 {j : Int} (h0 : j < 1000000) (h1 : -1000000 ≤ j) : wRng [.int j] = some (rngs 0 j.toNat) := if_pos (by unfold small LIM; omega)
theorem w_rng2 {i j : Int} (h0 : j < 1000000) (h1 : -1000000 ≤ j) (h2 : i < 1000000) (h3 : -1000000 ≤ i) (h4 : j - i < 1000000) : wRng [.int i, .int j] = some (rngs i (j - i).toNat) := if_pos (by unfold small LIM; omega)
/-- [f(k) for k in range(..)], range told -/
theorem lc_rng {elt : Ex} {v : Nat} {it : It} {ρ ρ0 : Rho} {n : Nat} {lo : Int} (f : Nat → W) (hsrc : src it ρ0 = some (.ok ⟨rngs lo n, none⟩, ρ)) (hl : n < LIM) (hv : v < ρ.length)
    (h : ∀ i, i < n → (bnd (ev elt) sh) (ρ.set v (some (.int (lo + i)))) = some (.ok (f i), ρ.set v (some (.int (lo + i))))) : ev (.lc elt (.nm v) it none [v]) ρ0 = some (.ok (.val (.lst true ((List.range n).map f))), ρ) := by
  have e := ev_lc (elt := elt) (fun x => match x with | .int i => f (i - lo).toNat | _ => .non) hsrc (by rw [rngs_len]; exact hl) hv fun x hx => by
    obtain ⟨i, hi⟩ := List.mem_iff_getElem?.mp hx
    obtain ⟨h1, rfl⟩ := rngs_get _ _ _ _ hi
    have e2 : (lo + (i : Int) - lo).toNat = i := by omega
    dsimp only
    rw [e2]
    exact h i h1
  rw [e, rngs_eq, List.map_map]
  congr 6
  funext i
  have e2 : (lo + (i : Int) - lo).toNat = i := by omega
  simp only [Function.comp, e2]
/-! ### numbers -/
def wq (q : Rat) : W := .tup [.int q.num, .int q.den]
abbrev wr (qs : List Rat) : W := .tup (qs.map wq)
@[simp] theorem own_wq (q : Rat) : own (wq q) = false := rfl
@[simp] theorem frz_wq (q : Rat) : frz (wq q) = some (wq q) := rfl
@[simp] theorem ix_wq0 (q : Rat) : wIx (wq q) (.int 0) = some (.int q.num) := rfl
@[simp] theorem ix_wq1 (q : Rat) : wIx (wq q) (.int 1) = some (.int q.den) := rfl
@[simp] theorem isi_wq (q : Rat) : wIsi (wq q) "tuple" = some true := rfl
theorem dat_wq (n : Nat) (q : Rat) : dat (n + 2) (wq q) = true := rfl
theorem weq_wq (a b : Rat) : weq (wq a) (wq b) = decide (a = b) := by
  simp only [wq, weq, weqs, Bool.and_true]
  rw [Bool.eq_iff_iff]
  simp only [Bool.and_eq_true, beq_iff_eq, decide_eq_true_eq]
  constructor
  · intro ⟨h1, h2⟩
    exact Rat.ext h1 (by omega)
  · intro h; rw [h]; exact ⟨rfl, rfl⟩
theorem weqs_wq : ∀ a b : List Rat, weqs (a.map wq) (b.map wq) = decide (a = b)
  | [], [] => rfl
  | [], _ :: _ => by simp [weqs]
  | _ :: _, [] => by simp [weqs]
  | x :: a, y :: b => by
    simp only [List.map_cons, weqs, weq_wq, weqs_wq a b]
    rw [Bool.eq_iff_iff]
    simp
theorem weq_rw (a b : List Rat) : weq (wr a) (wr b) = decide (a = b) := by
  rw [wr, wr, weq]; exact weqs_wq a b
theorem dat_rw (n : Nat) (a : List Rat) : dat (n + 3) (wr a) = true := by
  simp only [wr, dat, List.all_map, List.all_eq_true]
  intro q _
  rfl
@[simp] theorem eq_wq (a b : Rat) : wCmp .eq (wq a) (wq b) = some (.bl (decide (a = b))) := by
  rw [wCmp, weq_wq]; rfl
@[simp] theorem ne_wq (a b : Rat) : wCmp .ne (wq a) (wq b) = some (.bl (!decide (a = b))) := by
  rw [wCmp, weq_wq]; rfl
@[simp] theorem eq_rw (a b : List Rat) : wCmp .eq (wr a) (wr b) = some (.bl (decide (a = b))) := by
  rw [wCmp, weq_rw, dat_rw 27, dat_rw 27]; rfl
@[simp] theorem ne_rw (a b : List Rat) : wCmp .ne (wr a) (wr b) = some (.bl (!decide (a = b))) := by
  rw [wCmp, weq_rw, dat_rw 27, dat_rw 27]; rfl
theorem atI_nat {α : Type} {xs : List α} {k : Nat} (h : k < xs.length) : atI xs (k : Int) = some xs[k] := by
  unfold atI ixN
  rw [if_pos (by omega), if_pos (by omega)]
  simp [h]
theorem atI_last {α : Type} {xs : List α} (h : 0 < xs.length) : atI xs (-1) = some xs[xs.length - 1] := by
  unfold atI ixN
  rw [if_neg (by omega), if_pos (by omega)]
  have : (-1 + (xs.length : Int)).toNat = xs.length - 1 := by omega
  simp [this, h]
theorem ix_rw {qs : List Rat} {k : Nat} (h : k < qs.length) : wIx (wr qs) (.int k) = some (wq qs[k]) := by
  show atI (qs.map wq) (k : Int) = _
  rw [atI_nat (by simpa using h)]
  simp
theorem ix_rw' {qs : List Rat} {i : Int} {k : Nat} (e : i = k) (h : k < qs.length) : wIx (wr qs) (.int i) = some (wq qs[k]) := by
  rw [e]; exact ix_rw h
theorem ix_rwL {qs : List Rat} (h : 0 < qs.length) : wIx (wr qs) (.int (-1)) = some (wq qs[qs.length - 1]) := by
  show atI (qs.map wq) (-1) = _
  rw [atI_last (by simpa using h)]
  simp
theorem len_rw (qs : List Rat) : wBi .len [wr qs] = some (.int qs.length) := by
  show some (W.int ((qs.map wq).length : Int)) = _
  simp
/-- how great top and bottom are -/
def qb (k : Nat) (q : Rat) : Prop := q.num.natAbs < 2 ^ k ∧ q.den < 2 ^ k
theorem qb_mono {k l : Nat} {q : Rat} (h : qb k q) (hk : k ≤ l) : qb l q :=
  ⟨Nat.lt_of_lt_of_le h.1 (Nat.pow_le_pow_right (by decide) hk), Nat.lt_of_lt_of_le h.2 (Nat.pow_le_pow_right (by decide) hk)⟩
theorem gcd_pos_r {a b : Int} (hb : b ≠ 0) : 0 < Int.gcd a b := by
  rcases Nat.eq_zero_or_pos (Int.gcd a b) with z | z
  · rw [Int.gcd_eq_zero_iff] at z; exact absurd z.2 hb
  · exact z
/-- top and bottom of a / b -/
theorem num_divInt_pos {a b : Int} (hb : 0 < b) : (Rat.divInt a b).num = a / Int.gcd a b := by
  rw [Rat.num_divInt, Int.sign_eq_one_of_pos hb, Int.one_mul, Int.gcd_comm]
theorem den_divInt_pos {a b : Int} (hb : 0 < b) : ((Rat.divInt a b).den : Int) = b / Int.gcd a b := by
  rw [Rat.den_divInt, if_neg (by omega), Int.gcd_comm]
  rw [Int.natCast_ediv, Int.natAbs_of_nonneg (by omega)]
theorem divInt_neg {a b : Int} : Rat.divInt a b = Rat.divInt (-a) (-b) := (Rat.neg_divInt_neg a b).symm
theorem qb_divInt {k : Nat} {a b : Int} (ha : a.natAbs < 2 ^ k) (hb : b.natAbs < 2 ^ k) (h0 : b ≠ 0) : qb k (Rat.divInt a b) := by
  have pos : ∀ {a b : Int}, a.natAbs < 2 ^ k → b.natAbs < 2 ^ k → 0 < b → qb k (Rat.divInt a b) := fun {a b} ha hb h0 => by
    refine ⟨?_, ?_⟩
    · rw [num_divInt_pos h0]
      exact Nat.lt_of_le_of_lt (Int.natAbs_ediv_le_natAbs ..) ha
    · have e := den_divInt_pos (a := a) h0
      have : (Rat.divInt a b).den = (b / Int.gcd a b).natAbs := by omega
      rw [this]
      exact Nat.lt_of_le_of_lt (Int.natAbs_ediv_le_natAbs ..) hb
  rcases Int.lt_or_gt_of_ne h0 with h | h
  · rw [divInt_neg]
    exact pos (by omega) (by omega) (by omega)
  · exact pos ha hb h
theorem pow_add_lt {a b k l : Nat} (h1 : a < 2 ^ k) (h2 : b < 2 ^ l) : a * b < 2 ^ (k + l) := by
  rw [Nat.pow_add]
  exact Nat.mul_lt_mul'' h1 h2
theorem den_ne (q : Rat) : (q.den : Int) ≠ 0 := by have := q.den_nz; omega
theorem add_eq (a b : Rat) : a + b = Rat.divInt (a.num * b.den + b.num * a.den) (a.den * b.den) := by
  rw [Rat.add_def', ← Rat.divInt_ofNat]; simp
theorem sub_eq (a b : Rat) : a - b = Rat.divInt (a.num * b.den - b.num * a.den) (a.den * b.den) := by
  rw [Rat.sub_def', ← Rat.divInt_ofNat]; simp
theorem mul_eq (a b : Rat) : a * b = Rat.divInt (a.num * b.num) (a.den * b.den) := by
  rw [Rat.mul_def', ← Rat.divInt_ofNat]; simp
theorem div_eq (a b : Rat) : a / b = Rat.divInt (a.num * b.den) (a.den * b.num) := by
  rw [Rat.div_def, Rat.inv_def]
  have h := Rat.divInt_mul_divInt a.num b.den (d₁ := a.den) (d₂ := b.num)
  rw [Rat.num_divInt_den] at h
  exact h
theorem qb_add {k l : Nat} {a b : Rat} (ha : qb k a) (hb : qb l b) : qb (k + l + 1) (a + b) := by
  rw [add_eq]
  have h1 := pow_add_lt ha.1 hb.2
  have h2 := pow_add_lt hb.1 ha.2
  have h3 := pow_add_lt ha.2 hb.2
  rw [Nat.add_comm l k] at h2
  have h4 : 2 ^ (k + l + 1) = 2 ^ (k + l) + 2 ^ (k + l) := by rw [Nat.pow_succ]; omega
  refine qb_divInt ?_ ?_ (Int.mul_ne_zero (den_ne a) (den_ne b))
  · rw [h4]
    refine Nat.lt_of_le_of_lt (Int.natAbs_add_le ..) ?_
    rw [Int.natAbs_mul, Int.natAbs_mul, Int.natAbs_natCast, Int.natAbs_natCast]
    omega
  · rw [h4, Int.natAbs_mul, Int.natAbs_natCast, Int.natAbs_natCast]; omega
theorem qb_neg {k : Nat} {a : Rat} (ha : qb k a) : qb k (-a) := ⟨by rw [Rat.neg_num, Int.natAbs_neg]; exact ha.1, ha.2⟩
theorem qb_sub {k l : Nat} {a b : Rat} (ha : qb k a) (hb : qb l b) : qb (k + l + 1) (a - b) := by
  rw [Rat.sub_eq_add_neg]; exact qb_add ha (qb_neg hb)
theorem qb_mul {k l : Nat} {a b : Rat} (ha : qb k a) (hb : qb l b) : qb (k + l) (a * b) := by
  rw [mul_eq]
  refine qb_divInt ?_ ?_ (Int.mul_ne_zero (den_ne a) (den_ne b))
  · rw [Int.natAbs_mul]; exact pow_add_lt ha.1 hb.1
  · rw [Int.natAbs_mul, Int.natAbs_natCast, Int.natAbs_natCast]; exact pow_add_lt ha.2 hb.2
theorem num_ne {q : Rat} (h : q ≠ 0) : q.num ≠ 0 := fun e => h (Rat.num_eq_zero.mp e)
theorem qb_div {k l : Nat} {a b : Rat} (ha : qb k a) (hb : qb l b) (h0 : b ≠ 0) : qb (k + l) (a / b) := by
  rw [div_eq]
  refine qb_divInt ?_ ?_ (Int.mul_ne_zero (den_ne a) (num_ne h0))
  · rw [Int.natAbs_mul, Int.natAbs_natCast]; exact pow_add_lt ha.1 hb.2
  · rw [Int.natAbs_mul, Int.natAbs_natCast]; exact pow_add_lt ha.2 hb.1
theorem qb_log {k : Nat} {q : Rat} (hk : 0 < k) (h : qb k q) : q.num.natAbs.log2 < k ∧ (q.den : Int).natAbs.log2 < k := by
  refine ⟨log_lt hk h.1, log_lt hk ?_⟩
  rw [Int.natAbs_natCast]; exact h.2
theorem lo_mul {i j : Int} {k l : Nat} (hi : i.natAbs.log2 < k) (hj : j.natAbs.log2 < l) (h : k + l ≤ 100000000) : wBin .mul (.int i) (.int j) = some (.int (i * j)) := wb_mul (by unfold MUL; omega)
/-- q's top and bottom, multiplied -/
theorem qm_nd {k : Nat} {a b : Rat} (ha : qb 3900 a) (hb : qb 3900 b) : wBin .mul (.int a.num) (.int b.den) = some (.int (a.num * b.den)) := lo_mul (qb_log (by decide) ha).1 (qb_log (by decide) hb).2 (by decide)
theorem qm_dd {a b : Rat} (ha : qb 3900 a) (hb : qb 3900 b) : wBin .mul (.int a.den) (.int b.den) = some (.int (a.den * b.den)) := lo_mul (qb_log (by decide) ha).2 (qb_log (by decide) hb).2 (by decide)
theorem qm_nn {a b : Rat} (ha : qb 3900 a) (hb : qb 3900 b) : wBin .mul (.int a.num) (.int b.num) = some (.int (a.num * b.num)) := lo_mul (qb_log (by decide) ha).1 (qb_log (by decide) hb).1 (by decide)
theorem qm_dn {a b : Rat} (ha : qb 3900 a) (hb : qb 3900 b) : wBin .mul (.int a.den) (.int b.num) = some (.int (a.den * b.num)) := lo_mul (qb_log (by decide) ha).2 (qb_log (by decide) hb).1 (by decide)
theorem log_dd {a b : Rat} (ha : qb 3900 a) (hb : qb 3900 b) : ((a.den : Int) * b.den).natAbs < 2 ^ 7800 := by
  rw [Int.natAbs_mul, Int.natAbs_natCast, Int.natAbs_natCast]; exact pow_add_lt ha.2 hb.2
theorem log_dn {a b : Rat} (ha : qb 3900 a) (hb : qb 3900 b) : ((a.den : Int) * b.num).natAbs < 2 ^ 7800 := by
  rw [Int.natAbs_mul, Int.natAbs_natCast]; exact pow_add_lt ha.2 hb.1
/-- parted by the common part, as it is with the sign of the bottom -/
theorem fdiv_pos {z g : Int} (hg : 0 < g) (h2 : g.natAbs.log2 < DIV) : wBin .fdiv (.int z) (.int g) = some (.int (z / g)) := wb_fdiv hg h2
theorem fdiv_neg {z g : Int} (hg : 0 < g) (h2 : g.natAbs.log2 < DIV) (hd : g ∣ z) : wBin .fdiv (.int z) (.int (-g)) = some (.int (-z / g)) := by
  show (if -g ≠ 0 ∧ (-g).natAbs.log2 < DIV then some (W.int (z.fdiv (-g))) else none) = _
  rw [if_pos ⟨by omega, by rw [Int.natAbs_neg]; exact h2⟩]
  congr 2
  obtain ⟨c, rfl⟩ := hd
  have e1 : (g * c).fdiv (-g) = -c := by
    rw [show g * c = (-g) * (-c) by rw [Int.neg_mul_neg]]
    exact Int.mul_fdiv_cancel_left _ (by omega)
  have e2 : -(g * c) / g = -c := by
    rw [show -(g * c) = g * (-c) by rw [Int.mul_neg]]
    exact Int.mul_ediv_cancel_left _ (by omega)
  rw [e1, e2]
theorem wq_divInt_pos {a b : Int} (hb : 0 < b) : wq (Rat.divInt a b) = .tup [.int (a / Int.gcd a b), .int (b / Int.gcd a b)] := by
  unfold wq; rw [num_divInt_pos hb, den_divInt_pos hb]
theorem wq_divInt_neg {a b : Int} (hb : b < 0) : wq (Rat.divInt a b) = .tup [.int (-a / Int.gcd a b), .int (-b / Int.gcd a b)] := by
  rw [divInt_neg, wq_divInt_pos (by omega)]
  have e : Int.gcd (-a) (-b) = Int.gcd a b := by simp [Int.gcd]
  rw [e]
theorem lt_wq (a b : Rat) : decide (a.num * (b.den : Int) < b.num * (a.den : Int)) = decide (a < b) := by
  rw [Bool.eq_iff_iff]
  simp only [decide_eq_true_eq]
  exact (Rat.lt_iff a b).symm
end Rf
/-! pure runs, told from behind: what a run must come to -/
namespace Rf
open PySem
def Wm {α : Type} (m : M α) (ρ : Rho) (Q : α → Rho → Prop) (E : W → Rho → Prop) : Prop := match m ρ with
  | some (.ok a, ρ') => Q a ρ'
  | some (.ex w, ρ') => E w ρ'
  | none => False
def Wo {α : Type} (o : Option α) (Q : α → Prop) : Prop := match o with
  | some a => Q a
  | none => False
/-- a test's two ways -/
def Wif (k : Bool) (A B : Prop) : Prop := (k = true → A) ∧ (k = false → B)
def Wnx (f : Flow) (A B : Prop) : Prop := match f with
  | .nx => A
  | _ => B
def Wlp (f : Flow) (A B : Prop) (C : W → Prop) : Prop := match f with
  | .nx => A
  | .bk => B
  | .rt w => C w
def Wset (ρ : Rho) (i : Nat) (w : W) (Q : Rho → Prop) : Prop := i < ρ.length ∧ Q (ρ.set i (some w))
/-- a call of F -/
def Wf (F : Fn) (ws : List W) (Q : W → List W → Prop) (E : W → List W → Prop) : Prop := match F ws with
  | some (.ok w, os) => Q w os
  | some (.ex w, os) => E w os
  | none => False
/-- the state behind a call, by what was given back -/
def Wb (ρ : Rho) (ts : List T) (ws os : List W) (Q : Rho → Prop) : Prop := fits ts ws os = true ∧ Q (back ρ ts ws os)
def Wout (asg : List Nat) (ρ : Rho) (ws : List W) (Q : List W → Prop) : Prop := Wo (outs asg ρ 0 ws) Q
/-- .. behind a change of one place -/
def Wb1 (ρ : Rho) (i : Nat) (f : Option String) (w : W) (Q : Rho → Prop) : Prop := Q (setP ρ i f w)
def Wint (w : W) (Q : Int → Prop) : Prop := match w with
  | .int i => Q i
  | _ => False
def Wfld (t : T) (f : String) (Cs Xs : List String) (ρ : Rho) (Q : T → Rho → Prop) : Prop := match t with
  | .pl i none => (match slot ρ i with
    | some (.ins true C fs) => C ∈ Cs ∧ ∃ w, fs.lookup f = some w ∧ Q (if own w then .pl i (some f) else .val w) ρ
    | _ => False)
  | .val (.exc C fs) => C ∈ Xs ∧ ∃ w, fs.lookup f = some w ∧ Q (.val w) ρ
  | _ => False
section
variable {α β : Type} {m : M α} {k : α → M β} {ρ ρ1 ρ2 : Rho} {Q : β → Rho → Prop} {E : W → Rho → Prop}
theorem Wm_of {Q : α → Rho → Prop} {a : α} (h : m ρ = some (.ok a, ρ1)) (q : Q a ρ1) : Wm m ρ Q E := by unfold Wm; rw [h]; exact q
theorem Wm_ex {Q : α → Rho → Prop} {w : W} (h : m ρ = some (.ex w, ρ1)) (q : E w ρ1) : Wm m ρ Q E := by unfold Wm; rw [h]; exact q
theorem Wm_imp {Q Q' : α → Rho → Prop} {E' : W → Rho → Prop} (h : Wm m ρ Q E) (q : ∀ a ρ', Q a ρ' → Q' a ρ') (e : ∀ w ρ', E w ρ' → E' w ρ') : Wm m ρ Q' E' := by
  unfold Wm at h ⊢
  split at h
  · exact q _ _ h
  · exact e _ _ h
  · exact h
theorem Wm_get {Q : α → Rho → Prop} (h : Wm m ρ Q E) : (∃ a ρ', m ρ = some (.ok a, ρ') ∧ Q a ρ') ∨ ∃ w ρ', m ρ = some (.ex w, ρ') ∧ E w ρ' := by
  unfold Wm at h
  split at h
  · rename_i a ρ' e; exact .inl ⟨a, ρ', e, h⟩
  · rename_i w ρ' e; exact .inr ⟨w, ρ', e, h⟩
  · exact h.elim
theorem Wm_bnd (h : Wm m ρ (fun a ρ1 => Wm (k a) ρ1 Q E) E) : Wm (bnd m k) ρ Q E := by
  unfold Wm at h ⊢
  unfold bnd
  cases e : m ρ with
  | none => rw [e] at h; exact h
  | some q =>
    obtain ⟨r, ρ'⟩ := q
    rw [e] at h
    cases r with
    | ok a => exact h
    | ex w => exact h
theorem Wm_ret {Q : α → Rho → Prop} {a : α} (h : Q a ρ) : Wm (ret a) ρ Q E := h
theorem Wm_lft {Q : α → Rho → Prop} {o : Option α} (h : Wo o fun a => Q a ρ) : Wm (lft o) ρ Q E := by
  unfold Wo at h
  unfold Wm lft
  cases o with
  | none => exact h.elim
  | some a => exact h
theorem Wo_some {Q : α → Prop} {a : α} (h : Q a) : Wo (some a) Q := h
theorem Wo_eq {Q : α → Prop} {o : Option α} {a : α} (e : o = some a) (h : Q a) : Wo o Q := by rw [e]; exact h
theorem Wm_rd {Q : W → Rho → Prop} {t : T} (h : Wo (drf ρ t) fun w => Q w ρ) : Wm (rd t) ρ Q E := by
  unfold Wo at h
  unfold Wm rd
  cases e : drf ρ t with
  | none => rw [e] at h; exact h.elim
  | some a => rw [e] at h; exact h
theorem Wr_val {Q : W → Prop} {w : W} (h : Q w) : Wo (drf ρ (.val w)) Q := h
theorem Wr_pl {Q : W → Prop} {i : Nat} {f : Option String} {w : W} (e : getP ρ i f = some w) (h : Q w) : Wo (drf ρ (.pl i f)) Q := Wo_eq e h
theorem Wif_t {k : Bool} {A B : Prop} (e : k = true) (h : A) : Wif k A B := ⟨fun _ => h, (fun z => by rw [e] at z; cases z)⟩
theorem Wif_f {k : Bool} {A B : Prop} (e : k = false) (h : B) : Wif k A B := ⟨(fun z => by rw [e] at z; cases z), fun _ => h⟩
theorem Wm_ite {k : Bool} {a b : M α} {Q : α → Rho → Prop} (h : Wif k (Wm a ρ Q E) (Wm b ρ Q E)) : Wm (if k = true then a else b) ρ Q E := by
  cases k with
  | true => exact h.1 rfl
  | false => exact h.2 rfl
theorem Wif_same {k : Bool} {A : Prop} (h : A) : Wif k A A := ⟨fun _ => h, fun _ => h⟩
theorem Wnx_nx {A B : Prop} (h : A) : Wnx .nx A B := h
theorem Wnx_rt {A B : Prop} {w : W} (h : B) : Wnx (.rt w) A B := h
theorem Wnx_bk {A B : Prop} (h : B) : Wnx .bk A B := h
theorem Wlp_nx {A B : Prop} {C : W → Prop} (h : A) : Wlp .nx A B C := h
theorem Wlp_rt {A B : Prop} {C : W → Prop} {w : W} (h : C w) : Wlp (.rt w) A B C := h
theorem Wlp_bk {A B : Prop} {C : W → Prop} (h : B) : Wlp .bk A B C := h
theorem Wset_mk {i : Nat} {w : W} {Q : Rho → Prop} (hl : i < ρ.length) (e : ρ.set i (some w) = ρ1) (h : Q ρ1) : Wset ρ i w Q := ⟨hl, by rw [e]; exact h⟩
theorem Wb_mk {ts : List T} {ws os : List W} {Q : Rho → Prop} (f : fits ts ws os = true) (e : back ρ ts ws os = ρ1) (h : Q ρ1) : Wb ρ ts ws os Q := ⟨f, by rw [e]; exact h⟩
theorem Wm_tru {Q : Bool → Rho → Prop} {t : T} (h : Wo (drf ρ t) fun w => Wo (wTru w) fun k => Q k ρ) : Wm (tru t) ρ Q E := by
  unfold tru
  refine Wm_bnd (Wm_rd ?_)
  unfold Wo at h ⊢
  cases e : drf ρ t with
  | none => rw [e] at h; exact h
  | some w => rw [e] at h; exact Wm_lft h
theorem Wsh_val {Q : W → Rho → Prop} {w w' : W} (e : frz w = some w') (h : Q w' ρ) : Wm (sh (.val w)) ρ Q E := by
  refine Wm_of (a := w') (ρ1 := ρ) ?_ h
  unfold sh; simp only [e]
theorem Wsh_pl {Q : W → Rho → Prop} {i : Nat} {f : Option String} {w w' : W} (g : getP ρ i f = some w) (o : own w = true) (e : frz w = some w') (e2 : setP ρ i f w' = ρ1) (h : Q w' ρ1) : Wm (sh (.pl i f)) ρ Q E := by
  refine Wm_of (a := w') (ρ1 := ρ1) ?_ h
  unfold sh; simp only [g, o, e, e2]
theorem Wsh_plv {Q : W → Rho → Prop} {i : Nat} {f : Option String} {w : W} (g : getP ρ i f = some w) (o : own w = false) (h : Q w ρ) : Wm (sh (.pl i f)) ρ Q E := by
  refine Wm_of (a := w) (ρ1 := ρ) ?_ h
  unfold sh; simp only [g, o]
theorem Wmv_val {Q : W → Rho → Prop} {w : W} (h : Q w ρ) : Wm (mv (.val w)) ρ Q E := h
theorem Wmv_pl {Q : W → Rho → Prop} {i : Nat} {f : Option String} (h : Wm (sh (.pl i f)) ρ Q E) : Wm (mv (.pl i f)) ρ Q E := h
theorem Wm_stN {Q : Unit → Rho → Prop} {i : Nat} {w : W} (h : Wset ρ i w (Q ())) : Wm (stN i w) ρ Q E := by
  refine Wm_of (a := ()) (ρ1 := ρ.set i (some w)) ?_ h.2
  unfold stN; rw [if_pos h.1]
theorem Wm_tgn {Q : Unit → Rho → Prop} {i : Nat} {w : W} (h : Wset ρ i w (Q ())) : Wm (stTg (.nm i) w) ρ Q E := by
  refine Wm_of (a := ()) (ρ1 := ρ.set i (some w)) ?_ h.2
  unfold stTg; rw [if_pos h.1]
theorem Wm_tgt {Q : Unit → Rho → Prop} {ts : List Tg} {xs : List W} (h : Wm (stTgs ts xs) ρ Q E) : Wm (stTg (.tp ts) (.tup xs)) ρ Q E := by
  unfold stTg; exact h
theorem Wm_tgs0 {Q : Unit → Rho → Prop} (h : Q () ρ) : Wm (stTgs [] []) ρ Q E := by
  unfold stTgs; exact h
theorem Wm_tgs1 {Q : Unit → Rho → Prop} {t : Tg} {ts : List Tg} {x : W} {xs : List W} (h : Wm (stTg t x) ρ (fun _ ρ1 => Wm (stTgs ts xs) ρ1 Q E) E) : Wm (stTgs (t :: ts) (x :: xs)) ρ Q E := by
  unfold stTgs; exact Wm_bnd h
end
/-! ### expressions -/
section
variable {ρ ρ1 ρ2 : Rho} {Q : T → Rho → Prop} {E : W → Rho → Prop}
theorem Wx_var {i : Nat} {w : W} (s : slot ρ i = some w) (o : own w = false) (h : Q (.val w) ρ) : Wm (ev (.var i)) ρ Q E := by
  refine Wm_of (a := .val w) (ρ1 := ρ) ?_ h
  unfold ev; simp only [s, o]; rfl
theorem Wx_varO {i : Nat} {w : W} (s : slot ρ i = some w) (o : own w = true) (h : Q (.pl i none) ρ) : Wm (ev (.var i)) ρ Q E := by
  refine Wm_of (a := .pl i none) (ρ1 := ρ) ?_ h
  unfold ev; simp only [s, o]; rfl
theorem Wx_con {w : W} (h : Q (.val w) ρ) : Wm (ev (.con w)) ρ Q E := by unfold ev; exact h
theorem Wx_bin {o : Bop} {a b : Ex} (h : Wm (ev a) ρ (fun s ρ1 => Wm (ev b) ρ1 (fun t ρ2 => Wo (drf ρ2 s) fun x => Wo (drf ρ2 t) fun y => Wo (wBin o x y) fun w => Q (.val w) ρ2) E) E) : Wm (ev (.bin o a b)) ρ Q E := by
  unfold ev
  exact Wm_bnd (Wm_imp h (fun s ρ1 h => Wm_bnd (Wm_imp h (fun t ρ2 h => Wm_bnd (Wm_rd (by
    unfold Wo at h ⊢
    split at h
    · exact Wm_bnd (Wm_rd (by
        unfold Wo
        split at h
        · exact Wm_bnd (Wm_lft (by unfold Wo; split at h; exact h; exact h.elim))
        · exact h.elim))
    · exact h))) fun _ _ h => h)) fun _ _ h => h)
theorem Wx_ix {a b : Ex} (h : Wm (ev a) ρ (fun s ρ1 => Wm (ev b) ρ1 (fun t ρ2 => Wo (drf ρ2 s) fun x => Wo (drf ρ2 t) fun y => Wo (wIx x y) fun w => Q (.val w) ρ2) E) E) : Wm (ev (.ix a b)) ρ Q E := by
  unfold ev
  exact Wm_bnd (Wm_imp h (fun s ρ1 h => Wm_bnd (Wm_imp h (fun t ρ2 h => Wm_bnd (Wm_rd (by
    unfold Wo at h ⊢
    split at h
    · exact Wm_bnd (Wm_rd (by
        unfold Wo
        split at h
        · exact Wm_bnd (Wm_lft (by unfold Wo; split at h; exact h; exact h.elim))
        · exact h.elim))
    · exact h))) fun _ _ h => h)) fun _ _ h => h)
theorem un_help {s : T} {f : W → Option W} (h : Wo (drf ρ s) fun x => Wo (f x) fun w => Q (.val w) ρ) : Wm (bnd (rd s) fun x => bnd (lft (f x)) fun w => ret (T.val w)) ρ Q E := by
  refine Wm_bnd (Wm_rd ?_)
  unfold Wo at h ⊢
  split at h
  · exact Wm_bnd (Wm_lft (by unfold Wo; split at h; exact h; exact h.elim))
  · exact h
theorem Wx_neg {a : Ex} (h : Wm (ev a) ρ (fun s ρ1 => Wo (drf ρ1 s) fun x => Wo (wNeg x) fun w => Q (.val w) ρ1) E) : Wm (ev (.neg a)) ρ Q E := by
  unfold ev; exact Wm_bnd (Wm_imp h (fun s ρ1 h => un_help h) fun _ _ h => h)
theorem Wx_rev {a : Ex} (h : Wm (ev a) ρ (fun s ρ1 => Wo (drf ρ1 s) fun x => Wo (wRev x) fun w => Q (.val w) ρ1) E) : Wm (ev (.rev a)) ρ Q E := by
  unfold ev; exact Wm_bnd (Wm_imp h (fun s ρ1 h => un_help h) fun _ _ h => h)
theorem un_helpB {s : T} {f : W → Option Bool} (h : Wo (drf ρ s) fun x => Wo (f x) fun k => Q (.val (.bl k)) ρ) : Wm (bnd (rd s) fun x => bnd (lft (f x)) fun k => ret (T.val (.bl k))) ρ Q E := by
  refine Wm_bnd (Wm_rd ?_)
  unfold Wo at h ⊢
  split at h
  · exact Wm_bnd (Wm_lft (by unfold Wo; split at h; exact h; exact h.elim))
  · exact h
theorem Wx_isi {a : Ex} {T : String} (h : Wm (ev a) ρ (fun s ρ1 => Wo (drf ρ1 s) fun x => Wo (wIsi x T) fun k => Q (.val (.bl k)) ρ1) E) : Wm (ev (.isi a T)) ρ Q E := by
  unfold ev; exact Wm_bnd (Wm_imp h (fun s ρ1 h => un_helpB h) fun _ _ h => h)
theorem Wx_isx {a : Ex} {T : String} {Xs : List String} (h : Wm (ev a) ρ (fun s ρ1 => Wo (drf ρ1 s) fun x => Wo (wIsx Xs x T) fun k => Q (.val (.bl k)) ρ1) E) : Wm (ev (.isx a T Xs)) ρ Q E := by
  unfold ev; exact Wm_bnd (Wm_imp h (fun s ρ1 h => un_helpB h) fun _ _ h => h)
theorem Wx_nt {a : Ex} (h : Wm (ev a) ρ (fun s ρ1 => Wo (drf ρ1 s) fun x => Wo (wTru x) fun k => Q (.val (.bl (!k))) ρ1) E) : Wm (ev (.nt a)) ρ Q E := by
  unfold ev
  exact Wm_bnd (Wm_imp h (fun s ρ1 h => Wm_bnd (Wm_tru h)) fun _ _ h => h)
theorem Wx_and {a b : Ex} (h : Wm (ev a) ρ (fun s ρ1 => Wo (drf ρ1 s) fun x => Wo (wTru x) fun k => Wif k (Wm (ev b) ρ1 Q E) (Wm (sh s) ρ1 (fun w ρ2 => Q (.val w) ρ2) E)) E) : Wm (ev (.and a b)) ρ Q E := by
  unfold ev
  refine Wm_bnd (Wm_imp h (fun s ρ1 h => Wm_bnd (Wm_tru ?_)) fun _ _ h => h)
  unfold Wo at h ⊢
  split at h
  · split at h
    · refine Wm_ite ⟨h.1, fun z => Wm_bnd (h.2 z)⟩
    · exact h
  · exact h
theorem Wx_or {a b : Ex} (h : Wm (ev a) ρ (fun s ρ1 => Wo (drf ρ1 s) fun x => Wo (wTru x) fun k => Wif k (Wm (sh s) ρ1 (fun w ρ2 => Q (.val w) ρ2) E) (Wm (ev b) ρ1 Q E)) E) : Wm (ev (.or a b)) ρ Q E := by
  unfold ev
  refine Wm_bnd (Wm_imp h (fun s ρ1 h => Wm_bnd (Wm_tru ?_)) fun _ _ h => h)
  unfold Wo at h ⊢
  split at h
  · split at h
    · refine Wm_ite ⟨fun z => Wm_bnd (h.1 z), h.2⟩
    · exact h
  · exact h
theorem Wx_ife {c a b : Ex} (h : Wm (ev c) ρ (fun s ρ1 => Wo (drf ρ1 s) fun x => Wo (wTru x) fun k => Wif k (Wm (ev a) ρ1 Q E) (Wm (ev b) ρ1 Q E)) E) : Wm (ev (.ife c a b)) ρ Q E := by
  unfold ev
  refine Wm_bnd (Wm_imp h (fun s ρ1 h => Wm_bnd (Wm_tru ?_)) fun _ _ h => h)
  unfold Wo at h ⊢
  split at h
  · split at h
    · exact Wm_ite h
    · exact h
  · exact h
theorem Wx_cmp1 {o : Cop} {a b : Ex} (h : Wm (ev a) ρ (fun s ρ1 => Wm (ev b) ρ1 (fun t ρ2 => Wo (drf ρ2 s) fun x => Wo (drf ρ2 t) fun y => Wo (wCmp o x y) fun w => Q (.val w) ρ2) E) E) : Wm (ev (.cmp a [o] [b])) ρ Q E := by
  unfold ev evC
  exact Wm_bnd (Wm_imp h (fun s ρ1 h => Wm_bnd (Wm_imp h (fun t ρ2 h => Wm_bnd (Wm_rd (by
    unfold Wo at h ⊢
    split at h
    · exact Wm_bnd (Wm_rd (by
        unfold Wo
        split at h
        · exact Wm_bnd (Wm_lft (by unfold Wo; split at h; exact h; exact h.elim))
        · exact h.elim))
    · exact h))) fun _ _ h => h)) fun _ _ h => h)
theorem Wc_1 {s : T} {o : Cop} {b : Ex} (h : Wm (ev b) ρ (fun t ρ2 => Wo (drf ρ2 s) fun x => Wo (drf ρ2 t) fun y => Wo (wCmp o x y) fun w => Q (.val w) ρ2) E) : Wm (evC s [o] [b]) ρ Q E := by
  unfold evC
  exact Wm_bnd (Wm_imp h (fun t ρ2 h => Wm_bnd (Wm_rd (by
    unfold Wo at h ⊢
    split at h
    · exact Wm_bnd (Wm_rd (by
        unfold Wo
        split at h
        · exact Wm_bnd (Wm_lft (by unfold Wo; split at h; exact h; exact h.elim))
        · exact h.elim))
    · exact h))) fun _ _ h => h)
theorem Wx_cmp2 {o o2 : Cop} {os : List Cop} {a b b2 : Ex} {bs : List Ex} (h : Wm (ev a) ρ (fun s ρ1 => Wm (ev b) ρ1 (fun t ρ2 => Wo (drf ρ2 s) fun x => Wo (drf ρ2 t) fun y => Wo (wCmp o x y) fun w => Wo (wTru w) fun k => Wif k (Wm (evC t (o2 :: os) (b2 :: bs)) ρ2 Q E) (Q (.val w) ρ2)) E) E) : Wm (ev (.cmp a (o :: o2 :: os) (b :: b2 :: bs))) ρ Q E := by
  unfold ev evC
  exact Wm_bnd (Wm_imp h (fun s ρ1 h => Wm_bnd (Wm_imp h (fun t ρ2 h => Wm_bnd (Wm_rd (by
    unfold Wo at h ⊢
    split at h
    · exact Wm_bnd (Wm_rd (by
        unfold Wo
        split at h
        · exact Wm_bnd (Wm_lft (by
            unfold Wo
            split at h
            · exact Wm_bnd (Wm_lft (by unfold Wo; split at h; exact Wm_ite h; exact h.elim))
            · exact h.elim))
        · exact h.elim))
    · exact h))) fun _ _ h => h)) fun _ _ h => h)
theorem Wxs_nil {Q : List W → Rho → Prop} (h : Q [] ρ) : Wm (evs []) ρ Q E := by unfold evs; exact h
theorem Wxs_cons {Q : List W → Rho → Prop} {e : Ex} {es : List Ex} (h : Wm (ev e) ρ (fun t ρ1 => Wm (sh t) ρ1 (fun w ρ2 => Wm (evs es) ρ2 (fun ws ρ3 => Q (w :: ws) ρ3) E) E) E) : Wm (evs (e :: es)) ρ Q E := by
  unfold evs
  exact Wm_bnd (Wm_imp h (fun t ρ1 h => Wm_bnd (Wm_imp h (fun w ρ2 h => Wm_bnd h) fun _ _ h => h)) fun _ _ h => h)
theorem WxT_nil {Q : List T → Rho → Prop} (h : Q [] ρ) : Wm (evT []) ρ Q E := by unfold evT; exact h
theorem WxT_cons {Q : List T → Rho → Prop} {e : Ex} {es : List Ex} (h : Wm (ev e) ρ (fun t ρ1 => Wm (evT es) ρ1 (fun ts ρ2 => Q (t :: ts) ρ2) E) E) : Wm (evT (e :: es)) ρ Q E := by
  unfold evT
  exact Wm_bnd (Wm_imp h (fun t ρ1 h => Wm_bnd h) fun _ _ h => h)
theorem Wx_tup {es : List Ex} (h : Wm (evs es) ρ (fun ws ρ1 => Q (.val (.tup ws)) ρ1) E) : Wm (ev (.tup es)) ρ Q E := by unfold ev; exact Wm_bnd h
theorem Wx_lst {es : List Ex} (h : Wm (evs es) ρ (fun ws ρ1 => Q (.val (.lst true ws)) ρ1) E) : Wm (ev (.lst es)) ρ Q E := by unfold ev; exact Wm_bnd h
theorem Wx_dct (h : Q (.val (.dic true [])) ρ) : Wm (ev (.dct [] [])) ρ Q E := by unfold ev evD; exact h
theorem Wx_call {F : Fn} {es : List Ex} (h : Wm (evT es) ρ (fun ts ρ1 => Wm (callF F ts) ρ1 Q E) E) : Wm (ev (.call F es)) ρ Q E := by unfold ev; exact Wm_bnd h
theorem Wx_mk {C : String} {F : Fn} {es : List Ex} (h : Wm (evT es) ρ (fun ts ρ1 => Wm (mkF C F ts) ρ1 Q E) E) : Wm (ev (.mk C F es)) ρ Q E := by unfold ev; exact Wm_bnd h
theorem Wx_mth {o : Ex} {C m : String} {F : Fn} {es : List Ex} (h : Wm (ev o) ρ (fun t ρ1 => Wm (recv C m t) ρ1 (fun _ ρ2 => Wm (evT es) ρ2 (fun ts ρ3 => Wm (callF F (t :: ts)) ρ3 Q E) E) E) E) : Wm (ev (.mth o C m F es)) ρ Q E := by
  unfold ev
  exact Wm_bnd (Wm_imp h (fun t ρ1 h => Wm_bnd (Wm_imp h (fun _ ρ2 h => Wm_bnd h) fun _ _ h => h)) fun _ _ h => h)
theorem W_recv {C m : String} {i : Nat} {fs : List (String × W)} {Q : Unit → Rho → Prop} (g : slot ρ i = some (.ins true C fs)) (hm : (fs.lookup m).isNone = true) (h : Q () ρ) : Wm (recv C m (.pl i none)) ρ Q E := by
  unfold recv
  refine Wm_bnd (Wm_rd (Wr_pl (w := .ins true C fs) g ?_))
  try dsimp only
  rw [if_pos ⟨rfl, hm⟩]
  exact h
theorem W_call {F : Fn} {ts : List T} {ws : List W} (h1 : drfs ρ ts = some ws) (h2 : (lent ts ws).Nodup) (h : Wf F ws (fun w os => Wb ρ ts ws os fun ρ' => Q (.val w) ρ') (fun w os => Wb ρ ts ws os fun ρ' => E w ρ')) : Wm (callF F ts) ρ Q E := by
  unfold Wf at h
  unfold Wm callF bnd
  rw [rds_eq, h1]
  try dsimp only [Option.map]
  rw [if_pos h2]
  split at h
  · rename_i w os e
    simp only [e]
    rw [if_pos h.1]
    exact h.2
  · rename_i w os e
    simp only [e]
    rw [if_pos h.1]
    exact h.2
  · exact h.elim
theorem W_mk {C : String} {F : Fn} {ts : List T} {ws : List W} (h1 : drfs ρ ts = some ws) (h2 : (lent ts ws).Nodup) (h : Wf F (.ins true C [] :: ws) (fun w os => w = .non ∧ ∃ self os', os = self :: os' ∧ isIn self = true ∧ Wb ρ ts ws os' fun ρ' => Q (.val self) ρ') (fun w os => ∃ self os', os = self :: os' ∧ Wb ρ ts ws os' fun ρ' => E w ρ')) : Wm (mkF C F ts) ρ Q E := by
  unfold Wf at h
  unfold Wm mkF bnd
  rw [rds_eq, h1]
  try dsimp only [Option.map]
  rw [if_pos h2]
  split at h
  · rename_i w os e
    obtain ⟨rfl, self, os', rfl, hi, hf, hq⟩ := h
    simp only [e, hi, hf]
    exact hq
  · rename_i w os e
    obtain ⟨self, os', rfl, hf, hq⟩ := h
    simp only [e, hf]
    exact hq
  · exact h.elim
theorem Wx_bi {f : Bi} {es : List Ex} (h : Wm (evT es) ρ (fun ts ρ1 => Wo (drfs ρ1 ts) fun ws => Wo (wBi f ws) fun w => Q (.val w) ρ1) E) : Wm (ev (.bi f es)) ρ Q E := by
  unfold ev
  refine Wm_bnd (Wm_imp h (fun ts ρ1 h => Wm_bnd ?_) fun _ _ h => h)
  unfold Wo at h
  split at h
  · rename_i ws e
    refine Wm_of (a := ws) (ρ1 := ρ1) (by rw [rds_eq, e]; rfl) (Wm_bnd (Wm_lft ?_))
    unfold Wo
    split at h
    · exact h
    · exact h
  · exact h.elim
theorem W_recvL {o : Bool} {xs : List W} {t : T} {Q : Unit → Rho → Prop} (g : drf ρ t = some (.lst o xs)) (h : Q () ρ) : Wm (recvL t) ρ Q E := by
  unfold recvL
  exact Wm_bnd (Wm_rd (Wo_eq g h))
theorem Wx_mu {o : Ex} {m : Mu} {es : List Ex} (h : Wm (ev o) ρ (fun t ρ1 => Wm (recvL t) ρ1 (fun _ ρ2 => Wm (evs es) ρ2 (fun ws ρ3 => Wm (muF m t ws) ρ3 Q E) E) E) E) : Wm (ev (.mu o m es)) ρ Q E := by
  unfold ev
  exact Wm_bnd (Wm_imp h (fun t ρ1 h => Wm_bnd (Wm_imp h (fun _ ρ2 h => Wm_bnd h) fun _ _ h => h)) fun _ _ h => h)
theorem W_mu {m : Mu} {i : Nat} {f : Option String} {xs ws : List W} (g : getP ρ i f = some (.lst true xs)) (h : Wo (wMu m xs ws) fun r => Wb1 ρ i f (.lst true r.2) fun ρ' => Q (.val r.1) ρ') : Wm (muF m (.pl i f) ws) ρ Q E := by
  unfold Wo at h
  split at h
  · rename_i r e
    refine Wm_of (a := .val r.1) (ρ1 := setP ρ i f (.lst true r.2)) ?_ h
    unfold muF bnd rd drf
    simp [g, e, lft, bnd]
  · exact h.elim
theorem Wx_rm {o : Ex} {m : Rm} {es : List Ex} (h : Wm (ev o) ρ (fun t ρ1 => Wm (recvL t) ρ1 (fun _ ρ2 => Wm (evs es) ρ2 (fun ws ρ3 => Wo (drf ρ3 t) fun x => Wo (wRm m x ws) fun w => Q (.val w) ρ3) E) E) E) : Wm (ev (.rm o m es)) ρ Q E := by
  unfold ev
  exact Wm_bnd (Wm_imp h (fun t ρ1 h => Wm_bnd (Wm_imp h (fun _ ρ2 h => Wm_bnd (Wm_imp h (fun ws ρ3 h => un_help h) fun _ _ h => h)) fun _ _ h => h)) fun _ _ h => h)
theorem Wx_dget {o : Ex} {es : List Ex} (h : Wm (ev o) ρ (fun t ρ1 => Wm (recvD t) ρ1 (fun _ ρ2 => Wm (evs es) ρ2 (fun ws ρ3 => Wo (drf ρ3 t) fun x => Wo (wGet x ws) fun w => Q (.val w) ρ3) E) E) E) : Wm (ev (.dget o es)) ρ Q E := by
  unfold ev
  exact Wm_bnd (Wm_imp h (fun t ρ1 h => Wm_bnd (Wm_imp h (fun _ ρ2 h => Wm_bnd (Wm_imp h (fun ws ρ3 h => un_help h) fun _ _ h => h)) fun _ _ h => h)) fun _ _ h => h)
theorem W_recvD {o : Bool} {xs : List (Ky × W)} {t : T} {Q : Unit → Rho → Prop} (g : drf ρ t = some (.dic o xs)) (h : Q () ρ) : Wm (recvD t) ρ Q E := by
  unfold recvD
  exact Wm_bnd (Wm_rd (Wo_eq g h))
theorem W_recvS {x : Str} {t : T} {Q : Unit → Rho → Prop} (g : drf ρ t = some (.str x)) (h : Q () ρ) : Wm (recvS t) ρ Q E := by
  unfold recvS
  exact Wm_bnd (Wm_rd (Wo_eq g h))
theorem Wx_tx0 {o : Ex} {m : Tx0} (h : Wm (ev o) ρ (fun t ρ1 => Wm (recvS t) ρ1 (fun _ ρ2 => Wo (drf ρ2 t) fun x => Wo (wTx0 m x) fun w => Q (.val w) ρ2) E) E) : Wm (ev (.tx0 o m)) ρ Q E := by
  unfold ev
  exact Wm_bnd (Wm_imp h (fun t ρ1 h => Wm_bnd (Wm_imp h (fun _ ρ2 h => un_help h) fun _ _ h => h)) fun _ _ h => h)
theorem bin_help {s t : T} {f : W → W → Option W} (h : Wo (drf ρ s) fun x => Wo (drf ρ t) fun y => Wo (f x y) fun w => Q (.val w) ρ) : Wm (bnd (rd s) fun x => bnd (rd t) fun y => bnd (lft (f x y)) fun w => ret (T.val w)) ρ Q E :=
  Wm_bnd (Wm_rd (by
    unfold Wo at h ⊢
    split at h
    · exact Wm_bnd (Wm_rd (by
        unfold Wo
        split at h
        · exact Wm_bnd (Wm_lft (by unfold Wo; split at h; exact h; exact h.elim))
        · exact h.elim))
    · exact h))
theorem Wx_tx1 {o e : Ex} {m : Tx1} (h : Wm (ev o) ρ (fun t ρ1 => Wm (recvS t) ρ1 (fun _ ρ2 => Wm (ev e) ρ2 (fun u ρ3 => Wo (drf ρ3 t) fun x => Wo (drf ρ3 u) fun y => Wo (wTx1 m x y) fun w => Q (.val w) ρ3) E) E) E) : Wm (ev (.tx1 o m e)) ρ Q E := by
  unfold ev
  exact Wm_bnd (Wm_imp h (fun t ρ1 h => Wm_bnd (Wm_imp h (fun _ ρ2 h => Wm_bnd (Wm_imp h (fun u ρ3 h => bin_help h) fun _ _ h => h)) fun _ _ h => h)) fun _ _ h => h)
theorem Wx_mnd {a : Ex} (h : Wm (ev a) ρ (fun s ρ1 => Wo (drf ρ1 s) fun x => Wo (wMinD x) fun w => Q (.val w) ρ1) E) : Wm (ev (.mnd a)) ρ Q E := by
  unfold ev
  exact Wm_bnd (Wm_imp h (fun s ρ1 h => un_help h) fun _ _ h => h)
theorem Wx_mxd {a : Ex} (h : Wm (ev a) ρ (fun s ρ1 => Wo (drf ρ1 s) fun x => Wo (wMaxD x) fun w => Q (.val w) ρ1) E) : Wm (ev (.mxd a)) ρ Q E := by
  unfold ev
  exact Wm_bnd (Wm_imp h (fun s ρ1 h => un_help h) fun _ _ h => h)
theorem Wx_callL {i : Nat} {tbl : List (String × Fn)} {es : List Ex} {x : String} {F : Fn} (hs : slot ρ i = some (.fn x)) (hl : tbl.lookup x = some F) (h : Wm (evT es) ρ (fun ts ρ1 => Wm (callF F ts) ρ1 Q E) E) : Wm (ev (.callL i tbl es)) ρ Q E := by
  have e : ev (.callL i tbl es) ρ = (bnd (evT es) fun ts => callF F ts) ρ := by
    show (match slot ρ i with
      | some (.fn x) => match tbl.lookup x with
        | some F => (bnd (evT es) fun ts => callF F ts) ρ
        | none => none
      | _ => none) = _
    rw [hs]
    dsimp only
    rw [hl]
  have h2 : Wm (bnd (evT es) fun ts => callF F ts) ρ Q E := Wm_bnd h
  unfold Wm at h2 ⊢
  rw [e]
  exact h2
theorem Wx_lrng {a b : Ex} (h : Wm (ev a) ρ (fun s ρ1 => Wm (ev b) ρ1 (fun t ρ2 => Wo (drf ρ2 s) fun x => Wo (drf ρ2 t) fun y => Wo (wLrng x y) fun w => Q (.val w) ρ2) E) E) : Wm (ev (.lrng a b)) ρ Q E := by
  unfold ev
  exact Wm_bnd (Wm_imp h (fun s ρ1 h => Wm_bnd (Wm_imp h (fun t ρ2 h => Wm_bnd (Wm_rd (by
    unfold Wo at h ⊢
    split at h
    · exact Wm_bnd (Wm_rd (by
        unfold Wo
        split at h
        · exact Wm_bnd (Wm_lft (by unfold Wo; split at h; exact h; exact h.elim))
        · exact h.elim))
    · exact h))) fun _ _ h => h)) fun _ _ h => h)
theorem Wxo_none {Q : Option Int → Rho → Prop} (h : Q none ρ) : Wm (evO none) ρ Q E := by unfold evO; exact h
theorem Wxo_some {Q : Option Int → Rho → Prop} {e : Ex} (h : Wm (ev e) ρ (fun t ρ1 => Wo (drf ρ1 t) fun w => Wint w fun i => Q (some i) ρ1) E) : Wm (evO (some e)) ρ Q E := by
  unfold evO
  refine Wm_bnd (Wm_imp h (fun t ρ1 h => Wm_bnd (Wm_rd ?_)) fun _ _ h => h)
  unfold Wo at h ⊢
  split at h
  · rename_i w e
    unfold Wint at h
    split at h
    · exact h
    · exact h.elim
  · exact h
theorem Wx_sl {a : Ex} {lo hi : Option Ex} (h : Wm (ev a) ρ (fun s ρ1 => Wm (evO lo) ρ1 (fun l ρ2 => Wm (evO hi) ρ2 (fun r ρ3 => Wo (drf ρ3 s) fun x => Wo (wSl x l r) fun w => Q (.val w) ρ3) E) E) E) : Wm (ev (.sl a lo hi)) ρ Q E := by
  unfold ev
  exact Wm_bnd (Wm_imp h (fun s ρ1 h => Wm_bnd (Wm_imp h (fun l ρ2 h => Wm_bnd (Wm_imp h (fun r ρ3 h => un_help (f := fun x => wSl x l r) h) fun _ _ h => h)) fun _ _ h => h)) fun _ _ h => h)
/-- a field of an instance in a slot -/
theorem W_fld {o : Ex} {f : String} {Cs Xs : List String} (h : Wm (ev o) ρ (fun t ρ1 => Wfld t f Cs Xs ρ1 Q) E) : Wm (ev (.fld o f Cs Xs)) ρ Q E := by
  unfold ev
  refine Wm_bnd (Wm_imp h (fun t ρ1 h => ?_) fun _ _ h => h)
  unfold Wfld at h
  split at h
  · rename_i i
    split at h
    · rename_i C fs e
      obtain ⟨hC, w, hw, hq⟩ := h
      refine Wm_of (a := if own w then .pl i (some f) else .val w) (ρ1 := ρ1) ?_ hq
      simp only [e, if_pos hC, hw]
    · exact h.elim
  · rename_i C fs
    obtain ⟨hC, w, hw, hq⟩ := h
    refine Wm_of (a := .val w) (ρ1 := ρ1) ?_ hq
    simp only [if_pos hC, hw]
    rfl
  · exact h.elim
end
end Rf
/-! pure runs, told from behind: statements, loops, defs -/
namespace Rf
open PySem
def Wpl (t : T) (K : Nat → Option String → Prop) : Prop := match t with
  | .pl i f => K i f
  | .val _ => False
def Wtp (w : W) (n : Nat) (K : List W → Prop) : Prop := match w with
  | .tup ws => ws.length = n ∧ K ws
  | _ => False
def Wend (f : Flow) (K : W → Prop) : Prop := match f with
  | .rt w => K w
  | .nx => K .non
  | .bk => False
section
variable {np : Nat} {ρ ρ1 ρ2 : Rho} {Q : Flow → Rho → Prop} {E : W → Rho → Prop}
theorem Ws_nil (h : Q .nx ρ) : Wm (execs np []) ρ Q E := by unfold execs; exact h
theorem Ws_cons {s : St} {ss : List St} (h : Wm (exec np s) ρ (fun f ρ1 => Wnx f (Wm (execs np ss) ρ1 Q E) (Q f ρ1)) E) : Wm (execs np (s :: ss)) ρ Q E := by
  unfold execs
  refine Wm_bnd (Wm_imp h (fun f ρ1 h => ?_) fun _ _ h => h)
  cases f with
  | nx => exact h
  | rt w => exact h
  | bk => exact h
theorem Ws_last {s : St} (h : Wm (exec np s) ρ Q E) : Wm (execs np [s]) ρ Q E := by
  refine Ws_cons (Wm_imp h (fun f ρ1 h => ?_) fun _ _ h => h)
  cases f with
  | nx => exact Ws_nil (np := np) (E := E) h
  | rt w => exact h
  | bk => exact h
theorem Ws_asg {i : Nat} {e : Ex} (h : Wm (ev e) ρ (fun t ρ1 => Wm (mv t) ρ1 (fun w ρ2 => Wset ρ2 i w fun ρ3 => Q .nx ρ3) E) E) : Wm (exec np (.asg (.nm i) e)) ρ Q E := by
  unfold exec
  exact Wm_bnd (Wm_imp h (fun t ρ1 h => Wm_bnd (Wm_imp h (fun w ρ2 h => Wm_bnd (Wm_stN h)) fun _ _ h => h)) fun _ _ h => h)
theorem Ws_sub {o i e : Ex} (h : Wm (ev e) ρ (fun t ρ1 => Wm (sh t) ρ1 (fun w ρ2 => Wm (stA (.sub o i) w) ρ2 (fun _ ρ3 => Q .nx ρ3) E) E) E) : Wm (exec np (.asg (.sub o i) e)) ρ Q E := by
  unfold exec
  exact Wm_bnd (Wm_imp h (fun t ρ1 h => Wm_bnd (Wm_imp h (fun w ρ2 h => Wm_bnd h) fun _ _ h => h)) fun _ _ h => h)
theorem Ws_fld {o e : Ex} {f : String} {Cs : List String} (h : Wm (ev e) ρ (fun t ρ1 => Wm (mv t) ρ1 (fun w ρ2 => Wm (stA (.fld o f Cs) w) ρ2 (fun _ ρ3 => Q .nx ρ3) E) E) E) : Wm (exec np (.asg (.fld o f Cs) e)) ρ Q E := by
  unfold exec
  exact Wm_bnd (Wm_imp h (fun t ρ1 h => Wm_bnd (Wm_imp h (fun w ρ2 h => Wm_bnd h) fun _ _ h => h)) fun _ _ h => h)
theorem Wa_nm {i : Nat} {w : W} {Q : Unit → Rho → Prop} (h : Wset ρ i w (Q ())) : Wm (stA (.nm i) w) ρ Q E := by unfold stA; exact Wm_stN h
theorem Wa_sub {o ix : Ex} {w : W} {Q : Unit → Rho → Prop} (h : Wm (ev o) ρ (fun t ρ1 => Wm (ev ix) ρ1 (fun u ρ2 => Wpl t fun i f => Wo (getP ρ2 i f) fun x => Wo (drf ρ2 u) fun y => Wo (wSet x y w) fun z => Wb1 ρ2 i f z fun ρ' => Q () ρ') E) E) : Wm (stA (.sub o ix) w) ρ Q E := by
  unfold stA
  refine Wm_bnd (Wm_imp h (fun t ρ1 h => Wm_bnd (Wm_imp h (fun u ρ2 h => ?_) fun _ _ h => h)) fun _ _ h => h)
  cases t with
  | val w => exact h.elim
  | pl i f =>
    have h' : Wo (getP ρ2 i f) fun x => Wo (drf ρ2 u) fun y => Wo (wSet x y w) fun z => Wb1 ρ2 i f z fun ρ' => Q () ρ' := h
    unfold Wo at h'
    cases e1 : getP ρ2 i f with
    | none => rw [e1] at h'; exact h'.elim
    | some x =>
      rw [e1] at h'
      dsimp only at h'
      refine Wm_bnd (Wm_rd (Wr_pl e1 ?_))
      cases e2 : drf ρ2 u with
      | none => rw [e2] at h'; exact h'.elim
      | some y =>
        rw [e2] at h'
        dsimp only at h'
        refine Wm_bnd (Wm_rd (Wo_eq e2 ?_))
        cases e3 : wSet x y w with
        | none => rw [e3] at h'; exact h'.elim
        | some z =>
          rw [e3] at h'
          exact Wm_bnd (Wm_lft (Wo_some (Wm_of rfl h')))
theorem Wa_fld {o : Ex} {f : String} {Cs : List String} {w : W} {Q : Unit → Rho → Prop} (h : Wm (ev o) ρ (fun t ρ1 => ∃ i C fs, t = .pl i none ∧ slot ρ1 i = some (.ins true C fs) ∧ C ∈ Cs ∧ isIns w = false ∧ ((fs.lookup f).map isLD).getD false = false ∧ fs.length < 500 ∧ Wb1 ρ1 i (some f) w fun ρ' => Q () ρ') E) : Wm (stA (.fld o f Cs) w) ρ Q E := by
  unfold stA
  refine Wm_bnd (Wm_imp h (fun t ρ1 h => ?_) fun _ _ h => h)
  obtain ⟨i, C, fs, rfl, e1, e2, e3, e4, e5, h⟩ := h
  refine Wm_of (a := ()) (ρ1 := setP ρ1 i (some f) w) ?_ h
  simp [e1, e2, e3, e4, e5]
theorem Was_nil {Q : Unit → Rho → Prop} (h : Q () ρ) : Wm (stAs [] []) ρ Q E := by unfold stAs; exact h
theorem Was_cons {t : Ta} {ts : List Ta} {w : W} {ws : List W} {Q : Unit → Rho → Prop} (h : Wm (stA t w) ρ (fun _ ρ1 => Wm (stAs ts ws) ρ1 Q E) E) : Wm (stAs (t :: ts) (w :: ws)) ρ Q E := by unfold stAs; exact Wm_bnd h
theorem Wns_nil {Q : Unit → Rho → Prop} (h : Q () ρ) : Wm (stNs [] []) ρ Q E := by unfold stNs; exact h
theorem Wns_cons {t : Nat} {ts : List Nat} {w : W} {ws : List W} {Q : Unit → Rho → Prop} (h : Wset ρ t w fun ρ1 => Wm (stNs ts ws) ρ1 Q E) : Wm (stNs (t :: ts) (w :: ws)) ρ Q E := by unfold stNs; exact Wm_bnd (Wm_stN h)
theorem Ws_mul {ts : List Ta} {e : Ex} (h : Wm (ev e) ρ (fun t ρ1 => Wm (sh t) ρ1 (fun w ρ2 => Wtp w ts.length fun ws => Wm (stAs ts ws) ρ2 (fun _ ρ3 => Q .nx ρ3) E) E) E) : Wm (exec np (.mul ts e)) ρ Q E := by
  unfold exec
  refine Wm_bnd (Wm_imp h (fun t ρ1 h => Wm_bnd (Wm_imp h (fun w ρ2 h => ?_) fun _ _ h => h)) fun _ _ h => h)
  unfold Wtp at h
  split at h
  · try dsimp only
    rw [if_pos h.1]
    exact Wm_bnd h.2
  · exact h.elim
theorem Ws_par {ts : List Nat} {es : List Ex} (h : Wm (evs es) ρ (fun ws ρ1 => Wm (stNs ts ws) ρ1 (fun _ ρ2 => Q .nx ρ2) E) E) : Wm (exec np (.par ts es)) ρ Q E := by
  unfold exec
  exact Wm_bnd (Wm_imp h (fun ws ρ1 h => Wm_bnd h) fun _ _ h => h)
theorem Ws_expr {e : Ex} (h : Wm (ev e) ρ (fun _ ρ1 => Q .nx ρ1) E) : Wm (exec np (.expr e)) ρ Q E := by
  unfold exec; exact Wm_bnd h
theorem Ws_ret {e : Ex} (h : Wm (ev e) ρ (fun t ρ1 => Wm (rtT np t) ρ1 Q E) E) : Wm (exec np (.ret e)) ρ Q E := by
  unfold exec; exact Wm_bnd h
theorem Wrt_val {w : W} (h : Q (.rt w) ρ) : Wm (rtT np (.val w)) ρ Q E := h
theorem Wrt_pl {i : Nat} {w : W} (s : slot ρ i = some w) (hn : np ≤ i) (e : ρ.set i none = ρ1) (h : Q (.rt w) ρ1) : Wm (rtT np (.pl i none)) ρ Q E := by
  refine Wm_of (a := .rt w) (ρ1 := ρ1) ?_ h
  unfold rtT; simp [s, hn, e]
theorem Ws_parO {ts : List Nat} {es : List Ex} (h : Wm (evT es) ρ (fun ws ρ1 => Wm (parF ts ws) ρ1 Q E) E) : Wm (exec np (.parO ts es)) ρ Q E := by unfold exec; exact Wm_bnd h
theorem W_parF {i j : Nat} {x y : W} {Q : Flow → Rho → Prop} (h : Wset ρ i x fun ρ1 => Wset ρ1 j y fun ρ2 => Q .nx ρ2) : Wm (parF [i, j] [.val x, .val y]) ρ Q E := by
  show Wm (bnd (stN i x) fun _ => bnd (stN j y) fun _ => ret Flow.nx) ρ Q E
  exact Wm_bnd (Wm_stN ⟨h.1, Wm_bnd (Wm_stN ⟨h.2.1, Wm_ret h.2.2⟩)⟩)
theorem Wrt_par {i : Nat} {w : W} (s : slot ρ i = some w) (hn : ¬ np ≤ i) (h : Wm (sh (.pl i none)) ρ (fun w ρ1 => Q (.rt w) ρ1) E) : Wm (rtT np (.pl i none)) ρ Q E := by
  have e : rtT np (.pl i none) ρ = (bnd (sh (.pl i none)) fun w => ret (Flow.rt w)) ρ := by unfold rtT; simp [s, hn]
  have h2 : Wm (bnd (sh (.pl i none)) fun w => ret (Flow.rt w)) ρ Q E := Wm_bnd h
  unfold Wm at h2 ⊢
  rw [e]; exact h2
theorem Wrt_fld {i : Nat} {f : String} (h : Wm (sh (.pl i (some f))) ρ (fun w ρ1 => Q (.rt w) ρ1) E) : Wm (rtT np (.pl i (some f))) ρ Q E := by
  have h2 : Wm (bnd (sh (.pl i (some f))) fun w => ret (Flow.rt w)) ρ Q E := Wm_bnd h
  exact h2
theorem Ws_ite {c : Ex} {a b : List St} (h : Wm (ev c) ρ (fun s ρ1 => Wo (drf ρ1 s) fun x => Wo (wTru x) fun k => Wif k (Wm (execs np a) ρ1 Q E) (Wm (execs np b) ρ1 Q E)) E) : Wm (exec np (.ite c a b)) ρ Q E := by
  unfold exec
  refine Wm_bnd (Wm_imp h (fun s ρ1 h => Wm_bnd (Wm_tru ?_)) fun _ _ h => h)
  unfold Wo at h ⊢
  split at h
  · split at h
    · exact Wm_ite h
    · exact h
  · exact h
theorem Ws_pass (h : Q .nx ρ) : Wm (exec np .pass) ρ Q E := by unfold exec; exact h
theorem Ws_brk (h : Q .bk ρ) : Wm (exec np .brk) ρ Q E := by unfold exec; exact h
theorem Ws_rse0 {C : String} (h : E (.exc C []) ρ) : Wm (exec np (.rse C [])) ρ Q E := by unfold exec evF; exact h
theorem Ws_rse1 {C f : String} {e : Ex} (h : Wm (ev e) ρ (fun t ρ1 => Wm (sh t) ρ1 (fun w ρ2 => E (.exc C [(f, w)]) ρ2) E) E) : Wm (exec np (.rse C [(f, e)])) ρ Q E := by
  unfold exec evF evF
  exact Wm_bnd (Wm_bnd (Wm_imp h (fun t ρ1 h => Wm_bnd (Wm_imp h (fun w ρ2 h => h) fun _ _ h => h)) fun _ _ h => h))
/-- a try with a name -/
theorem Ws_trn {b s : List St} {C : String} {Xs : List String} {n : Nat} (h : Wm (execs np b) ρ Q fun w ρ1 => ∃ D fs, w = .exc D fs ∧ D ∈ Xs ∧ Wif ((excUp D).contains C) (Wset ρ1 n (.exc D fs) fun ρ2 => Wm (execs np s) ρ2 (fun f ρ3 => Q f (ρ3.set n none)) E) (E w ρ1)) : Wm (exec np (.tr b C Xs (some n) s)) ρ Q E := by
  unfold exec
  rcases Wm_get h with ⟨f, ρ', e, q⟩ | ⟨w, ρ', e, D, fs, rfl, hD, q⟩
  · unfold Wm
    try dsimp only
    rw [e]
    exact q
  · unfold Wm
    try dsimp only
    rw [e]
    try dsimp only
    rw [if_pos hD]
    cases c : (excUp D).contains C with
    | false => rw [if_neg (by decide)]; exact q.2 c
    | true =>
      rw [if_pos rfl]
      exact Wm_bnd (Wm_stN (by
        have z := q.1 c
        exact ⟨z.1, Wm_bnd (Wm_imp z.2 (fun f ρ3 h => h) fun _ _ h => h)⟩))
theorem Ws_tr0 {b s : List St} {C : String} {Xs : List String} (h : Wm (execs np b) ρ Q fun w ρ1 => ∃ D fs, w = .exc D fs ∧ D ∈ Xs ∧ Wif ((excUp D).contains C) (Wm (execs np s) ρ1 Q E) (E w ρ1)) : Wm (exec np (.tr b C Xs none s)) ρ Q E := by
  unfold exec
  rcases Wm_get h with ⟨f, ρ', e, q⟩ | ⟨w, ρ', e, D, fs, rfl, hD, q⟩
  · unfold Wm
    try dsimp only
    rw [e]
    exact q
  · unfold Wm
    try dsimp only
    rw [e]
    try dsimp only
    rw [if_pos hD]
    cases c : (excUp D).contains C with
    | false => rw [if_neg (by decide)]; exact q.2 c
    | true => rw [if_pos rfl]; exact q.1 c
theorem Ws_for {tg : Tg} {it : It} {b : List St} (h : Wm (src it) ρ (fun q ρ1 => srcOff q.at_ (tgIx tg ++ stsIx b) = true ∧ Wm (forL tg q.at_ (execs np b) q.its) ρ1 Q E) E) : Wm (exec np (.for_ tg it b)) ρ Q E := by
  unfold exec
  refine Wm_bnd (Wm_imp h (fun q ρ1 h => ?_) fun _ _ h => h)
  rw [if_pos h.1]; exact h.2
theorem Ws_whl {c : Ex} {b : List St} (h : Wm (whl (bnd (ev c) tru) (execs np b)) ρ Q E) : Wm (exec np (.whl c b)) ρ Q E := by unfold exec; exact h
end
/-! ### what is walked -/
section
variable {ρ ρ1 : Rho} {Q : Src → Rho → Prop} {E : W → Rho → Prop}
def Wsrc (t : T) (w : W) (its : List W) (K : Src → Prop) : Prop := match t with
  | .val _ => K ⟨its, none⟩
  | .pl i none => K ⟨its, if own w then some (i, w) else none⟩
  | .pl _ (some _) => False
theorem Wi_of {e : Ex} (h : Wm (ev e) ρ (fun t ρ1 => Wo (drf ρ1 t) fun w => Wo (wOf w) fun its => Wsrc t w its fun q => Q q ρ1) E) : Wm (src (.of e)) ρ Q E := by
  unfold src
  refine Wm_bnd (Wm_imp h (fun t ρ1 h => Wm_bnd (Wm_rd ?_)) fun _ _ h => h)
  unfold Wo at h ⊢
  split at h
  · rename_i w e1
    split at h
    · rename_i its e2
      simp only [e2]
      cases t with
      | val w => exact h
      | pl i f => cases f with
        | none => exact h
        | some f => exact h.elim
    · exact h.elim
  · exact h
theorem Wi_rng {es : List Ex} (h : Wm (evT es) ρ (fun ts ρ1 => Wo (drfs ρ1 ts) fun ws => Wo (wRng ws) fun its => Q ⟨its, none⟩ ρ1) E) : Wm (src (.rng es)) ρ Q E := by
  unfold src
  refine Wm_bnd (Wm_imp h (fun ts ρ1 h => Wm_bnd ?_) fun _ _ h => h)
  unfold Wo at h
  split at h
  · rename_i ws e
    refine Wm_of (a := ws) (ρ1 := ρ1) (by rw [rds_eq, e]; rfl) (Wm_bnd (Wm_lft ?_))
    unfold Wo
    split at h
    · exact h
    · exact h
  · exact h.elim
def Wzip (x y : W) (K : List W → Prop) : Prop := match x, y with
  | .tup xs, .tup ys => K (pairs xs ys)
  | .lst _ xs, .lst _ ys => K (pairs xs ys)
  | _, _ => False
theorem Wi_zip {a b : Ex} (h : Wm (ev a) ρ (fun s ρ1 => Wm (sh s) ρ1 (fun x ρ2 => Wm (ev b) ρ2 (fun t ρ3 => Wm (sh t) ρ3 (fun y ρ4 => Wzip x y fun its => Q ⟨its, none⟩ ρ4) E) E) E) E) : Wm (src (.zip a b)) ρ Q E := by
  unfold src
  refine Wm_bnd (Wm_imp h (fun s ρ1 h => Wm_bnd (Wm_imp h (fun x ρ2 h => Wm_bnd (Wm_imp h (fun t ρ3 h => Wm_bnd (Wm_imp h (fun y ρ4 h => ?_) fun _ _ h => h)) fun _ _ h => h)) fun _ _ h => h)) fun _ _ h => h)
  unfold Wzip at h
  split at h
  · exact h
  · exact h
  · exact h.elim
theorem Wi_enm {a : Ex} (h : Wm (ev a) ρ (fun s ρ1 => Wm (sh s) ρ1 (fun x ρ2 => Wo (items x) fun xs => Q ⟨enum 0 xs, none⟩ ρ2) E) E) : Wm (src (.enm a)) ρ Q E := by
  unfold src
  refine Wm_bnd (Wm_imp h (fun s ρ1 h => Wm_bnd (Wm_imp h (fun x ρ2 h => ?_) fun _ _ h => h)) fun _ _ h => h)
  unfold Wo at h
  split at h
  · rename_i xs e
    simp only [e]; exact h
  · exact h.elim
end
/-! ### loops -/
section
variable {ρ : Rho} {Q : Flow → Rho → Prop} {E : W → Rho → Prop} {tg : Tg} {b : M Flow} {sr : Option (Nat × W)}
theorem Wfor_at (I : Nat → Rho → Prop) : ∀ (its : List W) (n : Nat) (ρ : Rho), I n ρ → (∀ i x ρ, its[i]? = some x → I (n + i) ρ → still ρ sr ∧ Wm (stTg tg x) ρ (fun _ ρ1 => Wm b ρ1 (fun f ρ2 => Wlp f (I (n + i + 1) ρ2) (Q .nx ρ2) fun w => Q (.rt w) ρ2) E) E) →
    (∀ ρ', I (n + its.length) ρ' → still ρ' sr ∧ Q .nx ρ') → Wm (forL tg sr b its) ρ Q E
  | [], n, ρ, h0, hs, he => by
    obtain ⟨h1, h2⟩ := he ρ (by simpa using h0)
    exact Wm_of (forL_nil h1) h2
  | x :: xs, n, ρ, h0, hs, he => by
    obtain ⟨h1, h2⟩ := hs 0 x ρ rfl (by simpa using h0)
    have e := forL_cons tg sr b x xs ρ h1
    unfold Wm
    rw [e]
    refine Wm_bnd (Wm_imp h2 (fun _ ρ1 h => Wm_bnd (Wm_imp h (fun f ρ2 h => ?_) fun _ _ h => h)) fun _ _ h => h)
    cases f with
    | nx =>
      refine Wfor_at I xs (n + 1) ρ2 (by simpa [Wlp] using h) (fun i y ρ hi hI => ?_) fun ρ' hI => ?_
      · have := hs (i + 1) y ρ (by simpa using hi) (by rw [show n + (i + 1) = n + 1 + i by omega]; exact hI)
        rw [show n + (i + 1) = n + 1 + i by omega] at this
        exact this
      · exact he ρ' (by rw [List.length_cons, show n + (xs.length + 1) = n + 1 + xs.length by omega]; exact hI)
    | bk => exact h
    | rt w => exact h
theorem Wfor {its : List W} (I : Nat → Rho → Prop) (h0 : I 0 ρ) (hs : ∀ i x ρ, its[i]? = some x → I i ρ → Wm (stTg tg x) ρ (fun _ ρ1 => Wm b ρ1 (fun f ρ2 => Wlp f (I (i + 1) ρ2) (Q .nx ρ2) fun w => Q (.rt w) ρ2) E) E) (he : ∀ ρ', I its.length ρ' → Q .nx ρ') : Wm (forL tg none b its) ρ Q E :=
  Wfor_at I its 0 ρ h0 (fun i x ρ hi hI => ⟨trivial, by rw [Nat.zero_add] at hI ⊢; exact hs i x ρ hi hI⟩) fun ρ' hI => ⟨trivial, he ρ' (by rw [Nat.zero_add] at hI; exact hI)⟩
/-- over a list that stands in a slot -/
theorem WforS {its : List W} (I : Nat → Rho → Prop) (h0 : I 0 ρ) (hs : ∀ i x ρ, its[i]? = some x → I i ρ → still ρ sr ∧ Wm (stTg tg x) ρ (fun _ ρ1 => Wm b ρ1 (fun f ρ2 => Wlp f (I (i + 1) ρ2) (Q .nx ρ2) fun w => Q (.rt w) ρ2) E) E) (he : ∀ ρ', I its.length ρ' → still ρ' sr ∧ Q .nx ρ') : Wm (forL tg sr b its) ρ Q E :=
  Wfor_at I its 0 ρ h0 (fun i x ρ hi hI => by rw [Nat.zero_add] at hI ⊢; exact hs i x ρ hi hI) fun ρ' hI => he ρ' (by rw [Nat.zero_add] at hI; exact hI)
/-- range(lo, ..) -/
theorem Wfor_rng {lo : Int} {n : Nat} (I : Nat → Rho → Prop) (h0 : I 0 ρ) (hs : ∀ i ρ, i < n → I i ρ → Wm (stTg tg (.int (lo + (i : Int)))) ρ (fun _ ρ1 => Wm b ρ1 (fun f ρ2 => Wlp f (I (i + 1) ρ2) (Q .nx ρ2) fun w => Q (.rt w) ρ2) E) E) (he : ∀ ρ', I n ρ' → Q .nx ρ') : Wm (forL tg none b (rngs lo n)) ρ Q E := by
  refine Wfor I h0 (fun i x ρ hi hI => ?_) fun ρ' hI => he ρ' (by rw [rngs_len] at hI; exact hI)
  obtain ⟨h1, rfl⟩ := rngs_get _ _ _ _ hi
  exact hs i ρ h1 hI
theorem Wwhl {c : M Bool} (I : Nat → Rho → Prop) (hs : ∀ n ρ, I n ρ → Wm c ρ (fun k ρ1 => (k = true → Wm b ρ1 (fun f ρ2 => Wlp f (∃ m, m < n ∧ I m ρ2) (Q .nx ρ2) fun w => Q (.rt w) ρ2) E) ∧ (k = false → Q .nx ρ1)) E) : ∀ (n : Nat) (ρ : Rho), I n ρ → Wm (whl c b) ρ Q E := by
  have key : ∀ (n : Nat) (ρ : Rho), I n ρ → ∃ N, Wm (whN c b N) ρ Q E := by
    intro n
    induction n using Nat.strongRecOn with
    | _ n ih =>
      intro ρ hI
      have h := hs n ρ hI
      have step : ∀ N, Wm c ρ (fun k ρ1 => (k = true → Wm b ρ1 (fun f ρ2 => Wlp f (Wm (whN c b N) ρ2 Q E) (Q .nx ρ2) fun w => Q (.rt w) ρ2) E) ∧ (k = false → Q .nx ρ1)) E → Wm (whN c b (N + 1)) ρ Q E := fun N h => by
        show Wm (bnd c fun k => if k then bnd b fun f => match f with
          | .nx => whN c b N
          | .bk => ret .nx
          | .rt w => ret (.rt w)
        else ret .nx) ρ Q E
        refine Wm_bnd (Wm_imp h (fun k ρ1 h => ?_) fun _ _ h => h)
        cases k with
        | false => exact h.2 rfl
        | true =>
          refine Wm_bnd (Wm_imp (h.1 rfl) (fun f ρ2 h => ?_) fun _ _ h => h)
          cases f with
          | nx => exact h
          | bk => exact h
          | rt w => exact h
      rcases Wm_get h with ⟨k, ρ1, e, h1, h2⟩ | ⟨w, ρ1, e, h1⟩
      · cases k with
        | false => exact ⟨1, step 0 (Wm_of e ⟨(fun z => by cases z), fun _ => h2 rfl⟩)⟩
        | true =>
          rcases Wm_get (h1 rfl) with ⟨f, ρ2, e2, h3⟩ | ⟨w, ρ2, e2, h3⟩
          · cases f with
            | nx =>
              obtain ⟨m, hm, hI'⟩ := h3
              obtain ⟨N, hN⟩ := ih m hm ρ2 hI'
              exact ⟨N + 1, step N (Wm_of e ⟨fun _ => Wm_of e2 hN, fun z => by cases z⟩)⟩
            | bk => exact ⟨1, step 0 (Wm_of e ⟨fun _ => Wm_of e2 h3, fun z => by cases z⟩)⟩
            | rt w => exact ⟨1, step 0 (Wm_of e ⟨fun _ => Wm_of e2 h3, fun z => by cases z⟩)⟩
          · exact ⟨1, step 0 (Wm_of e ⟨fun _ => Wm_ex e2 h3, fun z => by cases z⟩)⟩
      · exact ⟨1, step 0 (Wm_ex e h1)⟩
  intro n ρ hI
  obtain ⟨N, hN⟩ := key n ρ hI
  rcases Wm_get hN with ⟨f, ρ', e, h⟩ | ⟨w, ρ', e, h⟩
  · exact Wm_of (whl_of e) h
  · exact Wm_ex (whl_of e) h
end
/-! ### list comprehensions -/
section
variable {ρ : Rho} {Q : T → Rho → Prop} {E : W → Rho → Prop} {tg : Tg} {ow : List Nat}
abbrev nE : W → Rho → Prop := fun _ _ => False
theorem wipe_lenn : ∀ {vs : List Nat} {ρ : Rho}, (wipe ρ vs).length = ρ.length
  | [], _ => rfl
  | v :: vs, ρ => by show ((wipe ρ vs).set v none).length = _; rw [List.length_set, wipe_lenn]
theorem wipe_get : ∀ {vs : List Nat} {ρ : Rho} {j : Nat}, (wipe ρ vs)[j]? = if j ∈ vs ∧ j < ρ.length then some none else ρ[j]?
  | [], ρ, j => by simp [wipe]
  | v :: vs, ρ, j => by
    show ((wipe ρ vs).set v none)[j]? = _
    rw [List.getElem?_set, wipe_get, wipe_lenn]
    by_cases c : v = j
    · subst c
      by_cases l : v < ρ.length
      · simp [l]
      · simp [l, List.getElem?_eq_none (Nat.le_of_not_lt l)]
    · simp [c, Ne.symm c]
theorem wipe_idem {vs : List Nat} {ρ : Rho} : wipe (wipe ρ vs) vs = wipe ρ vs := by
  apply List.ext_getElem?
  intro j
  rw [wipe_get, wipe_get, wipe_lenn]
  split <;> rfl
theorem unwipe_lenn : ∀ {vs : List Nat} {ρ0 ρ : Rho}, (unwipe ρ0 ρ vs).length = ρ.length
  | [], _, _ => rfl
  | v :: vs, ρ0, ρ => by show ((unwipe ρ0 ρ vs).set v _).length = _; rw [List.length_set, unwipe_lenn]
theorem unwipe_gett : ∀ {vs : List Nat} {ρ0 ρ : Rho} {j : Nat}, (unwipe ρ0 ρ vs)[j]? = if j ∈ vs ∧ j < ρ.length then some ((ρ0[j]?).join) else ρ[j]?
  | [], ρ0, ρ, j => by simp [unwipe]
  | v :: vs, ρ0, ρ, j => by
    show ((unwipe ρ0 ρ vs).set v ((ρ0[v]?).join))[j]? = _
    rw [List.getElem?_set, unwipe_gett, unwipe_lenn]
    by_cases c : v = j
    · subst c
      by_cases l : v < ρ.length
      · simp [l]
      · simp [l, List.getElem?_eq_none (Nat.le_of_not_lt l)]
    · simp [c, Ne.symm c]
theorem unwipe_wipe {vs : List Nat} {ρ0 ρ : Rho} : unwipe ρ0 (wipe ρ vs) vs = unwipe ρ0 ρ vs := by
  apply List.ext_getElem?
  intro j
  rw [unwipe_gett, unwipe_gett, wipe_get, wipe_lenn]
  split <;> rename_i h
  · rfl
  · rfl
theorem lcL_at (sr : Option (Nat × W)) (c : M Bool) (m : M W) (I : Nat → List W → Rho → Prop) : ∀ (its acc : List W) (n : Nat) (ρ : Rho), I n acc (wipe ρ ow) → still ρ sr →
    (∀ i x acc ρ, its[i]? = some x → I (n + i) acc ρ → Wm (stTg tg x) ρ (fun _ ρ1 => Wm c ρ1 (fun k ρ2 => Wif k (Wm m ρ2 (fun y ρ3 => I (n + i + 1) (acc ++ [y]) (wipe ρ3 ow) ∧ still ρ3 sr) nE) (I (n + i + 1) acc (wipe ρ2 ow) ∧ still ρ2 sr)) nE) nE) →
    Wm (lcL tg sr ow c m its acc) ρ (fun ws ρ' => I (n + its.length) ws (wipe ρ' ow)) nE
  | [], acc, n, ρ, h0, st, hs => by
    refine Wm_of (a := acc) (ρ1 := ρ) ?_ (by simpa using h0)
    unfold lcL; rw [if_pos st]
  | x :: xs, acc, n, ρ, h0, st, hs => by
    have h := hs 0 x acc (wipe ρ ow) rfl (by simpa using h0)
    have e : lcL tg sr ow c m (x :: xs) acc ρ = (bnd (stTg tg x) fun _ => bnd c fun k => if k then bnd m fun y => lcL tg sr ow c m xs (acc ++ [y]) else lcL tg sr ow c m xs acc) (wipe ρ ow) := by
      rw [lcL]; exact if_pos st
    unfold Wm
    rw [e]
    have nxt : ∀ acc' ρ', I (n + 0 + 1) acc' (wipe ρ' ow) → still ρ' sr → Wm (lcL tg sr ow c m xs acc') ρ' (fun ws ρ' => I (n + (x :: xs).length) ws (wipe ρ' ow)) nE := fun acc' ρ' h1 h2 => by
      have := lcL_at sr c m I xs acc' (n + 1) ρ' h1 h2 fun i y acc ρ hi hI => by
        have := hs (i + 1) y acc ρ (by simpa using hi) (by rw [show n + (i + 1) = n + 1 + i by omega]; exact hI)
        rw [show n + (i + 1) = n + 1 + i by omega] at this
        exact this
      rw [List.length_cons, show n + (xs.length + 1) = n + 1 + xs.length by omega]
      exact this
    refine Wm_bnd (Wm_imp h (fun _ ρ1 h => Wm_bnd (Wm_imp h (fun k ρ2 h => ?_) fun _ _ h => h)) fun _ _ h => h)
    cases k with
    | true => exact Wm_bnd (Wm_imp (h.1 rfl) (fun y ρ3 h => nxt _ _ h.1 h.2) fun _ _ h => h)
    | false => exact nxt _ _ (h.2 rfl).1 (h.2 rfl).2
/-- THE COMPREHENSION: I tells of the list so far and of the state with the own names wiped -/
theorem Wlc {elt : Ex} {it : It} {c : Option Ex} (h : Wm (src it) ρ (fun q ρ1 => q.its.length < LIM ∧ ∃ I : Nat → List W → Rho → Prop, I 0 [] (wipe ρ1 ow) ∧ still (wipe ρ1 ow) q.at_ ∧
      (∀ i x acc ρ2, q.its[i]? = some x → I i acc ρ2 → Wm (stTg tg x) ρ2 (fun _ ρ3 => Wm (evB c) ρ3 (fun k ρ4 => Wif k (Wm (bnd (ev elt) sh) ρ4 (fun y ρ5 => I (i + 1) (acc ++ [y]) (wipe ρ5 ow) ∧ still ρ5 q.at_) nE) (I (i + 1) acc (wipe ρ4 ow) ∧ still ρ4 q.at_)) nE) nE) ∧
      ∀ ws ρ2, I q.its.length ws ρ2 → Q (.val (.lst true ws)) (unwipe ρ1 ρ2 ow)) E) : Wm (ev (.lc elt tg it c ow)) ρ Q E := by
  unfold ev
  refine Wm_bnd (Wm_imp h (fun q ρ1 h => ?_) fun _ _ h => h)
  obtain ⟨hl, I, h0, st, hs, he⟩ := h
  rw [if_pos hl]
  have key := lcL_at (tg := tg) (ow := ow) q.at_ (evB c) (bnd (ev elt) sh) I q.its [] 0 (wipe ρ1 ow) (by rw [wipe_idem]; exact h0) st fun i x acc ρ hi hI => by
    rw [Nat.zero_add] at hI ⊢
    exact hs i x acc ρ hi hI
  rcases Wm_get key with ⟨ws, ρ2, e, hI⟩ | ⟨w, ρ2, e, hI⟩
  · rw [Nat.zero_add] at hI
    have := he ws _ hI
    rw [unwipe_wipe] at this
    refine Wm_bnd (Wm_of (a := ws) (ρ1 := unwipe ρ1 ρ2 ow) ?_ this)
    unfold blk; rw [e]
  · exact hI.elim
theorem Wb_none {Q : Bool → Rho → Prop} (h : Q true ρ) : Wm (evB none) ρ Q E := by unfold evB; exact h
theorem Wb_some {e : Ex} {Q : Bool → Rho → Prop} (h : Wm (ev e) ρ (fun t ρ1 => Wo (drf ρ1 t) fun w => Wo (wTru w) fun k => Q k ρ1) E) : Wm (evB (some e)) ρ Q E := by
  unfold evB; exact Wm_bnd (Wm_imp h (fun t ρ1 h => Wm_tru h) fun _ _ h => h)
end
/-! ### defs -/
section
variable {np nl : Nat} {body : List St} {ws : List W} {ρ0 : Rho} {J A : List Nat} {Q E : W → List W → Prop}
theorem Wf_run (hl : ws.length = np) (hA : stsIx body = A) (hJ : ((List.range np).filter fun j => decide (j ∈ A)) = J) (hρ : ws.map some ++ List.replicate (nl - np) none = ρ0)
    (h : Wm (fzS J) ρ0 (fun _ ρ1 => Wm (execs np body) ρ1 (fun f ρ2 => Wend f fun w => Wout A ρ2 ws fun os => Q w os) (fun w ρ2 => Wout A ρ2 ws fun os => E w os)) nE) : Wf (runFn np nl body) ws Q E := by
  subst hA hJ hρ
  have h2 : Wm (bnd (fzS ((List.range np).filter fun j => decide (j ∈ stsIx body))) fun _ => execs np body) (ws.map some ++ List.replicate (nl - np) none) (fun f ρ2 => Wend f fun w => Wout (stsIx body) ρ2 ws fun os => Q w os) (fun w ρ2 => Wout (stsIx body) ρ2 ws fun os => E w os) :=
    Wm_bnd (Wm_imp h (fun _ _ h => h) fun _ _ h => h.elim)
  unfold Wf runFn
  rw [if_pos hl]
  rcases Wm_get h2 with ⟨f, ρ2, e, q⟩ | ⟨w, ρ2, e, q⟩
  · rw [e]
    cases f with
    | bk => exact q.elim
    | nx =>
      have q' : Wo (outs (stsIx body) ρ2 0 ws) fun os => Q .non os := q
      unfold Wo at q'
      dsimp only [fin]
      cases o : outs (stsIx body) ρ2 0 ws with
      | none => rw [o] at q'; exact q'.elim
      | some os => rw [o] at q'; exact q'
    | rt w =>
      have q' : Wo (outs (stsIx body) ρ2 0 ws) fun os => Q w os := q
      unfold Wo at q'
      dsimp only [fin]
      cases o : outs (stsIx body) ρ2 0 ws with
      | none => rw [o] at q'; exact q'.elim
      | some os => rw [o] at q'; exact q'
  · rw [e]
    have q' : Wo (outs (stsIx body) ρ2 0 ws) fun os => E w os := q
    unfold Wo at q'
    dsimp only [fin]
    cases o : outs (stsIx body) ρ2 0 ws with
    | none => rw [o] at q'; exact q'.elim
    | some os => rw [o] at q'; exact q'
theorem Wf_eq {F : Fn} {w : W} {os : List W} (e : F ws = some (.ok w, os)) (h : Q w os) : Wf F ws Q E := by unfold Wf; rw [e]; exact h
theorem Wf_ex {F : Fn} {w : W} {os : List W} (e : F ws = some (.ex w, os)) (h : E w os) : Wf F ws Q E := by unfold Wf; rw [e]; exact h
theorem Wf_imp {F : Fn} {Q' E' : W → List W → Prop} (h : Wf F ws Q E) (q : ∀ w os, Q w os → Q' w os) (e : ∀ w os, E w os → E' w os) : Wf F ws Q' E' := by
  unfold Wf at h ⊢
  split at h
  · exact q _ _ h
  · exact e _ _ h
  · exact h
/-- an equation out of a telling -/
theorem eq_Wf {F : Fn} {w : W} {os : List W} (h : Wf F ws (fun w' os' => w' = w ∧ os' = os) fun _ _ => False) : F ws = some (.ok w, os) := by
  unfold Wf at h
  split at h
  · rename_i e; rw [e, h.1, h.2]
  · exact h.elim
  · exact h.elim
theorem ex_Wf {F : Fn} {w : W} {os : List W} (h : Wf F ws (fun _ _ => False) fun w' os' => w' = w ∧ os' = os) : F ws = some (.ex w, os) := by
  unfold Wf at h
  split at h
  · exact h.elim
  · rename_i e; rw [e, h.1, h.2]
  · exact h.elim
theorem get_Wf {F : Fn} (h : Wf F ws Q fun _ _ => False) : ∃ w os, F ws = some (.ok w, os) ∧ Q w os := by
  unfold Wf at h
  split at h
  · rename_i e; exact ⟨_, _, e, h⟩
  · exact h.elim
  · exact h.elim
theorem Wfz_nil {ρ : Rho} {Q : Unit → Rho → Prop} {E : W → Rho → Prop} (h : Q () ρ) : Wm (fzS []) ρ Q E := h
theorem Wfz_cons {ρ : Rho} {Q : Unit → Rho → Prop} {E : W → Rho → Prop} {j : Nat} {js : List Nat} (h : Wm (sh (.pl j none)) ρ (fun _ ρ1 => Wm (fzS js) ρ1 Q E) E) : Wm (fzS (j :: js)) ρ Q E := Wm_bnd h
end
end Rf
/-! sx: steps through a pure run, told from behind -/
namespace Rf
open PySem
section
variable {Q : W → Prop} {ρ : Rho}
theorem Wo_add_i {i j : Int} (h : Q (.int (i + j))) : Wo (wBin .add (.int i) (.int j)) Q := h
theorem Wo_sub_i {i j : Int} (h : Q (.int (i - j))) : Wo (wBin .sub (.int i) (.int j)) Q := h
theorem Wo_mul_i {i j : Int} (hi : i.natAbs < 2 ^ 500) (hj : j.natAbs < 2 ^ 500) (h : Q (.int (i * j))) : Wo (wBin .mul (.int i) (.int j)) Q :=
  Wo_eq (wb_mul (by
    have h1 := log_lt (n := 500) (by decide) hi
    have h2 := log_lt (n := 500) (by decide) hj
    unfold MUL; omega)) h
theorem Wo_mod_i {i j : Int} (hj : 0 < j) (h : Q (.int (i % j))) : Wo (wBin .mod (.int i) (.int j)) Q := Wo_eq (wb_mod hj) h
theorem Wo_fdiv_i {i j : Int} (hj : 0 < j) (h2 : j.natAbs < 2 ^ 500) (h : Q (.int (i / j))) : Wo (wBin .fdiv (.int i) (.int j)) Q := Wo_eq (wb_fdiv hj (by
    have h1 := log_lt (n := 500) (by decide) h2
    unfold DIV; omega)) h
theorem Wo_add_l {o o' : Bool} {xs ys : List W} (hl : xs.length + ys.length < 1000000) (h : Q (.lst true (xs ++ ys))) : Wo (wBin .add (.lst o xs) (.lst o' ys)) Q := Wo_eq (wb_cat hl) h
theorem Wo_add_t {xs ys : List W} (hl : xs.length + ys.length < 1000000) (h : Q (.tup (xs ++ ys))) : Wo (wBin .add (.tup xs) (.tup ys)) Q := Wo_eq (if_pos hl) h
theorem Wo_neg_i {i : Int} (h : Q (.int (-i))) : Wo (wNeg (.int i)) Q := h
theorem Wo_lt_i {i j : Int} (h : Q (.bl (decide (i < j)))) : Wo (wCmp .lt (.int i) (.int j)) Q := h
theorem Wo_le_i {i j : Int} (h : Q (.bl (decide (i ≤ j)))) : Wo (wCmp .le (.int i) (.int j)) Q := h
theorem Wo_gt_i {i j : Int} (h : Q (.bl (decide (j < i)))) : Wo (wCmp .gt (.int i) (.int j)) Q := h
theorem Wo_ge_i {i j : Int} (h : Q (.bl (decide (j ≤ i)))) : Wo (wCmp .ge (.int i) (.int j)) Q := h
theorem weq_i (i j : Int) : weq (.int i) (.int j) = decide (i = j) := by
  rw [weq]
  rw [Bool.eq_iff_iff, beq_iff_eq, decide_eq_true_eq]
theorem Wo_eq_i {i j : Int} (h : Q (.bl (decide (i = j)))) : Wo (wCmp .eq (.int i) (.int j)) Q := Wo_eq (a := .bl (decide (i = j))) (by rw [wCmp, weq_i]; rfl) h
theorem Wo_ne_i {i j : Int} (h : Q (.bl (!decide (i = j)))) : Wo (wCmp .ne (.int i) (.int j)) Q := Wo_eq (a := .bl (!decide (i = j))) (by rw [wCmp, weq_i]; rfl) h
theorem Wo_eq_b {a b : Bool} (h : Q (.bl (a == b))) : Wo (wCmp .eq (.bl a) (.bl b)) Q := Wo_eq (a := .bl (a == b)) (by rw [wCmp, weq]; rfl) h
theorem Wo_ne_b {a b : Bool} (h : Q (.bl (!(a == b)))) : Wo (wCmp .ne (.bl a) (.bl b)) Q := Wo_eq (a := .bl (!(a == b))) (by rw [wCmp, weq]; rfl) h
theorem Wo_is_nn (h : Q (.bl true)) : Wo (wCmp .is .non .non) Q := h
theorem Wo_isnot_nn (h : Q (.bl false)) : Wo (wCmp .isnot .non .non) Q := h
theorem Wo_is_bb {a b : Bool} (h : Q (.bl (a == b))) : Wo (wCmp .is (.bl a) (.bl b)) Q := h
theorem Wo_isnot_bb {a b : Bool} (h : Q (.bl (!(a == b)))) : Wo (wCmp .isnot (.bl a) (.bl b)) Q := h
theorem Wo_is_t {xs : List W} (h : Q (.bl false)) : Wo (wCmp .is (.tup xs) .non) Q := h
theorem Wo_isnot_t {xs : List W} (h : Q (.bl true)) : Wo (wCmp .isnot (.tup xs) .non) Q := h
theorem Wo_is_e {C : String} {fs : List (String × W)} (h : Q (.bl false)) : Wo (wCmp .is (.exc C fs) .non) Q := h
theorem Wo_isnot_e {C : String} {fs : List (String × W)} (h : Q (.bl true)) : Wo (wCmp .isnot (.exc C fs) .non) Q := h
theorem Wo_lit {o : Option W} {w : W} (e : o = some w) (h : Q w) : Wo o Q := Wo_eq e h
end
section
theorem Wt_b {b : Bool} {Q : Bool → Prop} (h : Q b) : Wo (wTru (.bl b)) Q := h
theorem Wt_n {Q : Bool → Prop} (h : Q false) : Wo (wTru .non) Q := h
theorem Wt_i {i : Int} {Q : Bool → Prop} (h : Q (decide (i ≠ 0))) : Wo (wTru (.int i)) Q := Wo_eq (a := decide (i ≠ 0)) (by
  show some (i != 0) = _
  congr 1
  rw [Bool.eq_iff_iff, bne_iff_ne, decide_eq_true_eq]) h
theorem Wt_t {xs : List W} {Q : Bool → Prop} (h : Q (!xs.isEmpty)) : Wo (wTru (.tup xs)) Q := h
theorem Wt_l {o : Bool} {xs : List W} {Q : Bool → Prop} (h : Q (!xs.isEmpty)) : Wo (wTru (.lst o xs)) Q := h
theorem Wi_t {xs : List W} {T : String} {Q : Bool → Prop} (h : Q (T == "tuple")) : Wo (wIsi (.tup xs) T) Q := h
theorem Wi_i {i : Int} {T : String} {Q : Bool → Prop} (h : Q (T == "int")) : Wo (wIsi (.int i) T) Q := h
theorem Wi_n {T : String} {Q : Bool → Prop} (h : Q false) : Wo (wIsi .non T) Q := h
theorem Wi_b {b : Bool} {T : String} {Q : Bool → Prop} (h : Q (T == "bool" || T == "int")) : Wo (wIsi (.bl b) T) Q := h
theorem Wi_l {o : Bool} {xs : List W} {T : String} {Q : Bool → Prop} (h : Q (T == "list")) : Wo (wIsi (.lst o xs) T) Q := h
theorem Wi_s {x : Str} {T : String} {Q : Bool → Prop} (h : Q (T == "str")) : Wo (wIsi (.str x) T) Q := h
theorem Wx_e {C T : String} {fs : List (String × W)} {Xs : List String} {k : Bool} {Q : Bool → Prop} (hC : C ∈ Xs) (e : (excUp C).contains T = k) (h : Q k) : Wo (wIsx Xs (.exc C fs) T) Q := Wo_eq (if_pos hC) (by rw [e]; exact h)
end
section
variable {Q : W → Prop}
theorem Wo_len_t {xs : List W} (h : Q (.int xs.length)) : Wo (wBi .len [.tup xs]) Q := h
theorem Wo_len_l {o : Bool} {xs : List W} (h : Q (.int xs.length)) : Wo (wBi .len [.lst o xs]) Q := h
theorem Wo_len_s {ns : List Int} (h : Q (.int ns.length)) : Wo (wBi .len [.scr ns]) Q := h
theorem Wo_abs {i : Int} (h : Q (.int i.natAbs)) : Wo (wBi .abs [.int i]) Q := h
theorem Wo_min {i j : Int} (h : Q (.int (min i j))) : Wo (wBi .min [.int i, .int j]) Q := Wo_eq (a := .int (min i j)) (by
  show some (W.int (if j < i then j else i)) = _
  congr 2
  split <;> omega) h
theorem Wo_max {i j : Int} (h : Q (.int (max i j))) : Wo (wBi .max [.int i, .int j]) Q := Wo_eq (a := .int (max i j)) (by
  show some (W.int (if i < j then j else i)) = _
  congr 2
  split <;> omega) h
theorem Wo_int_b {b : Bool} (h : Q (.int (b2 b))) : Wo (wBi .int [.bl b]) Q := h
theorem Wo_int_i {i : Int} (h : Q (.int i)) : Wo (wBi .int [.int i]) Q := h
theorem Wo_tuple_t {xs : List W} (h : Q (.tup xs)) : Wo (wBi .tuple [.tup xs]) Q := h
theorem Wo_tuple_l {o : Bool} {xs : List W} (h : Q (.tup xs)) : Wo (wBi .tuple [.lst o xs]) Q := h
theorem Wo_list_t {xs : List W} (h : Q (.lst true xs)) : Wo (wBi .list [.tup xs]) Q := h
theorem Wo_list_l {o : Bool} {xs : List W} (h : Q (.lst true xs)) : Wo (wBi .list [.lst o xs]) Q := h
theorem Wo_all {o : Bool} {bs : List Bool} (h : Q (.bl (bs.all id))) : Wo (wBi .all [.lst o (bs.map .bl)]) Q := Wo_eq (all_bl bs o) h
theorem Wo_ix_h {o : Bool} {w : W} {r : List W} (h : Q w) : Wo (wIx (.lst o (w :: r)) (.int 0)) Q := Wo_eq ix_head h
theorem Wo_ixl {o : Bool} {xs : List W} {i : Int} {k : Nat} (e : i = k) (hk : k < xs.length) (h : Q (xs.getD k .non)) : Wo (wIx (.lst o xs) (.int i)) Q := by
  subst e
  refine Wo_eq (a := xs.getD k .non) ?_ h
  show atI xs (k : Int) = _
  rw [atI_nat hk]
  simp [hk]
theorem Wo_ixt {xs : List W} {i : Int} {k : Nat} (e : i = k) (hk : k < xs.length) (h : Q (xs.getD k .non)) : Wo (wIx (.tup xs) (.int i)) Q := by
  subst e
  refine Wo_eq (a := xs.getD k .non) ?_ h
  show atI xs (k : Int) = _
  rw [atI_nat hk]
  simp [hk]
end
theorem Wo_append {xs : List W} {y : W} {Q : W × List W → Prop} (hl : xs.length < 1000000) (h : Q (.non, xs ++ [y])) : Wo (wMu .append xs [y]) Q := Wo_eq (if_pos hl) h
theorem Wo_rng1 {j : Int} {Q : List W → Prop} (h0 : j < 1000000) (h1 : -1000000 ≤ j) (h : Q (rngs 0 j.toNat)) : Wo (wRng [.int j]) Q := Wo_eq (if_pos (by unfold small LIM; omega)) h
theorem Wo_rng2 {i j : Int} {Q : List W → Prop} (h0 : j < 1000000) (h1 : -1000000 ≤ j) (h2 : i < 1000000) (h3 : -1000000 ≤ i) (h4 : j - i < 1000000) (h : Q (rngs i (j - i).toNat)) : Wo (wRng [.int i, .int j]) Q := Wo_eq (if_pos (by unfold small LIM; omega)) h
theorem Wo_rng3 {i j c : Int} {Q : List W → Prop} (h0 : 0 < c ∧ c ≤ 64) (h1 : -1000000 ≤ i) (h2 : i ≤ 1000000) (h3 : -1000000 ≤ j) (h4 : j ≤ 1000000) (h : Q (rngc i c (rngN i j c))) : Wo (wRng [.int i, .int j, .int c]) Q := Wo_eq (if_pos (by unfold mid; omega)) h
theorem Wfld_mk {i : Nat} {f C : String} {Cs Xs : List String} {ρ : Rho} {fs : List (String × W)} {w : W} {Q : T → Rho → Prop} (s : slot ρ i = some (.ins true C fs)) (hC : C ∈ Cs) (hl : fs.lookup f = some w) (o : own w = false) (h : Q (.val w) ρ) : Wfld (.pl i none) f Cs Xs ρ Q := by
  unfold Wfld
  simp only [s]
  exact ⟨hC, w, hl, by rw [o]; exact h⟩
theorem Wfld_ex {f C : String} {Cs Xs : List String} {ρ : Rho} {fs : List (String × W)} {w : W} {Q : T → Rho → Prop} (hC : C ∈ Xs) (hl : fs.lookup f = some w) (h : Q (.val w) ρ) : Wfld (.val (.exc C fs)) f Cs Xs ρ Q := ⟨hC, w, hl, h⟩
theorem Wa_fldm {i : Nat} {C f : String} {Cs : List String} {fs : List (String × W)} {w : W} {t : T} {ρ : Rho} {K : Rho → Prop} (ht : t = .pl i none) (s : slot ρ i = some (.ins true C fs)) (hC : C ∈ Cs) (hi : isIns w = false) (hl : ((fs.lookup f).map isLD).getD false = false) (hn : fs.length < 500) (h : Wb1 ρ i (some f) w K) :
    ∃ i C fs, t = .pl i none ∧ slot ρ i = some (.ins true C fs) ∧ C ∈ Cs ∧ isIns w = false ∧ ((fs.lookup f).map isLD).getD false = false ∧ fs.length < 500 ∧ Wb1 ρ i (some f) w K := ⟨i, C, fs, ht, s, hC, hi, hl, hn, h⟩
theorem Wb1_mk {ρ ρ1 : Rho} {i : Nat} {f : Option String} {w : W} {Q : Rho → Prop} (e : setP ρ i f w = ρ1) (h : Q ρ1) : Wb1 ρ i f w Q := by unfold Wb1; rw [e]; exact h
theorem Wmk_p {w : W} {os : List W} {K : W → List W → Prop} {self : W} {os' : List W} (h1 : w = .non) (h2 : os = self :: os') (h3 : isIn self = true) (h : K self os') : w = .non ∧ ∃ self os', os = self :: os' ∧ isIn self = true ∧ K self os' := ⟨h1, self, os', h2, h3, h⟩
theorem Wmke_p {os : List W} {K : W → List W → Prop} {self : W} {os' : List W} (h2 : os = self :: os') (h : K self os') : ∃ self os', os = self :: os' ∧ K self os' := ⟨self, os', h2, h⟩
theorem Wtr_p {w : W} {D : String} {fs : List (String × W)} {Xs : List String} {K : String → List (String × W) → Prop} (h1 : w = .exc D fs) (h2 : D ∈ Xs) (h : K D fs) : ∃ D fs, w = .exc D fs ∧ D ∈ Xs ∧ K D fs := ⟨D, fs, h1, h2, h⟩
/-! ### stores, slot by slot -/
theorem Wset_0 {a0 : Option W} {r : Rho} {w : W} {Q : Rho → Prop} (h : Q (some w :: r)) : Wset (a0 :: r) 0 w Q := ⟨by simp, h⟩
theorem Wset_1 {a0 a1 : Option W} {r : Rho} {w : W} {Q : Rho → Prop} (h : Q (a0 :: some w :: r)) : Wset (a0 :: a1 :: r) 1 w Q := ⟨by simp, h⟩
theorem Wset_2 {a0 a1 a2 : Option W} {r : Rho} {w : W} {Q : Rho → Prop} (h : Q (a0 :: a1 :: some w :: r)) : Wset (a0 :: a1 :: a2 :: r) 2 w Q := ⟨by simp, h⟩
theorem Wset_3 {a0 a1 a2 a3 : Option W} {r : Rho} {w : W} {Q : Rho → Prop} (h : Q (a0 :: a1 :: a2 :: some w :: r)) : Wset (a0 :: a1 :: a2 :: a3 :: r) 3 w Q := ⟨by simp, h⟩
theorem Wset_4 {a0 a1 a2 a3 a4 : Option W} {r : Rho} {w : W} {Q : Rho → Prop} (h : Q (a0 :: a1 :: a2 :: a3 :: some w :: r)) : Wset (a0 :: a1 :: a2 :: a3 :: a4 :: r) 4 w Q := ⟨by simp, h⟩
theorem Wset_5 {a0 a1 a2 a3 a4 a5 : Option W} {r : Rho} {w : W} {Q : Rho → Prop} (h : Q (a0 :: a1 :: a2 :: a3 :: a4 :: some w :: r)) : Wset (a0 :: a1 :: a2 :: a3 :: a4 :: a5 :: r) 5 w Q := ⟨by simp, h⟩
theorem Wset_6 {a0 a1 a2 a3 a4 a5 a6 : Option W} {r : Rho} {w : W} {Q : Rho → Prop} (h : Q (a0 :: a1 :: a2 :: a3 :: a4 :: a5 :: some w :: r)) : Wset (a0 :: a1 :: a2 :: a3 :: a4 :: a5 :: a6 :: r) 6 w Q := ⟨by simp, h⟩
theorem Wset_7 {a0 a1 a2 a3 a4 a5 a6 a7 : Option W} {r : Rho} {w : W} {Q : Rho → Prop} (h : Q (a0 :: a1 :: a2 :: a3 :: a4 :: a5 :: a6 :: some w :: r)) : Wset (a0 :: a1 :: a2 :: a3 :: a4 :: a5 :: a6 :: a7 :: r) 7 w Q := ⟨by simp, h⟩
theorem Wset_8 {a0 a1 a2 a3 a4 a5 a6 a7 a8 : Option W} {r : Rho} {w : W} {Q : Rho → Prop} (h : Q (a0 :: a1 :: a2 :: a3 :: a4 :: a5 :: a6 :: a7 :: some w :: r)) : Wset (a0 :: a1 :: a2 :: a3 :: a4 :: a5 :: a6 :: a7 :: a8 :: r) 8 w Q := ⟨by simp, h⟩
theorem Wset_9 {a0 a1 a2 a3 a4 a5 a6 a7 a8 a9 : Option W} {r : Rho} {w : W} {Q : Rho → Prop} (h : Q (a0 :: a1 :: a2 :: a3 :: a4 :: a5 :: a6 :: a7 :: a8 :: some w :: r)) : Wset (a0 :: a1 :: a2 :: a3 :: a4 :: a5 :: a6 :: a7 :: a8 :: a9 :: r) 9 w Q := ⟨by simp, h⟩
theorem Wset_10 {a0 a1 a2 a3 a4 a5 a6 a7 a8 a9 a10 : Option W} {r : Rho} {w : W} {Q : Rho → Prop} (h : Q (a0 :: a1 :: a2 :: a3 :: a4 :: a5 :: a6 :: a7 :: a8 :: a9 :: some w :: r)) : Wset (a0 :: a1 :: a2 :: a3 :: a4 :: a5 :: a6 :: a7 :: a8 :: a9 :: a10 :: r) 10 w Q := ⟨by simp, h⟩
theorem Wset_11 {a0 a1 a2 a3 a4 a5 a6 a7 a8 a9 a10 a11 : Option W} {r : Rho} {w : W} {Q : Rho → Prop} (h : Q (a0 :: a1 :: a2 :: a3 :: a4 :: a5 :: a6 :: a7 :: a8 :: a9 :: a10 :: some w :: r)) : Wset (a0 :: a1 :: a2 :: a3 :: a4 :: a5 :: a6 :: a7 :: a8 :: a9 :: a10 :: a11 :: r) 11 w Q := ⟨by simp, h⟩
theorem Wset_12 {a0 a1 a2 a3 a4 a5 a6 a7 a8 a9 a10 a11 a12 : Option W} {r : Rho} {w : W} {Q : Rho → Prop} (h : Q (a0 :: a1 :: a2 :: a3 :: a4 :: a5 :: a6 :: a7 :: a8 :: a9 :: a10 :: a11 :: some w :: r)) : Wset (a0 :: a1 :: a2 :: a3 :: a4 :: a5 :: a6 :: a7 :: a8 :: a9 :: a10 :: a11 :: a12 :: r) 12 w Q := ⟨by simp, h⟩
theorem Wset_13 {a0 a1 a2 a3 a4 a5 a6 a7 a8 a9 a10 a11 a12 a13 : Option W} {r : Rho} {w : W} {Q : Rho → Prop} (h : Q (a0 :: a1 :: a2 :: a3 :: a4 :: a5 :: a6 :: a7 :: a8 :: a9 :: a10 :: a11 :: a12 :: some w :: r)) : Wset (a0 :: a1 :: a2 :: a3 :: a4 :: a5 :: a6 :: a7 :: a8 :: a9 :: a10 :: a11 :: a12 :: a13 :: r) 13 w Q := ⟨by simp, h⟩
theorem Wset_14 {a0 a1 a2 a3 a4 a5 a6 a7 a8 a9 a10 a11 a12 a13 a14 : Option W} {r : Rho} {w : W} {Q : Rho → Prop} (h : Q (a0 :: a1 :: a2 :: a3 :: a4 :: a5 :: a6 :: a7 :: a8 :: a9 :: a10 :: a11 :: a12 :: a13 :: some w :: r)) : Wset (a0 :: a1 :: a2 :: a3 :: a4 :: a5 :: a6 :: a7 :: a8 :: a9 :: a10 :: a11 :: a12 :: a13 :: a14 :: r) 14 w Q := ⟨by simp, h⟩
theorem Wset_15 {a0 a1 a2 a3 a4 a5 a6 a7 a8 a9 a10 a11 a12 a13 a14 a15 : Option W} {r : Rho} {w : W} {Q : Rho → Prop} (h : Q (a0 :: a1 :: a2 :: a3 :: a4 :: a5 :: a6 :: a7 :: a8 :: a9 :: a10 :: a11 :: a12 :: a13 :: a14 :: some w :: r)) : Wset (a0 :: a1 :: a2 :: a3 :: a4 :: a5 :: a6 :: a7 :: a8 :: a9 :: a10 :: a11 :: a12 :: a13 :: a14 :: a15 :: r) 15 w Q := ⟨by simp, h⟩
theorem Wset_16 {a0 a1 a2 a3 a4 a5 a6 a7 a8 a9 a10 a11 a12 a13 a14 a15 a16 : Option W} {r : Rho} {w : W} {Q : Rho → Prop} (h : Q (a0 :: a1 :: a2 :: a3 :: a4 :: a5 :: a6 :: a7 :: a8 :: a9 :: a10 :: a11 :: a12 :: a13 :: a14 :: a15 :: some w :: r)) : Wset (a0 :: a1 :: a2 :: a3 :: a4 :: a5 :: a6 :: a7 :: a8 :: a9 :: a10 :: a11 :: a12 :: a13 :: a14 :: a15 :: a16 :: r) 16 w Q := ⟨by simp, h⟩
theorem Wset_17 {a0 a1 a2 a3 a4 a5 a6 a7 a8 a9 a10 a11 a12 a13 a14 a15 a16 a17 : Option W} {r : Rho} {w : W} {Q : Rho → Prop} (h : Q (a0 :: a1 :: a2 :: a3 :: a4 :: a5 :: a6 :: a7 :: a8 :: a9 :: a10 :: a11 :: a12 :: a13 :: a14 :: a15 :: a16 :: some w :: r)) : Wset (a0 :: a1 :: a2 :: a3 :: a4 :: a5 :: a6 :: a7 :: a8 :: a9 :: a10 :: a11 :: a12 :: a13 :: a14 :: a15 :: a16 :: a17 :: r) 17 w Q := ⟨by simp, h⟩
theorem Wset_18 {a0 a1 a2 a3 a4 a5 a6 a7 a8 a9 a10 a11 a12 a13 a14 a15 a16 a17 a18 : Option W} {r : Rho} {w : W} {Q : Rho → Prop} (h : Q (a0 :: a1 :: a2 :: a3 :: a4 :: a5 :: a6 :: a7 :: a8 :: a9 :: a10 :: a11 :: a12 :: a13 :: a14 :: a15 :: a16 :: a17 :: some w :: r)) : Wset (a0 :: a1 :: a2 :: a3 :: a4 :: a5 :: a6 :: a7 :: a8 :: a9 :: a10 :: a11 :: a12 :: a13 :: a14 :: a15 :: a16 :: a17 :: a18 :: r) 18 w Q := ⟨by simp, h⟩
theorem Wset_19 {a0 a1 a2 a3 a4 a5 a6 a7 a8 a9 a10 a11 a12 a13 a14 a15 a16 a17 a18 a19 : Option W} {r : Rho} {w : W} {Q : Rho → Prop} (h : Q (a0 :: a1 :: a2 :: a3 :: a4 :: a5 :: a6 :: a7 :: a8 :: a9 :: a10 :: a11 :: a12 :: a13 :: a14 :: a15 :: a16 :: a17 :: a18 :: some w :: r)) : Wset (a0 :: a1 :: a2 :: a3 :: a4 :: a5 :: a6 :: a7 :: a8 :: a9 :: a10 :: a11 :: a12 :: a13 :: a14 :: a15 :: a16 :: a17 :: a18 :: a19 :: r) 19 w Q := ⟨by simp, h⟩
theorem Wset_20 {a0 a1 a2 a3 a4 a5 a6 a7 a8 a9 a10 a11 a12 a13 a14 a15 a16 a17 a18 a19 a20 : Option W} {r : Rho} {w : W} {Q : Rho → Prop} (h : Q (a0 :: a1 :: a2 :: a3 :: a4 :: a5 :: a6 :: a7 :: a8 :: a9 :: a10 :: a11 :: a12 :: a13 :: a14 :: a15 :: a16 :: a17 :: a18 :: a19 :: some w :: r)) : Wset (a0 :: a1 :: a2 :: a3 :: a4 :: a5 :: a6 :: a7 :: a8 :: a9 :: a10 :: a11 :: a12 :: a13 :: a14 :: a15 :: a16 :: a17 :: a18 :: a19 :: a20 :: r) 20 w Q := ⟨by simp, h⟩
theorem Wset_21 {a0 a1 a2 a3 a4 a5 a6 a7 a8 a9 a10 a11 a12 a13 a14 a15 a16 a17 a18 a19 a20 a21 : Option W} {r : Rho} {w : W} {Q : Rho → Prop} (h : Q (a0 :: a1 :: a2 :: a3 :: a4 :: a5 :: a6 :: a7 :: a8 :: a9 :: a10 :: a11 :: a12 :: a13 :: a14 :: a15 :: a16 :: a17 :: a18 :: a19 :: a20 :: some w :: r)) : Wset (a0 :: a1 :: a2 :: a3 :: a4 :: a5 :: a6 :: a7 :: a8 :: a9 :: a10 :: a11 :: a12 :: a13 :: a14 :: a15 :: a16 :: a17 :: a18 :: a19 :: a20 :: a21 :: r) 21 w Q := ⟨by simp, h⟩
theorem Wset_22 {a0 a1 a2 a3 a4 a5 a6 a7 a8 a9 a10 a11 a12 a13 a14 a15 a16 a17 a18 a19 a20 a21 a22 : Option W} {r : Rho} {w : W} {Q : Rho → Prop} (h : Q (a0 :: a1 :: a2 :: a3 :: a4 :: a5 :: a6 :: a7 :: a8 :: a9 :: a10 :: a11 :: a12 :: a13 :: a14 :: a15 :: a16 :: a17 :: a18 :: a19 :: a20 :: a21 :: some w :: r)) : Wset (a0 :: a1 :: a2 :: a3 :: a4 :: a5 :: a6 :: a7 :: a8 :: a9 :: a10 :: a11 :: a12 :: a13 :: a14 :: a15 :: a16 :: a17 :: a18 :: a19 :: a20 :: a21 :: a22 :: r) 22 w Q := ⟨by simp, h⟩
theorem Wset_23 {a0 a1 a2 a3 a4 a5 a6 a7 a8 a9 a10 a11 a12 a13 a14 a15 a16 a17 a18 a19 a20 a21 a22 a23 : Option W} {r : Rho} {w : W} {Q : Rho → Prop} (h : Q (a0 :: a1 :: a2 :: a3 :: a4 :: a5 :: a6 :: a7 :: a8 :: a9 :: a10 :: a11 :: a12 :: a13 :: a14 :: a15 :: a16 :: a17 :: a18 :: a19 :: a20 :: a21 :: a22 :: some w :: r)) : Wset (a0 :: a1 :: a2 :: a3 :: a4 :: a5 :: a6 :: a7 :: a8 :: a9 :: a10 :: a11 :: a12 :: a13 :: a14 :: a15 :: a16 :: a17 :: a18 :: a19 :: a20 :: a21 :: a22 :: a23 :: r) 23 w Q := ⟨by simp, h⟩
theorem Wset_24 {a0 a1 a2 a3 a4 a5 a6 a7 a8 a9 a10 a11 a12 a13 a14 a15 a16 a17 a18 a19 a20 a21 a22 a23 a24 : Option W} {r : Rho} {w : W} {Q : Rho → Prop} (h : Q (a0 :: a1 :: a2 :: a3 :: a4 :: a5 :: a6 :: a7 :: a8 :: a9 :: a10 :: a11 :: a12 :: a13 :: a14 :: a15 :: a16 :: a17 :: a18 :: a19 :: a20 :: a21 :: a22 :: a23 :: some w :: r)) : Wset (a0 :: a1 :: a2 :: a3 :: a4 :: a5 :: a6 :: a7 :: a8 :: a9 :: a10 :: a11 :: a12 :: a13 :: a14 :: a15 :: a16 :: a17 :: a18 :: a19 :: a20 :: a21 :: a22 :: a23 :: a24 :: r) 24 w Q := ⟨by simp, h⟩
theorem Wset_25 {a0 a1 a2 a3 a4 a5 a6 a7 a8 a9 a10 a11 a12 a13 a14 a15 a16 a17 a18 a19 a20 a21 a22 a23 a24 a25 : Option W} {r : Rho} {w : W} {Q : Rho → Prop} (h : Q (a0 :: a1 :: a2 :: a3 :: a4 :: a5 :: a6 :: a7 :: a8 :: a9 :: a10 :: a11 :: a12 :: a13 :: a14 :: a15 :: a16 :: a17 :: a18 :: a19 :: a20 :: a21 :: a22 :: a23 :: a24 :: some w :: r)) : Wset (a0 :: a1 :: a2 :: a3 :: a4 :: a5 :: a6 :: a7 :: a8 :: a9 :: a10 :: a11 :: a12 :: a13 :: a14 :: a15 :: a16 :: a17 :: a18 :: a19 :: a20 :: a21 :: a22 :: a23 :: a24 :: a25 :: r) 25 w Q := ⟨by simp, h⟩

theorem Wb_vals0 {ρ : Rho} {Q : Rho → Prop} (h : Q ρ) : Wb ρ [] [] [] Q := ⟨rfl, h⟩
theorem Wb_val {ρ : Rho} {Q : Rho → Prop} {w w1 o : W} {ts : List T} {ws os : List W} (h : Wb ρ ts ws os Q) : Wb ρ (.val w :: ts) (w1 :: ws) (o :: os) Q := h
/-- a list or dict of one's own was lent and comes back -/
theorem Wb_lst {ρ : Rho} {Q : Rho → Prop} {i : Nat} {f : Option String} {xs ys : List W} {ts : List T} {ws os : List W} (h : Wb1 ρ i f (.lst true ys) fun ρ' => Wb ρ' ts ws os Q) : Wb ρ (.pl i f :: ts) (.lst true xs :: ws) (.lst true ys :: os) Q := ⟨by
  unfold Wb1 at h
  have := h.1
  simp only [fits, own, isIn, isLs]
  rw [this]; rfl, by
  unfold Wb1 at h
  exact h.2⟩
theorem Wb_lst2 {ρ : Rho} {Q : Rho → Prop} {i : Nat} {f : Option String} {o : Bool} {xs ys : List W} {ts : List T} {ws os : List W} (h : Wb1 ρ i f (.lst o ys) fun ρ' => Wb ρ' ts ws os Q) : Wb ρ (.pl i f :: ts) (.lst true xs :: ws) (.lst o ys :: os) Q := ⟨by
  unfold Wb1 at h
  have := h.1
  simp only [fits, own, isIn, isLs]
  rw [this]; rfl, by
  unfold Wb1 at h
  exact h.2⟩
theorem Wb_ins {ρ : Rho} {Q : Rho → Prop} {i : Nat} {C D : String} {fs gs : List (String × W)} {ts : List T} {ws os : List W} (h : Wb1 ρ i none (.ins true D gs) fun ρ' => Wb ρ' ts ws os Q) : Wb ρ (.pl i none :: ts) (.ins true C fs :: ws) (.ins true D gs :: os) Q := ⟨by
  unfold Wb1 at h
  have := h.1
  simp only [fits, own, isIn, isLs]
  rw [this]; rfl, by
  unfold Wb1 at h
  exact h.2⟩
theorem Wb1_none {ρ : Rho} {i : Nat} {w : W} {Q : Rho → Prop} (h : Wset ρ i w Q) : Wb1 ρ i none w Q := h.2
theorem Wout_nil {A : List Nat} {ρ : Rho} {Q : List W → Prop} {j : Nat} (h : Q []) : Wo (outs A ρ j []) Q := h
/-- one parameter: a value that is not one's own -/
theorem Wout_v {A : List Nat} {ρ : Rho} {Q : List W → Prop} {j : Nat} {w : W} {ws : List W} (o : own w = false) (h : Wo (outs A ρ (j + 1) ws) fun os => Q (w :: os)) : Wo (outs A ρ j (w :: ws)) Q := by
  unfold Wo at h ⊢
  unfold outs
  rw [o]
  cases e : outs A ρ (j + 1) ws with
  | none => rw [e] at h; exact h.elim
  | some os => rw [e] at h; exact h
/-- one of one's own, not stored to: what its slot holds -/
theorem Wout_o {A : List Nat} {ρ : Rho} {Q : List W → Prop} {j : Nat} {w u : W} {ws : List W} (o : own w = true) (hj : j ∉ A) (s : slot ρ j = some u) (h : Wo (outs A ρ (j + 1) ws) fun os => Q (u :: os)) : Wo (outs A ρ j (w :: ws)) Q := by
  unfold Wo at h ⊢
  unfold outs
  rw [o, if_pos rfl, if_neg hj, s]
  cases e : outs A ρ (j + 1) ws with
  | none => rw [e] at h; exact h.elim
  | some os => rw [e] at h; exact h
theorem Wout_f {A : List Nat} {ρ : Rho} {Q : List W → Prop} {j : Nat} {w u : W} {ws : List W} (o : own w = true) (hj : j ∈ A) (s : frz w = some u) (h : Wo (outs A ρ (j + 1) ws) fun os => Q (u :: os)) : Wo (outs A ρ j (w :: ws)) Q := by
  unfold Wo at h ⊢
  unfold outs
  rw [o, if_pos rfl, if_pos hj, s]
  cases e : outs A ρ (j + 1) ws with
  | none => rw [e] at h; exact h.elim
  | some os => rw [e] at h; exact h
theorem Wout_mk {A : List Nat} {ρ : Rho} {ws : List W} {Q : List W → Prop} (h : Wo (outs A ρ 0 ws) Q) : Wout A ρ ws Q := h
theorem Wdrfs_nil {ρ : Rho} {Q : List W → Prop} (h : Q []) : Wo (drfs ρ []) Q := h
theorem Wdrfs_v {ρ : Rho} {w : W} {ts : List T} {Q : List W → Prop} (h : Wo (drfs ρ ts) fun ws => Q (w :: ws)) : Wo (drfs ρ (.val w :: ts)) Q := by
  unfold Wo at h ⊢
  unfold drfs
  cases e : drfs ρ ts with
  | none => rw [e] at h; exact h.elim
  | some ws => rw [e] at h; exact h
theorem Wdrfs_p {ρ : Rho} {i : Nat} {f : Option String} {w : W} {ts : List T} {Q : List W → Prop} (g : getP ρ i f = some w) (h : Wo (drfs ρ ts) fun ws => Q (w :: ws)) : Wo (drfs ρ (.pl i f :: ts)) Q := by
  unfold Wo at h ⊢
  unfold drfs
  have e1 : drf ρ (.pl i f) = some w := g
  rw [e1]
  cases e : drfs ρ ts with
  | none => rw [e] at h; exact h.elim
  | some ws => rw [e] at h; exact h
/-- a call, its arguments told one by one -/
theorem W_callD {F : Fn} {ts : List T} {ρ : Rho} {Q : T → Rho → Prop} {E : W → Rho → Prop} (h : Wo (drfs ρ ts) fun ws => (lent ts ws).Nodup ∧ Wf F ws (fun w os => Wb ρ ts ws os fun ρ' => Q (.val w) ρ') (fun w os => Wb ρ ts ws os fun ρ' => E w ρ')) : Wm (callF F ts) ρ Q E := by
  unfold Wo at h
  cases e : drfs ρ ts with
  | none => rw [e] at h; exact h.elim
  | some ws => rw [e] at h; exact W_call e h.1 h.2
theorem W_mkD {C : String} {F : Fn} {ts : List T} {ρ : Rho} {Q : T → Rho → Prop} {E : W → Rho → Prop} (h : Wo (drfs ρ ts) fun ws => (lent ts ws).Nodup ∧ Wf F (.ins true C [] :: ws) (fun w os => w = .non ∧ ∃ self os', os = self :: os' ∧ isIn self = true ∧ Wb ρ ts ws os' fun ρ' => Q (.val self) ρ') (fun w os => ∃ self os', os = self :: os' ∧ Wb ρ ts ws os' fun ρ' => E w ρ')) : Wm (mkF C F ts) ρ Q E := by
  unfold Wo at h
  cases e : drfs ρ ts with
  | none => rw [e] at h; exact h.elim
  | some ws => rw [e] at h; exact W_mk e h.1 h.2
theorem nodup0 : ([] : List Nat).Nodup := List.nodup_nil
theorem nodup1 {i : Nat} : [i].Nodup := by simp
theorem lent_v {w : W} {ts : List T} {x : W} {ws : List W} (h : (lent ts ws).Nodup) : (lent (.val w :: ts) (x :: ws)).Nodup := h
theorem lent_0 : (lent [] []).Nodup := List.nodup_nil
/-- the first turn of a def: nothing of one's own is stored to -/
theorem Wsh_v {Q : W → Rho → Prop} {E : W → Rho → Prop} {ρ : Rho} {i : Nat} {w : W} (s : slot ρ i = some w) (o : own w = false) (h : Q w ρ) : Wm (sh (.pl i none)) ρ Q E := Wsh_plv s o h
theorem frz_own {w : W} (o : own w = false) (n : isIns w = false) : frz w = some w := by
  cases w with
  | lst b xs => cases b with
    | true => cases o
    | false => rfl
  | dic b xs => cases b with
    | true => cases o
    | false => rfl
  | ins b C fs => cases n
  | _ => rfl
theorem Wsh_plB {Q : W → Rho → Prop} {E : W → Rho → Prop} {ρ : Rho} {i : Nat} {f : Option String} {w w' : W} (g : getP ρ i f = some w) (o : own w = true) (e : frz w = some w') (h : Wb1 ρ i f w' fun ρ' => Q w' ρ') : Wm (sh (.pl i f)) ρ Q E := Wsh_pl g o e rfl h
theorem Wend_rt {w : W} {K : W → Prop} (h : K w) : Wend (.rt w) K := h
theorem Wend_nx {K : W → Prop} (h : K .non) : Wend .nx K := h
theorem Wtp_t {ws : List W} {n : Nat} {K : List W → Prop} (l : ws.length = n) (h : K ws) : Wtp (.tup ws) n K := ⟨l, h⟩
theorem Wint_i {i : Int} {Q : Int → Prop} (h : Q i) : Wint (.int i) Q := h
theorem Wpl_p {i : Nat} {f : Option String} {K : Nat → Option String → Prop} (h : K i f) : Wpl (.pl i f) K := h
theorem Wsrc_v {w0 w : W} {its : List W} {K : Src → Prop} (h : K ⟨its, none⟩) : Wsrc (.val w0) w its K := h
theorem Wsrc_p {i : Nat} {w : W} {its : List W} {K : Src → Prop} (o : own w = true) (h : K ⟨its, some (i, w)⟩) : Wsrc (.pl i none) w its K := by
  unfold Wsrc; rw [o]; exact h
theorem Wzip_t {xs ys : List W} {K : List W → Prop} (h : K (pairs xs ys)) : Wzip (.tup xs) (.tup ys) K := h
theorem Wzip_l {o o' : Bool} {xs ys : List W} {K : List W → Prop} (h : K (pairs xs ys)) : Wzip (.lst o xs) (.lst o' ys) K := h
theorem Wo_pow {i j k : Int} {Q : W → Prop} (e : i ^ j.toNat = k) (h : 0 ≤ j ∧ j ≤ 1000000 ∧ i.natAbs < 2 ^ 64) (q : Q (.int k)) : Wo (wBin .pow (.int i) (.int j)) Q := Wo_eq (wb_pow h) (by rw [e]; exact q)
theorem Wo_ix_t0 {a : W} {r : List W} {Q : W → Prop} (h : Q a) : Wo (wIx (.tup (a :: r)) (.int 0)) Q := Wo_eq (by
  show atI (a :: r) ((0 : Nat) : Int) = _
  rw [atI_nat (by simp)]; rfl) h
theorem Wo_ix_t1 {a b : W} {r : List W} {Q : W → Prop} (h : Q b) : Wo (wIx (.tup (a :: b :: r)) (.int 1)) Q := Wo_eq (by
  show atI (a :: b :: r) ((1 : Nat) : Int) = _
  rw [atI_nat (by simp)]; rfl) h
theorem Wo_ix_t2 {a b c : W} {r : List W} {Q : W → Prop} (h : Q c) : Wo (wIx (.tup (a :: b :: c :: r)) (.int 2)) Q := Wo_eq (by
  show atI (a :: b :: c :: r) ((2 : Nat) : Int) = _
  rw [atI_nat (by simp)]; rfl) h
theorem Wo_ix_l1 {o : Bool} {a b : W} {r : List W} {Q : W → Prop} (h : Q b) : Wo (wIx (.lst o (a :: b :: r)) (.int 1)) Q := Wo_eq (by
  show atI (a :: b :: r) ((1 : Nat) : Int) = _
  rw [atI_nat (by simp)]; rfl) h
theorem Wo_ix_l2 {o : Bool} {a b c : W} {r : List W} {Q : W → Prop} (h : Q c) : Wo (wIx (.lst o (a :: b :: c :: r)) (.int 2)) Q := Wo_eq (by
  show atI (a :: b :: c :: r) ((2 : Nat) : Int) = _
  rw [atI_nat (by simp)]; rfl) h
theorem Wo_set0 {a v : W} {r : List W} {Q : W → Prop} (h : Q (.lst true (v :: r))) : Wo (wSet (.lst true (a :: r)) (.int 0) v) Q := Wo_eq (by
  show (ixN (a :: r).length 0).map (fun j => W.lst true ((a :: r).set j v)) = _
  have : ixN (a :: r).length 0 = some 0 := by
    unfold ixN
    rw [if_pos (by decide), if_pos (by simp)]
    rfl
  rw [this]; rfl) h
theorem Wo_of_t {xs : List W} {Q : List W → Prop} (h : Q xs) : Wo (wOf (.tup xs)) Q := h
theorem Wo_of_l {o : Bool} {xs : List W} {Q : List W → Prop} (h : Q xs) : Wo (wOf (.lst o xs)) Q := h
theorem Wo_divmod {i j : Int} {Q : W → Prop} (hj : 0 < j) (h1 : i.natAbs.log2 < 3000) (h2 : j.natAbs.log2 < DIV) (h : Q (.tup [.int (i / j), .int (i % j)])) : Wo (wBi .divmod [.int i, .int j]) Q := Wo_eq (if_pos ⟨hj, h2, h1⟩) h
theorem Wo_all_bl {o : Bool} {xs : List W} {bs : List Bool} {Q : W → Prop} (e : bools xs = some bs) (h : Q (.bl (bs.all id))) : Wo (wBi .all [.lst o xs]) Q := Wo_eq (by
  show (bools xs).map (fun bs => W.bl (bs.all id)) = _
  rw [e]; rfl) h
theorem Wo_sum {o : Bool} {xs : List W} {is : List Int} {Q : W → Prop} (e : intsW xs = some is) (h : Q (.int is.sum)) : Wo (wBi .sum [.lst o xs]) Q := Wo_eq (by
  show (intsW xs).map (fun is => W.int is.sum) = _
  rw [e]; rfl) h
/-- a law's loop: range(0, max(1, min(len(script), N)), c) -/
theorem Wfor_rngc {tg : Tg} {b : M Flow} {ρ : Rho} {Q : Flow → Rho → Prop} {E : W → Rho → Prop} {lo c : Int} {n : Nat} (I : Rho → Prop) (h0 : I ρ) (hs : ∀ (i : Nat) ρ, i < n → I ρ → Wm (stTg tg (.int (lo + (i : Int) * c))) ρ (fun _ ρ1 => Wm b ρ1 (fun f ρ2 => Wlp f (I ρ2) (Q .nx ρ2) fun w => Q (.rt w) ρ2) E) E) (he : ∀ ρ', I ρ' → Q .nx ρ') : Wm (forL tg none b (rngc lo c n)) ρ Q E := by
  refine Wfor (fun _ => I) h0 (fun i x ρ hi hI => ?_) fun ρ' hI => he ρ' hI
  obtain ⟨h1, rfl⟩ := rngc_get _ _ _ _ hi
  exact hs i ρ h1 hI
theorem rngN_le {j c : Int} {i : Nat} (h : i < rngN 0 j c) (hc : 0 < c) : (i : Int) * c < j := by
  unfold rngN at h
  by_cases hj : 0 < j
  · rw [if_pos hj] at h
    have h3 : (i : Int) ≤ (j - 0 - 1) / c := by
      have := h
      omega
    have h4 := (Int.le_ediv_iff_mul_le hc).mp h3
    omega
  · rw [if_neg hj] at h
    simp at h
/-- .. the number of the turn is not above N -/
theorem Wfor_law {tg : Tg} {b : M Flow} {ρ : Rho} {Q : Flow → Rho → Prop} {E : W → Rho → Prop} {c j : Int} (hc : 0 < c) (hj : j ≤ 400) (I : Rho → Prop) (h0 : I ρ) (hs : ∀ (k : Int) ρ, 0 ≤ k → k ≤ 400 → I ρ → Wm (stTg tg (.int k)) ρ (fun _ ρ1 => Wm b ρ1 (fun f ρ2 => Wlp f (I ρ2) (Q .nx ρ2) fun w => Q (.rt w) ρ2) E) E) (he : ∀ ρ', I ρ' → Q .nx ρ') : Wm (forL tg none b (rngc 0 c (rngN 0 j c))) ρ Q E := by
  refine Wfor_rngc I h0 (fun i ρ hi hI => ?_) he
  have h1 := rngN_le hi hc
  have h2 : 0 ≤ (i : Int) * c := Int.mul_nonneg (by omega) (by omega)
  exact hs (0 + (i : Int) * c) ρ (by omega) (by omega) hI
/-! comprehensions whose items tell the answers -/
def Wlcm (f : W → W) (elt : Ex) (tg : Tg) (ow : List Nat) (q : Src) (ρ1 : Rho) (Q : T → Rho → Prop) : Prop := q.its.length < LIM ∧ still (wipe ρ1 ow) q.at_ ∧
  (∀ x ∈ q.its, Wm (stTg tg x) (wipe ρ1 ow) (fun _ ρ3 => Wm (bnd (ev elt) sh) ρ3 (fun y ρ5 => y = f x ∧ wipe ρ5 ow = wipe ρ1 ow) nE) nE) ∧ Q (.val (.lst true (q.its.map f))) (unwipe ρ1 (wipe ρ1 ow) ow)
theorem still_wipe {ρ ρ' : Rho} {ow : List Nat} {a : Option (Nat × W)} (h : still (wipe ρ ow) a) (e : wipe ρ' ow = wipe ρ ow) : still ρ' a := by
  cases a with
  | none => trivial
  | some p =>
    obtain ⟨i, w⟩ := p
    have h' : slot (wipe ρ ow) i = some w := h
    rw [← e] at h'
    unfold slot at h'
    rw [wipe_get] at h'
    split at h'
    · cases h'
    · exact h'
theorem Wlc_map {elt : Ex} {tg : Tg} {it : It} {ow : List Nat} {ρ : Rho} {Q : T → Rho → Prop} {E : W → Rho → Prop} (f : W → W) (h : Wm (src it) ρ (fun q ρ1 => Wlcm f elt tg ow q ρ1 Q) E) : Wm (ev (.lc elt tg it none ow)) ρ Q E := by
  refine Wlc (Wm_imp h (fun q ρ1 h => ?_) fun _ _ h => h)
  obtain ⟨hl, st, hx, hq⟩ := h
  refine ⟨hl, fun i acc ρ2 => acc = (q.its.take i).map f ∧ ρ2 = wipe ρ1 ow, ⟨by simp, rfl⟩, st, fun i x acc ρ2 hi hI => ?_, fun ws ρ2 hI => ?_⟩
  · obtain ⟨rfl, rfl⟩ := hI
    have hm : x ∈ q.its := List.mem_of_getElem? hi
    refine Wm_imp (hx x hm) (fun _ ρ3 h => Wb_none ⟨fun _ => Wm_imp h (fun y ρ5 h => ?_) fun _ _ h => h, fun z => by cases z⟩) fun _ _ h => h
    obtain ⟨rfl, e⟩ := h
    refine ⟨⟨?_, e⟩, still_wipe st e⟩
    rw [List.take_add_one, List.map_append, hi]
    rfl
  · obtain ⟨rfl, rfl⟩ := hI
    rw [List.take_length]
    exact hq
theorem Wlcm_mk {f : W → W} {elt : Ex} {tg : Tg} {ow : List Nat} {its : List W} {a : Option (Nat × W)} {ρ1 ρw ρ2 : Rho} {Q : T → Rho → Prop} (hw : wipe ρ1 ow = ρw) (e : unwipe ρ1 ρw ow = ρ2) (hl : its.length < 1000000) (st : still ρw a)
    (hx : ∀ x ∈ its, Wm (stTg tg x) ρw (fun _ ρ3 => Wm (bnd (ev elt) sh) ρ3 (fun y ρ5 => y = f x ∧ wipe ρ5 ow = ρw) nE) nE) (hq : Q (.val (.lst true (its.map f))) ρ2) : Wlcm f elt tg ow ⟨its, a⟩ ρ1 Q := by
  subst hw e
  exact ⟨hl, st, hx, hq⟩
theorem bools_true : ∀ its : List W, bools (its.map fun _ => W.bl true) = some (its.map fun _ => true)
  | [] => rfl
  | x :: xs => by
    show (bools (xs.map fun _ => W.bl true)).map (true :: ·) = _
    rw [bools_true xs]; rfl
theorem Wo_all_true {o : Bool} {its : List W} {Q : W → Prop} (h : Q (.bl true)) : Wo (wBi .all [.lst o (its.map fun _ => W.bl true)]) Q := Wo_eq (by
  show (bools _).map (fun bs => W.bl (bs.all id)) = _
  rw [bools_true]
  simp) h
theorem Wb1_fld {ρ : Rho} {i : Nat} {f C : String} {o : Bool} {fs gs : List (String × W)} {w : W} {Q : Rho → Prop} (s : slot ρ i = some (.ins o C fs)) (e : putA f w fs = gs) (h : Wset ρ i (.ins o C gs) Q) : Wb1 ρ i (some f) w Q := by
  subst e
  unfold Wb1 setP
  simp only [s]
  exact h.2
theorem Wand_nd {ts : List T} {ws : List W} {B : Prop} (h1 : (lent ts ws).Nodup) (h2 : B) : (lent ts ws).Nodup ∧ B := ⟨h1, h2⟩
theorem Wand_so {a : Option (Nat × W)} {l : List Nat} {B : Prop} (h1 : srcOff a l = true) (h2 : B) : srcOff a l = true ∧ B := ⟨h1, h2⟩
end Rf
/-! a def that calls itself: to any depth -/
namespace Rf
open PySem PySem.Spec PyProof.Rows L2
section
variable {P : Program} {w : World} {K : PySem.W.Frag} {mg : Str → Option Value} {base : Heap} {S : Fx} {m : Mtb} {l : List (Str × Gk)} {k : Nat}
theorem gd_rec {n np : Nat} {x : Str} {st : Stmt} {N ps : List Str} {B : Fn → List St} {F : Nat → Fn} {f : Addr} {fd : FuncData} (gd : Gd (tbx S m l) k P w K mg base) (fu : FunD K x x (defArgs st) (defBody st) (defScope st) [] [] f fd) (hs : C8.scC N ps (defScope st) = true)
    (tr : ∀ j, trSs (tbx S m ((x, .fn (F j) np) :: l)) n (defScope st) N (defBody st) = some (B (F j))) (h0 : F 0 = fun _ => none)
    (hF : ∀ j, F (j + 1) = runFn ps.length N.length (B (F j))) (hm : mg x = some (.ref f)) (hb : ∀ (kV doc pm : Value) (an : Option Addr) (cdv ct : Value) (us : List Value), us.length = ps.length → bindArgs (PySem.W.fnOf x x (defArgs st) (defBody st) (defScope st) .none kV doc pm an cdv ct) ⟨us, []⟩ = pure (ps.zip us)) (d : Nat) :
    FnOk P w K mg base (L2.CX P w) (k + 2 * d) f fd ps (spW K (F d)) ∧ Gd (tbx S m ((x, .fn (F d) np) :: l)) (k + 2 * d) P w K mg base := by
  have bi : Binds K fd ps [] := fu.bindsN hb
  have up : ∀ d, FnOk P w K mg base (L2.CX P w) (k + 2 * d) f fd ps (spW K (F d)) → Gd (tbx S m ((x, .fn (F d) np) :: l)) (k + 2 * d) P w K mg base := fun d ok =>
    gd_gl gd (Nat.le_add_right _ _) ⟨f, fd, ps, hm, ok, fu.kp, bi⟩
  have all : ∀ d, FnOk P w K mg base (L2.CX P w) (k + 2 * d) f fd ps (spW K (F d)) := fun d => by
    induction d with
    | zero =>
      rw [h0]
      exact ⟨fun vs H Q E ⟨Fz, g, ws, r, os, rl, e, _⟩ => (by cases e), fun A outer s H args us vs Q E hr he hb hv ⟨Fz, g, ws, r, os, rl, e, _⟩ => (by cases e)⟩
    | succ d ih => exact (fn_step (n := n) (up d ih) fu hs (tr d) (hF d) hb).1
  exact ⟨all d, up d (all d)⟩
end
end Rf
theorem Rf.eqs_known : True := by
  have := @Rf.ev.eq_1
  have := @Rf.ev.eq_10
  have := @Rf.ev.eq_11
  have := @Rf.ev.eq_12
  have := @Rf.ev.eq_13
  have := @Rf.ev.eq_14
  have := @Rf.ev.eq_15
  have := @Rf.ev.eq_16
  have := @Rf.ev.eq_17
  have := @Rf.ev.eq_18
  have := @Rf.ev.eq_19
  have := @Rf.ev.eq_2
  have := @Rf.ev.eq_20
  have := @Rf.ev.eq_21
  have := @Rf.ev.eq_22
  have := @Rf.ev.eq_24
  have := @Rf.ev.eq_25
  have := @Rf.ev.eq_26
  have := @Rf.ev.eq_3
  have := @Rf.ev.eq_4
  have := @Rf.ev.eq_5
  have := @Rf.ev.eq_6
  have := @Rf.ev.eq_7
  have := @Rf.ev.eq_8
  have := @Rf.ev.eq_9
  have := @Rf.exec.eq_1
  have := @Rf.exec.eq_11
  have := @Rf.exec.eq_13
  have := @Rf.exec.eq_14
  have := @Rf.exec.eq_2
  have := @Rf.exec.eq_3
  have := @Rf.exec.eq_4
  have := @Rf.exec.eq_5
  have := @Rf.exec.eq_6
  have := @Rf.exec.eq_7
  have := @Rf.exec.eq_8
  trivial
section
namespace Rf.Lib
end Rf.Lib
open PySem Rf Rf.Lib
local macro_rules | `(tactic| simp_arith [$s,*]) => `(tactic| simp [execs, exec.eq_1, exec.eq_2, exec.eq_3, exec.eq_4, exec.eq_5, exec.eq_6, exec.eq_7, exec.eq_8, exec.eq_11, exec.eq_13, exec.eq_14,
  ev.eq_1, ev.eq_2, ev.eq_3, ev.eq_4, ev.eq_5, ev.eq_6, ev.eq_7, ev.eq_8, ev.eq_9, ev.eq_10, ev.eq_11, ev.eq_12, ev.eq_13, ev.eq_14, ev.eq_15, ev.eq_16, ev.eq_17, ev.eq_18, ev.eq_19, ev.eq_20, ev.eq_21, ev.eq_22, ev.eq_24, ev.eq_25, ev.eq_26,
  evs, evT, evC, evO, evB, evD, evF, src, stsIx, stIx, taIx, tgIx, tgIxs, fzS, bnd, ret, slot, own_non, own_bl, own_int, own_str, own_tup, own_lst, own_dic, own_ins, own_exc, own_scr, rd, rds, drf, lft, tru, shs, sh, frz_non, frz_bl, frz_int, frz_str, frz_tup, frz_lst, frz_dic, frz_exc, frz_scr, stAs, stA, stN, stNs, stTg, stTgs, rtT, fin, outs, getP, setP, mv, callF, lent, back, fits, in_lst, in_dic, in_ins, ls_lst, ls_dic, ls_ins, rg1, rg2, rg3, rg4, isi_non, isi_bl, isi_i, isi_str, isi_t, isi_l, isi_d, tru_non, tru_bl, tru_int, tru_tup, tru_lst, wb_add, wb_sub, muF, recvL, of_tup, of_lst, $s,*])

namespace Rf.Lib
open PySem
local macro_rules | `(tactic| simp_arith [$s,*]) => `(tactic| simp [execs, exec.eq_1, exec.eq_2, exec.eq_3, exec.eq_4, exec.eq_5, exec.eq_6, exec.eq_7, exec.eq_8, exec.eq_11, exec.eq_13, exec.eq_14,
  ev.eq_1, ev.eq_2, ev.eq_3, ev.eq_4, ev.eq_5, ev.eq_6, ev.eq_7, ev.eq_8, ev.eq_9, ev.eq_10, ev.eq_11, ev.eq_12, ev.eq_13, ev.eq_14, ev.eq_15, ev.eq_16, ev.eq_17, ev.eq_18, ev.eq_19, ev.eq_20, ev.eq_21, ev.eq_22, ev.eq_24, ev.eq_25,
  evs, evT, evC, evO, evB, evD, evF, src, stsIx, stIx, taIx, tgIx, tgIxs, fzS, bnd, ret, slot, own_non, own_bl, own_int, own_str, own_tup, own_lst, own_dic, own_ins, own_exc, own_scr, rd, rds, drf, lft, tru, shs, sh, frz_non, frz_bl, frz_int, frz_str, frz_tup, frz_lst, frz_dic, frz_exc, frz_scr, stAs, stA, stN, stNs, stTg, stTgs, rtT, fin, outs, getP, setP, mv, callF, lent, back, fits, in_lst, in_dic, in_ins, ls_lst, ls_dic, ls_ins, rg1, rg2, rg3, rg4, isi_non, isi_bl, isi_i, isi_str, isi_t, isi_l, isi_d, tru_non, tru_bl, tru_int, tru_tup, tru_lst, wb_add, wb_sub, muF, recvL, of_tup, of_lst, $s,*])
noncomputable def b_is_whole : List St := [
  (.ret (.and (.isi (.var 0) "int") (.nt (.isi (.var 0) "bool"))))]
noncomputable def F_is_whole : Fn := runFn 1 1 b_is_whole
noncomputable def b_common : List St := [
  (.par [0, 1] [(.bi .abs [(.var 0)]), (.bi .abs [(.var 1)])]),
  (.whl (.cmp (.var 1) [.ne] [(.con (.int 0))]) [(.par [0, 1] [(.var 1), (.bin .mod (.var 0) (.var 1))])]),
  (.ret (.var 0))]
noncomputable def F_common : Fn := runFn 2 2 b_common
noncomputable def b_is_number : List St := [
  (.ite (.or (.nt (.isi (.var 0) "tuple")) (.or (.cmp (.bi .len [(.var 0)]) [.ne] [(.con (.int 2))]) (.nt (.bi .all [(.lc (.call F_is_whole [(.var 1)]) (.nm 1) (.of (.var 0)) none [1])])))) [(.ret (.con (.bl false)))] []),
  (.ret (.and (.cmp (.ix (.var 0) (.con (.int 1))) [.ge] [(.con (.int 1))]) (.cmp (.call F_common [(.ix (.var 0) (.con (.int 0))), (.ix (.var 0) (.con (.int 1)))]) [.eq] [(.con (.int 1))])))]
noncomputable def F_is_number : Fn := runFn 1 2 b_is_number
noncomputable def b_number : List St := [
  (.ite (.cmp (.var 1) [.eq] [(.con (.int 0))]) [(.rse "NoNumber" [])] []),
  (.asg (.nm 2) (.call F_common [(.var 0), (.var 1)])),
  (.ite (.cmp (.var 1) [.lt] [(.con (.int 0))]) [(.asg (.nm 2) (.bin .sub (.con (.int 0)) (.var 2)))] []),
  (.ret (.tup [(.bin .fdiv (.var 0) (.var 2)), (.bin .fdiv (.var 1) (.var 2))]))]
noncomputable def F_number : Fn := runFn 2 3 b_number
noncomputable def b_added : List St := [
  (.ret (.call F_number [(.bin .add (.bin .mul (.ix (.var 0) (.con (.int 0))) (.ix (.var 1) (.con (.int 1)))) (.bin .mul (.ix (.var 1) (.con (.int 0))) (.ix (.var 0) (.con (.int 1))))), (.bin .mul (.ix (.var 0) (.con (.int 1))) (.ix (.var 1) (.con (.int 1))))]))]
noncomputable def F_added : Fn := runFn 2 2 b_added
noncomputable def b_taken : List St := [
  (.ret (.call F_number [(.bin .sub (.bin .mul (.ix (.var 0) (.con (.int 0))) (.ix (.var 1) (.con (.int 1)))) (.bin .mul (.ix (.var 1) (.con (.int 0))) (.ix (.var 0) (.con (.int 1))))), (.bin .mul (.ix (.var 0) (.con (.int 1))) (.ix (.var 1) (.con (.int 1))))]))]
noncomputable def F_taken : Fn := runFn 2 2 b_taken
noncomputable def b_multiplied : List St := [
  (.ret (.call F_number [(.bin .mul (.ix (.var 0) (.con (.int 0))) (.ix (.var 1) (.con (.int 0)))), (.bin .mul (.ix (.var 0) (.con (.int 1))) (.ix (.var 1) (.con (.int 1))))]))]
noncomputable def F_multiplied : Fn := runFn 2 2 b_multiplied
noncomputable def b_parted : List St := [
  (.ret (.call F_number [(.bin .mul (.ix (.var 0) (.con (.int 0))) (.ix (.var 1) (.con (.int 1)))), (.bin .mul (.ix (.var 0) (.con (.int 1))) (.ix (.var 1) (.con (.int 0))))]))]
noncomputable def F_parted : Fn := runFn 2 2 b_parted
noncomputable def b_is_less : List St := [
  (.ret (.cmp (.bin .mul (.ix (.var 0) (.con (.int 0))) (.ix (.var 1) (.con (.int 1)))) [.lt] [(.bin .mul (.ix (.var 1) (.con (.int 0))) (.ix (.var 0) (.con (.int 1))))]))]
noncomputable def F_is_less : Fn := runFn 2 2 b_is_less
noncomputable def b_law_mixed (c : Int) : List St := [
  (.ret (.bin .mod (.bin .mul (.var 0) (.con (.int c))) (.bin .pow (.con (.int 10)) (.con (.int 60)))))]
noncomputable def F_law_mixed (c : Int) : Fn := runFn 1 1 (b_law_mixed c)
noncomputable def b_law_pack (c : Int) : List St := [
  (.asg (.nm 2) (.con (.int 0))),
  (.for_ (.nm 3) (.of (.lst [(.bin .add (.var 1) (.con (.int 1))), (.var 1)])) [(.asg (.nm 2) (.bin .add (.bin .mul (.var 2) (.bin .pow (.con (.int 10)) (.con (.int 60)))) (.call (F_law_mixed c) [(.ix (.bin .add (.sl (.var 0) (some (.var 3)) (some (.bin .add (.var 3) (.con (.int 1))))) (.lst [(.bin .add (.bin .mul (.con (.int 7907)) (.var 3)) (.con (.int 53)))])) (.con (.int 0)))])))]),
  (.ret (.lst [(.var 2)]))]
noncomputable def F_law_pack (c : Int) : Fn := runFn 2 4 (b_law_pack c)
noncomputable def b_law_take : List St := [
  (.mul [(.sub (.var 0) (.con (.int 0))), (.nm 2)] (.bi .divmod [(.ix (.var 0) (.con (.int 0))), (.var 1)])),
  (.ret (.var 2))]
noncomputable def F_law_take : Fn := runFn 2 3 b_law_take
theorem common_eq (x y : Int) : F_common [.int x, .int y] = some (.ok (.int (Int.gcd x y)), [.int x, .int y]) := by
  have b1 : ∀ z : Int, wBi .abs [.int z] = some (.int z.natAbs) := fun _ => rfl
  have e := euclidG (bnd (ev (.cmp (.var 1) [.ne] [(.con (.int 0))])) tru) (execs 2 [(.par [0, 1] [(.var 1), (.bin .mod (.var 0) (.var 1))])]) (fun x y => [some (.int x), some (.int y)])
    (fun x y => by
      have q : wCmp .ne (.int y) (.int 0) = some (.bl (!(y == 0))) := rfl
      simp_arith [q])
    (fun x y hy => by
      have q : wBin .mod (.int x) (.int y) = some (.int (x % y)) := wb_mod hy
      simp_arith [q]) (y.natAbs : Int).toNat x.natAbs y.natAbs (by omega) (by omega) (Nat.le_refl _)
  have g : Int.gcd (x.natAbs : Int) (y.natAbs : Int) = Int.gcd x y := by simp [Int.gcd]
  rw [g] at e
  unfold F_common b_common
  refine run_rt rfl (ρ1 := [some (.int x), some (.int y)]) rfl (stp (ρ1 := [some (.int x.natAbs), some (.int y.natAbs)]) (by simp_arith [b1]) (stp (x_whl e) (stp_rt (ρ1 := [some (.int (Int.gcd x y)), some (.int 0)]) (by simp_arith [])))) rfl
def ok1 : W → Bool
  | .ins _ _ _ => false
  | .exc _ _ => false
  | .fn _ => false
  | .lst o _ => !o
  | .dic o _ => !o
  | _ => true
theorem ok1_own {w : W} (h : ok1 w = true) : own w = false := by
  cases w with
  | lst o xs => cases o <;> first | rfl | cases h
  | dic o xs => cases o <;> first | rfl | cases h
  | ins o _ _ => cases h
  | _ => rfl
def isW : W → Bool
  | .int _ => true
  | _ => false
def isTup : W → Bool
  | .tup _ => true
  | _ => false
theorem isi_int {w : W} (h : ok1 w = true) : wIsi w "int" = some (isW w || (match w with | .bl _ => true | _ => false)) := by
  cases w <;> first | rfl | cases h
theorem isi_bool {w : W} (h : ok1 w = true) : wIsi w "bool" = some (match w with | .bl _ => true | _ => false) := by
  cases w <;> first | rfl | cases h
theorem isi_tup {w : W} (h : ok1 w = true) : wIsi w "tuple" = some (isTup w) := by
  cases w <;> first | rfl | cases h
theorem whole_eq {w : W} (h : ok1 w = true) : F_is_whole [w] = some (.ok (.bl (isW w)), [w]) := by
  have h1 := ok1_own h
  have h2 := isi_int h
  have h3 := isi_bool h
  unfold F_is_whole b_is_whole
  refine run_rt rfl (ρ1 := [some w]) rfl (stp_rt (ρ1 := [some w]) ?_) (by simp_arith [h1])
  cases w <;> simp_arith [h1, h2, h3, isW]
def num2 : W → W → Bool
  | .int a, .int b => decide (1 ≤ b) && (Int.gcd a b == 1)
  | _, _ => false
def isNum : W → Bool
  | .tup [x, y] => num2 x y
  | _ => false
def okd : Nat → W → Bool
  | 0, w => ok1 w
  | n + 1, .tup xs => xs.all (okd n)
  | _ + 1, w => ok1 w
theorem num_no {w : W} (h : ok1 w = true) (ht : isTup w = false) : F_is_number [w] = some (.ok (.bl false), [w]) := by
  have h1 := ok1_own h
  have h2 := isi_tup h
  rw [ht] at h2
  unfold F_is_number b_is_number
  exact run_rt rfl (ρ1 := [some w, none]) rfl (stp_rt (ρ1 := [some w, none]) (x_ite (k := true) (ρ1 := [some w, none]) (by simp_arith [h1, h2]) (by simp_arith []))) (by simp_arith [h1])
theorem num_len {xs : List W} (h : xs.length ≠ 2) : F_is_number [.tup xs] = some (.ok (.bl false), [.tup xs]) := by
  have h3 : wBi .len [.tup xs] = some (.int xs.length) := rfl
  have h4 : wCmp .ne (.int xs.length) (.int 2) = some (.bl true) := by
    show some (W.bl (!((xs.length : Int) == 2))) = _
    have : ((xs.length : Int) == 2) = false := by simpa using (show (xs.length : Int) ≠ 2 by omega)
    rw [this]; rfl
  unfold F_is_number b_is_number
  exact run_rt rfl (ρ1 := [some (.tup xs), none]) rfl (stp_rt (ρ1 := [some (.tup xs), none]) (x_ite (k := true) (ρ1 := [some (.tup xs), none]) (by simp_arith [h3, h4]) (by simp_arith []))) rfl
theorem num_two {x y : W} (hx : ok1 x = true) (hy : ok1 y = true) : F_is_number [.tup [x, y]] = some (.ok (.bl (num2 x y)), [.tup [x, y]]) := by
  have h3 : wBi .len [.tup [x, y]] = some (.int 2) := rfl
  have h4 : wCmp .ne (.int 2) (.int 2) = some (.bl false) := rfl
  have hl := ev_lc (elt := .call F_is_whole [(.var 1)]) (v := 1) (it := .of (.var 0)) (ρ := [some (.tup [x, y]), none]) (ρ0 := [some (.tup [x, y]), none]) (its := [x, y]) (fun z => .bl (isW z)) (by simp_arith []) (show 2 < 1000000 by decide) (show 1 < 2 by decide) (fun z hz => by
    have hz' : ok1 z = true := by
      rcases List.mem_cons.mp hz with rfl | hz
      · exact hx
      · rcases List.mem_cons.mp hz with rfl | hz
        · exact hy
        · cases hz
    simp_arith [ok1_own hz', whole_eq hz'])
  have h5 : wBi .all [.lst true [.bl (isW x), .bl (isW y)]] = some (.bl (isW x && isW y)) := by
    show some (W.bl ([isW x, isW y].all id)) = _
    simp
  simp only [List.map_cons, List.map_nil] at hl
  unfold F_is_number b_is_number
  have c : bnd (ev (.or (.nt (.isi (.var 0) "tuple")) (.or (.cmp (.bi .len [(.var 0)]) [.ne] [(.con (.int 2))]) (.nt (.bi .all [(.lc (.call F_is_whole [(.var 1)]) (.nm 1) (.of (.var 0)) none [1])]))))) tru [some (.tup [x, y]), none] = some (.ok (!(isW x && isW y)), [some (.tup [x, y]), none]) := by
    simp_arith [h3, h4, hl, h5]
  refine run_rt rfl (ρ1 := [some (.tup [x, y]), none]) (ρ2 := [some (.tup [x, y]), none]) rfl ?_ rfl
  by_cases hb : (isW x && isW y) = true
  · obtain ⟨a, rfl⟩ : ∃ a, x = .int a := by
      cases x <;> first | exact ⟨_, rfl⟩ | cases hb
    obtain ⟨b, rfl⟩ : ∃ b, y = .int b := by
      cases y <;> first | exact ⟨_, rfl⟩ | cases hb
    rw [hb] at c
    refine stp (ρ1 := [some (.tup [.int a, .int b]), none]) (x_ite c (by simp_arith [])) (stp_rt (ρ1 := [some (.tup [.int a, .int b]), none]) ?_)
    have h7 : wIx (.tup [.int a, .int b]) (.int 1) = some (.int b) := rfl
    have h8 : wIx (.tup [.int a, .int b]) (.int 0) = some (.int a) := rfl
    have h9 : wCmp .ge (.int b) (.int 1) = some (.bl (decide (1 ≤ b))) := rfl
    have h10 : wCmp .eq (.int (Int.gcd a b)) (.int 1) = some (.bl (Int.gcd a b == 1)) := by
      show some (W.bl (((Int.gcd a b : Nat) : Int) == 1)) = _
      congr 2
      rw [Bool.eq_iff_iff, beq_iff_eq, beq_iff_eq]
      omega
    cases hd : decide (1 ≤ b) with
    | true =>
      rw [hd] at h9
      have hd' := of_decide_eq_true hd
      simp_arith [h7, h8, h9, h10, common_eq, hd', num2]
    | false =>
      rw [hd] at h9
      have hd' := of_decide_eq_false hd
      simp_arith [h7, h8, h9, h10, common_eq, hd', num2]
  · have hb' : (isW x && isW y) = false := by simpa using hb
    rw [hb'] at c
    have e : (num2 x y) = false := by
      cases x <;> first | rfl | (cases y <;> first | rfl | cases hb')
    rw [e]
    exact stp_rt (ρ1 := [some (.tup [x, y]), none]) (x_ite c (by simp_arith []))
theorem isnum_eq {w : W} (h : okd 1 w = true) : F_is_number [w] = some (.ok (.bl (isNum w)), [w]) := by
  cases w with
  | tup xs =>
    match xs, h with
    | [], _ => exact num_len (by simp)
    | [_], _ => exact num_len (by simp)
    | [x, y], h =>
      have h' : ([x, y].all (okd 0)) = true := h
      simp only [List.all_cons, List.all_nil, Bool.and_true, Bool.and_eq_true] at h'
      exact num_two h'.1 h'.2
    | _ :: _ :: _ :: _, _ => exact num_len (by simp)
  | _ => exact num_no h rfl
theorem isnum_wq (q : Rat) : F_is_number [wq q] = some (.ok (.bl true), [wq q]) := by
  have e := isnum_eq (w := wq q) rfl
  have : isNum (wq q) = true := by
    show (decide (1 ≤ (q.den : Int)) && (Int.gcd q.num q.den == 1)) = true
    have h1 := q.den_pos
    have h2 : Int.gcd q.num q.den = 1 := q.reduced
    rw [h2, decide_eq_true (by omega)]; rfl
  rw [this] at e
  exact e
theorem isnum_iff {w : W} : isNum w = true ↔ ∃ q, w = wq q := by
  constructor
  · intro h
    obtain ⟨a, b, rfl⟩ : ∃ a b, w = .tup [.int a, .int b] := by
      unfold isNum at h
      split at h
      · unfold num2 at h
        split at h
        · exact ⟨_, _, rfl⟩
        · cases h
      · cases h
    · have h' : (decide (1 ≤ b) && (Int.gcd a b == 1)) = true := h
      simp only [Bool.and_eq_true, decide_eq_true_eq, beq_iff_eq] at h'
      obtain ⟨h1, h2⟩ := h'
      have e : (b.natAbs : Int) = b := by omega
      refine ⟨⟨a, b.natAbs, by omega, h2⟩, ?_⟩
      show _ = W.tup [.int a, .int (b.natAbs : Int)]
      rw [e]
  · rintro ⟨q, rfl⟩
    show (decide (1 ≤ (q.den : Int)) && (Int.gcd q.num q.den == 1)) = true
    have h1 := q.den_pos
    have h2 : Int.gcd q.num q.den = 1 := q.reduced
    rw [h2, decide_eq_true (by omega)]; rfl
theorem gcd_log {a b : Int} (hb : b ≠ 0) (h : b.natAbs.log2 < DIV) : (Int.gcd a b : Int).natAbs.log2 < DIV := by
  have gl : Int.gcd a b ≤ b.natAbs := Nat.le_of_dvd (by omega) (Int.gcd_dvd_natAbs_right a b)
  have h1 := gcd_pos_r (a := a) hb
  rw [Int.natAbs_natCast]
  have h2 : 2 ^ (Int.gcd a b).log2 ≤ b.natAbs := Nat.le_trans (Nat.log2_self_le (by omega)) gl
  have h3 := (Nat.le_log2 (by omega)).mpr h2
  omega
theorem number_eq {a b : Int} (hb : b ≠ 0) (h2 : b.natAbs.log2 < DIV) : F_number [.int a, .int b] = some (.ok (wq (Rat.divInt a b)), [.int a, .int b]) := by
  have gp : 0 < (Int.gcd a b : Int) := by have := gcd_pos_r (a := a) hb; omega
  have gl := gcd_log (a := a) hb h2
  have q0 : wCmp .eq (.int b) (.int 0) = some (.bl false) := by
    show some (W.bl (b == 0)) = _
    have : (b == 0) = false := by simpa using hb
    rw [this]
  have cm := common_eq a b
  generalize hg : (Int.gcd a b : Int) = g at gp gl cm
  have da : g ∣ a := by rw [← hg]; exact Int.gcd_dvd_left ..
  have db : g ∣ b := by rw [← hg]; exact Int.gcd_dvd_right ..
  unfold F_number b_number
  rcases Int.lt_or_gt_of_ne hb with h | h
  · have q1 : wCmp .lt (.int b) (.int 0) = some (.bl true) := by
      show some (W.bl (decide (b < 0))) = _
      rw [decide_eq_true h]
    have f1 := fdiv_neg (z := a) gp gl da
    have f2 := fdiv_neg (z := b) gp gl db
    rw [wq_divInt_neg h, hg]
    refine run_rt rfl (ρ1 := [some (.int a), some (.int b), none]) rfl (stp (ρ1 := [some (.int a), some (.int b), none]) (x_ite (k := false) (ρ1 := [some (.int a), some (.int b), none]) (by simp_arith [q0]) (by simp_arith [])) (stp (ρ1 := [some (.int a), some (.int b), some (.int g)]) (by simp_arith [cm])
      (stp (ρ1 := [some (.int a), some (.int b), some (.int (-g))]) (x_ite (k := true) (ρ1 := [some (.int a), some (.int b), some (.int g)]) (by simp_arith [q1]) (by simp_arith [])) (stp_rt (ρ1 := [some (.int a), some (.int b), some (.int (-g))]) (by simp_arith [f1, f2]))))) rfl
  · have q1 : wCmp .lt (.int b) (.int 0) = some (.bl false) := by
      show some (W.bl (decide (b < 0))) = _
      rw [decide_eq_false (by omega)]
    have f1 := fdiv_pos (z := a) gp gl
    have f2 := fdiv_pos (z := b) gp gl
    rw [wq_divInt_pos h, hg]
    refine run_rt rfl (ρ1 := [some (.int a), some (.int b), none]) rfl (stp (ρ1 := [some (.int a), some (.int b), none]) (x_ite (k := false) (ρ1 := [some (.int a), some (.int b), none]) (by simp_arith [q0]) (by simp_arith [])) (stp (ρ1 := [some (.int a), some (.int b), some (.int g)]) (by simp_arith [cm])
      (stp (ρ1 := [some (.int a), some (.int b), some (.int g)]) (x_ite (k := false) (ρ1 := [some (.int a), some (.int b), some (.int g)]) (by simp_arith [q1]) (by simp_arith [])) (stp_rt (ρ1 := [some (.int a), some (.int b), some (.int g)]) (by simp_arith [f1, f2]))))) rfl
theorem log_of {i : Int} {k : Nat} (h : i.natAbs < 2 ^ k) (hk : 0 < k) (hd : k ≤ 8000) : i.natAbs.log2 < DIV := by
  have := log_lt hk h
  unfold DIV; omega
section
variable {a b : Rat} (ha : qb 3900 a) (hb : qb 3900 b)
include ha hb
theorem added_eq : F_added [wq a, wq b] = some (.ok (wq (a + b)), [wq a, wq b]) := by
  have e := number_eq (a := a.num * b.den + b.num * a.den) (Int.mul_ne_zero (den_ne a) (den_ne b)) (log_of (log_dd ha hb) (by decide) (by decide))
  rw [← add_eq] at e
  unfold F_added b_added
  exact run_rt rfl (ρ1 := [some (wq a), some (wq b)]) rfl (stp_rt (ρ1 := [some (wq a), some (wq b)]) (by simp_arith [qm_nd (k := 0) ha hb, qm_nd (k := 0) hb ha, qm_dd ha hb, e])) rfl
theorem taken_eq : F_taken [wq a, wq b] = some (.ok (wq (a - b)), [wq a, wq b]) := by
  have e := number_eq (a := a.num * b.den - b.num * a.den) (Int.mul_ne_zero (den_ne a) (den_ne b)) (log_of (log_dd ha hb) (by decide) (by decide))
  rw [← sub_eq] at e
  unfold F_taken b_taken
  exact run_rt rfl (ρ1 := [some (wq a), some (wq b)]) rfl (stp_rt (ρ1 := [some (wq a), some (wq b)]) (by simp_arith [qm_nd (k := 0) ha hb, qm_nd (k := 0) hb ha, qm_dd ha hb, e])) rfl
theorem multiplied_eq : F_multiplied [wq a, wq b] = some (.ok (wq (a * b)), [wq a, wq b]) := by
  have e := number_eq (a := a.num * b.num) (Int.mul_ne_zero (den_ne a) (den_ne b)) (log_of (log_dd ha hb) (by decide) (by decide))
  rw [← mul_eq] at e
  unfold F_multiplied b_multiplied
  exact run_rt rfl (ρ1 := [some (wq a), some (wq b)]) rfl (stp_rt (ρ1 := [some (wq a), some (wq b)]) (by simp_arith [qm_nn ha hb, qm_dd ha hb, e])) rfl
theorem parted_eq (h0 : b ≠ 0) : F_parted [wq a, wq b] = some (.ok (wq (a / b)), [wq a, wq b]) := by
  have e := number_eq (a := a.num * b.den) (Int.mul_ne_zero (den_ne a) (num_ne h0)) (log_of (log_dn ha hb) (by decide) (by decide))
  rw [← div_eq] at e
  unfold F_parted b_parted
  exact run_rt rfl (ρ1 := [some (wq a), some (wq b)]) rfl (stp_rt (ρ1 := [some (wq a), some (wq b)]) (by simp_arith [qm_nd (k := 0) ha hb, qm_dn ha hb, e])) rfl
theorem less_eq : F_is_less [wq a, wq b] = some (.ok (.bl (decide (a < b))), [wq a, wq b]) := by
  have e : wCmp .lt (.int (a.num * b.den)) (.int (b.num * a.den)) = some (.bl (decide (a < b))) := by
    rw [← lt_wq]; rfl
  unfold F_is_less b_is_less
  exact run_rt rfl (ρ1 := [some (wq a), some (wq b)]) rfl (stp_rt (ρ1 := [some (wq a), some (wq b)]) (by simp_arith [qm_nd (k := 0) ha hb, qm_nd (k := 0) hb ha, e])) rfl
end
def pk (m : Int) : Prop := 0 ≤ m ∧ m < 2 ^ 500
theorem pk_div {m s : Int} (h : pk m) (hs : 0 < s) : pk (m / s) :=
  ⟨Int.ediv_nonneg h.1 (by omega), Int.lt_of_le_of_lt (Int.ediv_le_self _ h.1) h.2⟩
theorem take_eq (m s : Int) (hs : 0 < s) (h1 : m.natAbs.log2 < 3000) (h2 : s.natAbs.log2 < DIV) : F_law_take [.lst true [.int m], .int s] = some (.ok (.int (m % s)), [.lst true [.int (m / s)], .int s]) := by
  have b1 : wBi .divmod [.int m, .int s] = some (.tup [.int (m / s), .int (m % s)]) := if_pos ⟨hs, h2, h1⟩
  have b2 : wIx (.lst true [.int m]) (.int 0) = some (.int m) := rfl
  have b3 : wSet (.lst true [.int m]) (.int 0) (.int (m / s)) = some (.lst true [.int (m / s)]) := rfl
  unfold F_law_take b_law_take
  exact run_rt rfl (ρ1 := [some (.lst true [.int m]), some (.int s), none]) (ρ2 := [some (.lst true [.int (m / s)]), some (.int s), some (.int (m % s))]) rfl (stp (ρ1 := [some (.lst true [.int (m / s)]), some (.int s), some (.int (m % s))]) (by simp_arith [b1, b2, b3]) (stp_rt (by simp_arith []))) rfl
theorem take_pk {m s : Int} (hm : pk m) (hs : 0 < s) (h2 : s < 1000000000000000000000000000000000000000000) : ∃ m' d, pk m' ∧ 0 ≤ d ∧ d < s ∧ F_law_take [.lst true [.int m], .int s] = some (.ok (.int d), [.lst true [.int m'], .int s]) := by
  refine ⟨m / s, m % s, pk_div hm hs, Int.emod_nonneg _ (by omega), Int.emod_lt_of_pos _ hs, take_eq m s hs ?_ ?_⟩
  · have h1 := hm.1
    have h2 := hm.2
    have := log_lt (i := m) (n := 500) (by decide) (by omega)
    omega
  · have := log_lt (i := s) (n := 1000) (by decide) (by omega)
    unfold DIV; omega
theorem mixed_eq {c : Int} (hc : c.natAbs < 2 ^ 250) (z : Int) (hz : z.natAbs.log2 < 5000000) : ∃ m : Int, 0 ≤ m ∧ m < 1000000000000000000000000000000000000000000000000000000000000 ∧ F_law_mixed c [.int z] = some (.ok (.int m), [.int z]) := by
  refine ⟨(z * c) % 1000000000000000000000000000000000000000000000000000000000000, Int.emod_nonneg _ (by decide), Int.emod_lt_of_pos _ (by decide), ?_⟩
  have h2 := log_lt (i := c) (n := 250) (by decide) hc
  have b1 : wBin .mul (.int z) (.int c) = some (.int (z * c)) := wb_mul (by unfold MUL; omega)
  have b2 : wBin .pow (.int 10) (.int 60) = some (.int 1000000000000000000000000000000000000000000000000000000000000) := wb_pow (by decide)
  have b3 : ∀ x : Int, wBin .mod (.int x) (.int 1000000000000000000000000000000000000000000000000000000000000) = some (.int (x % 1000000000000000000000000000000000000000000000000000000000000)) := fun x => wb_mod (by decide)
  unfold F_law_mixed b_law_mixed
  exact run_rt rfl (ρ1 := [some (.int z)]) rfl (stp_rt (ρ1 := [some (.int z)]) (by simp_arith [b1, b2, b3])) rfl
theorem cell_eq {ns : List Int} (hl : ns.length ≤ 63) (hz : ∀ z ∈ ns, z.natAbs.log2 < 2000000) {k : Int} (h0 : 0 ≤ k) (h1 : k ≤ 1000) : ∃ (X Y : List W) (c : Int), wSl (.scr ns) (some k) (some (k + 1)) = some (.lst true X) ∧ wBin .add (.lst true X) (.lst true [.int (7907 * k + 53)]) = some (.lst true Y) ∧ wIx (.lst true Y) (.int 0) = some (.int c) ∧ c.natAbs.log2 < 5000000 := by
  have hc : (cut ns (some k) (some (k + 1))).length ≤ 63 := by
    unfold cut
    rw [List.length_take, List.length_drop]
    omega
  cases e : cut ns (some k) (some (k + 1)) with
  | nil =>
    refine ⟨[], [.int (7907 * k + 53)], 7907 * k + 53, by show some (W.lst true ((cut ns (some k) (some (k + 1))).map .int)) = _; rw [e]; rfl, wb_cat (by simp [LIM]), rfl, ?_⟩
    have := log_lt (i := 7907 * k + 53) (n := 40) (by decide) (by omega)
    omega
  | cons z r =>
    have hm : z ∈ ns := by
      have : z ∈ cut ns (some k) (some (k + 1)) := by rw [e]; exact List.mem_cons_self ..
      unfold cut at this
      exact List.mem_of_mem_drop (List.mem_of_mem_take this)
    rw [e] at hc
    refine ⟨(z :: r).map .int, (z :: r).map .int ++ [.int (7907 * k + 53)], z, by show some (W.lst true ((cut ns (some k) (some (k + 1))).map .int)) = _; rw [e], wb_cat (by simp [LIM] at hc ⊢; omega), ix_head, ?_⟩
    have := hz z hm
    omega
structure Scr (ns : List Int) : Prop where
  len : ns.length ≤ 63
  log : ∀ z ∈ ns, z.natAbs.log2 < 2000000
theorem scr_of {ns : List Int} (hl : ns.length ≤ 63) (hb : ∀ z ∈ ns, Builtin.Int.intBits z ≤ 1048576) : Scr ns := ⟨hl, fun z hz => by
  have := hb z hz
  unfold Builtin.Int.intBits at this
  split at this
  · rename_i c
    have : z = 0 := by simpa using c
    subst this
    decide +kernel
  · omega⟩
theorem pack_pk {c : Int} (hc : c.natAbs < 2 ^ 250) {ns : List Int} (S : Scr ns) {k : Int} (h0 : 0 ≤ k) (h1 : k ≤ 500) : ∃ m : Int, pk m ∧ F_law_pack c [.scr ns, .int k] = some (.ok (.lst true [.int m]), [.scr ns, .int k]) := by
  have b2 : wBin .pow (.int 10) (.int 60) = some (.int 1000000000000000000000000000000000000000000000000000000000000) := wb_pow (by decide)
  have l1 : (1000000000000000000000000000000000000000000000000000000000000 : Int).natAbs.log2 < 200 := by decide +kernel
  have l2 : (7907 : Int).natAbs.log2 < 20 := by decide +kernel
  have turn : ∀ {k : Int}, 0 ≤ k → k ≤ 1000 → ∀ f : Int, f.natAbs < 2 ^ 250 → ∀ a1 : Option W, ∃ m : Int, 0 ≤ m ∧ m < 1000000000000000000000000000000000000000000000000000000000000 ∧
      exec 2 (.asg (.nm 2) (.bin .add (.bin .mul (.var 2) (.bin .pow (.con (.int 10)) (.con (.int 60)))) (.call (F_law_mixed c) [(.ix (.bin .add (.sl (.var 0) (some (.var 3)) (some (.bin .add (.var 3) (.con (.int 1))))) (.lst [(.bin .add (.bin .mul (.con (.int 7907)) (.var 3)) (.con (.int 53)))])) (.con (.int 0)))]))) [some (.scr ns), a1, some (.int f), some (.int k)] = some (.ok .nx, [some (.scr ns), a1, some (.int (f * 1000000000000000000000000000000000000000000000000000000000000 + m)), some (.int k)]) := fun {k} h0 h1 f hf a1 => by
    obtain ⟨X, Y, z, q1, q2, q3, q4⟩ := cell_eq S.len S.log h0 h1
    obtain ⟨m, m1, m2, m3⟩ := mixed_eq hc z q4
    have b3 : wBin .mul (.int f) (.int 1000000000000000000000000000000000000000000000000000000000000) = some (.int (f * 1000000000000000000000000000000000000000000000000000000000000)) := wb_mul (by have := log_lt (i := f) (n := 250) (by decide) hf; unfold MUL; omega)
    have b4 : wBin .mul (.int 7907) (.int k) = some (.int (7907 * k)) := wb_mul (by have := log_lt (i := k) (n := 20) (by decide) (by omega); unfold MUL; omega)
    refine ⟨m, m1, m2, ?_⟩
    simp_arith [q1, q2, q3, m3, b2, b3, b4]
  obtain ⟨m1, a1, a2, a3⟩ := turn (k := k + 1) (by omega) (by omega) 0 (by decide) (some (.int k))
  obtain ⟨m2, c1, c2, c3⟩ := turn (k := k) (by omega) (by omega) (0 * 1000000000000000000000000000000000000000000000000000000000000 + m1) (by omega) (some (.int k))
  refine ⟨(0 * 1000000000000000000000000000000000000000000000000000000000000 + m1) * 1000000000000000000000000000000000000000000000000000000000000 + m2, ⟨by omega, by omega⟩, ?_⟩
  unfold F_law_pack b_law_pack
  generalize hx : (0 * 1000000000000000000000000000000000000000000000000000000000000 + m1) = x at *
  generalize hy : x * 1000000000000000000000000000000000000000000000000000000000000 + m2 = y at *
  refine run_rt rfl (ρ1 := [some (.scr ns), some (.int k), none, none]) (ρ2 := [some (.scr ns), some (.int k), some (.int y), some (.int k)]) rfl (stp (ρ1 := [some (.scr ns), some (.int k), some (.int 0), none]) (by simp_arith []) (stp (ρ1 := [some (.scr ns), some (.int k), some (.int y), some (.int k)]) (x_for (its := [.int (k + 1), .int k]) (a := none) (ρ1 := [some (.scr ns), some (.int k), some (.int 0), none]) (by simp_arith []) rfl ?_) (stp_rt (by simp_arith [])))) rfl
  exact forL_turn trivial (ρ1 := [some (.scr ns), some (.int k), some (.int 0), some (.int (k + 1))]) rfl (stp a3 execs_nil) (forL_turn trivial (ρ1 := [some (.scr ns), some (.int k), some (.int x), some (.int k)]) rfl (stp c3 execs_nil) (forL_nil trivial))
section
variable {a b : Rat} (ha : qb 3900 a) (hb : qb 3900 b)
include ha hb
end
end Rf.Lib
namespace Rf.Lib
open PySem
section
variable {qs : List Rat} (h1 : 2 ≤ qs.length) (h2 : qs.length ≤ 25) (hb : ∀ q ∈ qs, qb 3900 q)
include h1 h2 hb
end
end Rf.Lib
namespace Rf.Lib
open PySem
section
variable {ns : List Int} {N c : Int} {body : List St} {nl : Nat}
end
end Rf.Lib
namespace Rf.Lib
open PySem
def okb : Nat → W → Prop
  | n + 1, .tup xs => ∀ x ∈ xs, okb n x
  | _, .int i => i.natAbs < 2 ^ 3900
  | _, w => ok1 w = true
def wp (p : Rat × Rat) : W := .tup [wq p.1, wq p.2]
abbrev wt (t : List (Rat × Rat)) : W := .tup (t.map wp)
@[simp] theorem own_wp (p : Rat × Rat) : own (wp p) = false := rfl
@[simp] theorem frz_wp (p : Rat × Rat) : frz (wp p) = some (wp p) := rfl
@[simp] theorem ix_wp0 (p : Rat × Rat) : wIx (wp p) (.int 0) = some (wq p.1) := rfl
@[simp] theorem ix_wp1 (p : Rat × Rat) : wIx (wp p) (.int 1) = some (wq p.2) := rfl
@[simp] theorem isi_wp (p : Rat × Rat) : wIsi (wp p) "tuple" = some true := rfl
theorem weq_wp (a b : Rat × Rat) : weq (wp a) (wp b) = decide (a = b) := by
  simp only [wp, weq, weqs, weq_wq, Bool.and_true]
  rw [Bool.eq_iff_iff]
  simp [Prod.ext_iff]
theorem weqs_wp : ∀ a b : List (Rat × Rat), weqs (a.map wp) (b.map wp) = decide (a = b)
  | [], [] => rfl
  | [], _ :: _ => by simp [weqs]
  | _ :: _, [] => by simp [weqs]
  | x :: a, y :: b => by
    simp only [List.map_cons, weqs, weq_wp, weqs_wp a b]
    rw [Bool.eq_iff_iff]
    simp
theorem dat_wt (n : Nat) (a : List (Rat × Rat)) : dat (n + 4) (wt a) = true := by
  simp only [wt, dat, List.all_map, List.all_eq_true]
  intro q _
  rfl
@[simp] theorem eq_wt (a b : List (Rat × Rat)) : wCmp .eq (wt a) (wt b) = some (.bl (decide (a = b))) := by
  rw [wCmp, dat_wt 26, dat_wt 26, wt, wt, weq, weqs_wp]; rfl
@[simp] theorem ne_wt (a b : List (Rat × Rat)) : wCmp .ne (wt a) (wt b) = some (.bl (!decide (a = b))) := by
  rw [wCmp, dat_wt 26, dat_wt 26, wt, wt, weq, weqs_wp]; rfl
def valQ : W → Rat
  | .tup [.int a, .int b] => Rat.divInt a b
  | _ => 0
def isPair : W → Bool
  | .tup [x, y] => isNum x && (isNum y && !decide (valQ y < valQ x))
  | _ => false
def isTube : W → Bool
  | .tup xs => decide (2 ≤ (xs.length : Int)) && (decide ((xs.length : Int) ≤ 25) && xs.all isPair)
  | _ => false
structure Tube (t : List (Rat × Rat)) : Prop where
  two : 2 ≤ t.length
  most : t.length ≤ 25
  up : ∀ p ∈ t, p.1 ≤ p.2
def tied (t : List (Rat × Rat)) : Bool := decide ((t.getD 0 (0, 0)).1 = (t.getD 0 (0, 0)).2) && decide ((t.getD (t.length - 1) (0, 0)).1 = (t.getD (t.length - 1) (0, 0)).2)
def unp : W → Rat × Rat
  | .tup [a, c] => (valQ a, valQ c)
  | _ => (0, 0)
def tiedW : W → Bool
  | .tup xs => tied (xs.map unp)
  | _ => false
end Rf.Lib
namespace Rf.Lib
open PySem
theorem qb_zero {k : Nat} (h : 0 < k) : qb k 0 := ⟨Nat.two_pow_pos k, Nat.one_lt_two_pow (by omega)⟩
section
variable {ds : List Rat} {p : Rat} (hp : qb 63 p) (h1 : 1 ≤ ds.length) (h2 : ds.length ≤ 24) (hd : ∀ d ∈ ds, qb 63 d)
include hp h1 h2 hd
end

end Rf.Lib
namespace Rf.Lib
open PySem
end Rf.Lib
namespace Rf.Lib
open PySem
theorem mem_getD {α : Type} {xs : List α} {k : Nat} {d : α} (h : k < xs.length) : xs.getD k d ∈ xs := by
  have : xs.getD k d = xs[k] := by simp [List.getD, h]
  rw [this]; exact List.getElem_mem h
end Rf.Lib
namespace Rf.Lib
open PySem
theorem cut_to {α : Type} {xs : List α} {k : Nat} (h : k ≤ xs.length) : cut xs none (some (k : Int)) = xs.take k := by
  unfold cut
  simp only [sIx]
  rw [if_neg (by omega)]
  simp
theorem cut_from {α : Type} {xs : List α} {k : Nat} (h : k ≤ xs.length) : cut xs (some (k : Int)) none = xs.drop k := by
  unfold cut
  simp only [sIx]
  rw [if_neg (by omega)]
  have : min (k : Int).toNat xs.length = k := by omega
  rw [this, List.take_of_length_le (by rw [List.length_drop]; omega)]
theorem Tube.map {t : List (Rat × Rat)} (h : Tube t) (f : Rat × Rat → Rat × Rat) (hf : ∀ p : Rat × Rat, p.1 ≤ p.2 → (f p).1 ≤ (f p).2) : Tube (t.map f) where
  two := by rw [List.length_map]; exact h.two
  most := by rw [List.length_map]; exact h.most
  up := fun p hp => by
    obtain ⟨x, hx, rfl⟩ := List.mem_map.mp hp
    exact hf x (h.up x hx)
end Rf.Lib
namespace Rf.Lib
open PySem
end Rf.Lib
namespace Rf.Lib
open PySem
end Rf.Lib
namespace Rf.Lib
open PySem
def bestI (L : List Rat) : Nat → Nat
  | 0 => 0
  | m + 1 => if L.getD (bestI L m) 0 < L.getD m 0 then m else bestI L m
def gfQ : Nat → List Rat → List Rat
  | 0, _ => []
  | n + 1, L => L.getD (bestI L L.length) 0 :: gfQ n (L.eraseIdx (bestI L L.length))
end Rf.Lib
section
local macro_rules | `(tactic| walk_at "own") => `(tactic| first | kt_at_notin | fail)
local macro_rules | `(tactic| kt_at_notin) => `(tactic| exact ok1_own (by with_reducible assumption))
local macro_rules | `(tactic| kt_at_notin) => `(tactic| with_reducible assumption)
local macro_rules | `(tactic| kt_at_notin) => `(tactic| with_unfolding_all rfl)
local macro_rules | `(tactic| walk_at "qbk") => `(tactic| first | k_caught0 | fail)
local macro_rules | `(tactic| k_caught0) => `(tactic| exact qb_neg (by k_caught0))
local macro_rules | `(tactic| k_caught0) => `(tactic| exact qb_mul (by k_caught0) (by k_caught0))
local macro_rules | `(tactic| k_caught0) => `(tactic| exact qb_sub (by k_caught0) (by k_caught0))
local macro_rules | `(tactic| k_caught0) => `(tactic| exact qb_add (by k_caught0) (by k_caught0))
local macro_rules | `(tactic| k_caught0) => `(tactic| with_reducible assumption)
local macro_rules | `(tactic| walk_at "qb") => `(tactic| first | wtm_at "qb" | fail)
local macro_rules | `(tactic| wtm_at "g1") => `(tactic| exact qb_mono (by k_caught0) (by first | decide | omega))
local macro_rules | `(tactic| wtm_at "g1") => `(tactic| with_reducible assumption)
local macro_rules | `(tactic| wtm_at "qb") => `(tactic| ((with_reducible show qb _ _); wtm_at "g1"))
local macro_rules | `(tactic| walk_at "sd") => `(tactic| first | kt_at_in | fail)
local macro_rules | `(tactic| kt_at_in) => `(tactic| decide)
local macro_rules | `(tactic| kt_at_in) => `(tactic| focus (simp; done))
local macro_rules | `(tactic| kt_at_in) => `(tactic| with_reducible rfl)
local macro_rules | `(tactic| kt_at_in) => `(tactic| wtm_at "qb")
local macro_rules | `(tactic| kt_at_in) => `(tactic| omega)
local macro_rules | `(tactic| kt_at_in) => `(tactic| with_reducible assumption)
local macro_rules | `(tactic| walk_at "nd") => `(tactic| first | wtm_at "nd" | fail)
local macro_rules | `(tactic| wtm_at "nd") => `(tactic| decide)
local macro_rules | `(tactic| wtm_at "nd") => `(tactic| with_unfolding_all rfl)
local macro_rules | `(tactic| wtm_at "nd") => `(tactic| focus (simp [lent, own, *]; done))
local macro_rules | `(tactic| wtm_at "nd") => `(tactic| exact List.nodup_nil)
local macro_rules | `(tactic| walk_at "tt") => `(tactic| first | wtm_at "tt" | fail)
local macro_rules | `(tactic| wtm_at "tt") => `(tactic| decide)
local macro_rules | `(tactic| wtm_at "tt") => `(tactic| focus (simp [*]; done))
local macro_rules | `(tactic| wtm_at "tt") => `(tactic| focus (simp; omega))
local macro_rules | `(tactic| wtm_at "tt") => `(tactic| exact decide_eq_true (by first | with_reducible assumption | omega))
local macro_rules | `(tactic| wtm_at "tt") => `(tactic| focus (simp; done))
local macro_rules | `(tactic| wtm_at "tt") => `(tactic| with_reducible assumption)
local macro_rules | `(tactic| wtm_at "tt") => `(tactic| with_reducible rfl)
local macro_rules | `(tactic| walk_at "ff") => `(tactic| first | wtm_at "ff" | fail)
local macro_rules | `(tactic| wtm_at "ff") => `(tactic| decide)
local macro_rules | `(tactic| wtm_at "ff") => `(tactic| focus (simp [*]; done))
local macro_rules | `(tactic| wtm_at "ff") => `(tactic| focus (simp; omega))
local macro_rules | `(tactic| wtm_at "ff") => `(tactic| exact decide_eq_false (by first | with_reducible assumption | omega))
local macro_rules | `(tactic| wtm_at "ff") => `(tactic| focus (simp; done))
local macro_rules | `(tactic| wtm_at "ff") => `(tactic| with_reducible assumption)
local macro_rules | `(tactic| wtm_at "ff") => `(tactic| with_reducible rfl)
local macro_rules | `(tactic| walk_at "st") => `(tactic| first | kt_at_method | fail)
local macro_rules | `(tactic| wtm_at "g2") => `(tactic| ((with_reducible refine Wif_f ?_ ?_); wtm_at "ff"))
local macro_rules | `(tactic| wtm_at "g2") => `(tactic| ((with_reducible refine Wif_t ?_ ?_); wtm_at "tt"))
local macro_rules | `(tactic| top_raiseIn) => `(tactic| with_reducible refine Wset_25 ?_)
local macro_rules | `(tactic| top_raiseIn) => `(tactic| with_reducible refine Wset_24 ?_)
local macro_rules | `(tactic| top_raiseIn) => `(tactic| with_reducible refine Wset_23 ?_)
local macro_rules | `(tactic| top_raiseIn) => `(tactic| with_reducible refine Wset_22 ?_)
local macro_rules | `(tactic| top_raiseIn) => `(tactic| with_reducible refine Wset_21 ?_)
local macro_rules | `(tactic| top_raiseIn) => `(tactic| with_reducible refine Wset_20 ?_)
local macro_rules | `(tactic| top_raiseIn) => `(tactic| with_reducible refine Wset_19 ?_)
local macro_rules | `(tactic| top_raiseIn) => `(tactic| with_reducible refine Wset_18 ?_)
local macro_rules | `(tactic| top_raiseIn) => `(tactic| with_reducible refine Wset_17 ?_)
local macro_rules | `(tactic| top_raiseIn) => `(tactic| with_reducible refine Wset_16 ?_)
local macro_rules | `(tactic| top_raiseIn) => `(tactic| with_reducible refine Wset_15 ?_)
local macro_rules | `(tactic| top_raiseIn) => `(tactic| with_reducible refine Wset_14 ?_)
local macro_rules | `(tactic| top_raiseIn) => `(tactic| with_reducible refine Wset_13 ?_)
local macro_rules | `(tactic| top_raiseIn) => `(tactic| with_reducible refine Wset_12 ?_)
local macro_rules | `(tactic| top_raiseIn) => `(tactic| with_reducible refine Wset_11 ?_)
local macro_rules | `(tactic| top_raiseIn) => `(tactic| with_reducible refine Wset_10 ?_)
local macro_rules | `(tactic| top_raiseIn) => `(tactic| with_reducible refine Wset_9 ?_)
local macro_rules | `(tactic| top_raiseIn) => `(tactic| with_reducible refine Wset_8 ?_)
local macro_rules | `(tactic| top_raiseIn) => `(tactic| with_reducible refine Wset_7 ?_)
local macro_rules | `(tactic| top_raiseIn) => `(tactic| with_reducible refine Wset_6 ?_)
local macro_rules | `(tactic| top_raiseIn) => `(tactic| with_reducible refine Wset_5 ?_)
local macro_rules | `(tactic| top_raiseIn) => `(tactic| with_reducible refine Wset_4 ?_)
local macro_rules | `(tactic| top_raiseIn) => `(tactic| with_reducible refine Wset_3 ?_)
local macro_rules | `(tactic| top_raiseIn) => `(tactic| with_reducible refine Wset_2 ?_)
local macro_rules | `(tactic| top_raiseIn) => `(tactic| with_reducible refine Wset_1 ?_)
local macro_rules | `(tactic| top_raiseIn) => `(tactic| with_reducible refine Wset_0 ?_)
local macro_rules | `(tactic| wtm_at "g3") => `(tactic| with_reducible refine Wo_lit (show getP _ _ _ = some _ by with_unfolding_all rfl) ?_)
local macro_rules | `(tactic| wtm_at "g4") => `(tactic| with_reducible refine Wout_f (by with_unfolding_all rfl) (by decide) (by with_unfolding_all rfl) ?_)
local macro_rules | `(tactic| wtm_at "g4") => `(tactic| with_reducible refine Wout_o (by with_unfolding_all rfl) (by decide) (by with_unfolding_all rfl) ?_)
local macro_rules | `(tactic| wtm_at "g4") => `(tactic| with_reducible refine Wout_v (by kt_at_notin) ?_)
local macro_rules | `(tactic| wtm_at "g4") => `(tactic| with_reducible refine Wout_nil ?_)
local macro_rules | `(tactic| wtm_at "g5") => `(tactic| with_reducible refine Wo_lit (by with_unfolding_all rfl) ?_)
local macro_rules | `(tactic| wtm_at "g6") => `(tactic| with_reducible refine Wi_s ?_)
local macro_rules | `(tactic| wtm_at "g6") => `(tactic| with_reducible refine Wi_l ?_)
local macro_rules | `(tactic| wtm_at "g6") => `(tactic| with_reducible refine Wi_b ?_)
local macro_rules | `(tactic| wtm_at "g6") => `(tactic| with_reducible refine Wi_n ?_)
local macro_rules | `(tactic| wtm_at "g6") => `(tactic| with_reducible refine Wi_i ?_)
local macro_rules | `(tactic| wtm_at "g6") => `(tactic| with_reducible refine Wi_t ?_)
local macro_rules | `(tactic| k_caughtNB) => `(tactic| with_reducible refine Wo_sum (by with_unfolding_all rfl) ?_)
local macro_rules | `(tactic| k_caughtNB) => `(tactic| with_reducible refine Wo_all_bl (by with_unfolding_all rfl) ?_)
local macro_rules | `(tactic| k_caughtNB) => `(tactic| with_reducible refine Wo_all_true ?_)
local macro_rules | `(tactic| k_caughtNB) => `(tactic| ((with_reducible refine Wo_divmod ?_ ?_ ?_ ?_); kt_at_in; kt_at_in; kt_at_in))
local macro_rules | `(tactic| k_caughtNB) => `(tactic| with_reducible refine Wo_all ?_)
local macro_rules | `(tactic| k_caughtNB) => `(tactic| with_reducible refine Wo_list_l ?_)
local macro_rules | `(tactic| k_caughtNB) => `(tactic| with_reducible refine Wo_list_t ?_)
local macro_rules | `(tactic| k_caughtNB) => `(tactic| with_reducible refine Wo_tuple_l ?_)
local macro_rules | `(tactic| k_caughtNB) => `(tactic| with_reducible refine Wo_tuple_t ?_)
local macro_rules | `(tactic| k_caughtNB) => `(tactic| with_reducible refine Wo_int_i ?_)
local macro_rules | `(tactic| k_caughtNB) => `(tactic| with_reducible refine Wo_int_b ?_)
local macro_rules | `(tactic| k_caughtNB) => `(tactic| with_reducible refine Wo_max ?_)
local macro_rules | `(tactic| k_caughtNB) => `(tactic| with_reducible refine Wo_min ?_)
local macro_rules | `(tactic| k_caughtNB) => `(tactic| with_reducible refine Wo_abs ?_)
local macro_rules | `(tactic| k_caughtNB) => `(tactic| with_reducible refine Wo_len_s ?_)
local macro_rules | `(tactic| k_caughtNB) => `(tactic| with_reducible refine Wo_len_l ?_)
local macro_rules | `(tactic| k_caughtNB) => `(tactic| with_reducible refine Wo_len_t ?_)
local macro_rules | `(tactic| tb_start) => `(tactic| with_reducible refine Wo_ix_l2 ?_)
local macro_rules | `(tactic| tb_start) => `(tactic| with_reducible refine Wo_ix_l1 ?_)
local macro_rules | `(tactic| tb_start) => `(tactic| with_reducible refine Wo_ix_t2 ?_)
local macro_rules | `(tactic| tb_start) => `(tactic| with_reducible refine Wo_ix_t1 ?_)
local macro_rules | `(tactic| tb_start) => `(tactic| with_reducible refine Wo_ix_t0 ?_)
local macro_rules | `(tactic| tb_start) => `(tactic| with_reducible refine Wo_ix_h ?_)
local macro_rules | `(tactic| tb_start) => `(tactic| with_reducible refine Wo_ix_wq1 ?_)
local macro_rules | `(tactic| tb_start) => `(tactic| with_reducible refine Wo_ix_wq0 ?_)
local macro_rules | `(tactic| wtm_at "g7") => `(tactic| ((with_reducible refine Wo_pow (by simp only [Int.reduceToNat, Int.reducePow]; rfl) ?_ ?_); decide))
local macro_rules | `(tactic| wtm_at "g7") => `(tactic| ((with_reducible refine Wo_add_t ?_ ?_); kt_at_in))
local macro_rules | `(tactic| wtm_at "g7") => `(tactic| ((with_reducible refine Wo_add_l ?_ ?_); kt_at_in))
local macro_rules | `(tactic| wtm_at "g7") => `(tactic| ((with_reducible refine Wo_fdiv_i ?_ ?_ ?_); kt_at_in; kt_at_in))
local macro_rules | `(tactic| wtm_at "g7") => `(tactic| ((with_reducible refine Wo_mod_i ?_ ?_); kt_at_in))
local macro_rules | `(tactic| wtm_at "g7") => `(tactic| ((with_reducible refine Wo_mul_i ?_ ?_ ?_); kt_at_in; kt_at_in))
local macro_rules | `(tactic| wtm_at "g7") => `(tactic| with_reducible refine Wo_sub_i ?_)
local macro_rules | `(tactic| wtm_at "g7") => `(tactic| with_reducible refine Wo_add_i ?_)
local macro_rules | `(tactic| k_caughtN0) => `(tactic| with_reducible refine Wo_isnot_e ?_)
local macro_rules | `(tactic| k_caughtN0) => `(tactic| with_reducible refine Wo_is_e ?_)
local macro_rules | `(tactic| k_caughtN0) => `(tactic| with_reducible refine Wo_isnot_t ?_)
local macro_rules | `(tactic| k_caughtN0) => `(tactic| with_reducible refine Wo_is_t ?_)
local macro_rules | `(tactic| k_caughtN0) => `(tactic| with_reducible refine Wo_isnot_bb ?_)
local macro_rules | `(tactic| k_caughtN0) => `(tactic| with_reducible refine Wo_is_bb ?_)
local macro_rules | `(tactic| k_caughtN0) => `(tactic| with_reducible refine Wo_isnot_nn ?_)
local macro_rules | `(tactic| k_caughtN0) => `(tactic| with_reducible refine Wo_is_nn ?_)
local macro_rules | `(tactic| k_caughtN0) => `(tactic| with_reducible refine Wo_ne_b ?_)
local macro_rules | `(tactic| k_caughtN0) => `(tactic| with_reducible refine Wo_eq_b ?_)
local macro_rules | `(tactic| k_caughtN0) => `(tactic| with_reducible refine Wo_ge_i ?_)
local macro_rules | `(tactic| k_caughtN0) => `(tactic| with_reducible refine Wo_gt_i ?_)
local macro_rules | `(tactic| k_caughtN0) => `(tactic| with_reducible refine Wo_ne_i ?_)
local macro_rules | `(tactic| k_caughtN0) => `(tactic| with_reducible refine Wo_eq_i ?_)
local macro_rules | `(tactic| k_caughtN0) => `(tactic| with_reducible refine Wo_le_i ?_)
local macro_rules | `(tactic| k_caughtN0) => `(tactic| with_reducible refine Wo_lt_i ?_)
local macro_rules | `(tactic| k_caughtN0) => `(tactic| with_reducible refine Wo_ne_wq ?_)
local macro_rules | `(tactic| k_caughtN0) => `(tactic| with_reducible refine Wo_eq_wq ?_)
local macro_rules | `(tactic| wtm_at "g8") => `(tactic| with_reducible refine Wt_l ?_)
local macro_rules | `(tactic| wtm_at "g8") => `(tactic| with_reducible refine Wt_t ?_)
local macro_rules | `(tactic| wtm_at "g8") => `(tactic| with_reducible refine Wt_i ?_)
local macro_rules | `(tactic| wtm_at "g8") => `(tactic| with_reducible refine Wt_n ?_)
local macro_rules | `(tactic| wtm_at "g8") => `(tactic| with_reducible refine Wt_b ?_)
local macro_rules | `(tactic| wtm_at "g9") => `(tactic| with_reducible refine Wdrfs_p (by with_unfolding_all rfl) ?_)
local macro_rules | `(tactic| wtm_at "g9") => `(tactic| with_reducible refine Wdrfs_v ?_)
local macro_rules | `(tactic| wtm_at "g9") => `(tactic| with_reducible refine Wdrfs_nil ?_)
local macro_rules | `(tactic| wtm_at "g10") => `(tactic| with_reducible refine Wr_pl (by with_unfolding_all rfl) ?_)
local macro_rules | `(tactic| wtm_at "g10") => `(tactic| with_reducible refine Wr_val ?_)
local macro_rules | `(tactic| tb_rel) => `(tactic| ((with_reducible refine Wo_rng3 ?_ ?_ ?_ ?_ ?_ ?_); kt_at_in; kt_at_in; kt_at_in; kt_at_in; kt_at_in))
local macro_rules | `(tactic| tb_rel) => `(tactic| ((with_reducible refine Wo_rng2 ?_ ?_ ?_ ?_ ?_ ?_); kt_at_in; kt_at_in; kt_at_in; kt_at_in; kt_at_in))
local macro_rules | `(tactic| tb_rel) => `(tactic| ((with_reducible refine Wo_rng1 ?_ ?_ ?_); kt_at_in; kt_at_in))
local macro_rules | `(tactic| tb_rel) => `(tactic| ((with_reducible refine Wo_append ?_ ?_); kt_at_in))
local macro_rules | `(tactic| tb_rel) => `(tactic| with_reducible refine Wo_of_l ?_)
local macro_rules | `(tactic| tb_rel) => `(tactic| with_reducible refine Wo_of_t ?_)
local macro_rules | `(tactic| tb_rel) => `(tactic| with_reducible refine Wo_set0 ?_)
local macro_rules | `(tactic| tb_rel) => `(tactic| with_reducible refine Wo_neg_i ?_)
local macro_rules | `(tactic| tb_rel) => `(tactic| ((with_reducible show Wo (getP _ _ _) _); wtm_at "g3"))
local macro_rules | `(tactic| tb_rel) => `(tactic| ((with_reducible show Wo (outs _ _ _ _) _); wtm_at "g4"))
local macro_rules | `(tactic| tb_rel) => `(tactic| ((with_reducible show Wo (wRm _ _ _) _); wtm_at "g5"))
local macro_rules | `(tactic| tb_rel) => `(tactic| ((with_reducible refine Wx_e (k := false) ?_ ?_ ?_); (first | with_reducible assumption | decide | (focus (simp [xsL]; done))); decide))
local macro_rules | `(tactic| tb_rel) => `(tactic| ((with_reducible refine Wx_e (k := true) ?_ ?_ ?_); (first | with_reducible assumption | decide | (focus (simp [xsL]; done))); decide))
local macro_rules | `(tactic| tb_rel) => `(tactic| ((with_reducible show Wo (wIsi _ _) _); wtm_at "g6"))
local macro_rules | `(tactic| tb_rel) => `(tactic| ((with_reducible show Wo (wBi _ _) _); k_caughtNB))
local macro_rules | `(tactic| tb_rel) => `(tactic| ((with_reducible show Wo (wIx _ _) _); tb_start))
local macro_rules | `(tactic| tb_rel) => `(tactic| ((with_reducible show Wo (wBin _ _ _) _); wtm_at "g7"))
local macro_rules | `(tactic| tb_rel) => `(tactic| ((with_reducible show Wo (wCmp _ _ _) _); k_caughtN0))
local macro_rules | `(tactic| tb_rel) => `(tactic| ((with_reducible show Wo (wTru _) _); wtm_at "g8"))
local macro_rules | `(tactic| tb_rel) => `(tactic| ((with_reducible show Wo (drfs _ _) _); wtm_at "g9"))
local macro_rules | `(tactic| tb_rel) => `(tactic| ((with_reducible show Wo (drf _ _) _); wtm_at "g10"))
local macro_rules | `(tactic| wtm_at "g11") => `(tactic| with_reducible refine Ws_nil ?_)
local macro_rules | `(tactic| wtm_at "g11") => `(tactic| with_reducible refine Ws_cons ?_)
local macro_rules | `(tactic| wtm_at "g11") => `(tactic| with_reducible refine Ws_last ?_)
local macro_rules | `(tactic| k_caughtCB) => `(tactic| with_reducible refine Ws_whl ?_)
local macro_rules | `(tactic| k_caughtCB) => `(tactic| with_reducible refine Ws_tr0 ?_)
local macro_rules | `(tactic| k_caughtCB) => `(tactic| with_reducible refine Ws_trn ?_)
local macro_rules | `(tactic| k_caughtCB) => `(tactic| with_reducible refine Ws_rse1 ?_)
local macro_rules | `(tactic| k_caughtCB) => `(tactic| with_reducible refine Ws_rse0 ?_)
local macro_rules | `(tactic| k_caughtCB) => `(tactic| with_reducible refine Ws_brk ?_)
local macro_rules | `(tactic| k_caughtCB) => `(tactic| with_reducible refine Ws_pass ?_)
local macro_rules | `(tactic| k_caughtCB) => `(tactic| with_reducible refine Ws_for ?_)
local macro_rules | `(tactic| k_caughtCB) => `(tactic| with_reducible refine Ws_fld ?_)
local macro_rules | `(tactic| k_caughtCB) => `(tactic| with_reducible refine Ws_sub ?_)
local macro_rules | `(tactic| k_caughtCB) => `(tactic| with_reducible refine Ws_par ?_)
local macro_rules | `(tactic| k_caughtCB) => `(tactic| with_reducible refine Ws_mul ?_)
local macro_rules | `(tactic| k_caughtCB) => `(tactic| with_reducible refine Ws_expr ?_)
local macro_rules | `(tactic| k_caughtCB) => `(tactic| with_reducible refine Ws_ret ?_)
local macro_rules | `(tactic| k_caughtCB) => `(tactic| with_reducible refine Ws_ite ?_)
local macro_rules | `(tactic| k_caughtCB) => `(tactic| with_reducible refine Ws_asg ?_)
local macro_rules | `(tactic| k_caughtC0) => `(tactic| with_reducible refine Wx_dct ?_)
local macro_rules | `(tactic| k_caughtC0) => `(tactic| with_reducible refine Wx_rev ?_)
local macro_rules | `(tactic| k_caughtC0) => `(tactic| with_reducible refine Wx_isx ?_)
local macro_rules | `(tactic| k_caughtC0) => `(tactic| with_reducible refine Wx_isi ?_)
local macro_rules | `(tactic| k_caughtC0) => `(tactic| with_reducible refine Wx_rm ?_)
local macro_rules | `(tactic| k_caughtC0) => `(tactic| with_reducible refine Wx_mk ?_)
local macro_rules | `(tactic| k_caughtC0) => `(tactic| with_reducible refine W_fld ?_)
local macro_rules | `(tactic| k_caughtC0) => `(tactic| with_reducible refine Wx_mth ?_)
local macro_rules | `(tactic| k_caughtC0) => `(tactic| with_reducible refine Wx_cmp2 ?_)
local macro_rules | `(tactic| k_caughtC0) => `(tactic| with_reducible refine Wx_ife ?_)
local macro_rules | `(tactic| k_caughtC0) => `(tactic| with_reducible refine Wx_neg ?_)
local macro_rules | `(tactic| k_caughtC0) => `(tactic| with_reducible refine Wx_sl ?_)
local macro_rules | `(tactic| k_caughtC0) => `(tactic| with_reducible refine Wx_mu ?_)
local macro_rules | `(tactic| k_caughtC0) => `(tactic| with_reducible refine Wx_lst ?_)
local macro_rules | `(tactic| k_caughtC0) => `(tactic| with_reducible refine Wx_or ?_)
local macro_rules | `(tactic| k_caughtC0) => `(tactic| with_reducible refine Wx_and ?_)
local macro_rules | `(tactic| k_caughtC0) => `(tactic| with_reducible refine Wx_nt ?_)
local macro_rules | `(tactic| k_caughtC0) => `(tactic| with_reducible refine Wx_bi ?_)
local macro_rules | `(tactic| k_caughtC0) => `(tactic| with_reducible refine Wx_tup ?_)
local macro_rules | `(tactic| k_caughtC0) => `(tactic| with_reducible refine Wx_cmp1 ?_)
local macro_rules | `(tactic| k_caughtC0) => `(tactic| with_reducible refine Wx_call ?_)
local macro_rules | `(tactic| k_caughtC0) => `(tactic| with_reducible refine Wx_ix ?_)
local macro_rules | `(tactic| k_caughtC0) => `(tactic| with_reducible refine Wx_bin ?_)
local macro_rules | `(tactic| k_caughtC0) => `(tactic| with_reducible refine Wx_varO (by with_unfolding_all rfl) (by with_unfolding_all rfl) ?_)
local macro_rules | `(tactic| k_caughtC0) => `(tactic| with_reducible refine Wx_var (by with_unfolding_all rfl) (by kt_at_notin) ?_)
local macro_rules | `(tactic| k_caughtC0) => `(tactic| with_reducible refine Wx_con ?_)
local macro_rules | `(tactic| k_caughtB) => `(tactic| with_reducible refine W_recv (by with_unfolding_all rfl) (by with_unfolding_all rfl) ?_)
local macro_rules | `(tactic| k_caughtB) => `(tactic| with_reducible refine W_mu (by with_unfolding_all rfl) ?_)
local macro_rules | `(tactic| k_caughtB) => `(tactic| with_reducible refine W_recvL (by with_unfolding_all rfl) ?_)
local macro_rules | `(tactic| k_caughtB) => `(tactic| with_reducible refine Wrt_fld ?_)
local macro_rules | `(tactic| k_caughtB) => `(tactic| with_reducible refine Wrt_par (by with_unfolding_all rfl) (by decide) ?_)
local macro_rules | `(tactic| k_caughtB) => `(tactic| with_reducible refine Wrt_pl (by with_unfolding_all rfl) (by decide) (by simp only [List.set_cons_zero, List.set_cons_succ]; rfl) ?_)
local macro_rules | `(tactic| k_caughtB) => `(tactic| with_reducible refine Wsh_plB (by with_unfolding_all rfl) (by with_unfolding_all rfl) (by with_unfolding_all rfl) ?_)
local macro_rules | `(tactic| k_caughtB) => `(tactic| with_reducible refine Wsh_v (by with_unfolding_all rfl) (by kt_at_notin) ?_)
local macro_rules | `(tactic| k_caughtB) => `(tactic| with_reducible refine Wsh_val (by first | with_unfolding_all rfl | exact ok1_frz (by assumption) | exact frz_own (by kt_at_notin) rfl) ?_)
local macro_rules | `(tactic| k_caughtB) => `(tactic| with_reducible refine W_mkD ?_)
local macro_rules | `(tactic| k_caughtB) => `(tactic| with_reducible refine W_callD ?_)
local macro_rules | `(tactic| k_caughtB) => `(tactic| with_reducible refine Wi_enm ?_)
local macro_rules | `(tactic| k_caughtB) => `(tactic| with_reducible refine Wi_zip ?_)
local macro_rules | `(tactic| k_caughtB) => `(tactic| with_reducible refine Wi_rng ?_)
local macro_rules | `(tactic| k_caughtB) => `(tactic| with_reducible refine Wi_of ?_)
local macro_rules | `(tactic| k_caughtB) => `(tactic| with_reducible refine Wrt_val ?_)
local macro_rules | `(tactic| k_caughtB) => `(tactic| with_reducible refine Wns_cons ?_)
local macro_rules | `(tactic| k_caughtB) => `(tactic| with_reducible refine Wns_nil ?_)
local macro_rules | `(tactic| k_caughtB) => `(tactic| with_reducible refine Was_cons ?_)
local macro_rules | `(tactic| k_caughtB) => `(tactic| with_reducible refine Was_nil ?_)
local macro_rules | `(tactic| k_caughtB) => `(tactic| with_reducible refine Wa_fld ?_)
local macro_rules | `(tactic| k_caughtB) => `(tactic| with_reducible refine Wa_sub ?_)
local macro_rules | `(tactic| k_caughtB) => `(tactic| with_reducible refine Wa_nm ?_)
local macro_rules | `(tactic| k_caughtB) => `(tactic| with_reducible refine Wm_tgs1 ?_)
local macro_rules | `(tactic| k_caughtB) => `(tactic| with_reducible refine Wm_tgs0 ?_)
local macro_rules | `(tactic| k_caughtB) => `(tactic| with_reducible refine Wm_tgt ?_)
local macro_rules | `(tactic| k_caughtB) => `(tactic| with_reducible refine Wm_tgn ?_)
local macro_rules | `(tactic| k_caughtB) => `(tactic| with_reducible refine Wb_some ?_)
local macro_rules | `(tactic| k_caughtB) => `(tactic| with_reducible refine Wb_none ?_)
local macro_rules | `(tactic| k_caughtB) => `(tactic| with_reducible refine Wfz_cons ?_)
local macro_rules | `(tactic| k_caughtB) => `(tactic| with_reducible refine Wfz_nil ?_)
local macro_rules | `(tactic| k_caughtB) => `(tactic| with_reducible refine Wm_lft ?_)
local macro_rules | `(tactic| k_caughtB) => `(tactic| with_reducible refine Wm_tru ?_)
local macro_rules | `(tactic| k_caughtB) => `(tactic| with_reducible refine Wm_rd ?_)
local macro_rules | `(tactic| k_caughtB) => `(tactic| with_reducible refine Wm_ret ?_)
local macro_rules | `(tactic| k_caughtB) => `(tactic| with_reducible refine Wm_bnd ?_)
local macro_rules | `(tactic| k_caughtB) => `(tactic| with_reducible refine Wm_stN ?_)
local macro_rules | `(tactic| k_caughtB) => `(tactic| with_reducible refine Wmv_pl ?_)
local macro_rules | `(tactic| k_caughtB) => `(tactic| with_reducible refine Wmv_val ?_)
local macro_rules | `(tactic| k_caughtB) => `(tactic| with_reducible refine Wxo_some ?_)
local macro_rules | `(tactic| k_caughtB) => `(tactic| with_reducible refine Wxo_none ?_)
local macro_rules | `(tactic| k_caughtB) => `(tactic| with_reducible refine Wxs_cons ?_)
local macro_rules | `(tactic| k_caughtB) => `(tactic| with_reducible refine Wxs_nil ?_)
local macro_rules | `(tactic| k_caughtB) => `(tactic| with_reducible refine WxT_cons ?_)
local macro_rules | `(tactic| k_caughtB) => `(tactic| with_reducible refine WxT_nil ?_)
local macro_rules | `(tactic| k_caughtB) => `(tactic| ((with_reducible show Wm (execs _ _) _ _ _); wtm_at "g11"))
local macro_rules | `(tactic| k_caughtB) => `(tactic| ((with_reducible show Wm (exec _ _) _ _ _); k_caughtCB))
local macro_rules | `(tactic| k_caughtB) => `(tactic| ((with_reducible show Wm (ev _) _ _ _); k_caughtC0))
local macro_rules | `(tactic| kt_at_method) => `(tactic| ((with_reducible refine Wand_so ?_ ?_); with_unfolding_all rfl))
local macro_rules | `(tactic| kt_at_method) => `(tactic| ((with_reducible refine Wand_nd ?_ ?_); (wtm_at "nd")))
local macro_rules | `(tactic| kt_at_method) => `(tactic| with_reducible refine Wb1_fld (by with_unfolding_all rfl) (by simp [putA]; rfl) ?_)
local macro_rules | `(tactic| kt_at_method) => `(tactic| ((with_reducible refine Wa_fldm rfl (by with_unfolding_all rfl) ?_ (by with_unfolding_all rfl) (by first | with_unfolding_all rfl | (simp [List.lookup, isLD]; done)) (by simp) ?_); (first | with_reducible assumption | decide | (focus (simp [csL]; done)))))
local macro_rules | `(tactic| kt_at_method) => `(tactic| with_reducible refine Wmk_p rfl rfl rfl ?_)
local macro_rules | `(tactic| kt_at_method) => `(tactic| ((with_reducible refine Wtr_p rfl ?_ ?_); (first | with_reducible assumption | (focus (simp [xsL]; done)) | decide)))
local macro_rules | `(tactic| kt_at_method) => `(tactic| ((with_reducible refine Wlcm_mk (by simp only [wipe, List.set_cons_zero, List.set_cons_succ]; rfl) (by simp only [unwipe, List.set_cons_zero, List.set_cons_succ, List.getElem?_cons_zero, List.getElem?_cons_succ, Option.join_some, Option.join_none]; rfl) ?_ ?_ ?_ ?_); (first | with_reducible assumption | (focus (simp; done)) | (focus (simp; omega)) | decide); (first | exact trivial | with_unfolding_all rfl)))
local macro_rules | `(tactic| kt_at_method) => `(tactic| with_reducible refine Wfld_mk (by with_unfolding_all rfl) (by first | with_reducible assumption | decide | simp [csL, xsL]) (by first | with_unfolding_all rfl | (simp [List.lookup]; rfl)) (by kt_at_notin) ?_)
local macro_rules | `(tactic| kt_at_method) => `(tactic| kt_at_item)
local macro_rules | `(tactic| kt_at_method) => `(tactic| with_reducible refine Wout_mk ?_)
local macro_rules | `(tactic| kt_at_method) => `(tactic| with_reducible refine Wb1_none ?_)
local macro_rules | `(tactic| kt_at_method) => `(tactic| with_reducible refine Wb_ins ?_)
local macro_rules | `(tactic| kt_at_method) => `(tactic| with_reducible refine Wb_lst2 ?_)
local macro_rules | `(tactic| kt_at_method) => `(tactic| with_reducible refine Wb_lst ?_)
local macro_rules | `(tactic| kt_at_method) => `(tactic| with_reducible refine Wb_val ?_)
local macro_rules | `(tactic| kt_at_method) => `(tactic| with_reducible refine Wb_vals0 ?_)
local macro_rules | `(tactic| kt_at_method) => `(tactic| ((with_reducible show Wif _ _ _); wtm_at "g2"))
local macro_rules | `(tactic| kt_at_method) => `(tactic| ((with_reducible refine Wsrc_p ?_ ?_); rfl))
local macro_rules | `(tactic| kt_at_method) => `(tactic| ((with_reducible refine Wtp_t ?_ ?_); rfl))
local macro_rules | `(tactic| kt_at_method) => `(tactic| with_reducible refine Wzip_l ?_)
local macro_rules | `(tactic| kt_at_method) => `(tactic| with_reducible refine Wzip_t ?_)
local macro_rules | `(tactic| kt_at_method) => `(tactic| with_reducible refine Wsrc_v ?_)
local macro_rules | `(tactic| kt_at_method) => `(tactic| with_reducible refine Wpl_p ?_)
local macro_rules | `(tactic| kt_at_method) => `(tactic| with_reducible refine Wint_i ?_)
local macro_rules | `(tactic| kt_at_method) => `(tactic| with_reducible refine Wend_nx ?_)
local macro_rules | `(tactic| kt_at_method) => `(tactic| with_reducible refine Wend_rt ?_)
local macro_rules | `(tactic| kt_at_method) => `(tactic| with_reducible refine Wlp_bk ?_)
local macro_rules | `(tactic| kt_at_method) => `(tactic| with_reducible refine Wlp_rt ?_)
local macro_rules | `(tactic| kt_at_method) => `(tactic| with_reducible refine Wlp_nx ?_)
local macro_rules | `(tactic| kt_at_method) => `(tactic| with_reducible refine Wnx_bk ?_)
local macro_rules | `(tactic| kt_at_method) => `(tactic| with_reducible refine Wnx_rt ?_)
local macro_rules | `(tactic| kt_at_method) => `(tactic| with_reducible refine Wnx_nx ?_)
local macro_rules | `(tactic| kt_at_method) => `(tactic| ((with_reducible show Wset _ _ _ _); top_raiseIn))
local macro_rules | `(tactic| kt_at_method) => `(tactic| ((with_reducible show Wo _ _); tb_rel))
local macro_rules | `(tactic| kt_at_method) => `(tactic| ((with_reducible show Wm _ _ _ _); k_caughtB))
local macro_rules | `(tactic| walk_at "sx") => `(tactic| repeat kt_at_method)

namespace Rf.Lib
open PySem
local macro_rules | `(tactic| walk_at "sx") => `(tactic| repeat kt_at_method)
section
variable {Q E : W → List W → Prop}
theorem W_take {m s : Int} (hm : pk m) (hs : 0 < s) (h2 : s < 1000000000000000000000000000000000000000000) (h : ∀ m' d, pk m' → 0 ≤ d → d < s → Q (.int d) [.lst true [.int m'], .int s]) : Wf F_law_take [.lst true [.int m], .int s] Q E := by
  obtain ⟨m', d, h1, h3, h4, e⟩ := take_pk hm hs h2
  exact Wf_eq e (h m' d h1 h3 h4)
theorem W_pack {c : Int} {ns : List Int} {k : Int} (hc : c.natAbs < 2 ^ 250) (S : Scr ns) (h0 : 0 ≤ k) (h1 : k ≤ 500) (h : ∀ m, pk m → Q (.lst true [.int m]) [.scr ns, .int k]) : Wf (F_law_pack c) [.scr ns, .int k] Q E := by
  obtain ⟨m, h1, e⟩ := pack_pk hc S h0 h1
  exact Wf_eq e (h m h1)
theorem W_number {a b : Int} (hb : b ≠ 0) (h2 : b.natAbs < 2 ^ 500) (h : Q (wq (Rat.divInt a b)) [.int a, .int b]) : Wf F_number [.int a, .int b] Q E := Wf_eq (number_eq hb (by
  have := log_lt (n := 500) (by decide) h2
  unfold DIV; omega)) h
theorem X_added {a b : Rat} (ha : qb 3900 a) (hb : qb 3900 b) (h : Q (wq (a + b)) [wq a, wq b]) : Wf F_added [wq a, wq b] Q E := Wf_eq (added_eq ha hb) h
theorem X_taken {a b : Rat} (ha : qb 3900 a) (hb : qb 3900 b) (h : Q (wq (a - b)) [wq a, wq b]) : Wf F_taken [wq a, wq b] Q E := Wf_eq (taken_eq ha hb) h
theorem X_multiplied {a b : Rat} (ha : qb 3900 a) (hb : qb 3900 b) (h : Q (wq (a * b)) [wq a, wq b]) : Wf F_multiplied [wq a, wq b] Q E := Wf_eq (multiplied_eq ha hb) h
theorem X_less {a b : Rat} (ha : qb 3900 a) (hb : qb 3900 b) (h : Q (.bl (decide (a < b))) [wq a, wq b]) : Wf F_is_less [wq a, wq b] Q E := Wf_eq (less_eq ha hb) h
theorem X_isnum {q : Rat} (h : Q (.bl true) [wq q]) : Wf F_is_number [wq q] Q E := Wf_eq (isnum_wq q) h
theorem Wo_ix_wq0 {q : Rat} {Q : W → Prop} (h : Q (.int q.num)) : Wo (wIx (wq q) (.int 0)) Q := h
theorem Wo_ix_wq1 {q : Rat} {Q : W → Prop} (h : Q (.int q.den)) : Wo (wIx (wq q) (.int 1)) Q := h
theorem Wo_eq_wq {a b : Rat} {Q : W → Prop} (h : Q (.bl (decide (a = b)))) : Wo (wCmp .eq (wq a) (wq b)) Q := Wo_eq (eq_wq a b) h
theorem Wo_ne_wq {a b : Rat} {Q : W → Prop} (h : Q (.bl (!decide (a = b)))) : Wo (wCmp .ne (wq a) (wq b)) Q := Wo_eq (ne_wq a b) h
end
section
variable {Q E : W → List W → Prop} {cs xs : List String} {fs : List (String × W)}
end

end Rf.Lib
end
local macro_rules | `(tactic| walk_at "own") => `(tactic| first | kt_at_notin | fail)
local macro_rules | `(tactic| kt_at_notin) => `(tactic| exact ok1_own (by with_reducible assumption))
local macro_rules | `(tactic| kt_at_notin) => `(tactic| with_reducible assumption)
local macro_rules | `(tactic| kt_at_notin) => `(tactic| with_unfolding_all rfl)
local macro_rules | `(tactic| walk_at "qbk") => `(tactic| first | k_caught0 | fail)
local macro_rules | `(tactic| k_caught0) => `(tactic| exact qb_neg (by k_caught0))
local macro_rules | `(tactic| k_caught0) => `(tactic| exact qb_mul (by k_caught0) (by k_caught0))
local macro_rules | `(tactic| k_caught0) => `(tactic| exact qb_sub (by k_caught0) (by k_caught0))
local macro_rules | `(tactic| k_caught0) => `(tactic| exact qb_add (by k_caught0) (by k_caught0))
local macro_rules | `(tactic| k_caught0) => `(tactic| with_reducible assumption)
local macro_rules | `(tactic| walk_at "qb") => `(tactic| first | wtm_at "qb" | fail)
local macro_rules | `(tactic| wtm_at "g12") => `(tactic| exact qb_mono (by k_caught0) (by first | decide | omega))
local macro_rules | `(tactic| wtm_at "g12") => `(tactic| with_reducible assumption)
local macro_rules | `(tactic| wtm_at "qb") => `(tactic| ((with_reducible show qb _ _); wtm_at "g12"))
local macro_rules | `(tactic| walk_at "sd") => `(tactic| first | kt_at_in | fail)
local macro_rules | `(tactic| kt_at_in) => `(tactic| decide)
local macro_rules | `(tactic| kt_at_in) => `(tactic| focus (simp; done))
local macro_rules | `(tactic| kt_at_in) => `(tactic| with_reducible rfl)
local macro_rules | `(tactic| kt_at_in) => `(tactic| wtm_at "qb")
local macro_rules | `(tactic| kt_at_in) => `(tactic| omega)
local macro_rules | `(tactic| kt_at_in) => `(tactic| with_reducible assumption)
local macro_rules | `(tactic| walk_at "nd") => `(tactic| first | wtm_at "nd" | fail)
local macro_rules | `(tactic| wtm_at "nd") => `(tactic| decide)
local macro_rules | `(tactic| wtm_at "nd") => `(tactic| with_unfolding_all rfl)
local macro_rules | `(tactic| wtm_at "nd") => `(tactic| focus (simp [lent, own, *]; done))
local macro_rules | `(tactic| wtm_at "nd") => `(tactic| exact List.nodup_nil)
local macro_rules | `(tactic| walk_at "tt") => `(tactic| first | wtm_at "tt" | fail)
local macro_rules | `(tactic| wtm_at "tt") => `(tactic| decide)
local macro_rules | `(tactic| wtm_at "tt") => `(tactic| focus (simp [*]; done))
local macro_rules | `(tactic| wtm_at "tt") => `(tactic| focus (simp; omega))
local macro_rules | `(tactic| wtm_at "tt") => `(tactic| exact decide_eq_true (by first | with_reducible assumption | omega))
local macro_rules | `(tactic| wtm_at "tt") => `(tactic| focus (simp; done))
local macro_rules | `(tactic| wtm_at "tt") => `(tactic| with_reducible assumption)
local macro_rules | `(tactic| wtm_at "tt") => `(tactic| with_reducible rfl)
local macro_rules | `(tactic| walk_at "ff") => `(tactic| first | wtm_at "ff" | fail)
local macro_rules | `(tactic| wtm_at "ff") => `(tactic| decide)
local macro_rules | `(tactic| wtm_at "ff") => `(tactic| focus (simp [*]; done))
local macro_rules | `(tactic| wtm_at "ff") => `(tactic| focus (simp; omega))
local macro_rules | `(tactic| wtm_at "ff") => `(tactic| exact decide_eq_false (by first | with_reducible assumption | omega))
local macro_rules | `(tactic| wtm_at "ff") => `(tactic| focus (simp; done))
local macro_rules | `(tactic| wtm_at "ff") => `(tactic| with_reducible assumption)
local macro_rules | `(tactic| wtm_at "ff") => `(tactic| with_reducible rfl)
local macro_rules | `(tactic| walk_at "st") => `(tactic| first | kt_at_method | fail)
local macro_rules | `(tactic| wtm_at "g13") => `(tactic| ((with_reducible refine Wif_f ?_ ?_); wtm_at "ff"))
local macro_rules | `(tactic| wtm_at "g13") => `(tactic| ((with_reducible refine Wif_t ?_ ?_); wtm_at "tt"))
local macro_rules | `(tactic| top_raiseIn) => `(tactic| with_reducible refine Wset_25 ?_)
local macro_rules | `(tactic| top_raiseIn) => `(tactic| with_reducible refine Wset_24 ?_)
local macro_rules | `(tactic| top_raiseIn) => `(tactic| with_reducible refine Wset_23 ?_)
local macro_rules | `(tactic| top_raiseIn) => `(tactic| with_reducible refine Wset_22 ?_)
local macro_rules | `(tactic| top_raiseIn) => `(tactic| with_reducible refine Wset_21 ?_)
local macro_rules | `(tactic| top_raiseIn) => `(tactic| with_reducible refine Wset_20 ?_)
local macro_rules | `(tactic| top_raiseIn) => `(tactic| with_reducible refine Wset_19 ?_)
local macro_rules | `(tactic| top_raiseIn) => `(tactic| with_reducible refine Wset_18 ?_)
local macro_rules | `(tactic| top_raiseIn) => `(tactic| with_reducible refine Wset_17 ?_)
local macro_rules | `(tactic| top_raiseIn) => `(tactic| with_reducible refine Wset_16 ?_)
local macro_rules | `(tactic| top_raiseIn) => `(tactic| with_reducible refine Wset_15 ?_)
local macro_rules | `(tactic| top_raiseIn) => `(tactic| with_reducible refine Wset_14 ?_)
local macro_rules | `(tactic| top_raiseIn) => `(tactic| with_reducible refine Wset_13 ?_)
local macro_rules | `(tactic| top_raiseIn) => `(tactic| with_reducible refine Wset_12 ?_)
local macro_rules | `(tactic| top_raiseIn) => `(tactic| with_reducible refine Wset_11 ?_)
local macro_rules | `(tactic| top_raiseIn) => `(tactic| with_reducible refine Wset_10 ?_)
local macro_rules | `(tactic| top_raiseIn) => `(tactic| with_reducible refine Wset_9 ?_)
local macro_rules | `(tactic| top_raiseIn) => `(tactic| with_reducible refine Wset_8 ?_)
local macro_rules | `(tactic| top_raiseIn) => `(tactic| with_reducible refine Wset_7 ?_)
local macro_rules | `(tactic| top_raiseIn) => `(tactic| with_reducible refine Wset_6 ?_)
local macro_rules | `(tactic| top_raiseIn) => `(tactic| with_reducible refine Wset_5 ?_)
local macro_rules | `(tactic| top_raiseIn) => `(tactic| with_reducible refine Wset_4 ?_)
local macro_rules | `(tactic| top_raiseIn) => `(tactic| with_reducible refine Wset_3 ?_)
local macro_rules | `(tactic| top_raiseIn) => `(tactic| with_reducible refine Wset_2 ?_)
local macro_rules | `(tactic| top_raiseIn) => `(tactic| with_reducible refine Wset_1 ?_)
local macro_rules | `(tactic| top_raiseIn) => `(tactic| with_reducible refine Wset_0 ?_)
local macro_rules | `(tactic| wtm_at "g14") => `(tactic| with_reducible refine Wo_lit (show getP _ _ _ = some _ by with_unfolding_all rfl) ?_)
local macro_rules | `(tactic| wtm_at "g15") => `(tactic| with_reducible refine Wout_f (by with_unfolding_all rfl) (by decide) (by with_unfolding_all rfl) ?_)
local macro_rules | `(tactic| wtm_at "g15") => `(tactic| with_reducible refine Wout_o (by with_unfolding_all rfl) (by decide) (by with_unfolding_all rfl) ?_)
local macro_rules | `(tactic| wtm_at "g15") => `(tactic| with_reducible refine Wout_v (by kt_at_notin) ?_)
local macro_rules | `(tactic| wtm_at "g15") => `(tactic| with_reducible refine Wout_nil ?_)
local macro_rules | `(tactic| wtm_at "g16") => `(tactic| with_reducible refine Wo_lit (by with_unfolding_all rfl) ?_)
local macro_rules | `(tactic| wtm_at "g17") => `(tactic| with_reducible refine Wi_s ?_)
local macro_rules | `(tactic| wtm_at "g17") => `(tactic| with_reducible refine Wi_l ?_)
local macro_rules | `(tactic| wtm_at "g17") => `(tactic| with_reducible refine Wi_b ?_)
local macro_rules | `(tactic| wtm_at "g17") => `(tactic| with_reducible refine Wi_n ?_)
local macro_rules | `(tactic| wtm_at "g17") => `(tactic| with_reducible refine Wi_i ?_)
local macro_rules | `(tactic| wtm_at "g17") => `(tactic| with_reducible refine Wi_t ?_)
local macro_rules | `(tactic| k_caughtNB) => `(tactic| with_reducible refine Wo_sum (by with_unfolding_all rfl) ?_)
local macro_rules | `(tactic| k_caughtNB) => `(tactic| with_reducible refine Wo_all_bl (by with_unfolding_all rfl) ?_)
local macro_rules | `(tactic| k_caughtNB) => `(tactic| with_reducible refine Wo_all_true ?_)
local macro_rules | `(tactic| k_caughtNB) => `(tactic| ((with_reducible refine Wo_divmod ?_ ?_ ?_ ?_); kt_at_in; kt_at_in; kt_at_in))
local macro_rules | `(tactic| k_caughtNB) => `(tactic| with_reducible refine Wo_all ?_)
local macro_rules | `(tactic| k_caughtNB) => `(tactic| with_reducible refine Wo_list_l ?_)
local macro_rules | `(tactic| k_caughtNB) => `(tactic| with_reducible refine Wo_list_t ?_)
local macro_rules | `(tactic| k_caughtNB) => `(tactic| with_reducible refine Wo_tuple_l ?_)
local macro_rules | `(tactic| k_caughtNB) => `(tactic| with_reducible refine Wo_tuple_t ?_)
local macro_rules | `(tactic| k_caughtNB) => `(tactic| with_reducible refine Wo_int_i ?_)
local macro_rules | `(tactic| k_caughtNB) => `(tactic| with_reducible refine Wo_int_b ?_)
local macro_rules | `(tactic| k_caughtNB) => `(tactic| with_reducible refine Wo_max ?_)
local macro_rules | `(tactic| k_caughtNB) => `(tactic| with_reducible refine Wo_min ?_)
local macro_rules | `(tactic| k_caughtNB) => `(tactic| with_reducible refine Wo_abs ?_)
local macro_rules | `(tactic| k_caughtNB) => `(tactic| with_reducible refine Wo_len_s ?_)
local macro_rules | `(tactic| k_caughtNB) => `(tactic| with_reducible refine Wo_len_l ?_)
local macro_rules | `(tactic| k_caughtNB) => `(tactic| with_reducible refine Wo_len_t ?_)
local macro_rules | `(tactic| tb_start) => `(tactic| with_reducible refine Wo_ix_l2 ?_)
local macro_rules | `(tactic| tb_start) => `(tactic| with_reducible refine Wo_ix_l1 ?_)
local macro_rules | `(tactic| tb_start) => `(tactic| with_reducible refine Wo_ix_t2 ?_)
local macro_rules | `(tactic| tb_start) => `(tactic| with_reducible refine Wo_ix_t1 ?_)
local macro_rules | `(tactic| tb_start) => `(tactic| with_reducible refine Wo_ix_t0 ?_)
local macro_rules | `(tactic| tb_start) => `(tactic| with_reducible refine Wo_ix_h ?_)
local macro_rules | `(tactic| tb_start) => `(tactic| with_reducible refine Wo_ix_wq1 ?_)
local macro_rules | `(tactic| tb_start) => `(tactic| with_reducible refine Wo_ix_wq0 ?_)
local macro_rules | `(tactic| wtm_at "g18") => `(tactic| ((with_reducible refine Wo_pow (by simp only [Int.reduceToNat, Int.reducePow]; rfl) ?_ ?_); decide))
local macro_rules | `(tactic| wtm_at "g18") => `(tactic| ((with_reducible refine Wo_add_t ?_ ?_); kt_at_in))
local macro_rules | `(tactic| wtm_at "g18") => `(tactic| ((with_reducible refine Wo_add_l ?_ ?_); kt_at_in))
local macro_rules | `(tactic| wtm_at "g18") => `(tactic| ((with_reducible refine Wo_fdiv_i ?_ ?_ ?_); kt_at_in; kt_at_in))
local macro_rules | `(tactic| wtm_at "g18") => `(tactic| ((with_reducible refine Wo_mod_i ?_ ?_); kt_at_in))
local macro_rules | `(tactic| wtm_at "g18") => `(tactic| ((with_reducible refine Wo_mul_i ?_ ?_ ?_); kt_at_in; kt_at_in))
local macro_rules | `(tactic| wtm_at "g18") => `(tactic| with_reducible refine Wo_sub_i ?_)
local macro_rules | `(tactic| wtm_at "g18") => `(tactic| with_reducible refine Wo_add_i ?_)
local macro_rules | `(tactic| k_caughtN0) => `(tactic| with_reducible refine Wo_isnot_e ?_)
local macro_rules | `(tactic| k_caughtN0) => `(tactic| with_reducible refine Wo_is_e ?_)
local macro_rules | `(tactic| k_caughtN0) => `(tactic| with_reducible refine Wo_isnot_t ?_)
local macro_rules | `(tactic| k_caughtN0) => `(tactic| with_reducible refine Wo_is_t ?_)
local macro_rules | `(tactic| k_caughtN0) => `(tactic| with_reducible refine Wo_isnot_bb ?_)
local macro_rules | `(tactic| k_caughtN0) => `(tactic| with_reducible refine Wo_is_bb ?_)
local macro_rules | `(tactic| k_caughtN0) => `(tactic| with_reducible refine Wo_isnot_nn ?_)
local macro_rules | `(tactic| k_caughtN0) => `(tactic| with_reducible refine Wo_is_nn ?_)
local macro_rules | `(tactic| k_caughtN0) => `(tactic| with_reducible refine Wo_ne_b ?_)
local macro_rules | `(tactic| k_caughtN0) => `(tactic| with_reducible refine Wo_eq_b ?_)
local macro_rules | `(tactic| k_caughtN0) => `(tactic| with_reducible refine Wo_ge_i ?_)
local macro_rules | `(tactic| k_caughtN0) => `(tactic| with_reducible refine Wo_gt_i ?_)
local macro_rules | `(tactic| k_caughtN0) => `(tactic| with_reducible refine Wo_ne_i ?_)
local macro_rules | `(tactic| k_caughtN0) => `(tactic| with_reducible refine Wo_eq_i ?_)
local macro_rules | `(tactic| k_caughtN0) => `(tactic| with_reducible refine Wo_le_i ?_)
local macro_rules | `(tactic| k_caughtN0) => `(tactic| with_reducible refine Wo_lt_i ?_)
local macro_rules | `(tactic| k_caughtN0) => `(tactic| with_reducible refine Wo_ne_wq ?_)
local macro_rules | `(tactic| k_caughtN0) => `(tactic| with_reducible refine Wo_eq_wq ?_)
local macro_rules | `(tactic| wtm_at "g19") => `(tactic| with_reducible refine Wt_l ?_)
local macro_rules | `(tactic| wtm_at "g19") => `(tactic| with_reducible refine Wt_t ?_)
local macro_rules | `(tactic| wtm_at "g19") => `(tactic| with_reducible refine Wt_i ?_)
local macro_rules | `(tactic| wtm_at "g19") => `(tactic| with_reducible refine Wt_n ?_)
local macro_rules | `(tactic| wtm_at "g19") => `(tactic| with_reducible refine Wt_b ?_)
local macro_rules | `(tactic| wtm_at "g20") => `(tactic| with_reducible refine Wdrfs_p (by with_unfolding_all rfl) ?_)
local macro_rules | `(tactic| wtm_at "g20") => `(tactic| with_reducible refine Wdrfs_v ?_)
local macro_rules | `(tactic| wtm_at "g20") => `(tactic| with_reducible refine Wdrfs_nil ?_)
local macro_rules | `(tactic| wtm_at "g21") => `(tactic| with_reducible refine Wr_pl (by with_unfolding_all rfl) ?_)
local macro_rules | `(tactic| wtm_at "g21") => `(tactic| with_reducible refine Wr_val ?_)
local macro_rules | `(tactic| tb_rel) => `(tactic| ((with_reducible refine Wo_rng3 ?_ ?_ ?_ ?_ ?_ ?_); kt_at_in; kt_at_in; kt_at_in; kt_at_in; kt_at_in))
local macro_rules | `(tactic| tb_rel) => `(tactic| ((with_reducible refine Wo_rng2 ?_ ?_ ?_ ?_ ?_ ?_); kt_at_in; kt_at_in; kt_at_in; kt_at_in; kt_at_in))
local macro_rules | `(tactic| tb_rel) => `(tactic| ((with_reducible refine Wo_rng1 ?_ ?_ ?_); kt_at_in; kt_at_in))
local macro_rules | `(tactic| tb_rel) => `(tactic| ((with_reducible refine Wo_append ?_ ?_); kt_at_in))
local macro_rules | `(tactic| tb_rel) => `(tactic| with_reducible refine Wo_of_l ?_)
local macro_rules | `(tactic| tb_rel) => `(tactic| with_reducible refine Wo_of_t ?_)
local macro_rules | `(tactic| tb_rel) => `(tactic| with_reducible refine Wo_set0 ?_)
local macro_rules | `(tactic| tb_rel) => `(tactic| with_reducible refine Wo_neg_i ?_)
local macro_rules | `(tactic| tb_rel) => `(tactic| ((with_reducible show Wo (getP _ _ _) _); wtm_at "g14"))
local macro_rules | `(tactic| tb_rel) => `(tactic| ((with_reducible show Wo (outs _ _ _ _) _); wtm_at "g15"))
local macro_rules | `(tactic| tb_rel) => `(tactic| ((with_reducible show Wo (wRm _ _ _) _); wtm_at "g16"))
local macro_rules | `(tactic| tb_rel) => `(tactic| ((with_reducible refine Wx_e (k := false) ?_ ?_ ?_); (first | with_reducible assumption | decide | (focus (simp [xsL]; done))); decide))
local macro_rules | `(tactic| tb_rel) => `(tactic| ((with_reducible refine Wx_e (k := true) ?_ ?_ ?_); (first | with_reducible assumption | decide | (focus (simp [xsL]; done))); decide))
local macro_rules | `(tactic| tb_rel) => `(tactic| ((with_reducible show Wo (wIsi _ _) _); wtm_at "g17"))
local macro_rules | `(tactic| tb_rel) => `(tactic| ((with_reducible show Wo (wBi _ _) _); k_caughtNB))
local macro_rules | `(tactic| tb_rel) => `(tactic| ((with_reducible show Wo (wIx _ _) _); tb_start))
local macro_rules | `(tactic| tb_rel) => `(tactic| ((with_reducible show Wo (wBin _ _ _) _); wtm_at "g18"))
local macro_rules | `(tactic| tb_rel) => `(tactic| ((with_reducible show Wo (wCmp _ _ _) _); k_caughtN0))
local macro_rules | `(tactic| tb_rel) => `(tactic| ((with_reducible show Wo (wTru _) _); wtm_at "g19"))
local macro_rules | `(tactic| tb_rel) => `(tactic| ((with_reducible show Wo (drfs _ _) _); wtm_at "g20"))
local macro_rules | `(tactic| tb_rel) => `(tactic| ((with_reducible show Wo (drf _ _) _); wtm_at "g21"))
local macro_rules | `(tactic| wtm_at "g22") => `(tactic| with_reducible refine Ws_nil ?_)
local macro_rules | `(tactic| wtm_at "g22") => `(tactic| with_reducible refine Ws_cons ?_)
local macro_rules | `(tactic| wtm_at "g22") => `(tactic| with_reducible refine Ws_last ?_)
local macro_rules | `(tactic| k_caughtCB) => `(tactic| with_reducible refine Ws_whl ?_)
local macro_rules | `(tactic| k_caughtCB) => `(tactic| with_reducible refine Ws_tr0 ?_)
local macro_rules | `(tactic| k_caughtCB) => `(tactic| with_reducible refine Ws_trn ?_)
local macro_rules | `(tactic| k_caughtCB) => `(tactic| with_reducible refine Ws_rse1 ?_)
local macro_rules | `(tactic| k_caughtCB) => `(tactic| with_reducible refine Ws_rse0 ?_)
local macro_rules | `(tactic| k_caughtCB) => `(tactic| with_reducible refine Ws_brk ?_)
local macro_rules | `(tactic| k_caughtCB) => `(tactic| with_reducible refine Ws_pass ?_)
local macro_rules | `(tactic| k_caughtCB) => `(tactic| with_reducible refine Ws_for ?_)
local macro_rules | `(tactic| k_caughtCB) => `(tactic| with_reducible refine Ws_fld ?_)
local macro_rules | `(tactic| k_caughtCB) => `(tactic| with_reducible refine Ws_sub ?_)
local macro_rules | `(tactic| k_caughtCB) => `(tactic| with_reducible refine Ws_par ?_)
local macro_rules | `(tactic| k_caughtCB) => `(tactic| with_reducible refine Ws_mul ?_)
local macro_rules | `(tactic| k_caughtCB) => `(tactic| with_reducible refine Ws_expr ?_)
local macro_rules | `(tactic| k_caughtCB) => `(tactic| with_reducible refine Ws_ret ?_)
local macro_rules | `(tactic| k_caughtCB) => `(tactic| with_reducible refine Ws_ite ?_)
local macro_rules | `(tactic| k_caughtCB) => `(tactic| with_reducible refine Ws_asg ?_)
local macro_rules | `(tactic| k_caughtC0) => `(tactic| with_reducible refine Wx_dct ?_)
local macro_rules | `(tactic| k_caughtC0) => `(tactic| with_reducible refine Wx_rev ?_)
local macro_rules | `(tactic| k_caughtC0) => `(tactic| with_reducible refine Wx_isx ?_)
local macro_rules | `(tactic| k_caughtC0) => `(tactic| with_reducible refine Wx_isi ?_)
local macro_rules | `(tactic| k_caughtC0) => `(tactic| with_reducible refine Wx_rm ?_)
local macro_rules | `(tactic| k_caughtC0) => `(tactic| with_reducible refine Wx_mk ?_)
local macro_rules | `(tactic| k_caughtC0) => `(tactic| with_reducible refine W_fld ?_)
local macro_rules | `(tactic| k_caughtC0) => `(tactic| with_reducible refine Wx_mth ?_)
local macro_rules | `(tactic| k_caughtC0) => `(tactic| with_reducible refine Wx_cmp2 ?_)
local macro_rules | `(tactic| k_caughtC0) => `(tactic| with_reducible refine Wx_ife ?_)
local macro_rules | `(tactic| k_caughtC0) => `(tactic| with_reducible refine Wx_neg ?_)
local macro_rules | `(tactic| k_caughtC0) => `(tactic| with_reducible refine Wx_sl ?_)
local macro_rules | `(tactic| k_caughtC0) => `(tactic| with_reducible refine Wx_mu ?_)
local macro_rules | `(tactic| k_caughtC0) => `(tactic| with_reducible refine Wx_lst ?_)
local macro_rules | `(tactic| k_caughtC0) => `(tactic| with_reducible refine Wx_or ?_)
local macro_rules | `(tactic| k_caughtC0) => `(tactic| with_reducible refine Wx_and ?_)
local macro_rules | `(tactic| k_caughtC0) => `(tactic| with_reducible refine Wx_nt ?_)
local macro_rules | `(tactic| k_caughtC0) => `(tactic| with_reducible refine Wx_bi ?_)
local macro_rules | `(tactic| k_caughtC0) => `(tactic| with_reducible refine Wx_tup ?_)
local macro_rules | `(tactic| k_caughtC0) => `(tactic| with_reducible refine Wx_cmp1 ?_)
local macro_rules | `(tactic| k_caughtC0) => `(tactic| with_reducible refine Wx_call ?_)
local macro_rules | `(tactic| k_caughtC0) => `(tactic| with_reducible refine Wx_ix ?_)
local macro_rules | `(tactic| k_caughtC0) => `(tactic| with_reducible refine Wx_bin ?_)
local macro_rules | `(tactic| k_caughtC0) => `(tactic| with_reducible refine Wx_varO (by with_unfolding_all rfl) (by with_unfolding_all rfl) ?_)
local macro_rules | `(tactic| k_caughtC0) => `(tactic| with_reducible refine Wx_var (by with_unfolding_all rfl) (by kt_at_notin) ?_)
local macro_rules | `(tactic| k_caughtC0) => `(tactic| with_reducible refine Wx_con ?_)
local macro_rules | `(tactic| k_caughtB) => `(tactic| with_reducible refine W_recv (by with_unfolding_all rfl) (by with_unfolding_all rfl) ?_)
local macro_rules | `(tactic| k_caughtB) => `(tactic| with_reducible refine W_mu (by with_unfolding_all rfl) ?_)
local macro_rules | `(tactic| k_caughtB) => `(tactic| with_reducible refine W_recvL (by with_unfolding_all rfl) ?_)
local macro_rules | `(tactic| k_caughtB) => `(tactic| with_reducible refine Wrt_fld ?_)
local macro_rules | `(tactic| k_caughtB) => `(tactic| with_reducible refine Wrt_par (by with_unfolding_all rfl) (by decide) ?_)
local macro_rules | `(tactic| k_caughtB) => `(tactic| with_reducible refine Wrt_pl (by with_unfolding_all rfl) (by decide) (by simp only [List.set_cons_zero, List.set_cons_succ]; rfl) ?_)
local macro_rules | `(tactic| k_caughtB) => `(tactic| with_reducible refine Wsh_plB (by with_unfolding_all rfl) (by with_unfolding_all rfl) (by with_unfolding_all rfl) ?_)
local macro_rules | `(tactic| k_caughtB) => `(tactic| with_reducible refine Wsh_v (by with_unfolding_all rfl) (by kt_at_notin) ?_)
local macro_rules | `(tactic| k_caughtB) => `(tactic| with_reducible refine Wsh_val (by first | with_unfolding_all rfl | exact ok1_frz (by assumption) | exact frz_own (by kt_at_notin) rfl) ?_)
local macro_rules | `(tactic| k_caughtB) => `(tactic| with_reducible refine W_mkD ?_)
local macro_rules | `(tactic| k_caughtB) => `(tactic| with_reducible refine W_callD ?_)
local macro_rules | `(tactic| k_caughtB) => `(tactic| with_reducible refine Wi_enm ?_)
local macro_rules | `(tactic| k_caughtB) => `(tactic| with_reducible refine Wi_zip ?_)
local macro_rules | `(tactic| k_caughtB) => `(tactic| with_reducible refine Wi_rng ?_)
local macro_rules | `(tactic| k_caughtB) => `(tactic| with_reducible refine Wi_of ?_)
local macro_rules | `(tactic| k_caughtB) => `(tactic| with_reducible refine Wrt_val ?_)
local macro_rules | `(tactic| k_caughtB) => `(tactic| with_reducible refine Wns_cons ?_)
local macro_rules | `(tactic| k_caughtB) => `(tactic| with_reducible refine Wns_nil ?_)
local macro_rules | `(tactic| k_caughtB) => `(tactic| with_reducible refine Was_cons ?_)
local macro_rules | `(tactic| k_caughtB) => `(tactic| with_reducible refine Was_nil ?_)
local macro_rules | `(tactic| k_caughtB) => `(tactic| with_reducible refine Wa_fld ?_)
local macro_rules | `(tactic| k_caughtB) => `(tactic| with_reducible refine Wa_sub ?_)
local macro_rules | `(tactic| k_caughtB) => `(tactic| with_reducible refine Wa_nm ?_)
local macro_rules | `(tactic| k_caughtB) => `(tactic| with_reducible refine Wm_tgs1 ?_)
local macro_rules | `(tactic| k_caughtB) => `(tactic| with_reducible refine Wm_tgs0 ?_)
local macro_rules | `(tactic| k_caughtB) => `(tactic| with_reducible refine Wm_tgt ?_)
local macro_rules | `(tactic| k_caughtB) => `(tactic| with_reducible refine Wm_tgn ?_)
local macro_rules | `(tactic| k_caughtB) => `(tactic| with_reducible refine Wb_some ?_)
local macro_rules | `(tactic| k_caughtB) => `(tactic| with_reducible refine Wb_none ?_)
local macro_rules | `(tactic| k_caughtB) => `(tactic| with_reducible refine Wfz_cons ?_)
local macro_rules | `(tactic| k_caughtB) => `(tactic| with_reducible refine Wfz_nil ?_)
local macro_rules | `(tactic| k_caughtB) => `(tactic| with_reducible refine Wm_lft ?_)
local macro_rules | `(tactic| k_caughtB) => `(tactic| with_reducible refine Wm_tru ?_)
local macro_rules | `(tactic| k_caughtB) => `(tactic| with_reducible refine Wm_rd ?_)
local macro_rules | `(tactic| k_caughtB) => `(tactic| with_reducible refine Wm_ret ?_)
local macro_rules | `(tactic| k_caughtB) => `(tactic| with_reducible refine Wm_bnd ?_)
local macro_rules | `(tactic| k_caughtB) => `(tactic| with_reducible refine Wm_stN ?_)
local macro_rules | `(tactic| k_caughtB) => `(tactic| with_reducible refine Wmv_pl ?_)
local macro_rules | `(tactic| k_caughtB) => `(tactic| with_reducible refine Wmv_val ?_)
local macro_rules | `(tactic| k_caughtB) => `(tactic| with_reducible refine Wxo_some ?_)
local macro_rules | `(tactic| k_caughtB) => `(tactic| with_reducible refine Wxo_none ?_)
local macro_rules | `(tactic| k_caughtB) => `(tactic| with_reducible refine Wxs_cons ?_)
local macro_rules | `(tactic| k_caughtB) => `(tactic| with_reducible refine Wxs_nil ?_)
local macro_rules | `(tactic| k_caughtB) => `(tactic| with_reducible refine WxT_cons ?_)
local macro_rules | `(tactic| k_caughtB) => `(tactic| with_reducible refine WxT_nil ?_)
local macro_rules | `(tactic| k_caughtB) => `(tactic| ((with_reducible show Wm (execs _ _) _ _ _); wtm_at "g22"))
local macro_rules | `(tactic| k_caughtB) => `(tactic| ((with_reducible show Wm (exec _ _) _ _ _); k_caughtCB))
local macro_rules | `(tactic| k_caughtB) => `(tactic| ((with_reducible show Wm (ev _) _ _ _); k_caughtC0))
local macro_rules | `(tactic| kt_at_method) => `(tactic| ((with_reducible refine Wand_so ?_ ?_); with_unfolding_all rfl))
local macro_rules | `(tactic| kt_at_method) => `(tactic| ((with_reducible refine Wand_nd ?_ ?_); (wtm_at "nd")))
local macro_rules | `(tactic| kt_at_method) => `(tactic| with_reducible refine Wb1_fld (by with_unfolding_all rfl) (by simp [putA]; rfl) ?_)
local macro_rules | `(tactic| kt_at_method) => `(tactic| ((with_reducible refine Wa_fldm rfl (by with_unfolding_all rfl) ?_ (by with_unfolding_all rfl) (by first | with_unfolding_all rfl | (simp [List.lookup, isLD]; done)) (by simp) ?_); (first | with_reducible assumption | decide | (focus (simp [csL]; done)))))
local macro_rules | `(tactic| kt_at_method) => `(tactic| with_reducible refine Wmk_p rfl rfl rfl ?_)
local macro_rules | `(tactic| kt_at_method) => `(tactic| ((with_reducible refine Wtr_p rfl ?_ ?_); (first | with_reducible assumption | (focus (simp [xsL]; done)) | decide)))
local macro_rules | `(tactic| kt_at_method) => `(tactic| ((with_reducible refine Wlcm_mk (by simp only [wipe, List.set_cons_zero, List.set_cons_succ]; rfl) (by simp only [unwipe, List.set_cons_zero, List.set_cons_succ, List.getElem?_cons_zero, List.getElem?_cons_succ, Option.join_some, Option.join_none]; rfl) ?_ ?_ ?_ ?_); (first | with_reducible assumption | (focus (simp; done)) | (focus (simp; omega)) | decide); (first | exact trivial | with_unfolding_all rfl)))
local macro_rules | `(tactic| kt_at_method) => `(tactic| with_reducible refine Wfld_mk (by with_unfolding_all rfl) (by first | with_reducible assumption | decide | simp [csL, xsL]) (by first | with_unfolding_all rfl | (simp [List.lookup]; rfl)) (by kt_at_notin) ?_)
local macro_rules | `(tactic| kt_at_method) => `(tactic| kt_at_item)
local macro_rules | `(tactic| kt_at_method) => `(tactic| with_reducible refine Wout_mk ?_)
local macro_rules | `(tactic| kt_at_method) => `(tactic| with_reducible refine Wb1_none ?_)
local macro_rules | `(tactic| kt_at_method) => `(tactic| with_reducible refine Wb_ins ?_)
local macro_rules | `(tactic| kt_at_method) => `(tactic| with_reducible refine Wb_lst2 ?_)
local macro_rules | `(tactic| kt_at_method) => `(tactic| with_reducible refine Wb_lst ?_)
local macro_rules | `(tactic| kt_at_method) => `(tactic| with_reducible refine Wb_val ?_)
local macro_rules | `(tactic| kt_at_method) => `(tactic| with_reducible refine Wb_vals0 ?_)
local macro_rules | `(tactic| kt_at_method) => `(tactic| ((with_reducible show Wif _ _ _); wtm_at "g13"))
local macro_rules | `(tactic| kt_at_method) => `(tactic| ((with_reducible refine Wsrc_p ?_ ?_); rfl))
local macro_rules | `(tactic| kt_at_method) => `(tactic| ((with_reducible refine Wtp_t ?_ ?_); rfl))
local macro_rules | `(tactic| kt_at_method) => `(tactic| with_reducible refine Wzip_l ?_)
local macro_rules | `(tactic| kt_at_method) => `(tactic| with_reducible refine Wzip_t ?_)
local macro_rules | `(tactic| kt_at_method) => `(tactic| with_reducible refine Wsrc_v ?_)
local macro_rules | `(tactic| kt_at_method) => `(tactic| with_reducible refine Wpl_p ?_)
local macro_rules | `(tactic| kt_at_method) => `(tactic| with_reducible refine Wint_i ?_)
local macro_rules | `(tactic| kt_at_method) => `(tactic| with_reducible refine Wend_nx ?_)
local macro_rules | `(tactic| kt_at_method) => `(tactic| with_reducible refine Wend_rt ?_)
local macro_rules | `(tactic| kt_at_method) => `(tactic| with_reducible refine Wlp_bk ?_)
local macro_rules | `(tactic| kt_at_method) => `(tactic| with_reducible refine Wlp_rt ?_)
local macro_rules | `(tactic| kt_at_method) => `(tactic| with_reducible refine Wlp_nx ?_)
local macro_rules | `(tactic| kt_at_method) => `(tactic| with_reducible refine Wnx_bk ?_)
local macro_rules | `(tactic| kt_at_method) => `(tactic| with_reducible refine Wnx_rt ?_)
local macro_rules | `(tactic| kt_at_method) => `(tactic| with_reducible refine Wnx_nx ?_)
local macro_rules | `(tactic| kt_at_method) => `(tactic| ((with_reducible show Wset _ _ _ _); top_raiseIn))
local macro_rules | `(tactic| kt_at_method) => `(tactic| ((with_reducible show Wo _ _); tb_rel))
local macro_rules | `(tactic| kt_at_method) => `(tactic| ((with_reducible show Wm _ _ _ _); k_caughtB))
local macro_rules | `(tactic| walk_at "sx") => `(tactic| repeat kt_at_method)

local macro_rules | `(tactic| walk_at "call") => `(tactic| first | kt_at_item | fail)
local macro_rules | `(tactic| top_raiseIn0) => `(tactic| with_reducible refine Wf_ex (number_no _) ?_)
local macro_rules | `(tactic| top_raiseIn0) => `(tactic| ((with_reducible refine X_isnum ?_); intros))
local macro_rules | `(tactic| top_raiseIn0) => `(tactic| ((with_reducible refine X_less ?_ ?_ ?_); kt_at_in; kt_at_in; intros))
local macro_rules | `(tactic| top_raiseIn0) => `(tactic| ((with_reducible refine X_multiplied ?_ ?_ ?_); kt_at_in; kt_at_in; intros))
local macro_rules | `(tactic| top_raiseIn0) => `(tactic| ((with_reducible refine X_taken ?_ ?_ ?_); kt_at_in; kt_at_in; intros))
local macro_rules | `(tactic| top_raiseIn0) => `(tactic| ((with_reducible refine X_added ?_ ?_ ?_); kt_at_in; kt_at_in; intros))
local macro_rules | `(tactic| top_raiseIn0) => `(tactic| ((with_reducible refine W_number ?_ ?_ ?_); kt_at_in; kt_at_in; intros))
local macro_rules | `(tactic| top_raiseIn0) => `(tactic| ((with_reducible refine W_pack ?_ ?_ ?_ ?_ ?_); kt_at_in; kt_at_in; kt_at_in; kt_at_in; intros))
local macro_rules | `(tactic| top_raiseIn0) => `(tactic| ((with_reducible refine W_take ?_ ?_ ?_ ?_); kt_at_in; kt_at_in; kt_at_in; intros))
local macro_rules | `(tactic| top_raiseIn0) => `(tactic| with_reducible refine Wf_ex (by assumption) ?_)
local macro_rules | `(tactic| top_raiseIn0) => `(tactic| with_reducible refine Wf_eq (by assumption) ?_)
local macro_rules | `(tactic| kt_at_item) => `(tactic| ((with_reducible show Wf _ _ _ _); top_raiseIn0))

namespace Rf.C
abbrev Tch := Rat × Nat × Rat
def slp (h : Rat) (a : Nat) (x : Rat) (k : Nat) : Rat := (x - h) / ((k : Rat) - (a : Rat))
def crossQ (most least : Option Tch) (sl sh : Rat) : Option Tch := match most with
  | some m => if m.1 < sl then some m else (match least with
    | some l => if sh < l.1 then some l else none
    | none => none)
  | none => match least with
    | some l => if sh < l.1 then some l else none
    | none => none
def upM (most : Option Tch) (sh : Rat) (k : Nat) (hi : Rat) : Option Tch := match most with
  | some m => if m.1 < sh then some m else some (sh, k, hi)
  | none => some (sh, k, hi)
def upL (least : Option Tch) (sl : Rat) (k : Nat) (lo : Rat) : Option Tch := match least with
  | some l => if sl < l.1 then some l else some (sl, k, lo)
  | none => some (sl, k, lo)
section
variable {SL SH LO HI : Nat → Rat} {a e : Nat}
end
end Rf.C
namespace Rf.C
def bd (t : List (Rat × Rat)) (k : Nat) : Rat × Rat := t.getD k (0, 0)
section
variable {h x s : Rat} {a k : Nat}
end
section
variable {t : List (Rat × Rat)}
structure Taut (t : List (Rat × Rat)) (r : List Rat) : Prop where
  len : r.length = t.length
  inn : ∀ k, k < t.length → (bd t k).1 ≤ r.getD k 0 ∧ r.getD k 0 ≤ (bd t k).2
  up : ∀ k, 0 < k → k + 1 < t.length → r.getD k 0 - r.getD (k - 1) 0 < r.getD (k + 1) 0 - r.getD k 0 → r.getD k 0 = (bd t k).2
  down : ∀ k, 0 < k → k + 1 < t.length → r.getD (k + 1) 0 - r.getD k 0 < r.getD k 0 - r.getD (k - 1) 0 → r.getD k 0 = (bd t k).1
end
end Rf.C
open Rf.C
local macro_rules | `(tactic| walk_at "sx") => `(tactic| repeat kt_at_method)
namespace Rf.Lib
open PySem
local macro_rules | `(tactic| wtm_at "g23") => `(tactic| with_reducible refine Wf_ex (number_no _) ?_)
local macro_rules | `(tactic| wtm_at "g23") => `(tactic| ((with_reducible refine X_isnum ?_); intros))
local macro_rules | `(tactic| wtm_at "g23") => `(tactic| ((with_reducible refine X_less ?_ ?_ ?_); kt_at_in; kt_at_in; intros))
local macro_rules | `(tactic| wtm_at "g23") => `(tactic| ((with_reducible refine X_multiplied ?_ ?_ ?_); kt_at_in; kt_at_in; intros))
local macro_rules | `(tactic| wtm_at "g23") => `(tactic| ((with_reducible refine X_taken ?_ ?_ ?_); kt_at_in; kt_at_in; intros))
local macro_rules | `(tactic| wtm_at "g23") => `(tactic| ((with_reducible refine X_added ?_ ?_ ?_); kt_at_in; kt_at_in; intros))
local macro_rules | `(tactic| wtm_at "g23") => `(tactic| ((with_reducible refine W_number ?_ ?_ ?_); kt_at_in; kt_at_in; intros))
local macro_rules | `(tactic| wtm_at "g23") => `(tactic| ((with_reducible refine W_pack ?_ ?_ ?_ ?_ ?_); kt_at_in; kt_at_in; kt_at_in; kt_at_in; intros))
local macro_rules | `(tactic| wtm_at "g23") => `(tactic| ((with_reducible refine W_take ?_ ?_ ?_ ?_); kt_at_in; kt_at_in; kt_at_in; intros))
local macro_rules | `(tactic| wtm_at "g23") => `(tactic| with_reducible refine Wf_ex (by assumption) ?_)
local macro_rules | `(tactic| wtm_at "g23") => `(tactic| with_reducible refine Wf_eq (by assumption) ?_)
local macro_rules | `(tactic| kt_at_item) => `(tactic| ((with_reducible show Wf _ _ _ _); wtm_at "g23"))
open C
section
variable {Q E : W → List W → Prop} {cs xs : List String}
theorem W_parted {a b : Rat} (h0 : b ≠ 0) (ha : qb 3900 a) (hb : qb 3900 b) (h : Q (wq (a / b)) [wq a, wq b]) : Wf F_parted [wq a, wq b] Q E := Wf_eq (parted_eq ha hb h0) h
local macro_rules | `(tactic| kt_at_item) => `(tactic| ((with_reducible refine W_parted ?_ ?_ ?_ ?_); kt_at_in; kt_at_in; kt_at_in))
end
local macro_rules | `(tactic| walk_at "op") => `(tactic| first | kt_at_get | fail)
local macro_rules | `(tactic| kt_at_item) => `(tactic| ((with_reducible show Wo _ _); kt_at_get))
end Rf.Lib
local macro_rules | `(tactic| kt_at_item) => `(tactic| ((with_reducible refine W_parted ?_ ?_ ?_ ?_); kt_at_in; kt_at_in; kt_at_in))
local macro_rules | `(tactic| kt_at_item) => `(tactic| ((with_reducible show Wo _ _); kt_at_get))
namespace Rf.Lib
open PySem
open C
section
variable {Q E : W → List W → Prop} {cs xs : List String}
end

end Rf.Lib
namespace Rf.Lib
open PySem
local macro_rules | `(tactic| wtm_at "g24") => `(tactic| with_reducible refine Wf_ex (number_no _) ?_)
local macro_rules | `(tactic| wtm_at "g24") => `(tactic| ((with_reducible refine X_isnum ?_); intros))
local macro_rules | `(tactic| wtm_at "g24") => `(tactic| ((with_reducible refine X_less ?_ ?_ ?_); kt_at_in; kt_at_in; intros))
local macro_rules | `(tactic| wtm_at "g24") => `(tactic| ((with_reducible refine X_multiplied ?_ ?_ ?_); kt_at_in; kt_at_in; intros))
local macro_rules | `(tactic| wtm_at "g24") => `(tactic| ((with_reducible refine X_taken ?_ ?_ ?_); kt_at_in; kt_at_in; intros))
local macro_rules | `(tactic| wtm_at "g24") => `(tactic| ((with_reducible refine X_added ?_ ?_ ?_); kt_at_in; kt_at_in; intros))
local macro_rules | `(tactic| wtm_at "g24") => `(tactic| ((with_reducible refine W_number ?_ ?_ ?_); kt_at_in; kt_at_in; intros))
local macro_rules | `(tactic| wtm_at "g24") => `(tactic| ((with_reducible refine W_pack ?_ ?_ ?_ ?_ ?_); kt_at_in; kt_at_in; kt_at_in; kt_at_in; intros))
local macro_rules | `(tactic| wtm_at "g24") => `(tactic| ((with_reducible refine W_take ?_ ?_ ?_ ?_); kt_at_in; kt_at_in; kt_at_in; intros))
local macro_rules | `(tactic| wtm_at "g24") => `(tactic| with_reducible refine Wf_ex (by assumption) ?_)
local macro_rules | `(tactic| wtm_at "g24") => `(tactic| with_reducible refine Wf_eq (by assumption) ?_)
local macro_rules | `(tactic| kt_at_item) => `(tactic| ((with_reducible show Wf _ _ _ _); wtm_at "g24"))
open C


section
variable {Q E : W → List W → Prop} {cs xs : List String}
end

end Rf.Lib
namespace Rf.Lib
open PySem
local macro_rules | `(tactic| wtm_at "g25") => `(tactic| with_reducible refine Wf_ex (number_no _) ?_)
local macro_rules | `(tactic| wtm_at "g25") => `(tactic| ((with_reducible refine X_isnum ?_); intros))
local macro_rules | `(tactic| wtm_at "g25") => `(tactic| ((with_reducible refine X_less ?_ ?_ ?_); kt_at_in; kt_at_in; intros))
local macro_rules | `(tactic| wtm_at "g25") => `(tactic| ((with_reducible refine X_multiplied ?_ ?_ ?_); kt_at_in; kt_at_in; intros))
local macro_rules | `(tactic| wtm_at "g25") => `(tactic| ((with_reducible refine X_taken ?_ ?_ ?_); kt_at_in; kt_at_in; intros))
local macro_rules | `(tactic| wtm_at "g25") => `(tactic| ((with_reducible refine X_added ?_ ?_ ?_); kt_at_in; kt_at_in; intros))
local macro_rules | `(tactic| wtm_at "g25") => `(tactic| ((with_reducible refine W_number ?_ ?_ ?_); kt_at_in; kt_at_in; intros))
local macro_rules | `(tactic| wtm_at "g25") => `(tactic| ((with_reducible refine W_pack ?_ ?_ ?_ ?_ ?_); kt_at_in; kt_at_in; kt_at_in; kt_at_in; intros))
local macro_rules | `(tactic| wtm_at "g25") => `(tactic| ((with_reducible refine W_take ?_ ?_ ?_ ?_); kt_at_in; kt_at_in; kt_at_in; intros))
local macro_rules | `(tactic| wtm_at "g25") => `(tactic| with_reducible refine Wf_ex (by assumption) ?_)
local macro_rules | `(tactic| wtm_at "g25") => `(tactic| with_reducible refine Wf_eq (by assumption) ?_)
local macro_rules | `(tactic| kt_at_item) => `(tactic| ((with_reducible show Wf _ _ _ _); wtm_at "g25"))
open C


structure CT (t : List (Rat × Rat)) : Prop where
  tube : Tube t
  tie : tied t = true
  qb : ∀ p ∈ t, qb 1000 p.1 ∧ qb 1000 p.2
section
variable {t : List (Rat × Rat)}
theorem bd_mem {k : Nat} (h : k < t.length) : bd t k ∈ t := by
  unfold bd
  rw [show t.getD k (0, 0) = t[k] by simp [List.getD, h]]
  exact List.getElem_mem h
theorem CT.first (C : CT t) : (bd t 0).1 = (bd t 0).2 := by
  have h := C.tie
  unfold tied at h
  rw [Bool.and_eq_true] at h
  exact of_decide_eq_true h.1
theorem CT.q (C : CT t) (k : Nat) (hk : k < t.length) : Rf.qb 1000 (bd t k).1 ∧ Rf.qb 1000 (bd t k).2 := C.qb _ (bd_mem hk)
theorem CT.q39 (C : CT t) : ∀ p ∈ t, Rf.qb 3900 p.1 ∧ Rf.qb 3900 p.2 := fun p hp => ⟨qb_mono (C.qb p hp).1 (by decide), qb_mono (C.qb p hp).2 (by decide)⟩
end
section
variable {Q E : W → List W → Prop} {cs xs : List String} {t : List (Rat × Rat)}
end

end Rf.Lib
local macro_rules | `(tactic| wtm_at "g26") => `(tactic| with_reducible refine Wf_ex (number_no _) ?_)
local macro_rules | `(tactic| wtm_at "g26") => `(tactic| ((with_reducible refine X_isnum ?_); intros))
local macro_rules | `(tactic| wtm_at "g26") => `(tactic| ((with_reducible refine X_less ?_ ?_ ?_); kt_at_in; kt_at_in; intros))
local macro_rules | `(tactic| wtm_at "g26") => `(tactic| ((with_reducible refine X_multiplied ?_ ?_ ?_); kt_at_in; kt_at_in; intros))
local macro_rules | `(tactic| wtm_at "g26") => `(tactic| ((with_reducible refine X_taken ?_ ?_ ?_); kt_at_in; kt_at_in; intros))
local macro_rules | `(tactic| wtm_at "g26") => `(tactic| ((with_reducible refine X_added ?_ ?_ ?_); kt_at_in; kt_at_in; intros))
local macro_rules | `(tactic| wtm_at "g26") => `(tactic| ((with_reducible refine W_number ?_ ?_ ?_); kt_at_in; kt_at_in; intros))
local macro_rules | `(tactic| wtm_at "g26") => `(tactic| ((with_reducible refine W_pack ?_ ?_ ?_ ?_ ?_); kt_at_in; kt_at_in; kt_at_in; kt_at_in; intros))
local macro_rules | `(tactic| wtm_at "g26") => `(tactic| ((with_reducible refine W_take ?_ ?_ ?_ ?_); kt_at_in; kt_at_in; kt_at_in; intros))
local macro_rules | `(tactic| wtm_at "g26") => `(tactic| with_reducible refine Wf_ex (by assumption) ?_)
local macro_rules | `(tactic| wtm_at "g26") => `(tactic| with_reducible refine Wf_eq (by assumption) ?_)
local macro_rules | `(tactic| kt_at_item) => `(tactic| ((with_reducible show Wf _ _ _ _); wtm_at "g26"))
namespace Rf.Lib
open PySem
open C


section
variable {Q E : W → List W → Prop} {cs xs : List String}
end

end Rf.Lib
namespace Rf.Lib
open PySem
open C


section
variable {Q E : W → List W → Prop} {cs xs : List String}
end

end Rf.Lib
namespace Rf.Lib
open PySem
open C

section
variable {Q E : W → List W → Prop} {cs xs : List String}
end

end Rf.Lib

namespace Rf.Lib
open PySem
open C
section
variable {Q E : W → List W → Prop} {cs xs : List String} {ds : List Rat} {p : Rat}
structure DP (ds : List Rat) (p : Rat) : Prop where
  one : 1 ≤ ds.length
  most : ds.length ≤ 24
  qd : ∀ d ∈ ds, qb 31 d
  nn : 0 ≤ p
  qp : qb 31 p
end

end Rf.Lib

namespace Rf.Lib
open PySem
open C
def gr (D : Nat) (x : Rat) : Prop := ∃ n : Int, x * (D : Rat) = (n : Rat)
def ab (B : Nat) (x : Rat) : Prop := -(B : Rat) ≤ x ∧ x ≤ (B : Rat)
section
variable {D E B A k : Nat} {x y : Rat}
theorem gr_add (h : gr D x) (h2 : gr D y) : gr D (x + y) := by
  obtain ⟨n, hn⟩ := h
  obtain ⟨m, hm⟩ := h2
  exact ⟨n + m, by rw [Rat.intCast_add, ← hn, ← hm]; grind⟩
theorem gr_sub (h : gr D x) (h2 : gr D y) : gr D (x - y) := by
  obtain ⟨n, hn⟩ := h
  obtain ⟨m, hm⟩ := h2
  exact ⟨n - m, by rw [Rat.intCast_sub, ← hn, ← hm]; grind⟩
theorem gr_dvd (h : gr D x) (d : D ∣ E) : gr E x := by
  obtain ⟨n, hn⟩ := h
  obtain ⟨c, rfl⟩ := d
  exact ⟨n * (c : Int), by rw [Rat.intCast_mul, ← hn, Rat.natCast_mul, Rat.intCast_natCast]; grind⟩
theorem gr_zero : gr D 0 := ⟨0, by rw [Rat.zero_mul]; rfl⟩
theorem ab_add (h : ab B x) (h2 : ab A y) : ab (B + A) (x + y) := by
  unfold ab at *
  rw [Rat.natCast_add]
  grind
theorem ab_sub (h : ab B x) (h2 : ab A y) : ab (B + A) (x - y) := by
  unfold ab at *
  rw [Rat.natCast_add]
  grind
theorem ab_mono (h : ab B x) (hb : B ≤ A) : ab A x := by
  unfold ab at *
  have : (B : Rat) ≤ (A : Rat) := Rat.natCast_le_natCast.mpr hb
  grind
theorem gr_qb (h : gr D x) (a : ab B x) (hD : 0 < D) (hB : 0 < B) (hk : B * D < 2 ^ k) : qb k x := by
  obtain ⟨n, hn⟩ := h
  have d0 : (0 : Rat) < (D : Rat) := by
    have := Rat.natCast_lt_natCast.mpr hD
    exact this
  have e : x = Rat.divInt n D := by
    rw [Rat.divInt_eq_div, ← hn, Rat.intCast_natCast, Rat.mul_div_cancel (by grind)]
  have n1 : (n : Rat) ≤ ((B * D : Nat) : Rat) := by
    rw [← hn, Rat.natCast_mul]
    have := Rat.mul_nonneg (a := (B : Rat) - x) (b := (D : Rat)) (by have := a.2; grind) (by grind)
    grind
  have n2 : -((B * D : Nat) : Rat) ≤ (n : Rat) := by
    rw [← hn, Rat.natCast_mul]
    have := Rat.mul_nonneg (a := (B : Rat) + x) (b := (D : Rat)) (by have := a.1; grind) (by grind)
    grind
  rw [← Rat.intCast_natCast] at n1 n2
  rw [← Rat.intCast_neg] at n2
  have m1 := Rat.intCast_le_intCast.mp n1
  have m2 := Rat.intCast_le_intCast.mp n2
  rw [e]
  have hd : D ≤ B * D := Nat.le_mul_of_pos_left D hB
  exact qb_divInt (by omega) (by show ((D : Int)).natAbs < _; omega) (by omega)
end
def LC : Nat := 5354228880
end Rf.Lib
namespace Rf.Lib
open PySem
open C
section
variable {Q E : W → List W → Prop} {cs xs : List String}
end

end Rf.Lib
namespace Rf.C
section
variable {t : List (Rat × Rat)} {c r : List Rat}
def stp (r : List Rat) (k : Nat) : Rat := r.getD (k + 1) 0 - r.getD k 0
structure Wi (t : List (Rat × Rat)) (r : List Rat) : Prop where
  len : r.length = t.length
  inn : ∀ k, k < t.length → (bd t k).1 ≤ r.getD k 0 ∧ r.getD k 0 ≤ (bd t k).2
theorem Taut.wi (T : Taut t r) : Wi t r := ⟨T.len, T.inn⟩
theorem Taut.upS (T : Taut t r) {k : Nat} (h : k + 2 < t.length) (s : stp r k < stp r (k + 1)) : r.getD (k + 1) 0 = (bd t (k + 1)).2 := T.up (k + 1) (by omega) (by omega) s
theorem Taut.downS (T : Taut t r) {k : Nat} (h : k + 2 < t.length) (s : stp r (k + 1) < stp r k) : r.getD (k + 1) 0 = (bd t (k + 1)).1 := T.down (k + 1) (by omega) (by omega) s
def sumTo (f : Nat → Rat) : Nat → Rat
  | 0 => 0
  | m + 1 => sumTo f m + f m
theorem sumTo_le {f g : Nat → Rat} : ∀ {m : Nat}, (∀ k, k < m → f k ≤ g k) → sumTo f m ≤ sumTo g m
  | 0, _ => Rat.le_refl
  | m + 1, h => by
    have a := sumTo_le (m := m) fun k hk => h k (by omega)
    have b := h m (by omega)
    show sumTo f m + f m ≤ sumTo g m + g m
    grind
theorem sumTo_add {f g : Nat → Rat} : ∀ {m : Nat}, sumTo (fun k => f k + g k) m = sumTo f m + sumTo g m
  | 0 => by show (0 : Rat) = 0 + 0; grind
  | m + 1 => by
    show sumTo (fun k => f k + g k) m + (f m + g m) = sumTo f m + f m + (sumTo g m + g m)
    rw [sumTo_add (m := m)]; grind
theorem weigh (T : Taut t c) (R : Wi t r) (h0 : c.getD 0 0 = r.getD 0 0) (hn : c.getD (t.length - 1) 0 = r.getD (t.length - 1) 0) (g : Rat → Rat) (mono : ∀ x y, x ≤ y → g x ≤ g y) : 0 ≤ sumTo (fun k => g (stp c k) * (stp r k - stp c k)) (t.length - 1) := by
  have key : ∀ m, m + 1 < t.length → g (stp c m) * (r.getD (m + 1) 0 - c.getD (m + 1) 0) ≤ sumTo (fun k => g (stp c k) * (stp r k - stp c k)) (m + 1) := by
    intro m
    induction m with
    | zero =>
      intro h
      show g (stp c 0) * (r.getD 1 0 - c.getD 1 0) ≤ 0 + g (stp c 0) * (stp r 0 - stp c 0)
      unfold stp
      rw [show r.getD (0 + 1) 0 - r.getD 0 0 - (c.getD (0 + 1) 0 - c.getD 0 0) = r.getD 1 0 - c.getD 1 0 by grind, Rat.zero_add]
      exact Rat.le_refl
    | succ m ih =>
      intro h
      have a := ih (by omega)
      show _ ≤ sumTo (fun k => g (stp c k) * (stp r k - stp c k)) (m + 1) + g (stp c (m + 1)) * (stp r (m + 1) - stp c (m + 1))
      have e : stp r (m + 1) - stp c (m + 1) = (r.getD (m + 1 + 1) 0 - c.getD (m + 1 + 1) 0) - (r.getD (m + 1) 0 - c.getD (m + 1) 0) := by unfold stp; grind
      rw [e]
      have b : g (stp c (m + 1)) * (r.getD (m + 1) 0 - c.getD (m + 1) 0) ≤ g (stp c m) * (r.getD (m + 1) 0 - c.getD (m + 1) 0) := by
        by_cases c1 : stp c m < stp c (m + 1)
        · have x := T.upS (k := m) (by omega) c1
          have y := (R.inn (m + 1) (by omega)).2
          have u := mono _ _ (Rat.le_of_lt c1)
          have v : 0 ≤ (g (stp c (m + 1)) - g (stp c m)) * (c.getD (m + 1) 0 - r.getD (m + 1) 0) := Rat.mul_nonneg (by grind) (by grind)
          grind
        · by_cases c2 : stp c (m + 1) < stp c m
          · have x := T.downS (k := m) (by omega) c2
            have y := (R.inn (m + 1) (by omega)).1
            have u := mono _ _ (Rat.le_of_lt c2)
            have v : 0 ≤ (g (stp c m) - g (stp c (m + 1))) * (r.getD (m + 1) 0 - c.getD (m + 1) 0) := Rat.mul_nonneg (by grind) (by grind)
            grind
          · have : stp c m = stp c (m + 1) := Rat.le_antisymm (Rat.not_lt.mp c2) (Rat.not_lt.mp c1)
            rw [this]
            exact Rat.le_refl
      generalize sumTo (fun k => g (stp c k) * (stp r k - stp c k)) (m + 1) = S at *
      grind
  by_cases h : t.length - 1 = 0
  · rw [h]; exact Rat.le_refl
  · have := key (t.length - 2) (by omega)
    rw [show t.length - 2 + 1 = t.length - 1 by omega, hn] at this
    refine Rat.le_trans ?_ this
    rw [show r.getD (t.length - 1) 0 - r.getD (t.length - 1) 0 = 0 by grind, Rat.mul_zero]
    exact Rat.le_refl
theorem least (T : Taut t c) (R : Wi t r) (h0 : c.getD 0 0 = r.getD 0 0) (hn : c.getD (t.length - 1) 0 = r.getD (t.length - 1) 0) (φ g : Rat → Rat) (mono : ∀ x y, x ≤ y → g x ≤ g y) (sub : ∀ x y, φ x + g x * (y - x) ≤ φ y) : sumTo (fun k => φ (stp c k)) (t.length - 1) ≤ sumTo (fun k => φ (stp r k)) (t.length - 1) := by
  have a := weigh T R h0 hn g mono
  have b := sumTo_le (m := t.length - 1) fun k _ => sub (stp c k) (stp r k)
  rw [sumTo_add (f := fun k => φ (stp c k)) (g := fun k => g (stp c k) * (stp r k - stp c k))] at b
  grind
end
end Rf.C
namespace Rf.Lib
open PySem
open C
section
variable {ρ : Rho} {Q : T → Rho → Prop} {E : W → Rho → Prop}
theorem Wx_num {e : Ex} (h : Wm (ev e) ρ (fun t ρ1 => Wm (sh t) ρ1 (fun w ρ2 => Wint w fun i => Q (.val (wq (i : Rat))) ρ2) E) E) : Wm (ev (.tup [e, .con (.int 1)])) ρ Q E := by
  refine Wx_tup (Wxs_cons (Wm_imp h (fun t ρ1 h => Wm_imp h (fun w ρ2 h => ?_) fun _ _ h => h) fun _ _ h => h))
  unfold Wint at h
  split at h
  · exact Wxs_cons (Wx_con (Wsh_val rfl (Wxs_nil h)))
  · exact h.elim
theorem Wx_tup0 (h : Q (.val (wq 0)) ρ) : Wm (ev (.tup [.con (.int 0), .con (.int 1)])) ρ Q E := Wx_tup (Wxs_cons (Wx_con (Wsh_val rfl (Wxs_cons (Wx_con (Wsh_val rfl (Wxs_nil h)))))))
end
theorem not_dec_self {α : Type} [DecidableEq α] (a : α) : (!decide (a = a)) = false := by rw [decide_eq_true rfl]; rfl
local macro_rules | `(tactic| kt_at_method) => `(tactic| with_reducible refine Wx_num ?_)
local macro_rules | `(tactic| kt_at_method) => `(tactic| with_reducible refine Wx_tup0 ?_)
local macro_rules | `(tactic| kt_at_method) => `(tactic| with_reducible refine Wc_1 ?_)
local macro_rules | `(tactic| k_caught0) => `(tactic| ((with_reducible refine qb_divInt (k := 64) ?_ ?_ ?_); omega; omega; omega))
local macro_rules | `(tactic| k_caught0) => `(tactic| with_reducible exact qb_zero (k := 1) (by decide))
local macro_rules | `(tactic| wtm_at "ff") => `(tactic| with_reducible exact not_dec_self _)
local macro_rules | `(tactic| kt_at_get) => `(tactic| ((with_reducible show Wo (wIx (W.lst _ _) (W.int (OfNat.ofNat _))) _); with_reducible refine Wo_eq (by with_unfolding_all rfl) ?_))
section
variable {Q E : W → List W → Prop} {cs xs : List String} {ds : List Rat} {r : Rat}
structure NR (ds : List Rat) (r : Rat) : Prop where
  one : 1 ≤ ds.length
  most : ds.length ≤ 24
  dn : ∀ d ∈ ds, 0 ≤ d
  qd : ∀ d ∈ ds, qb 31 d
  rn : 0 ≤ r
  qr : qb 31 r
def storeQ0 (ds : List Rat) (r : Rat) (n : Nat) : List (Rat × Rat) := (List.range (n + 1)).map fun k => if k = 0 then (0, 0) else ((ds.take k).sum, (ds.take k).sum + r)
def storeQ (ds : List Rat) (r : Rat) : List (Rat × Rat) := storeQ0 ds r (ds.length - 1) ++ [(ds.sum, ds.sum)]
theorem storeQ0_len (ds : List Rat) (p : Rat) (n : Nat) : (storeQ0 ds p n).length = n + 1 := by simp [storeQ0]
theorem storeQ_len (h1 : 1 ≤ ds.length) : (storeQ ds r).length = ds.length + 1 := by
  unfold storeQ
  rw [List.length_append, storeQ0_len]
  simp; omega
theorem NR.tube (N : NR ds r) : Tube (storeQ ds r) where
  two := by rw [storeQ_len N.one]; have := N.one; omega
  most := by rw [storeQ_len N.one]; have := N.most; omega
  up := fun x hx => by
    have rn := N.rn
    unfold storeQ at hx
    rcases List.mem_append.mp hx with hx | hx
    · simp only [storeQ0, List.mem_map, List.mem_range] at hx
      obtain ⟨k, hk, rfl⟩ := hx
      split
      · exact Rat.le_refl
      · show (ds.take k).sum ≤ (ds.take k).sum + r
        grind
    · rw [List.mem_singleton.mp hx]; exact Rat.le_refl
end

end Rf.Lib
local macro_rules | `(tactic| kt_at_method) => `(tactic| with_reducible refine Wx_num ?_)
local macro_rules | `(tactic| kt_at_method) => `(tactic| with_reducible refine Wx_tup0 ?_)
local macro_rules | `(tactic| kt_at_method) => `(tactic| with_reducible refine Wc_1 ?_)
local macro_rules | `(tactic| k_caught0) => `(tactic| ((with_reducible refine qb_divInt (k := 64) ?_ ?_ ?_); omega; omega; omega))
local macro_rules | `(tactic| k_caught0) => `(tactic| with_reducible exact qb_zero (k := 1) (by decide))
local macro_rules | `(tactic| wtm_at "ff") => `(tactic| with_reducible exact not_dec_self _)
local macro_rules | `(tactic| kt_at_get) => `(tactic| ((with_reducible show Wo (wIx (W.lst _ _) (W.int (OfNat.ofNat _))) _); with_reducible refine Wo_eq (by with_unfolding_all rfl) ?_))
namespace Rf.Lib
open PySem
open C
abbrev Jb := Int × Int × Rat
def jd (js : List Jb) (k : Nat) : Jb := js.getD k (0, 0, 0)
structure Jobs (js : List Jb) : Prop where
  one : 1 ≤ js.length
  most : js.length ≤ 12
  ok : ∀ k, k < js.length → 0 ≤ (jd js k).1 ∧ (jd js k).1 < (jd js k).2.1 ∧ (jd js k).2.1 ≤ 24 ∧ 0 < (jd js k).2.2 ∧ qb 31 (jd js k).2.2
  mono : ∀ k, k + 1 < js.length → (jd js k).1 ≤ (jd js (k + 1)).1 ∧ (jd js k).2.1 ≤ (jd js (k + 1)).2.1
theorem jd_mem {js : List Jb} {j : Jb} (h : j ∈ js) : ∃ k, k < js.length ∧ j = jd js k := by
  obtain ⟨k, hk⟩ := List.mem_iff_getElem?.mp h
  exact ⟨k, (List.getElem?_eq_some_iff.mp hk).1, by simp [jd, List.getD, hk]⟩
theorem Jobs.mem {js : List Jb} (J : Jobs js) {j : Jb} (h : j ∈ js) : 0 ≤ j.1 ∧ j.1 < j.2.1 ∧ j.2.1 ≤ 24 ∧ 0 < j.2.2 ∧ qb 31 j.2.2 := by
  obtain ⟨k, hk, rfl⟩ := jd_mem h
  exact J.ok k hk
theorem Jobs.up {js : List Jb} (J : Jobs js) : ∀ (n k : Nat), k + n < js.length → (jd js k).2.1 ≤ (jd js (k + n)).2.1
  | 0, k, h => Int.le_refl _
  | n + 1, k, h => Int.le_trans (J.up n k (by omega)) (J.mono (k + n) (by omega)).2
def dueT (h : Int) (j : Jb) : Rat := if j.2.1 ≤ h then j.2.2 else 0
def comeT (h : Int) (j : Jb) : Rat := if j.1 < h then j.2.2 else 0
section
variable {js : List Jb}
theorem Jobs.qd (J : Jobs js) (h : Int) : ∀ j ∈ js, qb 31 (dueT h j) := fun j hj => by
  unfold dueT
  split
  · exact (J.mem hj).2.2.2.2
  · exact qb_zero (by decide)
theorem Jobs.qc (J : Jobs js) (h : Int) : ∀ j ∈ js, qb 31 (comeT h j) := fun j hj => by
  unfold comeT
  split
  · exact (J.mem hj).2.2.2.2
  · exact qb_zero (by decide)
end
section
variable {Q E : W → List W → Prop} {cs xs : List String} {js : List Jb}
end

end Rf.Lib
namespace Rf.Lib
open PySem
open C
section
variable {Q E : W → List W → Prop} {cs xs : List String} {r : List Rat} {t : List (Rat × Rat)}
end

end Rf.Lib
namespace Rf.C
open Rf.Lib
section
variable {ds es : List Rat} {p q : Rat}
def rabs (q : Rat) : Rat := if q < 0 then -q else q
end
end Rf.C

namespace Rf.Lib
open PySem
open C
section
variable {as bs qs : List Rat} {q : Rat} {Q : W → Prop}
end

end Rf.Lib
local macro_rules | `(tactic| kt_at_method) => `(tactic| ((with_reducible show Wo _ _); wtm_at "g27"))

namespace Rf.Lib
open PySem
open C
def GR (D B : Nat) (r : List Rat) : Prop := ∀ x ∈ r, gr D x ∧ ab B x
theorem gr_neg {D : Nat} {x : Rat} (h : gr D x) : gr D (-x) := by
  have := gr_sub (gr_zero (D := D)) h
  rwa [show (0 : Rat) - x = -x by grind] at this
theorem ab_neg {B : Nat} {x : Rat} (h : ab B x) : ab B (-x) := by unfold ab at *; constructor <;> grind
theorem ab_zero {B : Nat} : ab B 0 := by
  have : (0 : Rat) ≤ (B : Rat) := by exact_mod_cast Nat.zero_le B
  unfold ab; constructor <;> grind
theorem gr_rabs {D : Nat} {x : Rat} (h : gr D x) : gr D (rabs x) := by unfold rabs; split; exact gr_neg h; exact h
theorem ab_rabs {B : Nat} {x : Rat} (h : ab B x) : ab B (rabs x) := by unfold rabs; split; exact ab_neg h; exact h
theorem GR_getD {D B : Nat} {r : List Rat} (h : GR D B r) (k : Nat) : gr D (r.getD k 0) ∧ ab B (r.getD k 0) := by
  by_cases c : k < r.length
  · refine h _ ?_
    rw [show r.getD k 0 = r[k] by simp [List.getD, c]]
    exact List.getElem_mem c
  · rw [show r.getD k 0 = 0 by rw [List.getD, List.getElem?_eq_none (by omega)]; rfl]
    exact ⟨gr_zero, ab_zero⟩
theorem GR_sum {D B : Nat} : ∀ {r : List Rat}, GR D B r → gr D r.sum ∧ ab (r.length * B) r.sum
  | [], _ => ⟨gr_zero, ab_zero⟩
  | x :: r, h => by
    have a := h x (List.mem_cons_self ..)
    have b := GR_sum (r := r) fun y hy => h y (List.mem_cons_of_mem _ hy)
    rw [List.sum_cons, List.length_cons, Nat.succ_mul, Nat.add_comm]
    exact ⟨gr_add a.1 b.1, ab_add a.2 b.2⟩
theorem GR_take {D B n : Nat} {r : List Rat} (h : GR D B r) (hn : r.length ≤ n) (k : Nat) : gr D (r.take k).sum ∧ ab (n * B) (r.take k).sum := by
  have := GR_sum (r := r.take k) fun x hx => h x (List.mem_of_mem_take hx)
  refine ⟨this.1, ab_mono this.2 (Nat.mul_le_mul_right _ ?_)⟩
  rw [List.length_take]; omega
theorem GR_mono {D B E C : Nat} {r : List Rat} (h : GR D B r) (d : D ∣ E) (b : B ≤ C) : GR E C r := fun x hx => ⟨gr_dvd (h x hx).1 d, ab_mono (h x hx).2 b⟩
theorem GR_qb {D B k : Nat} {r : List Rat} (h : GR D B r) (hD : 0 < D) (hB : 0 < B) (hk : B * D < 2 ^ k) : ∀ x ∈ r, qb k x := fun x hx => gr_qb (h x hx).1 (h x hx).2 hD hB hk
end Rf.Lib
namespace Rf.Lib
open PySem
open C
section
variable {ts us t : List (Rat × Rat)} {Q : W → Prop}
end
section
variable {Q E : W → List W → Prop} {t : List (Rat × Rat)}
end

end Rf.Lib
local macro_rules | `(tactic| kt_at_method) => `(tactic| ((with_reducible show Wo _ _); wtm_at "g28"))
local macro_rules | `(tactic| kt_at_method) => `(tactic| ((with_reducible show Wo _ _); wtm_at "g29"))


namespace Rf.Lib
open PySem
open C
section
variable {Q E : W → List W → Prop}
end

end Rf.Lib
local macro_rules | `(tactic| kt_at_method) => `(tactic| ((with_reducible show Wo _ _); wtm_at "g30"))
namespace Rf.Lib
open PySem
open C
structure CP (ds : List Rat) (p : Rat) (r : List Rat) (D : Nat) : Prop where
  dp : DP ds p
  len : r.length = ds.length
  d0 : 0 < D
  dB : D < 2 ^ 800
  gd : GR D (2 ^ 31) ds
  gr_ : GR D (2 ^ 31) r
section
variable {ds r : List Rat} {p : Rat} {D : Nat} {Q E : W → List W → Prop}
theorem CP.up (P : CP ds p r D) (k : Nat) : gr D (rabs (r.getD (k + 1) 0 - r.getD k 0)) ∧ ab (2 ^ 32) (rabs (r.getD (k + 1) 0 - r.getD k 0)) := by
  have a := GR_getD P.gr_ (k + 1)
  have b := GR_getD P.gr_ k
  exact ⟨gr_rabs (gr_sub a.1 b.1), ab_mono (ab_rabs (ab_sub a.2 b.2)) (by decide)⟩
end

end Rf.Lib
namespace Rf.C
open Rf.Lib
def pos (c x : Rat) : Rat := if c < x then x - c else 0
def top (L : List Rat) (k : Nat) : Rat := ((gfQ L.length L).take k).sum
section
variable {ds : List Rat} {r s : Rat}
end
end Rf.C


namespace Rf.Lib
open PySem
open C
section
variable {Q E : W → List W → Prop}
variable {ds : List Rat} {r : Rat}
end

end Rf.Lib
namespace Rf.Lib
open PySem
open C
abbrev Pt := Bool × Rat × Rat
def side : Bool → W
  | true => .str (nm "above")
  | false => .str (nm "below")
def wpt (p : Pt) : W := .tup [side p.1, wq p.2.1, wq p.2.2]
@[simp] theorem own_wpt (p : Pt) : own (wpt p) = false := rfl
@[simp] theorem frz_wpt (p : Pt) : frz (wpt p) = some (wpt p) := rfl
@[simp] theorem own_side (b : Bool) : own (side b) = false := by cases b <;> rfl
@[simp] theorem frz_side (b : Bool) : frz (side b) = some (side b) := by cases b <;> rfl
def over (p : Pt) (x : Rat) : Rat := if p.1 then x - p.2.1 else p.2.1 - x
def partW (p : Pt) (x : Rat) : Rat := if over p x < 0 then 0 else p.2.2 * over p x
structure Ms (ps : List Pt) : Prop where
  one : 1 ≤ ps.length
  most : ps.length ≤ 6
  q : ∀ p ∈ ps, qb 31 p.2.1 ∧ qb 31 p.2.2 ∧ 0 < p.2.2
section
variable {Q E : W → List W → Prop} {ps : List Pt}
def totW (ps : List Pt) (x : Rat) : Rat := (ps.map fun p => partW p x).sum
structure PD (ps : List Pt) (ds : List Rat) (G : Nat) : Prop where
  ms : Ms ps
  most : ds.length ≤ 24
  qd : ∀ d ∈ ds, qb 100 d
  g0 : 0 < G
  gB : G < 2 ^ 1500
  g : ∀ p ∈ ps, ∀ d ∈ ds, gr G (partW p d) ∧ ab (2 ^ 66) (partW p d)
theorem ltG {G a e k : Nat} (h : G < 2 ^ 1500) (ha : a ≤ 2 ^ e) (hk : e + 1500 ≤ k) : a * G < 2 ^ k := by
  have h2 : a * G < 2 ^ e * 2 ^ 1500 := Nat.lt_of_le_of_lt (Nat.mul_le_mul_right _ ha) (Nat.mul_lt_mul_of_pos_left h (Nat.two_pow_pos e))
  rw [← Nat.pow_add] at h2
  exact Nat.lt_of_lt_of_le h2 (Nat.pow_le_pow_right (by decide) hk)
variable {ds : List Rat} {G : Nat}
theorem PD.parts (P : PD ps ds G) {d : Rat} (hd : d ∈ ds) : GR G (2 ^ 66) (ps.map fun p => partW p d) := fun x hx => by
  obtain ⟨p, hp, rfl⟩ := List.mem_map.mp hx
  exact P.g p hp d hd
theorem PD.tot (P : PD ps ds G) : GR G (2 ^ 69) (ds.map (totW ps)) := fun x hx => by
  obtain ⟨d, hd, rfl⟩ := List.mem_map.mp hx
  have s := GR_sum (P.parts hd)
  rw [List.length_map] at s
  have m := P.ms.most
  exact ⟨s.1, ab_mono s.2 (Nat.le_trans (Nat.mul_le_mul_right _ m) (by decide))⟩
theorem PD.part (P : PD ps ds G) (i : Nat) : qb 1580 ((ds.take i).map (totW ps)).sum := by
  have := GR_take P.tot (n := 24) (by rw [List.length_map]; exact P.most) i
  rw [← List.map_take] at this
  exact gr_qb this.1 this.2 P.g0 (by decide) (ltG P.gB (e := 74) (by decide) (by decide))
end

end Rf.Lib


namespace Rf.Lib
open PySem
open C
section
variable {Q E : W → List W → Prop} {ps : List Pt} {qs : List Rat} {D B : Nat}
end

end Rf.Lib
namespace Rf.Lib
open PySem
open C
section
variable {Q E : W → List W → Prop} {t : List (Rat × Rat)}
end

end Rf.Lib

namespace Rf.Lib
open PySem
open C
section
variable {ρ : Rho} {E : W → Rho → Prop}
end
structure BadT (w : W) : Prop where
  ok : okb 3 w
  len : ∀ xs, w = .tup xs → xs.length < 1000000
  no : (isTube w && tiedW w) = false
section
variable {Q E : W → List W → Prop}
structure BadU (w : W) : Prop where
  ok : okb 3 w
  len : ∀ xs, w = .tup xs → xs.length < 1000000
  no : isTube w = false
theorem BadU.t {w : W} (B : BadU w) : BadT w := ⟨B.ok, B.len, by rw [B.no]; rfl⟩
end
end Rf.Lib
namespace Rf.Lib
open PySem
open C
def isSt : W → Bool
  | .str _ => true
  | _ => false
theorem isi_str {w : W} (h : ok1 w = true) : wIsi w "str" = some (isSt w) := by
  cases w <;> first | rfl | cases h
section
variable {Q E : W → List W → Prop}
end

end Rf.Lib
namespace Rf.Lib
open PySem
open C
section
variable {Q E : W → List W → Prop} {cs xs : List String}
end

end Rf.Lib

namespace Rf.Lib
open PySem
open C
section
variable {Q E : W → List W → Prop} {ps : List Pt}
end

end Rf.Lib
namespace Rf.Lib
open PySem
open C
section
variable {Q E : W → List W → Prop} {cs xs : List String}
end

end Rf.Lib
namespace Rf.Lib
open PySem
open C
section
variable {Q : W → Prop} {r : List Rat} {t : List (Rat × Rat)}
end

end Rf.Lib
namespace Rf.C
open Rf.Lib
abbrev Lv := Nat × Nat × Rat
def giv (s : List Rat) (l : Lv) : List Rat := (s.set l.1 (s.getD l.1 0 - l.2.2)).set l.2.1 ((s.set l.1 (s.getD l.1 0 - l.2.2)).getD l.2.1 0 + l.2.2)
def lets (s : List Rat) (l : Lv) : Prop := l.1 < s.length ∧ l.2.1 < s.length ∧ 0 < l.2.2 ∧ l.2.2 ≤ s.getD l.1 0 - s.getD l.2.1 0
def walkQ (s : List Rat) (ls : List Lv) : List Rat := ls.foldl giv s
def Walks : List Rat → List Lv → Prop
  | _, [] => True
  | s, l :: ls => lets s l ∧ Walks (giv s l) ls
section
variable {s w : List Rat} {l : Lv} {ls : List Lv} {n : Nat}
theorem walk_snoc : walkQ s (ls ++ [l]) = giv (walkQ s ls) l := by simp [walkQ]
theorem Walks_at : ∀ {ls : List Lv} {s : List Rat} {k : Nat}, Walks s ls → (hk : k < ls.length) → lets (walkQ s (ls.take k)) ls[k]
  | _ :: _, _, 0, h, _ => h.1
  | _ :: ls, _, k + 1, h, hk => Walks_at (ls := ls) h.2 (by simp at hk; omega)
theorem set_getD {s : List Rat} {i k : Nat} {x : Rat} (h : i < s.length) : (s.set i x).getD k 0 = if k = i then x else s.getD k 0 := by
  simp only [List.getD, List.getElem?_set]
  by_cases c : i = k
  · subst c; simp [h]
  · rw [if_neg c, if_neg (fun e => c e.symm)]
theorem lets_ne (h : lets s l) : l.1 ≠ l.2.1 := fun e => by
  have h1 := h.2.2.1
  have h2 := h.2.2.2
  rw [e] at h2
  grind
theorem giv_getD (h : lets s l) (k : Nat) : (giv s l).getD k 0 = if k = l.2.1 then s.getD l.2.1 0 + l.2.2 else if k = l.1 then s.getD l.1 0 - l.2.2 else s.getD k 0 := by
  have ne := lets_ne h
  have e1 : (s.set l.1 (s.getD l.1 0 - l.2.2)).getD l.2.1 0 = s.getD l.2.1 0 := by rw [set_getD h.1, if_neg (fun e => ne e.symm)]
  unfold giv
  rw [e1, set_getD (by rw [List.length_set]; exact h.2.1), set_getD h.1]
structure Fall (s : List Rat) (o : List Nat) : Prop where
  perm : o.Perm (List.range s.length)
  down : ∀ i j, i ≤ j → j < o.length → s.getD (o.getD j 0) 0 ≤ s.getD (o.getD i 0) 0
theorem Fall.len {o : List Nat} (F : Fall s o) : o.length = s.length := by rw [F.perm.length_eq, List.length_range]
theorem Fall.lt {o : List Nat} (F : Fall s o) {i : Nat} (h : i < s.length) : o.getD i 0 < s.length := by
  have : o.getD i 0 ∈ o := mem_getD (by rw [F.len]; exact h)
  exact List.mem_range.mp (F.perm.mem_iff.mp this)
end
end Rf.C
namespace Rf.Lib
open PySem
open C
open C
section
variable {Q E : W → List W → Prop} {cs xs : List String} {s w : List Rat} {n D B : Nat}
theorem gr_q {q : Rat} (d0 : 0 < D) (b0 : 0 < B) (bits : (B + B) * D < 2 ^ 3900) (g : gr D q) (a : ab (B + B) q) : qb 3900 q := gr_qb g a d0 (by omega) bits
structure LW (s : List Rat) (ls : List Lv) (D B : Nat) : Prop where
  d0 : 0 < D
  b0 : 0 < B
  bits : (B + B) * D < 2 ^ 3900
  one : 1 ≤ s.length
  few : s.length ≤ 24
  short : ls.length < 1000
  wk : Walks s ls
  st : ∀ k, GR D B (walkQ s (ls.take k))
theorem walk_take {ls : List Lv} {i : Nat} (hi : i < ls.length) : walkQ s (ls.take (i + 1)) = giv (walkQ s (ls.take i)) ls[i] := by
  rw [List.take_succ, List.getElem?_eq_getElem hi]
  exact walk_snoc
theorem LW.lt {ls : List Lv} (L : LW s ls D B) {i : Nat} (hi : i < ls.length) : lets (walkQ s (ls.take i)) ls[i] ∧ qb 3900 ((walkQ s (ls.take i)).getD ls[i].1 0) ∧ qb 3900 ((walkQ s (ls.take i)).getD ls[i].2.1 0) ∧ qb 3900 ls[i].2.2 ∧ qb 3900 ((walkQ s (ls.take i)).getD ls[i].1 0 - (walkQ s (ls.take i)).getD ls[i].2.1 0) ∧
    qb 3900 (((walkQ s (ls.take i)).set ls[i].1 ((walkQ s (ls.take i)).getD ls[i].1 0 - ls[i].2.2)).getD ls[i].2.1 0) := by
  have lt := Walks_at L.wk hi
  have ab2 : ∀ {q : Rat}, ab B q → ab (B + B) q := fun h => ab_mono h (by omega)
  obtain ⟨g1, b1⟩ := GR_getD (L.st i) ls[i].1
  obtain ⟨g2, b2⟩ := GR_getD (L.st i) ls[i].2.1
  obtain ⟨g3, b3⟩ := GR_getD (L.st (i + 1)) ls[i].1
  have ne := lets_ne lt
  rw [walk_take hi, giv_getD lt, if_neg ne, if_pos rfl] at g3 b3
  have e : ls[i].2.2 = (walkQ s (ls.take i)).getD ls[i].1 0 - ((walkQ s (ls.take i)).getD ls[i].1 0 - ls[i].2.2) := by grind
  refine ⟨lt, gr_q L.d0 L.b0 L.bits g1 (ab2 b1), gr_q L.d0 L.b0 L.bits g2 (ab2 b2), ?_, gr_q L.d0 L.b0 L.bits (gr_sub g1 g2) (ab_sub b1 b2), ?_⟩
  · rw [e]; exact gr_q L.d0 L.b0 L.bits (gr_sub g1 g3) (ab_sub b1 b3)
  · rw [set_getD lt.1, if_neg (fun e => ne e.symm)]; exact gr_q L.d0 L.b0 L.bits g2 (ab2 b2)
end

end Rf.Lib
namespace Rf.Lib
open PySem
open C
open C
section
variable {Q E : W → List W → Prop} {cs xs : List String} {s : List Rat} {D B : Nat}
end

end Rf.Lib

namespace Rf.Lib
open PySem
open C
open C
section
variable {Q E : W → List W → Prop} {cs xs : List String} {t : List (Rat × Rat)} {r : List Rat} {D B : Nat}
def D0 : Nat := 24 * LC
theorem D0_pos : 0 < D0 := by decide
structure RT (t : List (Rat × Rat)) (r : List Rat) : Prop where
  wi : C.Wi t r
  g : GR D0 1100 r
theorem RT.g4 {r : List Rat} (R : RT t r) : GR D0 4096 r := GR_mono R.g (Nat.dvd_refl _) (by decide)
theorem RT.q {r : List Rat} (R : RT t r) : ∀ x ∈ r, qb 60 x := GR_qb R.g D0_pos (by decide) (by decide)
end

end Rf.Lib
namespace Rf.Lib
open PySem
open C
section
variable {Q E : W → List W → Prop} {cs xs : List String}
def woq : Option Rat → W
  | none => .non
  | some q => wq q
end

end Rf.Lib
namespace Rf.Lib
open PySem
open C
section
variable {Q E : W → List W → Prop} {cs xs : List String}
end

end Rf.Lib
namespace Rf.Lib
open PySem
open C
section
variable {Q E : W → List W → Prop} {cs xs : List String}
end

end Rf.Lib
local macro_rules | `(tactic| kt_at_item) => `(tactic| ((with_reducible show Wo _ _); kt_at_get))

namespace Rf.Lib
open PySem
open C
section
variable {Q E : W → List W → Prop} {ds : List Rat}
end

end Rf.Lib
namespace Rf.Lib
open PySem
open C
section
variable {Q E : W → List W → Prop} {cs xs : List String} {ds : List Rat} {p : Rat}
end

end Rf.Lib
namespace Rf.Lib
open PySem
open C
structure CP9 (ds : List Rat) (p : Rat) (r : List Rat) (D : Nat) : Prop where
  dp : DP ds p
  len : r.length = ds.length
  d0 : 0 < D
  dB : D < 2 ^ 900
  gd : GR D (2 ^ 31) ds
  gr_ : GR D (2 ^ 31) r
section
variable {ds r : List Rat} {p : Rat} {D : Nat} {Q E : W → List W → Prop}
theorem CP9.up (P : CP9 ds p r D) (k : Nat) : gr D (rabs (r.getD (k + 1) 0 - r.getD k 0)) ∧ ab (2 ^ 32) (rabs (r.getD (k + 1) 0 - r.getD k 0)) := by
  have a := GR_getD P.gr_ (k + 1)
  have b := GR_getD P.gr_ k
  exact ⟨gr_rabs (gr_sub a.1 b.1), ab_mono (ab_rabs (ab_sub a.2 b.2)) (by decide)⟩
end

end Rf.Lib
namespace Rf.Lib
open PySem
open C
end Rf.Lib
namespace Rf.C
open Rf.Lib
def goC (SL SH LO HI : Nat → Rat) : Nat → Nat → Option Tch → Option Tch → Option Tch
  | 0, _, _, _ => none
  | n + 1, k, most, least => match crossQ most least (SL k) (SH k) with
    | some c => some c
    | none => goC SL SH LO HI n (k + 1) (upM most (SH k) k (HI k)) (upL least (SL k) k (LO k))
abbrev Tc := Nat × Rat
abbrev gC (t : List (Rat × Rat)) (a : Nat) (h : Rat) (n k : Nat) (m l : Option Tch) : Option Tch := goC (fun k => slp h a (bd t k).1 k) (fun k => slp h a (bd t k).2 k) (fun k => (bd t k).1) (fun k => (bd t k).2) n k m l
def nextC (t : List (Rat × Rat)) (c : Tc) : Option Tch := gC t c.1 c.2 (t.length - 1 - c.1) (c.1 + 1) none none
def shownQ (t : List (Rat × Rat)) (c : Tc) : Option Tc := (nextC t c).map fun x => (x.2.1, x.2.2)
def stl (t : List (Rat × Rat)) : Nat → Tc → List Tc
  | 0, _ => []
  | f + 1, c => match shownQ t c with
    | none => []
    | some u => u :: stl t f u
def lastT (ts : List Tc) : Tc := ts.getD (ts.length - 1) (0, 0)
def newT (ps : List (Rat × Rat)) (ts : List Tc) : List Tc := stl ps ps.length (lastT ts)
end Rf.C
namespace Rf.Lib
open PySem
open C
open C
section
variable {Q E : W → List W → Prop} {cs xs : List String} {ps : List (Rat × Rat)} {ts : List Tc}
def wtq (c : Tc) : W := .tup [.int (c.1 : Int), wq c.2]
def wsh : Option Tc → W
  | none => .non
  | some c => wtq c
@[simp] theorem own_wtq (c : Tc) : own (wtq c) = false := rfl
@[simp] theorem frz_wtq (c : Tc) : frz (wtq c) = some (wtq c) := rfl
@[simp] theorem own_wsh (o : Option Tc) : own (wsh o) = false := by cases o <;> rfl
@[simp] theorem frz_wsh (o : Option Tc) : frz (wsh o) = some (wsh o) := by cases o <;> rfl
end
section
variable {Q E : W → List W → Prop} {cs xs : List String} {ps : List (Rat × Rat)} {ts : List Tc}
end
section
variable {Q E : W → List W → Prop}
end

end Rf.Lib
namespace Rf.C
open Rf
def mxG : Rat → List Rat → Rat
  | m, [] => m
  | m, x :: l => mxG (if m < x then x else m) l
def mnG : Rat → List Rat → Rat
  | m, [] => m
  | m, x :: l => mnG (if x < m then x else m) l
def mxQ (l : List Rat) : Rat := mxG (l.getD 0 0) l
def mnQ (l : List Rat) : Rat := mnG (l.getD 0 0) l
section
variable {t : List (Rat × Rat)}
def tpQ (t : List (Rat × Rat)) : Rat := mxQ (t.map (·.1))
def btQ (t : List (Rat × Rat)) : Rat := mnQ (t.map (·.2))
end
end Rf.C
local macro_rules | `(tactic| kt_at_method) => `(tactic| with_reducible refine W_parF ?_)
local macro_rules | `(tactic| kt_at_method) => `(tactic| with_reducible refine Ws_parO ?_)
namespace Rf.Lib
open PySem
open C
open C
section
variable {Q E : W → List W → Prop} {cs xs : List String} {t : List (Rat × Rat)}
end
section
variable {Q E : W → List W → Prop} {qs : List Rat} {t : List (Rat × Rat)}
theorem getP {t : List (Rat × Rat)} {i : Nat} {x : W} (hx : (t.map wp)[i]? = some x) : i < t.length ∧ x = .tup [wq (bd t i).1, wq (bd t i).2] ∧ t.drop i = bd t i :: t.drop (i + 1) := by
  rw [List.getElem?_map] at hx
  rcases Nat.lt_or_ge i t.length with c | c
  · rw [List.getElem?_eq_getElem c] at hx
    cases hx
    have e : bd t i = t[i] := by unfold bd; rw [List.getD, List.getElem?_eq_getElem c]; rfl
    exact ⟨c, by rw [e]; rfl, by rw [e, List.drop_eq_getElem_cons c]⟩
  · rw [List.getElem?_eq_none c] at hx; cases hx
end
section
variable {Q E : W → List W → Prop} {cs xs : List String} {t : List (Rat × Rat)}
end
section
variable {Q E : W → List W → Prop} {t : List (Rat × Rat)} {r : List Rat}
end
section
variable {Q E : W → List W → Prop} {t : List (Rat × Rat)}
end

end Rf.Lib
namespace Rf.C
open Rf
section
variable {t p : List (Rat × Rat)} {c r : List Rat} {M : Rat}
end
section
variable {t : List (Rat × Rat)}
def hB (t : List (Rat × Rat)) (k : Nat) : Bool := decide ((bd t k).1 = tpQ t) || decide ((bd t k).2 = btQ t)
end
end Rf.C
namespace Rf.Lib
open PySem
open C
open C
section
variable {Q E : W → List W → Prop} {cs xs : List String} {t p : List (Rat × Rat)} {r : List Rat}
end
section
variable {Q E : W → List W → Prop} {cs xs : List String} {t : List (Rat × Rat)}
end

end Rf.Lib
namespace Rf.C
open Rf
section
variable {L H : Nat → Rat} {s : Rat} {a : Nat}
def StC (L H LO HI : Nat → Rat) (a k : Nat) (m l : Option Tch) : Prop :=
  (k = a + 1 ∧ m = none ∧ l = none) ∨ (a + 1 < k ∧ ∃ p q, m = some (H p, p, HI p) ∧ l = some (L q, q, LO q) ∧ a < p ∧ p < k ∧ a < q ∧ q < k ∧
    (∀ j, a < j → j < k → H p ≤ H j ∧ L j ≤ L q) ∧ (∀ j, p < j → j < k → H p < H j) ∧ (∀ j, q < j → j < k → L j < L q) ∧ L q ≤ H p)
theorem StC.step {LO HI : Nat → Rat} {k : Nat} {m l : Option Tch} (S : StC L H LO HI a k m l) (up : L k ≤ H k) (c : crossQ m l (L k) (H k) = none) : StC L H LO HI a (k + 1) (upM m (H k) k (HI k)) (upL l (L k) k (LO k)) := by
  rcases S with ⟨rfl, rfl, rfl⟩ | ⟨ak, p, q, rfl, rfl, p0, p1, q0, q1, hj, hp, hq, lh⟩
  · refine .inr ⟨by omega, a + 1, a + 1, rfl, rfl, by omega, by omega, by omega, by omega, fun j h1 h2 => ?_, fun j h1 h2 => by omega, fun j h1 h2 => by omega, up⟩
    have : j = a + 1 := by omega
    subst this
    exact ⟨Rat.le_refl, Rat.le_refl⟩
  · unfold crossQ at c
    dsimp only at c
    split at c
    · cases c
    · rename_i c1
      split at c
      · cases c
      · rename_i c2
        have lk : ∀ j, j < k + 1 → j < k ∨ j = k := fun j h => by omega
        refine .inr ⟨by omega, if H p < H k then p else k, if L k < L q then q else k, ?_, ?_, ?_, ?_, ?_, ?_, fun j h1 h2 => ?_, fun j h1 h2 => ?_, fun j h1 h2 => ?_, ?_⟩
        · unfold upM; dsimp only; split <;> rfl
        · unfold upL; dsimp only; split <;> rfl
        · split <;> omega
        · split <;> omega
        · split <;> omega
        · split <;> omega
        · rcases lk j h2 with h | rfl
          · obtain ⟨a1, a2⟩ := hj j h1 h
            constructor <;> split <;> grind
          · constructor <;> split <;> grind
        · split at h1
          · rename_i d
            rw [if_pos d]
            rcases lk j h2 with h | rfl
            · exact hp j h1 h
            · exact d
          · omega
        · split at h1
          · rename_i d
            rw [if_pos d]
            rcases lk j h2 with h | rfl
            · exact hq j h1 h
            · exact d
          · omega
        · split <;> split <;> grind
theorem StC.ak {LO HI : Nat → Rat} {k : Nat} {m l : Option Tch} (S : StC L H LO HI a k m l) : a < k := by
  rcases S with ⟨h, _, _⟩ | ⟨h, _⟩ <;> omega
end
end Rf.C
namespace Rf.Lib
open PySem
open C
open C
section
variable {Q E : W → List W → Prop} {cs xs : List String} {ps : List (Rat × Rat)} {ts : List Tc}
def stN (ps : List (Rat × Rat)) : Nat → List Tc
  | 0 => [(0, (bd ps 0).1)]
  | k + 1 => stN ps k ++ newT (ps.take (k + 2)) (stN ps k)
structure PL (ps : List (Rat × Rat)) : Prop where
  one : 1 ≤ ps.length
  most : ps.length ≤ 25
  q : ∀ p ∈ ps, qb 50 p.1 ∧ qb 50 p.2
  up : ∀ p ∈ ps, p.1 ≤ p.2
  tie : (bd ps 0).1 = (bd ps 0).2
theorem bd_take {k j : Nat} (h : k < j) : bd (ps.take j) k = bd ps k := by
  unfold bd; rw [List.getD, List.getElem?_take_of_lt h, List.getD]
theorem PL.take (P : PL ps) {k : Nat} (h : 1 ≤ k) : PL (ps.take k) := ⟨by rw [List.length_take]; have := P.one; omega, by rw [List.length_take]; have := P.most; omega, fun p hp => P.q p (List.mem_of_mem_take hp), fun p hp => P.up p (List.mem_of_mem_take hp), by rw [bd_take h]; exact P.tie⟩
end

end Rf.Lib
namespace Rf.C
section
variable {t : List (Rat × Rat)} {c r : List Rat}
structure Aff (A : Rat → Rat) (s : Rat) : Prop where
  pos : 0 < s
  lin : ∀ x y, A x - A y = (x - y) * s
theorem Aff.lt {A : Rat → Rat} {s : Rat} (F : Aff A s) {x y : Rat} : A x < A y ↔ x < y := by
  have e := F.lin y x
  have p := F.pos
  constructor
  · intro h
    refine Rat.not_le.mp fun z => ?_
    have := Rat.mul_nonneg (a := x - y) (b := s) (by grind) (Rat.le_of_lt p)
    grind
  · intro h
    have := Rat.mul_pos (a := y - x) (b := s) (by grind) p
    grind
theorem Aff.le {A : Rat → Rat} {s : Rat} (F : Aff A s) {x y : Rat} (h : x ≤ y) : A x ≤ A y := Rat.not_lt.mp fun z => by
  have := F.lt.mp z
  grind
theorem Aff.step {A : Rat → Rat} {s : Rat} (F : Aff A s) {x y z : Rat} (h : A x - A y < A z - A x) : x - y < z - x := by
  rw [F.lin, F.lin] at h
  refine Rat.not_le.mp fun q => ?_
  have := Rat.mul_le_mul_of_nonneg_right q (Rat.le_of_lt F.pos)
  grind
end
end Rf.C
namespace Rf.Lib
open PySem
open C
open C
section
variable {Q E : W → List W → Prop} {t : List (Rat × Rat)} {r : List Rat}
structure RG (t : List (Rat × Rat)) : Prop where
  three : 3 ≤ t.length
  most : t.length ≤ 24
  q : ∀ p ∈ t, qb 50 p.1 ∧ qb 50 p.2
  up : ∀ p ∈ t, p.1 ≤ p.2
theorem RG.tube (R : RG t) : Tube t := ⟨by have := R.three; omega, by have := R.most; omega, R.up⟩
end

end Rf.Lib
namespace Rf.Lib
open PySem
open C
open C
section
variable {Q E : W → List W → Prop} {ps : List Pt} {ds : List Rat} {G : Nat}
end
section
variable {Q E : W → List W → Prop}
end
section
variable {t : List (Rat × Rat)} {ps : List Pt} {ds : List Rat} {D : Nat}
end

end Rf.Lib
namespace Rf.Lib
open PySem
open C
open C
section
variable {Q E : W → List W → Prop} {cs xs : List String} {t : List (Rat × Rat)} {r : List Rat}
end

end Rf.Lib
namespace Rf.Lib
open PySem
open C
open C

section
variable {Q E : W → List W → Prop}
theorem boolsB {α : Type} (f : α → Bool) : ∀ xs : List α, bools (xs.map fun x => W.bl (f x)) = some (xs.map f)
  | [] => rfl
  | x :: xs => by
    rw [List.map_cons, List.map_cons]
    unfold bools
    rw [boolsB f xs]; rfl
theorem Wo_allB {α : Type} {f : α → Bool} {xs : List α} {Q : W → Prop} (h : Q (.bl (xs.all f))) : Wo (wBi .all [.lst true (xs.map fun x => W.bl (f x))]) Q := by
  refine Wo_eq (a := .bl (xs.all f)) ?_ h
  show (bools (xs.map fun x => W.bl (f x))).map (fun bs => W.bl (bs.all id)) = _
  rw [boolsB]
  show some (W.bl ((xs.map f).all id)) = _
  rw [List.all_map]; rfl
end
section
variable {Q E : W → List W → Prop}
end
section
variable {Q E : W → List W → Prop} {cs xs : List String}
end
section
variable {Q E : W → List W → Prop} {r : List Rat} {t : List (Rat × Rat)}
end
section
variable {Q E : W → List W → Prop} {t : List (Rat × Rat)}
end
section
variable {t : List (Rat × Rat)} {r : List Rat} {S : List (Rat × Rat) → Bool} {P : List (Rat × Rat) → List Rat → Bool}
end

end Rf.Lib
namespace Rf.Lib
open PySem
open C
open C
section
variable {Q E : W → List W → Prop} {s r : List Rat}
end
section
variable {Q E : W → List W → Prop} {s r : List Rat}
open Classical in
end
section
variable {Q E : W → List W → Prop} {cs xs : List String}
end
section
variable {Q E : W → List W → Prop} {s r : List Rat}
end
section
variable {Q E : W → List W → Prop} {s r : List Rat} {D B : Nat}
end

end Rf.Lib
local macro_rules | `(tactic| kt_at_method) => `(tactic| with_reducible refine W_parF ?_)
local macro_rules | `(tactic| kt_at_method) => `(tactic| with_reducible refine Ws_parO ?_)

namespace Rf.Lib
open PySem
open C
open C
section
variable {Q E : W → List W → Prop} {s r : List Rat}
end

end Rf.Lib
namespace Rf.Tx
open PySem
def S (l : List Nat) : Str := ⟨l.toArray⟩
@[simp] theorem S_cps (l : List Nat) : (S l).cps.toList = l := rfl
@[simp] theorem S_len (l : List Nat) : (S l).length = l.length := rfl
theorem S_inj {a b : List Nat} (h : S a = S b) : a = b := by
  have := congrArg (fun x : Str => x.cps.toList) h
  exact this
theorem S_app (a b : List Nat) : S a ++ S b = S (a ++ b) := by
  show (⟨(S a).cps ++ (S b).cps⟩ : Str) = _
  unfold S
  simp
theorem utf8_ascii {c : Char} (h : c.val.toNat < 128) : String.utf8EncodeChar c = [c.val.toUInt8] := by
  unfold String.utf8EncodeChar
  rw [if_pos (by omega)]
  rfl
theorem cps_ascii : ∀ l : List Char, (∀ c ∈ l, c.val.toNat < 128) → cpsOfBytes 0 0 (l.utf8Encode.data.toList) = l.map fun c => c.val.toNat
  | [], _ => by simp [List.utf8Encode, cpsOfBytes]
  | c :: l, h => by
    have hc := h c (List.mem_cons_self ..)
    have ih := cps_ascii l fun d hd => h d (List.mem_cons_of_mem _ hd)
    have e : (c :: l).utf8Encode.data.toList = c.val.toUInt8 :: l.utf8Encode.data.toList := by
      simp [List.utf8Encode, utf8_ascii hc]
    rw [e, List.map_cons, ← ih]
    have z : c.val.toUInt8.toNat = c.val.toNat := by
      rw [UInt32.toNat_toUInt8]
      omega
    conv => lhs; unfold cpsOfBytes
    show (if c.val.toUInt8.toNat < 128 then c.val.toUInt8.toNat :: cpsOfBytes 0 0 l.utf8Encode.data.toList else _) = _
    rw [z, if_pos hc]
theorem ofString_ascii {l : List Char} (h : ∀ c ∈ l, c.val.toNat < 128) : Str.ofString (String.ofList l) = S (l.map fun c => c.val.toNat) := by
  unfold Str.ofString S
  rw [String.toByteArray_ofList, cps_ascii l h]
def dec (n : Nat) : List Nat := if n < 10 then [48 + n] else dec (n / 10) ++ [48 + n % 10]
theorem digit_chr : ∀ d : Nat, d < 10 → (Nat.digitChar d).val.toNat = 48 + d := by decide
theorem core_dec : ∀ (f n : Nat) (ds : List Char), n < f → (Nat.toDigitsCore 10 f n ds).map (fun c => c.val.toNat) = dec n ++ ds.map fun c => c.val.toNat
  | 0, n, ds, h => absurd h (by omega)
  | f + 1, n, ds, h => by
    unfold Nat.toDigitsCore
    unfold dec
    by_cases c : n < 10
    · have e : n / 10 = 0 := by omega
      rw [if_pos c]
      dsimp only
      rw [e, if_pos rfl, List.map_cons, digit_chr _ (by omega), show n % 10 = n by omega]; rfl
    · have e : ¬ n / 10 = 0 := by omega
      rw [if_neg c]
      dsimp only
      rw [if_neg e, core_dec f (n / 10) _ (by omega), List.map_cons, digit_chr _ (by omega), List.append_assoc]; rfl
def fig (c : Nat) : Prop := 48 ≤ c ∧ c ≤ 57
instance (c : Nat) : Decidable (fig c) := inferInstanceAs (Decidable (_ ∧ _))
theorem dec_fig : ∀ (n : Nat), ∀ c ∈ dec n, fig c := by
  intro n
  induction n using Nat.strongRecOn with
  | _ n ih =>
    intro c hc
    unfold dec at hc
    split at hc
    · rw [List.mem_singleton.mp hc]; exact ⟨by omega, by omega⟩
    · rcases List.mem_append.mp hc with hc | hc
      · exact ih (n / 10) (by omega) c hc
      · rw [List.mem_singleton.mp hc]; exact ⟨by omega, by omega⟩
theorem dec_ne (n : Nat) : dec n ≠ [] := by
  unfold dec
  split <;> simp
def val (l : List Nat) : Nat := l.foldl (fun a c => a * 10 + (c - 48)) 0
theorem val_snoc (l : List Nat) (c : Nat) : val (l ++ [c]) = val l * 10 + (c - 48) := by
  unfold val
  rw [List.foldl_append]; rfl
theorem val_dec (n : Nat) : val (dec n) = n := by
  induction n using Nat.strongRecOn with
  | _ n ih =>
    unfold dec
    split
    · show (0 * 10 + (48 + n - 48)) = n
      omega
    · rw [val_snoc, ih (n / 10) (by omega)]
      omega
def plain (l : List Nat) : Prop := l ≠ [] ∧ (∀ c ∈ l, fig c) ∧ (l = [48] ∨ l.headD 48 ≠ 48)
instance (l : List Nat) : Decidable (plain l) := inferInstanceAs (Decidable (_ ∧ _))
theorem headD_app {a b : List Nat} {d : Nat} (h : a ≠ []) : (a ++ b).headD d = a.headD d := by
  cases a with
  | nil => exact absurd rfl h
  | cons x a => rfl
theorem dec_plain (n : Nat) : plain (dec n) := by
  refine ⟨dec_ne n, dec_fig n, ?_⟩
  induction n using Nat.strongRecOn with
  | _ n ih =>
    by_cases c : n < 10
    · have e : dec n = [48 + n] := by unfold dec; rw [if_pos c]
      rw [e]
      by_cases z : n = 0
      · subst z; exact .inl rfl
      · exact .inr (by show 48 + n ≠ 48; omega)
    · have e : dec n = dec (n / 10) ++ [48 + n % 10] := by conv => lhs; unfold dec; rw [if_neg c]
      rw [e]
      refine .inr ?_
      rw [headD_app (dec_ne _)]
      rcases ih (n / 10) (by omega) with h | h
      · have := congrArg val h
        rw [val_dec] at this
        have v : val [48] = 0 := rfl
        omega
      · exact h
theorem snoc_of {l : List Nat} (h : l ≠ []) : ∃ a c, l = a ++ [c] := ⟨l.dropLast, l.getLast h, (List.dropLast_concat_getLast h).symm⟩
theorem plain_dec : ∀ (k : Nat) (l : List Nat), l.length ≤ k → plain l → l = dec (val l)
  | 0, l, h, p => absurd (List.eq_nil_of_length_eq_zero (by omega)) p.1
  | k + 1, l, h, p => by
    obtain ⟨a, c, rfl⟩ := snoc_of p.1
    obtain ⟨h1, h2, h3⟩ := p
    have fc := h2 c (by simp)
    by_cases ha : a = []
    · subst ha
      have v : val ([] ++ [c]) = c - 48 := by show 0 * 10 + (c - 48) = _; omega
      rw [v]
      unfold dec
      have := fc.1
      have := fc.2
      rw [if_pos (by omega), show 48 + (c - 48) = c by omega]; rfl
    · have hh : (a ++ [c]).headD 48 ≠ 48 := by
        rcases h3 with h3 | h3
        · have := congrArg List.length h3
          rw [List.length_append] at this
          have : a.length = 0 := by simpa using this
          exact absurd (List.eq_nil_of_length_eq_zero this) ha
        · exact h3
      rw [headD_app ha] at hh
      have pa : plain a := ⟨ha, fun x hx => h2 x (List.mem_append_left _ hx), .inr hh⟩
      have la : a.length ≤ k := by rw [List.length_append] at h; simp at h; omega
      have ea := plain_dec k a la pa
      have va : val a ≠ 0 := fun z => by
        rw [z] at ea
        rw [ea] at hh
        exact hh (by unfold dec; rfl)
      have := fc.1
      have := fc.2
      rw [val_snoc]
      conv => rhs; unfold dec
      rw [if_neg (by omega), show (val a * 10 + (c - 48)) / 10 = val a by omega, show 48 + (val a * 10 + (c - 48)) % 10 = c by omega, ← ea]
def decI (z : Int) : List Nat := if z < 0 then 45 :: dec z.natAbs else dec z.natAbs
theorem chr_lt {c : Nat} (h : fig c) : c < 128 := by have := h.2; omega
theorem digits_ascii (n : Nat) : ∀ c ∈ Nat.toDigits 10 n, c.val.toNat < 128 := fun c hc => by
  have e : (Nat.toDigits 10 n).map (fun c => c.val.toNat) = dec n := by
    unfold Nat.toDigits
    rw [core_dec _ _ _ (Nat.lt_succ_self n), List.map_nil, List.append_nil]
  exact chr_lt (dec_fig n _ (by rw [← e]; exact List.mem_map.mpr ⟨c, hc, rfl⟩))
theorem digits_dec (n : Nat) : (Nat.toDigits 10 n).map (fun c => c.val.toNat) = dec n := by
  unfold Nat.toDigits
  rw [core_dec _ _ _ (Nat.lt_succ_self n), List.map_nil, List.append_nil]
theorem str_int (z : Int) : Str.ofString (toString z) = S (decI z) := by
  cases z with
  | ofNat n =>
    show Str.ofString (String.ofList (Nat.toDigits 10 n)) = _
    rw [ofString_ascii (digits_ascii n), digits_dec]
    unfold decI
    rw [if_neg (by simp)]; rfl
  | negSucc n =>
    show Str.ofString ("-" ++ String.ofList (Nat.toDigits 10 (n + 1))) = _
    have e : "-" ++ String.ofList (Nat.toDigits 10 (n + 1)) = String.ofList ('-' :: Nat.toDigits 10 (n + 1)) := by
      rw [show "-" = String.ofList ['-'] from rfl, ← String.ofList_append]; rfl
    rw [e, ofString_ascii (fun c hc => by
      rcases List.mem_cons.mp hc with rfl | hc
      · decide
      · exact digits_ascii _ c hc), List.map_cons, digits_dec]
    unfold decI
    rw [if_pos (by omega)]; rfl
end Rf.Tx
namespace Rf.Tx
open PySem
theorem seen_of {l : List Nat} (h : ∀ c ∈ l, c < 128 ∧ c ≠ 0) : numTextOf (S l) = l ∧ numSeenOf (S l) = l := by
  have e1 : numTextOf (S l) = l := by
    have : ((S l).cps.all fun x => decide (x < 128)) = true := by
      show l.toArray.all _ = true
      rw [List.all_toArray, List.all_eq_true]
      exact fun x hx => decide_eq_true (h x hx).1
    show (if ((S l).cps.all fun x => decide (x < 128)) = true then (S l).cps.toList else _) = l
    rw [if_pos this]; rfl
  refine ⟨e1, ?_⟩
  show List.takeWhile (fun x => x != 0) (numTextOf (S l)) = l
  rw [e1]
  clear e1
  induction l with
  | nil => rfl
  | cons c l ih =>
    have hc := (h c (List.mem_cons_self ..)).2
    rw [List.takeWhile_cons, if_pos (by simpa using hc), ih fun d hd => h d (List.mem_cons_of_mem _ hd)]
theorem blank_no {c : Nat} (h : fig c ∨ c = 45) : NumText.blank c = false := by
  unfold NumText.blank
  rcases h with h | rfl
  · have := h.1
    have := h.2
    have a : (c == 32) = false := by simp; omega
    have b : decide (c ≤ 13) = false := decide_eq_false (by omega)
    rw [a, b, Bool.and_false]; rfl
  · rfl
theorem drop_no {l : List Nat} (h : ∀ c ∈ l, NumText.blank c = false) : l.dropWhile NumText.blank = l := by
  cases l with
  | nil => rfl
  | cons c l => rw [List.dropWhile_cons, if_neg (by rw [h c (List.mem_cons_self ..)]; exact fun e => by cases e)]
theorem sign_fig {l : List Nat} (h : ∀ c ∈ l, fig c) : NumText.sign l = (false, l) := by
  unfold NumText.sign
  split
  · have := (h 45 (List.mem_cons_self ..)).1; omega
  · have := (h 43 (List.mem_cons_self ..)).1; omega
  · rfl
theorem step_fig : ∀ {l : List Nat}, (∀ c ∈ l, fig c) → ∀ (acc : Array Nat) (b : Bool), (l = [] → b = true) → List.foldlM (NumText.step 10) (acc, b) l = some (acc ++ (l.map fun c => c - 48).toArray, true)
  | [], _, acc, b, hb => by
    rw [hb rfl]
    show some (acc, true) = _
    simp
  | c :: l, h, acc, b, _ => by
    have hc := h c (List.mem_cons_self ..)
    have h1 := hc.1
    have h2 := hc.2
    have e : NumText.step 10 (acc, b) c = some (acc.push (c - 48), true) := by
      unfold NumText.step
      have n95 : (c == 95) = false := by simp; omega
      have dg : NumText.digit? c = some (c - 48) := by
        unfold NumText.digit?
        rw [decide_eq_true h1, decide_eq_true h2]; rfl
      rw [n95, dg]
      show (if c - 48 < 10 then some (acc.push (c - 48), true) else none) = _
      rw [if_pos (by omega)]
    rw [List.foldlM_cons, e]
    show List.foldlM (NumText.step 10) (acc.push (c - 48), true) l = _
    rw [step_fig (fun d hd => h d (List.mem_cons_of_mem _ hd)) _ true fun _ => rfl]
    simp
theorem worth_fold : ∀ (l : List Nat) (a : Nat), (l.map fun c => c - 48).foldl (fun acc d => acc * 10 + d) a = l.foldl (fun a c => a * 10 + (c - 48)) a
  | [], _ => rfl
  | c :: l, a => by rw [List.map_cons, List.foldl_cons, worth_fold l]; rfl
theorem int_any {l m : List Nat} {b : Bool} (hm : m ≠ []) (f : ∀ c ∈ m, fig c) (hl : m.length ≤ 640) (h : ∀ c ∈ l, c < 128 ∧ c ≠ 0) (bl : ∀ c ∈ l, NumText.blank c = false) (hs : NumText.sign l = (b, m)) : intText? (S l) = some (if b = true then -((val m : Nat) : Int) else ((val m : Nat) : Int)) := by
  obtain ⟨e1, e2⟩ := seen_of h
  have ec : NumText.core l = m := by
    unfold NumText.core
    rw [drop_no bl, hs]
    show (m.reverse.dropWhile NumText.blank).reverse = m
    rw [drop_no fun c hc => blank_no (.inl (f c (List.mem_reverse.mp hc))), List.reverse_reverse]
  have ed : NumText.digits? 10 m = some (m.map fun c => c - 48).toArray := by
    unfold NumText.digits?
    rw [step_fig f #[] false (fun e => absurd e hm)]
    show (if true = true then some (#[] ++ (m.map fun c => c - 48).toArray) else none) = _
    simp
  unfold intText?
  rw [e1, e2, ec, ed]
  dsimp only
  rw [if_pos (by simp), if_pos (by simp; omega), drop_no bl, hs]
  unfold NumText.worth
  have ev : (m.map fun c => c - 48).foldl (fun acc d => acc * 10 + d) 0 = val m := worth_fold m 0
  cases b <;> simp [ev]
theorem int_fig {l : List Nat} (hm : l ≠ []) (f : ∀ c ∈ l, fig c) (hl : l.length ≤ 640) : intText? (S l) = some ((val l : Nat) : Int) :=
  int_any hm f hl (fun c hc => ⟨chr_lt (f c hc), by have := (f c hc).1; omega⟩) (fun c hc => blank_no (.inl (f c hc))) (sign_fig f)
theorem int_neg {l : List Nat} (hm : l ≠ []) (f : ∀ c ∈ l, fig c) (hl : l.length ≤ 640) : intText? (S (45 :: l)) = some (-((val l : Nat) : Int)) :=
  int_any (b := true) hm f hl (fun c hc => by
    rcases List.mem_cons.mp hc with rfl | hc
    · exact ⟨by decide, by decide⟩
    · exact ⟨chr_lt (f c hc), by have := (f c hc).1; omega⟩) (fun c hc => by
    rcases List.mem_cons.mp hc with rfl | hc
    · exact blank_no (.inr rfl)
    · exact blank_no (.inl (f c hc))) rfl
def stepO (s sub : Str) (hi limit : Nat) (st : Array Nat × Nat) (i : Nat) : Array Nat × Nat :=
  if (decide (st.1.size < limit) && decide (st.2 ≤ i) && decide (i + sub.length ≤ hi) && Builtin.Str.subAt s sub i) = true then (st.1.push i, i + sub.length) else st
theorem occ_fold (s sub : Str) (hi limit : Nat) : Builtin.Str.occurrences s sub 0 hi limit = ((List.range' 0 (hi + 1)).foldl (stepO s sub hi limit) (#[], 0)).1.toList := by
  unfold Builtin.Str.occurrences
  dsimp only
  rw [Std.Legacy.Range.forIn_eq_forIn_range']
  have e : ∀ (i : Nat) (st : Array Nat × Nat), (if (decide (st.1.size < limit) && decide (st.2 ≤ i) && decide (i + sub.length ≤ hi) && Builtin.Str.subAt s sub i) = true then (pure (ForInStep.yield (st.1.push i, i + sub.length)) : Id _) else pure (ForInStep.yield (st.1, st.2))) = pure (ForInStep.yield (stepO s sub hi limit st i)) := fun i st => by
    unfold stepO
    split <;> rfl
  dsimp only
  simp only [e]
  rw [List.forIn_pure_yield_eq_foldl]
  have r : (⟨0, hi + 1, 1, by decide⟩ : Std.Legacy.Range).size = hi + 1 := by
    simp [Std.Legacy.Range.size]
  rw [r]; rfl
def atL (l p : List Nat) (i : Nat) : Bool := (l.drop i).take p.length == p
theorem sub_at (l p : List Nat) (i : Nat) : Builtin.Str.subAt (S l) (S p) i = atL l p i := by
  unfold Builtin.Str.subAt atL
  show ((S l).cps.extract i (i + p.length) == (S p).cps) = _
  have e : (S l).cps.extract i (i + p.length) = ((l.drop i).take p.length).toArray := by
    show l.toArray.extract i (i + p.length) = _
    simp [List.extract_eq_take_drop]
  rw [e]
  show (((l.drop i).take p.length).toArray == p.toArray) = _
  rw [Bool.eq_iff_iff, beq_iff_eq, beq_iff_eq]
  simp
theorem atL_len {l p : List Nat} {i : Nat} (h : atL l p i = true) (hp : p ≠ []) : i + p.length ≤ l.length := by
  have e : (l.drop i).take p.length = p := by simpa [atL] using h
  have := congrArg List.length e
  rw [List.length_take, List.length_drop] at this
  have : 0 < p.length := List.length_pos_iff.mpr hp
  omega
theorem fold_full {s sub : Str} {hi : Nat} : ∀ (is : List Nat) (st : Array Nat × Nat), 1 ≤ st.1.size → is.foldl (stepO s sub hi 1) st = st
  | [], _, _ => rfl
  | i :: is, st, h => by
    have e : stepO s sub hi 1 st i = st := by
      unfold stepO
      rw [decide_eq_false (show ¬ st.1.size < 1 by omega), Bool.false_and, Bool.false_and, Bool.false_and, if_neg (by decide)]
    rw [List.foldl_cons, e, fold_full is st h]
theorem fold_one {s sub : Str} {hi : Nat} : ∀ is : List Nat, (is.foldl (stepO s sub hi 1) (#[], 0)).1.toList = (is.find? fun i => decide (i + sub.length ≤ hi) && Builtin.Str.subAt s sub i).toList
  | [] => rfl
  | i :: is => by
    rw [List.foldl_cons, List.find?_cons]
    cases c : (decide (i + sub.length ≤ hi) && Builtin.Str.subAt s sub i) with
    | true =>
      have e : stepO s sub hi 1 (#[], 0) i = (#[i], i + sub.length) := by
        unfold stepO
        have c' : (decide ((#[] : Array Nat).size < 1) && decide (0 ≤ i) && decide (i + sub.length ≤ hi) && Builtin.Str.subAt s sub i) = true := by
          rw [Bool.and_assoc (decide ((#[] : Array Nat).size < 1) && decide (0 ≤ i)), c]
          simp
        dsimp only
        rw [if_pos c']; rfl
      rw [e, fold_full is _ (by simp)]; rfl
    | false =>
      have e : stepO s sub hi 1 (#[], 0) i = (#[], 0) := by
        unfold stepO
        have c' : (decide ((#[] : Array Nat).size < 1) && decide (0 ≤ i) && decide (i + sub.length ≤ hi) && Builtin.Str.subAt s sub i) = false := by
          rw [Bool.and_assoc (decide ((#[] : Array Nat).size < 1) && decide (0 ≤ i)), c, Bool.and_false]
        dsimp only
        rw [if_neg (by rw [c']; decide)]
      rw [e]
      exact fold_one is
theorem find_range {p : Nat → Bool} {n i : Nat} (hi : i < n) (h : p i = true) (hj : ∀ j, j < i → p j = false) : (List.range' 0 n).find? p = some i := by
  rw [List.find?_eq_some_iff_append]
  refine ⟨h, List.range' 0 i, List.range' (i + 1) (n - i - 1), ?_, fun x hx => ?_⟩
  · have e1 : List.range' 0 n = List.range' 0 i ++ List.range' i (n - i) := by
      have z := @List.range'_append_1 0 i (n - i)
      rw [Nat.zero_add] at z
      rw [z, show i + (n - i) = n by omega]
    have e2 : List.range' i (n - i) = i :: List.range' (i + 1) (n - i - 1) := by
      obtain ⟨k, hk⟩ : ∃ k, n - i = k + 1 := ⟨n - i - 1, by omega⟩
      rw [hk]; rfl
    rw [e1, e2]
  · have := List.mem_range'_1.mp hx
    simp [hj x (by omega)]
theorem part_no {l p : List Nat} (h : ∀ i, atL l p i = false) : Txt.partition (S l) (S p) = (S l, S [], S []) := by
  unfold Txt.partition
  have e : Builtin.Str.occurrences (S l) (S p) 0 (S l).length 1 = [] := by
    rw [occ_fold, fold_one]
    have : (List.range' 0 ((S l).length + 1)).find? (fun i => decide (i + (S p).length ≤ (S l).length) && Builtin.Str.subAt (S l) (S p) i) = none := by
      rw [List.find?_eq_none]
      intro x _
      rw [sub_at, h x, Bool.and_false]
      decide
    rw [this]; rfl
  rw [e]; rfl
theorem part_at {l p : List Nat} {i : Nat} (hp : p ≠ []) (h : atL l p i = true) (hj : ∀ j, j < i → atL l p j = false) : Txt.partition (S l) (S p) = (S (l.take i), S p, S (l.drop (i + p.length))) := by
  have hl := atL_len h hp
  unfold Txt.partition
  have e : Builtin.Str.occurrences (S l) (S p) 0 (S l).length 1 = [i] := by
    rw [occ_fold, fold_one]
    rw [find_range (i := i) (by rw [S_len]; have : 0 < p.length := List.length_pos_iff.mpr hp; omega) (by rw [sub_at, h, Bool.and_true, S_len, S_len]; exact decide_eq_true hl) fun j hj' => by rw [sub_at, hj j hj', Bool.and_false]]
    rfl
  rw [e]
  have s1 : Builtin.Str.strSub (S l) 0 i = S (l.take i) := by
    show (⟨l.toArray.extract 0 i⟩ : Str) = ⟨(l.take i).toArray⟩
    simp [List.extract_eq_take_drop]
  have s2 : Builtin.Str.strSub (S l) (i + (S p).length) (S l).length = S (l.drop (i + p.length)) := by
    show (⟨l.toArray.extract (i + p.length) l.length⟩ : Str) = ⟨(l.drop (i + p.length)).toArray⟩
    simp [List.extract_eq_take_drop]
    exact List.take_of_length_le (by rw [List.length_drop]; omega)
  show (Builtin.Str.strSub (S l) 0 i, S p, Builtin.Str.strSub (S l) (i + (S p).length) (S l).length) = _
  rw [s1, s2]
theorem at_one {l : List Nat} {c i : Nat} : atL l [c] i = decide (l[i]? = some c) := by
  unfold atL
  rw [Bool.eq_iff_iff, beq_iff_eq, decide_eq_true_eq]
  show (l.drop i).take 1 = [c] ↔ _
  rw [← List.head?_drop]
  cases l.drop i with
  | nil => simp
  | cons x r => simp
theorem part1_no {l : List Nat} {c : Nat} (h : c ∉ l) : Txt.partition (S l) (S [c]) = (S l, S [], S []) :=
  part_no fun i => by
    rw [at_one]
    exact decide_eq_false fun e => h (List.mem_of_getElem? e)
theorem part1_at {a b : List Nat} {c : Nat} (h : c ∉ a) : Txt.partition (S (a ++ c :: b)) (S [c]) = (S a, S [c], S b) := by
  rw [part_at (l := a ++ c :: b) (p := [c]) (i := a.length) (by simp) (by rw [at_one]; simp) fun j hj => by
    rw [at_one, List.getElem?_append_left hj]
    exact decide_eq_false fun e => h (List.mem_of_getElem? e)]
  have e1 : (a ++ c :: b).take a.length = a := by simp
  have e2 : (a ++ c :: b).drop (a.length + [c].length) = b := by simp
  rw [e1, e2]
end Rf.Tx
namespace Rf.Lib
open PySem
open C
noncomputable def b_show_number : List St := [
  (.ite (.cmp (.ix (.var 0) (.con (.int 1))) [.eq] [(.con (.int 1))]) [(.ret (.bi .str [(.ix (.var 0) (.con (.int 0)))]))] []),
  (.ret (.bin .add (.bin .add (.bi .str [(.ix (.var 0) (.con (.int 0)))]) (.con (.str (nm "/")))) (.bi .str [(.ix (.var 0) (.con (.int 1)))])))]
noncomputable def F_show_number : Fn := runFn 1 1 b_show_number
theorem R_show_number {x0 : W} {Q E : W → List W → Prop} (h : Wm (fzS []) [some x0] (fun _ ρ1 => Wm (execs 1 b_show_number) ρ1 (fun f ρ2 => Wend f fun w => Wout [] ρ2 [x0] fun os => Q w os) (fun w ρ2 => Wout [] ρ2 [x0] fun os => E w os)) nE) : Wf F_show_number [x0] Q E := Wf_run rfl rfl rfl rfl h
noncomputable def b_are_figures : List St := [
  (.ite (.or (.cmp (.var 0) [.eq] [(.con (.str (nm "")))]) (.nt (.bi .all [(.lc (.cmp (.var 1) [.isin] [(.con (.str (nm "0123456789")))]) (.nm 1) (.of (.var 0)) none [1])]))) [(.ret (.con (.bl false)))] []),
  (.ret (.or (.cmp (.var 0) [.eq] [(.con (.str (nm "0")))]) (.cmp (.ix (.var 0) (.con (.int 0))) [.ne] [(.con (.str (nm "0")))])))]
noncomputable def F_are_figures : Fn := runFn 1 2 b_are_figures
theorem R_are_figures {x0 : W} {Q E : W → List W → Prop} (h : Wm (fzS []) [some x0, none] (fun _ ρ1 => Wm (execs 1 b_are_figures) ρ1 (fun f ρ2 => Wend f fun w => Wout [] ρ2 [x0] fun os => Q w os) (fun w ρ2 => Wout [] ρ2 [x0] fun os => E w os)) nE) : Wf F_are_figures [x0] Q E := Wf_run rfl rfl rfl rfl h
noncomputable def b_number_in : List St := [
  (.mul [(.nm 1), (.nm 2), (.nm 3)] (.tx1 (.var 0) .partition (.con (.str (nm "/"))))),
  (.asg (.nm 4) (.var 1)),
  (.ite (.cmp (.sl (.var 1) none (some (.con (.int 1)))) [.eq] [(.con (.str (nm "-")))]) [(.asg (.nm 4) (.sl (.var 1) (some (.con (.int 1))) none))] []),
  (.ite (.or (.nt (.call F_are_figures [(.var 4)])) (.cmp (.var 1) [.eq] [(.con (.str (nm "-0")))])) [(.ret (.con .non))] []),
  (.ite (.cmp (.var 2) [.eq] [(.con (.str (nm "")))]) [(.ret (.tup [(.bi .int [(.var 1)]), (.con (.int 1))]))] []),
  (.ite (.or (.nt (.call F_are_figures [(.var 3)])) (.or (.cmp (.var 3) [.eq] [(.con (.str (nm "1")))]) (.nt (.call F_is_number [(.tup [(.bi .int [(.var 1)]), (.bi .int [(.var 3)])])])))) [(.ret (.con .non))] []),
  (.ret (.tup [(.bi .int [(.var 1)]), (.bi .int [(.var 3)])]))]
noncomputable def F_number_in : Fn := runFn 1 5 b_number_in
theorem R_number_in {x0 : W} {Q E : W → List W → Prop} (h : Wm (fzS []) [some x0, none, none, none, none] (fun _ ρ1 => Wm (execs 1 b_number_in) ρ1 (fun f ρ2 => Wend f fun w => Wout [1, 2, 3, 4, 4] ρ2 [x0] fun os => Q w os) (fun w ρ2 => Wout [1, 2, 3, 4, 4] ρ2 [x0] fun os => E w os)) nE) : Wf F_number_in [x0] Q E := Wf_run rfl rfl rfl rfl h
noncomputable def b_read_number : List St := [
  (.ite (.nt (.isi (.var 0) "str")) [(.rse "NoText" [("part", (.con .non))])] []),
  (.asg (.nm 1) (.call F_number_in [(.var 0)])),
  (.ite (.cmp (.var 1) [.is] [(.con .non)]) [(.rse "NoText" [("part", (.con .non))])] []),
  (.ret (.var 1))]
noncomputable def F_read_number : Fn := runFn 1 2 b_read_number
theorem R_read_number {x0 : W} {Q E : W → List W → Prop} (h : Wm (fzS []) [some x0, none] (fun _ ρ1 => Wm (execs 1 b_read_number) ρ1 (fun f ρ2 => Wend f fun w => Wout [1] ρ2 [x0] fun os => Q w os) (fun w ρ2 => Wout [1] ρ2 [x0] fun os => E w os)) nE) : Wf F_read_number [x0] Q E := Wf_run rfl rfl rfl rfl h
open C
section
variable {Q E : W → List W → Prop} {l a b : List Nat} {q : Rat}
open Rf.Tx
def okT (l : List Nat) : Prop := (∀ c ∈ l, c < 1114112) ∧ l.length ≤ 600
theorem nm_slash : nm "/" = S [47] := by decide +kernel
theorem nm_none : nm "" = S [] := by decide +kernel
theorem nm_minus : nm "-" = S [45] := by decide +kernel
theorem nm_0 : nm "0" = S [48] := by decide +kernel
theorem nm_1 : nm "1" = S [49] := by decide +kernel
theorem nm_m0 : nm "-0" = S [45, 48] := by decide +kernel
theorem nm_figs : nm "0123456789" = S [48, 49, 50, 51, 52, 53, 54, 55, 56, 57] := by decide +kernel
theorem dat_S {n : Nat} {l : List Nat} (h : ∀ c ∈ l, c < 1114112) : dat n (.str (S l)) = true := by
  have e : ((S l).cps.all fun x => decide (x < 0x110000)) = true := by
    show l.toArray.all _ = true
    rw [List.all_toArray, List.all_eq_true]
    exact fun x hx => decide_eq_true (h x hx)
  cases n <;> exact e
theorem S_beq {a b : List Nat} : (S a == S b) = decide (a = b) := by
  rw [Bool.eq_iff_iff, beq_iff_eq, decide_eq_true_eq]
  exact ⟨S_inj, fun e => by rw [e]⟩
theorem eq_S {a b : List Nat} (ha : ∀ c ∈ a, c < 1114112) (hb : ∀ c ∈ b, c < 1114112) : wCmp .eq (.str (S a)) (.str (S b)) = some (.bl (decide (a = b))) := by
  show (if dat 30 (.str (S a)) && dat 30 (.str (S b)) then some (W.bl (weq (.str (S a)) (.str (S b)))) else _) = _
  rw [dat_S ha, dat_S hb, weq, S_beq]; rfl
theorem ne_S {a b : List Nat} (ha : ∀ c ∈ a, c < 1114112) (hb : ∀ c ∈ b, c < 1114112) : wCmp .ne (.str (S a)) (.str (S b)) = some (.bl (!decide (a = b))) := by
  show (if dat 30 (.str (S a)) && dat 30 (.str (S b)) then some (W.bl (!weq (.str (S a)) (.str (S b)))) else none) = _
  rw [dat_S ha, dat_S hb, weq, S_beq]; rfl
theorem Wo_eq_S {a b : List Nat} {Q : W → Prop} (ha : ∀ c ∈ a, c < 1114112) (hb : ∀ c ∈ b, c < 1114112) (h : Q (.bl (decide (a = b)))) : Wo (wCmp .eq (.str (S a)) (.str (S b))) Q := Wo_eq (eq_S ha hb) h
theorem Wo_ne_S {a b : List Nat} {Q : W → Prop} (ha : ∀ c ∈ a, c < 1114112) (hb : ∀ c ∈ b, c < 1114112) (h : Q (.bl (!decide (a = b)))) : Wo (wCmp .ne (.str (S a)) (.str (S b))) Q := Wo_eq (ne_S ha hb) h
theorem Wo_add_S {a b : List Nat} {Q : W → Prop} (hl : a.length + b.length < 1000000) (h : Q (.str (S (a ++ b)))) : Wo (wBin .add (.str (S a)) (.str (S b))) Q :=
  Wo_eq (by show (if (S a).length + (S b).length < 1000000 then some (W.str (S a ++ S b)) else none) = _; rw [S_len, S_len, if_pos hl, S_app]) h
theorem Wo_str_i {z : Int} {Q : W → Prop} (hl : z.natAbs.log2 < 1900) (h : Q (.str (S (decI z)))) : Wo (wBi .str [.int z]) Q :=
  Wo_eq (by show (if z.natAbs.log2 < 1900 then some (W.str (Str.ofString (toString z))) else none) = _; rw [if_pos hl, str_int]) h
theorem Wo_int_S {z : Int} {Q : W → Prop} (hl : l.length ≤ 640) (e : intText? (S l) = some z) (h : Q (.int z)) : Wo (wBi .int [.str (S l)]) Q :=
  Wo_eq (by show (if (S l).length ≤ 640 then (intText? (S l)).map W.int else none) = _; rw [S_len, if_pos hl, e]; rfl) h
theorem Wo_of_S {Q : List W → Prop} (h : Q (l.map fun c => .str ⟨#[c]⟩)) : Wo (wOf (.str (S l))) Q := h
theorem Wo_in_S {c : Nat} {Q : W → Prop} (h : Q (.bl (decide (c ∈ l)))) : Wo (wCmp .isin (.str ⟨#[c]⟩) (.str (S l))) Q := h
theorem Wo_ix_T {i : Nat} {Q : W → Prop} (hl : l.length < 1000000) (hi : i < l.length) (h : Q (.str (S [l.getD i 0]))) : Wo (wIx (.str (S l)) (.int (i : Int))) Q := by
  refine Wo_eq (a := .str (S [l.getD i 0])) ?_ h
  show (if (S l).length < 1000000 then (atI l (i : Int)).map (fun c => W.str ⟨#[c]⟩) else none) = _
  rw [S_len, if_pos hl, atI_nat hi]
  show some (W.str (S [l[i]])) = _
  rw [List.getD, List.getElem?_eq_getElem hi]; rfl
theorem Wo_sl_S {lo hi : Option Int} {Q : W → Prop} (hl : l.length < 1000000) (h : Q (.str (S (cut l lo hi)))) : Wo (wSl (.str (S l)) lo hi) Q :=
  Wo_eq (by show (if (S l).length < 1000000 then some (W.str ⟨(cut l lo hi).toArray⟩) else none) = _; rw [S_len, if_pos hl]; rfl) h
theorem Wo_part_no {c : Nat} {Q : W → Prop} (hl : l.length < 1000000) (hc : c ∉ l) (h : Q (.tup [.str (S l), .str (S []), .str (S [])])) : Wo (wTx1 .partition (.str (S l)) (.str (S [c]))) Q :=
  Wo_eq (by
    show (if (S [c]).length ≠ 0 ∧ (S l).length < 1000000 then some (W.tup [.str (Txt.partition (S l) (S [c])).1, .str (Txt.partition (S l) (S [c])).2.1, .str (Txt.partition (S l) (S [c])).2.2]) else none) = _
    rw [if_pos ⟨by simp, by rw [S_len]; exact hl⟩, part1_no hc]) h
theorem Wo_part_at {c : Nat} {Q : W → Prop} (hl : (a ++ c :: b).length < 1000000) (hc : c ∉ a) (h : Q (.tup [.str (S a), .str (S [c]), .str (S b)])) : Wo (wTx1 .partition (.str (S (a ++ c :: b))) (.str (S [c]))) Q :=
  Wo_eq (by
    show (if (S [c]).length ≠ 0 ∧ (S (a ++ c :: b)).length < 1000000 then some (W.tup [.str (Txt.partition (S (a ++ c :: b)) (S [c])).1, .str (Txt.partition (S (a ++ c :: b)) (S [c])).2.1, .str (Txt.partition (S (a ++ c :: b)) (S [c])).2.2]) else none) = _
    rw [if_pos ⟨by simp, by rw [S_len]; exact hl⟩, part1_at hc]) h
theorem Wi_str {x : Str} {T : String} {Q : Bool → Prop} (h : Q (T == "str")) : Wo (wIsi (.str x) T) Q := Wo_eq rfl h
local macro_rules | `(tactic| kt_at_method) => `(tactic| with_reducible refine W_recvS (by with_unfolding_all rfl) ?_)
local macro_rules | `(tactic| kt_at_method) => `(tactic| with_reducible refine Wx_tx1 ?_)
local macro_rules | `(tactic| kt_at_method) => `(tactic| with_reducible refine Wx_tx0 ?_)
local macro_rules | `(tactic| kt_at_method) => `(tactic| ((with_reducible refine Wo_ne_S ?_ ?_ ?_); (first | assumption | decide); (first | assumption | decide)))
local macro_rules | `(tactic| kt_at_method) => `(tactic| ((with_reducible refine Wo_eq_S ?_ ?_ ?_); (first | assumption | decide); (first | assumption | decide)))
local macro_rules | `(tactic| kt_at_method) => `(tactic| ((with_reducible refine Wo_sl_S ?_ ?_); omega))
local macro_rules | `(tactic| kt_at_method) => `(tactic| with_reducible refine Wo_in_S ?_)
local macro_rules | `(tactic| kt_at_method) => `(tactic| with_reducible refine Wo_of_S ?_)
local macro_rules | `(tactic| kt_at_method) => `(tactic| ((with_reducible refine Wo_str_i ?_ ?_); with_reducible assumption))
local macro_rules | `(tactic| kt_at_method) => `(tactic| ((with_reducible refine Wo_add_S ?_ ?_); (focus (simp; omega))))
def decQ (q : Rat) : List Nat := if q.den = 1 then decI q.num else decI q.num ++ 47 :: dec q.den
theorem W_show_number (hq : q.num.natAbs.log2 < 1800) (hd : (q.den : Int).natAbs.log2 < 1800) (l1 : (decI q.num).length ≤ 1000) (l2 : (dec q.den).length ≤ 1000) (hQ : Q (.str (S (decQ q))) [wq q]) : Wf F_show_number [wq q] Q E := by
  have hq' : q.num.natAbs.log2 < 1900 := by omega
  have hd' : (q.den : Int).natAbs.log2 < 1900 := by omega
  have ed : decI (q.den : Int) = dec q.den := by unfold decI; rw [if_neg (by omega)]; rfl
  have l3 : (decI (q.den : Int)).length ≤ 1000 := by rw [ed]; exact l2
  with_reducible refine R_show_number ?_
  unfold b_show_number
  rw [nm_slash]
  by_cases c : q.den = 1
  · have e : decQ q = decI q.num := if_pos c
    rw [e] at hQ
    have c' : (q.den : Int) = 1 := by omega
    walk_at "sx"
    exact hQ
  · have e : decQ q = decI q.num ++ [47] ++ decI (q.den : Int) := by
      rw [ed, List.append_assoc]; exact if_neg c
    rw [e] at hQ
    have c' : ¬ (q.den : Int) = 1 := by omega
    walk_at "sx"
    exact hQ
theorem figs_iff {c : Nat} : c ∈ [48, 49, 50, 51, 52, 53, 54, 55, 56, 57] ↔ fig c := by
  simp only [List.mem_cons, List.not_mem_nil, or_false]
  unfold fig
  omega
def figW (w : W) : W := match w with
  | .str x => .bl (decide (fig (x.cps.toList.headD 0)))
  | _ => .non
theorem W_are_figures (h : okT l) (hQ : Q (.bl (decide (plain l))) [.str (S l)]) : Wf F_are_figures [.str (S l)] Q E := by
  have h1 := h.1
  have h2 := h.2
  have ll : l.length < 1000000 := by omega
  with_reducible refine R_are_figures ?_
  unfold b_are_figures
  rw [nm_none, nm_0, nm_figs]
  by_cases c : l = []
  · rw [show decide (plain l) = false from decide_eq_false fun p => p.1 c] at hQ
    walk_at "sx"
    exact hQ
  · walk_at "sx"
    with_reducible refine Wlc_map figW ?_
    walk_at "sx"
    · have e : (l.map fun c => W.str ⟨#[c]⟩).map figW = l.map fun c => W.bl (decide (fig c)) := by rw [List.map_map]; rfl
      rw [e]
      refine Wo_allB ?_
      walk_at "sx"
      cases ca : l.all fun c => decide (fig c) with
      | false =>
        rw [show decide (plain l) = false from decide_eq_false fun p => by
          rw [List.all_eq_true.mpr (fun c hc => decide_eq_true (p.2.1 c hc))] at ca; cases ca] at hQ
        walk_at "sx"
        exact hQ
      | true =>
        have hf : ∀ c ∈ l, fig c := fun c hc => of_decide_eq_true (List.all_eq_true.mp ca c hc)
        have hi : 0 < l.length := List.length_pos_iff.mpr c
        have g0 : l.getD 0 0 = l.headD 48 := by cases l with
          | nil => exact absurd rfl c
          | cons x r => rfl
        walk_at "sx"
        by_cases c0 : l = [48]
        · rw [show decide (plain l) = true from decide_eq_true ⟨c, hf, .inl c0⟩] at hQ
          walk_at "sx"
          rw [decide_eq_true c0]
          exact hQ
        · walk_at "sx"
          refine Wo_ix_T (i := 0) ll hi ?_
          have h3 : ∀ x ∈ [l.getD 0 0], x < 1114112 := fun x hx => by
            rw [List.mem_singleton.mp hx]
            exact h1 _ (by rw [List.getD, List.getElem?_eq_getElem hi]; exact List.getElem_mem hi)
          walk_at "sx"
          have e2 : (!decide ([l.getD 0 0] = [48])) = decide (plain l) := by
            rw [g0]
            by_cases c4 : l.headD 48 = 48
            · rw [decide_eq_true (by rw [c4]), decide_eq_false (fun p : plain l => by rcases p.2.2 with z | z; exact c0 z; exact z c4)]; rfl
            · rw [decide_eq_false (fun z => c4 (by injection z)), show decide (plain l) = true from decide_eq_true ⟨c, hf, .inr c4⟩]; rfl
          rw [e2]
          exact hQ
    · intro x hx
      obtain ⟨c', hc, rfl⟩ := List.mem_map.mp hx
      walk_at "sx"
      refine ⟨?_, rfl⟩
      show W.bl (decide (c' ∈ [48, 49, 50, 51, 52, 53, 54, 55, 56, 57])) = .bl (decide (fig c'))
      congr 1
      exact decide_eq_decide.mpr figs_iff
theorem decI_in {z : Int} {c : Nat} (h : c ∈ decI z) : fig c ∨ c = 45 := by
  unfold decI at h
  split at h
  · rcases List.mem_cons.mp h with rfl | h
    · exact .inr rfl
    · exact .inl (dec_fig _ c h)
  · exact .inl (dec_fig _ c h)
theorem decI_47 {z : Int} : 47 ∉ decI z := fun h => by
  rcases decI_in h with h | h
  · have := h.1; omega
  · cases h
theorem dec_inj {a b : Nat} (h : dec a = dec b) : a = b := by
  have := congrArg val h
  rwa [val_dec, val_dec] at this
theorem dec_45 {n : Nat} {r : List Nat} : dec n ≠ 45 :: r := fun h => by
  have := dec_fig n 45 (by rw [h]; exact List.mem_cons_self ..)
  have := this.1
  omega
theorem decI_inj {a b : Int} (h : decI a = decI b) : a = b := by
  unfold decI at h
  split at h <;> split at h
  · injection h with _ h
    have := dec_inj h
    omega
  · exact absurd h.symm dec_45
  · exact absurd h dec_45
  · have := dec_inj h
    omega
theorem split_inj {a b c d : List Nat} (ha : 47 ∉ a) (hc : 47 ∉ c) (h : a ++ 47 :: b = c ++ 47 :: d) : a = c ∧ b = d := by
  induction a generalizing c with
  | nil =>
    cases c with
    | nil => injection h with _ h; exact ⟨rfl, h⟩
    | cons x c => injection h with h1 _; exact absurd (by rw [← h1]; exact List.mem_cons_self ..) hc
  | cons x a ih =>
    cases c with
    | nil => injection h with h1 _; exact absurd (by rw [h1]; exact List.mem_cons_self ..) ha
    | cons y c =>
      injection h with h1 h2
      obtain ⟨e1, e2⟩ := ih (fun z => ha (List.mem_cons_of_mem _ z)) (fun z => hc (List.mem_cons_of_mem _ z)) h2
      exact ⟨by rw [h1, e1], e2⟩
theorem decQ_inj {p q : Rat} (h : decQ p = decQ q) : p = q := by
  unfold decQ at h
  have key : p.num = q.num ∧ p.den = q.den := by
    split at h <;> split at h
    · rename_i c1 c2; exact ⟨decI_inj h, by rw [c1, c2]⟩
    · exact absurd (by rw [h]; simp) (decI_47 (z := p.num))
    · exact absurd (by rw [← h]; simp) (decI_47 (z := q.num))
    · obtain ⟨e1, e2⟩ := split_inj decI_47 decI_47 h
      exact ⟨decI_inj e1, dec_inj e2⟩
  exact Rat.ext key.1 key.2
theorem first_at : ∀ {l : List Nat}, 47 ∈ l → ∃ a b, l = a ++ 47 :: b ∧ 47 ∉ a
  | x :: l, h => by
    by_cases c : x = 47
    · subst c; exact ⟨[], l, rfl, by simp⟩
    · have h' : 47 ∈ l := by
        rcases List.mem_cons.mp h with h | h
        · exact absurd h.symm c
        · exact h
      obtain ⟨a, b, rfl, ha⟩ := first_at h'
      refine ⟨x :: a, b, rfl, fun z => ?_⟩
      rcases List.mem_cons.mp z with z | z
      · exact c z.symm
      · exact ha z
noncomputable def numQ (l : List Nat) : Option Rat := @dite _ (∃ q, l = decQ q) (Classical.propDecidable _) (fun h => some h.choose) fun _ => none
theorem numQ_y (q : Rat) : numQ (decQ q) = some q := by
  have e : ∃ p, decQ q = decQ p := ⟨q, rfl⟩
  unfold numQ
  rw [dif_pos e]
  exact congrArg some (decQ_inj e.choose_spec).symm
theorem numQ_n {l : List Nat} (h : ∀ q, l ≠ decQ q) : numQ l = none := dif_neg fun ⟨q, e⟩ => h q e
def top? (a : List Nat) : Option Int := match a with
  | 45 :: r => if plain r ∧ r ≠ [48] then some (-(val r : Int)) else none
  | r => if plain r then some (val r : Int) else none
theorem pos_val {r : List Nat} (p : plain r) (n : r ≠ [48]) : 0 < val r := by
  refine Nat.pos_of_ne_zero fun z => n ?_
  have := plain_dec r.length r (Nat.le_refl _) p
  rw [z] at this
  rw [this]; unfold dec; rfl
theorem top_dec {a : List Nat} {z : Int} (h : top? a = some z) : a = decI z := by
  unfold top? at h
  split at h
  · rename_i r
    split at h
    · rename_i c
      injection h with h
      have v := pos_val c.1 c.2
      unfold decI
      rw [if_pos (by omega), show z.natAbs = val r by omega, ← plain_dec r.length r (Nat.le_refl _) c.1]
    · cases h
  · split at h
    · rename_i c
      injection h with h
      unfold decI
      rw [if_neg (by omega), show z.natAbs = val a by omega, ← plain_dec a.length a (Nat.le_refl _) c]
    · cases h
theorem dec_top (z : Int) : top? (decI z) = some z := by
  unfold decI
  split
  · rename_i c
    have p := dec_plain z.natAbs
    have n : dec z.natAbs ≠ [48] := fun e => by
      have := congrArg val e
      rw [val_dec] at this
      have v : val [48] = 0 := rfl
      omega
    show (if plain (dec z.natAbs) ∧ dec z.natAbs ≠ [48] then some (-(val (dec z.natAbs) : Int)) else none) = _
    rw [if_pos ⟨p, n⟩, val_dec]
    congr 1
    omega
  · rename_i c
    have p := dec_plain z.natAbs
    unfold top?
    split
    · rename_i r e; exact absurd e dec_45
    · rw [if_pos p, val_dec]
      congr 1
      omega
theorem int_top {a : List Nat} {z : Int} (h : top? a = some z) (hl : a.length ≤ 600) : intText? (S a) = some z := by
  unfold top? at h
  split at h
  · rename_i r
    split at h
    · rename_i c
      injection h with h
      have : r.length + 1 ≤ 600 := hl
      rw [int_neg c.1.1 c.1.2.1 (by omega), h]
    · cases h
  · split at h
    · rename_i c
      injection h with h
      rw [int_fig c.1 c.2.1 (by omega), h]
    · cases h
theorem numQ_int (z : Int) : numQ (decI z) = some (z : Rat) := by
  have e : decQ (z : Rat) = decI z := by
    unfold decQ
    rw [Rat.den_intCast, Rat.num_intCast, if_pos rfl]
  rw [← e, numQ_y]
theorem numQ_top {a : List Nat} (n : 47 ∉ a) (h : top? a = none) : numQ a = none := numQ_n fun q e => by
  unfold decQ at e
  split at e
  · rw [e, dec_top] at h; cases h
  · exact n (by rw [e]; simp)
theorem numQ_split {a b : List Nat} (n : 47 ∉ a) (h : ∀ q : Rat, q.den ≠ 1 → a = decI q.num → b = dec q.den → False) : numQ (a ++ 47 :: b) = none := numQ_n fun q e => by
  unfold decQ at e
  split at e
  · exact decI_47 (z := q.num) (by rw [← e]; simp)
  · rename_i c
    obtain ⟨e1, e2⟩ := split_inj n decI_47 e
    exact h q c e1 e2
theorem dec_1 : dec 1 = [49] := by unfold dec; rfl
theorem W_number_in (h : okT l) (hQ : Q (woq (numQ l)) [.str (S l)]) : Wf F_number_in [.str (S l)] Q E := by
  have h1 := h.1
  have h2 := h.2
  have ll : l.length < 1000000 := by omega
  with_reducible refine R_number_in ?_
  unfold b_number_in
  rw [nm_slash, nm_none, nm_minus, nm_m0, nm_1]
  by_cases h47 : 47 ∈ l
  · obtain ⟨a, b, rfl, ha⟩ := first_at h47
    have lab : a.length + (b.length + 1) ≤ 600 := by rw [List.length_append] at h2; exact h2
    have oa : okT a := ⟨fun c hc => h1 c (List.mem_append_left _ hc), by omega⟩
    have ob : okT b := ⟨fun c hc => h1 c (List.mem_append_right _ (List.mem_cons_of_mem _ hc)), by omega⟩
    have oa1 := oa.1
    have ob1 := ob.1
    have la : a.length < 1000000 := by omega
    have ss : ∀ c ∈ [47], c < 1114112 := by decide
    walk_at "sx"
    refine Wo_part_at ll ha ?_
    walk_at "sx"
    (try refine Wo_sl_S la ?_)
    cases a with
    | nil =>
      rw [show cut ([] : List Nat) none (some 1) = [] from rfl]
      walk_at "sx"
      refine W_are_figures oa ?_
      rw [show decide (plain []) = false from decide_eq_false fun p => p.1 rfl]
      walk_at "sx"
      rw [numQ_split ha fun q _ e _ => by have := congrArg top? e; rw [dec_top] at this; cases this] at hQ
      exact hQ
    | cons x r =>
      have c1 : cut (x :: r) none (some 1) = [x] := by
        have := cut_to (xs := x :: r) (k := 1) (by simp)
        exact this
      have c2 : cut (x :: r) (some 1) none = r := by
        have := cut_from (xs := x :: r) (k := 1) (by simp)
        exact this
      rw [c1]
      have ox : ∀ c ∈ [x], c < 1114112 := fun c hc => by rw [List.mem_singleton.mp hc]; exact oa.1 x (List.mem_cons_self ..)
      have or : okT r := ⟨fun c hc => oa.1 c (List.mem_cons_of_mem _ hc), by have := oa.2; simp at this; omega⟩
      have oa1 := oa.1
      have lr : (x :: r).length < 1000000 := by have := oa.2; omega
      walk_at "sx"
      by_cases cx : x = 45
      · subst cx
        walk_at "sx"
        (try refine Wo_sl_S lr ?_)
        rw [c2]
        walk_at "sx"
        refine W_are_figures or ?_
        cases p : decide (plain r) with
        | false =>
          have tn : top? (45 :: r) = none := if_neg fun z => by rw [decide_eq_true z.1] at p; cases p
          walk_at "sx"
          rw [numQ_split ha fun q _ e _ => by rw [e, dec_top] at tn; cases tn] at hQ
          exact hQ
        | true =>
          have p' := of_decide_eq_true p
          walk_at "sx"
          by_cases c48 : r = [48]
          · subst c48
            have tn : top? [45, 48] = none := by decide
            walk_at "sx"
            rw [numQ_split ha fun q _ e _ => by rw [e, dec_top] at tn; cases tn] at hQ
            exact hQ
          · have tz : top? (45 :: r) = some (-(val r : Int)) := if_pos ⟨p', c48⟩
            generalize (-(val r : Int)) = z at tz
            have nn : ¬ 45 :: r = [45, 48] := fun e => c48 (by injection e)
            walk_at "sx"
            have hz := top_dec tz
            have it := int_top tz oa.2
            have le : ∀ k : Nat, k ≤ 600 → k ≤ 640 := fun k hk => by omega
            refine W_are_figures ob ?_
            cases pb : decide (plain b) with
            | false =>
              rw [numQ_split ha fun q _ _ e => by rw [e, decide_eq_true (dec_plain _)] at pb; cases pb] at hQ
              walk_at "sx"
              exact hQ
            | true =>
              have pb' := of_decide_eq_true pb
              have eb := (plain_dec b.length b (Nat.le_refl _) pb').symm
              have ib := int_fig pb'.1 pb'.2.1 (le _ ob.2)
              have m1 : ∀ c ∈ [49], c < 1114112 := by decide
              walk_at "sx"
              by_cases c49 : b = [49]
              · rw [numQ_split ha fun q c _ e => by
                  rw [c49, ← dec_1] at e
                  exact c (dec_inj e).symm] at hQ
                walk_at "sx"
                exact hQ
              · walk_at "sx"
                refine Wo_int_S (le _ oa.2) it ?_
                walk_at "sx"
                refine Wo_int_S (le _ ob.2) ib ?_
                walk_at "sx"
                have en := isnum_eq (w := .tup [.int z, .int ((val b : Nat) : Int)]) rfl
                refine Wf_eq en ?_
                cases cn : isNum (.tup [.int z, .int ((val b : Nat) : Int)]) with
                | false =>
                  rw [numQ_split ha fun q _ e1 e2 => by
                    rw [hz] at e1
                    rw [← eb] at e2
                    rw [decI_inj e1, dec_inj e2] at cn
                    have yes : isNum (wq q) = true := isnum_iff.mpr ⟨q, rfl⟩
                    exact absurd yes (by rw [show isNum (wq q) = false from cn]; decide)] at hQ
                  walk_at "sx"
                  exact hQ
                | true =>
                  obtain ⟨q, eq_⟩ := isnum_iff.mp cn
                  have eq2 : W.tup [.int z, .int ((val b : Nat) : Int)] = .tup [.int q.num, .int (q.den : Int)] := eq_
                  injection eq2 with eq2
                  injection eq2 with e1 eq2
                  injection eq2 with e2 _
                  injection e1 with e1
                  injection e2 with e2
                  have d1 : q.den ≠ 1 := fun e => c49 (by have z := eb; rw [show val b = 1 by omega, dec_1] at z; exact z.symm)
                  have eQ : decQ q = (45 :: r) ++ 47 :: b := by
                    unfold decQ
                    rw [if_neg d1, ← e1, ← hz, show q.den = val b by omega, eb]
                  rw [← eQ, numQ_y] at hQ
                  rw [eQ] at hQ
                  walk_at "sx"
                  refine Wo_int_S (le _ oa.2) it ?_
                  walk_at "sx"
                  refine Wo_int_S (le _ ob.2) ib ?_
                  walk_at "sx"
                  rw [e1, e2]
                  exact hQ
      · have n45 : ¬ [x] = [45] := fun e => cx (by injection e)
        walk_at "sx"
        refine W_are_figures oa ?_
        have tt : top? (x :: r) = if plain (x :: r) then some (val (x :: r) : Int) else none := by
          unfold top?
          split
          · rename_i r' e
            injection e with e _
            exact absurd e cx
          · rfl
        cases p : decide (plain (x :: r)) with
        | false =>
          have tn : top? (x :: r) = none := by rw [tt]; exact if_neg fun z => by rw [decide_eq_true z] at p; cases p
          walk_at "sx"
          rw [numQ_split ha fun q _ e _ => by rw [e, dec_top] at tn; cases tn] at hQ
          exact hQ
        | true =>
          have p' := of_decide_eq_true p
          have tz : top? (x :: r) = some (val (x :: r) : Int) := by rw [tt]; exact if_pos p'
          generalize ((val (x :: r) : Nat) : Int) = z at tz
          have nn : ¬ x :: r = [45, 48] := fun e => cx (by injection e)
          walk_at "sx"
          have hz := top_dec tz
          have it := int_top tz oa.2
          have le : ∀ k : Nat, k ≤ 600 → k ≤ 640 := fun k hk => by omega
          refine W_are_figures ob ?_
          cases pb : decide (plain b) with
          | false =>
            rw [numQ_split ha fun q _ _ e => by rw [e, decide_eq_true (dec_plain _)] at pb; cases pb] at hQ
            walk_at "sx"
            exact hQ
          | true =>
            have pb' := of_decide_eq_true pb
            have eb := (plain_dec b.length b (Nat.le_refl _) pb').symm
            have ib := int_fig pb'.1 pb'.2.1 (le _ ob.2)
            have m1 : ∀ c ∈ [49], c < 1114112 := by decide
            walk_at "sx"
            by_cases c49 : b = [49]
            · rw [numQ_split ha fun q c _ e => by
                rw [c49, ← dec_1] at e
                exact c (dec_inj e).symm] at hQ
              walk_at "sx"
              exact hQ
            · walk_at "sx"
              refine Wo_int_S (le _ oa.2) it ?_
              walk_at "sx"
              refine Wo_int_S (le _ ob.2) ib ?_
              walk_at "sx"
              have en := isnum_eq (w := .tup [.int z, .int ((val b : Nat) : Int)]) rfl
              refine Wf_eq en ?_
              cases cn : isNum (.tup [.int z, .int ((val b : Nat) : Int)]) with
              | false =>
                rw [numQ_split ha fun q _ e1 e2 => by
                  rw [hz] at e1
                  rw [← eb] at e2
                  rw [decI_inj e1, dec_inj e2] at cn
                  have yes : isNum (wq q) = true := isnum_iff.mpr ⟨q, rfl⟩
                  exact absurd yes (by rw [show isNum (wq q) = false from cn]; decide)] at hQ
                walk_at "sx"
                exact hQ
              | true =>
                obtain ⟨q, eq_⟩ := isnum_iff.mp cn
                have eq2 : W.tup [.int z, .int ((val b : Nat) : Int)] = .tup [.int q.num, .int (q.den : Int)] := eq_
                injection eq2 with eq2
                injection eq2 with e1 eq2
                injection eq2 with e2 _
                injection e1 with e1
                injection e2 with e2
                have d1 : q.den ≠ 1 := fun e => c49 (by have z := eb; rw [show val b = 1 by omega, dec_1] at z; exact z.symm)
                have eQ : decQ q = (x :: r) ++ 47 :: b := by
                  unfold decQ
                  rw [if_neg d1, ← e1, ← hz, show q.den = val b by omega, eb]
                rw [← eQ, numQ_y] at hQ
                rw [eQ] at hQ
                walk_at "sx"
                refine Wo_int_S (le _ oa.2) it ?_
                walk_at "sx"
                refine Wo_int_S (le _ ob.2) ib ?_
                walk_at "sx"
                rw [e1, e2]
                exact hQ
  · walk_at "sx"
    refine Wo_part_no ll h47 ?_
    have oa : okT l := h
    have e0 : ∀ c ∈ ([] : List Nat), c < 1114112 := by decide
    walk_at "sx"
    (try refine Wo_sl_S ll ?_)
    cases l with
    | nil =>
      rw [show cut ([] : List Nat) none (some 1) = [] from rfl]
      walk_at "sx"
      refine W_are_figures oa ?_
      rw [show decide (plain []) = false from decide_eq_false fun p => p.1 rfl]
      walk_at "sx"
      rw [numQ_top h47 (show top? [] = none by decide)] at hQ
      exact hQ
    | cons x r =>
      have c1 : cut (x :: r) none (some 1) = [x] := by
        have := cut_to (xs := x :: r) (k := 1) (by simp)
        exact this
      have c2 : cut (x :: r) (some 1) none = r := by
        have := cut_from (xs := x :: r) (k := 1) (by simp)
        exact this
      rw [c1]
      have ox : ∀ c ∈ [x], c < 1114112 := fun c hc => by rw [List.mem_singleton.mp hc]; exact oa.1 x (List.mem_cons_self ..)
      have or : okT r := ⟨fun c hc => oa.1 c (List.mem_cons_of_mem _ hc), by have := oa.2; simp at this; omega⟩
      have oa1 := oa.1
      have lr : (x :: r).length < 1000000 := by have := oa.2; omega
      walk_at "sx"
      by_cases cx : x = 45
      · subst cx
        walk_at "sx"
        (try refine Wo_sl_S lr ?_)
        rw [c2]
        walk_at "sx"
        refine W_are_figures or ?_
        cases p : decide (plain r) with
        | false =>
          have tn : top? (45 :: r) = none := if_neg fun z => by rw [decide_eq_true z.1] at p; cases p
          walk_at "sx"
          rw [numQ_top h47 tn] at hQ
          exact hQ
        | true =>
          have p' := of_decide_eq_true p
          walk_at "sx"
          by_cases c48 : r = [48]
          · subst c48
            have tn : top? [45, 48] = none := by decide
            walk_at "sx"
            rw [numQ_top h47 tn] at hQ
            exact hQ
          · have tz : top? (45 :: r) = some (-(val r : Int)) := if_pos ⟨p', c48⟩
            generalize (-(val r : Int)) = z at tz
            have nn : ¬ 45 :: r = [45, 48] := fun e => c48 (by injection e)
            walk_at "sx"
            have hz := top_dec tz
            have it := int_top tz oa.2
            refine Wo_int_S (by have := oa.2; omega) it ?_
            rw [hz, numQ_int] at hQ
            rw [← hz] at hQ
            rw [show woq (some (z : Rat)) = W.tup [.int z, .int 1] from by show W.tup [.int (z : Rat).num, .int ((z : Rat).den : Int)] = _; rw [Rat.num_intCast, Rat.den_intCast]; rfl] at hQ
            walk_at "sx"
            exact hQ
      · have n45 : ¬ [x] = [45] := fun e => cx (by injection e)
        walk_at "sx"
        refine W_are_figures oa ?_
        have tt : top? (x :: r) = if plain (x :: r) then some (val (x :: r) : Int) else none := by
          unfold top?
          split
          · rename_i r' e
            injection e with e _
            exact absurd e cx
          · rfl
        cases p : decide (plain (x :: r)) with
        | false =>
          have tn : top? (x :: r) = none := by rw [tt]; exact if_neg fun z => by rw [decide_eq_true z] at p; cases p
          walk_at "sx"
          rw [numQ_top h47 tn] at hQ
          exact hQ
        | true =>
          have p' := of_decide_eq_true p
          have tz : top? (x :: r) = some (val (x :: r) : Int) := by rw [tt]; exact if_pos p'
          generalize ((val (x :: r) : Nat) : Int) = z at tz
          have nn : ¬ x :: r = [45, 48] := fun e => cx (by injection e)
          walk_at "sx"
          have hz := top_dec tz
          have it := int_top tz oa.2
          refine Wo_int_S (by have := oa.2; omega) it ?_
          rw [hz, numQ_int] at hQ
          rw [← hz] at hQ
          rw [show woq (some (z : Rat)) = W.tup [.int z, .int 1] from by show W.tup [.int (z : Rat).num, .int ((z : Rat).den : Int)] = _; rw [Rat.num_intCast, Rat.den_intCast]; rfl] at hQ
          walk_at "sx"
          exact hQ
end
section
variable {Q E : W → List W → Prop} {l a b : List Nat} {q : Rat}
open Rf.Tx
theorem dec_len : ∀ (k n : Nat), n < 10 ^ (k + 1) → (dec n).length ≤ k + 1
  | 0, n, h => by
    unfold dec
    rw [if_pos (by omega)]; exact Nat.le_refl _
  | k + 1, n, h => by
    unfold dec
    split
    · exact Nat.succ_le_succ (Nat.zero_le _)
    · rw [List.length_append]
      have : n / 10 < 10 ^ (k + 1) := by
        rw [Nat.div_lt_iff_lt_mul (by decide)]
        rw [Nat.pow_succ] at h
        exact h
      have := dec_len k (n / 10) this
      show _ + 1 ≤ _
      omega
theorem decI_len {k : Nat} {z : Int} (h : z.natAbs < 10 ^ (k + 1)) : (decI z).length ≤ k + 2 := by
  have := dec_len k z.natAbs h
  unfold decI
  split
  · show _ + 1 ≤ _; omega
  · omega
theorem decQ_cps {q : Rat} : ∀ c ∈ decQ q, c < 1114112 := fun c hc => by
  have z : ∀ {x : Int}, c ∈ decI x → c < 1114112 := fun h => by
    rcases decI_in h with h | h
    · have := h.2; omega
    · omega
  unfold decQ at hc
  split at hc
  · exact z hc
  · rcases List.mem_append.mp hc with hc | hc
    · exact z hc
    · rcases List.mem_cons.mp hc with hc | hc
      · omega
      · have := (dec_fig _ c hc).2; omega
theorem decQ_len {k : Nat} {q : Rat} (h1 : q.num.natAbs < 10 ^ (k + 1)) (h2 : q.den < 10 ^ (k + 1)) : (decQ q).length ≤ 2 * k + 4 := by
  have a1 := decI_len h1
  have a2 := dec_len k q.den h2
  unfold decQ
  split
  · omega
  · rw [List.length_append]
    show _ + (_ + 1) ≤ _
    omega
theorem pow_210 : ∀ k : Nat, 2 ^ (3 * k) ≤ 10 ^ k
  | 0 => Nat.le_refl _
  | k + 1 => by
    rw [show 3 * (k + 1) = 3 * k + 3 by omega, Nat.pow_add, Nat.pow_succ]
    exact Nat.mul_le_mul (pow_210 k) (by decide)
theorem okT_q {q : Rat} (h : qb 600 q) : okT (decQ q) := by
  have p := pow_210 200
  have := decQ_len (k := 199) (q := q) (Nat.lt_of_lt_of_le h.1 p) (Nat.lt_of_lt_of_le h.2 p)
  exact ⟨decQ_cps, by omega⟩
theorem W_show_q (h : qb 600 q) (hQ : Q (.str (S (decQ q))) [wq q]) : Wf F_show_number [wq q] Q E := by
  have p := pow_210 200
  have lg : ∀ n : Nat, n < 2 ^ 600 → n.log2 < 1800 := fun n hn => by
    by_cases z : n = 0
    · subst z; decide
    · have := (Nat.log2_lt (k := 600) z).mpr hn
      omega
  refine W_show_number (lg _ h.1) (lg _ (by rw [Int.natAbs_natCast]; exact h.2)) ?_ ?_ hQ
  · have := decI_len (k := 199) (z := q.num) (Nat.lt_of_lt_of_le h.1 p); omega
  · have := dec_len 199 q.den (Nat.lt_of_lt_of_le h.2 p); omega
theorem W_read_number (h : okT l) (hy : ∀ q, numQ l = some q → Q (wq q) [.str (S l)]) (hn : numQ l = none → E (.exc "NoText" [("part", .non)]) [.str (S l)]) : Wf F_read_number [.str (S l)] Q E := by
  with_reducible refine R_read_number ?_
  unfold b_read_number
  walk_at "sx"
  (try (refine Wi_str ?_; walk_at "sx"))
  refine W_number_in h ?_
  cases c : numQ l with
  | none =>
    dsimp only [woq]
    walk_at "sx"
    exact hn c
  | some q =>
    dsimp only [woq]
    walk_at "sx"
    (try (refine Wo_eq (show wCmp .is (wq q) .non = some (.bl false) from rfl) ?_; walk_at "sx"))
    exact hy q c
end

end Rf.Lib
namespace Rf.LawT
open PySem Lib C Tx
open Tx
local macro_rules | `(tactic| kt_at_method) => `(tactic| with_reducible refine W_recvS (by with_unfolding_all rfl) ?_)
local macro_rules | `(tactic| kt_at_method) => `(tactic| with_reducible refine Wx_tx1 ?_)
local macro_rules | `(tactic| kt_at_method) => `(tactic| with_reducible refine Wx_tx0 ?_)
local macro_rules | `(tactic| kt_at_method) => `(tactic| ((with_reducible refine Wo_ne_S ?_ ?_ ?_); (first | assumption | decide); (first | assumption | decide)))
local macro_rules | `(tactic| kt_at_method) => `(tactic| ((with_reducible refine Wo_eq_S ?_ ?_ ?_); (first | assumption | decide); (first | assumption | decide)))
local macro_rules | `(tactic| kt_at_method) => `(tactic| ((with_reducible refine Wo_sl_S ?_ ?_); omega))
local macro_rules | `(tactic| kt_at_method) => `(tactic| with_reducible refine Wo_in_S ?_)
local macro_rules | `(tactic| kt_at_method) => `(tactic| with_reducible refine Wo_of_S ?_)
local macro_rules | `(tactic| kt_at_method) => `(tactic| ((with_reducible refine Wo_str_i ?_ ?_); with_reducible assumption))
local macro_rules | `(tactic| kt_at_method) => `(tactic| ((with_reducible refine Wo_add_S ?_ ?_); (focus (simp; omega))))
noncomputable def b_law_sums_right : List St := [
  (.ite (.or (.cmp (.call Lib.F_added [(.var 0), (.var 1)]) [.ne] [(.call Lib.F_added [(.var 1), (.var 0)])]) (.cmp (.call Lib.F_added [(.call Lib.F_added [(.var 0), (.var 1)]), (.var 2)]) [.ne] [(.call Lib.F_added [(.var 0), (.call Lib.F_added [(.var 1), (.var 2)])])])) [(.ret (.con (.bl false)))] []),
  (.ite (.cmp (.call Lib.F_multiplied [(.var 0), (.var 1)]) [.ne] [(.call Lib.F_multiplied [(.var 1), (.var 0)])]) [(.ret (.con (.bl false)))] []),
  (.asg (.nm 3) (.call Lib.F_multiplied [(.var 0), (.call Lib.F_added [(.var 1), (.var 2)])])),
  (.ite (.cmp (.var 3) [.ne] [(.call Lib.F_added [(.call Lib.F_multiplied [(.var 0), (.var 1)]), (.call Lib.F_multiplied [(.var 0), (.var 2)])])]) [(.ret (.con (.bl false)))] []),
  (.ret (.and (.cmp (.call Lib.F_taken [(.call Lib.F_added [(.var 0), (.var 1)]), (.var 1)]) [.eq] [(.var 0)]) (.and (.cmp (.call Lib.F_added [(.call Lib.F_taken [(.var 0), (.var 1)]), (.var 1)]) [.eq] [(.var 0)]) (.cmp (.call Lib.F_taken [(.var 0), (.var 0)]) [.eq] [(.tup [(.con (.int 0)), (.con (.int 1))])]))))]
noncomputable def F_law_sums_right : Fn := runFn 3 4 b_law_sums_right
theorem R_law_sums_right {x0 x1 x2 : W} {Q E : W → List W → Prop} (h : Wm (fzS []) [some x0, some x1, some x2, none] (fun _ ρ1 => Wm (execs 3 b_law_sums_right) ρ1 (fun f ρ2 => Wend f fun w => Wout [3] ρ2 [x0, x1, x2] fun os => Q w os) (fun w ρ2 => Wout [3] ρ2 [x0, x1, x2] fun os => E w os)) nE) : Wf F_law_sums_right [x0, x1, x2] Q E := Wf_run rfl rfl rfl rfl h
noncomputable def b_law_parted_right : List St := [
  (.ite (.cmp (.var 1) [.eq] [(.tup [(.con (.int 0)), (.con (.int 1))])]) [(.ret (.con (.bl true)))] []),
  (.ite (.or (.cmp (.call Lib.F_parted [(.call Lib.F_multiplied [(.var 0), (.var 1)]), (.var 1)]) [.ne] [(.var 0)]) (.cmp (.call Lib.F_multiplied [(.call Lib.F_parted [(.var 0), (.var 1)]), (.var 1)]) [.ne] [(.var 0)])) [(.ret (.con (.bl false)))] []),
  (.ret (.cmp (.call Lib.F_parted [(.var 1), (.var 1)]) [.eq] [(.tup [(.con (.int 1)), (.con (.int 1))])]))]
noncomputable def F_law_parted_right : Fn := runFn 2 2 b_law_parted_right
theorem R_law_parted_right {x0 x1 : W} {Q E : W → List W → Prop} (h : Wm (fzS []) [some x0, some x1] (fun _ ρ1 => Wm (execs 2 b_law_parted_right) ρ1 (fun f ρ2 => Wend f fun w => Wout [] ρ2 [x0, x1] fun os => Q w os) (fun w ρ2 => Wout [] ρ2 [x0, x1] fun os => E w os)) nE) : Wf F_law_parted_right [x0, x1] Q E := Wf_run rfl rfl rfl rfl h
noncomputable def b_law_less_right : List St := [
  (.asg (.nm 3) (.call Lib.F_is_less [(.var 0), (.var 1)])),
  (.ite (.cmp (.rm (.lst [(.var 3), (.call Lib.F_is_less [(.var 1), (.var 0)]), (.cmp (.var 0) [.eq] [(.var 1)])]) .count [(.con (.bl true))]) [.ne] [(.con (.int 1))]) [(.ret (.con (.bl false)))] []),
  (.ite (.cmp (.call Lib.F_is_less [(.call Lib.F_added [(.var 0), (.var 2)]), (.call Lib.F_added [(.var 1), (.var 2)])]) [.ne] [(.var 3)]) [(.ret (.con (.bl false)))] []),
  (.asg (.nm 4) (.call Lib.F_added [(.call Lib.F_multiplied [(.var 2), (.var 2)]), (.call Lib.F_number [(.con (.int 1)), (.con (.int 7))])])),
  (.ite (.cmp (.call Lib.F_is_less [(.call Lib.F_multiplied [(.var 0), (.var 4)]), (.call Lib.F_multiplied [(.var 1), (.var 4)])]) [.ne] [(.var 3)]) [(.ret (.con (.bl false)))] []),
  (.ret (.call Lib.F_is_less [(.tup [(.con (.int 0)), (.con (.int 1))]), (.var 4)]))]
noncomputable def F_law_less_right : Fn := runFn 3 5 b_law_less_right
theorem R_law_less_right {x0 x1 x2 : W} {Q E : W → List W → Prop} (h : Wm (fzS []) [some x0, some x1, some x2, none, none] (fun _ ρ1 => Wm (execs 3 b_law_less_right) ρ1 (fun f ρ2 => Wend f fun w => Wout [3, 4] ρ2 [x0, x1, x2] fun os => Q w os) (fun w ρ2 => Wout [3, 4] ρ2 [x0, x1, x2] fun os => E w os)) nE) : Wf F_law_less_right [x0, x1, x2] Q E := Wf_run rfl rfl rfl rfl h
noncomputable def b_law_right : List St := [
  (.ite (.or (.nt (.call F_law_sums_right [(.var 0), (.var 1), (.var 2)])) (.nt (.call F_law_parted_right [(.var 0), (.var 1)]))) [(.ret (.con (.bl false)))] []),
  (.ret (.call F_law_less_right [(.var 0), (.var 1), (.var 2)]))]
noncomputable def F_law_right : Fn := runFn 3 3 b_law_right
theorem R_law_right {x0 x1 x2 : W} {Q E : W → List W → Prop} (h : Wm (fzS []) [some x0, some x1, some x2] (fun _ ρ1 => Wm (execs 3 b_law_right) ρ1 (fun f ρ2 => Wend f fun w => Wout [] ρ2 [x0, x1, x2] fun os => Q w os) (fun w ρ2 => Wout [] ρ2 [x0, x1, x2] fun os => E w os)) nE) : Wf F_law_right [x0, x1, x2] Q E := Wf_run rfl rfl rfl rfl h
noncomputable def b_law : List St := [
  (.for_ (.nm 1) (.rng [(.con (.int 0)), (.bi .max [(.con (.int 1)), (.bi .min [(.bi .len [(.var 0)]), (.con (.int 32))])]), (.con (.int 2))]) [(.asg (.nm 2) (.call (Lib.F_law_pack 301029995663981195213738894724493026768189881462108541310427) [(.var 0), (.var 1)])), (.asg (.nm 3) (.lst [])), (.for_ (.nm 4) (.rng [(.con (.int 3))]) [(.asg (.nm 5) (.bin .sub (.call Lib.F_law_take [(.var 2), (.bin .add (.bin .mul (.con (.int 2)) (.bin .pow (.con (.int 10)) (.con (.int 6)))) (.con (.int 1)))]) (.bin .pow (.con (.int 10)) (.con (.int 6))))), (.expr (.mu (.var 3) .append [(.call Lib.F_number [(.var 5), (.bin .add (.con (.int 1)) (.call Lib.F_law_take [(.var 2), (.con (.int 100))]))])])), (.ite (.cmp (.call Lib.F_law_take [(.var 2), (.con (.int 4))]) [.eq] [(.con (.int 0))]) [(.asg (.sub (.var 3) (.var 4)) (.call Lib.F_number [(.bin .add (.bin .mul (.var 5) (.con (.int 999))) (.var 4)), (.bin .add (.con (.int 1)) (.call Lib.F_law_take [(.var 2), (.bin .pow (.con (.int 10)) (.con (.int 6)))]))]))] [])]), (.ite (.or (.nt (.call F_law_right [(.ix (.var 3) (.con (.int 0))), (.ix (.var 3) (.con (.int 1))), (.ix (.var 3) (.con (.int 2)))])) (.nt (.call F_law_right [(.ix (.var 3) (.con (.int 2))), (.ix (.var 3) (.con (.int 2))), (.ix (.var 3) (.con (.int 0)))]))) [(.ret (.con (.bl false)))] []), (.for_ (.nm 6) (.of (.bin .add (.var 3) (.lst [(.call Lib.F_added [(.ix (.var 3) (.con (.int 0))), (.ix (.var 3) (.con (.int 1)))]), (.call Lib.F_multiplied [(.ix (.var 3) (.con (.int 1))), (.ix (.var 3) (.con (.int 2)))])]))) [(.ite (.or (.nt (.call Lib.F_is_number [(.var 6)])) (.cmp (.call Lib.F_read_number [(.call Lib.F_show_number [(.var 6)])]) [.ne] [(.var 6)])) [(.ret (.con (.bl false)))] [])])]),
  (.ret (.con (.bl true)))]
noncomputable def F_law : Fn := runFn 1 7 b_law
theorem R_law {x0 : W} {Q E : W → List W → Prop} (h : Wm (fzS []) [some x0, none, none, none, none, none, none] (fun _ ρ1 => Wm (execs 1 b_law) ρ1 (fun f ρ2 => Wend f fun w => Wout [1, 2, 3, 4, 5, 6] ρ2 [x0] fun os => Q w os) (fun w ρ2 => Wout [1, 2, 3, 4, 5, 6] ρ2 [x0] fun os => E w os)) nE) : Wf F_law [x0] Q E := Wf_run rfl rfl rfl rfl h
section
variable {Q E : W → List W → Prop} {a b c : Rat}
theorem neF {x y : Rat} (h : x = y) : (!decide (x = y)) = false := by rw [decide_eq_true h]; rfl
theorem W_sums06 (qa : qb 40 a) (qB : qb 40 b) (qc : qb 40 c) (hQ : Q (.bl true) [wq a, wq b, wq c]) : Wf F_law_sums_right [wq a, wq b, wq c] Q E := by
  have e1 := neF (show a + b = b + a by grind)
  have e2 := neF (show a + b + c = a + (b + c) by grind)
  have e3 := neF (show a * b = b * a by grind)
  have e4 := neF (show a * (b + c) = a * b + a * c by grind)
  have e5 : a + b - b = a := by grind
  have e6 : a - b + b = a := by grind
  have e7 : a - a = 0 := by grind
  have x1 := qb_mono (l := 3900) qa (by decide)
  have x2 := qb_mono (l := 3900) qB (by decide)
  have x3 := qb_mono (l := 3900) qc (by decide)
  have k1 := qb_add qa qB
  have k2 := qb_add qB qc
  have k3 := qb_mul qa qB
  have k4 := qb_mul qa qc
  have k5 := qb_sub qa qB
  have k6 := qb_add qB qa
  have l1 := qb_mono (l := 3900) k1 (by decide)
  have l2 := qb_mono (l := 3900) k2 (by decide)
  have l3 := qb_mono (l := 3900) k3 (by decide)
  have l4 := qb_mono (l := 3900) k4 (by decide)
  have l5 := qb_mono (l := 3900) k5 (by decide)
  have l6 := qb_mono (l := 3900) k6 (by decide)
  with_reducible refine R_law_sums_right ?_
  unfold b_law_sums_right
  walk_at "sx"
  rw [decide_eq_true e7]
  exact hQ
theorem W_parted06 (qa : qb 40 a) (qB : qb 40 b) (hQ : Q (.bl true) [wq a, wq b]) : Wf F_law_parted_right [wq a, wq b] Q E := by
  have x1 := qb_mono (l := 3900) qa (by decide)
  have x2 := qb_mono (l := 3900) qB (by decide)
  have k3 := qb_mono (l := 3900) (qb_mul qa qB) (by decide)
  with_reducible refine R_law_parted_right ?_
  unfold b_law_parted_right
  walk_at "sx"
  by_cases c : b = 0
  · walk_at "sx"
    exact hQ
  · have e1 := neF (show a * b / b = a by rw [Rat.div_def, Rat.mul_assoc, Rat.mul_inv_cancel b c, Rat.mul_one])
    have e2 := neF (show a / b * b = a by rw [Rat.div_def, Rat.mul_assoc, Rat.inv_mul_cancel b c, Rat.mul_one])
    have e3 : b / b = 1 := by rw [Rat.div_def, Rat.mul_inv_cancel b c]
    have k4 : qb 3900 (a / b) := qb_mono (qb_div qa qB c) (by decide)
    walk_at "sx"
    rw [decide_eq_true (show b / b = ((1 : Int) : Rat) by rw [e3]; rfl)]
    exact hQ
theorem sq_nonneg' (c : Rat) : 0 ≤ c * c := by
  by_cases h : 0 ≤ c
  · exact Rat.mul_nonneg h h
  · have := Rat.mul_nonneg (show 0 ≤ -c by grind) (show 0 ≤ -c by grind)
    grind
theorem mul_lt_iff {a b d : Rat} (d0 : 0 < d) : a * d < b * d ↔ a < b := by
  constructor
  · intro h
    refine Rat.not_le.mp fun z => ?_
    have := Rat.mul_nonneg (show 0 ≤ a - b by grind) (Rat.le_of_lt d0)
    grind
  · intro h
    have := Rat.mul_pos (show 0 < b - a by grind) d0
    grind
theorem W_less06 (qa : qb 40 a) (qB : qb 40 b) (qc : qb 40 c) (hQ : Q (.bl true) [wq a, wq b, wq c]) : Wf F_law_less_right [wq a, wq b, wq c] Q E := by
  have x1 := qb_mono (l := 3900) qa (by decide)
  have x2 := qb_mono (l := 3900) qB (by decide)
  have x3 := qb_mono (l := 3900) qc (by decide)
  have k1 := qb_mono (l := 3900) (qb_add qa qc) (by decide)
  have k2 := qb_mono (l := 3900) (qb_add qB qc) (by decide)
  have k3 := qb_mono (l := 3900) (qb_mul qc qc) (by decide)
  have k7 : qb 3 (Rat.divInt 1 7) := qb_divInt (by decide) (by decide) (by decide)
  have kd := qb_add (qb_mul qc qc) k7
  have k8 := qb_mono (l := 3900) kd (by decide)
  have k9 := qb_mono (l := 3900) (qb_mul qa kd) (by decide)
  have k10 := qb_mono (l := 3900) (qb_mul qB kd) (by decide)
  have d0 : 0 < c * c + Rat.divInt 1 7 := by
    have z : (0 : Rat) < Rat.divInt 1 7 := by decide +kernel
    have y := sq_nonneg' c
    grind
  with_reducible refine R_law_less_right ?_
  unfold b_law_less_right
  rcases (show a < b ∨ a = b ∨ b < a by grind) with h | h | h
  · have h1 : ¬ b < a := by grind
    have h2 : ¬ a = b := by grind
    walk_at "sx"
    refine Wif_f (by rw [decide_eq_true h, decide_eq_false h1, decide_eq_false h2]; rfl) ?_
    have f1 : (!(decide (a + c < b + c) == decide (a < b))) = false := by
      rw [show decide (a + c < b + c) = decide (a < b) from decide_eq_decide.mpr ⟨fun z => by grind, fun z => by grind⟩]
      rw [beq_self_eq_true]; rfl
    have f2 : (!(decide (a * (c * c + Rat.divInt 1 7) < b * (c * c + Rat.divInt 1 7)) == decide (a < b))) = false := by
      rw [show decide (a * (c * c + Rat.divInt 1 7) < b * (c * c + Rat.divInt 1 7)) = decide (a < b) from decide_eq_decide.mpr (mul_lt_iff d0)]
      rw [beq_self_eq_true]; rfl
    walk_at "sx"
    (try rw [decide_eq_true d0])
    exact hQ
  · have h1 : ¬ b < a := by grind
    have h2 : ¬ a < b := by grind
    subst h
    walk_at "sx"
    refine Wif_f (by rw [decide_eq_false h1, decide_eq_true rfl]; rfl) ?_
    have f1 : (!(decide (a + c < a + c) == decide (a < a))) = false := by
      rw [show decide (a + c < a + c) = decide (a < a) from decide_eq_decide.mpr ⟨fun z => by grind, fun z => by grind⟩]
      rw [beq_self_eq_true]; rfl
    have f2 : (!(decide (a * (c * c + Rat.divInt 1 7) < a * (c * c + Rat.divInt 1 7)) == decide (a < a))) = false := by
      rw [show decide (a * (c * c + Rat.divInt 1 7) < a * (c * c + Rat.divInt 1 7)) = decide (a < a) from decide_eq_decide.mpr (mul_lt_iff d0)]
      rw [beq_self_eq_true]; rfl
    walk_at "sx"
    (try rw [decide_eq_true d0])
    exact hQ
  · have h1 : ¬ a < b := by grind
    have h2 : ¬ a = b := by grind
    walk_at "sx"
    refine Wif_f (by rw [decide_eq_false h1, decide_eq_true h, decide_eq_false h2]; rfl) ?_
    have f1 : (!(decide (a + c < b + c) == decide (a < b))) = false := by
      rw [show decide (a + c < b + c) = decide (a < b) from decide_eq_decide.mpr ⟨fun z => by grind, fun z => by grind⟩]
      rw [beq_self_eq_true]; rfl
    have f2 : (!(decide (a * (c * c + Rat.divInt 1 7) < b * (c * c + Rat.divInt 1 7)) == decide (a < b))) = false := by
      rw [show decide (a * (c * c + Rat.divInt 1 7) < b * (c * c + Rat.divInt 1 7)) = decide (a < b) from decide_eq_decide.mpr (mul_lt_iff d0)]
      rw [beq_self_eq_true]; rfl
    walk_at "sx"
    (try rw [decide_eq_true d0])
    exact hQ
theorem W_right06 (qa : qb 40 a) (qB : qb 40 b) (qc : qb 40 c) (hQ : Q (.bl true) [wq a, wq b, wq c]) : Wf F_law_right [wq a, wq b, wq c] Q E := by
  with_reducible refine R_law_right ?_
  unfold b_law_right
  walk_at "sx"
  refine W_sums06 qa qB qc ?_
  walk_at "sx"
  refine W_parted06 qa qB ?_
  walk_at "sx"
  refine W_less06 qa qB qc ?_
  walk_at "sx"
  exact hQ
end
theorem pure_law : ∀ ns : List Int, ns.length ≤ 63 → (∀ z ∈ ns, Builtin.Int.intBits z ≤ 1048576) → ∃ os, F_law [.scr ns] = some (.ok (.bl true), os) := by
  intro ns hl hb
  have S := scr_of hl hb
  have : Wf F_law [.scr ns] (fun w _ => w = .bl true) (fun _ _ => False) := by
    refine R_law ?_
    unfold b_law
    walk_at "sx"
    refine Wfor_law (by decide) (by omega) (fun ρ => ∃ a1 a2 a3 a4 a5 a6, ρ = [some (.scr ns), a1, a2, a3, a4, a5, a6]) ?_ ?_ ?_
    · exact ⟨_, _, _, _, _, _, rfl⟩
    · rintro k ρ h0 h1 ⟨a1, a2, a3, a4, a5, a6, rfl⟩
      walk_at "sx"
      rename_i m0 p0
      refine Wfor_rng (fun i ρ => ∃ (m' : Int) (xs : List Rat) (b4 b5 : Option W), pk m' ∧ xs.length = i ∧ (∀ x ∈ xs, qb 40 x) ∧ ρ = [some (.scr ns), some (.int k), some (.lst true [.int m']), some (.lst true (xs.map wq)), b4, b5, a6]) ⟨_, [], _, _, p0, rfl, (by intro x hx; cases hx), rfl⟩ ?_ ?_
      · rintro i ρ hi ⟨m', xs, b4, b5, pm, hxl, hxq, rfl⟩
        have lm : (xs.map wq).length < 1000000 := by rw [List.length_map]; omega
        walk_at "sx"
        rename_i m1 a p1 a0 a1 m2 b p2 b0 b1 m3 c p3 c0 c1
        have qA : qb 40 (Rat.divInt (a - 1000000) (1 + b)) := qb_divInt (by omega) (by omega) (by omega)
        have ap : ∀ {y : Rat}, qb 40 y → ∀ x ∈ xs ++ [y], qb 40 x := fun hy x hx => by
          rcases List.mem_append.mp hx with hx | hx
          · exact hxq x hx
          · rw [List.mem_singleton.mp hx]; exact hy
        by_cases cc : c = 0
        · walk_at "sx"
          rename_i m4 d p4 d0 d1
          have qB : qb 40 (Rat.divInt ((a - 1000000) * 999 + (0 + (i : Int))) (1 + d)) := qb_divInt (by omega) (by omega) (by omega)
          have st : ∀ x0 y : Rat, wSet (.lst true (xs.map wq ++ [wq x0])) (.int (0 + (i : Int))) (wq y) = some (.lst true ((xs ++ [y]).map wq)) := fun x0 y => by
            show (ixN (xs.map wq ++ [wq x0]).length (0 + (i : Int))).map (fun k => W.lst true ((xs.map wq ++ [wq x0]).set k (wq y))) = _
            unfold ixN
            rw [List.length_append, List.length_map, if_pos (by omega), if_pos (by show (0 + (i : Int)) < ((xs.length + 1 : Nat) : Int); omega)]
            show some (W.lst true ((xs.map wq ++ [wq x0]).set (0 + (i : Int)).toNat (wq y))) = _
            rw [show (0 + (i : Int)).toNat = (xs.map wq).length by rw [List.length_map]; omega, List.set_append_right _ _ (Nat.le_refl _), Nat.sub_self, List.map_append]; rfl
          refine Wo_eq (st _ _) ?_
          walk_at "sx"
          exact ⟨_, _, _, _, p4, by simp [hxl], ap qB, rfl⟩
        · walk_at "sx"
          exact ⟨_, xs ++ [Rat.divInt (a - 1000000) (1 + b)], _, _, p3, by simp [hxl], ap qA, by rw [List.map_append]; rfl⟩
      · rintro ρ ⟨m', xs, b4, b5, pm, hxl, hxq, rfl⟩
        obtain ⟨x, y, z, rfl⟩ : ∃ x y z, xs = [x, y, z] := by
          match xs, hxl with
          | [x, y, z], _ => exact ⟨x, y, z, rfl⟩
        have qx := hxq x (by simp)
        have qy := hxq y (by simp)
        have qz := hxq z (by simp)
        have x1 := qb_mono (l := 3900) qx (by decide)
        have x2 := qb_mono (l := 3900) qy (by decide)
        have x3 := qb_mono (l := 3900) qz (by decide)
        walk_at "sx"
        refine W_right06 qx qy qz ?_
        walk_at "sx"
        refine W_right06 qz qz qx ?_
        have y1 := qb_add qx qy
        have y2 := qb_mul qy qz
        have y3 := qb_mono (l := 3900) y1 (by decide)
        have y4 := qb_mono (l := 3900) y2 (by decide)
        walk_at "sx"
        refine Wfor (fun i ρ => ∃ b6, ρ = [some (.scr ns), some (.int k), some (.lst true [.int m']), some (.lst true ([x, y, z].map wq)), b4, b5, b6]) ⟨_, rfl⟩ (fun i v ρ hi hI => ?_) (fun ρ' hI => ?_)
        · obtain ⟨b6, rfl⟩ := hI
          obtain ⟨q, rfl, hq⟩ : ∃ q : Rat, v = wq q ∧ qb 90 q := by
            have hm := List.mem_of_getElem? hi
            simp only [List.map_cons, List.map_nil, List.cons_append, List.nil_append, List.mem_cons, List.not_mem_nil, or_false] at hm
            rcases hm with rfl | rfl | rfl | rfl | rfl
            · exact ⟨_, rfl, qb_mono qx (by decide)⟩
            · exact ⟨_, rfl, qb_mono qy (by decide)⟩
            · exact ⟨_, rfl, qb_mono qz (by decide)⟩
            · exact ⟨_, rfl, qb_mono y1 (by decide)⟩
            · exact ⟨_, rfl, qb_mono y2 (by decide)⟩
          have q6 := qb_mono (l := 600) hq (by decide)
          have okq := okT_q q6
          have q39 := qb_mono (l := 3900) hq (by decide)
          walk_at "sx"
          (try (refine W_show_q q6 ?_; walk_at "sx"))
          refine W_read_number okq (fun q' e => ?_) (fun e => by rw [numQ_y] at e; cases e)
          rw [numQ_y] at e
          obtain rfl := Option.some.inj e
          walk_at "sx"
          exact ⟨_, rfl⟩
        · obtain ⟨b6, rfl⟩ := hI
          (try walk_at "sx")
          exact ⟨_, _, _, _, _, _, rfl⟩
    · rintro ρ ⟨a1, a2, a3, a4, a5, a6, rfl⟩
      walk_at "sx"
      rfl
  obtain ⟨w, os, e, h⟩ := get_Wf this
  exact ⟨os, by rw [e, h]⟩

end Rf.LawT
end
set_option maxHeartbeats 0
namespace LawH
open PySem PySem.Spec PyProof.Rows L2 Rf Rf.LawT

noncomputable def l0 : List (Str × Gk) := []
noncomputable def m0 : Mtb := []
noncomputable def l1 : List (Str × Gk) := ("CordError", .exc "CordError" none) :: l0
noncomputable def l2 : List (Str × Gk) := ("NoNumber", .exc "NoNumber" none) :: l1
noncomputable def l3 : List (Str × Gk) := ("NoText", .exc "NoText" (some "part")) :: l2
noncomputable def l4 : List (Str × Gk) := ("is_whole", .fn Lib.F_is_whole 1) :: l3
noncomputable def l5 : List (Str × Gk) := ("common", .fn Lib.F_common 2) :: l4
noncomputable def l6 : List (Str × Gk) := ("is_number", .fn Lib.F_is_number 1) :: l5
noncomputable def l7 : List (Str × Gk) := ("number", .fn Lib.F_number 2) :: l6
noncomputable def l8 : List (Str × Gk) := ("added", .fn Lib.F_added 2) :: l7
noncomputable def l9 : List (Str × Gk) := ("taken", .fn Lib.F_taken 2) :: l8
noncomputable def l10 : List (Str × Gk) := ("multiplied", .fn Lib.F_multiplied 2) :: l9
noncomputable def l11 : List (Str × Gk) := ("parted", .fn Lib.F_parted 2) :: l10
noncomputable def l12 : List (Str × Gk) := ("is_less", .fn Lib.F_is_less 2) :: l11
noncomputable def l13 : List (Str × Gk) := ("FIGURES", .con (.str (nm "0123456789"))) :: l12
noncomputable def l14 : List (Str × Gk) := ("show_number", .fn Lib.F_show_number 1) :: l13
noncomputable def l15 : List (Str × Gk) := ("are_figures", .fn Lib.F_are_figures 1) :: l14
noncomputable def l16 : List (Str × Gk) := ("number_in", .fn Lib.F_number_in 1) :: l15
noncomputable def l17 : List (Str × Gk) := ("read_number", .fn Lib.F_read_number 1) :: l16
noncomputable def l18 : List (Str × Gk) := ("_law_mixed", .fn (Lib.F_law_mixed 301029995663981195213738894724493026768189881462108541310427) 1) :: l17
noncomputable def l19 : List (Str × Gk) := ("_law_pack", .fn (Lib.F_law_pack 301029995663981195213738894724493026768189881462108541310427) 2) :: l18
noncomputable def l20 : List (Str × Gk) := ("_law_take", .fn Lib.F_law_take 2) :: l19
noncomputable def l21 : List (Str × Gk) := ("_law_sums_right", .fn F_law_sums_right 3) :: l20
noncomputable def l22 : List (Str × Gk) := ("_law_parted_right", .fn F_law_parted_right 2) :: l21
noncomputable def l23 : List (Str × Gk) := ("_law_less_right", .fn F_law_less_right 3) :: l22
noncomputable def l24 : List (Str × Gk) := ("_law_right", .fn F_law_right 3) :: l23
noncomputable def l25 : List (Str × Gk) := ("law", .fn F_law 1) :: l24
theorem t1 : trSs (tbx SX m0 l3) 60 (defScope s1) ["thing"] (defBody s1) = some Lib.b_is_whole := by kernel_rfl
theorem t2 : trSs (tbx SX m0 l4) 60 (defScope s2) ["one", "other"] (defBody s2) = some Lib.b_common := by kernel_rfl
theorem t3 : trSs (tbx SX m0 l5) 60 (defScope s3) ["thing", "part"] (defBody s3) = some Lib.b_is_number := by kernel_rfl
theorem t4 : trSs (tbx SX m0 l6) 60 (defScope s4) ["top", "bottom", "both"] (defBody s4) = some Lib.b_number := by kernel_rfl
theorem t5 : trSs (tbx SX m0 l7) 60 (defScope s5) ["one", "other"] (defBody s5) = some Lib.b_added := by kernel_rfl
theorem t6 : trSs (tbx SX m0 l8) 60 (defScope s6) ["one", "other"] (defBody s6) = some Lib.b_taken := by kernel_rfl
theorem t7 : trSs (tbx SX m0 l9) 60 (defScope s7) ["one", "other"] (defBody s7) = some Lib.b_multiplied := by kernel_rfl
theorem t8 : trSs (tbx SX m0 l10) 60 (defScope s8) ["one", "other"] (defBody s8) = some Lib.b_parted := by kernel_rfl
theorem t9 : trSs (tbx SX m0 l11) 60 (defScope s9) ["one", "other"] (defBody s9) = some Lib.b_is_less := by kernel_rfl
theorem t10 : trSs (tbx SX m0 l13) 60 (defScope s10) ["one"] (defBody s10) = some Lib.b_show_number := by kernel_rfl
theorem t11 : trSs (tbx SX m0 l14) 60 (defScope s11) ["text", "sign"] (defBody s11) = some Lib.b_are_figures := by kernel_rfl
theorem t12 : trSs (tbx SX m0 l15) 60 (defScope s12) ["text", "top", "stroke", "bottom", "figures"] (defBody s12) = some Lib.b_number_in := by kernel_rfl
theorem t13 : trSs (tbx SX m0 l16) 60 (defScope s13) ["text", "found"] (defBody s13) = some Lib.b_read_number := by kernel_rfl
theorem t14 : trSs (tbx SX m0 l17) 60 (defScope s14) ["_law_cell"] (defBody s14) = some (Lib.b_law_mixed 301029995663981195213738894724493026768189881462108541310427) := by kernel_rfl
theorem t15 : trSs (tbx SX m0 l18) 60 (defScope s15) ["_law_script", "_law_k", "_law_found", "_law_at"] (defBody s15) = some (Lib.b_law_pack 301029995663981195213738894724493026768189881462108541310427) := by kernel_rfl
theorem t16 : trSs (tbx SX m0 l19) 60 (defScope s16) ["_law_pack_here", "_law_size", "_law_digit"] (defBody s16) = some Lib.b_law_take := by kernel_rfl
theorem t17 : trSs (tbx SX m0 l20) 60 (defScope s17) ["_law_a", "_law_b", "_law_c", "_law_product"] (defBody s17) = some b_law_sums_right := by kernel_rfl
theorem t18 : trSs (tbx SX m0 l21) 60 (defScope s18) ["_law_a", "_law_b"] (defBody s18) = some b_law_parted_right := by kernel_rfl
theorem t19 : trSs (tbx SX m0 l22) 60 (defScope s19) ["_law_a", "_law_b", "_law_c", "_law_under", "_law_above"] (defBody s19) = some b_law_less_right := by kernel_rfl
theorem t20 : trSs (tbx SX m0 l23) 60 (defScope s20) ["_law_a", "_law_b", "_law_c"] (defBody s20) = some b_law_right := by kernel_rfl
theorem t21 : trSs (tbx SX m0 l24) 60 (defScope s21) ["_law_script", "_law_k", "_law_pack_here", "_law_some", "_law_turn", "_law_top", "_law_one"] (defBody s21) = some b_law := by kernel_rfl
/-! ### all the defs -/
theorem facts {P : Program} {w : World} {K : PySem.W.Frag} {h : Heap} {mg : Str → Option Value} {f : Addr} (X : K.In h) (G : h.Ns mainGlobals mg) (hfa : mg ("law" : Str) = some (.ref f)) (cR : Rf.SaysR tabs fa fn K) :
    ∃ fd : FuncData, (∀ (s : Shared) (v : Value), BindsTo s fd ⟨[v], []⟩ [("_law_script", v)]) ∧ ∀ base : Heap, K.In base → base.Ns mainGlobals mg → FnOk P w K mg base (L2.CX P w) 43 f fd ["_law_script"] (spW K F_law) := by
  have c : He.SaysD fa fn K := cR.d
  obtain ⟨fd0, fu0⟩ := c.def_ 0 (d := d0) rfl
  obtain ⟨fd1, fu1⟩ := c.def_ 1 (d := d1) rfl
  obtain ⟨fd2, fu2⟩ := c.def_ 2 (d := d2) rfl
  obtain ⟨fd3, fu3⟩ := c.def_ 3 (d := d3) rfl
  obtain ⟨fd4, fu4⟩ := c.def_ 4 (d := d4) rfl
  obtain ⟨fd5, fu5⟩ := c.def_ 5 (d := d5) rfl
  obtain ⟨fd6, fu6⟩ := c.def_ 6 (d := d6) rfl
  obtain ⟨fd7, fu7⟩ := c.def_ 7 (d := d7) rfl
  obtain ⟨fd8, fu8⟩ := c.def_ 8 (d := d8) rfl
  obtain ⟨fd9, fu9⟩ := c.def_ 9 (d := d9) rfl
  obtain ⟨fd10, fu10⟩ := c.def_ 10 (d := d10) rfl
  obtain ⟨fd11, fu11⟩ := c.def_ 11 (d := d11) rfl
  obtain ⟨fd12, fu12⟩ := c.def_ 12 (d := d12) rfl
  obtain ⟨fd13, fu13⟩ := c.def_ 13 (d := d13) rfl
  obtain ⟨fd14, fu14⟩ := c.def_ 14 (d := d14) rfl
  obtain ⟨fd15, fu15⟩ := c.def_ 15 (d := d15) rfl
  obtain ⟨fd16, fu16⟩ := c.def_ 16 (d := d16) rfl
  obtain ⟨fd17, fu17⟩ := c.def_ 17 (d := d17) rfl
  obtain ⟨fd18, fu18⟩ := c.def_ 18 (d := d18) rfl
  obtain ⟨fd19, fu19⟩ := c.def_ 19 (d := d19) rfl
  obtain ⟨fd20, fu20⟩ := c.def_ 20 (d := d20) rfl
  obtain ⟨fd21, fu21⟩ := c.def_ 21 (d := d21) rfl
  have e := hfa.symm.trans (He.glo_ok X G (c.fact 27 (f := .glo "law") rfl))
  cases e
  have b := FunD.bindsA (ps := ["_law_script"]) fu21 fun _ _ _ _ _ _ us hl => match us, hl with | [_], _ => rfl
  refine ⟨fd21, fun s v => b s [v] rfl, fun base _ _ => ?_⟩
  have blt : ∀ x ∈ bltNames, mg x = none := fun x hx => by
    simp only [bltNames, List.map_cons, List.map_nil, List.mem_cons, List.not_mem_nil, or_false] at hx
    rcases hx with rfl | rfl | rfl | rfl | rfl | rfl | rfl | rfl | rfl | rfl | rfl | rfl | rfl | rfl | rfl | rfl | rfl | rfl | rfl | rfl
    · exact He.free_ok X G (c.fact 28 (f := .free "len") rfl)
    · exact He.free_ok X G (c.fact 29 (f := .free "abs") rfl)
    · exact He.free_ok X G (c.fact 30 (f := .free "min") rfl)
    · exact He.free_ok X G (c.fact 31 (f := .free "max") rfl)
    · exact He.free_ok X G (c.fact 32 (f := .free "int") rfl)
    · exact He.free_ok X G (c.fact 33 (f := .free "str") rfl)
    · exact He.free_ok X G (c.fact 34 (f := .free "tuple") rfl)
    · exact He.free_ok X G (c.fact 35 (f := .free "list") rfl)
    · exact He.free_ok X G (c.fact 36 (f := .free "all") rfl)
    · exact He.free_ok X G (c.fact 37 (f := .free "any") rfl)
    · exact He.free_ok X G (c.fact 38 (f := .free "sum") rfl)
    · exact He.free_ok X G (c.fact 39 (f := .free "divmod") rfl)
    · exact He.free_ok X G (c.fact 40 (f := .free "isinstance") rfl)
    · exact He.free_ok X G (c.fact 41 (f := .free "range") rfl)
    · exact He.free_ok X G (c.fact 42 (f := .free "zip") rfl)
    · exact He.free_ok X G (c.fact 43 (f := .free "enumerate") rfl)
    · exact He.free_ok X G (c.fact 44 (f := .free "bool") rfl)
    · exact He.free_ok X G (c.fact 45 (f := .free "dict") rfl)
    · exact He.free_ok X G (c.fact 46 (f := .free "ValueError") rfl)
    · exact He.free_ok X G (c.fact 47 (f := .free "sorted") rfl)
  have g0 : Gd (tbx SX m0 l0) 0 P w K mg base := gd_nil X G blt (cR.tab 0 (t := .fx SX) rfl)
  have g1 : Gd (tbx SX m0 l1) 0 P w K mg base := gd_exc g0 ⟨He.glo_ok X G (c.fact 0 (f := .glo "CordError") rfl), He.exc_ok (c.fact 1 (f := .exc "CordError") rfl)⟩
  have g2 : Gd (tbx SX m0 l2) 0 P w K mg base := gd_exc g1 ⟨He.glo_ok X G (c.fact 2 (f := .glo "NoNumber") rfl), He.exc_ok (c.fact 3 (f := .exc "NoNumber") rfl)⟩
  have g3 : Gd (tbx SX m0 l3) 1 P w K mg base := gd_exi (c := "CordError") (C := "NoText") (D := "CordError") (f := "part") (st := s0) (s := "self") (q := "part") g2 (He.glo_ok X G (c.fact 4 (f := .glo "NoText") rfl)) (He.glo_ok X G (c.fact 0 (f := .glo "CordError") rfl)) (cR.tab 1 (t := .oex "NoText") rfl) (cR.tab 2 (t := .vei "CordError") rfl) (of_decide_eq_true (cR.tab 3 (t := .nof "NoText" "part") rfl)) (c.fact 5 (f := .meth "NoText" "__init__") rfl) fu0 (by kernel_rfl) (by kernel_rfl) rfl fun _ _ _ _ _ _ us hl => match us, hl with | [_, _], _ => rfl
  obtain ⟨ok1, g4⟩ := gd_step (k := 1) (np := 1) (x := "is_whole") (st := s1) (N := ["thing"]) (ps := ["thing"]) (F := Lib.F_is_whole) g3 fu1 (by kernel_rfl) t1 rfl (He.glo_ok X G (c.fact 6 (f := .glo "is_whole") rfl)) fun _ _ _ _ _ _ us hl => match us, hl with | [_], _ => rfl
  obtain ⟨ok2, g5⟩ := gd_step (k := 3) (np := 2) (x := "common") (st := s2) (N := ["one", "other"]) (ps := ["one", "other"]) (F := Lib.F_common) g4 fu2 (by kernel_rfl) t2 rfl (He.glo_ok X G (c.fact 7 (f := .glo "common") rfl)) fun _ _ _ _ _ _ us hl => match us, hl with | [_, _], _ => rfl
  obtain ⟨ok3, g6⟩ := gd_step (k := 5) (np := 1) (x := "is_number") (st := s3) (N := ["thing", "part"]) (ps := ["thing"]) (F := Lib.F_is_number) g5 fu3 (by kernel_rfl) t3 rfl (He.glo_ok X G (c.fact 8 (f := .glo "is_number") rfl)) fun _ _ _ _ _ _ us hl => match us, hl with | [_], _ => rfl
  obtain ⟨ok4, g7⟩ := gd_step (k := 7) (np := 2) (x := "number") (st := s4) (N := ["top", "bottom", "both"]) (ps := ["top", "bottom"]) (F := Lib.F_number) g6 fu4 (by kernel_rfl) t4 rfl (He.glo_ok X G (c.fact 9 (f := .glo "number") rfl)) fun _ _ _ _ _ _ us hl => match us, hl with | [_, _], _ => rfl
  obtain ⟨ok5, g8⟩ := gd_step (k := 9) (np := 2) (x := "added") (st := s5) (N := ["one", "other"]) (ps := ["one", "other"]) (F := Lib.F_added) g7 fu5 (by kernel_rfl) t5 rfl (He.glo_ok X G (c.fact 10 (f := .glo "added") rfl)) fun _ _ _ _ _ _ us hl => match us, hl with | [_, _], _ => rfl
  obtain ⟨ok6, g9⟩ := gd_step (k := 11) (np := 2) (x := "taken") (st := s6) (N := ["one", "other"]) (ps := ["one", "other"]) (F := Lib.F_taken) g8 fu6 (by kernel_rfl) t6 rfl (He.glo_ok X G (c.fact 11 (f := .glo "taken") rfl)) fun _ _ _ _ _ _ us hl => match us, hl with | [_, _], _ => rfl
  obtain ⟨ok7, g10⟩ := gd_step (k := 13) (np := 2) (x := "multiplied") (st := s7) (N := ["one", "other"]) (ps := ["one", "other"]) (F := Lib.F_multiplied) g9 fu7 (by kernel_rfl) t7 rfl (He.glo_ok X G (c.fact 12 (f := .glo "multiplied") rfl)) fun _ _ _ _ _ _ us hl => match us, hl with | [_, _], _ => rfl
  obtain ⟨ok8, g11⟩ := gd_step (k := 15) (np := 2) (x := "parted") (st := s8) (N := ["one", "other"]) (ps := ["one", "other"]) (F := Lib.F_parted) g10 fu8 (by kernel_rfl) t8 rfl (He.glo_ok X G (c.fact 13 (f := .glo "parted") rfl)) fun _ _ _ _ _ _ us hl => match us, hl with | [_, _], _ => rfl
  obtain ⟨ok9, g12⟩ := gd_step (k := 17) (np := 2) (x := "is_less") (st := s9) (N := ["one", "other"]) (ps := ["one", "other"]) (F := Lib.F_is_less) g11 fu9 (by kernel_rfl) t9 rfl (He.glo_ok X G (c.fact 14 (f := .glo "is_less") rfl)) fun _ _ _ _ _ _ us hl => match us, hl with | [_, _], _ => rfl
  obtain ⟨tk12, hc12⟩ := He.str_ok X G (c.fact 15 (f := .str "FIGURES" "0123456789") rfl)
  have g13 : Gd (tbx SX m0 l13) 19 P w K mg base := gd_con (v0 := .str "0123456789") g12 hc12 ⟨tk12, rfl⟩ fun F => .str _
  obtain ⟨ok10, g14⟩ := gd_step (k := 19) (np := 1) (x := "show_number") (st := s10) (N := ["one"]) (ps := ["one"]) (F := Lib.F_show_number) g13 fu10 (by kernel_rfl) t10 rfl (He.glo_ok X G (c.fact 16 (f := .glo "show_number") rfl)) fun _ _ _ _ _ _ us hl => match us, hl with | [_], _ => rfl
  obtain ⟨ok11, g15⟩ := gd_step (k := 21) (np := 1) (x := "are_figures") (st := s11) (N := ["text", "sign"]) (ps := ["text"]) (F := Lib.F_are_figures) g14 fu11 (by kernel_rfl) t11 rfl (He.glo_ok X G (c.fact 17 (f := .glo "are_figures") rfl)) fun _ _ _ _ _ _ us hl => match us, hl with | [_], _ => rfl
  obtain ⟨ok12, g16⟩ := gd_step (k := 23) (np := 1) (x := "number_in") (st := s12) (N := ["text", "top", "stroke", "bottom", "figures"]) (ps := ["text"]) (F := Lib.F_number_in) g15 fu12 (by kernel_rfl) t12 rfl (He.glo_ok X G (c.fact 18 (f := .glo "number_in") rfl)) fun _ _ _ _ _ _ us hl => match us, hl with | [_], _ => rfl
  obtain ⟨ok13, g17⟩ := gd_step (k := 25) (np := 1) (x := "read_number") (st := s13) (N := ["text", "found"]) (ps := ["text"]) (F := Lib.F_read_number) g16 fu13 (by kernel_rfl) t13 rfl (He.glo_ok X G (c.fact 19 (f := .glo "read_number") rfl)) fun _ _ _ _ _ _ us hl => match us, hl with | [_], _ => rfl
  obtain ⟨ok14, g18⟩ := gd_step (k := 27) (np := 1) (x := "_law_mixed") (st := s14) (N := ["_law_cell"]) (ps := ["_law_cell"]) (F := (Lib.F_law_mixed 301029995663981195213738894724493026768189881462108541310427)) g17 fu14 (by kernel_rfl) t14 rfl (He.glo_ok X G (c.fact 20 (f := .glo "_law_mixed") rfl)) fun _ _ _ _ _ _ us hl => match us, hl with | [_], _ => rfl
  obtain ⟨ok15, g19⟩ := gd_step (k := 29) (np := 2) (x := "_law_pack") (st := s15) (N := ["_law_script", "_law_k", "_law_found", "_law_at"]) (ps := ["_law_script", "_law_k"]) (F := (Lib.F_law_pack 301029995663981195213738894724493026768189881462108541310427)) g18 fu15 (by kernel_rfl) t15 rfl (He.glo_ok X G (c.fact 21 (f := .glo "_law_pack") rfl)) fun _ _ _ _ _ _ us hl => match us, hl with | [_, _], _ => rfl
  obtain ⟨ok16, g20⟩ := gd_step (k := 31) (np := 2) (x := "_law_take") (st := s16) (N := ["_law_pack_here", "_law_size", "_law_digit"]) (ps := ["_law_pack_here", "_law_size"]) (F := Lib.F_law_take) g19 fu16 (by kernel_rfl) t16 rfl (He.glo_ok X G (c.fact 22 (f := .glo "_law_take") rfl)) fun _ _ _ _ _ _ us hl => match us, hl with | [_, _], _ => rfl
  obtain ⟨ok17, g21⟩ := gd_step (k := 33) (np := 3) (x := "_law_sums_right") (st := s17) (N := ["_law_a", "_law_b", "_law_c", "_law_product"]) (ps := ["_law_a", "_law_b", "_law_c"]) (F := F_law_sums_right) g20 fu17 (by kernel_rfl) t17 rfl (He.glo_ok X G (c.fact 23 (f := .glo "_law_sums_right") rfl)) fun _ _ _ _ _ _ us hl => match us, hl with | [_, _, _], _ => rfl
  obtain ⟨ok18, g22⟩ := gd_step (k := 35) (np := 2) (x := "_law_parted_right") (st := s18) (N := ["_law_a", "_law_b"]) (ps := ["_law_a", "_law_b"]) (F := F_law_parted_right) g21 fu18 (by kernel_rfl) t18 rfl (He.glo_ok X G (c.fact 24 (f := .glo "_law_parted_right") rfl)) fun _ _ _ _ _ _ us hl => match us, hl with | [_, _], _ => rfl
  obtain ⟨ok19, g23⟩ := gd_step (k := 37) (np := 3) (x := "_law_less_right") (st := s19) (N := ["_law_a", "_law_b", "_law_c", "_law_under", "_law_above"]) (ps := ["_law_a", "_law_b", "_law_c"]) (F := F_law_less_right) g22 fu19 (by kernel_rfl) t19 rfl (He.glo_ok X G (c.fact 25 (f := .glo "_law_less_right") rfl)) fun _ _ _ _ _ _ us hl => match us, hl with | [_, _, _], _ => rfl
  obtain ⟨ok20, g24⟩ := gd_step (k := 39) (np := 3) (x := "_law_right") (st := s20) (N := ["_law_a", "_law_b", "_law_c"]) (ps := ["_law_a", "_law_b", "_law_c"]) (F := F_law_right) g23 fu20 (by kernel_rfl) t20 rfl (He.glo_ok X G (c.fact 26 (f := .glo "_law_right") rfl)) fun _ _ _ _ _ _ us hl => match us, hl with | [_, _, _], _ => rfl
  obtain ⟨ok21, g25⟩ := gd_step (k := 41) (np := 1) (x := "law") (st := s21) (N := ["_law_script", "_law_k", "_law_pack_here", "_law_some", "_law_turn", "_law_top", "_law_one"]) (ps := ["_law_script"]) (F := F_law) g24 fu21 (by kernel_rfl) t21 rfl (He.glo_ok X G (c.fact 27 (f := .glo "law") rfl)) fun _ _ _ _ _ _ us hl => match us, hl with | [_], _ => rfl
  exact ok21
end LawH
open PySem PySem.W PySem.Calls PyProof.Rows
theorem PySem.Challenge.cw_levelcord_k06_whole_numbers_agree_holds : PySem.Challenge.rw_levelcord_k06_whole_numbers_agree.Holds := by
    refine LawH.h_early ?_
    refine Rf.law_end (l := PySem.Challenge.rw_levelcord_k06_whole_numbers_agree) (n := 63) (k := 43) (x := "_law_script") (Fn := Rf.LawT.F_law) rfl (by decide) (by kernel_rfl) ⟨rfl, by decide, by decide⟩ ?F Rf.LawT.pure_law
    intro w mg fa h Y G hmg0
    obtain ⟨K, KX, c⟩ := Y
    have hmg : mg ("law" : PySem.Str) = some (.ref fa) := by
      have e : (HandSHeadRun.topDef (OpenLaw.row PySem.Challenge.rw_levelcord_k06_whole_numbers_agree).prog 28).name = ("law" : PySem.Str) := by kernel_rfl
      rw [← e]
      exact hmg0
    obtain ⟨fd, hb, hF⟩ := LawH.facts (P := (PySem.Challenge.rw_levelcord_k06_whole_numbers_agree).prog) (w := w) KX G hmg c
    exact ⟨K, fd, KX, hb, hF⟩
