import PyProof.Rows.All
import Wide.All
import OpenK.AllK
import Wide.FinOn
import KE.KStateDown
import Lean
import HandS.ForMost
import HandS.Exc
import HandS.ExcOwn
import HandS.ExcInit
import HandS.TryOnly
import HandS.WordsExc
import HandS.Defaults
import HandS.MakeKwOnly
import HandS.Star
import HandS.Property
import HandS.IsInst
import HandS.Strs
import HandS.Zip
import HandS.Deep
import HandS.TupLe
import HandS.Wide
import HandS.Walk
import HandS.Flow
import HandS.Head0
import HandS.Head1
import HandS.Head2
import HandS.HeadEnd
import HandS.HeadHook1
import HandS.HeadHook2
import PySem.Challenge.RW_ringindexes_k86_whole_least_sets_for_a_s
import KE.KExcSuper
import HandS.Nested
import OpenK.KOps
import PyProof.Conv_bool
import PyProof.Rows.Range3
import HandS.More
import PyProof.DictUpdate
import KE.GoesMore
import KE.GoesEnum
import PyProof.EnumMake
import KE.DataCmp
set_option Elab.async false
set_option linter.all false
set_option maxRecDepth 100000
set_option maxHeartbeats 4000000
/-! where each def stands -/
namespace Ls
open PySem PySem.Spec PyProof.Rows L2
def top (i : Nat) : Stmt := PySem.Challenge.pw_ringindexes_k86_whole_least_sets_for_a_s.main.body.getD i (.Pass ⟨0, 0, 0, 0⟩)

abbrev s_is_whole : Stmt := top 13
abbrev s_is_between : Stmt := top 14
abbrev s_is_size : Stmt := top 15
abbrev s_row_of : Stmt := top 31
abbrev s_copy_of : Stmt := top 32
abbrev s_is_word : Stmt := top 33
abbrev s_is_part_form : Stmt := top 34
abbrev s_is_wrap : Stmt := top 35
abbrev s_is_slot : Stmt := top 36
abbrev s_is_full_rule : Stmt := top 37
abbrev s_modulus_at : Stmt := top 54
abbrev s_has_outside : Stmt := top 55
abbrev s_mask_gap : Stmt := top 56
abbrev s_gap_at : Stmt := top 57
abbrev s_room_at : Stmt := top 59
abbrev s_look_at : Stmt := top 66
abbrev s_is_piece : Stmt := top 67
abbrev s_alike_at : Stmt := top 72
abbrev s_window_at : Stmt := top 73
abbrev s_cause_at : Stmt := top 75
abbrev s_breaking_run : Stmt := top 76
abbrev s_verdict_of : Stmt := top 78
abbrev s_is_change : Stmt := top 90
abbrev s_made : Stmt := top 91
abbrev s_look_at_goal : Stmt := top 92
abbrev s_reaches : Stmt := top 93
abbrev s_all_sets : Stmt := top 94
abbrev s_least_sets : Stmt := top 95
abbrev s_law_source : Stmt := top 97
abbrev s_law_draw : Stmt := top 98
abbrev s_law_pick : Stmt := top 99
abbrev s_law_limit : Stmt := top 100
abbrev s_law_parts : Stmt := top 101
abbrev s_law_wrap : Stmt := top 102
abbrev s_law_rule : Stmt := top 103
abbrev s_law_scheme : Stmt := top 104
abbrev s_law_modulus : Stmt := top 105
abbrev s_law_size : Stmt := top 107
abbrev s_law_power : Stmt := top 108
abbrev s_law_room : Stmt := top 109
abbrev s_law_window : Stmt := top 110
abbrev s_law_cause : Stmt := top 111
abbrev s_law_change : Stmt := top 112
abbrev s_law_object : Stmt := top 113
abbrev s_law_menu : Stmt := top 114
abbrev s_law_made : Stmt := top 115
abbrev s_law_sets : Stmt := top 116
abbrev s_law_reaches : Stmt := top 117
abbrev s_law_least : Stmt := top 118
abbrev s_law_ordered : Stmt := top 119
abbrev s_law : Stmt := top 120
abbrev s_NoScheme_init : Stmt := inClass (top 4) 0
abbrev s_Form_init : Stmt := inClass (top 20) 0
abbrev s_Scheme_init : Stmt := inClass (top 30) 0
abbrev s_Scheme_remade : Stmt := inClass (top 30) 12
abbrev s_Run_init : Stmt := inClass (top 64) 0
abbrev s_Verdict_init : Stmt := inClass (top 77) 0
abbrev s_Verdict_bool : Stmt := inClass (top 77) 1
abbrev s_Menu_init : Stmt := inClass (top 89) 0
abbrev s_Scheme_wrap : Stmt := inClass (top 30) 1
abbrev s_Scheme_slot : Stmt := inClass (top 30) 3
abbrev s_Scheme_empty : Stmt := inClass (top 30) 5
abbrev s_Scheme_full : Stmt := inClass (top 30) 7
abbrev s_Scheme_when : Stmt := inClass (top 30) 9
end Ls
set_option Elab.async false
set_option linter.all false
set_option maxRecDepth 100000
set_option maxHeartbeats 4000000
/-! what is read off the top: defs by an address function, further Bool facts; the Hook -/
namespace Ls
open PySem PySem.Spec PyProof.Rows L2
abbrev Fr := PySem.W.Frag
def getterAt (K : Fr) (p : Addr) : Addr :=
  match PySem.W.recIn K p "property" with
  | some (.ref g :: _) => g
  | _ => 0
/-- a def of the text: where it is found, what it is -/
structure DefA where
  ad : Fr → Addr
  name : Str
  qual : Str
  params : Arguments
  body : List Stmt
  scope : Scope
  dfl : List He.Dv := []
  kwd : List (Str × He.Dv) := []
  cl : List Str := []
def fnA (K : Fr) (a : Addr) : He.FnW :=
  match K.lookup a with
  | some ob => (match ob.data with
    | .func z => some (z.name, z.qualname, z.params, z.body, z.scope, z.globals, z.closure.map (fun q => (q.1, 0)), z.builtins)
    | _ => none)
  | none => none
def DefA.val (d : DefA) : He.FnW :=
  some (d.name, d.qual, d.params, .stmts d.body, d.scope, mainGlobals, d.cl.map (fun x => (x, 0)), builtinsNs)
def DefA.dvs (K : Fr) (d : DefA) : List V := d.dfl.map (He.Dv.v K)
def DefA.kws (K : Fr) (d : DefA) : List (Str × V) := d.kwd.map fun q => (q.1, q.2.v K)
def restOk (K : Fr) (d : DefA) : Option Obj → Bool
  | some ob => (match ob.data with
    | .func z => PySem.W.codeIn K z.code d.qual && (He.dflB K z.defaults (d.dvs K) && He.kwdB K z.kwdefaults (d.kws K))
    | _ => false)
  | none => false
def DefA.ok (K : Fr) (d : DefA) : Bool :=
  PySem.W.keepIn K (.ref (d.ad K)) && restOk K d (K.lookup (d.ad K))
abbrev FunA (K : Fr) (d : DefA) (fd : FuncData) : Prop :=
  FunD K d.name d.qual d.params d.body d.scope (d.dvs K) (d.kws K) (d.ad K) fd
theorem DefA.funD {K : Fr} {d : DefA} (e : fnA K (d.ad K) = d.val) (c : d.ok K = true) (hcl : d.cl = []) : ∃ fd, FunA K d fd := by
  obtain ⟨c1, c2⟩ := Bool.and_eq_true_iff.mp c
  unfold fnA at e
  cases look : K.lookup (d.ad K) with
  | none => rw [look] at c2; exact Bool.noConfusion c2
  | some ob =>
    rw [look] at c2 e
    obtain ⟨o1, o2, o3, o4⟩ := ob
    cases o3 with
    | func z =>
      obtain ⟨a1, a2, a3, a4, a5, a6, a7, a8, a9, a10, a11, a12, a13, a14, a15⟩ := z
      have t : (some (a1, a2, a3, a4, a5, a6, a7.map (fun q => (q.1, 0)), a15) : He.FnW) = d.val := e
      simp only [DefA.val, hcl, List.map_nil, List.map_eq_nil_iff, Option.some.injEq, Prod.mk.injEq] at t
      obtain ⟨t1, t2, t3, t4, t5, t6, t7, t8⟩ := t
      subst t1 t2 t3 t4 t5 t6 t7 t8
      obtain ⟨k1, k2⟩ := Bool.and_eq_true_iff.mp (show (PySem.W.codeIn K a13 d.qual && (He.dflB K a8 (d.dvs K) && He.kwdB K a9 (d.kws K))) = true from c2)
      obtain ⟨k3, k4⟩ := Bool.and_eq_true_iff.mp k2
      exact ⟨_, ⟨o1, o2, a8, a9, a10, a11, a12, a13, a14, o4, rfl, look, k1, He.dflB_ok k3, He.kwdB_ok k4⟩, c1⟩
    | _ => exact Bool.noConfusion c2
/-! ### the written part that is looked at -/
def refsOf (g : Addr → Option Obj) (as : List Addr) : List Addr :=
  as.flatMap fun a => match g a with
    | some o => He.refsD o
    | none => []
def isCls (o : Obj) : Bool := match o.data with
  | .cls _ => true
  | _ => false
def isDict (o : Obj) : Bool := match o.data with
  | .dict _ _ => true
  | _ => false
def pick (g : Addr → Option Obj) (p : Obj → Bool) (as : List Addr) : List Addr :=
  as.filter fun a => match g a with
    | some o => p o
    | none => false
/-- the used names' objects, what these name; of classes their dicts, what stands in them, and the getters' code -/
def adrs (g : Addr → Option Obj) (used : List Str) : List Addr :=
  let l1 := used.map (He.ga (He.frG g [mainGlobals]))
  let l2 := refsOf g l1
  let l3 := refsOf g (pick g isDict l2)
  let l4 := refsOf g l3
  let l5 := refsOf g l4
  mainGlobals :: cStatics :: (l1 ++ (l2 ++ (l3 ++ (l4 ++ l5))))
abbrev Al : Type := Bool × List He.FnW
def obsA (fa : List He.Fa) (fn : List DefA) (ex : Fr → Bool) (K : Fr) : Al :=
  ((fa.all fun f => f.ok K) && ((fn.all fun d => d.ok K) && ex K), fn.map fun d => fnA K (d.ad K))
def valA (fn : List DefA) : Al := (true, fn.map DefA.val)
def SaysA (fa : List He.Fa) (fn : List DefA) (ex : Fr → Bool) (K : Fr) : Prop := obsA fa fn ex K = valA fn
def obsAG (used : List Str) (fa : List He.Fa) (fn : List DefA) (ex : Fr → Bool) (g : Addr → Option Obj) : Al :=
  obsA fa fn ex (He.frG g (adrs g used))
def hookA (used : List Str) (fa : List He.Fa) (fn : List DefA) (ex : Fr → Bool) : PySem.W.Hook where
  α := Al
  obs := fun z => obsAG used fa fn ex z.heap.get?
  val := fun _ => valA fn
  says := fun _ h => ∃ K : Fr, K.In h ∧ SaysA fa fn ex K
  of := fun _ _ q => ⟨_, He.frG_in, q⟩
  keeps := fun _ _ _ ⟨K, hK, c⟩ k => ⟨K, PySem.W.Frag.In.keeps hK k, c⟩
theorem obsAG_eq {used : List Str} {fa : List He.Fa} {fn : List DefA} {ex : Fr → Bool} {g : Addr → Option Obj} {z : Shared}
    (h : ∀ a, g a = z.heap.get? a) : obsAG used fa fn ex g = (hookA used fa fn ex).obs z := by
  have e : g = z.heap.get? := funext h
  subst e
  rfl
section
variable {fa : List He.Fa} {fn : List DefA} {ex : Fr → Bool} {K : Fr}
theorem SaysA.facts (c : SaysA fa fn ex K) {f : He.Fa} (h : f ∈ fa) : f.ok K = true := by
  have c1 := (Bool.and_eq_true_iff.mp (congrArg Prod.fst c)).1
  exact List.all_eq_true.mp c1 f h
theorem SaysA.more (c : SaysA fa fn ex K) : ex K = true :=
  (Bool.and_eq_true_iff.mp (Bool.and_eq_true_iff.mp (congrArg Prod.fst c)).2).2
theorem SaysA.defn (c : SaysA fa fn ex K) (i : Nat) {d : DefA} (h : fn[i]? = some d) (hcl : d.cl = [] := by rfl) : ∃ fd, FunA K d fd := by
  have c1 := (Bool.and_eq_true_iff.mp (Bool.and_eq_true_iff.mp (congrArg Prod.fst c)).2).1
  have e : fn.map (fun d => fnA K (d.ad K)) = fn.map DefA.val := congrArg Prod.snd c
  have e1 := congrArg (fun l : List He.FnW => l[i]?) e
  simp only [List.getElem?_map, h, Option.map_some] at e1
  exact DefA.funD (Option.some.inj e1) (List.all_eq_true.mp c1 d (List.mem_of_getElem? h)) hcl
theorem SaysA.raw (c : SaysA fa fn ex K) (i : Nat) {d : DefA} (h : fn[i]? = some d) : fnA K (d.ad K) = d.val ∧ d.ok K = true := by
  have c1 := (Bool.and_eq_true_iff.mp (Bool.and_eq_true_iff.mp (congrArg Prod.fst c)).2).1
  have e : fn.map (fun d => fnA K (d.ad K)) = fn.map DefA.val := congrArg Prod.snd c
  have e1 := congrArg (fun l : List He.FnW => l[i]?) e
  simp only [List.getElem?_map, h, Option.map_some] at e1
  exact ⟨Option.some.inj e1, List.all_eq_true.mp c1 d (List.mem_of_getElem? h)⟩
end
/-! ### properties -/
def propB (K : Fr) (x f : Str) : Bool :=
  decide (PySem.W.findIn K (.ref (He.ga K x)) f = some (some (.ref (He.ma K (He.ga K x) f)))) &&
  (decide (PySem.W.specialIn K (.ref (He.ma K (He.ga K x) f)) "__get__" = some (some (.builtin "property.__get__"))) &&
  (decide (PySem.W.takesIn K (.ref (He.ma K (He.ga K x) f)) = some true) &&
  (match PySem.W.recIn K (He.ma K (He.ga K x) f) "property" with
    | some (.ref _ :: _) => true
    | _ => false)))
theorem propB_ok {K : Fr} {x f : Str} (h : propB K x f = true) :
    PropOf K (He.ga K x) f (He.ma K (He.ga K x) f) (getterAt K (He.ma K (He.ga K x) f)) := by
  obtain ⟨h1, h⟩ := Bool.and_eq_true_iff.mp h
  obtain ⟨h2, h⟩ := Bool.and_eq_true_iff.mp h
  obtain ⟨h3, h4⟩ := Bool.and_eq_true_iff.mp h
  refine ⟨of_decide_eq_true h1, of_decide_eq_true h2, of_decide_eq_true h3, ?_⟩
  unfold getterAt
  split at h4
  · rename_i g r e
    exact ⟨r, by rw [e]⟩
  · exact Bool.noConfusion h4
/-! ### isinstance of own instances -/
def instB (K : Fr) (x : Str) : Bool :=
  decide (PySem.W.findIn K (.ref (He.ga K x)) "__class__" = some (some (.builtin "object.__class__"))) &&
  (decide (PySem.W.specialIn K (.builtin "object.__class__") "__get__" = some (some (.builtin "getset_descriptor.__get__"))) &&
  (decide (PySem.W.takesIn K (.builtin "object.__class__") = some true) &&
  decide (PySem.W.mroIn K (He.ga K x) (.type "object") = some true)))
structure InstC (K : Fr) (C : Addr) : Prop where
  ha : PySem.W.findIn K (.ref C) "__class__" = some (some (.builtin "object.__class__"))
  hn : PySem.W.specialIn K (.builtin "object.__class__") "__get__" = some (some (.builtin "getset_descriptor.__get__"))
  ht : PySem.W.takesIn K (.builtin "object.__class__") = some true
  hm : PySem.W.mroIn K C (.type "object") = some true
theorem instB_ok {K : Fr} {x : Str} (h : instB K x = true) : InstC K (He.ga K x) := by
  obtain ⟨h1, h⟩ := Bool.and_eq_true_iff.mp h
  obtain ⟨h2, h⟩ := Bool.and_eq_true_iff.mp h
  obtain ⟨h3, h4⟩ := Bool.and_eq_true_iff.mp h
  exact ⟨of_decide_eq_true h1, of_decide_eq_true h2, of_decide_eq_true h3, of_decide_eq_true h4⟩
/-! ### a method as a value -/
def bmB (K : Fr) (x m : Str) : Bool :=
  decide (PySem.W.specialIn K (.ref (He.ma K (He.ga K x) m)) "__get__" = some (some (.builtin "function.__get__"))) &&
  (decide (PySem.W.takesIn K (.ref (He.ma K (He.ga K x) m)) = some false) && PySem.W.fnIn K (He.ma K (He.ga K x) m))
/-! ### the own exception -/
def excB (K : Fr) (C : Addr) : Bool :=
  match K.lookup C with
  | some ⟨.type t, _, .cls cd, sl⟩ => (match cd.mro, sl.toList with
    | .ref D :: bm, [_, _, _, _, some (.builtin n), _] =>
      decide (t = "type") && (decide (D = C) && (decide (n = "ValueError.__new__") && (!cd.hasDel && (cd.hasDict && PySem.HandSPX.refsVE bm))))
    | _, _ => false)
  | _ => false
def oexB (K : Fr) (x : Str) : Bool :=
  excB K (He.ga K x) &&
  (decide (PySem.W.findIn K (.ref (He.ga K x)) "__setattr__" = some (some (.builtin "object.__setattr__"))) &&
  (decide (PySem.W.subIn K (.ref (He.ga K x)) (.type "BaseException") = some true) &&
  (decide (PySem.W.typeIn K (.ref (He.ga K x)) = some (.type "type")) &&
  PySem.W.keepIn K (.ref (He.ga K x)))))
theorem oexB_ok {K : Fr} {x : Str} (h : oexB K x = true) : OexC K (He.ga K x) := by
  obtain ⟨h1, h⟩ := Bool.and_eq_true_iff.mp h
  obtain ⟨h2, h⟩ := Bool.and_eq_true_iff.mp h
  obtain ⟨h3, h⟩ := Bool.and_eq_true_iff.mp h
  obtain ⟨h4, h5⟩ := Bool.and_eq_true_iff.mp h
  refine ⟨?_, of_decide_eq_true h2, of_decide_eq_true h3, of_decide_eq_true h4, h5⟩
  unfold excB at h1
  split at h1
  · rename_i t dd cd sl e
    split at h1
    · rename_i D bm k0 k1 k2 k3 n k5 hm hs
      obtain ⟨q1, h1⟩ := Bool.and_eq_true_iff.mp h1
      obtain ⟨q2, h1⟩ := Bool.and_eq_true_iff.mp h1
      obtain ⟨q3, h1⟩ := Bool.and_eq_true_iff.mp h1
      obtain ⟨q4, h1⟩ := Bool.and_eq_true_iff.mp h1
      obtain ⟨q5, q6⟩ := Bool.and_eq_true_iff.mp h1
      have r1 := of_decide_eq_true q1
      have r2 := of_decide_eq_true q2
      have r3 := of_decide_eq_true q3
      have r4 : cd.hasDel = false := by simpa using q4
      obtain ⟨c1, c2, c3, c4, c5, c6, c7, c8, c9, c10, c11⟩ := cd
      dsimp only at hm r4 q5
      subst r1 r3 r4 q5
      subst hm
      have es : sl = #[k0, k1, k2, k3, some (.builtin "ValueError.__new__"), k5] := by
        obtain ⟨l⟩ := sl
        simp only at hs
        rw [hs]
      subst es
      refine ⟨c1, c5, c4, c2, bm, c7, c8, c9, c10, dd, k0, k1, k2, k3, k5, ?_, q6⟩
      rw [e, r2]
    · exact Bool.noConfusion h1
  · exact Bool.noConfusion h1
/-- its __init__, a def over the cell of its class -/
def initAt (K : Fr) (x : Str) : Addr := He.ma K (He.ga K x) "__init__"
def cellB (K : Fr) (c C : Addr) : Bool :=
  match K.lookup c with
  | some ob => (match ob.data with
    | .cell (some (.ref D)) => decide (D = C)
    | _ => false)
  | none => false
def codeB (K : Fr) (c : Value) (file q : Str) : Bool :=
  match c with
  | .ref a => (match K.lookup a with
    | some ob => (match ob.data with
      | .fields vs => (match vs.toList with
        | _ :: _ :: Value.str z _ :: _ => decide (z = file)
        | _ => false)
      | _ => false)
    | none => false) && PySem.W.codeIn K c q
  | _ => false
def initB (K : Fr) (x q : Str) (d : Stmt) (file : Str) : Bool :=
  PySem.W.isFn K (.ref (initAt K x)) && (
  decide (PySem.W.findIn K (.ref (He.ga K x)) "__init__" = some (some (.ref (initAt K x)))) && (
  decide (PySem.W.mroIn K (He.ga K x) (.ref (He.ga K x)) = some true) && (
  decide (PySem.W.subIn K (.ref (He.ga K x)) (.type "ValueError") = some true) && (
  decide (PySem.W.ks_superIn K (He.ga K x) (He.ga K x) "__init__" = some (some (.builtin "ValueError.__init__"))) && (
  decide (PySem.W.nsIn K cStatics "thirdparty.any" = some none) && (
  decide (PySem.W.findIn K (.ref (He.ga K x)) "part" = some none) && (
  match K.lookup (initAt K x) with
  | some ob => (match ob.data with
    | .func z => (match z.closure with
      | [(n, c)] => decide (n = "__class__") && (cellB K c (He.ga K x) && codeB K z.code file q)
      | _ => false)
    | _ => false)
  | none => false)))))))
end Ls
set_option Elab.async false
set_option linter.all false
set_option maxRecDepth 100000
set_option maxHeartbeats 0
/-! the head: one kernel run of the top, the facts by names -/
namespace Ls
open PySem PySem.Spec PyProof.Rows L2

def d_is_whole : DefA := ⟨(fun K => He.ga K "is_whole"), "is_whole", "is_whole", defArgs s_is_whole, defBody s_is_whole, defScope s_is_whole, [], [], []⟩
def d_is_between : DefA := ⟨(fun K => He.ga K "is_between"), "is_between", "is_between", defArgs s_is_between, defBody s_is_between, defScope s_is_between, [], [], []⟩
def d_is_size : DefA := ⟨(fun K => He.ga K "is_size"), "is_size", "is_size", defArgs s_is_size, defBody s_is_size, defScope s_is_size, [], [], []⟩
def d_row_of : DefA := ⟨(fun K => He.ga K "row_of"), "row_of", "row_of", defArgs s_row_of, defBody s_row_of, defScope s_row_of, [], [], []⟩
def d_copy_of : DefA := ⟨(fun K => He.ga K "copy_of"), "copy_of", "copy_of", defArgs s_copy_of, defBody s_copy_of, defScope s_copy_of, [], [], []⟩
def d_is_word : DefA := ⟨(fun K => He.ga K "is_word"), "is_word", "is_word", defArgs s_is_word, defBody s_is_word, defScope s_is_word, [], [], []⟩
def d_is_part_form : DefA := ⟨(fun K => He.ga K "is_part_form"), "is_part_form", "is_part_form", defArgs s_is_part_form, defBody s_is_part_form, defScope s_is_part_form, [], [], []⟩
def d_is_wrap : DefA := ⟨(fun K => He.ga K "is_wrap"), "is_wrap", "is_wrap", defArgs s_is_wrap, defBody s_is_wrap, defScope s_is_wrap, [], [], []⟩
def d_is_slot : DefA := ⟨(fun K => He.ga K "is_slot"), "is_slot", "is_slot", defArgs s_is_slot, defBody s_is_slot, defScope s_is_slot, [], [], []⟩
def d_is_full_rule : DefA := ⟨(fun K => He.ga K "is_full_rule"), "is_full_rule", "is_full_rule", defArgs s_is_full_rule, defBody s_is_full_rule, defScope s_is_full_rule, [], [], []⟩
def d_modulus_at : DefA := ⟨(fun K => He.ga K "modulus_at"), "modulus_at", "modulus_at", defArgs s_modulus_at, defBody s_modulus_at, defScope s_modulus_at, [], [], []⟩
def d_has_outside : DefA := ⟨(fun K => He.ga K "has_outside"), "has_outside", "has_outside", defArgs s_has_outside, defBody s_has_outside, defScope s_has_outside, [], [], []⟩
def d_mask_gap : DefA := ⟨(fun K => He.ga K "mask_gap"), "mask_gap", "mask_gap", defArgs s_mask_gap, defBody s_mask_gap, defScope s_mask_gap, [], [], []⟩
def d_gap_at : DefA := ⟨(fun K => He.ga K "gap_at"), "gap_at", "gap_at", defArgs s_gap_at, defBody s_gap_at, defScope s_gap_at, [], [], []⟩
def d_room_at : DefA := ⟨(fun K => He.ga K "room_at"), "room_at", "room_at", defArgs s_room_at, defBody s_room_at, defScope s_room_at, [], [], []⟩
def d_look_at : DefA := ⟨(fun K => He.ga K "look_at"), "look_at", "look_at", defArgs s_look_at, defBody s_look_at, defScope s_look_at, [], [], []⟩
def d_is_piece : DefA := ⟨(fun K => He.ga K "is_piece"), "is_piece", "is_piece", defArgs s_is_piece, defBody s_is_piece, defScope s_is_piece, [], [], []⟩
def d_alike_at : DefA := ⟨(fun K => He.ga K "alike_at"), "alike_at", "alike_at", defArgs s_alike_at, defBody s_alike_at, defScope s_alike_at, [], [], []⟩
def d_window_at : DefA := ⟨(fun K => He.ga K "window_at"), "window_at", "window_at", defArgs s_window_at, defBody s_window_at, defScope s_window_at, [], [], []⟩
def d_cause_at : DefA := ⟨(fun K => He.ga K "cause_at"), "cause_at", "cause_at", defArgs s_cause_at, defBody s_cause_at, defScope s_cause_at, [], [], []⟩
def d_breaking_run : DefA := ⟨(fun K => He.ga K "breaking_run"), "breaking_run", "breaking_run", defArgs s_breaking_run, defBody s_breaking_run, defScope s_breaking_run, [], [], []⟩
def d_verdict_of : DefA := ⟨(fun K => He.ga K "verdict_of"), "verdict_of", "verdict_of", defArgs s_verdict_of, defBody s_verdict_of, defScope s_verdict_of, [], [], []⟩
def d_is_change : DefA := ⟨(fun K => He.ga K "is_change"), "is_change", "is_change", defArgs s_is_change, defBody s_is_change, defScope s_is_change, [], [], []⟩
def d_made : DefA := ⟨(fun K => He.ga K "made"), "made", "made", defArgs s_made, defBody s_made, defScope s_made, [], [], []⟩
def d_look_at_goal : DefA := ⟨(fun K => He.ga K "look_at_goal"), "look_at_goal", "look_at_goal", defArgs s_look_at_goal, defBody s_look_at_goal, defScope s_look_at_goal, [], [], []⟩
def d_reaches : DefA := ⟨(fun K => He.ga K "reaches"), "reaches", "reaches", defArgs s_reaches, defBody s_reaches, defScope s_reaches, [], [], []⟩
def d_all_sets : DefA := ⟨(fun K => He.ga K "all_sets"), "all_sets", "all_sets", defArgs s_all_sets, defBody s_all_sets, defScope s_all_sets, [], [], []⟩
def d_least_sets : DefA := ⟨(fun K => He.ga K "least_sets"), "least_sets", "least_sets", defArgs s_least_sets, defBody s_least_sets, defScope s_least_sets, [], [], []⟩
def d_law_source : DefA := ⟨(fun K => He.ga K "_law_source"), "_law_source", "_law_source", defArgs s_law_source, defBody s_law_source, defScope s_law_source, [], [], []⟩
def d_law_draw : DefA := ⟨(fun K => He.ga K "_law_draw"), "_law_draw", "_law_draw", defArgs s_law_draw, defBody s_law_draw, defScope s_law_draw, [], [], []⟩
def d_law_pick : DefA := ⟨(fun K => He.ga K "_law_pick"), "_law_pick", "_law_pick", defArgs s_law_pick, defBody s_law_pick, defScope s_law_pick, [], [], []⟩
def d_law_limit : DefA := ⟨(fun K => He.ga K "_law_limit"), "_law_limit", "_law_limit", defArgs s_law_limit, defBody s_law_limit, defScope s_law_limit, [], [], []⟩
def d_law_parts : DefA := ⟨(fun K => He.ga K "_law_parts"), "_law_parts", "_law_parts", defArgs s_law_parts, defBody s_law_parts, defScope s_law_parts, [], [], []⟩
def d_law_wrap : DefA := ⟨(fun K => He.ga K "_law_wrap"), "_law_wrap", "_law_wrap", defArgs s_law_wrap, defBody s_law_wrap, defScope s_law_wrap, [], [], []⟩
def d_law_rule : DefA := ⟨(fun K => He.ga K "_law_rule"), "_law_rule", "_law_rule", defArgs s_law_rule, defBody s_law_rule, defScope s_law_rule, [], [], []⟩
def d_law_scheme : DefA := ⟨(fun K => He.ga K "_law_scheme"), "_law_scheme", "_law_scheme", defArgs s_law_scheme, defBody s_law_scheme, defScope s_law_scheme, [], [], []⟩
def d_law_modulus : DefA := ⟨(fun K => He.ga K "_law_modulus"), "_law_modulus", "_law_modulus", defArgs s_law_modulus, defBody s_law_modulus, defScope s_law_modulus, [], [], []⟩
def d_law_size : DefA := ⟨(fun K => He.ga K "_law_size"), "_law_size", "_law_size", defArgs s_law_size, defBody s_law_size, defScope s_law_size, [], [], []⟩
def d_law_power : DefA := ⟨(fun K => He.ga K "_law_power"), "_law_power", "_law_power", defArgs s_law_power, defBody s_law_power, defScope s_law_power, [], [], []⟩
def d_law_room : DefA := ⟨(fun K => He.ga K "_law_room"), "_law_room", "_law_room", defArgs s_law_room, defBody s_law_room, defScope s_law_room, [], [], []⟩
def d_law_window : DefA := ⟨(fun K => He.ga K "_law_window"), "_law_window", "_law_window", defArgs s_law_window, defBody s_law_window, defScope s_law_window, [], [], []⟩
def d_law_cause : DefA := ⟨(fun K => He.ga K "_law_cause"), "_law_cause", "_law_cause", defArgs s_law_cause, defBody s_law_cause, defScope s_law_cause, [], [], []⟩
def d_law_change : DefA := ⟨(fun K => He.ga K "_law_change"), "_law_change", "_law_change", defArgs s_law_change, defBody s_law_change, defScope s_law_change, [], [], []⟩
def d_law_object : DefA := ⟨(fun K => He.ga K "_law_object"), "_law_object", "_law_object", defArgs s_law_object, defBody s_law_object, defScope s_law_object, [], [], []⟩
def d_law_menu : DefA := ⟨(fun K => He.ga K "_law_menu"), "_law_menu", "_law_menu", defArgs s_law_menu, defBody s_law_menu, defScope s_law_menu, [], [], []⟩
def d_law_made : DefA := ⟨(fun K => He.ga K "_law_made"), "_law_made", "_law_made", defArgs s_law_made, defBody s_law_made, defScope s_law_made, [], [], []⟩
def d_law_sets : DefA := ⟨(fun K => He.ga K "_law_sets"), "_law_sets", "_law_sets", defArgs s_law_sets, defBody s_law_sets, defScope s_law_sets, [], [], []⟩
def d_law_reaches : DefA := ⟨(fun K => He.ga K "_law_reaches"), "_law_reaches", "_law_reaches", defArgs s_law_reaches, defBody s_law_reaches, defScope s_law_reaches, [], [], []⟩
def d_law_least : DefA := ⟨(fun K => He.ga K "_law_least"), "_law_least", "_law_least", defArgs s_law_least, defBody s_law_least, defScope s_law_least, [], [], []⟩
def d_law_ordered : DefA := ⟨(fun K => He.ga K "_law_ordered"), "_law_ordered", "_law_ordered", defArgs s_law_ordered, defBody s_law_ordered, defScope s_law_ordered, [], [], []⟩
def d_law : DefA := ⟨(fun K => He.ga K "law"), "law", "law", defArgs s_law, defBody s_law, defScope s_law, [], [], []⟩
def d_NoScheme_init : DefA := ⟨(fun K => He.ma K (He.ga K "NoScheme") "__init__"), "__init__", "NoScheme.__init__", defArgs s_NoScheme_init, defBody s_NoScheme_init, defScope s_NoScheme_init, [], [], ["__class__"]⟩
def d_Form_init : DefA := ⟨(fun K => He.ma K (He.ga K "Form") "__init__"), "__init__", "Form.__init__", defArgs s_Form_init, defBody s_Form_init, defScope s_Form_init, [], [], []⟩
def d_Scheme_init : DefA := ⟨(fun K => He.ma K (He.ga K "Scheme") "__init__"), "__init__", "Scheme.__init__", defArgs s_Scheme_init, defBody s_Scheme_init, defScope s_Scheme_init, [], [("when", .str "refuse")], []⟩
def d_Scheme_remade : DefA := ⟨(fun K => He.ma K (He.ga K "Scheme") "remade"), "remade", "Scheme.remade", defArgs s_Scheme_remade, defBody s_Scheme_remade, defScope s_Scheme_remade, [], [], []⟩
def d_Run_init : DefA := ⟨(fun K => He.ma K (He.ga K "Run") "__init__"), "__init__", "Run.__init__", defArgs s_Run_init, defBody s_Run_init, defScope s_Run_init, [], [], []⟩
def d_Verdict_init : DefA := ⟨(fun K => He.ma K (He.ga K "Verdict") "__init__"), "__init__", "Verdict.__init__", defArgs s_Verdict_init, defBody s_Verdict_init, defScope s_Verdict_init, [], [], []⟩
def d_Verdict_bool : DefA := ⟨(fun K => He.ma K (He.ga K "Verdict") "__bool__"), "__bool__", "Verdict.__bool__", defArgs s_Verdict_bool, defBody s_Verdict_bool, defScope s_Verdict_bool, [], [], []⟩
def d_Menu_init : DefA := ⟨(fun K => He.ma K (He.ga K "Menu") "__init__"), "__init__", "Menu.__init__", defArgs s_Menu_init, defBody s_Menu_init, defScope s_Menu_init, [], [], []⟩
def d_Scheme_wrap : DefA := ⟨(fun K => getterAt K (He.ma K (He.ga K "Scheme") "wrap")), "wrap", "Scheme.wrap", defArgs s_Scheme_wrap, defBody s_Scheme_wrap, defScope s_Scheme_wrap, [], [], []⟩
def d_Scheme_slot : DefA := ⟨(fun K => getterAt K (He.ma K (He.ga K "Scheme") "slot")), "slot", "Scheme.slot", defArgs s_Scheme_slot, defBody s_Scheme_slot, defScope s_Scheme_slot, [], [], []⟩
def d_Scheme_empty : DefA := ⟨(fun K => getterAt K (He.ma K (He.ga K "Scheme") "empty")), "empty", "Scheme.empty", defArgs s_Scheme_empty, defBody s_Scheme_empty, defScope s_Scheme_empty, [], [], []⟩
def d_Scheme_full : DefA := ⟨(fun K => getterAt K (He.ma K (He.ga K "Scheme") "full")), "full", "Scheme.full", defArgs s_Scheme_full, defBody s_Scheme_full, defScope s_Scheme_full, [], [], []⟩
def d_Scheme_when : DefA := ⟨(fun K => getterAt K (He.ma K (He.ga K "Scheme") "when")), "when", "Scheme.when", defArgs s_Scheme_when, defBody s_Scheme_when, defScope s_Scheme_when, [], [], []⟩
def fa0 : List He.Fa := [.glo "is_whole", .glo "is_between", .glo "is_size", .glo "row_of", .glo "copy_of", .glo "is_word", .glo "is_part_form", .glo "is_wrap", .glo "is_slot", .glo "is_full_rule", .glo "modulus_at", .glo "has_outside", .glo "mask_gap", .glo "gap_at", .glo "room_at", .glo "look_at", .glo "is_piece", .glo "alike_at", .glo "window_at", .glo "cause_at", .glo "breaking_run", .glo "verdict_of", .glo "is_change", .glo "made", .glo "look_at_goal", .glo "reaches", .glo "all_sets", .glo "least_sets", .glo "_law_source", .glo "_law_draw"]
def fa1 : List He.Fa := [.glo "_law_pick", .glo "_law_limit", .glo "_law_parts", .glo "_law_wrap", .glo "_law_rule", .glo "_law_scheme", .glo "_law_modulus", .glo "_law_size", .glo "_law_power", .glo "_law_room", .glo "_law_window", .glo "_law_cause", .glo "_law_change", .glo "_law_object", .glo "_law_menu", .glo "_law_made", .glo "_law_sets", .glo "_law_reaches", .glo "_law_least", .glo "_law_ordered", .glo "law", .glo "Form", .glo "Scheme", .glo "Run", .glo "Verdict", .glo "Menu", .glo "NoScheme", .free "isinstance", .free "int", .free "bool"]
def fa2 : List He.Fa := [.free "str", .free "tuple", .free "list", .free "len", .free "enumerate", .free "range", .free "max", .free "min", .free "abs", .free "set", .free "zip", .free "super", .free "ValueError", .int "LARGEST" 1000000000000000000000000000000, .int "WIDEST" 100, .int "MOST_TIMES" 10000000000000000000000000000000000000000, .int "MOST_PIECES" 100, .int "MOST_CHANGES" 6, .cls "Form", .cls "Scheme", .cls "Run", .cls "Verdict", .cls "Menu", .noat "Form" "slope", .noat "Form" "base", .noat "Scheme" "own_wrap", .noat "Scheme" "own_slot", .noat "Scheme" "own_empty", .noat "Scheme" "own_full", .noat "Scheme" "own_when"]
def fa3 : List He.Fa := [.noat "Run" "rows", .noat "Verdict" "own_cause", .noat "Verdict" "own_room", .noat "Verdict" "own_window", .noat "Verdict" "own_run", .noat "Menu" "plain", .noat "Menu" "rows", .mkr "Form", .mkr "Scheme", .mkr "Run", .mkr "Verdict", .mkr "Menu", .meth "Scheme" "remade", .meth "Verdict" "__bool__", .exm "NoScheme" "NoScheme" true, .glo "PARTS", .glo "WORDS"]
def fa : List He.Fa := fa0 ++ fa1 ++ fa2 ++ fa3
def fn0 : List DefA := [d_is_whole, d_is_between, d_is_size, d_row_of, d_copy_of, d_is_word, d_is_part_form, d_is_wrap, d_is_slot, d_is_full_rule, d_modulus_at, d_has_outside, d_mask_gap, d_gap_at, d_room_at, d_look_at, d_is_piece, d_alike_at, d_window_at, d_cause_at, d_breaking_run, d_verdict_of, d_is_change, d_made, d_look_at_goal, d_reaches, d_all_sets, d_least_sets, d_law_source, d_law_draw]
def fn1 : List DefA := [d_law_pick, d_law_limit, d_law_parts, d_law_wrap, d_law_rule, d_law_scheme, d_law_modulus, d_law_size, d_law_power, d_law_room, d_law_window, d_law_cause, d_law_change, d_law_object, d_law_menu, d_law_made, d_law_sets, d_law_reaches, d_law_least, d_law_ordered, d_law, d_NoScheme_init, d_Form_init, d_Scheme_init, d_Scheme_remade, d_Run_init, d_Verdict_init, d_Verdict_bool, d_Menu_init, d_Scheme_wrap]
def fn2 : List DefA := [d_Scheme_slot, d_Scheme_empty, d_Scheme_full, d_Scheme_when]
def fn : List DefA := fn0 ++ fn1 ++ fn2
def names0 : List PySem.Str := ["_wall", "RingError", "NoForm", "NoScheme", "NoSize", "NoRun", "NoSet", "TooLong", "NoChange", "DIGITS", "LARGEST", "is_whole", "is_between", "is_size", "digits_in", "signed_in", "is_rising", "Form", "operand_of", "sign_of", "show_form", "slope_in", "form_in", "PARTS", "HEADS", "WIDEST", "Scheme", "row_of", "copy_of", "is_word"]
def names1 : List PySem.Str := ["is_part_form", "is_wrap", "is_slot", "is_full_rule", "show_full", "show_scheme", "full_in", "scheme_in", "LAST_START", "LONGEST", "SizeSet", "row_of_set", "has_number", "first_start", "shortest", "common_period", "joined", "in_many", "modulus_at", "has_outside", "mask_gap", "gap_at", "room_at", "WORDS", "MOST_TIMES", "MOST_PIECES", "Run", "run_of", "look_at", "is_piece"]
def names2 : List PySem.Str := ["rows_of", "times_of", "rows_in", "alike_at", "window_at", "cause_at", "breaking_run", "Verdict", "verdict_of", "SETTLED", "WIDEST_FOR_SIZES", "is_right", "sizes_of", "MOST_CHANGES", "WIDEST_FOR_SETS", "LONGEST_GOAL", "LATEST_GOAL", "Menu", "is_change", "made", "look_at_goal", "reaches", "all_sets", "least_sets", "_law_source", "_law_draw", "_law_pick", "_law_limit", "_law_parts", "_law_wrap"]
def names3 : List PySem.Str := ["_law_rule", "_law_scheme", "_law_modulus", "_law_slot", "_law_size", "_law_power", "_law_room", "_law_window", "_law_cause", "_law_change", "_law_object", "_law_menu", "_law_made", "_law_sets", "_law_reaches", "_law_least", "_law_ordered"]
def names : List PySem.Str := names0 ++ names1 ++ names2 ++ names3
def used0 : List PySem.Str := ["is_whole", "is_between", "is_size", "row_of", "copy_of", "is_word", "is_part_form", "is_wrap", "is_slot", "is_full_rule", "modulus_at", "has_outside", "mask_gap", "gap_at", "room_at", "look_at", "is_piece", "alike_at", "window_at", "cause_at", "breaking_run", "verdict_of", "is_change", "made", "look_at_goal", "reaches", "all_sets", "least_sets", "_law_source", "_law_draw"]
def used1 : List PySem.Str := ["_law_pick", "_law_limit", "_law_parts", "_law_wrap", "_law_rule", "_law_scheme", "_law_modulus", "_law_size", "_law_power", "_law_room", "_law_window", "_law_cause", "_law_change", "_law_object", "_law_menu", "_law_made", "_law_sets", "_law_reaches", "_law_least", "_law_ordered", "law"]
def used : List PySem.Str := (["RingError", "PARTS", "WORDS", "Form", "Scheme", "Run", "Verdict", "Menu", "NoScheme"] : List PySem.Str) ++ used0 ++ used1
/-! ### further facts -/
def exAll (K : Fr) : Bool :=
  propB K "Scheme" "wrap" && (propB K "Scheme" "slot" && (propB K "Scheme" "empty" && (propB K "Scheme" "full" && (propB K "Scheme" "when" && (
  instB K "Form" && (oexB K "NoScheme" && ((initB K "NoScheme" "NoScheme.__init__" (inClass (top 4) 0) "/claim/cut.py" && bmB K "Scheme" "remade") && (
  He.tupB K "PARTS" [.str "wrap", .str "slot", .str "empty", .str "full", .str "when"] && (
  He.tupB K "WORDS" [.str "put", .str "take", .str "pair"] && (
  decide (PySem.W.kitOne K (.type "int") (.ref (He.ga K "Form")) = some false) && (
  decide (PySem.W.kitOne K (.ref (He.ga K "Form")) (.type "int") = some false) && (
  decide (PySem.W.kitOne K (.ref (He.ga K "Form")) (.ref (He.ga K "Form")) = some true)))))))))))))
abbrev R : PySem.W.OpenRow := PySem.W.OpenLaw.row PySem.Challenge.rw_ringindexes_k86_whole_least_sets_for_a_s
abbrev hk : PySem.W.Hook := hookA used fa fn exAll
def ob (s : PySem.W.SharedT) : Al := obsAG used fa fn exAll (HandSHeadRun.getT s)
theorem ob_eq (s : PySem.W.SharedT) : ob s = hk.obs s.abs := obsAG_eq (HandSHeadRun.getT_eq s)
end Ls
set_option Elab.async false
set_option linter.all false
set_option maxRecDepth 100000
set_option maxHeartbeats 0
namespace Ls
open PySem PySem.Spec PyProof.Rows L2
theorem run (w : World) : HandSHeadRun.RunEq R (PySem.W.view R.prog [120]) hk ob 20000 names w := by
  intro os
  kernel_rfl
end Ls
set_option Elab.async false
set_option linter.all false
set_option maxRecDepth 100000
set_option maxHeartbeats 4000000
/-! the head's facts by names -/
namespace Ls
open PySem PySem.Spec PyProof.Rows L2
structure Tx (K : Fr) (mg : Str → Option Value) : Prop where
  says : SaysA fa fn exAll K
  glo : ∀ x, He.Fa.glo x ∈ fa → mg x = some (.ref (He.ga K x))
  free : ∀ x, He.Fa.free x ∈ fa → mg x = none
  int : ∀ x i, He.Fa.int x i ∈ fa → ∃ t, mg x = some (.int i t)
theorem tx_of {K : Fr} {mg : Str → Option Value} {h : Heap} (X : K.In h) (G : h.Ns mainGlobals mg) (c : SaysA fa fn exAll K) : Tx K mg :=
  ⟨c, fun _ m => He.glo_ok X G (c.facts m), fun _ m => He.free_ok X G (c.facts m), fun _ _ m => He.int_ok X G (c.facts m)⟩
theorem at_fa (i : Nat) {f : He.Fa} (h : fa[i]? = some f) : f ∈ fa := List.mem_of_getElem? h
section
variable {K : Fr} {mg : Str → Option Value}

theorem Tx.g_is_whole (T : Tx K mg) : mg "is_whole" = some (.ref (He.ga K "is_whole")) := T.glo _ (at_fa 0 rfl)
theorem Tx.g_is_between (T : Tx K mg) : mg "is_between" = some (.ref (He.ga K "is_between")) := T.glo _ (at_fa 1 rfl)
theorem Tx.g_is_size (T : Tx K mg) : mg "is_size" = some (.ref (He.ga K "is_size")) := T.glo _ (at_fa 2 rfl)
theorem Tx.g_row_of (T : Tx K mg) : mg "row_of" = some (.ref (He.ga K "row_of")) := T.glo _ (at_fa 3 rfl)
theorem Tx.g_copy_of (T : Tx K mg) : mg "copy_of" = some (.ref (He.ga K "copy_of")) := T.glo _ (at_fa 4 rfl)
theorem Tx.g_is_word (T : Tx K mg) : mg "is_word" = some (.ref (He.ga K "is_word")) := T.glo _ (at_fa 5 rfl)
theorem Tx.g_is_part_form (T : Tx K mg) : mg "is_part_form" = some (.ref (He.ga K "is_part_form")) := T.glo _ (at_fa 6 rfl)
theorem Tx.g_is_wrap (T : Tx K mg) : mg "is_wrap" = some (.ref (He.ga K "is_wrap")) := T.glo _ (at_fa 7 rfl)
theorem Tx.g_is_slot (T : Tx K mg) : mg "is_slot" = some (.ref (He.ga K "is_slot")) := T.glo _ (at_fa 8 rfl)
theorem Tx.g_is_full_rule (T : Tx K mg) : mg "is_full_rule" = some (.ref (He.ga K "is_full_rule")) := T.glo _ (at_fa 9 rfl)
theorem Tx.g_modulus_at (T : Tx K mg) : mg "modulus_at" = some (.ref (He.ga K "modulus_at")) := T.glo _ (at_fa 10 rfl)
theorem Tx.g_has_outside (T : Tx K mg) : mg "has_outside" = some (.ref (He.ga K "has_outside")) := T.glo _ (at_fa 11 rfl)
theorem Tx.g_mask_gap (T : Tx K mg) : mg "mask_gap" = some (.ref (He.ga K "mask_gap")) := T.glo _ (at_fa 12 rfl)
theorem Tx.g_gap_at (T : Tx K mg) : mg "gap_at" = some (.ref (He.ga K "gap_at")) := T.glo _ (at_fa 13 rfl)
theorem Tx.g_room_at (T : Tx K mg) : mg "room_at" = some (.ref (He.ga K "room_at")) := T.glo _ (at_fa 14 rfl)
theorem Tx.g_look_at (T : Tx K mg) : mg "look_at" = some (.ref (He.ga K "look_at")) := T.glo _ (at_fa 15 rfl)
theorem Tx.g_is_piece (T : Tx K mg) : mg "is_piece" = some (.ref (He.ga K "is_piece")) := T.glo _ (at_fa 16 rfl)
theorem Tx.g_alike_at (T : Tx K mg) : mg "alike_at" = some (.ref (He.ga K "alike_at")) := T.glo _ (at_fa 17 rfl)
theorem Tx.g_window_at (T : Tx K mg) : mg "window_at" = some (.ref (He.ga K "window_at")) := T.glo _ (at_fa 18 rfl)
theorem Tx.g_cause_at (T : Tx K mg) : mg "cause_at" = some (.ref (He.ga K "cause_at")) := T.glo _ (at_fa 19 rfl)
theorem Tx.g_breaking_run (T : Tx K mg) : mg "breaking_run" = some (.ref (He.ga K "breaking_run")) := T.glo _ (at_fa 20 rfl)
theorem Tx.g_verdict_of (T : Tx K mg) : mg "verdict_of" = some (.ref (He.ga K "verdict_of")) := T.glo _ (at_fa 21 rfl)
theorem Tx.g_is_change (T : Tx K mg) : mg "is_change" = some (.ref (He.ga K "is_change")) := T.glo _ (at_fa 22 rfl)
theorem Tx.g_made (T : Tx K mg) : mg "made" = some (.ref (He.ga K "made")) := T.glo _ (at_fa 23 rfl)
theorem Tx.g_look_at_goal (T : Tx K mg) : mg "look_at_goal" = some (.ref (He.ga K "look_at_goal")) := T.glo _ (at_fa 24 rfl)
theorem Tx.g_reaches (T : Tx K mg) : mg "reaches" = some (.ref (He.ga K "reaches")) := T.glo _ (at_fa 25 rfl)
theorem Tx.g_all_sets (T : Tx K mg) : mg "all_sets" = some (.ref (He.ga K "all_sets")) := T.glo _ (at_fa 26 rfl)
theorem Tx.g_least_sets (T : Tx K mg) : mg "least_sets" = some (.ref (He.ga K "least_sets")) := T.glo _ (at_fa 27 rfl)
theorem Tx.g_law_source (T : Tx K mg) : mg "_law_source" = some (.ref (He.ga K "_law_source")) := T.glo _ (at_fa 28 rfl)
theorem Tx.g_law_draw (T : Tx K mg) : mg "_law_draw" = some (.ref (He.ga K "_law_draw")) := T.glo _ (at_fa 29 rfl)
theorem Tx.g_law_pick (T : Tx K mg) : mg "_law_pick" = some (.ref (He.ga K "_law_pick")) := T.glo _ (at_fa 30 rfl)
theorem Tx.g_law_limit (T : Tx K mg) : mg "_law_limit" = some (.ref (He.ga K "_law_limit")) := T.glo _ (at_fa 31 rfl)
theorem Tx.g_law_parts (T : Tx K mg) : mg "_law_parts" = some (.ref (He.ga K "_law_parts")) := T.glo _ (at_fa 32 rfl)
theorem Tx.g_law_wrap (T : Tx K mg) : mg "_law_wrap" = some (.ref (He.ga K "_law_wrap")) := T.glo _ (at_fa 33 rfl)
theorem Tx.g_law_rule (T : Tx K mg) : mg "_law_rule" = some (.ref (He.ga K "_law_rule")) := T.glo _ (at_fa 34 rfl)
theorem Tx.g_law_scheme (T : Tx K mg) : mg "_law_scheme" = some (.ref (He.ga K "_law_scheme")) := T.glo _ (at_fa 35 rfl)
theorem Tx.g_law_modulus (T : Tx K mg) : mg "_law_modulus" = some (.ref (He.ga K "_law_modulus")) := T.glo _ (at_fa 36 rfl)
theorem Tx.g_law_size (T : Tx K mg) : mg "_law_size" = some (.ref (He.ga K "_law_size")) := T.glo _ (at_fa 37 rfl)
theorem Tx.g_law_power (T : Tx K mg) : mg "_law_power" = some (.ref (He.ga K "_law_power")) := T.glo _ (at_fa 38 rfl)
theorem Tx.g_law_room (T : Tx K mg) : mg "_law_room" = some (.ref (He.ga K "_law_room")) := T.glo _ (at_fa 39 rfl)
theorem Tx.g_law_window (T : Tx K mg) : mg "_law_window" = some (.ref (He.ga K "_law_window")) := T.glo _ (at_fa 40 rfl)
theorem Tx.g_law_cause (T : Tx K mg) : mg "_law_cause" = some (.ref (He.ga K "_law_cause")) := T.glo _ (at_fa 41 rfl)
theorem Tx.g_law_change (T : Tx K mg) : mg "_law_change" = some (.ref (He.ga K "_law_change")) := T.glo _ (at_fa 42 rfl)
theorem Tx.g_law_object (T : Tx K mg) : mg "_law_object" = some (.ref (He.ga K "_law_object")) := T.glo _ (at_fa 43 rfl)
theorem Tx.g_law_menu (T : Tx K mg) : mg "_law_menu" = some (.ref (He.ga K "_law_menu")) := T.glo _ (at_fa 44 rfl)
theorem Tx.g_law_made (T : Tx K mg) : mg "_law_made" = some (.ref (He.ga K "_law_made")) := T.glo _ (at_fa 45 rfl)
theorem Tx.g_law_sets (T : Tx K mg) : mg "_law_sets" = some (.ref (He.ga K "_law_sets")) := T.glo _ (at_fa 46 rfl)
theorem Tx.g_law_reaches (T : Tx K mg) : mg "_law_reaches" = some (.ref (He.ga K "_law_reaches")) := T.glo _ (at_fa 47 rfl)
theorem Tx.g_law_least (T : Tx K mg) : mg "_law_least" = some (.ref (He.ga K "_law_least")) := T.glo _ (at_fa 48 rfl)
theorem Tx.g_law_ordered (T : Tx K mg) : mg "_law_ordered" = some (.ref (He.ga K "_law_ordered")) := T.glo _ (at_fa 49 rfl)
theorem Tx.g_law (T : Tx K mg) : mg "law" = some (.ref (He.ga K "law")) := T.glo _ (at_fa 50 rfl)
theorem Tx.g_Form (T : Tx K mg) : mg "Form" = some (.ref (He.ga K "Form")) := T.glo _ (at_fa 51 rfl)
theorem Tx.g_Scheme (T : Tx K mg) : mg "Scheme" = some (.ref (He.ga K "Scheme")) := T.glo _ (at_fa 52 rfl)
theorem Tx.g_Run (T : Tx K mg) : mg "Run" = some (.ref (He.ga K "Run")) := T.glo _ (at_fa 53 rfl)
theorem Tx.g_Verdict (T : Tx K mg) : mg "Verdict" = some (.ref (He.ga K "Verdict")) := T.glo _ (at_fa 54 rfl)
theorem Tx.g_Menu (T : Tx K mg) : mg "Menu" = some (.ref (He.ga K "Menu")) := T.glo _ (at_fa 55 rfl)
theorem Tx.g_NoScheme (T : Tx K mg) : mg "NoScheme" = some (.ref (He.ga K "NoScheme")) := T.glo _ (at_fa 56 rfl)
theorem Tx.f_isinstance (T : Tx K mg) : mg "isinstance" = none := T.free _ (at_fa 57 rfl)
theorem Tx.f_int (T : Tx K mg) : mg "int" = none := T.free _ (at_fa 58 rfl)
theorem Tx.f_bool (T : Tx K mg) : mg "bool" = none := T.free _ (at_fa 59 rfl)
theorem Tx.f_str (T : Tx K mg) : mg "str" = none := T.free _ (at_fa 60 rfl)
theorem Tx.f_tuple (T : Tx K mg) : mg "tuple" = none := T.free _ (at_fa 61 rfl)
theorem Tx.f_list (T : Tx K mg) : mg "list" = none := T.free _ (at_fa 62 rfl)
theorem Tx.f_len (T : Tx K mg) : mg "len" = none := T.free _ (at_fa 63 rfl)
theorem Tx.f_enumerate (T : Tx K mg) : mg "enumerate" = none := T.free _ (at_fa 64 rfl)
theorem Tx.f_range (T : Tx K mg) : mg "range" = none := T.free _ (at_fa 65 rfl)
theorem Tx.f_max (T : Tx K mg) : mg "max" = none := T.free _ (at_fa 66 rfl)
theorem Tx.f_min (T : Tx K mg) : mg "min" = none := T.free _ (at_fa 67 rfl)
theorem Tx.f_abs (T : Tx K mg) : mg "abs" = none := T.free _ (at_fa 68 rfl)
theorem Tx.f_set (T : Tx K mg) : mg "set" = none := T.free _ (at_fa 69 rfl)
theorem Tx.f_zip (T : Tx K mg) : mg "zip" = none := T.free _ (at_fa 70 rfl)
theorem Tx.f_super (T : Tx K mg) : mg "super" = none := T.free _ (at_fa 71 rfl)
theorem Tx.f_ValueError (T : Tx K mg) : mg "ValueError" = none := T.free _ (at_fa 72 rfl)
theorem Tx.i_LARGEST (T : Tx K mg) : ∃ t, mg "LARGEST" = some (.int 1000000000000000000000000000000 t) := T.int _ _ (at_fa 73 rfl)
theorem Tx.i_WIDEST (T : Tx K mg) : ∃ t, mg "WIDEST" = some (.int 100 t) := T.int _ _ (at_fa 74 rfl)
theorem Tx.i_MOST_TIMES (T : Tx K mg) : ∃ t, mg "MOST_TIMES" = some (.int 10000000000000000000000000000000000000000 t) := T.int _ _ (at_fa 75 rfl)
theorem Tx.i_MOST_PIECES (T : Tx K mg) : ∃ t, mg "MOST_PIECES" = some (.int 100 t) := T.int _ _ (at_fa 76 rfl)
theorem Tx.i_MOST_CHANGES (T : Tx K mg) : ∃ t, mg "MOST_CHANGES" = some (.int 6 t) := T.int _ _ (at_fa 77 rfl)
theorem Tx.c_Form (T : Tx K mg) : Cls K (He.ga K "Form") := He.cls_ok (T.says.facts (at_fa 78 rfl))
theorem Tx.c_Scheme (T : Tx K mg) : Cls K (He.ga K "Scheme") := He.cls_ok (T.says.facts (at_fa 79 rfl))
theorem Tx.c_Run (T : Tx K mg) : Cls K (He.ga K "Run") := He.cls_ok (T.says.facts (at_fa 80 rfl))
theorem Tx.c_Verdict (T : Tx K mg) : Cls K (He.ga K "Verdict") := He.cls_ok (T.says.facts (at_fa 81 rfl))
theorem Tx.c_Menu (T : Tx K mg) : Cls K (He.ga K "Menu") := He.cls_ok (T.says.facts (at_fa 82 rfl))
theorem Tx.n_Form_slope (T : Tx K mg) : NoAttr K (He.ga K "Form") "slope" := He.noat_ok (T.says.facts (at_fa 83 rfl))
theorem Tx.n_Form_base (T : Tx K mg) : NoAttr K (He.ga K "Form") "base" := He.noat_ok (T.says.facts (at_fa 84 rfl))
theorem Tx.n_Scheme_own_wrap (T : Tx K mg) : NoAttr K (He.ga K "Scheme") "own_wrap" := He.noat_ok (T.says.facts (at_fa 85 rfl))
theorem Tx.n_Scheme_own_slot (T : Tx K mg) : NoAttr K (He.ga K "Scheme") "own_slot" := He.noat_ok (T.says.facts (at_fa 86 rfl))
theorem Tx.n_Scheme_own_empty (T : Tx K mg) : NoAttr K (He.ga K "Scheme") "own_empty" := He.noat_ok (T.says.facts (at_fa 87 rfl))
theorem Tx.n_Scheme_own_full (T : Tx K mg) : NoAttr K (He.ga K "Scheme") "own_full" := He.noat_ok (T.says.facts (at_fa 88 rfl))
theorem Tx.n_Scheme_own_when (T : Tx K mg) : NoAttr K (He.ga K "Scheme") "own_when" := He.noat_ok (T.says.facts (at_fa 89 rfl))
theorem Tx.n_Run_rows (T : Tx K mg) : NoAttr K (He.ga K "Run") "rows" := He.noat_ok (T.says.facts (at_fa 90 rfl))
theorem Tx.n_Verdict_own_cause (T : Tx K mg) : NoAttr K (He.ga K "Verdict") "own_cause" := He.noat_ok (T.says.facts (at_fa 91 rfl))
theorem Tx.n_Verdict_own_room (T : Tx K mg) : NoAttr K (He.ga K "Verdict") "own_room" := He.noat_ok (T.says.facts (at_fa 92 rfl))
theorem Tx.n_Verdict_own_window (T : Tx K mg) : NoAttr K (He.ga K "Verdict") "own_window" := He.noat_ok (T.says.facts (at_fa 93 rfl))
theorem Tx.n_Verdict_own_run (T : Tx K mg) : NoAttr K (He.ga K "Verdict") "own_run" := He.noat_ok (T.says.facts (at_fa 94 rfl))
theorem Tx.n_Menu_plain (T : Tx K mg) : NoAttr K (He.ga K "Menu") "plain" := He.noat_ok (T.says.facts (at_fa 95 rfl))
theorem Tx.n_Menu_rows (T : Tx K mg) : NoAttr K (He.ga K "Menu") "rows" := He.noat_ok (T.says.facts (at_fa 96 rfl))
theorem Tx.k_Form (T : Tx K mg) : Mk K (He.ga K "Form") (He.ma K (He.ga K "Form") "__init__") := He.mkr_ok (T.says.facts (at_fa 97 rfl))
theorem Tx.k_Scheme (T : Tx K mg) : Mk K (He.ga K "Scheme") (He.ma K (He.ga K "Scheme") "__init__") := He.mkr_ok (T.says.facts (at_fa 98 rfl))
theorem Tx.k_Run (T : Tx K mg) : Mk K (He.ga K "Run") (He.ma K (He.ga K "Run") "__init__") := He.mkr_ok (T.says.facts (at_fa 99 rfl))
theorem Tx.k_Verdict (T : Tx K mg) : Mk K (He.ga K "Verdict") (He.ma K (He.ga K "Verdict") "__init__") := He.mkr_ok (T.says.facts (at_fa 100 rfl))
theorem Tx.k_Menu (T : Tx K mg) : Mk K (He.ga K "Menu") (He.ma K (He.ga K "Menu") "__init__") := He.mkr_ok (T.says.facts (at_fa 101 rfl))
theorem Tx.m_Scheme_remade (T : Tx K mg) : Meth K (He.ga K "Scheme") "remade" (He.ma K (He.ga K "Scheme") "remade") := He.meth_ok (T.says.facts (at_fa 102 rfl))
theorem Tx.m_Verdict_bool (T : Tx K mg) : Meth K (He.ga K "Verdict") "__bool__" (He.ma K (He.ga K "Verdict") "__bool__") := He.meth_ok (T.says.facts (at_fa 103 rfl))
theorem Tx.x_NoScheme (T : Tx K mg) : PySem.W.exmOne K (.ref (He.ga K "NoScheme")) (.ref (He.ga K "NoScheme")) = some true := He.exm_ok (T.says.facts (at_fa 104 rfl))
theorem Tx.g_PARTS (T : Tx K mg) : mg "PARTS" = some (.ref (He.ga K "PARTS")) := T.glo _ (at_fa 105 rfl)
theorem Tx.g_WORDS (T : Tx K mg) : mg "WORDS" = some (.ref (He.ga K "WORDS")) := T.glo _ (at_fa 106 rfl)
theorem Tx.d_is_whole (T : Tx K mg) : ∃ fd, FunA K Ls.d_is_whole fd := T.says.defn 0 rfl
theorem Tx.d_is_between (T : Tx K mg) : ∃ fd, FunA K Ls.d_is_between fd := T.says.defn 1 rfl
theorem Tx.d_is_size (T : Tx K mg) : ∃ fd, FunA K Ls.d_is_size fd := T.says.defn 2 rfl
theorem Tx.d_row_of (T : Tx K mg) : ∃ fd, FunA K Ls.d_row_of fd := T.says.defn 3 rfl
theorem Tx.d_copy_of (T : Tx K mg) : ∃ fd, FunA K Ls.d_copy_of fd := T.says.defn 4 rfl
theorem Tx.d_is_word (T : Tx K mg) : ∃ fd, FunA K Ls.d_is_word fd := T.says.defn 5 rfl
theorem Tx.d_is_part_form (T : Tx K mg) : ∃ fd, FunA K Ls.d_is_part_form fd := T.says.defn 6 rfl
theorem Tx.d_is_wrap (T : Tx K mg) : ∃ fd, FunA K Ls.d_is_wrap fd := T.says.defn 7 rfl
theorem Tx.d_is_slot (T : Tx K mg) : ∃ fd, FunA K Ls.d_is_slot fd := T.says.defn 8 rfl
theorem Tx.d_is_full_rule (T : Tx K mg) : ∃ fd, FunA K Ls.d_is_full_rule fd := T.says.defn 9 rfl
theorem Tx.d_modulus_at (T : Tx K mg) : ∃ fd, FunA K Ls.d_modulus_at fd := T.says.defn 10 rfl
theorem Tx.d_has_outside (T : Tx K mg) : ∃ fd, FunA K Ls.d_has_outside fd := T.says.defn 11 rfl
theorem Tx.d_mask_gap (T : Tx K mg) : ∃ fd, FunA K Ls.d_mask_gap fd := T.says.defn 12 rfl
theorem Tx.d_gap_at (T : Tx K mg) : ∃ fd, FunA K Ls.d_gap_at fd := T.says.defn 13 rfl
theorem Tx.d_room_at (T : Tx K mg) : ∃ fd, FunA K Ls.d_room_at fd := T.says.defn 14 rfl
theorem Tx.d_look_at (T : Tx K mg) : ∃ fd, FunA K Ls.d_look_at fd := T.says.defn 15 rfl
theorem Tx.d_is_piece (T : Tx K mg) : ∃ fd, FunA K Ls.d_is_piece fd := T.says.defn 16 rfl
theorem Tx.d_alike_at (T : Tx K mg) : ∃ fd, FunA K Ls.d_alike_at fd := T.says.defn 17 rfl
theorem Tx.d_window_at (T : Tx K mg) : ∃ fd, FunA K Ls.d_window_at fd := T.says.defn 18 rfl
theorem Tx.d_cause_at (T : Tx K mg) : ∃ fd, FunA K Ls.d_cause_at fd := T.says.defn 19 rfl
theorem Tx.d_breaking_run (T : Tx K mg) : ∃ fd, FunA K Ls.d_breaking_run fd := T.says.defn 20 rfl
theorem Tx.d_verdict_of (T : Tx K mg) : ∃ fd, FunA K Ls.d_verdict_of fd := T.says.defn 21 rfl
theorem Tx.d_is_change (T : Tx K mg) : ∃ fd, FunA K Ls.d_is_change fd := T.says.defn 22 rfl
theorem Tx.d_made (T : Tx K mg) : ∃ fd, FunA K Ls.d_made fd := T.says.defn 23 rfl
theorem Tx.d_look_at_goal (T : Tx K mg) : ∃ fd, FunA K Ls.d_look_at_goal fd := T.says.defn 24 rfl
theorem Tx.d_reaches (T : Tx K mg) : ∃ fd, FunA K Ls.d_reaches fd := T.says.defn 25 rfl
theorem Tx.d_all_sets (T : Tx K mg) : ∃ fd, FunA K Ls.d_all_sets fd := T.says.defn 26 rfl
theorem Tx.d_least_sets (T : Tx K mg) : ∃ fd, FunA K Ls.d_least_sets fd := T.says.defn 27 rfl
theorem Tx.d_law_source (T : Tx K mg) : ∃ fd, FunA K Ls.d_law_source fd := T.says.defn 28 rfl
theorem Tx.d_law_draw (T : Tx K mg) : ∃ fd, FunA K Ls.d_law_draw fd := T.says.defn 29 rfl
theorem Tx.d_law_pick (T : Tx K mg) : ∃ fd, FunA K Ls.d_law_pick fd := T.says.defn 30 rfl
theorem Tx.d_law_limit (T : Tx K mg) : ∃ fd, FunA K Ls.d_law_limit fd := T.says.defn 31 rfl
theorem Tx.d_law_parts (T : Tx K mg) : ∃ fd, FunA K Ls.d_law_parts fd := T.says.defn 32 rfl
theorem Tx.d_law_wrap (T : Tx K mg) : ∃ fd, FunA K Ls.d_law_wrap fd := T.says.defn 33 rfl
theorem Tx.d_law_rule (T : Tx K mg) : ∃ fd, FunA K Ls.d_law_rule fd := T.says.defn 34 rfl
theorem Tx.d_law_scheme (T : Tx K mg) : ∃ fd, FunA K Ls.d_law_scheme fd := T.says.defn 35 rfl
theorem Tx.d_law_modulus (T : Tx K mg) : ∃ fd, FunA K Ls.d_law_modulus fd := T.says.defn 36 rfl
theorem Tx.d_law_size (T : Tx K mg) : ∃ fd, FunA K Ls.d_law_size fd := T.says.defn 37 rfl
theorem Tx.d_law_power (T : Tx K mg) : ∃ fd, FunA K Ls.d_law_power fd := T.says.defn 38 rfl
theorem Tx.d_law_room (T : Tx K mg) : ∃ fd, FunA K Ls.d_law_room fd := T.says.defn 39 rfl
theorem Tx.d_law_window (T : Tx K mg) : ∃ fd, FunA K Ls.d_law_window fd := T.says.defn 40 rfl
theorem Tx.d_law_cause (T : Tx K mg) : ∃ fd, FunA K Ls.d_law_cause fd := T.says.defn 41 rfl
theorem Tx.d_law_change (T : Tx K mg) : ∃ fd, FunA K Ls.d_law_change fd := T.says.defn 42 rfl
theorem Tx.d_law_object (T : Tx K mg) : ∃ fd, FunA K Ls.d_law_object fd := T.says.defn 43 rfl
theorem Tx.d_law_menu (T : Tx K mg) : ∃ fd, FunA K Ls.d_law_menu fd := T.says.defn 44 rfl
theorem Tx.d_law_made (T : Tx K mg) : ∃ fd, FunA K Ls.d_law_made fd := T.says.defn 45 rfl
theorem Tx.d_law_sets (T : Tx K mg) : ∃ fd, FunA K Ls.d_law_sets fd := T.says.defn 46 rfl
theorem Tx.d_law_reaches (T : Tx K mg) : ∃ fd, FunA K Ls.d_law_reaches fd := T.says.defn 47 rfl
theorem Tx.d_law_least (T : Tx K mg) : ∃ fd, FunA K Ls.d_law_least fd := T.says.defn 48 rfl
theorem Tx.d_law_ordered (T : Tx K mg) : ∃ fd, FunA K Ls.d_law_ordered fd := T.says.defn 49 rfl
theorem Tx.d_law (T : Tx K mg) : ∃ fd, FunA K Ls.d_law fd := T.says.defn 50 rfl
theorem Tx.d_NoScheme_init (T : Tx K mg) : fnA K (Ls.d_NoScheme_init.ad K) = Ls.d_NoScheme_init.val ∧ Ls.d_NoScheme_init.ok K = true := T.says.raw 51 rfl
theorem Tx.d_Form_init (T : Tx K mg) : ∃ fd, FunA K Ls.d_Form_init fd := T.says.defn 52 rfl
theorem Tx.d_Scheme_init (T : Tx K mg) : ∃ fd, FunA K Ls.d_Scheme_init fd := T.says.defn 53 rfl
theorem Tx.d_Scheme_remade (T : Tx K mg) : ∃ fd, FunA K Ls.d_Scheme_remade fd := T.says.defn 54 rfl
theorem Tx.d_Run_init (T : Tx K mg) : ∃ fd, FunA K Ls.d_Run_init fd := T.says.defn 55 rfl
theorem Tx.d_Verdict_init (T : Tx K mg) : ∃ fd, FunA K Ls.d_Verdict_init fd := T.says.defn 56 rfl
theorem Tx.d_Verdict_bool (T : Tx K mg) : ∃ fd, FunA K Ls.d_Verdict_bool fd := T.says.defn 57 rfl
theorem Tx.d_Menu_init (T : Tx K mg) : ∃ fd, FunA K Ls.d_Menu_init fd := T.says.defn 58 rfl
theorem Tx.d_Scheme_wrap (T : Tx K mg) : ∃ fd, FunA K Ls.d_Scheme_wrap fd := T.says.defn 59 rfl
theorem Tx.d_Scheme_slot (T : Tx K mg) : ∃ fd, FunA K Ls.d_Scheme_slot fd := T.says.defn 60 rfl
theorem Tx.d_Scheme_empty (T : Tx K mg) : ∃ fd, FunA K Ls.d_Scheme_empty fd := T.says.defn 61 rfl
theorem Tx.d_Scheme_full (T : Tx K mg) : ∃ fd, FunA K Ls.d_Scheme_full fd := T.says.defn 62 rfl
theorem Tx.d_Scheme_when (T : Tx K mg) : ∃ fd, FunA K Ls.d_Scheme_when fd := T.says.defn 63 rfl
theorem Tx.ex (T : Tx K mg) : exAll K = true := T.says.more
end
end Ls
set_option Elab.async false
set_option linter.all false
set_option maxRecDepth 100000
set_option maxHeartbeats 4000000
/-! NoScheme's own __init__: super().__init__(..), then one field -/
namespace Ls
open PySem PySem.Spec PyProof.Rows L2
abbrev ni_p : Arguments := defArgs s_NoScheme_init
abbrev ni_b : List Stmt := defBody s_NoScheme_init
abbrev ni_s : Scope := defScope s_NoScheme_init
abbrev ni_f (cc cda : Addr) : NdefX.NF := ⟨"__init__", "NoScheme.__init__", ni_p, ni_b, ni_s, [("__class__", cc)], cda⟩
structure SupF (K : Fr) (C f cc cda : Addr) : Prop where
  fn : ∃ (oc : Value) (od : Option Addr) (kV doc pm : Value) (an : Option Addr) (ct : Value) (osl : Array (Option Value)),
    K.lookup f = some ⟨oc, od, .func (PySem.W.ksFn "__init__" "NoScheme.__init__" ni_p ni_b ni_s .none kV doc pm an (.ref cda) ct cc), osl⟩
  cd : PySem.W.codeIn K (.ref cda) "NoScheme.__init__" = true
  file : ∃ (c : Value) (d : Option Addr) (vs : Array Value) (sl : Array (Option Value)) (t : Tok), K.lookup cda = some ⟨c, d, .fields vs, sl⟩ ∧ vs[2]? = some (.str "/claim/cut.py" t)
  cell : ∃ (c : Value) (d : Option Addr) (sl : Array (Option Value)), K.lookup cc = some ⟨c, d, .cell (some (.ref C)), sl⟩
  fi : PySem.W.findIn K (.ref C) "__init__" = some (some (.ref f))
  ty : PySem.W.typeIn K (.ref f) = some (.type "function")
  mr : PySem.W.mroIn K C (.ref C) = some true
  sb : PySem.W.subIn K (.ref C) (.type "ValueError") = some true
  su : PySem.W.ks_superIn K C C "__init__" = some (some (.builtin "ValueError.__init__"))
  no : PySem.W.nsIn K cStatics "thirdparty.any" = some none
  np : PySem.W.findIn K (.ref C) "part" = some none
  ox : OexC K C
section
variable {K : Fr} {mg : Str → Option Value}
theorem supF (T : Tx K mg) : ∃ cc cda, SupF K (He.ga K "NoScheme") (initAt K "NoScheme") cc cda := by
  have h := T.ex
  obtain ⟨e, c⟩ := T.d_NoScheme_init
  unfold exAll at h
  simp only [Bool.and_eq_true] at h
  obtain ⟨_, _, _, _, _, _, h1, ⟨h2, _⟩, _⟩ := h
  unfold initB at h2
  simp only [Bool.and_eq_true, decide_eq_true_eq] at h2
  obtain ⟨a1, a2, a3, a4, a5, a6, a7, a8⟩ := h2
  obtain ⟨c1, c2⟩ := Bool.and_eq_true_iff.mp c
  have e : fnA K (initAt K "NoScheme") = d_NoScheme_init.val := e
  have c2 : restOk K d_NoScheme_init (K.lookup (initAt K "NoScheme")) = true := c2
  have ht : PySem.W.typeIn K (.ref (initAt K "NoScheme")) = some (.type "function") := eq_of_beq a1
  unfold fnA at e
  cases look : K.lookup (initAt K "NoScheme") with
  | none => rw [look] at c2; exact Bool.noConfusion c2
  | some ob =>
    rw [look] at c2 e a8
    obtain ⟨o1, o2, o3, o4⟩ := ob
    cases o3 with
    | func z =>
      obtain ⟨b1, b2, b3, b4, b5, b6, b7, b8, b9, b10, b11, b12, b13, b14, b15⟩ := z
      have t : (some (b1, b2, b3, b4, b5, b6, b7.map (fun q => (q.1, 0)), b15) : He.FnW) = d_NoScheme_init.val := e
      simp only [DefA.val, Option.some.injEq, Prod.mk.injEq] at t
      obtain ⟨t1, t2, t3, t4, t5, t6, t7, t8⟩ := t
      obtain ⟨k1, k2⟩ := Bool.and_eq_true_iff.mp (show (PySem.W.codeIn K b13 "NoScheme.__init__" && (He.dflB K b8 [] && He.kwdB K b9 [])) = true from c2)
      obtain ⟨k3, k4⟩ := Bool.and_eq_true_iff.mp k2
      have d1 : b8 = .none := by
        rcases He.dflB_ok k3 with ⟨_, e⟩ | ⟨z, _⟩
        · exact e
        · exact absurd rfl z
      subst t1 t2 t3 t4 t5 t6 t8 d1
      rcases b7 with _ | ⟨⟨n, cc⟩, _ | ⟨_, _⟩⟩
      · exact Bool.noConfusion a8
      · have a8 : (decide (n = "__class__") && (cellB K cc (He.ga K "NoScheme") && codeB K b13 "/claim/cut.py" "NoScheme.__init__")) = true := a8
        simp only [Bool.and_eq_true, decide_eq_true_eq] at a8
        obtain ⟨f1, f2, f3⟩ := a8
        subst f1
        unfold codeB at f3
        cases b13 with
        | ref cda =>
          simp only [Bool.and_eq_true] at f3
          obtain ⟨f3, _⟩ := f3
          refine ⟨cc, cda, ⟨o1, o2, b9, b10, b11, b12, b14, o4, look⟩, k1, ?_, ?_, a2, ht, a3, a4, a5, a6, a7, oexB_ok h1⟩
          · cases lk : K.lookup cda with
            | none => rw [lk] at f3; exact Bool.noConfusion f3
            | some ob =>
              rw [lk] at f3
              obtain ⟨p1, p2, p3, p4⟩ := ob
              cases p3 with
              | fields vs =>
                dsimp only at f3
                split at f3
                · rename_i x y z t r hv
                  have hz := of_decide_eq_true f3
                  subst hz
                  refine ⟨p1, p2, vs, p4, t, rfl, ?_⟩
                  rw [← Array.getElem?_toList, hv]
                  rfl
                · exact Bool.noConfusion f3
              | _ => exact Bool.noConfusion f3
          · unfold cellB at f2
            cases lk : K.lookup cc with
            | none => rw [lk] at f2; exact Bool.noConfusion f2
            | some ob =>
              rw [lk] at f2
              obtain ⟨p1, p2, p3, p4⟩ := ob
              cases p3 with
              | cell v =>
                cases v with
                | none => exact Bool.noConfusion f2
                | some v =>
                  cases v with
                  | ref D =>
                    have hz := of_decide_eq_true f2
                    subst hz
                    exact ⟨p1, p2, p4, rfl⟩
                  | _ => exact Bool.noConfusion f2
              | _ => exact Bool.noConfusion f2
        | _ => exact Bool.noConfusion f3
      · exact Bool.noConfusion a8
    | _ => exact Bool.noConfusion c2
end
/-- what __init__(self, part) is asked -/
def spNo (C : Addr) : Sp := fun vs H Q _ => ∃ a y, vs = [.ref a, y] ∧ H a = some (exo a C none) ∧ ∀ dx, H dx = none → dx ≠ a → Q .non (upd (upd H dx (exd dx [("part", y)])) a (exo a C (some dx)))
section
variable {P : Program} {w : World} {K : Fr} {mg : Str → Option Value} {base : Heap} {C f cc cda : Addr}
theorem sc_ni (cc cda : Addr) : NdefX.NScope ["self", "part", "__class__"] ["self", "part"] ["__class__"] (ni_f cc cda).scope := NdefX.nscope_by (by show NdefX.nscB _ _ _ ni_s = true; decide +kernel)
theorem sup_ok (T : Tx K mg) (S : SupF K C f cc cda) (hfile : ((P.main.file : Str) == ("/claim/cut.py" : Str)) = true) (htop : (P.main.scope.names.lookup ("super" : Str)).isSome = false) :
    ∃ fd, FnOk P w K mg base CX0 1 f fd ["self", "part"] (spNo C) ∧ Binds K fd ["self", "part"] [] := by
  obtain ⟨oc, od, kV, doc, pm, an, ct, osl, lk⟩ := S.fn
  refine ⟨PySem.W.ksFn "__init__" "NoScheme.__init__" ni_p ni_b ni_s .none kV doc pm an (.ref cda) ct cc, ⟨fun vs H Q E h => ?_, fun A outer s H args us vs Q E hr e0 hb r h => ?_⟩, Binds.all fun us hl => ?_⟩
  · obtain ⟨a, y, rfl, _⟩ := h
    rfl
  · have h' := h
    obtain ⟨a, y, rfl, ha, k⟩ := h'
    have kin : K.In s.heap := e0.mod.kin.keeps fun b o e => (e0.bs b o e).1
    have lim : s.heap.NoLimit := e0.mod.nolimit.keeps fun b o e => (e0.bs b o e).1
    obtain ⟨cc1, cc2, cc3, lc⟩ := S.cell
    have Cc : NdefX.CellsAt (ni_f cc cda).cl ["__class__"] [some (V.ref C)] s.heap H := by
      have one : ∀ y c, (ni_f cc cda).cl.lookup y = some c → y = ("__class__" : Str) ∧ c = cc := fun y c e => by
        have e : (if y == ("__class__" : Str) then some cc else none) = some c := by
          have e1 : [(("__class__" : Str), cc)].lookup y = some c := e
          rw [List.lookup_cons] at e1
          cases h : y == ("__class__" : Str) with
          | true => rw [h] at e1; exact e1
          | false => rw [h] at e1; exact e1
        by_cases h : (y == ("__class__" : Str)) = true
        · rw [if_pos h] at e
          exact ⟨eq_of_beq h, (Option.some.inj e).symm⟩
        · rw [if_neg h] at e
          cases e
      refine ⟨rfl, fun y c e => ?_, fun x y c e1 e2 => (one _ _ e1).1.trans (one _ _ e2).1.symm, fun i y e => ?_⟩
      · obtain ⟨_, rfl⟩ := one _ _ e
        exact ⟨(e0.bs _ _ (e0.mod.kin _ _ lc)).2, _, ⟨_, kin _ _ lc, rfl⟩⟩
      · cases i with
        | succ i => exact absurd e (by simp)
        | zero =>
          have e : ("__class__" : Str) = y := Option.some.inj e
          subst e
          refine ⟨cc, rfl, fun v e => ?_⟩
          have e : V.ref C = v := Option.some.inj (Option.some.inj e)
          subst e
          exact ⟨.ref C, rfl, ⟨_, kin _ _ lc, rfl⟩⟩
    obtain ⟨ua, us1, rfl, ra, r1⟩ : ∃ ua us1, us = ua :: us1 ∧ RelV (.ref a) ua ∧ Vals [y] us1 := by
      cases r with
      | cons ra r1 => exact ⟨_, _, rfl, ra, r1⟩
    obtain rfl : ua = .ref a := ra
    obtain ⟨u, rfl, ry⟩ : ∃ u, us1 = [u] ∧ RelV y u := by
      cases r1 with
      | cons ry r2 => cases r2; exact ⟨_, rfl, ry⟩
    refine ks_codeAny_call_defAt hr.depth (kin _ _ lk) rfl lim (PySem.W.codeRec_of kin S.cd) rfl hb (by show ∀ x ∈ ni_s.names, x.2 ≠ .cell; decide +kernel) ?_ (fun h₁ hns kp => ?_) (by rfl) (by rfl) (by rfl)
    · intro x hx
      have hx : x = (("self" : Str), Value.ref a) ∨ x = (("part" : Str), u) := by simpa using hx
      rcases hx with rfl | rfl
      · show ni_s.names.lookup ("self" : Str) = some .local
        decide +kernel
      · show ni_s.names.lookup ("part" : Str) = some .local
        decide +kernel
    · have I : Inv (NdefX.ncx CX0 P w K mg base ["self", "part", "__class__"] (ni_f cc cda) f A outer s H E) [] (NdefX.startF ["self", "part", "__class__"] [.ref a, y] [some (V.ref C)]) H { s with heap := h₁, toks := s.toks + (List.zip [("self" : Str), "part"] [Value.ref a, u]).length } :=
        NdefX.inv_startN (sc_ni cc cda) hr.hd e0 rfl (.cons rfl (.cons ry .nil)) Cc hns kp
      have bk : ∀ b o, base.get? b = some o → h₁.get? b = some o := fun b o e => kp b o (e0.bs b o e).1
      have kin1 : K.In h₁ := e0.mod.kin.keeps bk
      obtain ⟨mb, hmb, hbl⟩ := e0.mod.blt
      obtain ⟨fc, fd', fvs, fsl, ft, lf, lf2⟩ := S.file
      obtain ⟨nm, q, N, bs, bm, sn, sub, ab, col, dd, k0, k1, k2, k3, k5, hC, hbm⟩ := S.ox.cls
      have hcl : PySem.W.clsIn K C = some { name := nm, bases := bs, mro := .ref C :: bm, ns := N, qualname := q, hasDict := true, slotNames := sn, subclasses := sub, abstract := ab, collection := col, hasDel := false } := by unfold PySem.W.clsIn; rw [hC] <;> rfl
      have hsu := S.su
      unfold PySem.W.ks_superIn at hsu
      rw [hcl] at hsu
      obtain ⟨t1, ho⟩ := exo_at I.hok ha
      have IA : PySem.W.InstAt h₁ a _ C none := ⟨ho, rfl, rfl, trivial⟩
      refine ks_wpAt_execs_cons ?_
      refine ks_wpAt_Expr_any (ks_wpAt_MethodCall ?_ (by rfl)) (by rfl) (by rfl)
      refine ks_wpAt_super_base (by rfl) (by rfl) (by decide) rfl (kin1 _ _ lk) rfl (by rfl) rfl (kin1 _ _ lf) rfl lf2 hfile htop ?_
      refine PySem.W.ks_loadName_global (by rfl) (by rfl) (Calls.loadGlobal_builtin (e0.mod.glob.keeps bk) T.f_super (hmb.keeps bk) ((hbl _ (by decide +kernel)).trans (by rfl)) ⟨rfl, ?_⟩)
      refine wpAny_loadName_free (by rfl) (by rfl) (by rfl) ⟨_, kin1 _ _ lc, rfl⟩ ?_
      refine wpAny_loadName_local (by rfl) (by rfl) hns (by rfl) ?_
      refine ks_wpAny_isType_cls (kin1 _ _ hC) rfl ⟨rfl, ?_⟩
      refine ks_wpAny_call_super (kin1 _ _ hC) rfl ho rfl (fun c e => by cases e) (PySem.W.looks_mroIn kin1 S.mr) fun h2 e2 kp2 => ?_
      have kin2 := PySem.W.Frag.In.keeps kin1 kp2
      have IA2 : PySem.W.InstAt h2 a _ C none := ⟨kp2 _ _ ho, rfl, rfl, trivial⟩
      refine PySem.W.kxs_getMethod PySem.W.kxs_ValueError e2 (PySem.W.looks_opaque kin2 S.no) (l₀ := .ref C :: bm) ((PySem.W.looks_clsIn kin2 hcl).andThen .now) rfl kin2 hsu (IA2.type.andThen (PySem.W.looks_subIn kin2 S.sb)) (PySem.W.ks_ne kin2 IA2 hcl) (by decide) ?_
      refine PySem.W.kxs_callWith (i := "ValueError.__init__") (x := a) (by rfl) (PySem.Calls.evalArgs_plain (Calls.spliced_cons (Calls.Constant_str (k := 0) (pos := ⟨0, 0, 0, 0⟩) (Calls.spliced_nil ⟨Heap.get?_push_at rfl rfl, ?_⟩))))
      have hu : (h2.push (PySem.W.kxs_mw "ValueError.__init__" a)).get? h2.objs.size = some (PySem.W.kxs_mw "ValueError.__init__" a) := Heap.get?_push_at rfl rfl
      have ho3 := Heap.get?_push_of_some (PySem.W.kxs_mw "ValueError.__init__" a) (kp2 _ _ ho)
      have hC3 := Heap.get?_push_of_some (PySem.W.kxs_mw "ValueError.__init__" a) (kin2 _ _ hC)
      refine wpAny_call (codeAny_of_tree ?_)
      show wpAny _ _ (callAny (.ref h2.objs.size) ⟨_, []⟩) _ _ _
      simp only [callAny]
      refine wpAny_bind (wpAny_load hu ?_)
      simp only [PySem.W.kxs_mw, show (Value.type "method-wrapper" == Value.type "method" || Value.type "method-wrapper" == Value.type "builtin_function_or_method" || Value.type "method-wrapper" == Value.type "method-wrapper") = true by decide, if_true]
      refine PySem.W.KFB.if_so (by decide) ?_
      refine wpAny_bind (PySem.W.check_bound_init F.excBase_ValueError.toExcCallFacts hC3 ho3 rfl ?_)
      refine wpAny_bind (wpAny_pure (wpAny_pure ?_))
      refine ⟨plainId_quiet F.excBase_ValueError.init.plain _, codeAny_builtin F.excBase_ValueError.initEntry ?_⟩
      refine PySem.W.exc_init_tree (cls := .ref C) (t0 := t1) (dv := none) (c2 := .none) (c3 := .none) (b4 := .bool false) ho3 (by show 1 ≤ sizeLine; exact Nat.le_of_lt (small1000 (by decide))) fun h4 kp4 ha4 _ => ?_
      have I3 := I.kept (t' := 0) (h' := h2.push (PySem.W.kxs_mw "ValueError.__init__" a)) fun b o e => Heap.get?_push_of_some _ (kp2 b o e)
      have I4 := I3.write (t' := 0) (x := a) (e := a) (o := exo a C none) (h' := h4) (by rw [ha]; exact True.intro) (.inl rfl) kp4 ⟨_, ha4⟩ (exo_ok ha4)
      have eu : upd H a (exo a C none) = H := by
        funext b
        by_cases hb : b = a
        · rw [hb, upd_same, ha]
        · rw [upd_ne hb]
      rw [eu] at I4
      refine wpAt_of_wpAny ?_
      have ps : ∃ t, PSs (NdefX.ncx CX0 P w K mg base ["self", "part", "__class__"] (ni_f cc cda) f A outer s H E) (ni_b.drop 1) t ∧ t { nx := fun _ H' => Q .non H', rt := Q } (NdefX.startF ["self", "part", "__class__"] [.ref a, y] [some (V.ref C)]) H := by
        refine ⟨_, pss_one (ps_ost (f := "part") (pe_var (i := 0) (by rfl) (by exact .inl (by rfl)) (by decide) (by decide)) (pe_var (i := 1) (by rfl) (by exact .inl (by rfl)) (by decide) (by decide)) (by rfl)), ?_⟩
        refine ⟨y, rfl, .ref a, rfl, a, C, rfl, S.ox, S.np, .inl ⟨ha, fun dx n ne => k dx n ne⟩⟩
      obtain ⟨tt, p1, p2⟩ := ps
      refine wpAny_mono (p1.run [] _ _ H _ (I4.tok _) p2) (fun fl s' hs => ?_) fun e s' hs => hs
      have fin : ∀ {σ' : L2.St} {H' : Hp} {v : V} {u : Value}, Inv (NdefX.ncx CX0 P w K mg base ["self", "part", "__class__"] (ni_f cc cda) f A outer s H E) [] σ' H' s' → L2.RelV v u → Q v H' → CE outer P w H s Q u s' :=
        fun {σ' H' v u} J rv q => ⟨v, H', J.os, J.bare, J.base, J.hok, rv, q⟩
      cases fl with
      | ret u =>
        obtain ⟨v, σ', H', J, rv, q⟩ := hs
        exact fin J rv q
      | next =>
        obtain ⟨σ', H', J, q⟩ := hs
        exact fin (v := V.non) (u := Value.none) J rfl q
      | brk =>
        obtain ⟨_, _, _, q⟩ := hs
        exact False.elim q
      | cont =>
        obtain ⟨_, _, _, q⟩ := hs
        exact False.elim q
  · match us, hl with
    | [x, y], _ => rfl
end
end Ls
set_option Elab.async false
set_option linter.all false
set_option maxRecDepth 100000
set_option maxHeartbeats 4000000
/-! bool(x), x an instance whose class has an own __bool__ -/
namespace Ls
open PySem PySem.Spec PyProof.Rows L2
theorem meets_bool_own {prog : Program} {w : World} (x : Value) :
    MeetsIn prog w (Builtin.«bool.__new__» ⟨[.type "bool", x], []⟩) (fun A R s => wpAny (model prog w) A.in1 (truthy x) (fun b s' => R (.ok (.ret (.bool b))) s') (fun e s' => R (.error e) s') s) :=
  .of_wp fun A R s h => by
    have f1 := F.conv_sub_bool
    obtain ⟨hp, g, d, tk, os⟩ := s
    repeat (any_goals (first | assumption | (with_reducible refine wpAny_bind (wpAny_mono h (fun b s' hb => ?_) fun _ _ z => z)) | wp_step))
    exact ⟨_, rfl, hb⟩
section
variable {X : Cx} {CX : CXT} {k : Nat} {f C : Addr} {sp : Sp}
theorem boolOwn (Fn : FnR X.prog X.w X.K X.mg X.base CX k f sp) (hM : Meth X.K C "__bool__" f) (hr : Room (k + 2) X.A) (hx : Passes CX X E0) :
    CallR X (.type "bool") (fun xs H Q => ∃ a dx fs, xs = [.ref a] ∧ H a = some (.ins C dx fs) ∧ sp [.ref a] H (fun v H' => (∃ b, v = .bl b) ∧ Q v H') E0) := by
  intro pins s σ H xs us Q I r h
  obtain ⟨a, dx, fs, rfl, ha, q⟩ := h
  obtain rfl := Vals.ref1 r
  refine callType_newIn F.called_bool F.newNe_bool (F.typeCall_bool_1 _) (F.newCall_bool_1 _) (fun obj => F.args_object_init_2 obj _) F.entry_bool_new (meets_bool_own _) ?_
  obtain ⟨m, fr⟩ := I.fr
  obtain ⟨mA, O, _⟩ := ins_get I.hok ha
  obtain ⟨od, IA, _⟩ := O.look
  refine PySem.W.truthy_K fr I.ok.mod.kin IA hM.at_ hM.fn ?_
  refine wpAny_call (codeAny_mono (Fn X.A.in1.in1 X.stack s H [.ref a] [.ref a] _ E0 hr.in1.in1 I.env0.in1.in1 r q) fun res s' hq => ?_)
  cases res with
  | error e => exact hx pins σ H s e s' I hq
  | ok fl =>
    cases fl with
    | ret u =>
      obtain ⟨v, H', J, rv, ⟨b, rfl⟩, q2⟩ := I.after hq
      obtain rfl : u = .bool b := rv
      exact ⟨rfl, .bl b, H', J, rfl, q2⟩
    | next => exact False.elim hq
    | brk => exact False.elim hq
    | cont => exact False.elim hq
end
end Ls
set_option Elab.async false
set_option linter.all false
set_option maxRecDepth 100000
set_option maxHeartbeats 4000000
/-! f(**d): the keywords that a dict hands on -/
namespace Ls
open PySem PySem.Spec PyProof.Rows L2
section
variable {prog : Program} {w : World} {A : Around} {E : Value → Shared → Prop} {s : Shared}
abbrev mk0K (prog : Program) (w : World) := mixKind prog w
theorem update_at {h : Heap} {d : Addr} {o : Obj} {f g : Obj → Obj} (a : h.get? d = some o) (e : f o = g o) : h.update d f = h.update d g := by
  obtain ⟨objs, l⟩ := h
  have q : objs[d]? = some o := by
    unfold Heap.get? at a
    dsimp only at a
    split at a
    · cases a
    · exact a
  have z : objs.modify d f = objs.modify d g := by
    apply Array.ext_getElem?
    intro i
    rw [Array.getElem?_modify, Array.getElem?_modify]
    by_cases hi : d = i
    · subst hi
      rw [if_pos rfl, if_pos rfl, q]
      exact congrArg some e
    · rw [if_neg hi, if_neg hi]
  show (⟨objs.modify d f, l⟩ : Heap) = ⟨objs.modify d g, l⟩
  rw [z]
theorem find_no {d : Addr} {kvs : List (Key × Value)} {k : Key} {key : Value} {Q : Option Nat → Shared → Prop} (hkey : (mixKind prog w).is k key = true) (hm : s.heap.DictOf (mixKind prog w) d kvs) (hn : k ∉ kvs.map (·.1))
    (h : Q none s) : wpAny (model prog w) A (dictFind d key ((mixKind prog w).hash k)) Q E s := by
  obtain ⟨o, es, ep, a1, _, a3, a4, a5, _⟩ := hm
  refine wpAny_dictFind_of hkey a1 a3 a4 ?_
  have e : (es.findIdx? fun e => (mixKind prog w).is k e.key) = kvs.findIdx? fun kv => decide (kv.1 = k) := by
    have q := a5.findIdx k
    obtain ⟨l⟩ := es
    simpa using q.symm ▸ (by simp)
  have z : (kvs.findIdx? fun kv => decide (kv.1 = k)) = none := List.findIdx?_eq_none_iff.mpr fun x hx => decide_eq_false fun q => hn (List.mem_map.mpr ⟨x, hx, q⟩)
  rw [e, z]
  exact h
theorem grown {h : Heap} {d : Addr} {o : Obj} {es : Array DictEntry} {ep : Nat} {kvs : List (Key × Value)} {k : Key} {key v : Value} (hkey : (mixKind prog w).is k key = true) (a1 : h.get? d = some o) (a2 : o.ExactDict) (a3 : o.data = .dict es ep)
    (a4 : KeysOf (mixKind prog w) es) (a5 : Pairs (mixKind prog w) es.toList kvs) (a6 : (kvs.map (·.1)).Nodup) (hn : k ∉ kvs.map (·.1)) :
    (h.update d (Obj.mapDictKeys (·.push ⟨(mixKind prog w).hash k, key, v⟩))).DictOf (mixKind prog w) d (kvs ++ [(k, v)]) := by
  refine ⟨_, _, ep + 1, Heap.get?_update_self _ a1 (Obj.isFreed_of_dict (Obj.data_mapDictKeys a3 _)), a2.mapDictKeys _, Obj.data_mapDictKeys a3 _, a4.push hkey _, ?_, ?_⟩
  · have q := a5.append hkey ((mixKind prog w).hash k) v
    obtain ⟨l⟩ := es
    simpa using q
  · rw [List.map_append, List.nodup_append]
    exact ⟨a6, by simp, fun x hx y hy e => hn (by rw [e] at hx; rw [List.mem_singleton.mp hy] at hx; exact hx)⟩
theorem put_new {d : Addr} {kvs : List (Key × Value)} {k : Key} {key v : Value} {Q : Unit → Shared → Prop} (hkey : (mixKind prog w).is k key = true) (hm : s.heap.DictOf (mixKind prog w) d kvs) (hn : k ∉ kvs.map (·.1)) (hz : kvs.length ≤ sizeLine)
    (h : ∀ h', h'.DictOf (mixKind prog w) d (kvs ++ [(k, v)]) → Heap.SameBut d s.heap h' → Q () { s with heap := h' }) : wpAny (model prog w) A (dictPut d ((mixKind prog w).hash k) key v) Q E s := by
  unfold dictPut
  refine wpAny_bind (find_no hkey hm hn ?_)
  obtain ⟨o, es, ep, a1, a2, a3, a4, a5, a6⟩ := hm
  have hes : es.size ≤ sizeLine := by
    have e1 := a5.length
    have e2 : es.toList.length = es.size := by simp
    omega
  exact wpAny_updateDictKeys (hz := hes) a1 a3 (h _ (grown hkey a1 a2 a3 a4 a5 a6 hn) (Heap.SameBut.update ..))
theorem no_idx {es : Array DictEntry} {kvs : List (Key × Value)} {k : Key} (a5 : Pairs (mixKind prog w) es.toList kvs) (hn : k ∉ kvs.map (·.1)) : (es.findIdx? fun e => (mixKind prog w).is k e.key) = none := by
  have q := a5.findIdx k
  have z : (kvs.findIdx? fun kv => decide (kv.1 = k)) = none := List.findIdx?_eq_none_iff.mpr fun x hx => decide_eq_false fun q => hn (List.mem_map.mpr ⟨x, hx, q⟩)
  rw [z] at q
  obtain ⟨l⟩ := es
  simpa using q
theorem no_refs {es : Array DictEntry} (a4 : KeysOf (mixKind prog w) es) : es.any (·.refKey) = false := by
  rw [Array.any_eq_false']
  intro e he
  obtain ⟨k, hk, _⟩ := a4 e he
  rcases keyIs_shape hk with ⟨a, t, _, q⟩ | ⟨a, t, _, q⟩ <;> simp [DictEntry.refKey, q]
theorem put_obj {o : Obj} {es : Array DictEntry} {ep : Nat} {kvs : List (Key × Value)} {x : Str} {h : Int} {key v : Value} (a3 : o.data = .dict es ep) (a5 : Pairs (mixKind prog w) es.toList kvs) (hn : (Sum.inr x : Key) ∉ kvs.map (·.1)) :
    Obj.putName x h key v o = Obj.mapDictKeys (·.push ⟨h, key, v⟩) o := by
  have e : (es.findIdx? (·.key.isStr x)) = none := by
    rw [← no_idx (prog := prog) (w := w) a5 hn]
    congr 1
    funext z
    exact ((mixKind prog w).strs (Sum.inr x) x 0 z.key (mixKind_str prog w x 0)).symm
  obtain ⟨c, d, dt, sl⟩ := o
  subst a3
  rw [Obj.putName_eq]
  unfold Obj.putNameByArray
  simp only [e]
  rfl
/-- ns[name] = v, a new name -/
theorem ns_new {d : Addr} {kvs : List (Key × Value)} {x : Str} {v : Value} {Q : Unit → Shared → Prop} (hm : s.heap.DictOf (mixKind prog w) d kvs) (hn : (Sum.inr x : Key) ∉ kvs.map (·.1))
    (h : ∀ h' t, h'.DictOf (mixKind prog w) d (kvs ++ [(Sum.inr x, v)]) → Heap.SameBut d s.heap h' → Q () { s with heap := h', toks := t }) : wpAny (model prog w) A (nsSet d x v) Q E s := by
  obtain ⟨o, es, ep, a1, a2, a3, a4, a5, a6⟩ := hm
  unfold nsSet strHash
  refine wpAny_bind (wpAny_bind (wpAny_askSetting (wpAny_pure ?_)))
  refine wpAny_bind (wpAny_mkText (wpAny_bind (wpAny_loadPart a1 ?_)))
  rw [a3]
  dsimp only
  rw [if_neg (by rw [aRefKeyMayBeTheName_eq]; unfold aRefKeyMayBeTheNameByArray; rw [no_refs a4, Bool.and_false]; exact Bool.false_ne_true)]
  refine wpAny_updatePart a1 ?_
  have key := grown (h := s.heap) (v := v) (key := .str x s.toks) (mixKind_str prog w x s.toks) a1 a2 a3 a4 a5 a6 hn
  have e : s.heap.update d (Obj.putName x (hashStr w x) (.str x s.toks) v) = s.heap.update d (Obj.mapDictKeys (·.push ⟨(mixKind prog w).hash (Sum.inr x), .str x s.toks, v⟩)) := update_at a1 (put_obj a3 a5 hn)
  rw [← e] at key
  exact h _ _ key (Heap.SameBut.update ..)
theorem merge_new {d o : Addr} {more : List (Key × Value)} {Q : Unit → Shared → Prop} (hdo : d ≠ o) (hoS : (o == sysModules) = false) (hd : s.heap.DictOf (mixKind prog w) d []) (ho : s.heap.DictOf (mixKind prog w) o more)
    (hz : more.length ≤ sizeLine) (hQ : ∀ h', h'.DictOf (mixKind prog w) d more → Heap.SameBut d s.heap h' → Q () { s with heap := h' }) : wpAny (model prog w) A (mergeMapping d (.ref o) true) Q E s := by
  obtain ⟨od, esd, epd, d1, d2, d3, d4, d5, _⟩ := id hd
  obtain ⟨oo, eso, epo, o1, o2, o3, o4, o5, o6⟩ := id ho
  have hT : s.TypeIs (.ref o) "dict" := ⟨oo, o1, o2.1⟩
  have hesd : esd.isEmpty = true := by
    have q := d5.length
    obtain ⟨l⟩ := esd
    have q : l.length = 0 := q
    cases l with
    | nil => rfl
    | cons _ _ => cases q
  have hlen : more.length = eso.size := by
    rw [← o5.length]
    simp
  unfold mergeMapping
  refine wpAny_bind (wpAny_isInstance hT isSubtype_dict_dict ?_)
  dsimp only
  rw [if_pos rfl]
  refine wpAny_bind (wpAny_specialOf hT F.slot_dict_iter.lookup (wpAny_bind (wpAny_pure ?_)))
  rw [show (some (Value.builtin "dict.__iter__") == some (Value.builtin "dict.__iter__")) = true by decide]
  dsimp only
  rw [if_neg (by rw [hoS]; exact Bool.false_ne_true)]
  refine wpAny_bind (wpAny_dictEntries d1 d3 ?_)
  rw [if_pos hesd]
  refine wpAny_bind (wpAny_dictEntries o1 o3 (wpAny_bind ?_))
  rw [← Array.forIn_toList]
  refine wpAny_forIn_list _ (fun rest _ s' => s' = s ∧ ∀ e ∈ rest, e ∈ eso) _ ?_ ?_ _ _ ⟨rfl, fun e he => Array.mem_toList_iff.mp he⟩
  · rintro e rest b s' ⟨rfl, hm⟩
    obtain ⟨k, hk, _⟩ := o4 e (hm e (List.mem_cons_self ..))
    have hm2 : ∀ e ∈ rest, e ∈ eso := fun x hx => hm x (List.mem_cons_of_mem _ hx)
    rcases keyIs_shape hk with ⟨a, t, _, q⟩ | ⟨a, t, _, q⟩
    · rw [q]
      exact wpAny_pure ⟨rfl, hm2⟩
    · rw [q]
      exact wpAny_pure ⟨rfl, hm2⟩
  · rintro b s' ⟨rfl, _⟩
    refine wpAny_bind (wpAny_dictEntries o1 o3 (wpAny_bind (wpAny_dictEpoch o1 o3 (wpAny_bind ?_))))
    rw [List.range_eq_range']
    refine wpAny_forIn_list _
      (fun rest _ s2 => ∃ h' i, s2 = { s' with heap := h' } ∧ i ≤ eso.size ∧ rest = List.range' i (eso.size - i) ∧ h'.DictOf (mixKind prog w) d (more.take i) ∧ Heap.SameBut d s'.heap h') _ ?_ ?_ _ _
      ⟨s'.heap, 0, rfl, Nat.zero_le _, by simp, by simpa using hd, Heap.SameBut.refl _ _⟩
    · rintro x rest u s2 ⟨h1, i, rfl, hi, hr, hd1, hs1⟩
      have hlt : i < eso.size := by
        rcases Nat.lt_or_ge i eso.size with q | q
        · exact q
        · rw [Nat.sub_eq_zero_of_le q] at hr
          simp at hr
      rw [show eso.size - i = (eso.size - (i + 1)) + 1 by omega, List.range'_succ] at hr
      obtain ⟨rfl, rfl⟩ : x = i ∧ rest = List.range' (i + 1) (eso.size - (i + 1)) := List.cons.inj hr
      have o1' : h1.get? o = some oo := (hs1.2 o (Ne.symm hdo)).trans o1
      refine wpAny_bind (wpAny_dictEntries o1' o3 ?_)
      rw [Array.getElem?_eq_getElem hlt]
      obtain ⟨⟨k, v⟩, hkv⟩ : ∃ kv, more[x]? = some kv := ⟨more[x]'(by rw [hlen]; exact hlt), List.getElem?_eq_getElem _⟩
      obtain ⟨hkey, hval⟩ := o5.get? (e := eso[x]) (by simp [hlt]) hkv
      obtain ⟨k', hkey', hhash⟩ := o4 eso[x] (Array.getElem_mem hlt)
      obtain rfl : k' = k := (mixKind prog w).inj _ _ _ hkey' hkey
      dsimp only
      rw [if_pos rfl, hhash, hval]
      have hn : k' ∉ (more.take x).map (·.1) := fun q => by
        have hx : x < more.length := by omega
        have e2 : more.take (x + 1) = more.take x ++ [(k', v)] := by rw [List.take_add_one, hkv]; rfl
        have nd : ((more.take (x + 1)).map (·.1)).Nodup := (o6.sublist ((List.take_sublist ..).map _))
        rw [e2, List.map_append, List.nodup_append] at nd
        exact nd.2.2 k' q k' (by simp) rfl
      refine wpAny_bind (wpAny_holding (wpAny_bind (find_no hkey hd1 hn ?_)))
      rw [if_neg (by simp)]
      refine put_new hkey hd1 hn (by rw [List.length_take]; omega) fun h2 hd2 hs2 => ?_
      have o1'' : h2.get? o = some oo := (hs2.2 o (Ne.symm hdo)).trans o1'
      refine wpAny_bind (wpAny_dictEpoch o1'' o3 ?_)
      rw [if_neg (by simp)]
      refine wpAny_pure ⟨h2, x + 1, rfl, hlt, rfl, ?_, hs1.trans hs2⟩
      rw [List.take_add_one, hkv]
      exact hd2
    · rintro u s2 ⟨h1, i, rfl, hi, hr, hd1, hs1⟩
      have e : i = eso.size := by
        rcases Nat.lt_or_ge i eso.size with q | q
        · rw [show eso.size - i = (eso.size - (i + 1)) + 1 by omega, List.range'_succ] at hr
          cases hr
        · omega
      subst e
      rw [← hlen, List.take_length] at hd1
      exact wpAny_pure (hQ h1 hd1 hs1)
abbrev tk (ns : List (Str × Value)) : List (Key × Value) := ns.map fun q => ((Sum.inr q.1 : Key), q.2)
theorem kw_in {f : Value} {d : Addr} {ns : List (Str × Value)} {Q : List (Str × Value) → Shared → Prop} (hm : s.heap.DictOf (mixKind prog w) d (tk ns)) (h : Q ns s) : wpAny (model prog w) A (keywordsIn f d) Q E s := by
  obtain ⟨o, es, ep, a1, a2, a3, a4, a5, a6⟩ := hm
  unfold keywordsIn
  refine wpAny_bind (wpAny_dictEntries a1 a3 (wpAny_bind ?_))
  rw [← Array.forIn_toList]
  refine wpAny_forIn_list _ (fun rest (kw : List (Str × Value)) s' => s' = s ∧ ∃ rns, Pairs (mixKind prog w) rest (tk rns) ∧ kw ++ rns = ns) _ ?_ ?_ _ _ ⟨rfl, ns, a5, rfl⟩
  · rintro e rest kw s' ⟨rfl, rns, hp, he⟩
    cases rns with
    | nil => cases hp
    | cons r rns =>
      cases hp with
      | cons h1 h2 h3 =>
        have h1 : keyIs (Sum.inr r.1) e.key = true := h1
        rcases keyIs_shape h1 with ⟨a, t, q, _⟩ | ⟨a, t, q, q2⟩
        · cases q
        · cases q
          rw [q2]
          refine wpAny_pure ⟨rfl, rns, h3, ?_⟩
          rw [← he, List.append_assoc]
          have h2 : e.val = r.2 := h2
          rw [h2]
          rfl
  · rintro kw s' ⟨rfl, rns, hp, he⟩
    cases rns with
    | nil =>
      rw [List.append_nil] at he
      rw [he]
      exact wpAny_pure h
    | cons r rns => cases hp
abbrev dict0 : Obj := { cls := .type "dict", data := .dict #[] }
theorem kw_evalArgs {f : Value} {x : Sem Value} {Q : Args → Shared → Prop}
    (h : wpAny (model prog w) A x (fun v s1 => ∃ (o : Addr) (ns : List (Str × Value)), v = .ref o ∧ s1.heap.get? s.heap.objs.size = some dict0 ∧ s1.heap.DictOf (mixKind prog w) o (tk ns) ∧ s.heap.objs.size ≠ o ∧ (o == sysModules) = false ∧ ns.length ≤ sizeLine ∧
      ∀ h', Heap.SameBut s.heap.objs.size s1.heap h' → (∃ o, h'.get? s.heap.objs.size = some o) → Q ⟨[], ns⟩ { s1 with heap := h' }) E { s with heap := s.heap.push dict0 }) :
    wpAny (model prog w) A (evalArgs f true [] [(none, x)]) Q E s := by
  unfold evalArgs
  refine wpAny_bind (wpAny_bind (wpAny_pure (wpAny_pure ?_)))
  refine wpAny_bind (wpAny_pure ?_)
  refine wpAny_holding ?_
  rw [if_neg (by simp)]
  refine wpAny_bind ?_
  unfold mergedKeywords
  refine wpAny_bind (wpAny_alloc ?_)
  refine wpAny_bind (wpAny_holding ?_)
  dsimp only
  rw [List.forIn_cons]
  refine wpAny_bind (wpAny_bind ?_)
  refine wpAny_bind (m := (pure () : Sem Unit)) (wpAny_pure ?_)
  refine wpAny_bind (m := x) (wpAny_mono h (fun v s1 hv => ?_) fun _ _ z => z)
  obtain ⟨o, ns, rfl, g1, g2, g3, g4, g5, q⟩ := hv
  refine wpAny_bind (wpAny_onRaise (wpAny_holding (wpAny_tryCatch (wpAny_onRaise ?_))))
  have hd : s1.heap.DictOf (mixKind prog w) s.heap.objs.size [] := ⟨_, #[], 0, g1, ⟨rfl, rfl, rfl⟩, rfl, fun e he => by simp at he, .nil, by simp⟩
  refine merge_new g3 g4 hd g2 (by rw [List.length_map]; exact g5) fun h' hd' hs' => ?_
  refine wpAny_pure ?_
  refine (show wpAny (model prog w) A (pure ([] : List (Str × Sem Value))) _ _ _ from wpAny_pure ?_)
  refine (show wpAny (model prog w) A (pure () : Sem Unit) _ _ _ from wpAny_pure ?_)
  refine wpAny_pure ?_
  refine wpAny_bind (wpAny_pure ?_)
  refine wpAny_bind (wpAny_holding (kw_in hd' (wpAny_pure ?_)))
  exact q h' hs' (let ⟨o, _, _, ho, _⟩ := hd'; ⟨o, ho⟩)
/-- def f(self, **parts): what it binds -/
theorem kw_bind {x qual : Str} {params : Arguments} {body : List Stmt} {scope : Scope} {kV doc pm : Value} {an : Option Addr} {cdv ct : Value} {u : Value} {ns : List (Str × Value)} {Q : List (Str × Value) → Shared → Prop} {p1 pv : Str} {a : Arg}
    (h1 : params.posonlyargs = []) (h2 : params.args.map (·.arg) = [p1]) (h3 : params.kwonlyargs = []) (h4 : params.kwarg = some a) (h4' : a.arg = pv) (h5 : params.vararg = none) (hp : ∀ q ∈ ns, q.1 ≠ p1) (hnd : (ns.map (·.1)).Nodup) (hz : ns.length ≤ sizeLine)
    (h : ∀ h' t, (∀ b o, s.heap.get? b = some o → h'.get? b = some o) → h'.DictOf (mixKind prog w) s.heap.objs.size (tk ns) → Q [(p1, u), (pv, .ref s.heap.objs.size)] { s with heap := h', toks := t }) :
    wpAny (model prog w) A (bindArgs (PySem.W.fnOf x qual params body scope .none kV doc pm an cdv ct) ⟨[u], ns⟩) Q E s := by
  unfold bindArgs
  simp only [h1, h2, h3, h4, h5, List.map_nil, List.nil_append, List.append_nil]
  refine wpAny_bind ?_
  refine wpAny_forIn_list _ (fun rest (st : List (Str × Value) × List (Str × Value)) s' => s' = s ∧ st.1 = [(p1, u)] ∧ st.2 ++ rest = ns) _ ?_ ?_ _ _ ⟨rfl, rfl, rfl⟩
  · rintro ⟨y, v⟩ rest ⟨sl, ex⟩ s' ⟨rfl, q1, q2⟩
    have hy : y ≠ p1 := hp (y, v) (by rw [← q2]; simp)
    rw [if_neg (by simp [hy]), if_pos (show (some a).isSome = true from rfl)]
    refine wpAny_pure ⟨rfl, q1, ?_⟩
    rw [← q2, List.append_assoc]
    rfl
  · rintro ⟨sl, ex⟩ s' ⟨rfl, q1, q2⟩
    obtain rfl : sl = [(p1, u)] := q1
    obtain rfl : ex = ns := (List.append_nil ex).symm.trans q2
    refine wpAny_bind (wpAny_of_eq (show seqItems? Value.none = pure none from rfl) ?_)
    simp only [List.lookup_cons_self, List.lookup, beq_self_eq_true, List.length_cons, List.length_nil, Nat.lt_irrefl, decide_false, Bool.false_and, Bool.false_eq_true, if_false, Option.getD_none, Option.isSome_some, Option.isNone_some, List.drop_nil, List.take, List.filter]
    rw [if_neg (show ¬ (![].isEmpty) = true from by simp)]
    refine wpAny_bind (m := (pure [(p1, u)] : Sem (List (Str × Value)))) (wpAny_pure ?_)
    refine wpAny_bind (m := (pure ([(p1, u)], []) : Sem (List (Str × Value) × List Str))) (wpAny_pure ?_)
    rw [if_neg (show ¬ (![].isEmpty) = true from by simp), if_neg (by omega)]
    refine wpAny_bind (wpAny_alloc (wpAny_bind ?_))
    have hfm : List.filterMap (fun n => Option.map (fun x => (n, x)) (List.lookup n [(p1, u)])) [p1] = [(p1, u)] := by simp
    refine wpAny_forIn_list _ (fun rest (_ : PUnit) s2 => ∃ done h' t, done ++ rest = ex ∧ s2 = { s' with heap := h', toks := t } ∧ h'.DictOf (mixKind prog w) s'.heap.objs.size (tk done) ∧ ∀ b o, s'.heap.get? b = some o → h'.get? b = some o) _ ?_ ?_ _ _
      ⟨[], s'.heap.push dict0, s'.toks, rfl, rfl, ⟨_, #[], 0, Heap.get?_push_size _ rfl, ⟨rfl, rfl, rfl⟩, rfl, fun e he => by simp at he, .nil, by simp⟩, fun b o e => Heap.get?_push_of_some _ e⟩
    · rintro ⟨y, v⟩ rest b s2 ⟨done, h1, t, e, rfl, hd, kp⟩
      have hn : (Sum.inr y : Key) ∉ (tk done).map (·.1) := fun q => by
        rw [← e, List.map_append, List.nodup_append] at hnd
        obtain ⟨z, hz1, hz2⟩ := List.mem_map.mp q
        obtain ⟨z0, hz3, rfl⟩ := List.mem_map.mp hz1
        exact hnd.2.2 z0.1 (List.mem_map.mpr ⟨z0, hz3, rfl⟩) y (by simp) (Sum.inr.inj hz2)
      refine wpAny_bind (ns_new hd hn fun h2 t2 hd2 hs2 => ?_)
      refine wpAny_pure ⟨done ++ [(y, v)], h2, t2, ?_, rfl, ?_, fun b o q => ?_⟩
      · rw [← e, List.append_assoc]
        rfl
      · show h2.DictOf (mixKind prog w) _ (List.map _ (done ++ [(y, v)]))
        rw [List.map_append]
        exact hd2
      · exact (hs2.2 b (Nat.ne_of_lt (Heap.lt_size q))).trans (kp b o q)
    · rintro b s2 ⟨done, h1, t, e, rfl, hd, kp⟩
      rw [List.append_nil] at e
      subst e
      refine wpAny_pure ?_
      rw [hfm, h4']
      exact h h1 t kp hd
end
/-! ### the call -/
abbrev tkV (kns : List (Str × V)) : List (Key × V) := kns.map fun q => ((Sum.inr q.1 : Key), q.2)
theorem tk_of {kns : List (Str × V)} {vs : List (Key × Value)} (r : KV (tkV kns) vs) : ∃ ns, vs = tk ns ∧ KV kns ns := by
  induction kns generalizing vs with
  | nil =>
    cases r
    exact ⟨[], rfl, .nil⟩
  | cons p kns ih =>
    cases r with
    | @cons _ q _ _ a b =>
      obtain ⟨ns, rfl, k⟩ := ih b
      obtain ⟨k1, v1⟩ := q
      obtain ⟨a1, a2⟩ := a
      have a1 : (Sum.inr p.1 : Key) = k1 := a1
      subst a1
      exact ⟨(p.1, v1) :: ns, rfl, .cons ⟨rfl, a2⟩ k⟩
theorem tk_kv {kns : List (Str × V)} {ns : List (Str × Value)} (r : KV kns ns) : KV (tkV kns) (tk ns) := by
  induction r with
  | nil => exact .nil
  | cons a b ih => exact .cons ⟨congrArg Sum.inr a.1, a.2⟩ ih
theorem kv_names {kns : List (Str × V)} {ns : List (Str × Value)} (r : KV kns ns) : ns.map (·.1) = kns.map (·.1) := by
  induction r with
  | nil => rfl
  | cons a b ih =>
    rw [List.map_cons, List.map_cons, ih, a.1]
section
variable {P : Program} {w : World} {K : Fr} {mg : Str → Option Value} {base : Heap} {A : Around} {outer : List Env} {s : Shared} {H : Hp}
theorem env0_more {h' : Heap} {t : Nat} {u : HO} (e0 : Env0 P w K mg base A outer s H) (kp : ∀ b o, s.heap.get? b = some o → h'.get? b = some o) (hD : ∃ o, h'.get? s.heap.objs.size = some o) (new : ObjOk P w (upd H s.heap.objs.size u) h' s.heap.objs.size u) :
    Env0 P w K mg base A outer { s with heap := h', toks := t } (upd H s.heap.objs.size u) := by
  obtain ⟨oD, hD⟩ := hD
  refine ⟨e0.frames, e0.mod, fun b x e => ⟨kp b x (e0.bs b x e).1, ?_⟩, Nat.le_trans e0.bsz (Nat.le_of_lt (Heap.lt_size hD)), Heap.FunFrames.of_keeps (fun b x e _ => ⟨x, kp b x e, rfl⟩) e0.funs, fun b hb => ?_, e0.hok.laid kp (Nat.le_refl _) new, e0.bare⟩
  · have q := e0.bs b x e
    rw [upd_ne (Nat.ne_of_lt (Heap.lt_size q.1))]
    exact q.2
  · obtain ⟨_, x, hx, _⟩ := e0.funs.mem hb
    rw [upd_ne (Nat.ne_of_lt (Heap.lt_size hx))]
    exact e0.frf b hb
/-- def f(self, **parts), called with keywords only -/
theorem fn_kw {CX : CXT} {k : Nat} {f : Addr} {name qual : Str} {params : Arguments} {body : List Stmt} {scope : Scope} {kV doc pm cdv ct oc : Value} {an od : Option Addr} {osl : Array (Option Value)} {N : List Str} {sp : Sp} {p1 pv : Str} {ar : Arg}
    (lk : K.lookup f = some ⟨oc, od, .func (PySem.W.fnOf name qual params body scope .none kV doc pm an cdv ct), osl⟩) (hcd : PySem.W.codeIn K cdv qual = true) (S : FnScope N [p1, pv] scope) (hCX : StX.CXUp CX)
    (h1 : params.posonlyargs = []) (h2 : params.args.map (·.arg) = [p1]) (h3 : params.kwonlyargs = []) (h4 : params.kwarg = some ar) (h4' : ar.arg = pv) (h5 : params.vararg = none)
    (hbody : ∀ (A : Around) (outer : List Env) (s : Shared) (H : Hp) (vs : List V) (Q : VK) (E : XK), Room k (A.deeper (envOfC qual scope s.heap.objs.size f cdv)) → sp vs H Q E →
      ∃ t, PSs (cxOf CX P w K mg base N qual scope f cdv A outer s H E) body t ∧ t { nx := fun _ H' => Q .non H', rt := Q } (start N vs) H)
    {u : Value} {v : V} {kns : List (Str × V)} {ns : List (Str × Value)} {Q : VK} {E : XK} (hr : Room (k + 1) A) (e0 : Env0 P w K mg base A outer s H) (ru : RelV v u) (rn : KV kns ns) (hp : ∀ q ∈ kns, q.1 ≠ p1) (hnd : (kns.map (·.1)).Nodup) (hz : kns.length ≤ sizeLine)
    (hsp : ∀ p, H p = none → sp [v, .ref p] (upd H p (.dK (tkV kns))) Q E) : codeAny (model P w) A (.call (.ref f) ⟨[u], ns⟩) (CR CX outer P w H s Q E) s := by
  have hn : H s.heap.objs.size = none := e0.hok.fresh (Nat.le_refl _)
  have nm := kv_names rn
  have hlen : ns.length = kns.length := by
    have q := congrArg List.length nm
    simpa using q
  refine StX.run_bnd (G := fun xs H2 => ∃ p, H p = none ∧ xs = [v, V.ref p] ∧ H2 = upd H p (.dK (tkV kns))) lk hcd S hr e0 (fun A' Ex Q' hQ => ?_) fun s2 H2 xs g hr' => ?_
  · refine kw_bind h1 h2 h3 h4 h4' h5 (fun q hq => ?_) (by rw [nm]; exact hnd) (by omega) fun h' t kp hd => ?_
    · have z : q.1 ∈ kns.map (·.1) := by
        rw [← nm]
        exact List.mem_map.mpr ⟨q, hq, rfl⟩
      obtain ⟨y, hy, e⟩ := List.mem_map.mp z
      rw [← e]
      exact hp y hy
    · have sysn : (s.heap.objs.size == sysModules) = false := beq_eq_false_iff_ne.mpr (Nat.ne_of_gt (StX.env0_big e0))
      have new : ObjOk P w (upd H s.heap.objs.size (.dK (tkV kns))) h' s.heap.objs.size (.dK (tkV kns)) := ⟨by rw [List.length_map]; exact hz, sysn, tk ns, tk_kv rn, hd⟩
      have hget : ∃ o, h'.get? s.heap.objs.size = some o := by
        obtain ⟨o, _, _, ho, _⟩ := hd
        exact ⟨o, ho⟩
      have un : Un (frs outer) [] H (upd H s.heap.objs.size (.dK (tkV kns))) s.heap h' := Un.laid kp (Nat.le_refl _) hn
      exact hQ { s with heap := h', toks := t } _ [v, .ref s.heap.objs.size] [u, .ref s.heap.objs.size] (env0_more e0 kp hget new) un rfl (fun e s' => hCX outer s H _ _ E e s' un kp rfl) (.cons ru (.cons rfl .nil)) rfl ⟨_, hn, rfl, rfl⟩
  · obtain ⟨p, hp, rfl, rfl⟩ := g
    exact hbody A outer s2 _ _ Q E hr' (hsp p hp)
end
/-- the dict that the call merges into: empty; whatever -/
def jk (d : Addr) : HO := .ext fun h => h.get? d = some dict0
def jk2 (d : Addr) : HO := .ext fun h => ∃ o, h.get? d = some o
theorem jk_ok {P : Program} {w : World} {H : Hp} {h : Heap} {d : Addr} (e : h.get? d = some dict0) : ObjOk P w H h d (jk d) := ⟨e, ⟨_, e⟩, fun h1 h2 z k => k _ z⟩
theorem jk2_ok {P : Program} {w : World} {H : Hp} {h : Heap} {d : Addr} (e : ∃ o, h.get? d = some o) : ObjOk P w H h d (jk2 d) := ⟨e, e, fun h1 h2 ⟨o, z⟩ k => ⟨o, k _ z⟩⟩
theorem jk_at {P : Program} {w : World} {H : Hp} {h : Heap} {d : Addr} (hok : HOk P w H h) (e : H d = some (jk d)) : h.get? d = some dict0 := by
  have x : ObjOk P w H h d (.ext fun h => h.get? d = some dict0) := hok d _ e
  exact x.1
/-- o.m( **d), o an instance, m its method at g; d a dict with text keys -/
def tMethK (K : Fr) (C : Addr) (m : Str) (g : Addr) (p1 : Str) (sp : Sp) (E : XK) (ta td : TE) : TE := fun σ H Q => ta σ H fun x H1 => ∃ a dx fs, x = .ref a ∧ H1 a = some (.ins C dx fs) ∧ fs.lookup m = none ∧
  ∀ q d, H1 q = none → upd H1 q (.met g a) d = none → td σ (upd (upd H1 q (.met g a)) d (jk d)) fun y H2 => ∃ (pd : Addr) (kns : List (Str × V)), y = .ref pd ∧ H2 pd = some (.dK (tkV kns)) ∧ H2 q = some (.met g a) ∧ H2 d = some (jk d) ∧
    kns.length ≤ 1000 ∧ (kns.map (·.1)).Nodup ∧ (∀ z ∈ kns, z.1 ≠ p1) ∧ ∀ p, upd H2 d (jk2 d) p = none → sp [.ref a, .ref p] (upd (upd H2 d (jk2 d)) p (.dK (tkV kns))) Q E
/-- what such a method does, called with a dict's items -/
def KwR (P : Program) (w : World) (K : Fr) (mg : Str → Option Value) (base : Heap) (CX : CXT) (k : Nat) (f : Addr) (p1 : Str) (sp : Sp) : Prop :=
  ∀ (A : Around) (outer : List Env) (s : Shared) (H : Hp) (u : Value) (v : V) (kns : List (Str × V)) (ns : List (Str × Value)) (Q : VK) (E : XK), Room k A → Env0 P w K mg base A outer s H → RelV v u → KV kns ns → (∀ q ∈ kns, q.1 ≠ p1) → (kns.map (·.1)).Nodup → kns.length ≤ sizeLine →
    (∀ p, H p = none → sp [v, .ref p] (upd H p (.dK (tkV kns))) Q E) → codeAny (model P w) A (.call (.ref f) ⟨[u], ns⟩) (CR CX outer P w H s Q E) s
theorem pe_methK {X : Cx} {CX : CXT} {k : Nat} {C g : Addr} {m p1 : Str} {sp : Sp} {E : XK} {o e : Expr} {ta td : TE} {kp apos pos : Pos} (he : PE X o ta) (c : Cls X.K C) (b : BMeth X.K C m g) (Fn : KwR X.prog X.w X.K X.mg X.base CX k g p1 sp) (hr : Room k X.A)
    (hx : Passes CX X E) (hd : PE X e td) (hbase : attributeBase o m X.env (eval o X.env) = eval o X.env := by rfl) : PE X (.Call (.Attribute o m apos) [] [⟨none, e, kp⟩] pos) (tMethK X.K C m g p1 sp E ta td) := by
  refine ⟨fun pins s σ H Q I h => ?_⟩
  have hke : backToKw pos (keywordEach [⟨none, e, kp⟩] X.env) = [(none, do let v ← eval e X.env; standAt pos; pure v)] := rfl
  have hst : backTo pos (starEach [] X.env) = [] := rfl
  have hform : methodCallForm (([] : List Expr).length + [(⟨none, e, kp⟩ : Keyword)].length) [] [(none, do let v ← eval e X.env; standAt pos; pure v)] = false := rfl
  have hcal : ∀ ov, calleeOf false o X.env ov m = (getAttr ov m true >>= fun v => pure (v, [])) := fun _ => rfl
  have hpos : methodCallPos false o X.env apos pos = pure pos := rfl
  rw [arm_eval_Call, hbase, hst, hke]
  refine wpAny_bind (thn (he.run pins s σ H _ I h) fun u s1 ⟨x, H1, I1, rx, a, dx, fs, ex, ea, l, q⟩ => wpAny_bind (wpAny_standAt ?_))
  subst ex
  obtain rfl : u = Value.ref a := rx
  unfold methodCall
  rw [hform, hpos, hcal]
  refine wpAny_bind (wpAny_holding (wpAny_bind (getbound_ok I1 ea c b l fun q1 s2 hq1 I2 => wpAny_pure ?_)))
  refine wpAny_bind (wpAny_pure ?_)
  have nD : upd H1 q1 (.met g a) s2.heap.objs.size = none := I2.hok.fresh (Nat.le_refl _)
  have hq := q q1 s2.heap.objs.size hq1 nD
  have gD : (s2.heap.push dict0).get? s2.heap.objs.size = some dict0 := Heap.get?_push_size _ rfl
  have I3 := I2.laid (t' := s2.toks) (a := s2.heap.objs.size) (o := jk s2.heap.objs.size) (h' := s2.heap.push dict0) (fun b u z => Heap.get?_push_of_some _ z) (Nat.le_refl _) (jk_ok gD)
  unfold callWith
  refine wpAny_bind (wpAny_holding (kw_evalArgs ?_))
  refine wpAny_bind (thn (hd.run pins _ σ _ _ I3 hq) fun u4 s4 ⟨y, H2, I4, ry, pd, kns, ey, hpd, hmet, hjk, hz, hnd, hne, hsp⟩ => wpAny_bind (wpAny_standAt (wpAny_pure ?_)))
  subst ey
  obtain rfl : u4 = Value.ref pd := ry
  obtain ⟨z1, z2, vs, kv, hdict⟩ : ObjOk X.prog X.w H2 s4.heap pd (.dK (tkV kns)) := I4.hok pd _ hpd
  obtain ⟨ns, rfl, kv2⟩ := tk_of kv
  have nm := kv_names kv2
  have hlen : ns.length = kns.length := by
    have q := congrArg List.length nm
    simpa using q
  have nepd : s2.heap.objs.size ≠ pd := fun z => by
    rw [z, hpd] at hjk
    cases hjk
  refine ⟨pd, ns, rfl, jk_at I4.hok hjk, hdict, nepd, z2, by rw [hlen]; exact Nat.le_of_lt (small1000 hz), fun h5 sb ex5 => ?_⟩
  have I5 := I4.write (t' := s4.toks) (x := s2.heap.objs.size) (e := s2.heap.objs.size) (o := jk2 s2.heap.objs.size) (h' := h5) (by rw [hjk]; exact True.intro) (.inl rfl) (fun b u hb z => (sb.2 b hb).trans z) ex5 (jk2_ok ex5)
  have nq : q1 ≠ s2.heap.objs.size := fun z => by
    rw [← z, hmet] at hjk
    cases hjk
  have hm5 : upd H2 s2.heap.objs.size (jk2 s2.heap.objs.size) q1 = some (.met g a) := by
    rw [upd_ne nq]
    exact hmet
  obtain ⟨kk, hk', L⟩ := PySem.W.keeps_M (M := model X.prog X.w) b.fi _ (met_P I5 hm5)
  refine wpAny_bind (wpAny_standAt ?_)
  have fin : wpAny (model X.prog X.w) X.A (call (.ref q1) ([] ++ (⟨[], ns⟩ : Args).pos) ns) (EP X pins σ Q) X.xe { s4 with heap := h5 } := by
    refine wpAny_call (PySem.W.method_call (met_P I5 hm5).1 (codeAny_mono (Fn X.A X.stack _ _ (.ref a) (.ref a) kns ns Q E hr I5.env0 rfl kv2 hne hnd (Nat.le_of_lt (small1000 hz)) hsp) fun r s' hq' => ?_))
    cases r with
    | error er => exact hx pins σ _ _ er s' I5 hq'
    | ok fl =>
      cases fl with
      | ret u => exact I5.after hq'
      | next => exact False.elim hq'
      | brk => exact False.elim hq'
      | cont => exact False.elim hq'
  simp only [List.any_cons, List.any_nil, Option.isNone_none, Bool.true_or, Bool.false_or]
  refine wpAny_bind (L.here ?_)
  have last : ∀ {t : Sem Value}, wpAny (model X.prog X.w) X.A t (EP X pins σ Q) X.xe { s4 with heap := h5 } → wpAny (model X.prog X.w) X.A (t >>= fun r => holding [r] point >>= fun _ => pure r) (EP X pins σ Q) X.xe { s4 with heap := h5 } := by
    intro t ht
    exact wpAny_bind (thn ht fun r s6 hr6 => wpAny_bind (wpAny_holding (wpAny_point (wpAny_pure hr6))))
  rcases hk' with rfl | rfl | rfl
  · exact last (by unfold callMarked; exact Calls.wpAny_keep fin)
  · exact last (PySem.wpAny_operating fin)
  · exact last (PySem.wpAny_operating fin)
theorem bmR {mg : Str → Option Value} {K : Fr} (T : Tx K mg) : BMeth K (He.ga K "Scheme") "remade" (He.ma K (He.ga K "Scheme") "remade") := by
  have h := T.ex
  unfold exAll at h
  simp only [Bool.and_eq_true] at h
  obtain ⟨_, _, _, _, _, _, _, ⟨_, h2⟩, _⟩ := h
  obtain ⟨a, b⟩ := Bool.and_eq_true_iff.mp h2
  obtain ⟨b, c⟩ := Bool.and_eq_true_iff.mp b
  exact ⟨T.m_Scheme_remade, of_decide_eq_true a, of_decide_eq_true b, by decide +kernel, c⟩
end Ls
set_option maxRecDepth 100000
set_option maxHeartbeats 4000000
/-! the plain law: no program in sight -/
namespace Ls
/-! ### schemes as data -/
inductive Wr where
  | wid (w : Int)
  | frm (a b : Int)
  deriving DecidableEq
inductive Sl where
  | rest | off | mask
  deriving DecidableEq
inductive Em where
  | same | count | note
  deriving DecidableEq
inductive Wh where
  | refuse | drop | over
  deriving DecidableEq
inductive Op where
  | eq | ge
  deriving DecidableEq
inductive Fu where
  | next | note | diff (o : Op) (a b : Int) | count (o : Op) (a b : Int)
  deriving DecidableEq
structure Sc where
  wrap : Wr
  slot : Sl
  empty : Em
  full : Fu
  when : Wh
  deriving DecidableEq
inductive Ch where
  | wrap (w : Wr) | slot (s : Sl) | empty (e : Em) | full (f : Fu) | when (h : Wh)
  deriving DecidableEq
inductive Ca where
  | nothing | shut | outside | empty | slot | right
  deriving DecidableEq
def Wr.isW : Wr → Bool
  | .wid _ => true
  | .frm _ _ => false
def Wr.ok : Wr → Prop
  | .wid w => 1 ≤ w ∧ w ≤ 100
  | .frm a b => (0 ≤ a ∧ a ≤ 4) ∧ (-20 ≤ b ∧ b ≤ 20)
def Fu.ok : Fu → Prop
  | .next => True
  | .note => True
  | .diff _ a b => (0 ≤ a ∧ a ≤ 4) ∧ (-20 ≤ b ∧ b ≤ 20)
  | .count _ a b => (0 ≤ a ∧ a ≤ 4) ∧ (-20 ≤ b ∧ b ≤ 20)
def slOk (s : Sl) (w : Wr) : Bool := s != .mask || w.isW
structure Sc.ok (s : Sc) : Prop where
  wrap : s.wrap.ok
  full : s.full.ok
  slot : slOk s.slot s.wrap = true
def Ch.ok : Ch → Prop
  | .wrap w => w.ok
  | .full f => f.ok
  | _ => True
def Ch.part : Ch → Nat
  | .wrap _ => 0
  | .slot _ => 1
  | .empty _ => 2
  | .full _ => 3
  | .when _ => 4
def Sc.set (s : Sc) : Ch → Sc
  | .wrap w => { s with wrap := w }
  | .slot x => { s with slot := x }
  | .empty e => { s with empty := e }
  | .full f => { s with full := f }
  | .when h => { s with when := h }
/-! ### sizes -/
def modu : Wr → Int → Int
  | .wid w, _ => 2 ^ w.toNat
  | .frm a b, n => a * n + b
def winm : Nat → Nat → Nat
  | _, 0 => 1
  | n, w + 1 => if n % 2 = 0 then 2 * winm (n / 2) w else 1
def isOut (s : Sl) (n M : Int) : Bool := decide (s = .off) && decide (2 * n < M)
def win (s : Sl) (w : Wr) (n : Int) : Int :=
  match s, w with
  | .mask, .wid w => winm n.toNat w.toNat
  | s, w => if isOut s n (modu w n) then 0 else if modu w n % n = 0 then n else modu w n % n
def lim (o : Op) (d : Bool) (l M : Int) : Option Int :=
  if l < 0 then (match o with
    | .eq => none
    | .ge => some 0)
  else if d && decide (M ≤ l) then none else some l
def room (f : Fu) (h : Wh) (n M : Int) : Option Int :=
  match h, f with
  | .over, _ => none
  | _, .next => some (M - 1)
  | _, .note => some M
  | _, .diff o a b => lim o true (a * n + b) M
  | _, .count o a b => lim o false (a * n + b) M
def above (r : Option Int) (x : Int) : Bool :=
  match r with
  | none => true
  | some r => decide (x < r)
def cause (s : Sc) (n : Int) : Ca :=
  let M := modu s.wrap n
  if M < 1 then .nothing
  else if room s.full s.when n M = some 0 then .shut
  else if isOut s.slot n M then .outside
  else if s.empty = .same ∧ above (room s.full s.when n M) (M - 1) = true then .empty
  else if above (room s.full s.when n M) (win s.slot s.wrap n) then .slot
  else .right
def right (s : Sc) (n : Int) : Bool := decide (cause s n = .right)
/-- the other windows, as the program finds them -/
theorem gap_plain {n M : Int} (hn : 1 ≤ n) (hM : 1 ≤ M) {c : Int} (hc : c = if n < M ∧ 0 < M % n then M - M % n else 0) :
    (if c + n < M then n else M - c + c % n) = if M % n = 0 then n else M % n := by
  have h1 := Int.emod_nonneg M (show n ≠ 0 by omega)
  have h2 := Int.emod_lt_of_pos M (show 0 < n by omega)
  by_cases h : n < M ∧ 0 < M % n
  · rw [if_pos h] at hc
    subst hc
    rw [if_neg (by omega), if_neg (by omega)]
    have e : (M - M % n) % n = 0 := by
      have e2 : M - M % n = n * (M / n) := by
        have := Int.mul_ediv_add_emod M n
        omega
      rw [e2]
      exact Int.mul_emod_right ..
    omega
  · rw [if_neg h] at hc
    subst hc
    by_cases h3 : M ≤ n
    · rw [if_neg (by omega), Int.zero_emod]
      by_cases h4 : M = n
      · subst h4
        rw [Int.emod_self, if_pos rfl]
        omega
      · have e : M % n = M := Int.emod_eq_of_lt (by omega) (by omega)
        rw [e, if_neg (by omega)]
        omega
    · have e : M % n = 0 := by omega
      rw [e, if_pos rfl]
      by_cases h4 : (0 : Int) + n < M
      · rw [if_pos h4]
      · omega
/-! ### the window of a mask -/
theorem winm_pos : ∀ (w n : Nat), 0 < winm n w
  | 0, _ => Nat.one_pos
  | w + 1, n => by
    unfold winm
    split
    · exact Nat.mul_pos (by decide) (winm_pos w _)
    · exact Nat.one_pos
theorem winm_le : ∀ (w n : Nat), winm n w ≤ 2 ^ w
  | 0, _ => Nat.le_refl _
  | w + 1, n => by
    unfold winm
    have h := winm_le w (n / 2)
    rw [Nat.pow_succ]
    split
    · omega
    · have := Nat.two_pow_pos w
      omega
theorem and_odd_even (a b : Nat) : (2 * a + 1) &&& (2 * b) = 2 * (a &&& b) := by
  apply Nat.eq_of_testBit_eq
  intro i
  cases i with
  | zero => simp [Nat.testBit_zero, Nat.add_mod]
  | succ i =>
    rw [Nat.testBit_and, Nat.testBit_succ, Nat.testBit_succ, Nat.testBit_succ, show (2 * a + 1) / 2 = a by omega, show 2 * b / 2 = b by omega, show 2 * (a &&& b) / 2 = (a &&& b) by omega, Nat.testBit_and]
theorem and_even_even (a b : Nat) : (2 * a) &&& (2 * b) = 2 * (a &&& b) := by
  apply Nat.eq_of_testBit_eq
  intro i
  cases i with
  | zero => simp [Nat.testBit_zero]
  | succ i =>
    rw [Nat.testBit_and, Nat.testBit_succ, Nat.testBit_succ, Nat.testBit_succ, show 2 * a / 2 = a by omega, show 2 * b / 2 = b by omega, show 2 * (a &&& b) / 2 = (a &&& b) by omega, Nat.testBit_and]
theorem and_odd_odd (a b : Nat) : (2 * a + 1) &&& (2 * b + 1) = 2 * (a &&& b) + 1 := by
  apply Nat.eq_of_testBit_eq
  intro i
  cases i with
  | zero => simp [Nat.testBit_zero, Nat.add_mod]
  | succ i =>
    rw [Nat.testBit_and, Nat.testBit_succ, Nat.testBit_succ, Nat.testBit_succ, show (2 * a + 1) / 2 = a by omega, show (2 * b + 1) / 2 = b by omega, show (2 * (a &&& b) + 1) / 2 = (a &&& b) by omega, Nat.testBit_and]
/-- a number and its mirror share no bit -/
theorem and_mirror : ∀ (w x : Nat), x < 2 ^ w → x &&& (2 ^ w - 1 - x) = 0
  | 0, x, h => by
    have e : x = 0 := by simpa using h
    subst e
    rfl
  | w + 1, x, h => by
    have p : 2 ^ (w + 1) = 2 * 2 ^ w := by rw [Nat.pow_succ, Nat.mul_comm]
    rw [p] at h ⊢
    rcases Nat.mod_two_eq_zero_or_one x with e | e
    · obtain ⟨y, rfl⟩ : ∃ y, x = 2 * y := ⟨x / 2, by omega⟩
      have hy : y < 2 ^ w := by omega
      rw [show 2 * 2 ^ w - 1 - 2 * y = 2 * (2 ^ w - 1 - y) + 1 by omega, Nat.and_comm, and_odd_even, Nat.and_comm, and_mirror w y hy]
    · obtain ⟨y, rfl⟩ : ∃ y, x = 2 * y + 1 := ⟨x / 2, by omega⟩
      have hy : y < 2 ^ w := by omega
      rw [show 2 * 2 ^ w - 1 - (2 * y + 1) = 2 * (2 ^ w - 1 - y) by omega, and_odd_even, and_mirror w y hy]
theorem gap_nat : ∀ (w n : Nat), 1 ≤ n →
    (if 0 < ((n - 1) % 2 ^ w + 1) &&& (2 ^ w - 1 - (n - 1) % 2 ^ w) then ((n - 1) % 2 ^ w + 1) &&& (2 ^ w - 1 - (n - 1) % 2 ^ w) else 2 ^ w) = winm n w
  | 0, n, _ => by
    rw [Nat.pow_zero, Nat.mod_one]
    rfl
  | w + 1, n, h => by
    have p : 2 ^ (w + 1) = 2 * 2 ^ w := by rw [Nat.pow_succ, Nat.mul_comm]
    have p0 : 0 < 2 ^ w := Nat.two_pow_pos w
    rcases Nat.mod_two_eq_zero_or_one n with e | e
    · obtain ⟨m, rfl⟩ : ∃ m, n = 2 * m := ⟨n / 2, by omega⟩
      have hm : 1 ≤ m := by omega
      have ih := gap_nat w m hm
      have ex : (2 * m - 1) % 2 ^ (w + 1) = 2 * ((m - 1) % 2 ^ w) + 1 := by
        rw [p, show 2 * m - 1 = 2 * (m - 1) + 1 by omega, Nat.add_mod, Nat.mul_mod_mul_left, Nat.mod_eq_of_lt (show 1 < 2 * 2 ^ w by omega)]
        have := Nat.mod_lt (m - 1) p0
        exact Nat.mod_eq_of_lt (by omega)
      have hx := Nat.mod_lt (m - 1) p0
      rw [ex]
      generalize (m - 1) % 2 ^ w = x at ih hx ⊢
      rw [show 2 * x + 1 + 1 = 2 * (x + 1) by omega, p, show 2 * 2 ^ w - 1 - (2 * x + 1) = 2 * (2 ^ w - 1 - x) by omega, and_even_even]
      unfold winm
      rw [if_pos e, show 2 * m / 2 = m by omega, ← ih]
      by_cases q : 0 < (x + 1) &&& (2 ^ w - 1 - x)
      · rw [if_pos q, if_pos (by omega)]
      · rw [if_neg q, if_neg (by omega)]
    · obtain ⟨m, rfl⟩ : ∃ m, n = 2 * m + 1 := ⟨n / 2, by omega⟩
      have ex : (2 * m + 1 - 1) % 2 ^ (w + 1) = 2 * (m % 2 ^ w) := by
        rw [p, show 2 * m + 1 - 1 = 2 * m by omega, Nat.mul_mod_mul_left]
      have hx := Nat.mod_lt m p0
      rw [ex]
      generalize m % 2 ^ w = x at hx ⊢
      rw [p, show 2 * 2 ^ w - 1 - 2 * x = 2 * (2 ^ w - 1 - x) + 1 by omega, and_odd_odd, and_mirror w x hx]
      unfold winm
      rw [if_pos (show 0 < 2 * 0 + 1 by decide), if_neg (show ¬ (2 * m + 1) % 2 = 0 by omega)]
/-- the law's loop: so far 2 ^ j -/
theorem winm_step {n w : Nat} : ∀ (j : Nat), j < w → n % 2 ^ j = 0 → winm n w = 2 ^ j * winm (n / 2 ^ j) (w - j)
  | 0, _, _ => by simp
  | j + 1, h, e => by
    have p : 2 ^ (j + 1) = 2 ^ j * 2 := Nat.pow_succ ..
    have e0 : n % 2 ^ j = 0 := by
      have d : 2 ^ (j + 1) ∣ n := Nat.dvd_of_mod_eq_zero e
      exact Nat.mod_eq_zero_of_dvd (Nat.dvd_trans ⟨2, p⟩ d)
    rw [winm_step j (by omega) e0]
    obtain ⟨k, hk⟩ : ∃ k, w - j = k + 1 := ⟨w - j - 1, by omega⟩
    have e1 : n / 2 ^ j % 2 = 0 := by
      obtain ⟨c, hc⟩ := Nat.dvd_of_mod_eq_zero e
      rw [hc, p, Nat.mul_assoc, Nat.mul_div_cancel_left _ (Nat.two_pow_pos j)]
      exact Nat.mul_mod_right ..
    rw [hk]
    show 2 ^ j * winm (n / 2 ^ j) (k + 1) = _
    rw [winm, if_pos e1, show w - (j + 1) = k by omega, p, Nat.div_div_eq_div_mul, Nat.mul_assoc]
theorem winm_stop {n w j : Nat} (h : j ≤ w) (e : n % 2 ^ j = 0) (q : j = w ∨ n % 2 ^ (j + 1) ≠ 0) : winm n w = 2 ^ j := by
  by_cases hj : j < w
  · have q := q.resolve_left (by omega)
    rw [winm_step j hj e]
    obtain ⟨k, hk⟩ : ∃ k, w - j = k + 1 := ⟨w - j - 1, by omega⟩
    have e1 : ¬ n / 2 ^ j % 2 = 0 := fun z => q (by
      obtain ⟨c, hc⟩ := Nat.dvd_of_mod_eq_zero z
      obtain ⟨d, hd⟩ := Nat.dvd_of_mod_eq_zero e
      rw [hd, Nat.mul_div_cancel_left _ (Nat.two_pow_pos j)] at hc
      rw [hd, hc, Nat.pow_succ, ← Nat.mul_assoc]
      exact Nat.mul_mod_right ..)
    rw [hk, winm, if_neg e1, Nat.mul_one]
  · have e2 : j = w := by omega
    subst e2
    cases j with
    | zero => rfl
    | succ j =>
      have e0 : n % 2 ^ j = 0 := Nat.mod_eq_zero_of_dvd (Nat.dvd_trans ⟨2, Nat.pow_succ ..⟩ (Nat.dvd_of_mod_eq_zero e))
      rw [winm_step j (by omega) e0, show j + 1 - j = 1 by omega]
      have e1 : n / 2 ^ j % 2 = 0 := by
        obtain ⟨c, hc⟩ := Nat.dvd_of_mod_eq_zero e
        rw [hc, Nat.pow_succ, Nat.mul_assoc, Nat.mul_div_cancel_left _ (Nat.two_pow_pos j)]
        exact Nat.mul_mod_right ..
      rw [winm, if_pos e1, winm, Nat.pow_succ]
end Ls
set_option Elab.async false
set_option linter.all false
set_option maxRecDepth 100000
set_option maxHeartbeats 4000000
/-! defs as positional promises, calls by them, readings step by step -/
namespace Ls
open PySem PySem.Spec PyProof.Rows L2
section
variable {P : Program} {w : World} {K : Fr} {mg : Str → Option Value} {base : Heap} {x qual : Str} {params : Arguments} {body : List Stmt} {scope : Scope} {kws : List (Str × V)} {f : Addr}
/-- a def that lets nothing out, by its body -/
theorem mk0 {N ps : List Str} {k : Nat} {sp : Sp} (F : ∃ fd, FunD K x qual params body scope [] kws f fd) (S : FnScope N ps scope)
    (hb : ∀ (kV doc pm : Value) (an : Option Addr) (cdv ct : Value) (us : List Value), us.length = ps.length →
      bindArgs (PySem.W.fnOf x qual params body scope .none kV doc pm an cdv ct) ⟨us, []⟩ = pure (ps.zip us))
    (len : ∀ vs H Q E, sp vs H Q E → vs.length = ps.length)
    (hbody : ∀ (cdv : Value) (A : Around) (outer : List Env) (s : Shared) (H : Hp) (vs : List V) (Q : VK) (E : XK),
      Room k (A.deeper (envOfC qual scope s.heap.objs.size f cdv)) → sp vs H Q E →
      ∃ t, PSs (cxOf CX0 P w K mg base N qual scope f cdv A outer s H E).nox body t ∧ t { nx := fun _ H' => Q .non H', rt := Q } (start N vs) H) :
    FnR P w K mg base CX0 (k + 1) f sp := by
  obtain ⟨fd, F⟩ := F
  have ok : FnOk P w K mg base CX0 (k + 1) f fd ps sp := F.ok S len fun cdv A outer s H vs Q E hr h => by
    obtain ⟨t, h1, h2⟩ := hbody cdv A outer s H vs Q E hr h
    exact ⟨t, h1.nox, h2⟩
  exact FnR.imp (ok.raw (F.bindsN hb) .nil) fun vs H Q E h => by
    rw [List.append_nil]
    exact h
end
/-- what a caller says to a def with k parameters and a star -/
def starSp (k : Nat) (sp : Sp) : Sp := fun vs H Q E => ∃ ws rest, vs = ws ++ rest ∧ ws.length = k ∧ rest.length ≤ sizeLine ∧ ∀ p, H p = Option.none → sp (ws ++ [V.ref p]) (upd H p (.tup rest)) Q E
theorem mkStar {P : Program} {w : World} {K : Fr} {mg : Str → Option Value} {base : Heap} {x qual pv : Str} {params : Arguments} {body : List Stmt} {scope : Scope} {kws : List (Str × V)} {f : Addr} {N ps : List Str} {k : Nat} {sp : Sp}
    (F : ∃ fd, FunD K x qual params body scope [] kws f fd) (S : FnScope N (ps ++ [pv]) scope)
    (hb : ∀ (kV doc pm : Value) (an : Option Addr) (cdv ct : Value) (us rest : List Value), us.length = ps.length →
      bindArgs (PySem.W.fnOf x qual params body scope .none kV doc pm an cdv ct) ⟨us ++ rest, []⟩ = (newTuple rest >>= fun t => pure (ps.zip us ++ [(pv, t)])))
    (hbody : ∀ (cdv : Value) (A : Around) (outer : List Env) (s : Shared) (H : Hp) (vs : List V) (Q : VK) (E : XK),
      Room k (A.deeper (envOfC qual scope s.heap.objs.size f cdv)) → sp vs H Q E →
      ∃ t, PSs (cxOf CX0 P w K mg base N qual scope f cdv A outer s H E).nox body t ∧ t { nx := fun _ H' => Q .non H', rt := Q } (start N vs) H) :
    FnR P w K mg base CX0 (k + 1) f (starSp ps.length sp) := by
  obtain ⟨fd, F⟩ := F
  obtain ⟨oc, od, dV, kV, doc, pm, an, cdv, ct, osl, rfl, lk, hcd, hD, _⟩ := F.ex
  rcases hD with ⟨_, rfl⟩ | ⟨z, _⟩
  · refine StX.fn_star (sp := sp) lk hcd S StX.cxUp_none (hb kV doc pm an cdv ct) fun A outer s H vs Q E hr h => ?_
    obtain ⟨t, h1, h2⟩ := hbody cdv A outer s H vs Q E hr h
    exact ⟨t, h1.nox, h2⟩
  · exact absurd rfl z
section
variable {X : Cx} {CX : CXT} {k : Nat} {f : Addr} {sp : Sp} {E : XK} {x : Str} {p pos : Pos} {e : Expr} {es : List Expr} {t : TA}
def tCallR (sp : Sp) (E : XK) (t : TA) : TE := fun σ H Q => t σ H fun vs H1 => sp vs H1 Q E
theorem pe_callR (F : FnR X.prog X.w X.K X.mg X.base CX k f sp) (hr : Room k X.A) (hg : Gl X x) (hm : X.mg x = some (.ref f))
    (hk : PySem.W.keepIn X.K (.ref f) = true) (hx : Passes CX X E) (ha : PA X (e :: es) t) (hdb : (x == ("__debug__" : Str)) = false := by decide)
    (he : starEach (e :: es) X.env = (false, eval e X.env) :: starEach es X.env := by rfl) (hpl : (backTo pos (starEach es X.env)).any (·.1) = false := by rfl) :
    PE X (.Call (.Name x p) (e :: es) [] pos) (tCallR sp E t) := by
  refine ⟨fun pins s σ H Q I h => ?_⟩
  refine wpAny_Call_Name_kw (ld_glob I hg hm ?_ hdb)
  refine PySem.W.callWith_K (h₀ := X.base) I.ok.mod.kin hk ?_ he hpl
  exact thn (ha.run pos pins s σ H _ I h) fun us s1 ⟨vs, H1, I1, r, q⟩ => ⟨I1.kIn, wpAny_call (run_fnR F hr hx I1 r q)⟩
end
theorem kp_of {K : Fr} {d : DefA} (F : ∃ fd, FunA K d fd) : PySem.W.keepIn K (.ref (d.ad K)) = true := F.choose_spec.kp
/-! ### readings -/
section
variable {σ : L2.St} {H : Hp} {D : Ends} {Q : VK}
theorem r_seq {t u : TS} (h : t { D with nx := u D } σ H) : tSeq t u D σ H := h
theorem r_var0 {v : V} {r : L2.St} (q : Q v H) : tVar 0 (some v :: r) H Q := ⟨v, rfl, q⟩
theorem r_var1 {v : V} {a : Option V} {r : L2.St} (q : Q v H) : tVar 1 (a :: some v :: r) H Q := ⟨v, rfl, q⟩
theorem r_var2 {v : V} {a b : Option V} {r : L2.St} (q : Q v H) : tVar 2 (a :: b :: some v :: r) H Q := ⟨v, rfl, q⟩
theorem r_var3 {v : V} {a b c : Option V} {r : L2.St} (q : Q v H) : tVar 3 (a :: b :: c :: some v :: r) H Q := ⟨v, rfl, q⟩
theorem r_var4 {v : V} {a b c d : Option V} {r : L2.St} (q : Q v H) : tVar 4 (a :: b :: c :: d :: some v :: r) H Q := ⟨v, rfl, q⟩
theorem r_var5 {v : V} {a b c d e : Option V} {r : L2.St} (q : Q v H) : tVar 5 (a :: b :: c :: d :: e :: some v :: r) H Q := ⟨v, rfl, q⟩
theorem r_var6 {v : V} {a b c d e f : Option V} {r : L2.St} (q : Q v H) : tVar 6 (a :: b :: c :: d :: e :: f :: some v :: r) H Q := ⟨v, rfl, q⟩
theorem r_var7 {v : V} {a b c d e f g : Option V} {r : L2.St} (q : Q v H) : tVar 7 (a :: b :: c :: d :: e :: f :: g :: some v :: r) H Q := ⟨v, rfl, q⟩
theorem r_var8 {v : V} {a b c d e f g i : Option V} {r : L2.St} (q : Q v H) : tVar 8 (a :: b :: c :: d :: e :: f :: g :: i :: some v :: r) H Q := ⟨v, rfl, q⟩
theorem r_var9 {v : V} {a b c d e f g i j : Option V} {r : L2.St} (q : Q v H) : tVar 9 (a :: b :: c :: d :: e :: f :: g :: i :: j :: some v :: r) H Q := ⟨v, rfl, q⟩
theorem r_var10 {v : V} {a b c d e f g i j k : Option V} {r : L2.St} (q : Q v H) : tVar 10 (a :: b :: c :: d :: e :: f :: g :: i :: j :: k :: some v :: r) H Q := ⟨v, rfl, q⟩
theorem r_c {v : V} (q : Q v H) : tC v σ H Q := q
theorem r_op {r : R2} {ta tb : TE} (h : ta σ H fun x H1 => tb σ H1 fun y H2 => r x y H2 Q) : tOp r ta tb σ H Q := h
theorem r_un {r : V → Hp → VK → Prop} {ta : TE} (h : ta σ H fun x H1 => r x H1 Q) : tUn r ta σ H Q := h
theorem r_i0 {g : Int → Int → V} {i j : Int} (q : Q (g i j) H) : rI0 g (.int i) (.int j) H Q := ⟨i, j, rfl, rfl, q⟩
theorem r_i {C : Int → Int → Prop} {g : Int → Int → V} {i j : Int} (c : C i j) (q : Q (g i j) H) : rI C g (.int i) (.int j) H Q := ⟨i, j, rfl, rfl, c, q⟩
theorem r_u {g : Int → V} {i : Int} (q : Q (g i) H) : rU g (.int i) H Q := ⟨i, rfl, q⟩
theorem r_eq {x y : V} (c : scal x y = true) (q : Q (.bl (decide (x = y))) H) : rEq x y H Q := ⟨c, q⟩
theorem r_ne {x y : V} (c : scal x y = true) (q : Q (.bl (!decide (x = y))) H) : rNe x y H Q := ⟨c, q⟩
theorem r_cons {ta : TE} {tr : TA} {Q : List V → Hp → Prop} (h : ta σ H fun x H1 => tr σ H1 fun xs H2 => Q (x :: xs) H2) : tCons ta tr σ H Q := h
theorem r_nil {Q : List V → Hp → Prop} (h : Q [] H) : tNil σ H Q := h
theorem r_test {t : TE} {Q : Bool → Hp → Prop} (h : t σ H fun x H' => ∃ k, x = .bl k ∧ Q k H') : tTest t σ H Q := h
theorem r_tb {t : TE} {Q : Bool → Hp → Prop} (h : t σ H fun x H' => ∃ k, x = .bl k ∧ Q k H') : tB t σ H Q := h
theorem r_bl {k : Bool} {Q : Bool → Prop} (h : Q k) : ∃ k', V.bl k = .bl k' ∧ Q k' := ⟨k, rfl, h⟩
theorem r_tand {t u : TT} {Q : Bool → Hp → Prop} (h : t σ H fun c H1 => if c = true then u σ H1 Q else Q false H1) : tAnd t u σ H Q := h
theorem r_tor {t u : TT} {Q : Bool → Hp → Prop} (h : t σ H fun c H1 => if c = true then Q true H1 else u σ H1 Q) : tOr t u σ H Q := h
theorem r_tnot {t : TT} {Q : Bool → Hp → Prop} (h : t σ H fun c H1 => Q (!c) H1) : tNot t σ H Q := h
theorem r_andV {ta tb : TE} (h : ta σ H fun x H1 => ∃ c, x = .bl c ∧ if c = true then tb σ H1 Q else Q (.bl false) H1) : tAndV ta tb σ H Q := h
theorem r_orV {ta tb : TE} (h : ta σ H fun x H1 => ∃ c, x = .bl c ∧ if c = true then Q (.bl true) H1 else tb σ H1 Q) : tOrV ta tb σ H Q := h
theorem r_notV {ta : TE} (h : ta σ H fun x H1 => ∃ c, x = .bl c ∧ Q (.bl (!c)) H1) : tNotV ta σ H Q := h
theorem r_ifs {c : TT} {t u : TS} (h : c σ H fun b H1 => if b = true then t D σ H1 else u D σ H1) : tIfS c t u D σ H := h
theorem r_ret {te : TE} (h : te σ H D.rt) : tRet te D σ H := h
theorem r_retN (h : D.rt .non H) : tRetN D σ H := h
theorem r_next (h : D.nx σ H) : tNext D σ H := h
theorem r_drop {te : TE} (h : te σ H fun _ H1 => D.nx σ H1) : tDrop te D σ H := h
theorem r_asg {te : TE} {g : TG} (h : te σ H fun x H1 => g x σ H1 D.nx) : tAsg te g D σ H := h
theorem r_cb {r : List V → Hp → VK → Prop} {t : TA} (h : t σ H fun vs H1 => r vs H1 Q) : tCB r t σ H Q := h
theorem r_call {sp : Sp} {E : XK} {t : TA} (h : t σ H fun vs H1 => sp vs H1 Q E) : tCallR sp E t σ H Q := h
theorem r_tup {t : TA} (h : t σ H fun xs H1 => xs.length ≤ sizeLine ∧ ∀ p, H1 p = none → Q (.ref p) (upd H1 p (.tup xs))) : tTup t σ H Q := h
theorem r_lst {t : TA} (h : t σ H fun xs H1 => xs.length ≤ sizeLine ∧ ∀ p, H1 p = none → Q (.ref p) (upd H1 p (.lst xs))) : tLst t σ H Q := h
theorem r_size {n : Nat} {A : Prop} (h : n ≤ 1000) (q : A) : n ≤ sizeLine ∧ A := ⟨Nat.le_of_lt (small1000 h), q⟩
theorem r_chain {r r' : R2} {ta tb tc : TE} (h : ta σ H fun x H1 => tb σ H1 fun y H2 => r x y H2 fun z H3 => ∃ k, z = .bl k ∧
    (if k = true then tc σ H3 fun w' H4 => r' y w' H4 Q else Q (.bl false) H3)) : tChain r r' ta tb tc σ H Q := h
theorem r_fld {K : Fr} {ta : TE} {f : Str} (h : ta σ H fun x H1 => ∃ a C dx fs v, x = .ref a ∧ H1 a = some (.ins C dx fs) ∧ Cls K C ∧ NoAttr K C f ∧ fs.lookup f = some v ∧ Q v H1) : tFld K ta f σ H Q := h
theorem r_name0 {x : V} {a : Option V} {r : L2.St} {N : L2.St → Hp → Prop} (h : N (some x :: r) H) : gName 0 x (a :: r) H N := h
theorem r_name1 {x : V} {a b : Option V} {r : L2.St} {N : L2.St → Hp → Prop} (h : N (a :: some x :: r) H) : gName 1 x (a :: b :: r) H N := h
theorem r_name2 {x : V} {a b c : Option V} {r : L2.St} {N : L2.St → Hp → Prop} (h : N (a :: b :: some x :: r) H) : gName 2 x (a :: b :: c :: r) H N := h
theorem r_name3 {x : V} {a b c d : Option V} {r : L2.St} {N : L2.St → Hp → Prop} (h : N (a :: b :: c :: some x :: r) H) : gName 3 x (a :: b :: c :: d :: r) H N := h
theorem r_name4 {x : V} {a b c d e : Option V} {r : L2.St} {N : L2.St → Hp → Prop} (h : N (a :: b :: c :: d :: some x :: r) H) : gName 4 x (a :: b :: c :: d :: e :: r) H N := h
theorem r_name5 {x : V} {a b c d e f : Option V} {r : L2.St} {N : L2.St → Hp → Prop} (h : N (a :: b :: c :: d :: e :: some x :: r) H) : gName 5 x (a :: b :: c :: d :: e :: f :: r) H N := h
theorem r_name6 {x : V} {a b c d e f g : Option V} {r : L2.St} {N : L2.St → Hp → Prop} (h : N (a :: b :: c :: d :: e :: f :: some x :: r) H) : gName 6 x (a :: b :: c :: d :: e :: f :: g :: r) H N := h
theorem r_name7 {x : V} {a b c d e f g i : Option V} {r : L2.St} {N : L2.St → Hp → Prop} (h : N (a :: b :: c :: d :: e :: f :: g :: some x :: r) H) : gName 7 x (a :: b :: c :: d :: e :: f :: g :: i :: r) H N := h
theorem r_name8 {x : V} {a b c d e f g i j : Option V} {r : L2.St} {N : L2.St → Hp → Prop} (h : N (a :: b :: c :: d :: e :: f :: g :: i :: some x :: r) H) : gName 8 x (a :: b :: c :: d :: e :: f :: g :: i :: j :: r) H N := h
theorem r_name9 {x : V} {a b c d e f g i j k : Option V} {r : L2.St} {N : L2.St → Hp → Prop} (h : N (a :: b :: c :: d :: e :: f :: g :: i :: j :: some x :: r) H) : gName 9 x (a :: b :: c :: d :: e :: f :: g :: i :: j :: k :: r) H N := h
theorem r_isi {K : Fr} {x c : V} {t u : Value} {b : Bool} (hc : ClsV c u) (ht : TyX K H x t) (e : PySem.W.kitOne K t u = some b) (q : Q (.bl b) H) : rIsi K [x, c] H Q := ⟨x, c, t, u, b, rfl, hc, ht, e, q⟩
theorem itet {c : Bool} {A B : Prop} (h : c = true) (q : A) : if c = true then A else B := by rw [if_pos h]; exact q
theorem itef {c : Bool} {A B : Prop} (h : c = false) (q : B) : if c = true then A else B := by rw [if_neg (by rw [h]; decide)]; exact q
theorem iteNT {A B : Prop} (q : B) : if (!true) = true then A else B := itef rfl q
theorem iteNF {A B : Prop} (q : A) : if (!false) = true then A else B := itet rfl q
theorem r_ex1 {a : Int} {Q : Int → Prop} (h : Q a) : ∃ i, [V.int a] = [V.int i] ∧ Q i := ⟨a, rfl, h⟩
theorem r_ex2 {a b : Int} {Q : Int → Int → Prop} (h : Q a b) : ∃ i j, [V.int a, V.int b] = [V.int i, V.int j] ∧ Q i j := ⟨a, b, rfl, h⟩
theorem r_orI {a : Int} {Q : Int → Prop} {B : Prop} (h : Q a) : (∃ i, [V.int a] = [V.int i] ∧ Q i) ∨ B := .inl ⟨a, rfl, h⟩
theorem r_orB {k : Bool} {Q : Bool → Prop} {A : Prop} (h : Q k) : A ∨ ∃ i, [V.bl k] = [V.bl i] ∧ Q i := .inr ⟨k, rfl, h⟩
theorem r_non {B : Prop} (h : B) : V.non = V.non ∧ B := ⟨rfl, h⟩
theorem r_in {K : Fr} {neg : Bool} {x : V} {p : Addr} {ys : List V} (h : SqL K H p ys ∨ SqT K H p ys) (f1 : flatV x = true) (f2 : ys.all flatV = true) (q : Q (.bl (if neg then !inV x ys else inV x ys)) H) : rIn K neg x (.ref p) H Q := ⟨p, ys, rfl, h, f1, f2, q⟩
theorem r_ixT {K : Fr} {p : Addr} {ys : List V} {i : Int} {v : V} (h : SqT K H p ys) (e : atI ys i = some v) (q : Q v H) : rIxT K (.ref p) (.int i) H Q := ⟨p, ys, i, v, rfl, rfl, h, e, q⟩
theorem r_ixL {K : Fr} {p : Addr} {ys : List V} {i : Int} {v : V} (h : SqL K H p ys) (e : atI ys i = some v) (q : Q v H) : rIxL K (.ref p) (.int i) H Q := ⟨p, ys, i, v, rfl, rfl, h, e, q⟩
theorem r_gtup {K : Fr} {n : Nat} {t : TGs} {a : Addr} {xs : List V} {N : L2.St → Hp → Prop} (h : SqT K H a xs) (e : xs.length = n) (q : t xs σ H N) : gTup K n t (.ref a) σ H N := ⟨a, xs, rfl, h, e, q⟩
theorem r_gcons {t : TG} {u : TGs} {v : V} {r : List V} {N : L2.St → Hp → Prop} (q : t v σ H fun σ' H' => u r σ' H' N) : gCons t u (v :: r) σ H N := ⟨v, r, rfl, q⟩
theorem r_gnil {N : L2.St → Hp → Prop} (q : N σ H) : gNil [] σ H N := ⟨rfl, q⟩
theorem r_sfld {K : Fr} {ta tv : TE} {f : Str} (h : tv σ H fun y H1 => ta σ H1 fun x H2 => ∃ a C dx fs, x = .ref a ∧ H2 a = some (.ins C dx fs) ∧ Cls K C ∧ NoAttr K C f ∧ fs.length < 1000 ∧ D.nx σ (upd H2 a (.ins C dx (putF f y fs)))) : sFld K ta tv f D σ H := h
theorem r_prop {C : Addr} {sp : Sp} {dvs : List V} {E : XK} {ta : TE} (h : ta σ H fun x H1 => ∃ a dx fs, x = .ref a ∧ H1 a = some (.ins C dx fs) ∧ sp (.ref a :: dvs) H1 Q E) : tProp C sp dvs E ta σ H Q := h
theorem r_makeR {C : Addr} {sp : Sp} {E : XK} {t : TA} (h : t σ H fun vs H1 => ∀ x dx, H1 x = Option.none → H1 dx = Option.none → dx ≠ x →
    sp (V.ref x :: vs) (upd (upd H1 dx (.own x)) x (.ins C dx [])) (fun v H2 => v = .non ∧ Q (.ref x) H2) E) : StX.tMakeR C sp E t σ H Q := h
theorem r_start {N : List Str} {vs : List V} {σ : L2.St} {t : TS} (e : start N vs = σ) (h : t D σ H) : t D (start N vs) H := by
  rw [e]
  exact h
end
end Ls
set_option Elab.async false
set_option linter.all false
set_option maxRecDepth 100000
set_option maxHeartbeats 4000000
/-! for i, x in enumerate(t), t a tuple -/
namespace PySem
section
variable {v : Value} {o : Obj} {Hh : Heap → Prop}
theorem ls_meets_enum (B : Begins v o Hh) : Meets (Builtin.«enumerate.__new__» ⟨[.type "enumerate", v], []⟩) (fun _ R z => Hh z.heap ∧
    R (.ok (.ret (.ref (z.heap.push o).objs.size))) { z with heap := (z.heap.push o).push { cls := .type "enumerate", data := .fields #[.none, .bool false, .ref z.heap.objs.size, rawInt 0, .none, .none] } }) :=
  .of_wp fun prog w A R z h => by
    obtain ⟨hp, g, dr, tk, os⟩ := z
    obtain ⟨h1, hend⟩ := h
    have subE := sub_enumerate
    have begun : ∀ {A' : Around} {E : Value → Shared → Prop} {Q : Value → Shared → Prop}, Q (.ref hp.objs.size) ⟨hp.push o, g, dr, tk, os⟩ → wpAny (model prog w) A' (pyIter v) Q E ⟨hp, g, dr, tk, os⟩ :=
      fun q => B.iter prog w _ _ ⟨hp, g, dr, tk, os⟩ _ h1 q
    wp_walk using begun
    refine wpAny_stack_any fun stk => wpAny_pure ?_
    split
    · rename_i cc _ _ _ _ _
      cases (cc == Value.type "enumerate") <;> (wp_walk using begun; exact ⟨_, rfl, hend⟩)
    · wp_walk using begun
      exact ⟨_, rfl, hend⟩
theorem ls_call_enum {prog : Program} {w : World} {A : Around} {E : Value → Shared → Prop} {z : Shared} {Q : Value → Shared → Prop} (B : Begins v o Hh) (h1 : Hh z.heap)
    (h : ∀ h', IsEnum h' (z.heap.objs.size + 1) z.heap.objs.size 0 .none → h'.get? z.heap.objs.size = some o → (∀ b u, z.heap.get? b = some u → h'.get? b = some u) →
      Q (.ref (z.heap.objs.size + 1)) { z with heap := h' }) : wpAny (model prog w) A (call (.type "enumerate") [v]) Q E z := by
  refine callType_new F.called_enumerate (by decide) (F.typeCall_enumerate_1 _) (F.newCall_enumerate_1 _) (fun obj => F.args_object_init_2 obj _) F.entry_enumerate_new (ls_meets_enum B) ⟨h1, ?_⟩
  have sz : (z.heap.push o).objs.size = z.heap.objs.size + 1 := Heap.size_push ..
  have at1 := Heap.get?_push_size (z.heap.push o) (o := { cls := .type "enumerate", data := .fields #[.none, .bool false, .ref z.heap.objs.size, rawInt 0, .none, .none] }) rfl
  rw [sz] at at1
  show _ ∧ _
  rw [sz]
  exact ⟨⟨_, at1, rfl⟩, h _ at1 (Heap.get?_push_of_some _ (Heap.get?_push_size _ B.free)) fun b u q => Heap.get?_push_of_some _ (Heap.get?_push_of_some _ q)⟩
end
end PySem
namespace Ls
open PySem PySem.Spec PyProof.Rows L2
/-- the tuple at a as it stands at each turn, each item in a new pair -/
def IteT (K : Fr) (a : Addr) : It where
  go i H := ∃ (xs : List V) (x : V), SqT K H a xs ∧ xs[i]? = some x
  yld i H v H' := ∃ T x, v = .ref T ∧ H T = none ∧ H' = upd H T (.tup [.int (i : Nat), x]) ∧ ∀ xs, SqT K H a xs → xs[i]? = some x
  stop i H := ∃ xs : List V, SqT K H a xs ∧ xs.length ≤ i
theorem ne_enum {h : Heap} {e it a : Addr} {i : Int} {old : Value} {its : Array Value} (he : IsEnum h e it i old) (p : h.IsTuple a its) : e ≠ a := fun q => by
  obtain ⟨o, h1, h2, _⟩ := p
  rw [← q] at h1
  have z := he.symm.trans h1
  rw [← Option.some.inj z] at h2
  exact absurd (Value.type.inj h2) (by decide)
theorem ne_titer {h : Heap} {it a : Addr} {i : Nat} {its : Array Value} (hi : h.IsTupleIter it a i) (p : h.IsTuple a its) : a ≠ it := fun q => by
  obtain ⟨o, h1, h2, _⟩ := p
  obtain ⟨o', k1, k2, _⟩ := hi
  rw [q, k1] at h1
  rw [← Option.some.inj h1, k2] at h2
  exact absurd (Value.type.inj h2) (by decide)
theorem turn_enumT {P : Program} {w : World} {K : Fr} {elts : List Expr} {kk : Nat} {tpos : Pos} (a e it : Addr) :
    Turn P w K (.Tuple elts kk tpos) (IteT K a) [e, it] e (fun i h => (∃ old, IsEnum h e it ((i : Nat) : Int) old) ∧ h.IsTupleIter it a i ∧ e ≠ it) where
  mem := List.mem_cons_self ..
  obj := fun i h st b hb => by
    obtain ⟨⟨old, he⟩, ⟨u, hu, _, hd⟩, _⟩ := st
    rcases List.mem_cons.mp hb with z | z
    · subst z
      exact ⟨_, he, fun v q => nomatch q⟩
    · exact ⟨u, by rw [List.mem_singleton.mp z]; exact hu, fun v q => by rw [hd] at q; cases q⟩
  keep := fun i h h' st k => by
    obtain ⟨⟨old, he⟩, hi, hne⟩ := st
    exact ⟨⟨old, k e (List.mem_cons_self ..) _ he⟩, hi.at fun o q => k it (List.mem_cons_of_mem _ (List.mem_singleton.mpr rfl)) o q, hne⟩
  item := by
    intro X hP hw hK hc i pins s σ H E I hf st hg
    subst hP hw hK
    obtain ⟨⟨old, he⟩, hit, hne⟩ := st
    obtain ⟨xs, x, hq, hx⟩ := hg
    obtain ⟨its, rv, p, hz⟩ := I.tuple hq
    have p : s.heap.IsTuple a its.toArray := p
    obtain ⟨u, hu, ru⟩ := rv.get hx
    have le : e < s.heap.objs.size := Heap.lt_size he
    have li : it < s.heap.objs.size := by obtain ⟨_, q, _⟩ := hit; exact Heap.lt_size q
    have na : a ≠ it := ne_titer hit p
    have nea : e ≠ a := ne_enum he p
    have hlt : i < its.toArray.size := by
      have := (List.getElem?_eq_some_iff.mp hu).1
      simpa using this
    refine wpAny_pyNext_enum_itemD (Draws.tuple (A := X.A.in1) (I.ok.hd hc) it a na its.toArray) he ⟨hit, p⟩ hlt hne (fun q => ?_) fun y h' tk hy ho hst hT hsz hk => ?_
    · rcases List.mem_cons.mp q with z | z
      · exact hne z
      · exact nea (List.mem_singleton.mp z)
    have ey : y = u := by
      have h1 : its[i]? = some y := by simpa using hy
      rw [hu] at h1
      exact (Option.some.inj h1).symm
    subst ey
    refine ⟨_, rfl, wpAny_letOwnedTupleGo_enum (s := { s with heap := h', toks := tk + 1 }) ho fun h2 he2 sb => ?_⟩
    have hT2 : h2.get? s.heap.objs.size = some { cls := .type "tuple", data := .seq #[.int i tk, y] } := (sb.2 _ (Nat.ne_of_gt le)).trans hT
    have new : ObjOk X.prog X.w (upd H s.heap.objs.size (.tup [.int (i : Nat), x])) h2 s.heap.objs.size (.tup [.int (i : Nat), x]) :=
      ⟨by show 2 ≤ sizeLine; decide, [.int i tk, y], .cons ⟨_, rfl⟩ (.cons ru .nil), ⟨_, hT2, rfl, _, rfl⟩⟩
    have J : Inv X pins σ (upd H s.heap.objs.size (.tup [.int (i : Nat), x])) { s with heap := h2, toks := tk + 1 } := by
      refine I.turnedNew (ch := [e, it]) (fun b ob hb q => ?_) hf (Nat.le_refl _) new
      have n1 : b ≠ e := fun z => hb (by simp [z])
      have n2 : b ≠ it := fun z => hb (by simp [z])
      exact (sb.2 b n1).trans (hk b ob n1 n2 q)
    refine ⟨.ref s.heap.objs.size, _, J, rfl, ⟨_, x, rfl, I.hok.fresh (Nat.le_refl _), rfl, fun ys hy => by rw [I.tuple_inj hy hq]; exact hx⟩, ⟨⟨y, ?_⟩, hst.1.at fun o q => (sb.2 it (Ne.symm hne)).trans q, hne⟩, fun b hb => ?_⟩
    · rw [show ((i + 1 : Nat) : Int) = (i : Int) + 1 by omega]
      exact he2
    · have lb : b < s.heap.objs.size := by
        rcases List.mem_cons.mp hb with z | z
        · rw [z]; exact le
        · rw [List.mem_singleton.mp z]; exact li
      rw [upd_ne (Nat.ne_of_lt lb)]
      exact (hf b hb).1
  done := by
    intro X hP hw hK hc i pins s σ H E I hf st hg
    subst hP hw hK
    obtain ⟨⟨old, he⟩, hit, hne⟩ := st
    obtain ⟨xs, hq, hx⟩ := hg
    obtain ⟨its, rv, p, hz⟩ := I.tuple hq
    have p : s.heap.IsTuple a its.toArray := p
    obtain ⟨f0, f1, f2, f3, f4, f5⟩ := hf it (List.mem_cons_of_mem _ (List.mem_singleton.mpr rfl))
    have hl := rv.length
    have hT : s.TypeIs (.ref e) "enumerate" := ⟨_, he, rfl⟩
    unfold pyNext
    refine wpAny_bind (wpAny_attempt (wpAny_callSpecial?_slot (name := Str.ofString "__next__") hT F.slot_enumerate_next (wpAny_call_entry F.slot_enumerate_next hT F.entry_enumerate_next ?_ (F.args_enumerate_next_1 _))))
    show wpAny _ _ (field (.ref e) 2 >>= _) _ _ _
    refine wpAny_bind (wpAny_field he rfl (x := .ref it) rfl ?_)
    refine wpAny_bind (wpAny_nextOf_tuple_end (I.ok.hd hc) hit p (by simp; omega) fun h' x he' hx' => ?_)
    obtain ⟨ob, hob, hcl⟩ := hx'
    refine wpAny_bind (wpAny_isInstance (T := "StopIteration") (b := true) ⟨ob, hob, hcl⟩ isSubtype_stop ?_)
    exact wpAny_pure ⟨rfl, I.turned (t' := s.toks) (fun b u hb q => he' b u hb q) f0 f1 f3 f4 f5⟩
  self := fun A i s Q E st h => let ⟨⟨_, he⟩, _⟩ := st; wpAny_pyIter_enum he h
def iEnumT (K : Fr) (ta : TA) : TI := fun σ H R => ta σ H fun vs H1 => ∃ a xs, vs = [.ref a] ∧ SqT K H1 a xs ∧ R (IteT K a) H1
theorem pi_enumT {X : Cx} {e : Expr} {ta : TA} {p pos tpos : Pos} {elts : List Expr} {kk : Nat} (hg : Gl X "enumerate") (hm : X.mg "enumerate" = none) (ha : PA X [e] ta)
    (hs : starEach [e] X.env = [(false, eval e X.env)] := by rfl) : PI X (.Tuple elts kk tpos) (.Call (.Name "enumerate" p) [e] [] pos) (iEnumT X.K ta) := by
  refine ⟨fun pins s σ H R I h => ?_⟩
  refine Call_ (ld_blt I hg hm boot_enumerate (PyProof.Rows.callWith_type1 (thn (ha.run pos pins s σ H _ I h) fun us s1 ⟨vs, H1, I1, r1, q1⟩ => ?_) hs rfl))
  obtain ⟨a, xs, ex, hq, q⟩ := q1
  subst ex
  obtain ⟨u, rfl, ru⟩ := vals1 r1
  obtain rfl : u = Value.ref a := ru
  obtain ⟨its, rv, p', hz⟩ := I1.tuple hq
  refine ls_call_enum (begins_tuple a its.toArray) p' fun h' he hit hk => wpAny_pyIter_enum he ?_
  have I2 : Inv X pins σ H1 { s1 with heap := h' } := I1.kept (t' := s1.toks) hk
  refine ⟨s1.heap.objs.size + 1, [s1.heap.objs.size + 1, s1.heap.objs.size], _, _, H1, rfl, I2, turn_enumT a (s1.heap.objs.size + 1) s1.heap.objs.size, ⟨⟨.none, he⟩, ⟨_, hit, rfl, rfl⟩, Nat.succ_ne_self _⟩, fun b hb => ?_, q⟩
  have hle : s1.heap.objs.size ≤ b := by
    rcases List.mem_cons.mp hb with z | z
    · rw [z]; exact Nat.le_succ _
    · rw [List.mem_singleton.mp z]; exact Nat.le_refl _
  exact I1.fpOk hle (I1.hok.fresh hle)
/-- the loop by an invariant -/
theorem for_enumT {K : Fr} {a : Addr} {xs : List V} {g : TG} {tb : TS} {D : Ends} {σ : L2.St} {H : Hp} (Pv : Nat → L2.St → Hp → Prop) (h0 : Pv 0 σ H)
    (hl : ∀ i σ H, i ≤ xs.length → Pv i σ H → SqT K H a xs)
    (hs : ∀ (i : Nat) (x : V) (T : Addr) (σ : L2.St) (H : Hp), xs[i]? = some x → Pv i σ H → H T = none → g (.ref T) σ (upd H T (.tup [.int (i : Nat), x])) fun σ2 H2 => tb { D with nx := Pv (i + 1), ct := Pv (i + 1), bk := D.nx } σ2 H2)
    (hd : ∀ σ H, Pv xs.length σ H → D.nx σ H) :
    ∃ W : Nat → Nat → L2.St → Hp → Prop, (∃ m, W 0 m σ H) ∧ ∀ i m σ H, W i m σ H →
      ((IteT K a).stop i H ∧ D.nx σ H) ∨ ((IteT K a).go i H ∧ ∃ N : L2.St → Hp → Prop, (∀ σ' H', N σ' H' → ∃ m', m' < m ∧ W (i + 1) m' σ' H') ∧
        ∀ x H', (IteT K a).yld i H x H' → g x σ H' fun σ2 H2 => tb { D with nx := N, ct := N, bk := D.nx } σ2 H2) := by
  refine ⟨fun i m σ H => m = xs.length - i ∧ i ≤ xs.length ∧ Pv i σ H, ⟨_, rfl, Nat.zero_le _, h0⟩, ?_⟩
  rintro i m σ H ⟨rfl, hi, p⟩
  have q := hl i σ H hi p
  by_cases lt : i < xs.length
  · refine .inr ⟨⟨xs, xs[i], q, by simp [lt]⟩, Pv (i + 1), fun σ' H' p' => ⟨xs.length - (i + 1), by omega, rfl, lt, p'⟩, ?_⟩
    rintro v H' ⟨T, x, rfl, nT, rfl, hx⟩
    exact hs i x T σ H (hx xs q) p nT
  · obtain rfl : i = xs.length := by omega
    exact .inl ⟨⟨xs, q, Nat.le_refl _⟩, hd σ H p⟩
end Ls
set_option Elab.async false
set_option linter.all false
set_option maxRecDepth 100000
set_option maxHeartbeats 4000000
/-! len(set(xs)), xs a list of any texts (few) -/
namespace Ls
open PySem PySem.Spec PyProof.Rows L2
/-- the texts met first -/
def uq : List Str → List Str → List Str
  | acc, [] => acc
  | acc, x :: xs => uq (if x ∈ acc then acc else acc ++ [x]) xs
theorem uq_le : ∀ (xs acc : List Str), (uq acc xs).length ≤ acc.length + xs.length
  | [], acc => Nat.le_refl _
  | x :: xs, acc => by
    have := uq_le xs (if x ∈ acc then acc else acc ++ [x])
    rw [uq]
    split at this <;> simp_all <;> omega
theorem uq_full : ∀ (xs acc : List Str), acc.Nodup → ((uq acc xs).length = acc.length + xs.length ↔ (acc ++ xs).Nodup)
  | [], acc, h => by simp [uq, h]
  | x :: xs, acc, h => by
    by_cases c : x ∈ acc
    · have h1 := uq_le xs acc
      have e : uq acc (x :: xs) = uq acc xs := by rw [uq, if_pos c]
      rw [e]
      refine ⟨fun z => ?_, fun z => ?_⟩
      · simp only [List.length_cons] at z
        omega
      · exact absurd rfl ((List.nodup_append.mp z).2.2 x c x List.mem_cons_self)
    · have e : uq acc (x :: xs) = uq (acc ++ [x]) xs := by rw [uq, if_neg c]
      have h2 : (acc ++ [x]).Nodup := List.nodup_append.mpr ⟨h, by simp, fun a ha b hb => by
        obtain rfl : b = x := by simpa using hb
        exact fun z => c (z ▸ ha)⟩
      have := uq_full xs (acc ++ [x]) h2
      rw [e]
      simp only [List.append_assoc, List.singleton_append, List.length_append, List.length_cons, List.length_nil, Nat.zero_add] at this ⊢
      rw [← this]
      omega
abbrev so (b : Bool) : Obj := { cls := .type "set", dict := none, data := .set #[] 0 (.fresh 0 0 b) }
abbrev lio (l : Addr) : Obj := { cls := .type "list_iterator", data := .fields #[.ref l, .int 0 0] }
abbrev Sees (P : Program) (w : World) (h : Heap) (a : Addr) (acc : List Str) : Prop := h.SetOf (PySem.strKind P w) a (fun z => decide (z ∈ acc)) acc.length
section
variable {P : Program} {w : World} {A : Around} {R : Result → Shared → Prop} {I D : Addr} {fp wr : List Addr} {G : Array GenState → Array GenState → Prop} {n : Nat} {Pv : Nat → Value → Prop} {St : Nat → Shared → Prop}
theorem Sees.keep {h h' : Heap} {acc : List Str} (q : Sees P w h D acc) (k : ∀ o, h.get? D = some o → h'.get? D = some o) : Sees P w h' D acc := by
  obtain ⟨o, es, ep, t, ho, r⟩ := q
  exact ⟨o, es, ep, t, k o ho, r⟩
theorem fill_all (W : WalksS P w A.in1 I fp wr G n Pv St) (hD : D ∉ fp) : ∀ (xs acc : List Str) (i : Nat) (s : Shared), i + xs.length = n → acc.length + xs.length < 4000 →
    (∀ j z, xs[j]? = some z → ∀ v, Pv (i + j) v → ∃ t, v = .str z t) → St i s → Sees P w s.heap D acc →
    (∀ s', Moved (D :: wr) G s s' → Sees P w s'.heap D (uq acc xs) → R (.ok (.ret .none)) s') →
    codeAny (model P w) A (.builtin "set.update.loop" ⟨[.ref D, .ref I], []⟩) R s
  | [], acc, i, s, hn, _, _, st, q, fin => by
    obtain rfl : i = n := hn
    refine codeAny_builtin F.entry_set_update_loop ?_
    rw [Around.under_plainId F.plain_set_update_loop _]
    refine wpAny_bind (m := pyNext (.ref I)) (W.done s _ _ st fun s' m => ?_)
    show wpAny _ A.in1 (ret Value.none) _ _ s'
    refine wpAny_pure (fin s' (m.mono fun b hb => List.mem_cons_of_mem _ hb) (q.keep fun o => m.heap D o fun z => hD (W.sub _ z)))
  | x :: xs, acc, i, s, hn, hb, hv, st, q, fin => by
    rw [List.length_cons] at hn hb
    refine codeAny_builtin F.entry_set_update_loop ?_
    rw [Around.under_plainId F.plain_set_update_loop _]
    refine wpAny_bind (m := pyNext (.ref I)) (W.item i s _ _ (by omega) st fun v s1 hP st1 m1 => ?_)
    obtain ⟨t, rfl⟩ := hv 0 x rfl v hP
    have q1 : Sees P w s1.heap D acc := q.keep fun o => m1.heap D o fun z => hD (W.sub _ z)
    refine wpAny_bind (m := holding [Value.str x t] (setAdd D (.str x t))) (wpAny_holding ?_)
    unfold setAdd
    refine wpAny_holding (wpAny_bind ((PySem.strKind P w).pyHash (k := x) (strKind_is _ _ _ _) ?_))
    refine wpAny_setAddHashed_of (s := { s1 with toks := s1.toks + 1 }) (knd := PySem.strKind P w) (strKind_is _ _ _ _) rfl q1 (by unfold scanBound; omega) fun h2 sb q2 => ?_
    have q3 : Sees P w h2 D (if x ∈ acc then acc else acc ++ [x]) := SetOf_congr q2 (fun z => by
      by_cases c : x ∈ acc
      · rw [if_pos c]
        by_cases e : z = x
        · subst e
          simp [c]
        · simp [e]
      · rw [if_neg c]
        simp) (by
      by_cases c : x ∈ acc
      · simp [c]
      · simp [c])
    refine wpAny_pure ⟨plainId_quiet F.plain_set_update_loop _, fill_all W hD xs _ (i + 1) _ (by omega) (by
      split
      · omega
      · rw [List.length_append, List.length_singleton]
        omega) (fun j z hj v hp => hv (j + 1) z hj v (by rw [← Nat.add_assoc, Nat.add_right_comm] <;> exact hp))
      (W.frame _ s1 _ _ st1 (Nat.le_succ _) fun b hb o e => (sb.2 b fun z => hD (z ▸ hb)).trans e) q3 fun s3 m3 q4 => ?_⟩
    refine fin s3 (Moved.trans W.gtrans ((m1.mono fun b hb => List.mem_cons_of_mem _ hb).then_heap (Nat.le_succ _) fun b o hb e => (sb.2 b fun z => hb (z ▸ List.mem_cons_self)).trans e) m3) ?_
    rw [uq]
    exact q4
end
section
variable {P : Program} {w : World} {A : Around} {E : Value → Shared → Prop} {s : Shared}
abbrev SetQ (P : Program) (w : World) (s : Shared) (xs : List Str) (h : Heap) : Prop :=
  Sees P w h s.heap.objs.size (uq [] xs) ∧ ∀ b o, s.heap.get? b = some o → h.get? b = some o
/-- set(l): a new set of the texts -/
theorem set_of_strs {l : Addr} {us : List Value} {xs : List Str} {Q : Value → Shared → Prop} (hh : A.handled = none) (hl0 : s.heap.IsList l us.toArray) (hi : StrsAre us xs) (hb : xs.length < 4000)
    (q : ∀ h t, SetQ P w s xs h → Q (.ref s.heap.objs.size) { s with heap := h, toks := t }) : wpAny (model P w) A (call (.type "set") [.ref l]) Q E s := by
  obtain ⟨cc, tl, hmro⟩ := F.called_set.mro
  have made := F.called_set.made
  have sub0 := F.called_set.sub
  refine wpAny_call (codeAny_of_tree ?_)
  show wpAny _ _ (callAny (.type "set") _) _ _ _
  refine wpAny_pure ⟨Code.quiet_builtin _ (by decide +kernel), codeAny_builtin F.entry_type_call ?_⟩
  rw [Around.under_plain (weight_type_call_type "set" [.ref l] []) rfl]
  have a1 := F.called_set.notType
  have a2 := F.called_set.canCreate
  have a3 := F.typeCall_set_1 (.ref l)
  repeat (any_goals (first | assumption | wp_step))
  refine codeAny_mono (code_set_new_1 (.ref l) (E := E) (Q₁ := fun v u => ∃ b, v = .ref s.heap.objs.size ∧ u = { s with heap := s.heap.push (so b) }) fun b => ⟨b, rfl, rfl⟩) fun r u hr => ?_
  cases r with
  | error e => exact hr
  | ok fl =>
    cases fl with
    | ret obj =>
      obtain ⟨b, rfl, rfl⟩ := hr
      have gS : (s.heap.push (so b)).get? s.heap.objs.size = some (so b) := Heap.get?_push_size _ rfl
      have tS : Shared.TypeIs { s with heap := s.heap.push (so b) } (.ref s.heap.objs.size) "set" := ⟨_, gS, rfl⟩
      have a4 := F.called_set.init.lookup
      have a5 := F.called_set.init.bind (.ref s.heap.objs.size)
      repeat (any_goals (first | assumption | wp_step))
      refine codeAny_mono (codeAny_call_builtin (R := wants (fun v u => v = .none ∧ ∃ h t, u = { s with heap := h, toks := t } ∧ SetQ P w s xs h) E) F.called_set.init.plain F.entry_set_init (check_set_init_1 tS ?_)) fun r2 u2 hr2 => ?_
      · obtain ⟨⟨oc, od, dt, os⟩, hl, ec, c, ed⟩ := hl0
        have ec : oc = .type "list" := ec
        have ed : dt = .seq us.toArray c := ed
        subst ec ed
        have hl1 : (s.heap.push (so b)).get? l = some { cls := .type "list", dict := od, data := .seq us.toArray c, slots := os } := Heap.get?_push_of_some _ hl
        have b1 := F.sub_list_set
        have b2 := F.sub_list_frozenset
        have b3 : (Value.type "list" == Value.type "dict") = false := by decide
        have il : (s.heap.push (so b)).IsList l us.toArray := ⟨_, hl1, rfl, c, rfl⟩
        unfold Builtin.«set.__init__» noKeywords Builtin.Frozenset.updateFrom
        generalize hPI : pyIter = PI
        wp_walk
        subst hPI
        refine wpAny_pyIter_list il (wpAny_bind (wpAny_runValue ?_))
        have lS : l < s.heap.objs.size := Heap.lt_size hl
        have hz : (s.heap.push (so b)).objs.size = s.heap.objs.size + 1 := Heap.size_push ..
        have n1 : l ≠ (s.heap.push (so b)).objs.size := by
          rw [hz]
          exact Nat.ne_of_lt (Nat.lt_succ_of_lt lS)
        have n2 : s.heap.objs.size ∉ [(s.heap.push (so b)).objs.size, l] := by
          rw [hz]
          simp only [List.mem_cons, List.not_mem_nil, or_false, not_or]
          exact ⟨by omega, Nat.ne_of_gt lS⟩
        have gi : ((s.heap.push (so b)).push (lio l)).get? s.heap.objs.size = some (so b) := Heap.get?_push_of_some _ gS
        have lx : us.length = xs.length := StrsAre.len_eq hi
        refine fill_all (D := s.heap.objs.size) (Walks.list (by simp [hh]) _ l n1 us.toArray).toS n2 xs [] 0 _ (by simp [lx]) (by simpa using hb) (fun j z hj v hv => ?_)
          ⟨⟨_, Heap.get?_push_size _ rfl, rfl, rfl⟩, il.push _⟩ ?g0 fun s' m q' => ?_
        case g0 => exact SetOf_congr ((setObjOf_fresh (knd := PySem.strKind P w) b).setOf gi (by decide)) (fun _ => by simp) rfl
        · obtain ⟨t, e⟩ := SS.strs_at hi j v (by simpa using hv)
          exact ⟨t, by rw [e, List.getD_eq_getElem?_getD, hj] <;> rfl⟩
        · obtain ⟨h', g', d', t', o'⟩ := s'
          obtain rfl : g' = s.gens := m.gens
          obtain rfl : d' = s.drawn := m.drawn
          obtain rfl : o' = s.os := m.os
          show wpAny _ _ _ _ _ _
          refine wpAny_pure ?_
          show wpAny _ _ (ret Value.none) _ _ _
          refine wpAny_pure ⟨rfl, h', t', rfl, q', fun a o e => ?_⟩
          have la : a < s.heap.objs.size := Heap.lt_size e
          refine m.heap a o ?_ (Heap.get?_push_of_some _ (Heap.get?_push_of_some _ e))
          rw [hz]
          simp only [List.mem_cons, List.not_mem_nil, or_false, not_or]
          exact ⟨Nat.ne_of_lt la, Nat.ne_of_lt (Nat.lt_succ_of_lt la)⟩
      · cases r2 with
        | error e => exact hr2
        | ok f2 =>
          cases f2 with
          | ret v =>
            obtain ⟨rfl, h', t', rfl, q'⟩ := hr2
            repeat (any_goals (first | assumption | wp_step))
            exact q h' t' q'
          | _ => exact hr2.elim
    | _ => exact hr.elim
end
section
variable {X : Cx}
def tLenSetS (K : PySem.W.Frag) (ta : TE) : TE := fun σ H Q => ta σ H fun x H1 => ∃ (l : Addr) (xs : List Str), x = .ref l ∧ SqL K H1 l (xs.map V.str) ∧ xs.length < 4000 ∧ Q (.int (uq [] xs).length) H1
theorem pe_lenSetS {a : Expr} {ta : TE} {p p2 q pos : Pos} (hc : X.calm = true) (hg : Gl X "len") (hm : X.mg "len" = none) (hg2 : Gl X "set") (hm2 : X.mg "set" = none) (ha : PE X a ta)
    (na : starEach [a] X.env = (false, eval a X.env) :: starEach [] X.env := by rfl) : PE X (.Call (.Name "len" p) [.Call (.Name "set" p2) [a] [] q] [] pos) (tLenSetS X.K ta) := by
  refine ⟨fun pins s σ H Q I h => Call_ (ld_blt I hg hm PySem.boot_len (callWith_builtin1 (args_cons ?_ rfl) rfl rfl))⟩
  refine Call_ (ld_blt I hg2 hm2 boot_set (callWith_type1 (args_cons (thn (ha.run pins s σ H _ I h) fun v s1 ⟨x, H1, I1, r1, q1⟩ => args_nil ?_) na) na rfl))
  obtain ⟨l, xs, rfl, hq, hb, q1⟩ := q1
  cases r1
  obtain ⟨its, r, pl, hz⟩ := I1.list hq
  refine set_of_strs (I1.ok.hd hc) pl.isList (strsAre_of r) hb fun h' tk hs => args_nil ?_
  obtain ⟨⟨o, es, ep, t, ho, hex, hd, _, _, _, hf, hn⟩, hk⟩ := hs
  have I2 : Inv X pins σ H1 { s1 with heap := h', toks := tk } := I1.kept hk
  have := uq_le xs []
  refine call_len_set ho hex hd hf (by rw [hn] <;> simp only [List.length_nil] at this <;> omega) ⟨.int (uq [] xs).length, H1, I2.tok _, ⟨_, by rw [hn]⟩, q1⟩
end
end Ls
set_option Elab.async false
set_option linter.all false
set_option maxRecDepth 100000
set_option maxHeartbeats 4000000
open PySem PySem.Spec PyProof.Rows L2 in
local macro_rules | `(tactic| walk_at "r1") => `(tactic| first
  | with_reducible refine Ls.r_seq ?_
  | with_reducible refine Ls.r_var0 ?_
  | with_reducible refine Ls.r_var1 ?_
  | with_reducible refine Ls.r_var2 ?_
  | with_reducible refine Ls.r_var3 ?_
  | with_reducible refine Ls.r_var4 ?_
  | with_reducible refine Ls.r_var5 ?_
  | with_reducible refine Ls.r_var6 ?_
  | with_reducible refine Ls.r_var7 ?_
  | with_reducible refine Ls.r_var8 ?_
  | with_reducible refine Ls.r_var9 ?_
  | with_reducible refine Ls.r_var10 ?_
  | with_reducible refine Ls.r_c ?_
  | with_reducible refine Ls.r_cons ?_
  | with_reducible refine Ls.r_nil ?_
  | with_reducible refine Ls.r_op ?_
  | with_reducible refine Ls.r_i0 ?_
  | ((with_reducible refine Ls.r_eq ?zz ?_); (case zz => exact rfl))
  | ((with_reducible refine Ls.r_ne ?zz ?_); (case zz => exact rfl))
  | with_reducible refine Ls.r_un ?_
  | with_reducible refine Ls.r_u ?_
  | with_reducible refine Ls.r_test ?_
  | with_reducible refine Ls.r_tb ?_
  | with_reducible refine Ls.r_bl ?_
  | with_reducible refine Ls.r_tand ?_
  | with_reducible refine Ls.r_tor ?_
  | with_reducible refine Ls.r_tnot ?_
  | with_reducible refine Ls.r_andV ?_
  | with_reducible refine Ls.r_orV ?_
  | with_reducible refine Ls.r_notV ?_
  | with_reducible refine Ls.r_ifs ?_
  | with_reducible refine Ls.r_ret ?_
  | with_reducible refine Ls.r_retN ?_
  | with_reducible refine Ls.r_next ?_
  | with_reducible refine Ls.r_drop ?_
  | with_reducible refine Ls.r_asg ?_
  | with_reducible refine Ls.r_cb ?_
  | with_reducible refine Ls.r_call ?_
  | with_reducible refine Ls.r_tup ?_
  | with_reducible refine Ls.r_size (by simp) ?_
  | with_reducible refine Ls.r_lst ?_
  | with_reducible refine Ls.r_chain ?_
  | with_reducible refine Ls.r_fld ?_
  | with_reducible refine Ls.r_name0 ?_
  | with_reducible refine Ls.r_name1 ?_
  | with_reducible refine Ls.r_name2 ?_
  | with_reducible refine Ls.r_name3 ?_
  | with_reducible refine Ls.r_name4 ?_
  | with_reducible refine Ls.r_name5 ?_
  | with_reducible refine Ls.r_name6 ?_
  | with_reducible refine Ls.r_name7 ?_
  | with_reducible refine Ls.r_name8 ?_
  | with_reducible refine Ls.r_name9 ?_
  | with_reducible refine Ls.r_gcons ?_
  | with_reducible refine Ls.r_gnil ?_
  | with_reducible refine Ls.r_sfld ?_
  | with_reducible refine Ls.r_prop ?_
  | with_reducible refine Ls.r_makeR ?_
  | with_reducible refine Ls.r_ex1 ?_
  | with_reducible refine Ls.r_ex2 ?_
  | with_reducible refine Ls.r_orI ?_
  | with_reducible refine Ls.r_orB ?_
  | with_reducible refine Ls.r_non ?_
  | with_reducible refine Ls.iteNT ?_
  | with_reducible refine Ls.iteNF ?_
  | with_reducible refine iteT ?_
  | with_reducible refine iteF ?_)
local macro_rules | `(tactic| walk_at "rd") => `(tactic| repeat walk_at "r1")
namespace Ls
open PySem PySem.Spec PyProof.Rows L2
section
variable {P : Program} {w : World} {K : Fr} {mg : Str → Option Value} {base : Heap}
/-! ### whole -/
/-- an instance of Form -/
def FormAt (K : Fr) (H : Hp) (p : Addr) (a b : Int) : Prop := ∃ dx, H p = some (.ins (He.ga K "Form") dx [("slope", .int a), ("base", .int b)])
/-- an int, or a form -/
def IntOrForm (K : Fr) (H : Hp) (v : V) (b : Bool) : Prop := (∃ i, v = .int i ∧ b = true) ∨ (∃ p x y, v = .ref p ∧ FormAt K H p x y ∧ b = false)
def sp_is_whole (K : Fr) : Sp := fun vs H Q _ => ∃ v b, vs = [v] ∧ IntOrForm K H v b ∧ Q (.bl b) H
structure ExF (K : Fr) : Prop where
  inst : InstC K (He.ga K "Form")
  cls : Cls K (He.ga K "Form")
  iF : PySem.W.kitOne K (.type "int") (.ref (He.ga K "Form")) = some false
  Fi : PySem.W.kitOne K (.ref (He.ga K "Form")) (.type "int") = some false
  FF : PySem.W.kitOne K (.ref (He.ga K "Form")) (.ref (He.ga K "Form")) = some true
theorem exF (T : Tx K mg) : ExF K := by
  have h := T.ex
  unfold exAll at h
  simp only [Bool.and_eq_true, decide_eq_true_eq] at h
  obtain ⟨_, _, _, _, _, h1, _, _, _, _, h2, h3, h4⟩ := h
  exact ⟨instB_ok h1, T.c_Form, h2, h3, h4⟩
theorem tyF (T : Tx K mg) {H : Hp} {p : Addr} {a b : Int} (h : FormAt K H p a b) : TyX K H (.ref p) (.ref (He.ga K "Form")) := by
  obtain ⟨dx, h⟩ := h
  have e := exF T
  exact .base (.ins h e.cls e.inst.ha e.inst.hn e.inst.ht e.inst.hm)
abbrev n_is_whole : List Str := ["thing"]
theorem sc_is_whole : FnScope n_is_whole ["thing"] (defScope s_is_whole) := ⟨rfl, rfl, rfl, by decide +kernel, rfl, by decide +kernel, by decide +kernel⟩
theorem kp_is_whole (T : Tx K mg) : PySem.W.keepIn K (.ref (He.ga K "is_whole")) = true := kp_of T.d_is_whole
theorem ok_is_whole (T : Tx K mg) : FnR P w K mg base CX0 1 (He.ga K "is_whole") (sp_is_whole K) := by
  refine mk0 T.d_is_whole sc_is_whole (fun _ _ _ _ _ _ us hl => match us, hl with | [_], _ => rfl) (fun vs H Q E h => ?_) (fun cdv A outer s H vs Q E hr h => ?_)
  · obtain ⟨v, b, rfl, _⟩ := h
    rfl
  · obtain ⟨v, b, rfl, hv, k⟩ := h
    refine ⟨_, (pss_one (ps_ret (pe_and (pe_callB call_isi (by rfl) T.f_isinstance (by decide +kernel) (pa_cons (pv 0) (pa_cons (pe_bltn (v := .ty "int") (u := .type "int") (by rfl) T.f_int (by decide +kernel) rfl) pa_nil))) (pe_one (pe_not (pe_callB call_isi (by rfl) T.f_isinstance (by decide +kernel) (pa_cons (pv 0) (pa_cons (pe_bltn (v := .ty "bool") (u := .type "bool") (by rfl) T.f_bool (by decide +kernel) rfl) pa_nil)))))))), r_start (σ := [some v]) rfl ?_⟩
    walk_at "rd"
    rcases hv with ⟨i, rfl, rfl⟩ | ⟨p, x, y, rfl, hf, rfl⟩
    · refine r_isi (.ty "int") (.base (.int i)) (b := true) (kit_ty (by decide +kernel)) ?_
      walk_at "rd"
      refine r_isi (.ty "bool") (.base (.int i)) (b := false) (kit_ty (by decide +kernel)) ?_
      walk_at "rd"
      exact k
    · refine r_isi (.ty "int") (tyF T hf) (b := false) (exF T).Fi ?_
      walk_at "rd"
      exact k
end
end Ls
namespace Ls
open PySem PySem.Spec PyProof.Rows L2
/-! ### the words -/
def Sl.s : Sl → Str
  | .rest => "rest"
  | .off => "off"
  | .mask => "mask"
def Em.s : Em → Str
  | .same => "same"
  | .count => "count"
  | .note => "note"
def Wh.s : Wh → Str
  | .refuse => "refuse"
  | .drop => "drop"
  | .over => "over"
def Op.s : Op → Str
  | .eq => "="
  | .ge => ">="
def Ca.s : Ca → Str
  | .nothing => "nothing"
  | .shut => "shut"
  | .outside => "outside"
  | .empty => "empty"
  | .slot => "slot"
  | .right => "right"
def pname : Nat → Str
  | 0 => "wrap"
  | 1 => "slot"
  | 2 => "empty"
  | 3 => "full"
  | _ => "when"
theorem inV_str (x : Str) (ws : List Str) : inV (.str x) (ws.map V.str) = decide (x ∈ ws) := by
  unfold inV
  rw [List.any_map]
  induction ws with
  | nil => simp
  | cons a r ih =>
    rw [List.any_cons, ih]
    show ((a == x) || _) = _
    by_cases h : a = x
    · subst h
      simp
    · have h2 : ¬ x = a := fun q => h q.symm
      simp [h, h2]
theorem flat_strs (ws : List Str) : (ws.map V.str).all flatV = true := by
  rw [List.all_map]
  exact List.all_eq_true.mpr fun _ _ => rfl
theorem lk0 {k : Str} {v : V} {r : List (Str × V)} : ((k, v) :: r).lookup k = some v := by rw [lookup_put, if_pos rfl]
theorem lk1 {k j : Str} {v : V} {r : List (Str × V)} (h : ¬ k = j) : ((j, v) :: r).lookup k = r.lookup k := by rw [lookup_put, if_neg h]
/-! ### what stands in the heap -/
section
variable {K : Fr} {H H' : Hp}
def PWr (K : Fr) (H : Hp) (v : V) : Wr → Prop
  | .wid w => v = .int w
  | .frm a b => ∃ p, v = .ref p ∧ FormAt K H p a b
def PFu (K : Fr) (H : Hp) (v : V) : Fu → Prop
  | .next => ∃ p, v = .ref p ∧ H p = some (.tup [.str "next"])
  | .note => ∃ p, v = .ref p ∧ H p = some (.tup [.str "note"])
  | .diff o a b => ∃ p q, v = .ref p ∧ H p = some (.tup [.str "diff", .str o.s, .ref q]) ∧ FormAt K H q a b
  | .count o a b => ∃ p q, v = .ref p ∧ H p = some (.tup [.str "count", .str o.s, .ref q]) ∧ FormAt K H q a b
def sfs (wv : V) (s : Sl) (e : Em) (fv : V) (h : Wh) : List (Str × V) :=
  [("own_wrap", wv), ("own_slot", .str s.s), ("own_empty", .str e.s), ("own_full", fv), ("own_when", .str h.s)]
def ScAt (K : Fr) (H : Hp) (p : Addr) (s : Sc) : Prop :=
  ∃ dx wv fv, H p = some (.ins (He.ga K "Scheme") dx (sfs wv s.slot s.empty fv s.when)) ∧ PWr K H wv s.wrap ∧ PFu K H fv s.full
theorem FormAt.same {p : Addr} {a b : Int} (e : Same H H') (h : FormAt K H p a b) : FormAt K H' p a b := let ⟨dx, h⟩ := h; ⟨dx, e _ _ h⟩
theorem PWr.same {v : V} {w : Wr} (e : Same H H') (h : PWr K H v w) : PWr K H' v w := by
  cases w with
  | wid w => exact h
  | frm a b => exact let ⟨p, h1, h2⟩ := h; ⟨p, h1, h2.same e⟩
theorem PFu.same {v : V} {f : Fu} (e : Same H H') (h : PFu K H v f) : PFu K H' v f := by
  cases f with
  | next => exact let ⟨p, h1, h2⟩ := h; ⟨p, h1, e _ _ h2⟩
  | note => exact let ⟨p, h1, h2⟩ := h; ⟨p, h1, e _ _ h2⟩
  | diff o a b => exact let ⟨p, q, h1, h2, h3⟩ := h; ⟨p, q, h1, e _ _ h2, h3.same e⟩
  | count o a b => exact let ⟨p, q, h1, h2, h3⟩ := h; ⟨p, q, h1, e _ _ h2, h3.same e⟩
theorem ScAt.same {p : Addr} {s : Sc} (e : Same H H') (h : ScAt K H p s) : ScAt K H' p s :=
  let ⟨dx, wv, fv, h1, h2, h3⟩ := h; ⟨dx, wv, fv, e _ _ h1, h2.same e, h3.same e⟩
theorem same_new {p : Addr} {o : HO} (h : H p = none) : Same H (upd H p o) := fun b u e => by
  rw [upd_ne (ne_of_none e h)]
  exact e
theorem same_new2 {H0 : Hp} {p : Addr} {o : HO} (e : Same H0 H) (h : H p = none) : Same H0 (upd H p o) := e.trans (same_new h)
theorem same_upd {H0 : Hp} {p : Addr} {o : HO} (e : Same H0 H) (h : H0 p = none) : Same H0 (upd H p o) := fun b u q => by
  rw [upd_ne (ne_of_none q h)]
  exact e _ _ q
end
section
variable {P : Program} {w : World} {K : Fr} {mg : Str → Option Value} {base : Heap}
/-! ### is_between, is_size, is_word -/
def sp_is_between (K : Fr) : Sp := fun vs H Q _ => ∃ v lo hi b, vs = [v, .int lo, .int hi] ∧
  ((∃ i, v = .int i ∧ b = (decide (lo ≤ i) && decide (i ≤ hi))) ∨ (∃ p x y, v = .ref p ∧ FormAt K H p x y ∧ b = false)) ∧ Q (.bl b) H
abbrev n_is_between : List Str := ["thing", "low", "high"]
theorem sc_is_between : FnScope n_is_between ["thing", "low", "high"] (defScope s_is_between) := ⟨rfl, rfl, rfl, by decide +kernel, rfl, by decide +kernel, by decide +kernel⟩
theorem kp_is_between (T : Tx K mg) : PySem.W.keepIn K (.ref (He.ga K "is_between")) = true := kp_of T.d_is_between
theorem ok_is_between (T : Tx K mg) : FnR P w K mg base CX0 2 (He.ga K "is_between") (sp_is_between K) := by
  refine mk0 T.d_is_between sc_is_between (fun _ _ _ _ _ _ us hl => match us, hl with | [_, _, _], _ => rfl) (fun vs H Q E h => ?_) (fun cdv A outer s H vs Q E hr h => ?_)
  · obtain ⟨v, lo, hi, b, rfl, _⟩ := h
    rfl
  · obtain ⟨v, lo, hi, b, rfl, hv, k⟩ := h
    refine ⟨_, (pss_one (ps_ret (pe_and (pe_callR (ok_is_whole T) (hr.mono (by decide)) rfl T.g_is_whole (kp_is_whole T) pass0 (pa_cons (pv 0) pa_nil)) (pe_one (pe_chain op_le op_le (pv 1) (pv 0) (pv 2)))))), r_start (σ := [some v, some (.int lo), some (.int hi)]) rfl ?_⟩
    walk_at "rd"
    rcases hv with ⟨i, rfl, rfl⟩ | ⟨p, x, y, rfl, hf, rfl⟩
    · refine ⟨_, true, rfl, .inl ⟨i, rfl, rfl⟩, ?_⟩
      walk_at "rd"
      refine ite2 (fun h1 => ?_) (fun h1 => ?_)
      · walk_at "rd"
        rw [h1, Bool.true_and] at k
        exact k
      · have e : decide (lo ≤ i) = false := by simpa using h1
        rw [e] at k
        exact k
    · refine ⟨_, false, rfl, .inr ⟨p, x, y, rfl, hf, rfl⟩, ?_⟩
      walk_at "rd"
      exact k
def sp_is_size (K : Fr) : Sp := fun vs H Q _ => ∃ n : Int, vs = [.int n] ∧ 1 ≤ n ∧ n ≤ 1000000000000000000000000000000 ∧ Q (.bl true) H
abbrev n_is_size : List Str := ["thing"]
theorem sc_is_size : FnScope n_is_size ["thing"] (defScope s_is_size) := ⟨rfl, rfl, rfl, by decide +kernel, rfl, by decide +kernel, by decide +kernel⟩
theorem kp_is_size (T : Tx K mg) : PySem.W.keepIn K (.ref (He.ga K "is_size")) = true := kp_of T.d_is_size
theorem ok_is_size (T : Tx K mg) : FnR P w K mg base CX0 3 (He.ga K "is_size") (sp_is_size K) := by
  refine mk0 T.d_is_size sc_is_size (fun _ _ _ _ _ _ us hl => match us, hl with | [_], _ => rfl) (fun vs H Q E h => ?_) (fun cdv A outer s H vs Q E hr h => ?_)
  · obtain ⟨n, rfl, _⟩ := h
    rfl
  · obtain ⟨n, rfl, h1, h2, k⟩ := h
    refine ⟨_, (pss_one (ps_ret (pe_callR (ok_is_between T) (hr.mono (by decide)) rfl T.g_is_between (kp_is_between T) pass0 (pa_cons (pv 0) (pa_cons pe_int (pa_cons (pe_glob (v := .int 1000000000000000000000000000000) rfl T.i_LARGEST.choose_spec ⟨_, rfl⟩) pa_nil)))))), r_start (σ := [some (.int n)]) rfl ?_⟩
    walk_at "rd"
    refine ⟨_, _, _, true, rfl, .inl ⟨n, rfl, ?_⟩, k⟩
    rw [decide_eq_true h1, decide_eq_true h2]
    rfl
def sp_is_word (K : Fr) : Sp := fun vs H Q _ => ∃ (x : Str) (p : Addr) (ws : List Str), vs = [.str x, .ref p] ∧ SqT K H p (ws.map V.str) ∧ Q (.bl (decide (x ∈ ws))) H
abbrev n_is_word : List Str := ["thing", "words"]
theorem sc_is_word : FnScope n_is_word ["thing", "words"] (defScope s_is_word) := ⟨rfl, rfl, rfl, by decide +kernel, rfl, by decide +kernel, by decide +kernel⟩
theorem kp_is_word (T : Tx K mg) : PySem.W.keepIn K (.ref (He.ga K "is_word")) = true := kp_of T.d_is_word
theorem ok_is_word (T : Tx K mg) : FnR P w K mg base CX0 1 (He.ga K "is_word") (sp_is_word K) := by
  refine mk0 T.d_is_word sc_is_word (fun _ _ _ _ _ _ us hl => match us, hl with | [_, _], _ => rfl) (fun vs H Q E h => ?_) (fun cdv A outer s H vs Q E hr h => ?_)
  · obtain ⟨n, p, ws, rfl, _⟩ := h
    rfl
  · obtain ⟨x, p, ws, rfl, hp, k⟩ := h
    refine ⟨_, (pss_one (ps_ret (pe_and (pe_callB call_isi (by rfl) T.f_isinstance (by decide +kernel) (pa_cons (pv 0) (pa_cons (pe_bltn (v := .ty "str") (u := .type "str") (by rfl) T.f_str (by decide +kernel) rfl) pa_nil))) (pe_one (pe_cmpR op_in_seq (pv 0) (pv 1) rfl))))), r_start (σ := [some (.str x), some (.ref p)]) rfl ?_⟩
    walk_at "rd"
    refine r_isi (.ty "str") (.base (.str x)) (b := true) (kit_ty (by decide +kernel)) ?_
    walk_at "rd"
    refine ⟨p, _, rfl, .inr hp, rfl, flat_strs _, ?_⟩
    rw [inV_str]
    exact k
/-! ### forms -/
theorem ff_slope (a b : Int) : ([("slope", V.int a), ("base", V.int b)] : List (Str × V)).lookup ("slope" : Str) = some (.int a) := rfl
theorem ff_base (a b : Int) : ([("slope", V.int a), ("base", V.int b)] : List (Str × V)).lookup ("base" : Str) = some (.int b) := (lk1 (by decide +kernel)).trans lk0
def sp_is_part_form (K : Fr) : Sp := fun vs H Q _ => ∃ (p : Addr) (a b : Int), vs = [.ref p] ∧ FormAt K H p a b ∧ ((0 ≤ a ∧ a ≤ 4) ∧ (-20 ≤ b ∧ b ≤ 20)) ∧ Q (.bl true) H
abbrev n_is_part_form : List Str := ["thing"]
theorem sc_is_part_form : FnScope n_is_part_form ["thing"] (defScope s_is_part_form) := ⟨rfl, rfl, rfl, by decide +kernel, rfl, by decide +kernel, by decide +kernel⟩
theorem kp_is_part_form (T : Tx K mg) : PySem.W.keepIn K (.ref (He.ga K "is_part_form")) = true := kp_of T.d_is_part_form
theorem ok_is_part_form (T : Tx K mg) : FnR P w K mg base CX0 1 (He.ga K "is_part_form") (sp_is_part_form K) := by
  refine mk0 T.d_is_part_form sc_is_part_form (fun _ _ _ _ _ _ us hl => match us, hl with | [_], _ => rfl) (fun vs H Q E h => ?_) (fun cdv A outer s H vs Q E hr h => ?_)
  · obtain ⟨p, a, b, rfl, _⟩ := h
    rfl
  · obtain ⟨p, a, b, rfl, hf, ⟨⟨h1, h2⟩, h3, h4⟩, k⟩ := h
    refine ⟨_, (pss_one (ps_ret (pe_and (pe_callB call_isi (by rfl) T.f_isinstance (by decide +kernel) (pa_cons (pv 0) (pa_cons (pe_glob (v := .ref _) rfl T.g_Form rfl) pa_nil))) (pe_and (pe_chain op_le op_le pe_int (pe_fld (pv 0) rfl) pe_int) (pe_one (pe_chain op_le op_le (pe_un un_neg pe_int) (pe_fld (pv 0) rfl) pe_int)))))), r_start (σ := [some (.ref p)]) rfl ?_⟩
    walk_at "rd"
    refine r_isi (.own _) (tyF T hf) (b := true) (exF T).FF ?_
    obtain ⟨dx, hp⟩ := hf
    walk_at "rd"
    refine ⟨p, _, dx, _, _, rfl, hp, T.c_Form, T.n_Form_slope, ff_slope a b, ?_⟩
    walk_at "rd"
    rw [decide_eq_true h1]
    walk_at "rd"
    rw [decide_eq_true h2]
    walk_at "rd"
    refine ⟨p, _, dx, _, _, rfl, hp, T.c_Form, T.n_Form_base, ff_base a b, ?_⟩
    walk_at "rd"
    rw [show decide (-20 ≤ b) = true from decide_eq_true h3]
    walk_at "rd"
    rw [decide_eq_true h4]
    exact k
def sp_is_wrap (K : Fr) : Sp := fun vs H Q _ => ∃ (v : V) (x : Wr), vs = [v] ∧ PWr K H v x ∧ x.ok ∧ Q (.bl true) H
abbrev n_is_wrap : List Str := ["thing"]
theorem sc_is_wrap : FnScope n_is_wrap ["thing"] (defScope s_is_wrap) := ⟨rfl, rfl, rfl, by decide +kernel, rfl, by decide +kernel, by decide +kernel⟩
theorem kp_is_wrap (T : Tx K mg) : PySem.W.keepIn K (.ref (He.ga K "is_wrap")) = true := kp_of T.d_is_wrap
theorem ok_is_wrap (T : Tx K mg) : FnR P w K mg base CX0 3 (He.ga K "is_wrap") (sp_is_wrap K) := by
  refine mk0 T.d_is_wrap sc_is_wrap (fun _ _ _ _ _ _ us hl => match us, hl with | [_], _ => rfl) (fun vs H Q E h => ?_) (fun cdv A outer s H vs Q E hr h => ?_)
  · obtain ⟨v, x, rfl, _⟩ := h
    rfl
  · obtain ⟨v, x, rfl, hv, ho, k⟩ := h
    refine ⟨_, (pss_one (ps_ret (pe_or (pe_callR (ok_is_between T) (hr.mono (by decide)) rfl T.g_is_between (kp_is_between T) pass0 (pa_cons (pv 0) (pa_cons pe_int (pa_cons (pe_glob (v := .int 100) rfl T.i_WIDEST.choose_spec ⟨_, rfl⟩) pa_nil)))) (pe_one (pe_callR (ok_is_part_form T) (hr.mono (by decide)) rfl T.g_is_part_form (kp_is_part_form T) pass0 (pa_cons (pv 0) pa_nil)))))), r_start (σ := [some v]) rfl ?_⟩
    walk_at "rd"
    cases x with
    | wid x =>
      obtain rfl : v = .int x := hv
      refine ⟨_, _, _, true, rfl, .inl ⟨x, rfl, ?_⟩, ?_⟩
      · rw [decide_eq_true ho.1, decide_eq_true ho.2]
        rfl
      · walk_at "rd"
        exact k
    | frm a b =>
      obtain ⟨p, rfl, hf⟩ := hv
      refine ⟨_, _, _, false, rfl, .inr ⟨p, a, b, rfl, hf, rfl⟩, ?_⟩
      walk_at "rd"
      exact ⟨p, a, b, rfl, hf, ho, k⟩
theorem iof {H : Hp} {v : V} {x : Wr} (h : PWr K H v x) : IntOrForm K H v x.isW := by
  cases x with
  | wid x => exact .inl ⟨x, h, rfl⟩
  | frm a b => exact let ⟨p, e, f⟩ := h; .inr ⟨p, a, b, e, f, rfl⟩
def sp_is_slot (K : Fr) : Sp := fun vs H Q _ => ∃ (s : Sl) (v : V) (x : Wr), vs = [.str s.s, v] ∧ PWr K H v x ∧ ∀ H', Same H H' → Q (.bl (slOk s x)) H'
abbrev n_is_slot : List Str := ["thing", "wrap"]
theorem sc_is_slot : FnScope n_is_slot ["thing", "wrap"] (defScope s_is_slot) := ⟨rfl, rfl, rfl, by decide +kernel, rfl, by decide +kernel, by decide +kernel⟩
theorem kp_is_slot (T : Tx K mg) : PySem.W.keepIn K (.ref (He.ga K "is_slot")) = true := kp_of T.d_is_slot
theorem ok_is_slot (T : Tx K mg) : FnR P w K mg base CX0 2 (He.ga K "is_slot") (sp_is_slot K) := by
  refine mk0 T.d_is_slot sc_is_slot (fun _ _ _ _ _ _ us hl => match us, hl with | [_, _], _ => rfl) (fun vs H Q E h => ?_) (fun cdv A outer s H vs Q E hr h => ?_)
  · obtain ⟨s, v, x, rfl, _⟩ := h
    rfl
  · obtain ⟨s, v, x, rfl, hv, k⟩ := h
    refine ⟨_, (pss_one (ps_ret (pe_and (pe_callR (ok_is_word T) (hr.mono (by decide)) rfl T.g_is_word (kp_is_word T) pass0 (pa_cons (pv 0) (pa_cons (pe_tup (pa_cons pe_str (pa_cons pe_str (pa_cons pe_str pa_nil)))) pa_nil))) (pe_one (pe_or (pe_cmpR op_ne (pv 0) pe_str (nomark _)) (pe_one (pe_callR (ok_is_whole T) (hr.mono (by decide)) rfl T.g_is_whole (kp_is_whole T) pass0 (pa_cons (pv 1) pa_nil)))))))), r_start (σ := [some (.str s.s), some v]) rfl ?_⟩
    walk_at "rd"
    intro p np
    refine ⟨_, p, ["rest", "off", "mask"], rfl, SqT.of upd_same, ?_⟩
    rw [show decide (s.s ∈ (["rest", "off", "mask"] : List Str)) = true by cases s <;> decide +kernel]
    walk_at "rd"
    have e1 := same_new (H := H) (o := .tup [.str "rest", .str "off", .str "mask"]) np
    cases s with
    | mask =>
      rw [show (!decide (V.str Sl.mask.s = V.str "mask")) = false by decide +kernel]
      walk_at "rd"
      refine ⟨_, _, rfl, iof (hv.same e1), ?_⟩
      exact k _ e1
    | rest =>
      rw [show (!decide (V.str Sl.rest.s = V.str "mask")) = true by decide +kernel]
      walk_at "rd"
      exact k _ e1
    | off =>
      rw [show (!decide (V.str Sl.off.s = V.str "mask")) = true by decide +kernel]
      walk_at "rd"
      exact k _ e1
end
end Ls
namespace Ls
open PySem PySem.Spec PyProof.Rows L2
section
variable {P : Program} {w : World} {K : Fr} {mg : Str → Option Value} {base : Heap}
/-! ### is_full_rule -/
theorem pfu_cases {H : Hp} {v : V} {f : Fu} (h : PFu K H v f) (ho : f.ok) :
    (∃ p x, v = .ref p ∧ H p = some (.tup [.str x]) ∧ x ∈ (["next", "note"] : List Str)) ∨
    (∃ p q x o a b, v = .ref p ∧ H p = some (.tup [.str x, .str (Op.s o), .ref q]) ∧ FormAt K H q a b ∧ x ∈ (["diff", "count"] : List Str) ∧ ((0 ≤ a ∧ a ≤ 4) ∧ (-20 ≤ b ∧ b ≤ 20))) := by
  cases f with
  | next => obtain ⟨p, e, hp⟩ := h; exact .inl ⟨p, _, e, hp, by decide +kernel⟩
  | note => obtain ⟨p, e, hp⟩ := h; exact .inl ⟨p, _, e, hp, by decide +kernel⟩
  | diff o a b => obtain ⟨p, q, e, hp, hf⟩ := h; exact .inr ⟨p, q, _, o, a, b, e, hp, hf, by decide +kernel, ho⟩
  | count o a b => obtain ⟨p, q, e, hp, hf⟩ := h; exact .inr ⟨p, q, _, o, a, b, e, hp, hf, by decide +kernel, ho⟩
def sp_is_full_rule (K : Fr) : Sp := fun vs H Q _ => ∃ (v : V) (f : Fu), vs = [v] ∧ PFu K H v f ∧ f.ok ∧ ∀ H', Same H H' → Q (.bl true) H'
abbrev n_is_full_rule : List Str := ["thing"]
theorem sc_is_full_rule : FnScope n_is_full_rule ["thing"] (defScope s_is_full_rule) := ⟨rfl, rfl, rfl, by decide +kernel, rfl, by decide +kernel, by decide +kernel⟩
theorem kp_is_full_rule (T : Tx K mg) : PySem.W.keepIn K (.ref (He.ga K "is_full_rule")) = true := kp_of T.d_is_full_rule
theorem ok_is_full_rule (T : Tx K mg) : FnR P w K mg base CX0 2 (He.ga K "is_full_rule") (sp_is_full_rule K) := by
  refine mk0 T.d_is_full_rule sc_is_full_rule (fun _ _ _ _ _ _ us hl => match us, hl with | [_], _ => rfl) (fun vs H Q E h => ?_) (fun cdv A outer s H vs Q E hr h => ?_)
  · obtain ⟨v, f, rfl, _⟩ := h
    rfl
  · obtain ⟨v, f, rfl, hv, ho, k⟩ := h
    refine ⟨_, (pss_cons (ps_if (PW.pt (pw_or (pt_not (pt_val (pe_callB call_isi (by rfl) T.f_isinstance (by decide +kernel) (pa_cons (pv 0) (pa_cons (pe_bltn (v := .ty "tuple") (u := .type "tuple") (by rfl) T.f_tuple (by decide +kernel) rfl) pa_nil))))) (pw_or1 (pt_cmpR op_notIn_seq (pe_callB call_len_seq (by rfl) T.f_len PySem.boot_len (pa_cons (pv 0) pa_nil)) (pe_tup (pa_cons pe_int (pa_cons pe_int pa_nil))) rfl)))) (pss_one (ps_ret pe_bl)) pss_nil)
      (pss_cons (ps_if (pt_cmpR op_eq (pe_callB call_len_seq (by rfl) T.f_len PySem.boot_len (pa_cons (pv 0) pa_nil)) pe_int (nomark _)) (pss_one (ps_ret (pe_callR (ok_is_word T) (hr.mono (by decide)) rfl T.g_is_word (kp_is_word T) pass0 (pa_cons (pe_ix ix_tup (pv 0) pe_int (fun _ _ => rfl)) (pa_cons (pe_tup (pa_cons pe_str (pa_cons pe_str pa_nil))) pa_nil))))) pss_nil)
      (pss_one (ps_ret (pe_and (pe_callR (ok_is_word T) (hr.mono (by decide)) rfl T.g_is_word (kp_is_word T) pass0 (pa_cons (pe_ix ix_tup (pv 0) pe_int (fun _ _ => rfl)) (pa_cons (pe_tup (pa_cons pe_str (pa_cons pe_str pa_nil))) pa_nil))) (pe_and (pe_callR (ok_is_word T) (hr.mono (by decide)) rfl T.g_is_word (kp_is_word T) pass0 (pa_cons (pe_ix ix_tup (pv 0) pe_int (fun _ _ => rfl)) (pa_cons (pe_tup (pa_cons pe_str (pa_cons pe_str pa_nil))) pa_nil))) (pe_one (pe_callR (ok_is_part_form T) (hr.mono (by decide)) rfl T.g_is_part_form (kp_is_part_form T) pass0 (pa_cons (pe_ix ix_tup (pv 0) pe_int (fun _ _ => rfl)) pa_nil))))))))), r_start (σ := [some v]) rfl ?_⟩
    walk_at "rd"
    rcases pfu_cases hv ho with ⟨p, x, rfl, hp, hx⟩ | ⟨p, q, x, o, a, b, rfl, hp, hf, hx, hab⟩
    · refine r_isi (.ty "tuple") (.base (.tup hp)) (b := true) (kit_ty (by decide +kernel)) ?_
      walk_at "rd"
      refine ⟨_, _, rfl, .inr (SqT.of hp), ?_⟩
      walk_at "rd"
      intro t nt
      have e1 := same_new (H := H) (o := .tup [.int 1, .int 3]) nt
      refine r_in (.inr (SqT.of upd_same)) rfl rfl ?_
      walk_at "rd"
      refine itef (by rfl) ?_
      walk_at "rd"
      refine ⟨_, _, rfl, .inr (SqT.of (e1 _ _ hp)), ?_⟩
      walk_at "rd"
      refine itet (by rfl) ?_
      walk_at "rd"
      refine r_ixT (SqT.of (e1 _ _ hp)) (v := .str x) (by rfl) ?_
      walk_at "rd"
      intro u nu
      refine ⟨x, u, ["next", "note"], rfl, SqT.of upd_same, ?_⟩
      rw [decide_eq_true hx]
      exact k _ (same_new2 e1 nu)
    · refine r_isi (.ty "tuple") (.base (.tup hp)) (b := true) (kit_ty (by decide +kernel)) ?_
      walk_at "rd"
      refine ⟨_, _, rfl, .inr (SqT.of hp), ?_⟩
      walk_at "rd"
      intro t nt
      have e1 := same_new (H := H) (o := .tup [.int 1, .int 3]) nt
      refine r_in (.inr (SqT.of upd_same)) rfl rfl ?_
      walk_at "rd"
      refine itef (by rfl) ?_
      walk_at "rd"
      refine ⟨_, _, rfl, .inr (SqT.of (e1 _ _ hp)), ?_⟩
      walk_at "rd"
      refine itef (by rfl) ?_
      walk_at "rd"
      refine r_ixT (SqT.of (e1 _ _ hp)) (v := .str x) (by rfl) ?_
      walk_at "rd"
      intro u nu
      have e2 := same_new2 (o := .tup [.str "diff", .str "count"]) e1 nu
      refine ⟨x, u, ["diff", "count"], rfl, SqT.of upd_same, ?_⟩
      rw [decide_eq_true hx]
      walk_at "rd"
      refine r_ixT (SqT.of (e2 _ _ hp)) (v := .str o.s) (by rfl) ?_
      walk_at "rd"
      intro z nz
      have e3 := same_new2 (o := .tup [.str "=", .str ">="]) e2 nz
      refine ⟨o.s, z, ["=", ">="], rfl, SqT.of upd_same, ?_⟩
      rw [show decide (o.s ∈ (["=", ">="] : List Str)) = true by cases o <;> decide +kernel]
      walk_at "rd"
      refine r_ixT (SqT.of (e3 _ _ hp)) (v := .ref q) (by rfl) ?_
      walk_at "rd"
      exact ⟨q, a, b, rfl, hf.same e3, hab, k _ e3⟩
/-! ### a form is made -/
def sp_Form_init (K : Fr) : Sp := fun vs H Q _ => ∃ (p dx : Addr) (a b : Int), vs = [.ref p, .int a, .int b] ∧ H p = some (.ins (He.ga K "Form") dx []) ∧
  ∀ H', FormAt K H' p a b → (∀ c o, H c = some o → c ≠ p → H' c = some o) → Q .non H'
/-! ### modulus_at -/
def sp_modulus_at (K : Fr) : Sp := fun vs H Q _ => ∃ (v : V) (x : Wr) (n : Int), vs = [v, .int n] ∧ PWr K H v x ∧ x.ok ∧ Q (.int (modu x n)) H
abbrev n_modulus_at : List Str := ["wrap", "n"]
theorem sc_modulus_at : FnScope n_modulus_at ["wrap", "n"] (defScope s_modulus_at) := ⟨rfl, rfl, rfl, by decide +kernel, rfl, by decide +kernel, by decide +kernel⟩
theorem kp_modulus_at (T : Tx K mg) : PySem.W.keepIn K (.ref (He.ga K "modulus_at")) = true := kp_of T.d_modulus_at
theorem ok_modulus_at (T : Tx K mg) : FnR P w K mg base CX0 2 (He.ga K "modulus_at") (sp_modulus_at K) := by
  refine mk0 T.d_modulus_at sc_modulus_at (fun _ _ _ _ _ _ us hl => match us, hl with | [_, _], _ => rfl) (fun vs H Q E h => ?_) (fun cdv A outer s H vs Q E hr h => ?_)
  · obtain ⟨v, x, n, rfl, _⟩ := h
    rfl
  · obtain ⟨v, x, n, rfl, hv, ho, k⟩ := h
    refine ⟨_, (pss_cons (ps_if (pt_val (pe_callR (ok_is_whole T) (hr.mono (by decide)) rfl T.g_is_whole (kp_is_whole T) pass0 (pa_cons (pv 0) pa_nil))) (pss_one (ps_ret (pe_op op_shl pe_int (pv 0)))) pss_nil)
      (pss_one (ps_ret (pe_op op_add (pe_op op_mul (pe_fld (pv 0) rfl) (pv 1)) (pe_fld (pv 0) rfl))))), r_start (σ := [some v, some (.int n)]) rfl ?_⟩
    walk_at "rd"
    refine ⟨_, _, rfl, iof hv, ?_⟩
    walk_at "rd"
    cases x with
    | wid x =>
      obtain rfl : v = .int x := hv
      have h1 : 1 ≤ x := ho.1
      have h2 : x ≤ 100 := ho.2
      refine itet rfl ?_
      walk_at "rd"
      refine r_i ⟨by omega, by omega, by decide⟩ ?_
      rw [Int.one_mul]
      exact k
    | frm a b =>
      obtain ⟨p, rfl, dx, hp⟩ := hv
      have h1 : 0 ≤ a := ho.1.1
      have h2 : a ≤ 4 := ho.1.2
      refine itef rfl ?_
      walk_at "rd"
      refine ⟨p, _, dx, _, _, rfl, hp, T.c_Form, T.n_Form_slope, ff_slope a b, ?_⟩
      walk_at "rd"
      refine r_i (.inl ⟨by omega, by omega⟩) ?_
      walk_at "rd"
      refine ⟨p, _, dx, _, _, rfl, hp, T.c_Form, T.n_Form_base, ff_base a b, ?_⟩
      walk_at "rd"
      exact k
end
end Ls
namespace Ls
open PySem PySem.Spec PyProof.Rows L2
theorem fmod_pos {a b : Int} (h : 0 < b) : a.fmod b = a % b := Int.fmod_eq_emod_of_nonneg a (Int.le_of_lt h)
theorem dec_str' {a b : Str} : decide (V.str a = V.str b) = decide (a = b) := by
  by_cases h : a = b
  · rw [h]; simp
  · rw [decide_eq_false h]
    exact decide_eq_false fun q => h (V.str.inj q)
theorem dec_int' {a b : Int} : decide (V.int a = V.int b) = decide (a = b) := by
  by_cases h : a = b
  · rw [h]; simp
  · rw [decide_eq_false h]
    exact decide_eq_false fun q => h (V.int.inj q)
theorem sl_off (s : Sl) : decide (V.str s.s = V.str "off") = decide (s = .off) := by cases s <;> decide +kernel
theorem sl_mask (s : Sl) : decide (V.str s.s = V.str "mask") = decide (s = .mask) := by cases s <;> decide +kernel
section
variable {P : Program} {w : World} {K : Fr} {mg : Str → Option Value} {base : Heap}
def sp_has_outside (K : Fr) : Sp := fun vs H Q _ => ∃ (s : Sl) (n M : Int), vs = [.str s.s, .int n, .int M] ∧ Q (.bl (isOut s n M)) H
abbrev n_has_outside : List Str := ["rule", "n", "modulus"]
theorem sc_has_outside : FnScope n_has_outside ["rule", "n", "modulus"] (defScope s_has_outside) := ⟨rfl, rfl, rfl, by decide +kernel, rfl, by decide +kernel, by decide +kernel⟩
theorem kp_has_outside (T : Tx K mg) : PySem.W.keepIn K (.ref (He.ga K "has_outside")) = true := kp_of T.d_has_outside
theorem ok_has_outside (T : Tx K mg) : FnR P w K mg base CX0 1 (He.ga K "has_outside") (sp_has_outside K) := by
  refine mk0 T.d_has_outside sc_has_outside (fun _ _ _ _ _ _ us hl => match us, hl with | [_, _, _], _ => rfl) (fun vs H Q E h => ?_) (fun cdv A outer s H vs Q E hr h => ?_)
  · obtain ⟨s, n, M, rfl, _⟩ := h
    rfl
  · obtain ⟨s, n, M, rfl, k⟩ := h
    refine ⟨_, (pss_one (ps_ret (pe_and (pe_cmpR op_eq (pv 0) pe_str (nomark _)) (pe_one (pe_cmpR op_gt (pv 2) (pe_op op_mul pe_int (pv 1)) (nomark _)))))), r_start (σ := [some (.str s.s), some (.int n), some (.int M)]) rfl ?_⟩
    walk_at "rd"
    rw [sl_off]
    unfold isOut at k
    refine ite2 (fun h1 => ?_) (fun h1 => ?_)
    · walk_at "rd"
      refine r_i (.inl ⟨by decide, by decide⟩) ?_
      walk_at "rd"
      rw [h1, Bool.true_and] at k
      exact k
    · have e : decide (s = Sl.off) = false := by simpa using h1
      rw [e, Bool.false_and] at k
      exact k
def sp_mask_gap (K : Fr) : Sp := fun vs H Q _ => ∃ (n : Int) (w : Nat), vs = [.int n, .int (2 ^ w), .int 0] ∧ 1 ≤ n ∧ Q (.int (winm n.toNat w)) H
theorem gap_int {n : Int} {w : Nat} (hn : 1 ≤ n) : ∃ kept free other : Int, Builtin.bitAnd (n - 1) (2 ^ w - 1) = kept ∧ (2 ^ w - 1 - kept = free) ∧
    Builtin.bitOr (Builtin.bitAnd 0 kept) (Builtin.bitAnd (Builtin.bitOr 0 kept + 1) free) = other ∧ 0 ≤ other ∧ (if 0 < other then other else 2 ^ w) = (winm n.toNat w : Int) := by
  have p0 : 0 < 2 ^ w := Nat.two_pow_pos w
  obtain ⟨m, rfl⟩ : ∃ m : Nat, n = (m : Int) := ⟨n.toNat, by omega⟩
  have hm : 1 ≤ m := by omega
  have pc : ((2 : Int) ^ w) = ((2 ^ w : Nat) : Int) := by simp
  have hx := Nat.mod_lt (m - 1) p0
  have g := gap_nat w m hm
  have e1 : Builtin.bitAnd ((m : Int) - 1) (2 ^ w - 1) = (((m - 1) % 2 ^ w : Nat) : Int) := by
    rw [Bits.bitAnd_mask w (by omega), pc]
    have : ((m : Int) - 1) = ((m - 1 : Nat) : Int) := by omega
    rw [this, Int.natCast_emod]
  generalize (m - 1) % 2 ^ w = x at hx g e1
  refine ⟨x, ((2 ^ w - 1 - x : Nat) : Int), ((((x + 1) &&& (2 ^ w - 1 - x)) : Nat) : Int), e1, by rw [pc]; omega, ?_, Int.natCast_nonneg _, ?_⟩
  · rw [Bits.bitOr_pp (x := 0) (y := (x : Int)) (by decide) (by omega), bitAnd_pp (x := 0) (by decide) (by omega)]
    rw [bitAnd_pp (by omega) (by omega), Bits.bitOr_pp (by omega) (by omega)]
    congr 1
    simp only [Int.toNat_natCast, Int.toNat_zero, Nat.zero_or, Nat.zero_and]
    congr 1
  · rw [Int.toNat_natCast, pc, ← g]
    by_cases q : 0 < (x + 1) &&& (2 ^ w - 1 - x)
    · rw [if_pos q, if_pos (by omega)]
    · rw [if_neg q, if_neg (by omega)]
abbrev n_mask_gap : List Str := ["n", "modulus", "c", "kept", "free", "other"]
theorem sc_mask_gap : FnScope n_mask_gap ["n", "modulus", "c"] (defScope s_mask_gap) := ⟨rfl, rfl, rfl, by decide +kernel, rfl, by decide +kernel, by decide +kernel⟩
theorem kp_mask_gap (T : Tx K mg) : PySem.W.keepIn K (.ref (He.ga K "mask_gap")) = true := kp_of T.d_mask_gap
theorem ok_mask_gap (T : Tx K mg) : FnR P w K mg base CX0 1 (He.ga K "mask_gap") (sp_mask_gap K) := by
  refine mk0 T.d_mask_gap sc_mask_gap (fun _ _ _ _ _ _ us hl => match us, hl with | [_, _, _], _ => rfl) (fun vs H Q E h => ?_) (fun cdv A outer s H vs Q E hr h => ?_)
  · obtain ⟨n, w, rfl, _⟩ := h
    rfl
  · obtain ⟨n, w, rfl, hn, k⟩ := h
    obtain ⟨kept, free, other, e1, e2, e3, h4, h5⟩ := gap_int (w := w) hn
    refine ⟨_, (pss_cons (ps_set (i := 3) sc_mask_gap.nd rfl (Or.inl rfl) (pe_op op_and (pe_op op_sub (pv 0) pe_int) (pe_op op_sub (pv 1) pe_int)))
      (pss_cons (ps_set (i := 4) sc_mask_gap.nd rfl (Or.inl rfl) (pe_op op_sub (pe_op op_sub (pv 1) pe_int) (pv 3)))
      (pss_cons (ps_set (i := 5) sc_mask_gap.nd rfl (Or.inl rfl) (pe_op op_or (pe_op op_and (pv 2) (pv 3)) (pe_op op_and (pe_op op_add (pe_op op_or (pv 2) (pv 3)) pe_int) (pv 4))))
      (pss_cons (ps_if (pt_cmpR op_gt (pv 5) (pv 2) (nomark _)) (pss_one (ps_ret (pe_op op_sub (pv 5) (pv 2)))) pss_nil)
      (pss_one (ps_ret (pe_op op_add (pe_op op_sub (pv 5) (pv 2)) (pv 1)))))))), r_start (σ := [some (.int n), some (.int (2 ^ w)), some (.int 0), none, none, none]) rfl ?_⟩
    walk_at "rd"
    rw [e1]
    walk_at "rd"
    rw [e2]
    walk_at "rd"
    rw [e3]
    walk_at "rd"
    refine ite2 (fun h1 => ?_) (fun h1 => ?_)
    · have h2 : 0 < other := by simpa using h1
      walk_at "rd"
      rw [if_pos h2] at h5
      rw [Int.sub_zero, h5]
      exact k
    · have h2 : ¬ 0 < other := by simpa using h1
      walk_at "rd"
      rw [if_neg h2] at h5
      rw [show other - 0 + 2 ^ w = 2 ^ w by omega, h5]
      exact k
def sp_gap_at (K : Fr) : Sp := fun vs H Q _ => ∃ (s : Sl) (n M c r : Int), vs = [.str s.s, .int n, .int M, .int c] ∧ 1 ≤ n ∧ isOut s n M = false ∧
  ((s = .mask ∧ c = 0 ∧ ∃ w : Nat, M = 2 ^ w ∧ r = winm n.toNat w) ∨ (s ≠ .mask ∧ r = if c + n < M then n else M - c + c % n)) ∧ Q (.int r) H
abbrev n_gap_at : List Str := ["rule", "n", "modulus", "c"]
theorem sc_gap_at : FnScope n_gap_at ["rule", "n", "modulus", "c"] (defScope s_gap_at) := ⟨rfl, rfl, rfl, by decide +kernel, rfl, by decide +kernel, by decide +kernel⟩
theorem kp_gap_at (T : Tx K mg) : PySem.W.keepIn K (.ref (He.ga K "gap_at")) = true := kp_of T.d_gap_at
theorem ok_gap_at (T : Tx K mg) : FnR P w K mg base CX0 2 (He.ga K "gap_at") (sp_gap_at K) := by
  refine mk0 T.d_gap_at sc_gap_at (fun _ _ _ _ _ _ us hl => match us, hl with | [_, _, _, _], _ => rfl) (fun vs H Q E h => ?_) (fun cdv A outer s H vs Q E hr h => ?_)
  · obtain ⟨s, n, M, c, r, rfl, _⟩ := h
    rfl
  · obtain ⟨s, n, M, c, r, rfl, hn, hout, hs, k⟩ := h
    refine ⟨_, (pss_cons (ps_if (pt_cmpR op_eq (pv 0) pe_str (nomark _)) (pss_one (ps_ret (pe_callR (ok_mask_gap T) (hr.mono (by decide)) rfl T.g_mask_gap (kp_mask_gap T) pass0 (pa_cons (pv 1) (pa_cons (pv 2) (pa_cons (pv 3) pa_nil)))))) pss_nil)
      (pss_cons (ps_if (pt_val (pe_callR (ok_has_outside T) (hr.mono (by decide)) rfl T.g_has_outside (kp_has_outside T) pass0 (pa_cons (pv 0) (pa_cons (pv 1) (pa_cons (pv 2) pa_nil))))) (pss_cons (ps_if (pt_cmpR op_ge (pv 3) (pe_op op_mul pe_int (pv 1)) (nomark _)) (pss_one (ps_ret pe_non)) pss_nil)
      (pss_one (ps_ret (pe_ix ix_list (pe_lst (pa_cons (pv 1) (pa_cons (pe_op op_sub (pv 2) (pv 1)) pa_nil))) (pe_op op_fdivW (pv 3) (pv 1)) (fun _ _ => rfl))))) pss_nil)
      (pss_cons (ps_if (pt_cmpR op_lt (pe_op op_add (pv 3) (pv 1)) (pv 2) (nomark _)) (pss_one (ps_ret (pv 1))) pss_nil)
      (pss_one (ps_ret (pe_op op_add (pe_op op_sub (pv 2) (pv 3)) (pe_op op_modN (pv 3) (pv 1)))))))), r_start (σ := [some (.str s.s), some (.int n), some (.int M), some (.int c)]) rfl ?_⟩
    walk_at "rd"
    rw [sl_mask]
    rcases hs with ⟨rfl, rfl, w, rfl, rfl⟩ | ⟨hs, rfl⟩
    · refine itet rfl ?_
      walk_at "rd"
      exact ⟨n, w, rfl, hn, k⟩
    · refine itef (decide_eq_false hs) ?_
      walk_at "rd"
      refine ⟨s, n, M, rfl, ?_⟩
      rw [hout]
      walk_at "rd"
      refine ite2 (fun h1 => ?_) (fun h1 => ?_)
      · have h2 : c + n < M := by simpa using h1
        walk_at "rd"
        rw [if_pos h2] at k
        exact k
      · have h2 : ¬ c + n < M := by simpa using h1
        walk_at "rd"
        refine r_i (by omega) ?_
        walk_at "rd"
        rw [if_neg h2] at k
        rw [fmod_pos (by omega)]
        exact k
theorem mask_wid {s : Sl} {x : Wr} (h : slOk s x = true) (e : s = .mask) : ∃ w, x = .wid w := by
  subst e
  cases x with
  | wid w => exact ⟨w, rfl⟩
  | frm a b => exact Bool.noConfusion (show false = true from h)
theorem win_out {s : Sl} {x : Wr} {n : Int} (hk : slOk s x = true) (h : isOut s n (modu x n) = true) : win s x n = 0 := by
  cases s with
  | mask => exact absurd h (by simp [isOut])
  | rest => exact absurd h (by simp [isOut])
  | off => cases x <;> exact if_pos h
theorem win_plain {s : Sl} {x : Wr} {n : Int} (hs : s ≠ .mask) (h : isOut s n (modu x n) = false) : win s x n = if modu x n % n = 0 then n else modu x n % n := by
  have h2 : ¬ isOut s n (modu x n) = true := by rw [h]; decide
  cases s with
  | mask => exact absurd rfl hs
  | rest => cases x <;> exact (if_neg h2 : (if isOut Sl.rest n (modu _ n) = true then (0 : Int) else if modu _ n % n = 0 then n else modu _ n % n) = _)
  | off => cases x <;> exact (if_neg h2 : (if isOut Sl.off n (modu _ n) = true then (0 : Int) else if modu _ n % n = 0 then n else modu _ n % n) = _)
theorem win_mask {w n : Int} : win .mask (.wid w) n = winm n.toNat w.toNat := rfl
/-- a counter and its gap, told -/
def sp_alike_at (K : Fr) : Sp := fun vs H Q _ => ∃ (s : Sl) (x : Wr) (n : Int), vs = [.str s.s, .int n, .int (modu x n)] ∧ slOk s x = true ∧ 1 ≤ n ∧ 1 ≤ modu x n ∧
  (isOut s n (modu x n) = true → Q .non H) ∧
  (isOut s n (modu x n) = false → ∀ p c H', Same H H' → 0 ≤ c → c ≤ modu x n → H' p = some (.tup [.int c, .int (win s x n)]) → Q (.ref p) H')
abbrev n_alike_at : List Str := ["rule", "n", "modulus", "c"]
theorem sc_alike_at : FnScope n_alike_at ["rule", "n", "modulus"] (defScope s_alike_at) := ⟨rfl, rfl, rfl, by decide +kernel, rfl, by decide +kernel, by decide +kernel⟩
theorem kp_alike_at (T : Tx K mg) : PySem.W.keepIn K (.ref (He.ga K "alike_at")) = true := kp_of T.d_alike_at
theorem ok_alike_at (T : Tx K mg) : FnR P w K mg base CX0 3 (He.ga K "alike_at") (sp_alike_at K) := by
  refine mk0 T.d_alike_at sc_alike_at (fun _ _ _ _ _ _ us hl => match us, hl with | [_, _, _], _ => rfl) (fun vs H Q E h => ?_) (fun cdv A outer s H vs Q E hr h => ?_)
  · obtain ⟨s, x, n, rfl, _⟩ := h
    rfl
  · obtain ⟨s, x, n, rfl, hk, hn, hM, k1, k2⟩ := h
    refine ⟨_, (pss_cons (ps_if (pt_val (pe_callR (ok_has_outside T) (hr.mono (by decide)) rfl T.g_has_outside (kp_has_outside T) pass0 (pa_cons (pv 0) (pa_cons (pv 1) (pa_cons (pv 2) pa_nil))))) (pss_one (ps_ret pe_non)) pss_nil)
      (pss_cons (ps_set (i := 3) sc_alike_at.nd rfl (Or.inl rfl) pe_int)
      (pss_cons (ps_if (PW.pt (pw_and (pt_cmpR op_ne (pv 0) pe_str (nomark _)) (pw_and (pt_cmpR op_gt (pv 2) (pv 1) (nomark _)) (pw_and1 (pt_cmpR op_gt (pe_op op_modN (pv 2) (pv 1)) pe_int (nomark _)))))) (pss_one (ps_set (i := 3) sc_alike_at.nd rfl (Or.inl rfl) (pe_op op_sub (pv 2) (pe_op op_modN (pv 2) (pv 1))))) pss_nil)
      (pss_one (ps_ret (pe_tup (pa_cons (pv 3) (pa_cons (pe_callR (ok_gap_at T) (hr.mono (by decide)) rfl T.g_gap_at (kp_gap_at T) pass0 (pa_cons (pv 0) (pa_cons (pv 1) (pa_cons (pv 2) (pa_cons (pv 3) pa_nil))))) pa_nil)))))))), r_start (σ := [some (.str s.s), some (.int n), some (.int (modu x n)), none]) rfl ?_⟩
    walk_at "rd"
    refine ⟨s, n, modu x n, rfl, ?_⟩
    by_cases hout : isOut s n (modu x n) = true
    · rw [hout]
      walk_at "rd"
      exact k1 hout
    · have hout : isOut s n (modu x n) = false := by simpa using hout
      rw [hout]
      walk_at "rd"
      rw [sl_mask]
      by_cases hs : s = .mask
      · obtain ⟨w, rfl⟩ := mask_wid hk hs
        subst hs
        refine itef (by decide) ?_
        walk_at "rd"
        refine ⟨.mask, n, modu (.wid w) n, 0, _, rfl, hn, hout, .inl ⟨rfl, rfl, w.toNat, rfl, rfl⟩, ?_⟩
        walk_at "rd"
        intro p np
        exact k2 hout p 0 _ (same_new np) (Int.le_refl _) (by omega) upd_same
      · refine itet (by rw [decide_eq_false hs]; rfl) ?_
        walk_at "rd"
        have h1 := Int.emod_nonneg (modu x n) (show n ≠ 0 by omega)
        have h2 := Int.emod_lt_of_pos (modu x n) (show 0 < n by omega)
        have fin : ∀ c : Int, c = (if n < modu x n ∧ 0 < modu x n % n then modu x n - modu x n % n else 0) → (if c + n < modu x n then n else modu x n - c + c % n) = win s x n := fun c hc => by
          rw [win_plain hs hout]
          exact gap_plain hn hM hc
        have bnd : modu x n % n ≤ modu x n := by
          by_cases q : modu x n < n
          · rw [Int.emod_eq_of_lt (by omega) q]
            omega
          · omega
        refine ite2 (fun h3 => ?_) (fun h3 => ?_)
        · have h3 : n < modu x n := by simpa using h3
          walk_at "rd"
          refine r_i (by omega) ?_
          walk_at "rd"
          rw [fmod_pos (by omega)]
          refine ite2 (fun h4 => ?_) (fun h4 => ?_)
          · have h4 : 0 < modu x n % n := by simpa using h4
            walk_at "rd"
            refine r_i (by omega) ?_
            walk_at "rd"
            rw [fmod_pos (by omega)]
            refine ⟨s, n, modu x n, _, _, rfl, hn, hout, .inr ⟨hs, rfl⟩, ?_⟩
            walk_at "rd"
            intro p np
            refine k2 hout p (modu x n - modu x n % n) _ (same_new np) (by omega) (by omega) ?_
            rw [fin _ (by rw [if_pos ⟨h3, h4⟩])]
            exact upd_same
          · have h4 : ¬ 0 < modu x n % n := by simpa using h4
            walk_at "rd"
            refine ⟨s, n, modu x n, _, _, rfl, hn, hout, .inr ⟨hs, rfl⟩, ?_⟩
            walk_at "rd"
            intro p np
            refine k2 hout p 0 _ (same_new np) (by omega) (by omega) ?_
            rw [fin _ (by rw [if_neg fun z => h4 z.2])]
            exact upd_same
        · have h3 : ¬ n < modu x n := by simpa using h3
          walk_at "rd"
          refine ⟨s, n, modu x n, _, _, rfl, hn, hout, .inr ⟨hs, rfl⟩, ?_⟩
          walk_at "rd"
          intro p np
          refine k2 hout p 0 _ (same_new np) (by omega) (by omega) ?_
          rw [fin _ (by rw [if_neg fun z => h3 z.1])]
          exact upd_same
def sp_window_at (K : Fr) : Sp := fun vs H Q _ => ∃ (s : Sl) (x : Wr) (n : Int), vs = [.str s.s, .int n, .int (modu x n)] ∧ slOk s x = true ∧ 1 ≤ n ∧ 1 ≤ modu x n ∧ ∀ H', Same H H' → Q (.int (win s x n)) H'
abbrev n_window_at : List Str := ["rule", "n", "modulus", "found"]
theorem sc_window_at : FnScope n_window_at ["rule", "n", "modulus"] (defScope s_window_at) := ⟨rfl, rfl, rfl, by decide +kernel, rfl, by decide +kernel, by decide +kernel⟩
theorem kp_window_at (T : Tx K mg) : PySem.W.keepIn K (.ref (He.ga K "window_at")) = true := kp_of T.d_window_at
theorem ok_window_at (T : Tx K mg) : FnR P w K mg base CX0 4 (He.ga K "window_at") (sp_window_at K) := by
  refine mk0 T.d_window_at sc_window_at (fun _ _ _ _ _ _ us hl => match us, hl with | [_, _, _], _ => rfl) (fun vs H Q E h => ?_) (fun cdv A outer s H vs Q E hr h => ?_)
  · obtain ⟨s, x, n, rfl, _⟩ := h
    rfl
  · obtain ⟨s, x, n, rfl, hk, hn, hM, k⟩ := h
    refine ⟨_, (pss_cons (ps_set (i := 3) sc_window_at.nd rfl (Or.inl rfl) (pe_callR (ok_alike_at T) (hr.mono (by decide)) rfl T.g_alike_at (kp_alike_at T) pass0 (pa_cons (pv 0) (pa_cons (pv 1) (pa_cons (pv 2) pa_nil)))))
      (pss_cons (ps_if (pt_cmpR op_isN (pv 3) pe_non (nomark _)) (pss_one (ps_ret pe_int)) pss_nil)
      (pss_one (ps_ret (pe_ix ix_tup (pv 3) pe_int (fun _ _ => rfl)))))), r_start (σ := [some (.str s.s), some (.int n), some (.int (modu x n)), none]) rfl ?_⟩
    walk_at "rd"
    refine ⟨s, x, n, rfl, hk, hn, hM, fun hout => ?_, fun hout p c H' e _ _ hp => ?_⟩
    · walk_at "rd"
      refine itet (by decide) ?_
      walk_at "rd"
      rw [← win_out hk hout]
      exact k _ (Same.refl _)
    · walk_at "rd"
      refine itef (by exact decide_eq_false fun z => by cases z) ?_
      walk_at "rd"
      refine r_ixT (SqT.of hp) (v := .int (win s x n)) (by rfl) ?_
      exact k _ e
end
end Ls
namespace Ls
open PySem PySem.Spec PyProof.Rows L2
def optV : Option Int → V
  | none => .non
  | some x => .int x
theorem wh_over (h : Wh) : decide (V.str h.s = V.str "over") = decide (h = .over) := by cases h <;> decide +kernel
theorem em_same (e : Em) : decide (V.str e.s = V.str "same") = decide (e = .same) := by cases e <;> decide +kernel
theorem op_ge_ (o : Op) : decide (V.str o.s = V.str ">=") = decide (o = .ge) := by cases o <;> decide +kernel
theorem op_eq_ (o : Op) : decide (V.str o.s = V.str "=") = decide (o = .eq) := by cases o <;> decide +kernel
theorem put1 {j k : Str} {v y : V} {r : List (Str × V)} (h : ¬ k = j) : putF j y ((k, v) :: r) = (k, v) :: putF j y r := by
  show (if k = j then _ else _) = _
  rw [if_neg h]
theorem put0 {j : Str} {y : V} : putF j y [] = [(j, y)] := rfl
section
variable {P : Program} {w : World} {K : Fr} {mg : Str → Option Value} {base : Heap}
/-! ### a form is made -/
abbrev n_Form_init : List Str := ["self", "slope", "base"]
theorem sc_Form_init : FnScope n_Form_init ["self", "slope", "base"] (defScope s_Form_init) := ⟨rfl, rfl, rfl, by decide +kernel, rfl, by decide +kernel, by decide +kernel⟩
theorem ok_Form_init (T : Tx K mg) : FnR P w K mg base CX0 2 (He.ma K (He.ga K "Form") "__init__") (sp_Form_init K) := by
  refine mk0 T.d_Form_init sc_Form_init (fun _ _ _ _ _ _ us hl => match us, hl with | [_, _, _], _ => rfl) (fun vs H Q E h => ?_) (fun cdv A outer s H vs Q E hr h => ?_)
  · obtain ⟨p, dx, a, b, rfl, _⟩ := h
    rfl
  · obtain ⟨p, dx, a, b, rfl, hp, k⟩ := h
    refine ⟨_, (pss_cons (ps_if (PW.pt (pw_or (pt_not (pt_val (pe_callR (ok_is_whole T) (hr.mono (by decide)) rfl T.g_is_whole (kp_is_whole T) pass0 (pa_cons (pv 1) pa_nil)))) (pw_or1 (pt_not (pt_val (pe_callR (ok_is_whole T) (hr.mono (by decide)) rfl T.g_is_whole (kp_is_whole T) pass0 (pa_cons (pv 2) pa_nil))))))) (pss_one ps_never) pss_nil)
      (pss_cons (ps_fld (pv 0) (pv 1) rfl)
      (pss_one (ps_fld (pv 0) (pv 2) rfl)))), r_start (σ := [some (.ref p), some (.int a), some (.int b)]) rfl ?_⟩
    walk_at "rd"
    refine ⟨_, true, rfl, .inl ⟨a, rfl, rfl⟩, ?_⟩
    walk_at "rd"
    refine ⟨_, true, rfl, .inl ⟨b, rfl, rfl⟩, ?_⟩
    walk_at "rd"
    refine ⟨p, _, dx, [], rfl, hp, T.c_Form, T.n_Form_slope, (by show 0 < 1000; decide), ?_⟩
    walk_at "rd"
    refine ⟨p, _, dx, _, rfl, upd_same, T.c_Form, T.n_Form_base, (by show 1 < 1000; decide), ?_⟩
    rw [put0, put1 (by decide +kernel), put0]
    exact k _ ⟨dx, upd_same⟩ fun c o e hc => by rw [upd_ne hc, upd_ne hc]; exact e
/-- Form(a, b) -/
theorem mk_form {C : Addr} {H : Hp} {Q : VK} {E : XK} {a b : Int} (hC : C = He.ga K "Form")
    (k : ∀ p H', Same H H' → H p = none → FormAt K H' p a b → Q (.ref p) H') (x dx : Addr) (nx : H x = none) (nd : H dx = none) (ne : dx ≠ x) :
    sp_Form_init K (.ref x :: [.int a, .int b]) (upd (upd H dx (.own x)) x (.ins C dx [])) (fun v H2 => v = .non ∧ Q (.ref x) H2) E := by
  subst hC
  exact ⟨x, dx, a, b, rfl, upd_same, fun H' hf kp => ⟨rfl, k x H' (Same.made nx nd kp) nx hf⟩⟩
/-! ### room_at -/
def sp_room_at (K : Fr) : Sp := fun vs H Q _ => ∃ (v : V) (f : Fu) (h : Wh) (n M : Int), vs = [v, .str h.s, .int n, .int M] ∧ PFu K H v f ∧ f.ok ∧ ∀ H', Same H H' → Q (optV (room f h n M)) H'
theorem room_over {f : Fu} {n M : Int} : room f .over n M = none := rfl
theorem room_next {h : Wh} {n M : Int} (e : h ≠ .over) : room .next h n M = some (M - 1) := by cases h <;> first | rfl | exact absurd rfl e
theorem room_note {h : Wh} {n M : Int} (e : h ≠ .over) : room .note h n M = some M := by cases h <;> first | rfl | exact absurd rfl e
theorem room_diff {h : Wh} {o : Op} {a b n M : Int} (e : h ≠ .over) : room (.diff o a b) h n M = lim o true (a * n + b) M := by cases h <;> first | rfl | exact absurd rfl e
theorem room_count {h : Wh} {o : Op} {a b n M : Int} (e : h ≠ .over) : room (.count o a b) h n M = lim o false (a * n + b) M := by cases h <;> first | rfl | exact absurd rfl e
theorem room_cases {H : Hp} {v : V} {f : Fu} {h : Wh} {n M : Int} (hv : PFu K H v f) (ho : f.ok) (hh : h ≠ .over) :
    (∃ p, v = .ref p ∧ H p = some (.tup [.str "next"]) ∧ f = .next) ∨ (∃ p, v = .ref p ∧ H p = some (.tup [.str "note"]) ∧ f = .note) ∨
    (∃ (p q : Addr) (x : Str) (o : Op) (a b : Int) (d : Bool), v = .ref p ∧ H p = some (.tup [.str x, .str o.s, .ref q]) ∧ FormAt K H q a b ∧ ((0 ≤ a ∧ a ≤ 4) ∧ (-20 ≤ b ∧ b ≤ 20)) ∧
      decide (V.str x = V.str "next") = false ∧ decide (V.str x = V.str "note") = false ∧ decide (V.str x = V.str "diff") = d ∧ room f h n M = lim o d (a * n + b) M) := by
  cases f with
  | next => obtain ⟨p, e, hp⟩ := hv; exact .inl ⟨p, e, hp, rfl⟩
  | note => obtain ⟨p, e, hp⟩ := hv; exact .inr (.inl ⟨p, e, hp, rfl⟩)
  | diff o a b => obtain ⟨p, q, e, hp, hf⟩ := hv; exact .inr (.inr ⟨p, q, _, o, a, b, true, e, hp, hf, ho, by decide +kernel, by decide +kernel, by decide +kernel, room_diff hh⟩)
  | count o a b => obtain ⟨p, q, e, hp, hf⟩ := hv; exact .inr (.inr ⟨p, q, _, o, a, b, false, e, hp, hf, ho, by decide +kernel, by decide +kernel, by decide +kernel, room_count hh⟩)
abbrev n_room_at : List Str := ["full", "when", "n", "modulus", "limit"]
theorem sc_room_at : FnScope n_room_at ["full", "when", "n", "modulus"] (defScope s_room_at) := ⟨rfl, rfl, rfl, by decide +kernel, rfl, by decide +kernel, by decide +kernel⟩
theorem kp_room_at (T : Tx K mg) : PySem.W.keepIn K (.ref (He.ga K "room_at")) = true := kp_of T.d_room_at
theorem ok_room_at (T : Tx K mg) : FnR P w K mg base CX0 3 (He.ga K "room_at") (sp_room_at K) := by
  refine mk0 T.d_room_at sc_room_at (fun _ _ _ _ _ _ us hl => match us, hl with | [_, _, _, _], _ => rfl) (fun vs H Q E h => ?_) (fun cdv A outer s H vs Q E hr h => ?_)
  · obtain ⟨v, f, h, n, M, rfl, _⟩ := h
    rfl
  · obtain ⟨v, f, h, n, M, rfl, hv, ho, k⟩ := h
    refine ⟨_, (pss_cons (ps_if (pt_cmpR op_eq (pv 1) pe_str (nomark _)) (pss_one (ps_ret pe_non)) pss_nil)
      (pss_cons (ps_if (pt_cmpR op_eq (pe_ix ix_tup (pv 0) pe_int (fun _ _ => rfl)) pe_str (nomark _)) (pss_one (ps_ret (pe_op op_sub (pv 3) pe_int))) pss_nil)
      (pss_cons (ps_if (pt_cmpR op_eq (pe_ix ix_tup (pv 0) pe_int (fun _ _ => rfl)) pe_str (nomark _)) (pss_one (ps_ret (pv 3))) pss_nil)
      (pss_cons (ps_set (i := 4) sc_room_at.nd rfl (Or.inl rfl) (pe_callR (ok_modulus_at T) (hr.mono (by decide)) rfl T.g_modulus_at (kp_modulus_at T) pass0 (pa_cons (pe_ix ix_tup (pv 0) pe_int (fun _ _ => rfl)) (pa_cons (pv 2) pa_nil))))
      (pss_cons (ps_if (pt_cmpR op_lt (pv 4) pe_int (nomark _)) (pss_one (ps_ret (pe_ix ix_list (pe_lst (pa_cons pe_non (pa_cons pe_int pa_nil))) (pe_callTy call_int1 (by rfl) T.f_int (by decide +kernel) (pa_cons (pe_cmpR op_eq (pe_ix ix_tup (pv 0) pe_int (fun _ _ => rfl)) pe_str (nomark _)) pa_nil)) (fun _ _ => rfl)))) pss_nil)
      (pss_cons (ps_if (PW.pt (pw_and (pt_cmpR op_eq (pe_ix ix_tup (pv 0) pe_int (fun _ _ => rfl)) pe_str (nomark _)) (pw_and1 (pt_cmpR op_ge (pv 4) (pv 3) (nomark _))))) (pss_one (ps_ret pe_non)) pss_nil)
      (pss_one (ps_ret (pv 4))))))))), r_start (σ := [some v, some (.str h.s), some (.int n), some (.int M), none]) rfl ?_⟩
    walk_at "rd"
    rw [wh_over]
    by_cases hh : h = .over
    · refine itet (decide_eq_true hh) ?_
      walk_at "rd"
      subst hh
      exact k _ (Same.refl _)
    · refine itef (decide_eq_false hh) ?_
      walk_at "rd"
      rcases room_cases hv ho (n := n) (M := M) hh with ⟨p, rfl, hp, rfl⟩ | ⟨p, rfl, hp, rfl⟩ | ⟨p, q, x, o, a, b, d, rfl, hp, hf, hab, e1, e2, e3, er⟩
      · refine r_ixT (SqT.of hp) (v := .str "next") (by rfl) ?_
        walk_at "rd"
        refine itet (by decide +kernel) ?_
        walk_at "rd"
        rw [room_next hh] at k
        exact k _ (Same.refl _)
      · refine r_ixT (SqT.of hp) (v := .str "note") (by rfl) ?_
        walk_at "rd"
        refine itef (by decide +kernel) ?_
        walk_at "rd"
        refine r_ixT (SqT.of hp) (v := .str "note") (by rfl) ?_
        walk_at "rd"
        refine itet (by decide +kernel) ?_
        walk_at "rd"
        rw [room_note hh] at k
        exact k _ (Same.refl _)
      · rw [er] at k
        refine r_ixT (SqT.of hp) (v := .str x) (by rfl) ?_
        walk_at "rd"
        refine itef e1 ?_
        walk_at "rd"
        refine r_ixT (SqT.of hp) (v := .str x) (by rfl) ?_
        walk_at "rd"
        refine itef e2 ?_
        walk_at "rd"
        refine r_ixT (SqT.of hp) (v := .ref q) (by rfl) ?_
        walk_at "rd"
        refine ⟨_, .frm a b, n, rfl, ⟨q, rfl, hf⟩, hab, ?_⟩
        walk_at "rd"
        unfold lim at k
        refine ite2 (fun h1 => ?_) (fun h1 => ?_)
        · have h1 : a * n + b < 0 := of_decide_eq_true h1
          rw [if_pos h1] at k
          walk_at "rd"
          intro l nl
          have e4 := same_new (H := H) (o := .lst [.non, .int 0]) nl
          walk_at "rd"
          refine r_ixT (SqT.of (e4 _ _ hp)) (v := .str o.s) (by rfl) ?_
          walk_at "rd"
          rw [op_ge_]
          cases o with
          | eq =>
            refine r_ixL (SqL.of upd_same) (v := .non) (by rfl) ?_
            exact k _ e4
          | ge =>
            refine r_ixL (SqL.of upd_same) (v := .int 0) (by rfl) ?_
            exact k _ e4
        · have h1 : ¬ a * n + b < 0 := fun z => h1 (decide_eq_true z)
          rw [if_neg h1] at k
          walk_at "rd"
          refine r_ixT (SqT.of hp) (v := .str x) (by rfl) ?_
          walk_at "rd"
          rw [e3]
          cases d with
          | false =>
            walk_at "rd"
            exact k _ (Same.refl _)
          | true =>
            walk_at "rd"
            refine ite2 (fun h2 => ?_) (fun h2 => ?_)
            · walk_at "rd"
              have h2 : M ≤ a * n + b := of_decide_eq_true h2
              rw [if_pos (by rw [decide_eq_true h2]; rfl)] at k
              exact k _ (Same.refl _)
            · walk_at "rd"
              have h2 : ¬ M ≤ a * n + b := fun z => h2 (decide_eq_true z)
              rw [if_neg (by rw [decide_eq_false h2]; decide)] at k
              exact k _ (Same.refl _)
end
end Ls
namespace Ls
open PySem PySem.Spec PyProof.Rows L2
section
variable {P : Program} {w : World} {K : Fr} {mg : Str → Option Value} {base : Heap}
/-! ### the properties of a scheme -/
theorem mk_getter {x qual f : Str} {params : Arguments} {body : List Stmt} {scope : Scope} {kws : List (Str × V)} {g C : Addr} {N : List Str} {p1 p2 p3 : Pos}
    (F : ∃ fd, FunD K x qual params body scope [] kws g fd) (S : FnScope N ["self"] scope) (hN : N[0]? = some ("self" : Str)) (hb : body = [.Return (some (.Attribute (.Name "self" p1) f p2)) p3])
    (c : Cls K C) (n : NoAttr K C f)
    (hu : ∀ (kV doc pm : Value) (an : Option Addr) (cdv ct : Value) (us : List Value), us.length = ["self"].length →
      bindArgs (PySem.W.fnOf x qual params body scope .none kV doc pm an cdv ct) ⟨us, []⟩ = pure ((["self"] : List Str).zip us)) :
    ∃ fd, FnOk P w K mg base CX0 1 g fd ["self"] (getSp C f) ∧ Binds K fd ["self"] [] := by
  obtain ⟨fd, F⟩ := F
  have B := F.bindsN (ps := ["self"]) hu
  obtain ⟨oc, od, dV, kV, doc, pm, an, cdv, ct, osl, rfl, lk, hcd, _, _⟩ := F.ex
  exact ⟨_, fn_getter lk hcd S hN hb c n, B⟩
abbrev n_Scheme_wrap : List Str := ["self"]
theorem sc_Scheme_wrap : FnScope n_Scheme_wrap ["self"] (defScope s_Scheme_wrap) := ⟨rfl, rfl, rfl, by decide +kernel, rfl, by decide +kernel, by decide +kernel⟩
abbrev n_Scheme_slot : List Str := ["self"]
theorem sc_Scheme_slot : FnScope n_Scheme_slot ["self"] (defScope s_Scheme_slot) := ⟨rfl, rfl, rfl, by decide +kernel, rfl, by decide +kernel, by decide +kernel⟩
abbrev n_Scheme_empty : List Str := ["self"]
theorem sc_Scheme_empty : FnScope n_Scheme_empty ["self"] (defScope s_Scheme_empty) := ⟨rfl, rfl, rfl, by decide +kernel, rfl, by decide +kernel, by decide +kernel⟩
abbrev n_Scheme_full : List Str := ["self"]
theorem sc_Scheme_full : FnScope n_Scheme_full ["self"] (defScope s_Scheme_full) := ⟨rfl, rfl, rfl, by decide +kernel, rfl, by decide +kernel, by decide +kernel⟩
abbrev n_Scheme_when : List Str := ["self"]
theorem sc_Scheme_when : FnScope n_Scheme_when ["self"] (defScope s_Scheme_when) := ⟨rfl, rfl, rfl, by decide +kernel, rfl, by decide +kernel, by decide +kernel⟩
theorem ok_Scheme_wrap (T : Tx K mg) : ∃ fd, FnOk P w K mg base CX0 1 (getterAt K (He.ma K (He.ga K "Scheme") "wrap")) fd ["self"] (getSp (He.ga K "Scheme") "own_wrap") ∧ Binds K fd ["self"] [] :=
  mk_getter T.d_Scheme_wrap sc_Scheme_wrap rfl rfl T.c_Scheme T.n_Scheme_own_wrap fun _ _ _ _ _ _ us hl => match us, hl with | [_], _ => rfl
theorem ok_Scheme_slot (T : Tx K mg) : ∃ fd, FnOk P w K mg base CX0 1 (getterAt K (He.ma K (He.ga K "Scheme") "slot")) fd ["self"] (getSp (He.ga K "Scheme") "own_slot") ∧ Binds K fd ["self"] [] :=
  mk_getter T.d_Scheme_slot sc_Scheme_slot rfl rfl T.c_Scheme T.n_Scheme_own_slot fun _ _ _ _ _ _ us hl => match us, hl with | [_], _ => rfl
theorem ok_Scheme_empty (T : Tx K mg) : ∃ fd, FnOk P w K mg base CX0 1 (getterAt K (He.ma K (He.ga K "Scheme") "empty")) fd ["self"] (getSp (He.ga K "Scheme") "own_empty") ∧ Binds K fd ["self"] [] :=
  mk_getter T.d_Scheme_empty sc_Scheme_empty rfl rfl T.c_Scheme T.n_Scheme_own_empty fun _ _ _ _ _ _ us hl => match us, hl with | [_], _ => rfl
theorem ok_Scheme_full (T : Tx K mg) : ∃ fd, FnOk P w K mg base CX0 1 (getterAt K (He.ma K (He.ga K "Scheme") "full")) fd ["self"] (getSp (He.ga K "Scheme") "own_full") ∧ Binds K fd ["self"] [] :=
  mk_getter T.d_Scheme_full sc_Scheme_full rfl rfl T.c_Scheme T.n_Scheme_own_full fun _ _ _ _ _ _ us hl => match us, hl with | [_], _ => rfl
theorem ok_Scheme_when (T : Tx K mg) : ∃ fd, FnOk P w K mg base CX0 1 (getterAt K (He.ma K (He.ga K "Scheme") "when")) fd ["self"] (getSp (He.ga K "Scheme") "own_when") ∧ Binds K fd ["self"] [] :=
  mk_getter T.d_Scheme_when sc_Scheme_when rfl rfl T.c_Scheme T.n_Scheme_own_when fun _ _ _ _ _ _ us hl => match us, hl with | [_], _ => rfl
theorem exP (T : Tx K mg) : propB K "Scheme" "wrap" = true ∧ propB K "Scheme" "slot" = true ∧ propB K "Scheme" "empty" = true ∧ propB K "Scheme" "full" = true ∧ propB K "Scheme" "when" = true := by
  have h := T.ex
  unfold exAll at h
  simp only [Bool.and_eq_true] at h
  exact ⟨h.1, h.2.1, h.2.2.1, h.2.2.2.1, h.2.2.2.2.1⟩
theorem p_wrap (T : Tx K mg) : PropOf K (He.ga K "Scheme") "wrap" (He.ma K (He.ga K "Scheme") "wrap") (getterAt K (He.ma K (He.ga K "Scheme") "wrap")) := propB_ok (exP T).1
theorem p_slot (T : Tx K mg) : PropOf K (He.ga K "Scheme") "slot" (He.ma K (He.ga K "Scheme") "slot") (getterAt K (He.ma K (He.ga K "Scheme") "slot")) := propB_ok (exP T).2.1
theorem p_empty (T : Tx K mg) : PropOf K (He.ga K "Scheme") "empty" (He.ma K (He.ga K "Scheme") "empty") (getterAt K (He.ma K (He.ga K "Scheme") "empty")) := propB_ok (exP T).2.2.1
theorem p_full (T : Tx K mg) : PropOf K (He.ga K "Scheme") "full" (He.ma K (He.ga K "Scheme") "full") (getterAt K (He.ma K (He.ga K "Scheme") "full")) := propB_ok (exP T).2.2.2.1
theorem p_when (T : Tx K mg) : PropOf K (He.ga K "Scheme") "when" (He.ma K (He.ga K "Scheme") "when") (getterAt K (He.ma K (He.ga K "Scheme") "when")) := propB_ok (exP T).2.2.2.2
section
variable {wv fv : V} {s : Sl} {e : Em} {h : Wh}
theorem sf_wrap : (sfs wv s e fv h).lookup ("own_wrap" : Str) = some wv := lk0
theorem sf_slot : (sfs wv s e fv h).lookup ("own_slot" : Str) = some (.str s.s) := (lk1 (by decide +kernel)).trans lk0
theorem sf_empty : (sfs wv s e fv h).lookup ("own_empty" : Str) = some (.str e.s) := (lk1 (by decide +kernel)).trans ((lk1 (by decide +kernel)).trans lk0)
theorem sf_full : (sfs wv s e fv h).lookup ("own_full" : Str) = some fv := (lk1 (by decide +kernel)).trans ((lk1 (by decide +kernel)).trans ((lk1 (by decide +kernel)).trans lk0))
theorem sf_when : (sfs wv s e fv h).lookup ("own_when" : Str) = some (.str h.s) := (lk1 (by decide +kernel)).trans ((lk1 (by decide +kernel)).trans ((lk1 (by decide +kernel)).trans ((lk1 (by decide +kernel)).trans lk0)))
end
/-- what a getter asks -/
theorem r_get {C a dx : Addr} {fs : List (Str × V)} {f : Str} {v : V} {H : Hp} {Q : VK} {E : XK} (hp : H a = some (.ins C dx fs)) (l : fs.lookup f = some v) (q : Q v H) :
    ∃ a' dx' fs', V.ref a = .ref a' ∧ H a' = some (.ins C dx' fs') ∧ getSp C f (.ref a' :: []) H Q E := ⟨a, dx, fs, rfl, hp, a, dx, fs, v, rfl, hp, l, q⟩
/-! ### cause_at -/
theorem above_opt {r : Option Int} {x : Int} {Q : Bool → Prop} (k : Q (above r x)) :
    if decide (optV r = V.non) = true then Q true else (∃ i : Int, optV r = .int i ∧ Q (decide (x < i))) := by
  cases r with
  | none => exact itet (by decide) k
  | some i => exact itef (decide_eq_false fun z => by cases z) ⟨i, rfl, k⟩
theorem opt_zero (r : Option Int) : scal (optV r) (.int 0) = true ∧ decide (optV r = V.int 0) = decide (r = some 0) := by
  cases r with
  | none => exact ⟨rfl, by decide⟩
  | some i => exact ⟨rfl, by rw [show optV (some i) = V.int i from rfl, dec_int']; by_cases h : i = 0 <;> simp [h]⟩
def sp_cause_at (K : Fr) : Sp := fun vs H Q _ => ∃ (p : Addr) (s : Sc) (n : Int), vs = [.ref p, .int n, .int (modu s.wrap n)] ∧ ScAt K H p s ∧ s.ok ∧ 1 ≤ n ∧ ∀ H', Same H H' → Q (.str (cause s n).s) H'
abbrev n_cause_at : List Str := ["scheme", "n", "modulus", "room"]
theorem sc_cause_at : FnScope n_cause_at ["scheme", "n", "modulus"] (defScope s_cause_at) := ⟨rfl, rfl, rfl, by decide +kernel, rfl, by decide +kernel, by decide +kernel⟩
theorem kp_cause_at (T : Tx K mg) : PySem.W.keepIn K (.ref (He.ga K "cause_at")) = true := kp_of T.d_cause_at
theorem ok_cause_at (T : Tx K mg) : FnR P w K mg base CX0 5 (He.ga K "cause_at") (sp_cause_at K) := by
  refine mk0 T.d_cause_at sc_cause_at (fun _ _ _ _ _ _ us hl => match us, hl with | [_, _, _], _ => rfl) (fun vs H Q E h => ?_) (fun cdv A outer s H vs Q E hr h => ?_)
  · obtain ⟨p, s, n, rfl, _⟩ := h
    rfl
  · obtain ⟨p, s, n, rfl, hp, hok, hn, k⟩ := h
    obtain ⟨dx, wv, fv, hp, hwv, hfv⟩ := hp
    refine ⟨_, (pss_cons (ps_if (pt_cmpR op_lt (pv 2) pe_int (nomark _)) (pss_one (ps_ret pe_str)) pss_nil)
      (pss_cons (ps_set (i := 3) sc_cause_at.nd rfl (Or.inl rfl) (pe_callR (ok_room_at T) (hr.mono (by decide)) rfl T.g_room_at (kp_room_at T) pass0 (pa_cons (pe_prop (pv 0) T.c_Scheme (p_full T) (ok_Scheme_full T).choose_spec.1 (hr.mono (by decide)) (ok_Scheme_full T).choose_spec.2 .nil pass0 rfl) (pa_cons (pe_prop (pv 0) T.c_Scheme (p_when T) (ok_Scheme_when T).choose_spec.1 (hr.mono (by decide)) (ok_Scheme_when T).choose_spec.2 .nil pass0 rfl) (pa_cons (pv 1) (pa_cons (pv 2) pa_nil))))))
      (pss_cons (ps_if (pt_cmpR op_eq (pv 3) pe_int (nomark _)) (pss_one (ps_ret pe_str)) pss_nil)
      (pss_cons (ps_if (pt_val (pe_callR (ok_has_outside T) (hr.mono (by decide)) rfl T.g_has_outside (kp_has_outside T) pass0 (pa_cons (pe_prop (pv 0) T.c_Scheme (p_slot T) (ok_Scheme_slot T).choose_spec.1 (hr.mono (by decide)) (ok_Scheme_slot T).choose_spec.2 .nil pass0 rfl) (pa_cons (pv 1) (pa_cons (pv 2) pa_nil))))) (pss_one (ps_ret pe_str)) pss_nil)
      (pss_cons (ps_if (PW.pt (pw_and (pt_cmpR op_eq (pe_prop (pv 0) T.c_Scheme (p_empty T) (ok_Scheme_empty T).choose_spec.1 (hr.mono (by decide)) (ok_Scheme_empty T).choose_spec.2 .nil pass0 rfl) pe_str (nomark _)) (pw_and1 (PW.pt (pw_or (pt_cmpR op_isN (pv 3) pe_non (nomark _)) (pw_or1 (pt_cmpR op_ge (pv 3) (pv 2) (nomark _)))))))) (pss_one (ps_ret pe_str)) pss_nil)
      (pss_cons (ps_if (PW.pt (pw_or (pt_cmpR op_isN (pv 3) pe_non (nomark _)) (pw_or1 (pt_cmpR op_gt (pv 3) (pe_callR (ok_window_at T) (hr.mono (by decide)) rfl T.g_window_at (kp_window_at T) pass0 (pa_cons (pe_prop (pv 0) T.c_Scheme (p_slot T) (ok_Scheme_slot T).choose_spec.1 (hr.mono (by decide)) (ok_Scheme_slot T).choose_spec.2 .nil pass0 rfl) (pa_cons (pv 1) (pa_cons (pv 2) pa_nil)))) (nomark _))))) (pss_one (ps_ret pe_str)) pss_nil)
      (pss_one (ps_ret pe_str)))))))), r_start (σ := [some (.ref p), some (.int n), some (.int (modu s.wrap n)), none]) rfl ?_⟩
    walk_at "rd"
    unfold cause at k
    refine ite2 (fun h1 => ?_) (fun h1 => ?_)
    · have h1 : modu s.wrap n < 1 := of_decide_eq_true h1
      simp only [if_pos h1] at k
      walk_at "rd"
      exact k _ (Same.refl _)
    · have h1 : ¬ modu s.wrap n < 1 := fun z => h1 (decide_eq_true z)
      simp only [if_neg h1] at k
      walk_at "rd"
      refine r_get hp sf_full ?_
      walk_at "rd"
      refine r_get hp sf_when ?_
      walk_at "rd"
      refine ⟨fv, s.full, s.when, n, modu s.wrap n, rfl, hfv, hok.full, fun H1 e1 => ?_⟩
      have hp1 := e1 _ _ hp
      walk_at "rd"
      generalize hr : room s.full s.when n (modu s.wrap n) = r at k ⊢
      obtain ⟨z1, z2⟩ := opt_zero r
      refine r_eq z1 ?_
      rw [z2]
      walk_at "rd"
      refine ite2 (fun h2 => ?_) (fun h2 => ?_)
      · have h2 : r = some 0 := of_decide_eq_true h2
        rw [if_pos h2] at k
        walk_at "rd"
        exact k _ e1
      · have h2 : ¬ r = some 0 := fun z => h2 (decide_eq_true z)
        rw [if_neg h2] at k
        walk_at "rd"
        refine r_get hp1 sf_slot ?_
        walk_at "rd"
        refine ⟨s.slot, n, modu s.wrap n, rfl, ?_⟩
        walk_at "rd"
        refine ite2 (fun h3 => ?_) (fun h3 => ?_)
        · rw [if_pos h3] at k
          walk_at "rd"
          exact k _ e1
        · rw [if_neg h3] at k
          walk_at "rd"
          refine r_get hp1 sf_empty ?_
          walk_at "rd"
          rw [em_same]
          cases r with
          | none =>
            by_cases h4 : s.empty = .same
            · refine itet (decide_eq_true h4) ?_
              walk_at "rd"
              refine itet (by decide) ?_
              walk_at "rd"
              rw [if_pos ⟨h4, rfl⟩] at k
              exact k _ e1
            · refine itef (decide_eq_false h4) ?_
              walk_at "rd"
              refine itet (by decide) ?_
              walk_at "rd"
              rw [if_neg fun z => h4 z.1, if_pos (show above none (win s.slot s.wrap n) = true from rfl)] at k
              exact k _ e1
          | some i =>
            have ea : ∀ x : Int, above (some i) x = decide (x < i) := fun _ => rfl
            have nn : decide (optV (some i) = V.non) = false := decide_eq_false fun z => by cases z
            show ite _ _ _
            rw [show optV (some i) = V.int i from rfl] at nn ⊢
            by_cases h4 : s.empty = .same ∧ modu s.wrap n ≤ i
            · refine itet (decide_eq_true h4.1) ?_
              walk_at "rd"
              refine itef nn ?_
              walk_at "rd"
              refine itet (decide_eq_true h4.2) ?_
              walk_at "rd"
              rw [if_pos ⟨h4.1, by rw [ea]; exact decide_eq_true (by omega)⟩] at k
              exact k _ e1
            · rw [if_neg fun z => h4 ⟨z.1, by have := z.2; rw [ea] at this; have := of_decide_eq_true this; omega⟩, ea] at k
              refine ite2 (fun h5 => ?_) (fun h5 => ?_)
              · have h5 := of_decide_eq_true h5
                walk_at "rd"
                refine itef nn ?_
                walk_at "rd"
                refine itef (decide_eq_false fun z => h4 ⟨h5, z⟩) ?_
                walk_at "rd"
                refine itef nn ?_
                walk_at "rd"
                refine r_get hp1 sf_slot ?_
                walk_at "rd"
                refine ⟨s.slot, s.wrap, n, rfl, hok.slot, hn, by omega, fun H2 e2 => ?_⟩
                walk_at "rd"
                refine ite2 (fun h6 => ?_) (fun h6 => ?_)
                · walk_at "rd"
                  rw [if_pos h6] at k
                  exact k _ (e1.trans e2)
                · walk_at "rd"
                  rw [if_neg h6] at k
                  exact k _ (e1.trans e2)
              · walk_at "rd"
                refine itef nn ?_
                walk_at "rd"
                refine r_get hp1 sf_slot ?_
                walk_at "rd"
                refine ⟨s.slot, s.wrap, n, rfl, hok.slot, hn, by omega, fun H2 e2 => ?_⟩
                walk_at "rd"
                refine ite2 (fun h6 => ?_) (fun h6 => ?_)
                · walk_at "rd"
                  rw [if_pos h6] at k
                  exact k _ (e1.trans e2)
                · walk_at "rd"
                  rw [if_neg h6] at k
                  exact k _ (e1.trans e2)
end
end Ls
namespace Ls
open PySem PySem.Spec PyProof.Rows L2
section
variable {P : Program} {w : World} {K : Fr} {mg : Str → Option Value} {base : Heap}
theorem w_WORDS (T : Tx K mg) (H : Hp) : SqT K H (He.ga K "WORDS") ((["put", "take", "pair"] : List Str).map V.str) := by
  have h := T.ex
  unfold exAll at h
  simp only [Bool.and_eq_true] at h
  exact He.tupB_ok h.2.2.2.2.2.2.2.2.2.1 H
theorem w_PARTS (T : Tx K mg) (H : Hp) : SqT K H (He.ga K "PARTS") ((["wrap", "slot", "empty", "full", "when"] : List Str).map V.str) := by
  have h := T.ex
  unfold exAll at h
  simp only [Bool.and_eq_true] at h
  exact He.tupB_ok h.2.2.2.2.2.2.2.2.1 H
/-! ### runs -/
def PcAt (H : Hp) (v : V) : Prop := ∃ (p : Addr) (t : Int) (x : Str), v = .ref p ∧ H p = some (.tup [.int t, .str x]) ∧ (0 ≤ t ∧ t ≤ 10000000000000000000000000000000000000000) ∧ x ∈ (["put", "take", "pair"] : List Str)
theorem PcAt.same {H H' : Hp} {v : V} (e : Same H H') (h : PcAt H v) : PcAt H' v := let ⟨p, t, x, a, b, c, d⟩ := h; ⟨p, t, x, a, e _ _ b, c, d⟩
def sp_is_piece (K : Fr) : Sp := fun vs H Q _ => ∃ v, vs = [v] ∧ PcAt H v ∧ Q (.bl true) H
abbrev n_is_piece : List Str := ["thing"]
theorem sc_is_piece : FnScope n_is_piece ["thing"] (defScope s_is_piece) := ⟨rfl, rfl, rfl, by decide +kernel, rfl, by decide +kernel, by decide +kernel⟩
theorem kp_is_piece (T : Tx K mg) : PySem.W.keepIn K (.ref (He.ga K "is_piece")) = true := kp_of T.d_is_piece
theorem ok_is_piece (T : Tx K mg) : FnR P w K mg base CX0 3 (He.ga K "is_piece") (sp_is_piece K) := by
  refine mk0 T.d_is_piece sc_is_piece (fun _ _ _ _ _ _ us hl => match us, hl with | [_], _ => rfl) (fun vs H Q E h => ?_) (fun cdv A outer s H vs Q E hr h => ?_)
  · obtain ⟨v, rfl, _⟩ := h
    rfl
  · obtain ⟨v, rfl, ⟨p, t, x, rfl, hp, ⟨h1, h2⟩, hx⟩, k⟩ := h
    refine ⟨_, (pss_cons (ps_if (PW.pt (pw_or (pt_not (pt_val (pe_callB call_isi (by rfl) T.f_isinstance (by decide +kernel) (pa_cons (pv 0) (pa_cons (pe_bltn (v := .ty "tuple") (u := .type "tuple") (by rfl) T.f_tuple (by decide +kernel) rfl) pa_nil))))) (pw_or (pt_cmpR op_ne (pe_callB call_len_seq (by rfl) T.f_len PySem.boot_len (pa_cons (pv 0) pa_nil)) pe_int (nomark _)) (pw_or1 (pt_not (pt_val (pe_callR (ok_is_between T) (hr.mono (by decide)) rfl T.g_is_between (kp_is_between T) pass0 (pa_cons (pe_ix ix_tup (pv 0) pe_int (fun _ _ => rfl)) (pa_cons pe_int (pa_cons (pe_glob (v := .int 10000000000000000000000000000000000000000) rfl T.i_MOST_TIMES.choose_spec ⟨_, rfl⟩) pa_nil)))))))))) (pss_one (ps_ret pe_bl)) pss_nil)
      (pss_one (ps_ret (pe_and (pe_callB call_isi (by rfl) T.f_isinstance (by decide +kernel) (pa_cons (pe_ix ix_tup (pv 0) pe_int (fun _ _ => rfl)) (pa_cons (pe_bltn (v := .ty "str") (u := .type "str") (by rfl) T.f_str (by decide +kernel) rfl) pa_nil))) (pe_one (pe_cmpR op_in_seq (pe_ix ix_tup (pv 0) pe_int (fun _ _ => rfl)) (pe_glob (v := .ref _) rfl T.g_WORDS rfl) rfl)))))), r_start (σ := [some (.ref p)]) rfl ?_⟩
    walk_at "rd"
    refine r_isi (.ty "tuple") (.base (.tup hp)) (b := true) (kit_ty (by decide +kernel)) ?_
    walk_at "rd"
    refine ⟨_, _, rfl, .inr (SqT.of hp), ?_⟩
    walk_at "rd"
    refine itef (by rfl) ?_
    walk_at "rd"
    refine r_ixT (SqT.of hp) (v := .int t) (by rfl) ?_
    walk_at "rd"
    refine ⟨_, _, _, true, rfl, .inl ⟨t, rfl, ?_⟩, ?_⟩
    · rw [decide_eq_true h1, decide_eq_true h2]
      rfl
    walk_at "rd"
    refine r_ixT (SqT.of hp) (v := .str x) (by rfl) ?_
    walk_at "rd"
    refine r_isi (.ty "str") (.base (.str x)) (b := true) (kit_ty (by decide +kernel)) ?_
    walk_at "rd"
    refine r_ixT (SqT.of hp) (v := .str x) (by rfl) ?_
    walk_at "rd"
    refine r_in (.inr (w_WORDS T H)) rfl (flat_strs _) ?_
    rw [inV_str, decide_eq_true hx]
    exact k
def sp_look_at (K : Fr) : Sp := fun vs H Q _ => ∃ (t : Addr) (xs : List V), vs = [.ref t] ∧ H t = some (.tup xs) ∧ (∀ x ∈ xs, PcAt H x) ∧ xs.length ≤ 100 ∧ ∀ H', Same H H' → Q .non H'
abbrev n_look_at : List Str := ["pieces", "at", "piece"]
theorem sc_look_at : FnScope n_look_at ["pieces"] (defScope s_look_at) := ⟨rfl, rfl, rfl, by decide +kernel, rfl, by decide +kernel, by decide +kernel⟩
theorem kp_look_at (T : Tx K mg) : PySem.W.keepIn K (.ref (He.ga K "look_at")) = true := kp_of T.d_look_at
theorem ok_look_at (T : Tx K mg) : FnR P w K mg base CX0 4 (He.ga K "look_at") (sp_look_at K) := by
  refine mk0 T.d_look_at sc_look_at (fun _ _ _ _ _ _ us hl => match us, hl with | [_], _ => rfl) (fun vs H Q E h => ?_) (fun cdv A outer s H vs Q E hr h => ?_)
  · obtain ⟨t, xs, rfl, _⟩ := h
    rfl
  · obtain ⟨t, xs, rfl, ht, hx, hl, k⟩ := h
    refine ⟨_, (pss_cons (ps_if (pt_cmpR op_gt (pe_callB call_len_seq (by rfl) T.f_len PySem.boot_len (pa_cons (pv 0) pa_nil)) (pe_glob (v := .int 100) rfl T.i_MOST_PIECES.choose_spec ⟨_, rfl⟩) (nomark _)) (pss_one ps_never) pss_nil)
      (pss_one (ps_for PassesOwn.never rfl (pi_enumT rfl T.f_enumerate (pa_cons (pv 0) pa_nil)) (pg_tup rfl (pgs_cons (pg_name (i := 1) sc_look_at.nd rfl (Or.inl rfl)) (pgs_cons (pg_name (i := 2) sc_look_at.nd rfl (Or.inl rfl)) pgs_nil))) (pss_one (ps_if (pt_not (pt_val (pe_callR (ok_is_piece T) (hr.mono (by decide)) rfl T.g_is_piece (kp_is_piece T) pass0 (pa_cons (pv 2) pa_nil)))) (pss_one ps_never) pss_nil))))), r_start (σ := [some (.ref t), none, none]) rfl ?_⟩
    walk_at "rd"
    refine ⟨_, _, rfl, .inr (SqT.of ht), ?_⟩
    walk_at "rd"
    refine itef (decide_eq_false (by omega)) ?_
    walk_at "rd"
    refine ⟨_, rfl, t, xs, rfl, SqT.of ht, for_enumT (xs := xs) (fun i σ H' => ∃ a b, σ = [some (.ref t), a, b] ∧ Same H H') ⟨_, _, rfl, Same.refl _⟩ (fun i σ H' _ ⟨_, _, _, e⟩ => SqT.of (e _ _ ht)) ?_ ?_⟩
    · rintro i x u σ H' hi ⟨a, b, rfl, e⟩ nu
      refine r_gtup (SqT.of upd_same) rfl ?_
      walk_at "rd"
      refine ⟨x, rfl, (hx x (List.mem_of_getElem? hi)).same (same_new2 e nu), ?_⟩
      walk_at "rd"
      exact ⟨_, _, rfl, same_new2 e nu⟩
    · rintro σ H' ⟨a, b, rfl, e⟩
      exact k _ e
def sp_Run_init (K : Fr) : Sp := fun vs H Q _ => ∃ (x dx t : Addr) (xs : List V), vs = [.ref x, .ref t] ∧ H x = some (.ins (He.ga K "Run") dx []) ∧ H t = some (.tup xs) ∧ (∀ y ∈ xs, PcAt H y) ∧ xs.length ≤ 100 ∧
  ∀ H', (∀ c o, H c = some o → c ≠ x → H' c = some o) → Q .non H'
abbrev n_Run_init : List Str := ["self", "pieces"]
theorem sc_Run_init : FnScope n_Run_init ["self", "pieces"] (defScope s_Run_init) := ⟨rfl, rfl, rfl, by decide +kernel, rfl, by decide +kernel, by decide +kernel⟩
theorem ok_Run_init (T : Tx K mg) : FnR P w K mg base CX0 5 (He.ma K (He.ga K "Run") "__init__") (starSp 1 (sp_Run_init K)) := by
  refine mkStar (ps := ["self"]) T.d_Run_init sc_Run_init (fun kV doc pm an cdv ct => StX.bind_star1 (B := fun l => bindArgs (PySem.W.fnOf _ _ _ _ _ .none kV doc pm an cdv ct) ⟨l, []⟩) (fun _ => rfl) (fun _ _ _ => rfl)) (fun cdv A outer s H vs Q E hr h => ?_)
  obtain ⟨x, dx, t, xs, rfl, hx, ht, hp, hl, k⟩ := h
  refine ⟨_, (pss_cons (ps_expr (pe_callR (ok_look_at T) (hr.mono (by decide)) rfl T.g_look_at (kp_look_at T) pass0 (pa_cons (pv 1) pa_nil)))
      (pss_one (ps_fld (pv 0) (pe_callTy call_list_of (by rfl) T.f_list (by decide +kernel) (pa_cons (pv 1) pa_nil)) rfl))), r_start (σ := [some (.ref x), some (.ref t)]) rfl ?_⟩
  walk_at "rd"
  refine ⟨t, xs, rfl, ht, hp, hl, fun H1 e1 => ?_⟩
  walk_at "rd"
  refine ⟨t, xs, rfl, .inr (SqT.of (e1 _ _ ht)), fun l nl => ?_⟩
  have e2 := same_new2 (o := .lst xs) e1 nl
  walk_at "rd"
  refine ⟨x, _, dx, _, rfl, e2 _ _ hx, T.c_Run, T.n_Run_rows, (by show 0 < 1000; decide), ?_⟩
  exact k _ fun c o h1 h2 => by rw [upd_ne h2]; exact e2 _ _ h1
/-- Run(p, ..) -/
theorem mk_run {C : Addr} {H : Hp} {Q : VK} {E : XK} {vs : List V} (hC : C = He.ga K "Run") (hp : ∀ y ∈ vs, PcAt H y) (hl : vs.length ≤ 100)
    (k : ∀ p H', Same H H' → Q (.ref p) H') (x dx : Addr) (nx : H x = none) (nd : H dx = none) (ne : dx ≠ x) :
    starSp 1 (sp_Run_init K) (.ref x :: vs) (upd (upd H dx (.own x)) x (.ins C dx [])) (fun v H2 => v = .non ∧ Q (.ref x) H2) E := by
  subst hC
  refine ⟨[.ref x], vs, rfl, rfl, Nat.le_trans hl (by decide), fun p np => ?_⟩
  have e1 : Same H (upd (upd H dx (.own x)) x (.ins (He.ga K "Run") dx [])) := fun b o e => by
    rw [upd_ne (ne_of_none e nx), upd_ne (ne_of_none e nd)]
    exact e
  have e2 := same_new2 (o := .tup vs) e1 np
  have npx : x ≠ p := fun z => by rw [← z, upd_same] at np; cases np
  refine ⟨x, dx, p, vs, rfl, by rw [upd_ne npx]; exact upd_same, upd_same, fun y hy => (hp y hy).same e2, hl, fun H' kp => ⟨rfl, k x H' fun b o e => ?_⟩⟩
  exact kp _ _ (e2 _ _ e) (ne_of_none e nx)
theorem pc_new {H H0 : Hp} {p : Addr} {t : Int} {x : Str} (h : H p = some (.tup [.int t, .str x])) (ht : 0 ≤ t ∧ t ≤ 10000000000000000000000000000000000000000) (hx : x ∈ (["put", "take", "pair"] : List Str)) : PcAt H (.ref p) := ⟨p, t, x, rfl, h, ht, hx⟩
end
end Ls
namespace Ls
open PySem PySem.Spec PyProof.Rows L2
theorem win_bound {s : Sl} {x : Wr} {n : Int} (ho : x.ok) (hk : slOk s x = true) (hn : 1 ≤ n) (hn2 : n ≤ 1000000000000000000000000000000) (hM : 1 ≤ modu x n) :
    0 ≤ win s x n ∧ win s x n + 1 ≤ 10000000000000000000000000000000000000000 := by
  by_cases hs : s = .mask
  · obtain ⟨w, rfl⟩ := mask_wid hk hs
    subst hs
    rw [win_mask]
    have h1 := winm_le w.toNat n.toNat
    have h2 : w.toNat ≤ 100 := by
      have : w ≤ 100 := ho.2
      omega
    have h3 : 2 ^ w.toNat ≤ 2 ^ 100 := Nat.pow_le_pow_right (by decide) h2
    have h4 : (2 : Nat) ^ 100 = 1267650600228229401496703205376 := by decide
    omega
  · by_cases hout : isOut s n (modu x n) = true
    · rw [win_out hk hout]
      omega
    · rw [win_plain hs (by simpa using hout)]
      have h1 := Int.emod_nonneg (modu x n) (show n ≠ 0 by omega)
      have h2 := Int.emod_lt_of_pos (modu x n) (show 0 < n by omega)
      split <;> omega
theorem modu_bound {x : Wr} {n : Int} (ho : x.ok) (hn : 1 ≤ n) (hn2 : n ≤ 1000000000000000000000000000000) : modu x n ≤ 10000000000000000000000000000000000000000 := by
  cases x with
  | wid w =>
    have h2 : w.toNat ≤ 100 := by
      have : w ≤ 100 := ho.2
      omega
    have h3 : (2 : Int) ^ w.toNat ≤ 2 ^ 100 := by
      have h3 : 2 ^ w.toNat ≤ 2 ^ 100 := Nat.pow_le_pow_right (by decide) h2
      exact_mod_cast h3
    have h4 : (2 : Int) ^ 100 = 1267650600228229401496703205376 := by decide
    show 2 ^ w.toNat ≤ _
    omega
  | frm a b =>
    obtain ⟨⟨h1, h2⟩, h3, h4⟩ := ho
    have h5 : a * n ≤ 4 * n := Int.mul_le_mul_of_nonneg_right h2 (by omega)
    show a * n + b ≤ _
    omega
section
variable {P : Program} {w : World} {K : Fr} {mg : Str → Option Value} {base : Heap}
def sp_breaking_run (K : Fr) : Sp := fun vs H Q _ => ∃ (c : Ca) (s : Sl) (x : Wr) (n : Int), vs = [.str c.s, .str s.s, .int n, .int (modu x n)] ∧ slOk s x = true ∧ x.ok ∧ 1 ≤ n ∧ n ≤ 1000000000000000000000000000000 ∧
  (c = .slot ∨ c = .empty → 1 ≤ modu x n) ∧ (c = .slot → isOut s n (modu x n) = false) ∧ ∀ v H', Same H H' → Q v H'
abbrev n_breaking_run : List Str := ["cause", "rule", "n", "modulus", "c", "gap"]
theorem sc_breaking_run : FnScope n_breaking_run ["cause", "rule", "n", "modulus"] (defScope s_breaking_run) := ⟨rfl, rfl, rfl, by decide +kernel, rfl, by decide +kernel, by decide +kernel⟩
theorem kp_breaking_run (T : Tx K mg) : PySem.W.keepIn K (.ref (He.ga K "breaking_run")) = true := kp_of T.d_breaking_run
theorem ok_breaking_run (T : Tx K mg) : FnR P w K mg base CX0 7 (He.ga K "breaking_run") (sp_breaking_run K) := by
  refine mk0 T.d_breaking_run sc_breaking_run (fun _ _ _ _ _ _ us hl => match us, hl with | [_, _, _, _], _ => rfl) (fun vs H Q E h => ?_) (fun cdv A outer s H vs Q E hr h => ?_)
  · obtain ⟨c, s, x, n, rfl, _⟩ := h
    rfl
  · obtain ⟨c, s, x, n, rfl, hk, ho, hn, hn2, hM, hout, k⟩ := h
    refine ⟨_, (pss_cons (ps_if (pt_cmpR op_eq (pv 0) pe_str (nomark _)) (pss_one (ps_ret (StX.pe_makeR T.k_Run (ok_Run_init T) (hr.mono (by decide)) rfl T.g_Run pass0 (pa_cons (pe_tup (pa_cons pe_int (pa_cons pe_str pa_nil))) pa_nil)))) pss_nil)
      (pss_cons (ps_if (pt_cmpR op_eq (pv 0) pe_str (nomark _)) (pss_one (ps_ret (StX.pe_makeR T.k_Run (ok_Run_init T) (hr.mono (by decide)) rfl T.g_Run pass0 (pa_cons (pe_tup (pa_cons (pe_op op_mul pe_int (pv 2)) (pa_cons pe_str pa_nil))) (pa_cons (pe_tup (pa_cons pe_int (pa_cons pe_str pa_nil))) pa_nil))))) pss_nil)
      (pss_cons (ps_if (pt_cmpR op_eq (pv 0) pe_str (nomark _)) (pss_one (ps_ret (StX.pe_makeR T.k_Run (ok_Run_init T) (hr.mono (by decide)) rfl T.g_Run pass0 (pa_cons (pe_tup (pa_cons (pv 3) (pa_cons pe_str pa_nil))) (pa_cons (pe_tup (pa_cons pe_int (pa_cons pe_str pa_nil))) pa_nil))))) pss_nil)
      (pss_cons (ps_if (pt_cmpR op_ne (pv 0) pe_str (nomark _)) (pss_one (ps_ret pe_non)) pss_nil)
      (pss_cons (ps_asg (pe_callR (ok_alike_at T) (hr.mono (by decide)) rfl T.g_alike_at (kp_alike_at T) pass0 (pa_cons (pv 1) (pa_cons (pv 2) (pa_cons (pv 3) pa_nil)))) (pg_tup rfl (pgs_cons (pg_name (i := 4) sc_breaking_run.nd rfl (Or.inl rfl)) (pgs_cons (pg_name (i := 5) sc_breaking_run.nd rfl (Or.inl rfl)) pgs_nil))))
      (pss_cons (ps_if (pt_cmpR op_eq (pv 4) pe_int (nomark _)) (pss_one (ps_ret (StX.pe_makeR T.k_Run (ok_Run_init T) (hr.mono (by decide)) rfl T.g_Run pass0 (pa_cons (pe_tup (pa_cons (pe_op op_add (pv 5) pe_int) (pa_cons pe_str pa_nil))) (pa_cons (pe_tup (pa_cons pe_int (pa_cons pe_str pa_nil))) pa_nil))))) pss_nil)
      (pss_one (ps_ret (StX.pe_makeR T.k_Run (ok_Run_init T) (hr.mono (by decide)) rfl T.g_Run pass0 (pa_cons (pe_tup (pa_cons (pv 4) (pa_cons pe_str pa_nil))) (pa_cons (pe_tup (pa_cons (pe_op op_add (pv 5) pe_int) (pa_cons pe_str pa_nil))) (pa_cons (pe_tup (pa_cons pe_int (pa_cons pe_str pa_nil))) pa_nil)))))))))))), r_start (σ := [some (.str c.s), some (.str s.s), some (.int n), some (.int (modu x n)), none, none]) rfl ?_⟩
    walk_at "rd"
    have mb := modu_bound ho hn hn2
    cases c with
    | nothing =>
      refine itef (by decide +kernel) ?_
      walk_at "rd"
      refine itef (by decide +kernel) ?_
      walk_at "rd"
      refine itef (by decide +kernel) ?_
      walk_at "rd"
      refine itet (by decide +kernel) ?_
      walk_at "rd"
      exact k _ _ (Same.refl _)
    | right =>
      refine itef (by decide +kernel) ?_
      walk_at "rd"
      refine itef (by decide +kernel) ?_
      walk_at "rd"
      refine itef (by decide +kernel) ?_
      walk_at "rd"
      refine itet (by decide +kernel) ?_
      walk_at "rd"
      exact k _ _ (Same.refl _)
    | shut =>
      refine itet (by decide +kernel) ?_
      walk_at "rd"
      intro p np
      walk_at "rd"
      have e1 := same_new (o := .tup [.int 1, .str "put"]) np
      refine mk_run rfl (fun y hy => ?_) (by simp) fun q H' e => k _ _ (e1.trans e)
      rw [List.mem_singleton.mp hy]
      exact pc_new (H0 := H) upd_same (by decide) (by decide +kernel)
    | outside =>
      refine itef (by decide +kernel) ?_
      walk_at "rd"
      refine itet (by decide +kernel) ?_
      walk_at "rd"
      refine r_i (.inl ⟨by decide, by decide⟩) ?_
      walk_at "rd"
      intro p np
      walk_at "rd"
      intro q nq
      walk_at "rd"
      have e1 := same_new (o := .tup [.int (2 * n), .str "pair"]) np
      have e2 := same_new (o := .tup [.int 1, .str "put"]) nq
      refine mk_run rfl (fun y hy => ?_) (by simp) fun r H' e => k _ _ ((e1.trans e2).trans e)
      rcases List.mem_cons.mp hy with rfl | hy
      · exact (pc_new (H0 := H) upd_same (by omega) (by decide +kernel)).same e2
      · rw [List.mem_singleton.mp hy]
        exact pc_new (H0 := H) upd_same (by decide) (by decide +kernel)
    | empty =>
      refine itef (by decide +kernel) ?_
      walk_at "rd"
      refine itef (by decide +kernel) ?_
      walk_at "rd"
      refine itet (by decide +kernel) ?_
      walk_at "rd"
      intro p np
      walk_at "rd"
      intro q nq
      walk_at "rd"
      have e1 := same_new (o := .tup [.int (modu x n), .str "put"]) np
      have e2 := same_new (o := .tup [.int 1, .str "take"]) nq
      have h1 := hM (.inr rfl)
      refine mk_run rfl (fun y hy => ?_) (by simp) fun r H' e => k _ _ ((e1.trans e2).trans e)
      rcases List.mem_cons.mp hy with rfl | hy
      · exact (pc_new (H0 := H) upd_same (by omega) (by decide +kernel)).same e2
      · rw [List.mem_singleton.mp hy]
        exact pc_new (H0 := H) upd_same (by decide) (by decide +kernel)
    | slot =>
      refine itef (by decide +kernel) ?_
      walk_at "rd"
      refine itef (by decide +kernel) ?_
      walk_at "rd"
      refine itef (by decide +kernel) ?_
      walk_at "rd"
      refine itef (by decide +kernel) ?_
      walk_at "rd"
      have h1 := hM (.inl rfl)
      obtain ⟨w1, w2⟩ := win_bound ho hk hn hn2 h1
      refine ⟨s, x, n, rfl, hk, hn, h1, fun z => (by rw [hout rfl] at z; cases z), fun _ t c H1 e0 c1 c2 ht => ?_⟩
      refine r_gtup (SqT.of ht) rfl ?_
      walk_at "rd"
      generalize win s x n = g at w1 w2 ht
      refine ite2 (fun h2 => ?_) (fun h2 => ?_)
      · walk_at "rd"
        intro p np
        walk_at "rd"
        intro q nq
        walk_at "rd"
        have e1 := same_new (o := .tup [.int (g + 1), .str "put"]) np
        have e2 := same_new (o := .tup [.int 1, .str "take"]) nq
        refine mk_run rfl (fun y hy => ?_) (by simp) fun r H' e => k _ _ (((e0.trans e1).trans e2).trans e)
        rcases List.mem_cons.mp hy with rfl | hy
        · exact (pc_new (H0 := H) upd_same (by omega) (by decide +kernel)).same e2
        · rw [List.mem_singleton.mp hy]
          exact pc_new (H0 := H) upd_same (by decide) (by decide +kernel)
      · walk_at "rd"
        intro p np
        walk_at "rd"
        intro q nq
        walk_at "rd"
        intro r nr
        walk_at "rd"
        have e1 := same_new (o := .tup [.int c, .str "pair"]) np
        have e2 := same_new (o := .tup [.int (g + 1), .str "put"]) nq
        have e3 := same_new (o := .tup [.int 1, .str "take"]) nr
        refine mk_run rfl (fun y hy => ?_) (by simp) fun r H' e => k _ _ ((((e0.trans e1).trans e2).trans e3).trans e)
        rcases List.mem_cons.mp hy with rfl | hy
        · exact (pc_new (H0 := H) upd_same (by omega) (by decide +kernel)).same (e2.trans e3)
        · rcases List.mem_cons.mp hy with rfl | hy
          · exact (pc_new (H0 := H) upd_same (by omega) (by decide +kernel)).same e3
          · rw [List.mem_singleton.mp hy]
            exact pc_new (H0 := H) upd_same (by decide) (by decide +kernel)
end
end Ls
namespace Ls
open PySem PySem.Spec PyProof.Rows L2
/-- the program -/
def P : Program := R.prog
theorem P_file : ((P.main.file : Str) == ("/claim/cut.py" : Str)) = true := by decide +kernel
theorem P_top : (P.main.scope.names.lookup ("super" : Str)).isSome = false := by decide +kernel
/-- as H, but for what stands at x -/
def SameX (x : Addr) (H H' : Hp) : Prop := ∀ c o, H c = some o → c ≠ x → H' c = some o
section
variable {w : World} {K : Fr} {mg : Str → Option Value} {base : Heap}
/-! ### a scheme is made -/
abbrev ps_Sc : List Str := ["self", "wrap", "slot", "empty", "full", "when"]
abbrev ks_Sc : List Str := ["wrap", "slot", "empty", "full", "when"]
def sp_Scheme_init (K : Fr) : Sp := fun vs H Q E => ∃ (p dx : Addr) (wv fv : V) (x : Wr) (s : Sl) (e : Em) (f : Fu) (h : Wh), vs = [.ref p, wv, .str s.s, .str e.s, fv, .str h.s] ∧
  H p = some (.ins (He.ga K "Scheme") dx []) ∧ PWr K H wv x ∧ x.ok ∧ PFu K H fv f ∧ f.ok ∧
  (slOk s x = true → ∀ H', H' p = some (.ins (He.ga K "Scheme") dx (sfs wv s e fv h)) → SameX p H H' → Q .non H') ∧
  (slOk s x = false → ∀ d H', Same H H' → E (.ref (He.ga K "NoScheme")) (some d) H')
abbrev n_Scheme_init : List Str := ["self", "wrap", "slot", "empty", "full", "when", "truths"]
theorem sc_Scheme_init : FnScope n_Scheme_init ["self", "wrap", "slot", "empty", "full", "when"] (defScope s_Scheme_init) := ⟨rfl, rfl, rfl, by decide +kernel, rfl, by decide +kernel, by decide +kernel⟩
theorem noS (T : Tx K mg) : ∃ fd, FnOk P w K mg base CX0 1 (initAt K "NoScheme") fd ["self", "part"] (spNo (He.ga K "NoScheme")) ∧ Binds K fd ["self", "part"] [] := by
  obtain ⟨cc, cda, S⟩ := supF T
  exact sup_ok T S P_file P_top
theorem oxS (T : Tx K mg) : OexC K (He.ga K "NoScheme") ∧ PySem.W.findIn K (.ref (He.ga K "NoScheme")) "__init__" = some (some (.ref (initAt K "NoScheme"))) ∧ PySem.W.typeIn K (.ref (initAt K "NoScheme")) = some (.type "function") := by
  obtain ⟨cc, cda, S⟩ := supF T
  exact ⟨S.ox, S.fi, S.ty⟩
theorem ty_lst {K : Fr} {H : Hp} {l : Addr} {xs : List V} (h : SqL K H l xs) : tyV K "list" (.ref l) H := .inl ⟨rfl, xs, h⟩
theorem r_bm {K : Fr} {T : String} {r : V → List V → Hp → VK → Prop} {to : TE} {t : TA} {σ : L2.St} {H : Hp} {Q : VK} (h : to σ H fun x H1 => tyV K T x H1 ∧ t σ H1 fun xs H2 => r x xs H2 Q) : tBM K T r to t σ H Q := h
/-- NoScheme(y) -/
theorem mk_no {C : Addr} {H : Hp} {y : V} {E : XK} (k : ∀ d H', Same H H' → E (.ref C) (some d) H') :
    ∀ a, H a = none → spNo C (.ref a :: ([y] ++ [])) (upd H a (exo a C none))
      (fun v H2 => v = .non ∧ ∃ (d : Addr) (fs : List (Str × V)), H2 a = some (exo a C (some d)) ∧ H2 d = some (exd d fs) ∧ H d = none ∧ E (.ref C) (some d) (upd (del H2 a) d (.xd fs))) (fun _ _ _ => False) := by
  intro a na
  refine ⟨a, y, rfl, upd_same, fun dx nd ne => ⟨rfl, dx, [("part", y)], upd_same, ?_, ?_, k _ _ fun c o e => ?_⟩⟩
  · rw [upd_ne ne]
    exact upd_same
  · rw [upd_ne ne] at nd
    exact nd
  · have nd : H dx = none := by
      rw [upd_ne ne] at nd
      exact nd
    have c1 := ne_of_none e na
    have c2 := ne_of_none e nd
    rw [upd_ne c2, del_ne c1, upd_ne c1, upd_ne c2, upd_ne c1]
    exact e
theorem truths_in (b : Bool) : inV (.bl false) [.bl true, .bl b, .bl true, .bl true, .bl true] = !b := by cases b <;> decide
theorem ok_Scheme_init (T : Tx K mg) : ∃ fd, FnOk P w K mg base (L2.CX P w) 4 (He.ma K (He.ga K "Scheme") "__init__") fd ps_Sc (sp_Scheme_init K) ∧ KBn K fd ps_Sc 1 ks_Sc (fun us ws => us ++ ws) (fun vs zs => vs ++ zs) := by
  obtain ⟨fd, F⟩ := T.d_Scheme_init
  have B : ∃ mv : List Value, KBn K fd ps_Sc 1 ks_Sc (fun us ws => us ++ ws) (fun vs zs => vs ++ zs) :=
    FunD.kbinds0 (ps := ps_Sc) F 1 ks_Sc [] (fun us _ ws => us ++ ws) (by show [(("when" : Str), V.str "refuse")] ≠ []; simp) (fun q hq => by cases hq) (fun r1 _ r3 => r1.append r3) (fun D doc pm an cdv ct us mv ws l1 l2 l3 => by
      match us, l1, mv, l2, ws, l3 with
      | [u], _, [], _, [a, b, c, d, e], _ => exact (rfl : _ = _))
  obtain ⟨_, B⟩ := B
  refine ⟨fd, F.ok sc_Scheme_init (fun vs H Q E h => ?_) (fun cdv A outer s H vs Q E hr h => ?_), B⟩
  · obtain ⟨p, dx, wv, fv, x, s, e, f, h, rfl, _⟩ := h
    rfl
  · obtain ⟨p, dx, wv, fv, x, sl, e, f, h, rfl, hp, hwv, hxo, hfv, hfo, k1, k2⟩ := h
    refine ⟨_, (pss_cons (ps_set (i := 6) sc_Scheme_init.nd rfl (Or.inl rfl) (pe_lst (pa_cons (pe_callR (ok_is_wrap T) (hr.mono (by decide)) rfl T.g_is_wrap (kp_is_wrap T) pass0 (pa_cons (pv 1) pa_nil)) (pa_cons (pe_callR (ok_is_slot T) (hr.mono (by decide)) rfl T.g_is_slot (kp_is_slot T) pass0 (pa_cons (pv 2) (pa_cons (pv 1) pa_nil))) (pa_cons (pe_callR (ok_is_word T) (hr.mono (by decide)) rfl T.g_is_word (kp_is_word T) pass0 (pa_cons (pv 3) (pa_cons (pe_tup (pa_cons pe_str (pa_cons pe_str (pa_cons pe_str pa_nil)))) pa_nil))) (pa_cons (pe_callR (ok_is_full_rule T) (hr.mono (by decide)) rfl T.g_is_full_rule (kp_is_full_rule T) pass0 (pa_cons (pv 4) pa_nil)) pa_nil))))))
      (pss_cons (ps_expr (pe_bm PySem.F.plainAttrs_list PySem.F.slot_list_append PySem.F.type_list_append mt_append (pv 6) (pa_cons (pe_callR (ok_is_word T) (hr.mono (by decide)) rfl T.g_is_word (kp_is_word T) pass0 (pa_cons (pv 5) (pa_cons (pe_tup (pa_cons pe_str (pa_cons pe_str (pa_cons pe_str pa_nil)))) pa_nil))) pa_nil)))
      (pss_cons (ps_if (pt_cmpR op_in_seq pe_bl (pv 6) rfl) (pss_one (ps_raise rfl (takes_of rfl rfl rfl rfl) (pmk_oex (oxS T).1 (oxS T).2.1 (oxS T).2.2 (noS T).choose_spec.1 (hr.mono (by decide)) (noS T).choose_spec.2 .nil pass0 rfl T.g_NoScheme (pa_cons (pe_ix ix_tup (pe_glob (v := .ref _) rfl T.g_PARTS rfl) (pe_bm PySem.F.plainAttrs_list PySem.F.slot_list_index PySem.F.type_list_index mt_index (pv 6) (pa_cons pe_bl pa_nil)) (fun _ _ => rfl)) pa_nil)))) pss_nil)
      (pss_cons (ps_fld (pv 0) (pv 1) rfl)
      (pss_cons (ps_fld (pv 0) (pv 2) rfl)
      (pss_cons (ps_fld (pv 0) (pv 3) rfl)
      (pss_cons (ps_fld (pv 0) (pv 4) rfl)
      (pss_one (ps_fld (pv 0) (pv 5) rfl))))))))), r_start (σ := [some (.ref p), some wv, some (.str sl.s), some (.str e.s), some fv, some (.str h.s), none]) rfl ?_⟩
    walk_at "rd"
    refine ⟨wv, x, rfl, hwv, hxo, ?_⟩
    walk_at "rd"
    refine ⟨sl, wv, x, rfl, hwv, fun H1 e1 => ?_⟩
    walk_at "rd"
    intro t1 n1
    have e2 := same_new2 (o := .tup [.str "same", .str "count", .str "note"]) e1 n1
    refine ⟨e.s, t1, ["same", "count", "note"], rfl, SqT.of upd_same, ?_⟩
    rw [show decide (e.s ∈ (["same", "count", "note"] : List Str)) = true by cases e <;> decide +kernel]
    walk_at "rd"
    refine ⟨fv, f, rfl, hfv.same e2, hfo, fun H3 e3 => ?_⟩
    have e3 := e2.trans e3
    walk_at "rd"
    intro l nl
    have e4 := same_new2 (o := .lst [.bl true, .bl (slOk sl x), .bl true, .bl true]) e3 nl
    walk_at "rd"
    refine r_bm ?_
    walk_at "rd"
    refine ⟨ty_lst (SqL.of upd_same), ?_⟩
    walk_at "rd"
    intro t2 n2
    refine ⟨h.s, t2, ["refuse", "drop", "over"], rfl, SqT.of upd_same, ?_⟩
    rw [show decide (h.s ∈ (["refuse", "drop", "over"] : List Str)) = true by cases h <;> decide +kernel]
    have nt2 : l ≠ t2 := fun z => by rw [← z, upd_same] at n2; cases n2
    have nt2' : H3 t2 = none := by
      rw [upd_ne (Ne.symm nt2)] at n2
      exact n2
    walk_at "rd"
    refine ⟨l, _, _, rfl, rfl, (by rw [upd_ne nt2]; exact upd_same), Nat.lt_of_lt_of_le (by show 4 < 1000; decide) (Nat.le_of_lt (small1000 (Nat.le_refl _))), ?_⟩
    have e5 : Same H (upd (upd (upd H3 l (.lst [.bl true, .bl (slOk sl x), .bl true, .bl true])) t2 (.tup [.str "refuse", .str "drop", .str "over"])) l (.lst ([.bl true, .bl (slOk sl x), .bl true, .bl true] ++ [.bl true]))) := fun b o e => by
      have h3 := e3 _ _ e
      rw [upd_ne (ne_of_none h3 nl), upd_ne (ne_of_none h3 nt2'), upd_ne (ne_of_none h3 nl)]
      exact h3
    generalize hH : upd (upd (upd H3 l (.lst [.bl true, .bl (slOk sl x), .bl true, .bl true])) t2 (.tup [.str "refuse", .str "drop", .str "over"])) l (.lst ([.bl true, .bl (slOk sl x), .bl true, .bl true] ++ [.bl true])) = H5 at e5
    have hl5 : H5 l = some (.lst [.bl true, .bl (slOk sl x), .bl true, .bl true, .bl true]) := by
      rw [← hH]
      exact upd_same
    walk_at "rd"
    refine r_in (.inl (SqL.of hl5)) rfl rfl ?_
    rw [truths_in]
    walk_at "rd"
    cases hk : slOk sl x with
    | true =>
      refine itef (by rfl) ?_
      have hp5 := e5 _ _ hp
      walk_at "rd"
      refine ⟨p, _, dx, _, rfl, hp5, T.c_Scheme, T.n_Scheme_own_wrap, (by show 0 < 1000; decide), ?_⟩
      walk_at "rd"
      refine ⟨p, _, dx, _, rfl, upd_same, T.c_Scheme, T.n_Scheme_own_slot, (by show 1 < 1000; decide), ?_⟩
      walk_at "rd"
      refine ⟨p, _, dx, _, rfl, upd_same, T.c_Scheme, T.n_Scheme_own_empty, (by show 2 < 1000; decide), ?_⟩
      walk_at "rd"
      refine ⟨p, _, dx, _, rfl, upd_same, T.c_Scheme, T.n_Scheme_own_full, (by show 3 < 1000; decide), ?_⟩
      walk_at "rd"
      refine ⟨p, _, dx, _, rfl, upd_same, T.c_Scheme, T.n_Scheme_own_when, (by show 4 < 1000; decide), ?_⟩
      have n1 : ¬ ("own_wrap" : Str) = "own_slot" := by decide +kernel
      have n2 : ¬ ("own_wrap" : Str) = "own_empty" := by decide +kernel
      have n3 : ¬ ("own_wrap" : Str) = "own_full" := by decide +kernel
      have n4 : ¬ ("own_wrap" : Str) = "own_when" := by decide +kernel
      have n5 : ¬ ("own_slot" : Str) = "own_empty" := by decide +kernel
      have n6 : ¬ ("own_slot" : Str) = "own_full" := by decide +kernel
      have n7 : ¬ ("own_slot" : Str) = "own_when" := by decide +kernel
      have n8 : ¬ ("own_empty" : Str) = "own_full" := by decide +kernel
      have n9 : ¬ ("own_empty" : Str) = "own_when" := by decide +kernel
      have n10 : ¬ ("own_full" : Str) = "own_when" := by decide +kernel
      refine k1 hk _ ?_ fun c o h1 h2 => ?_
      · rw [upd_same, put0, put1 n1, put0, put1 n2, put1 n5, put0, put1 n3, put1 n6, put1 n8, put0, put1 n4, put1 n7, put1 n9, put1 n10, put0]
        rfl
      · rw [upd_ne h2, upd_ne h2, upd_ne h2, upd_ne h2, upd_ne h2]
        exact e5 _ _ h1
    | false =>
      refine itet (by rfl) ?_
      walk_at "rd"
      refine r_bm ?_
      walk_at "rd"
      refine ⟨ty_lst (SqL.of hl5), ?_⟩
      walk_at "rd"
      rw [hk] at hl5
      refine ⟨l, _, .bl false, 1, .bl false, rfl, rfl, SqL.of hl5, rfl, rfl, rfl, by decide, fun m z' hm hz => ?_, ?_⟩
      · obtain rfl : m = 0 := by omega
        have hz : V.bl true = z' := Option.some.inj hz
        subst hz
        decide
      refine r_ixT (w_PARTS T _) (v := .str "slot") (by rfl) ?_
      walk_at "rd"
      exact ⟨(by decide), mk_no fun d H' e => k2 hk d H' (e5.trans e)⟩
end
end Ls
namespace Ls
open PySem PySem.Spec PyProof.Rows L2
theorem r_makeK {C : Addr} {n m : Nat} {sp : Sp} {gV : List V → List V → List V} {E : XK} {t tk : TA} {σ : L2.St} {H : Hp} {Q : VK} (h : t σ H fun vs H1 => tk σ H1 fun zs H2 => vs.length = n ∧ zs.length = m ∧ ∀ x dx, H2 x = none → H2 dx = none → dx ≠ x →
    sp (gV (.ref x :: vs) zs) (upd (upd H2 dx (.own x)) x (.ins C dx [])) (fun v H3 => v = .non ∧ Q (.ref x) H3) E) : tMakeK C n m sp gV E t tk σ H Q := h
theorem SameX.made {H H' : Hp} {x dx : Addr} {o : HO} (nx : H x = none) (nd : H dx = none) (h : SameX x (upd (upd H dx (.own x)) x o) H') : Same H H' := fun c u e => by
  have c1 := ne_of_none e nx
  exact h _ _ (by rw [upd_ne c1, upd_ne (ne_of_none e nd)]; exact e) c1
section
variable {w : World} {K : Fr} {mg : Str → Option Value} {base : Heap}
/-- Scheme(..) -/
theorem mk_sc {C : Addr} {H : Hp} {Q : VK} {E : XK} {wv fv : V} {s : Sc} (hC : C = He.ga K "Scheme") (hwv : PWr K H wv s.wrap) (hfv : PFu K H fv s.full) (ho : s.wrap.ok) (hf : s.full.ok)
    (k : slOk s.slot s.wrap = true → ∀ p H', Same H H' → ScAt K H' p s → Q (.ref p) H')
    (kE : slOk s.slot s.wrap = false → ∀ d H', Same H H' → E (.ref (He.ga K "NoScheme")) (some d) H') (x dx : Addr) (nx : H x = none) (nd : H dx = none) (ne : dx ≠ x) :
    sp_Scheme_init K (.ref x :: ([] ++ [wv, .str s.slot.s, .str s.empty.s, fv, .str s.when.s])) (upd (upd H dx (.own x)) x (.ins C dx [])) (fun v H2 => v = .non ∧ Q (.ref x) H2) E := by
  subst hC
  have e0 : Same H (upd (upd H dx (.own x)) x (.ins (He.ga K "Scheme") dx [])) := fun b o e => by
    rw [upd_ne (ne_of_none e nx), upd_ne (ne_of_none e nd)]
    exact e
  refine ⟨x, dx, wv, fv, s.wrap, s.slot, s.empty, s.full, s.when, rfl, upd_same, hwv.same e0, ho, hfv.same e0, hf, fun h H' hp e => ?_, fun h d H' e => ?_⟩
  · have e1 := e.made nx nd
    exact ⟨rfl, k h x H' e1 ⟨dx, wv, fv, hp, hwv.same e1, hfv.same e1⟩⟩
  · exact kE h d H' (e0.trans e)
def sp_row_of (K : Fr) : Sp := fun vs H Q _ => ∃ (p dx : Addr) (wv fv : V) (s : Sl) (e : Em) (h : Wh), vs = [.ref p] ∧ H p = some (.ins (He.ga K "Scheme") dx (sfs wv s e fv h)) ∧
  ∀ t, H t = none → Q (.ref t) (upd H t (.tup [wv, .str s.s, .str e.s, fv, .str h.s]))
abbrev n_row_of : List Str := ["scheme"]
theorem sc_row_of : FnScope n_row_of ["scheme"] (defScope s_row_of) := ⟨rfl, rfl, rfl, by decide +kernel, rfl, by decide +kernel, by decide +kernel⟩
theorem kp_row_of (T : Tx K mg) : PySem.W.keepIn K (.ref (He.ga K "row_of")) = true := kp_of T.d_row_of
theorem ok_row_of (T : Tx K mg) : FnR P w K mg base CX0 1 (He.ga K "row_of") (sp_row_of K) := by
  refine mk0 T.d_row_of sc_row_of (fun _ _ _ _ _ _ us hl => match us, hl with | [_], _ => rfl) (fun vs H Q E h => ?_) (fun cdv A outer s H vs Q E hr h => ?_)
  · obtain ⟨p, dx, wv, fv, s, e, h, rfl, _⟩ := h
    rfl
  · obtain ⟨p, dx, wv, fv, s, e, h, rfl, hp, k⟩ := h
    refine ⟨_, (pss_one (ps_ret (pe_tup (pa_cons (pe_fld (pv 0) rfl) (pa_cons (pe_fld (pv 0) rfl) (pa_cons (pe_fld (pv 0) rfl) (pa_cons (pe_fld (pv 0) rfl) (pa_cons (pe_fld (pv 0) rfl) pa_nil)))))))), r_start (σ := [some (.ref p)]) rfl ?_⟩
    walk_at "rd"
    refine ⟨p, _, dx, _, _, rfl, hp, T.c_Scheme, T.n_Scheme_own_wrap, sf_wrap, ?_⟩
    walk_at "rd"
    refine ⟨p, _, dx, _, _, rfl, hp, T.c_Scheme, T.n_Scheme_own_slot, sf_slot, ?_⟩
    walk_at "rd"
    refine ⟨p, _, dx, _, _, rfl, hp, T.c_Scheme, T.n_Scheme_own_empty, sf_empty, ?_⟩
    walk_at "rd"
    refine ⟨p, _, dx, _, _, rfl, hp, T.c_Scheme, T.n_Scheme_own_full, sf_full, ?_⟩
    walk_at "rd"
    refine ⟨p, _, dx, _, _, rfl, hp, T.c_Scheme, T.n_Scheme_own_when, sf_when, ?_⟩
    walk_at "rd"
    exact k
def sp_copy_of (K : Fr) : Sp := fun vs H Q _ => ∃ (p : Addr) (s : Sc), vs = [.ref p] ∧ ScAt K H p s ∧ s.ok ∧ ∀ q H', Same H H' → ScAt K H' q s → Q (.ref q) H'
abbrev n_copy_of : List Str := ["scheme", "wrap", "slot", "empty", "full", "when"]
theorem sc_copy_of : FnScope n_copy_of ["scheme"] (defScope s_copy_of) := ⟨rfl, rfl, rfl, by decide +kernel, rfl, by decide +kernel, by decide +kernel⟩
theorem kp_copy_of (T : Tx K mg) : PySem.W.keepIn K (.ref (He.ga K "copy_of")) = true := kp_of T.d_copy_of
theorem ok_copy_of (T : Tx K mg) : FnR P w K mg base CX0 6 (He.ga K "copy_of") (sp_copy_of K) := by
  refine mk0 T.d_copy_of sc_copy_of (fun _ _ _ _ _ _ us hl => match us, hl with | [_], _ => rfl) (fun vs H Q E h => ?_) (fun cdv A outer s H vs Q E hr h => ?_)
  · obtain ⟨p, s, rfl, _⟩ := h
    rfl
  · obtain ⟨p, s, rfl, hp, hok, k⟩ := h
    obtain ⟨dx, wv, fv, hp, hwv, hfv⟩ := hp
    refine ⟨_, (pss_cons (ps_asg (pe_callR (ok_row_of T) (hr.mono (by decide)) rfl T.g_row_of (kp_row_of T) pass0 (pa_cons (pv 0) pa_nil)) (pg_tup rfl (pgs_cons (pg_name (i := 1) sc_copy_of.nd rfl (Or.inl rfl)) (pgs_cons (pg_name (i := 2) sc_copy_of.nd rfl (Or.inl rfl)) (pgs_cons (pg_name (i := 3) sc_copy_of.nd rfl (Or.inl rfl)) (pgs_cons (pg_name (i := 4) sc_copy_of.nd rfl (Or.inl rfl)) (pgs_cons (pg_name (i := 5) sc_copy_of.nd rfl (Or.inl rfl)) pgs_nil)))))))
      (pss_one (ps_ret (pe_makeK0 T.k_Scheme (ok_Scheme_init T).choose_spec.1 (hr.mono (by decide)) rfl T.g_Scheme (ok_Scheme_init T).choose_spec.2 passL (pk_cons (pv 1) (pk_cons (pv 2) (pk_cons (pv 3) (pk_cons (pv 4) (pk_cons (pv 5) pk_nil))))))))), r_start (σ := [some (.ref p), none, none, none, none, none]) rfl ?_⟩
    walk_at "rd"
    refine ⟨p, dx, wv, fv, s.slot, s.empty, s.when, rfl, hp, fun t nt => ?_⟩
    have e1 := same_new (o := .tup [wv, .str s.slot.s, .str s.empty.s, fv, .str s.when.s]) nt
    refine r_gtup (SqT.of upd_same) rfl ?_
    walk_at "rd"
    refine r_makeK ?_
    walk_at "rd"
    refine ⟨rfl, rfl, mk_sc rfl (hwv.same e1) (hfv.same e1) hok.wrap hok.full (fun _ q H' e hq => k q H' (e1.trans e) hq) fun z => ?_⟩
    rw [hok.slot] at z
    cases z
/-! ### verdicts -/
def VdAt (K : Fr) (H : Hp) (v : Addr) (c : Ca) : Prop := ∃ dx fs, H v = some (.ins (He.ga K "Verdict") dx fs) ∧ fs.lookup ("own_cause" : Str) = some (.str c.s)
def sp_Verdict_init (K : Fr) : Sp := fun vs H Q _ => ∃ (x dx p : Addr) (s : Sc) (n : Int), vs = [.ref x, .ref p, .int n] ∧ H x = some (.ins (He.ga K "Verdict") dx []) ∧ ScAt K H p s ∧ s.ok ∧ 1 ≤ n ∧ n ≤ 1000000000000000000000000000000 ∧
  ∀ H', VdAt K H' x (cause s n) → SameX x H H' → Q .non H'
theorem cause_big {s : Sc} {n : Int} (h : cause s n = .slot ∨ cause s n = .empty) : 1 ≤ modu s.wrap n := by
  unfold cause at h
  by_cases q : modu s.wrap n < 1
  · simp only [if_pos q] at h
    rcases h with h | h <;> cases h
  · omega
theorem cause_in {s : Sc} {n : Int} (h : cause s n = .slot) : isOut s.slot n (modu s.wrap n) = false := by
  unfold cause at h
  by_cases q : modu s.wrap n < 1
  · simp only [if_pos q] at h
    cases h
  · simp only [if_neg q] at h
    by_cases q2 : room s.full s.when n (modu s.wrap n) = some 0
    · simp only [if_pos q2] at h
      cases h
    · simp only [if_neg q2] at h
      cases q3 : isOut s.slot n (modu s.wrap n) with
      | false => rfl
      | true =>
        rw [q3] at h
        simp at h
section
variable {H H' : Hp} {x : Addr} {C dx : Addr}
theorem keepX {c : Addr} {o : HO} (hx : H x = some (.ins C dx [])) (e : SameX x H H') (hc : H c = some o) (ho : o ≠ .ins C dx []) : H' c = some o :=
  e _ _ hc fun z => ho (by rw [z, hx] at hc; exact (Option.some.inj hc).symm)
theorem FormAt.sameX {p : Addr} {a b : Int} (hx : H x = some (.ins C dx [])) (e : SameX x H H') (h : FormAt K H p a b) : FormAt K H' p a b :=
  let ⟨d, h⟩ := h; ⟨d, keepX hx e h (fun z => by cases z)⟩
theorem PWr.sameX {v : V} {y : Wr} (hx : H x = some (.ins C dx [])) (e : SameX x H H') (h : PWr K H v y) : PWr K H' v y := by
  cases y with
  | wid _ => exact h
  | frm a b => exact let ⟨p, h1, h2⟩ := h; ⟨p, h1, h2.sameX hx e⟩
theorem PFu.sameX {v : V} {f : Fu} (hx : H x = some (.ins C dx [])) (e : SameX x H H') (h : PFu K H v f) : PFu K H' v f := by
  cases f with
  | next => exact let ⟨p, h1, h2⟩ := h; ⟨p, h1, keepX hx e h2 (fun z => by cases z)⟩
  | note => exact let ⟨p, h1, h2⟩ := h; ⟨p, h1, keepX hx e h2 (fun z => by cases z)⟩
  | diff o a b => exact let ⟨p, q, h1, h2, h3⟩ := h; ⟨p, q, h1, keepX hx e h2 (fun z => by cases z), h3.sameX hx e⟩
  | count o a b => exact let ⟨p, q, h1, h2, h3⟩ := h; ⟨p, q, h1, keepX hx e h2 (fun z => by cases z), h3.sameX hx e⟩
theorem ScAt.sameX {p : Addr} {s : Sc} (hx : H x = some (.ins C dx [])) (e : SameX x H H') (h : ScAt K H p s) : ScAt K H' p s :=
  let ⟨d, wv, fv, h1, h2, h3⟩ := h; ⟨d, wv, fv, keepX hx e h1 (fun z => by cases z), h2.sameX hx e, h3.sameX hx e⟩
theorem SameX.refl : SameX x H H := fun _ _ e _ => e
theorem SameX.same {H1 : Hp} (a : SameX x H H') (b : Same H' H1) : SameX x H H1 := fun c o e n => b _ _ (a _ _ e n)
theorem SameX.put {o : HO} (a : SameX x H H') : SameX x H (upd H' x o) := fun c u e n => by
  rw [upd_ne n]
  exact a _ _ e n
theorem SameX.pre {H0 : Hp} (b : Same H0 H) (a : SameX x H H') : SameX x H0 H' := fun c o e n => a _ _ (b _ _ e) n
end
theorem fs_put {f : Str} {v c : V} {fs : List (Str × V)} {n : Nat} (h : fs.lookup ("own_cause" : Str) = some c) (l : fs.length ≤ n) (ne : ¬ ("own_cause" : Str) = f) :
    (putF f v fs).lookup ("own_cause" : Str) = some c ∧ (putF f v fs).length ≤ n + 1 := by
  rw [lookup_putF, if_neg ne]
  exact ⟨h, Nat.le_trans (length_putF f v fs) (by omega)⟩
abbrev n_Verdict_init : List Str := ["self", "scheme", "n", "kept", "modulus"]
theorem sc_Verdict_init : FnScope n_Verdict_init ["self", "scheme", "n"] (defScope s_Verdict_init) := ⟨rfl, rfl, rfl, by decide +kernel, rfl, by decide +kernel, by decide +kernel⟩
theorem ok_Verdict_init (T : Tx K mg) : FnR P w K mg base CX0 8 (He.ma K (He.ga K "Verdict") "__init__") (sp_Verdict_init K) := by
  refine mk0 T.d_Verdict_init sc_Verdict_init (fun _ _ _ _ _ _ us hl => match us, hl with | [_, _, _], _ => rfl) (fun vs H Q E h => ?_) (fun cdv A outer s H vs Q E hr h => ?_)
  · obtain ⟨x, dx, p, s, n, rfl, _⟩ := h
    rfl
  · obtain ⟨x, dx, p, s, n, rfl, hx, hp, hok, hn, hn2, k⟩ := h
    refine ⟨_, (pss_cons (ps_if (pt_not (pt_val (pe_callR (ok_is_size T) (hr.mono (by decide)) rfl T.g_is_size (kp_is_size T) pass0 (pa_cons (pv 2) pa_nil)))) (pss_one ps_never) pss_nil)
      (pss_cons (ps_set (i := 3) sc_Verdict_init.nd rfl (Or.inl rfl) (pe_callR (ok_copy_of T) (hr.mono (by decide)) rfl T.g_copy_of (kp_copy_of T) pass0 (pa_cons (pv 1) pa_nil)))
      (pss_cons (ps_set (i := 4) sc_Verdict_init.nd rfl (Or.inl rfl) (pe_callR (ok_modulus_at T) (hr.mono (by decide)) rfl T.g_modulus_at (kp_modulus_at T) pass0 (pa_cons (pe_prop (pv 3) T.c_Scheme (p_wrap T) (ok_Scheme_wrap T).choose_spec.1 (hr.mono (by decide)) (ok_Scheme_wrap T).choose_spec.2 .nil pass0 rfl) (pa_cons (pv 2) pa_nil))))
      (pss_cons (ps_fld (pv 0) (pe_callR (ok_cause_at T) (hr.mono (by decide)) rfl T.g_cause_at (kp_cause_at T) pass0 (pa_cons (pv 3) (pa_cons (pv 2) (pa_cons (pv 4) pa_nil)))) rfl)
      (pss_cons (ps_fld (pv 0) pe_non rfl)
      (pss_cons (ps_fld (pv 0) pe_non rfl)
      (pss_cons (ps_if (pt_cmpR op_ge (pv 4) pe_int (nomark _)) (pss_cons (ps_fld (pv 0) (pe_callR (ok_room_at T) (hr.mono (by decide)) rfl T.g_room_at (kp_room_at T) pass0 (pa_cons (pe_prop (pv 3) T.c_Scheme (p_full T) (ok_Scheme_full T).choose_spec.1 (hr.mono (by decide)) (ok_Scheme_full T).choose_spec.2 .nil pass0 rfl) (pa_cons (pe_prop (pv 3) T.c_Scheme (p_when T) (ok_Scheme_when T).choose_spec.1 (hr.mono (by decide)) (ok_Scheme_when T).choose_spec.2 .nil pass0 rfl) (pa_cons (pv 2) (pa_cons (pv 4) pa_nil))))) rfl)
      (pss_one (ps_fld (pv 0) (pe_callR (ok_window_at T) (hr.mono (by decide)) rfl T.g_window_at (kp_window_at T) pass0 (pa_cons (pe_prop (pv 3) T.c_Scheme (p_slot T) (ok_Scheme_slot T).choose_spec.1 (hr.mono (by decide)) (ok_Scheme_slot T).choose_spec.2 .nil pass0 rfl) (pa_cons (pv 2) (pa_cons (pv 4) pa_nil)))) rfl))) pss_nil)
      (pss_one (ps_fld (pv 0) (pe_callR (ok_breaking_run T) (hr.mono (by decide)) rfl T.g_breaking_run (kp_breaking_run T) pass0 (pa_cons (pe_fld (pv 0) rfl) (pa_cons (pe_prop (pv 3) T.c_Scheme (p_slot T) (ok_Scheme_slot T).choose_spec.1 (hr.mono (by decide)) (ok_Scheme_slot T).choose_spec.2 .nil pass0 rfl) (pa_cons (pv 2) (pa_cons (pv 4) pa_nil))))) rfl))))))))), r_start (σ := [some (.ref x), some (.ref p), some (.int n), none, none]) rfl ?_⟩
    walk_at "rd"
    refine ⟨n, rfl, hn, hn2, ?_⟩
    walk_at "rd"
    refine ⟨p, s, rfl, hp, hok, fun q H1 e1 hq => ?_⟩
    have hx1 := e1 _ _ hx
    have hq1 := hq
    obtain ⟨dq, wv, fv, hq', hwv, hfv⟩ := hq1
    walk_at "rd"
    refine r_get hq' sf_wrap ?_
    walk_at "rd"
    refine ⟨wv, s.wrap, n, rfl, hwv, hok.wrap, ?_⟩
    walk_at "rd"
    refine ⟨q, s, n, rfl, hq, hok, hn, fun H2 e2 => ?_⟩
    have X2 : SameX x H1 H2 := SameX.refl.same e2
    walk_at "rd"
    refine ⟨x, _, dx, _, rfl, e2 _ _ hx1, T.c_Verdict, T.n_Verdict_own_cause, (by show 0 < 1000; decide), ?_⟩
    have X3 := X2.put (o := .ins (He.ga K "Verdict") dx (putF "own_cause" (.str (cause s n).s) []))
    have lc : (putF "own_cause" (V.str (cause s n).s) []).lookup ("own_cause" : Str) = some (.str (cause s n).s) := lk0
    have l1 : (putF "own_cause" (V.str (cause s n).s) []).length ≤ 1 := Nat.le_refl _
    generalize putF "own_cause" (V.str (cause s n).s) [] = f1 at X3 lc l1 ⊢
    walk_at "rd"
    refine ⟨x, _, dx, _, rfl, upd_same, T.c_Verdict, T.n_Verdict_own_room, (by omega), ?_⟩
    obtain ⟨lc2, l2⟩ := fs_put (f := "own_room") (v := .non) lc l1 (by decide +kernel)
    rw [upd_upd]
    have X4 := X2.put (o := .ins (He.ga K "Verdict") dx (putF "own_room" .non f1))
    generalize putF "own_room" V.non f1 = f2 at X4 lc2 l2 ⊢
    walk_at "rd"
    refine ⟨x, _, dx, _, rfl, upd_same, T.c_Verdict, T.n_Verdict_own_window, (by omega), ?_⟩
    obtain ⟨lc3, l3⟩ := fs_put (f := "own_window") (v := .non) lc2 l2 (by decide +kernel)
    rw [upd_upd]
    have X5 := X2.put (o := .ins (He.ga K "Verdict") dx (putF "own_window" .non f2))
    generalize putF "own_window" V.non f2 = f3 at X5 lc3 l3 ⊢
    walk_at "rd"
    have last : ∀ H' fs, H' x = some (.ins (He.ga K "Verdict") dx fs) → fs.lookup ("own_cause" : Str) = some (.str (cause s n).s) → fs.length ≤ 100 → SameX x H1 H' →
        sFld K (tVar 0) (tCallR (sp_breaking_run K) E0 (tCons (tFld K (tVar 0) "own_cause") (tCons (tProp (He.ga K "Scheme") (getSp (He.ga K "Scheme") "own_slot") [] E0 (tVar 3)) (tCons (tVar 2) (tCons (tVar 4) tNil))))) "own_run"
          { nx := fun _ H' => Q .non H', rt := Q } [some (.ref x), some (.ref p), some (.int n), some (.ref q), some (.int (modu s.wrap n))] H' := by
      intro H' fs hx' lc' l' X'
      have hq4 := hq.sameX hx1 X'
      obtain ⟨dq4, wv4, fv4, hq4, hwv4, hfv4⟩ := hq4
      walk_at "rd"
      refine ⟨x, _, dx, fs, _, rfl, hx', T.c_Verdict, T.n_Verdict_own_cause, lc', ?_⟩
      walk_at "rd"
      refine r_get hq4 sf_slot ?_
      walk_at "rd"
      refine ⟨cause s n, s.slot, s.wrap, n, rfl, hok.slot, hok.wrap, hn, hn2, cause_big, cause_in, fun v H6 e6 => ?_⟩
      walk_at "rd"
      refine ⟨x, _, dx, _, rfl, e6 _ _ hx', T.c_Verdict, T.n_Verdict_own_run, (by omega), ?_⟩
      refine k _ ⟨dx, _, upd_same, ?_⟩ ((SameX.pre e1 (X'.same e6)).put)
      rw [lookup_putF, if_neg (by decide +kernel)]
      exact lc'
    refine ite2 (fun h1 => ?_) (fun h1 => ?_)
    · have h1 : 1 ≤ modu s.wrap n := of_decide_eq_true h1
      walk_at "rd"
      have hqa := hq.sameX hx1 X5
      obtain ⟨dqa, wva, fva, hqa, hwva, hfva⟩ := hqa
      refine r_get hqa sf_full ?_
      walk_at "rd"
      refine r_get hqa sf_when ?_
      walk_at "rd"
      refine ⟨fva, s.full, s.when, n, modu s.wrap n, rfl, hfva, hok.full, fun H6 e6 => ?_⟩
      have X6 := X5.same e6
      walk_at "rd"
      refine ⟨x, _, dx, _, rfl, e6 _ _ upd_same, T.c_Verdict, T.n_Verdict_own_room, (by omega), ?_⟩
      obtain ⟨lc4, l4⟩ := fs_put (f := "own_room") (v := optV (room s.full s.when n (modu s.wrap n))) lc3 l3 (by decide +kernel)
      have X7 := X6.put (o := .ins (He.ga K "Verdict") dx (putF "own_room" (optV (room s.full s.when n (modu s.wrap n))) f3))
      generalize putF "own_room" (optV (room s.full s.when n (modu s.wrap n))) f3 = f4 at X7 lc4 l4 ⊢
      walk_at "rd"
      have hqb := hq.sameX hx1 X7
      obtain ⟨dqb, wvb, fvb, hqb, hwvb, hfvb⟩ := hqb
      refine r_get hqb sf_slot ?_
      walk_at "rd"
      refine ⟨s.slot, s.wrap, n, rfl, hok.slot, hn, h1, fun H8 e8 => ?_⟩
      have X8 := X7.same e8
      walk_at "rd"
      refine ⟨x, _, dx, _, rfl, e8 _ _ upd_same, T.c_Verdict, T.n_Verdict_own_window, (by omega), ?_⟩
      obtain ⟨lc5, l5⟩ := fs_put (f := "own_window") (v := .int (win s.slot s.wrap n)) lc4 l4 (by decide +kernel)
      exact last _ _ upd_same lc5 (by omega) X8.put
    · refine r_next ?_
      exact last _ _ upd_same lc3 (by omega) X5
/-- Verdict(..) -/
theorem mk_vd {C : Addr} {H : Hp} {Q : VK} {E : XK} {p : Addr} {s : Sc} {n : Int} (hC : C = He.ga K "Verdict") (hp : ScAt K H p s) (hok : s.ok) (hn : 1 ≤ n) (hn2 : n ≤ 1000000000000000000000000000000)
    (k : ∀ v H', Same H H' → VdAt K H' v (cause s n) → Q (.ref v) H') (x dx : Addr) (nx : H x = none) (nd : H dx = none) (ne : dx ≠ x) :
    sp_Verdict_init K (.ref x :: [.ref p, .int n]) (upd (upd H dx (.own x)) x (.ins C dx [])) (fun v H2 => v = .non ∧ Q (.ref x) H2) E := by
  subst hC
  have e0 : Same H (upd (upd H dx (.own x)) x (.ins (He.ga K "Verdict") dx [])) := fun b o e => by
    rw [upd_ne (ne_of_none e nx), upd_ne (ne_of_none e nd)]
    exact e
  exact ⟨x, dx, p, s, n, rfl, upd_same, hp.same e0, hok, hn, hn2, fun H' hv e => ⟨rfl, k x H' (e.made nx nd) hv⟩⟩
def sp_verdict_of (K : Fr) : Sp := fun vs H Q _ => ∃ (p : Addr) (s : Sc) (n : Int), vs = [.ref p, .int n] ∧ ScAt K H p s ∧ s.ok ∧ 1 ≤ n ∧ n ≤ 1000000000000000000000000000000 ∧
  ∀ v H', Same H H' → VdAt K H' v (cause s n) → Q (.ref v) H'
abbrev n_verdict_of : List Str := ["scheme", "n"]
theorem sc_verdict_of : FnScope n_verdict_of ["scheme", "n"] (defScope s_verdict_of) := ⟨rfl, rfl, rfl, by decide +kernel, rfl, by decide +kernel, by decide +kernel⟩
theorem kp_verdict_of (T : Tx K mg) : PySem.W.keepIn K (.ref (He.ga K "verdict_of")) = true := kp_of T.d_verdict_of
theorem ok_verdict_of (T : Tx K mg) : FnR P w K mg base CX0 10 (He.ga K "verdict_of") (sp_verdict_of K) := by
  refine mk0 T.d_verdict_of sc_verdict_of (fun _ _ _ _ _ _ us hl => match us, hl with | [_, _], _ => rfl) (fun vs H Q E h => ?_) (fun cdv A outer s H vs Q E hr h => ?_)
  · obtain ⟨p, s, n, rfl, _⟩ := h
    rfl
  · obtain ⟨p, s, n, rfl, hp, hok, hn, hn2, k⟩ := h
    refine ⟨_, (pss_one (ps_ret (StX.pe_makeR T.k_Verdict (ok_Verdict_init T) (hr.mono (by decide)) rfl T.g_Verdict pass0 (pa_cons (pv 0) (pa_cons (pv 1) pa_nil))))), r_start (σ := [some (.ref p), some (.int n)]) rfl ?_⟩
    walk_at "rd"
    exact mk_vd rfl hp hok hn hn2 k
def sp_Verdict_bool (K : Fr) : Sp := fun vs H Q _ => ∃ (v : Addr) (c : Ca), vs = [.ref v] ∧ VdAt K H v c ∧ ∀ H', Same H H' → Q (.bl (decide (c = .right))) H'
abbrev n_Verdict_bool : List Str := ["self"]
theorem sc_Verdict_bool : FnScope n_Verdict_bool ["self"] (defScope s_Verdict_bool) := ⟨rfl, rfl, rfl, by decide +kernel, rfl, by decide +kernel, by decide +kernel⟩
theorem ok_Verdict_bool (T : Tx K mg) : FnR P w K mg base CX0 1 (He.ma K (He.ga K "Verdict") "__bool__") (sp_Verdict_bool K) := by
  refine mk0 T.d_Verdict_bool sc_Verdict_bool (fun _ _ _ _ _ _ us hl => match us, hl with | [_], _ => rfl) (fun vs H Q E h => ?_) (fun cdv A outer s H vs Q E hr h => ?_)
  · obtain ⟨v, c, rfl, _⟩ := h
    rfl
  · obtain ⟨v, c, rfl, ⟨dx, fs, hv, hl⟩, k⟩ := h
    refine ⟨_, (pss_one (ps_ret (pe_cmpR op_in_seq (pe_fld (pv 0) rfl) (pe_tup (pa_cons pe_str pa_nil)) rfl))), r_start (σ := [some (.ref v)]) rfl ?_⟩
    walk_at "rd"
    refine ⟨v, _, dx, fs, _, rfl, hv, T.c_Verdict, T.n_Verdict_own_cause, hl, ?_⟩
    walk_at "rd"
    intro t nt
    refine r_in (.inr (SqT.of upd_same)) rfl rfl ?_
    rw [show inV (.str c.s) [.str "right"] = decide (c = .right) by cases c <;> decide +kernel]
    exact k _ (same_new nt)
end
end Ls
namespace Ls
open PySem PySem.Spec PyProof.Rows L2
def Ch.nm (c : Ch) : Str := pname c.part
section
variable {w : World} {K : Fr} {mg : Str → Option Value} {base : Heap}
/-! ### changes -/
def PV (K : Fr) (H : Hp) (v : V) : Ch → Prop
  | .wrap x => PWr K H v x
  | .slot s => v = .str s.s
  | .empty e => v = .str e.s
  | .full f => PFu K H v f
  | .when h => v = .str h.s
def ChAt (K : Fr) (H : Hp) (v : V) (c : Ch) : Prop := ∃ p y, v = .ref p ∧ H p = some (.tup [.str c.nm, y]) ∧ PV K H y c
theorem PV.same {H H' : Hp} {v : V} {c : Ch} (e : Same H H') (h : PV K H v c) : PV K H' v c := by
  cases c with
  | wrap x => exact PWr.same e h
  | full f => exact PFu.same e h
  | slot s => exact h
  | empty s => exact h
  | «when» s => exact h
theorem ChAt.same {H H' : Hp} {v : V} {c : Ch} (e : Same H H') (h : ChAt K H v c) : ChAt K H' v c := let ⟨p, y, h1, h2, h3⟩ := h; ⟨p, y, h1, e _ _ h2, h3.same e⟩
def ChsAt (K : Fr) (H : Hp) (xs : List V) (cs : List Ch) : Prop := xs.length = cs.length ∧ ∀ (i : Nat) (c : Ch), cs[i]? = some c → ∃ v, xs[i]? = some v ∧ ChAt K H v c
theorem ChsAt.same {H H' : Hp} {xs : List V} {cs : List Ch} (e : Same H H') (h : ChsAt K H xs cs) : ChsAt K H' xs cs :=
  ⟨h.1, fun i c hc => let ⟨v, h1, h2⟩ := h.2 i c hc; ⟨v, h1, h2.same e⟩⟩
theorem ChsAt.at {H : Hp} {xs : List V} {cs : List Ch} (h : ChsAt K H xs cs) {i : Nat} {v : V} (hv : xs[i]? = some v) : ∃ c, cs[i]? = some c ∧ ChAt K H v c := by
  have hi : i < cs.length := by
    rw [← h.1]
    exact (List.getElem?_eq_some_iff.mp hv).1
  obtain ⟨v', h1, h2⟩ := h.2 i _ (List.getElem?_eq_getElem hi)
  rw [hv] at h1
  cases h1
  exact ⟨_, List.getElem?_eq_getElem hi, h2⟩
def MeAt (K : Fr) (H : Hp) (m : Addr) (s : Sc) (cs : List Ch) : Prop :=
  ∃ dx q l xs, H m = some (.ins (He.ga K "Menu") dx [("plain", .ref q), ("rows", .ref l)]) ∧ ScAt K H q s ∧ H l = some (.lst xs) ∧ ChsAt K H xs cs
theorem MeAt.same {H H' : Hp} {m : Addr} {s : Sc} {cs : List Ch} (e : Same H H') (h : MeAt K H m s cs) : MeAt K H' m s cs :=
  let ⟨dx, q, l, xs, h1, h2, h3, h4⟩ := h; ⟨dx, q, l, xs, e _ _ h1, h2.same e, e _ _ h3, h4.same e⟩
theorem nm_in (c : Ch) : decide (c.nm ∈ (["wrap", "slot", "empty", "full", "when"] : List Str)) = true := by
  have h : ∀ i : Fin 5, decide (pname i.val ∈ (["wrap", "slot", "empty", "full", "when"] : List Str)) = true := by decide +kernel
  cases c with
  | wrap _ => exact h 0
  | slot _ => exact h 1
  | empty _ => exact h 2
  | full _ => exact h 3
  | «when» _ => exact h 4
def sp_is_change (K : Fr) : Sp := fun vs H Q _ => ∃ (v : V) (c : Ch), vs = [v] ∧ ChAt K H v c ∧ c.ok ∧ ∀ H', Same H H' → Q (.bl true) H'
abbrev n_is_change : List Str := ["thing", "part", "value"]
theorem sc_is_change : FnScope n_is_change ["thing"] (defScope s_is_change) := ⟨rfl, rfl, rfl, by decide +kernel, rfl, by decide +kernel, by decide +kernel⟩
theorem kp_is_change (T : Tx K mg) : PySem.W.keepIn K (.ref (He.ga K "is_change")) = true := kp_of T.d_is_change
theorem ok_is_change (T : Tx K mg) : FnR P w K mg base CX0 4 (He.ga K "is_change") (sp_is_change K) := by
  refine mk0 T.d_is_change sc_is_change (fun _ _ _ _ _ _ us hl => match us, hl with | [_], _ => rfl) (fun vs H Q E h => ?_) (fun cdv A outer s H vs Q E hr h => ?_)
  · obtain ⟨v, c, rfl, _⟩ := h
    rfl
  · obtain ⟨v, c, rfl, hv, hok, k⟩ := h
    obtain ⟨p, y, rfl, hp, hy⟩ := hv
    refine ⟨_, (pss_cons (ps_if (PW.pt (pw_or (pt_not (pt_val (pe_callB call_isi (by rfl) T.f_isinstance (by decide +kernel) (pa_cons (pv 0) (pa_cons (pe_bltn (v := .ty "tuple") (u := .type "tuple") (by rfl) T.f_tuple (by decide +kernel) rfl) pa_nil))))) (pw_or (pt_cmpR op_ne (pe_callB call_len_seq (by rfl) T.f_len PySem.boot_len (pa_cons (pv 0) pa_nil)) pe_int (nomark _)) (pw_or1 (pt_not (pt_val (pe_callR (ok_is_word T) (hr.mono (by decide)) rfl T.g_is_word (kp_is_word T) pass0 (pa_cons (pe_ix ix_tup (pv 0) pe_int (fun _ _ => rfl)) (pa_cons (pe_glob (v := .ref _) rfl T.g_PARTS rfl) pa_nil))))))))) (pss_one (ps_ret pe_bl)) pss_nil)
      (pss_cons (ps_asg (pv 0) (pg_tup rfl (pgs_cons (pg_name (i := 1) sc_is_change.nd rfl (Or.inl rfl)) (pgs_cons (pg_name (i := 2) sc_is_change.nd rfl (Or.inl rfl)) pgs_nil))))
      (pss_cons (ps_if (pt_cmpR op_eq (pv 1) pe_str (nomark _)) (pss_one (ps_ret (pe_callR (ok_is_wrap T) (hr.mono (by decide)) rfl T.g_is_wrap (kp_is_wrap T) pass0 (pa_cons (pv 2) pa_nil)))) pss_nil)
      (pss_cons (ps_if (pt_cmpR op_eq (pv 1) pe_str (nomark _)) (pss_one (ps_ret (pe_callR (ok_is_slot T) (hr.mono (by decide)) rfl T.g_is_slot (kp_is_slot T) pass0 (pa_cons (pv 2) (pa_cons pe_int pa_nil))))) pss_nil)
      (pss_cons (ps_if (pt_cmpR op_eq (pv 1) pe_str (nomark _)) (pss_one (ps_ret (pe_callR (ok_is_word T) (hr.mono (by decide)) rfl T.g_is_word (kp_is_word T) pass0 (pa_cons (pv 2) (pa_cons (pe_tup (pa_cons pe_str (pa_cons pe_str (pa_cons pe_str pa_nil)))) pa_nil))))) pss_nil)
      (pss_cons (ps_if (pt_cmpR op_eq (pv 1) pe_str (nomark _)) (pss_one (ps_ret (pe_callR (ok_is_full_rule T) (hr.mono (by decide)) rfl T.g_is_full_rule (kp_is_full_rule T) pass0 (pa_cons (pv 2) pa_nil)))) pss_nil)
      (pss_one (ps_ret (pe_callR (ok_is_word T) (hr.mono (by decide)) rfl T.g_is_word (kp_is_word T) pass0 (pa_cons (pv 2) (pa_cons (pe_tup (pa_cons pe_str (pa_cons pe_str (pa_cons pe_str pa_nil)))) pa_nil))))))))))), r_start (σ := [some (.ref p), none, none]) rfl ?_⟩
    walk_at "rd"
    refine r_isi (.ty "tuple") (.base (.tup hp)) (b := true) (kit_ty (by decide +kernel)) ?_
    walk_at "rd"
    refine ⟨_, _, rfl, .inr (SqT.of hp), ?_⟩
    walk_at "rd"
    refine itef (by rfl) ?_
    walk_at "rd"
    refine r_ixT (SqT.of hp) (v := .str c.nm) (by rfl) ?_
    walk_at "rd"
    refine ⟨c.nm, _, ["wrap", "slot", "empty", "full", "when"], rfl, w_PARTS T _, ?_⟩
    rw [nm_in]
    walk_at "rd"
    refine r_gtup (SqT.of hp) rfl ?_
    walk_at "rd"
    cases c with
    | wrap x =>
      refine itet (by exact (by decide +kernel : decide (V.str (pname 0) = V.str "wrap") = true)) ?_
      walk_at "rd"
      exact ⟨y, x, rfl, hy, hok, k _ (Same.refl _)⟩
    | slot s =>
      obtain rfl : y = .str s.s := hy
      refine itef (by exact (by decide +kernel : decide (V.str (pname 1) = V.str "wrap") = false)) ?_
      walk_at "rd"
      refine itet (by exact (by decide +kernel : decide (V.str (pname 1) = V.str "slot") = true)) ?_
      walk_at "rd"
      refine ⟨s, _, .wid 1, rfl, rfl, fun H' e => ?_⟩
      rw [show slOk s (.wid 1) = true by cases s <;> rfl]
      exact k _ e
    | empty s =>
      obtain rfl : y = .str s.s := hy
      refine itef (by exact (by decide +kernel : decide (V.str (pname 2) = V.str "wrap") = false)) ?_
      walk_at "rd"
      refine itef (by exact (by decide +kernel : decide (V.str (pname 2) = V.str "slot") = false)) ?_
      walk_at "rd"
      refine itet (by exact (by decide +kernel : decide (V.str (pname 2) = V.str "empty") = true)) ?_
      walk_at "rd"
      intro t nt
      refine ⟨s.s, t, ["same", "count", "note"], rfl, SqT.of upd_same, ?_⟩
      rw [show decide (s.s ∈ (["same", "count", "note"] : List Str)) = true by cases s <;> decide +kernel]
      exact k _ (same_new nt)
    | full f =>
      refine itef (by exact (by decide +kernel : decide (V.str (pname 3) = V.str "wrap") = false)) ?_
      walk_at "rd"
      refine itef (by exact (by decide +kernel : decide (V.str (pname 3) = V.str "slot") = false)) ?_
      walk_at "rd"
      refine itef (by exact (by decide +kernel : decide (V.str (pname 3) = V.str "empty") = false)) ?_
      walk_at "rd"
      refine itet (by exact (by decide +kernel : decide (V.str (pname 3) = V.str "full") = true)) ?_
      walk_at "rd"
      exact ⟨y, f, rfl, hy, hok, k⟩
    | «when» s =>
      obtain rfl : y = .str s.s := hy
      refine itef (by exact (by decide +kernel : decide (V.str (pname 4) = V.str "wrap") = false)) ?_
      walk_at "rd"
      refine itef (by exact (by decide +kernel : decide (V.str (pname 4) = V.str "slot") = false)) ?_
      walk_at "rd"
      refine itef (by exact (by decide +kernel : decide (V.str (pname 4) = V.str "empty") = false)) ?_
      walk_at "rd"
      refine itef (by exact (by decide +kernel : decide (V.str (pname 4) = V.str "full") = false)) ?_
      walk_at "rd"
      intro t nt
      refine ⟨s.s, t, ["refuse", "drop", "over"], rfl, SqT.of upd_same, ?_⟩
      rw [show decide (s.s ∈ (["refuse", "drop", "over"] : List Str)) = true by cases s <;> decide +kernel]
      exact k _ (same_new nt)
def sp_Menu_init (K : Fr) : Sp := fun vs H Q _ => ∃ (x dx p t : Addr) (s : Sc) (xs : List V) (cs : List Ch), vs = [.ref x, .ref p, .ref t] ∧ H x = some (.ins (He.ga K "Menu") dx []) ∧ ScAt K H p s ∧ s.ok ∧ H t = some (.tup xs) ∧ ChsAt K H xs cs ∧ (∀ c ∈ cs, c.ok) ∧ cs.length ≤ 6 ∧
  ∀ H', MeAt K H' x s cs → SameX x H H' → Q .non H'
theorem PV.sameX {H H' : Hp} {x C dx : Addr} {v : V} {c : Ch} (hx : H x = some (.ins C dx [])) (e : SameX x H H') (h : PV K H v c) : PV K H' v c := by
  cases c with
  | wrap y => exact PWr.sameX hx e h
  | full f => exact PFu.sameX hx e h
  | slot s => exact h
  | empty s => exact h
  | «when» s => exact h
theorem ChsAt.sameX {H H' : Hp} {x C dx : Addr} {xs : List V} {cs : List Ch} (hx : H x = some (.ins C dx [])) (e : SameX x H H') (h : ChsAt K H xs cs) : ChsAt K H' xs cs :=
  ⟨h.1, fun i c hc => let ⟨v, h1, p, y, h2, h3, h4⟩ := h.2 i c hc; ⟨v, h1, p, y, h2, keepX hx e h3 (fun z => by cases z), h4.sameX hx e⟩⟩
abbrev n_Menu_init : List Str := ["self", "scheme", "changes", "at", "change"]
theorem sc_Menu_init : FnScope n_Menu_init ["self", "scheme", "changes"] (defScope s_Menu_init) := ⟨rfl, rfl, rfl, by decide +kernel, rfl, by decide +kernel, by decide +kernel⟩
theorem ok_Menu_init (T : Tx K mg) : FnR P w K mg base CX0 7 (He.ma K (He.ga K "Menu") "__init__") (starSp 2 (sp_Menu_init K)) := by
  refine mkStar (ps := ["self", "scheme"]) T.d_Menu_init sc_Menu_init (fun kV doc pm an cdv ct => StX.bind_star2 (B := fun l => bindArgs (PySem.W.fnOf _ _ _ _ _ .none kV doc pm an cdv ct) ⟨l, []⟩) (fun _ _ => rfl) (fun _ _ _ _ => rfl)) (fun cdv A outer s H vs Q E hr h => ?_)
  obtain ⟨x, dx, p, t, s, xs, cs, rfl, hx, hp, hok, ht, hcs, hco, hl, k⟩ := h
  refine ⟨_, (pss_cons (ps_if (pt_cmpR op_gt (pe_callB call_len_seq (by rfl) T.f_len PySem.boot_len (pa_cons (pv 2) pa_nil)) (pe_glob (v := .int 6) rfl T.i_MOST_CHANGES.choose_spec ⟨_, rfl⟩) (nomark _)) (pss_one ps_never) pss_nil)
      (pss_cons (ps_for PassesOwn.never rfl (pi_enumT rfl T.f_enumerate (pa_cons (pv 2) pa_nil)) (pg_tup rfl (pgs_cons (pg_name (i := 3) sc_Menu_init.nd rfl (Or.inl rfl)) (pgs_cons (pg_name (i := 4) sc_Menu_init.nd rfl (Or.inl rfl)) pgs_nil))) (pss_one (ps_if (pt_not (pt_val (pe_callR (ok_is_change T) (hr.mono (by decide)) rfl T.g_is_change (kp_is_change T) pass0 (pa_cons (pv 4) pa_nil)))) (pss_one ps_never) pss_nil)))
      (pss_cons (ps_fld (pv 0) (pe_callR (ok_copy_of T) (hr.mono (by decide)) rfl T.g_copy_of (kp_copy_of T) pass0 (pa_cons (pv 1) pa_nil)) rfl)
      (pss_one (ps_fld (pv 0) (pe_callTy call_list_of (by rfl) T.f_list (by decide +kernel) (pa_cons (pv 2) pa_nil)) rfl))))), r_start (σ := [some (.ref x), some (.ref p), some (.ref t), none, none]) rfl ?_⟩
  walk_at "rd"
  refine ⟨_, _, rfl, .inr (SqT.of ht), ?_⟩
  walk_at "rd"
  refine itef (decide_eq_false (by have := hcs.1; omega)) ?_
  walk_at "rd"
  refine ⟨_, rfl, t, xs, rfl, SqT.of ht, for_enumT (xs := xs) (fun i σ H' => ∃ a b, σ = [some (.ref x), some (.ref p), some (.ref t), a, b] ∧ Same H H') ⟨_, _, rfl, Same.refl _⟩ (fun i σ H' _ ⟨_, _, _, e⟩ => SqT.of (e _ _ ht)) ?_ ?_⟩
  · rintro i v u σ H' hi ⟨a, b, rfl, e⟩ nu
    obtain ⟨c, hc, hv⟩ := hcs.at hi
    refine r_gtup (SqT.of upd_same) rfl ?_
    walk_at "rd"
    refine ⟨v, c, rfl, hv.same (same_new2 e nu), hco _ (List.mem_of_getElem? hc), fun H2 e2 => ?_⟩
    walk_at "rd"
    exact ⟨_, _, rfl, (same_new2 e nu).trans e2⟩
  · rintro σ H' ⟨a, b, rfl, e⟩
    walk_at "rd"
    refine ⟨p, s, rfl, hp.same e, hok, fun q H1 e1 hq => ?_⟩
    have e2 := e.trans e1
    walk_at "rd"
    have hx1 := e2 _ _ hx
    refine ⟨x, _, dx, _, rfl, hx1, T.c_Menu, T.n_Menu_plain, (by show 0 < 1000; decide), ?_⟩
    have X1 : SameX x H1 (upd H1 x (.ins (He.ga K "Menu") dx (putF "plain" (.ref q) []))) := SameX.refl.put
    rw [put0] at X1 ⊢
    walk_at "rd"
    have ht1 := keepX hx1 X1 (e2 _ _ ht) (fun z => by cases z)
    refine ⟨t, xs, rfl, .inr (SqT.of ht1), fun l nl => ?_⟩
    have X2 := X1.same (same_new (o := .lst xs) nl)
    have nxl : l ≠ x := fun z => by
      rw [z, upd_same] at nl
      cases nl
    walk_at "rd"
    refine ⟨x, _, dx, _, rfl, (by rw [upd_ne (Ne.symm nxl)]; exact upd_same), T.c_Menu, T.n_Menu_rows, (by show 1 < 1000; decide), ?_⟩
    rw [put1 (by decide +kernel), put0]
    have X3 := X2.put (o := .ins (He.ga K "Menu") dx [("plain", .ref q), ("rows", .ref l)])
    exact k _ ⟨dx, q, l, xs, upd_same, hq.sameX hx1 X3, (by rw [upd_ne nxl]; exact upd_same), (hcs.same e2).sameX hx1 X3⟩ (SameX.pre e2 X3)
/-- Menu(..) -/
theorem mk_menu {C : Addr} {H : Hp} {Q : VK} {E : XK} {p : Addr} {s : Sc} {xs : List V} {cs : List Ch} (hC : C = He.ga K "Menu") (hp : ScAt K H p s) (hok : s.ok) (hcs : ChsAt K H xs cs) (hco : ∀ c ∈ cs, c.ok) (hl : cs.length ≤ 6)
    (k : ∀ m H', Same H H' → MeAt K H' m s cs → Q (.ref m) H') (x dx : Addr) (nx : H x = none) (nd : H dx = none) (ne : dx ≠ x) :
    starSp 2 (sp_Menu_init K) (.ref x :: (.ref p :: xs)) (upd (upd H dx (.own x)) x (.ins C dx [])) (fun v H2 => v = .non ∧ Q (.ref x) H2) E := by
  subst hC
  refine ⟨[.ref x, .ref p], xs, rfl, rfl, Nat.le_trans (by have := hcs.1; omega) (Nat.le_of_lt (small1000 (n := 6) (by decide))), fun t nt => ?_⟩
  have e0 : Same H (upd (upd H dx (.own x)) x (.ins (He.ga K "Menu") dx [])) := fun b o e => by
    rw [upd_ne (ne_of_none e nx), upd_ne (ne_of_none e nd)]
    exact e
  have e1 := same_new2 (o := .tup xs) e0 nt
  have nxt : x ≠ t := fun z => by rw [← z, upd_same] at nt; cases nt
  refine ⟨x, dx, p, t, s, xs, cs, rfl, by rw [upd_ne nxt]; exact upd_same, hp.same e1, hok, upd_same, hcs.same e1, hco, hl, fun H' hm e => ⟨rfl, k x H' (fun b o q => ?_) hm⟩⟩
  exact e _ _ (e1 _ _ q) (ne_of_none q nx)
end
end Ls
namespace Ls
open PySem PySem.Spec PyProof.Rows L2
/-! ### rows of indexes -/
def firstOf (r : List Int) : Int := match r.getLast? with
  | none => 0
  | some a => a + 1
def exts (m : Nat) (r : List Int) : List (List Int) := (List.range ((m : Int) - firstOf r).toNat).map fun (j : Nat) => r ++ [firstOf r + Int.ofNat j]
def sLev (m : Nat) : Nat → List (List Int)
  | 0 => [[]]
  | j + 1 => (sLev m j).flatMap (exts m)
def fLev (m : Nat) : Nat → List (List Int)
  | 0 => [[]]
  | j + 1 => fLev m j ++ sLev m (j + 1)
def allSets (m : Nat) : List (List Int) := fLev m (m + 1)
theorem lev_facts : ∀ m : Fin 7, ∀ j : Fin 8, j.val ≤ m.val + 1 → ((sLev m.val j.val = [] ↔ j.val = m.val + 1) ∧ (sLev m.val j.val).length ≤ 64 ∧ (fLev m.val j.val).length ≤ 64 ∧ ∀ r ∈ sLev m.val j.val, r.length ≤ 6 ∧ 0 ≤ firstOf r ∧ firstOf r ≤ 6) := by
  decide +kernel
theorem exts_len {m : Nat} {r : List Int} (h : m ≤ 6) (h1 : 0 ≤ firstOf r) : (exts m r).length ≤ 6 := by
  unfold exts
  rw [List.length_map, List.length_range]
  omega
theorem flat_take {α β : Type} (f : α → List β) (xs : List α) (i : Nat) : ((xs.take i).flatMap f).length ≤ (xs.flatMap f).length := by
  conv => rhs; rw [← List.take_append_drop i xs, List.flatMap_append, List.length_append]
  omega
theorem flat_succ {α β : Type} (f : α → List β) {xs : List α} {i : Nat} {x : α} (h : xs[i]? = some x) : (xs.take (i + 1)).flatMap f = (xs.take i).flatMap f ++ f x := by
  rw [List.take_add_one, h, List.flatMap_append]
  simp
/-- lists of ints at addresses of the kind N -/
inductive RowsAt (N : Addr → Prop) (H : Hp) : List V → List (List Int) → Prop where
  | nil : RowsAt N H [] []
  | cons {p : Addr} {r : List Int} {xs : List V} {rs : List (List Int)} : N p → H p = some (.lst (r.map V.int)) → RowsAt N H xs rs → RowsAt N H (.ref p :: xs) (r :: rs)
namespace RowsAt
variable {N N' : Addr → Prop} {H H' : Hp} {xs ys : List V} {rs qs : List (List Int)}
theorem imp (f : ∀ (p : Addr) (r : List Int), N p → H p = some (.lst (r.map V.int)) → N' p ∧ H' p = some (.lst (r.map V.int))) (h : RowsAt N H xs rs) : RowsAt N' H' xs rs := by
  induction h with
  | nil => exact .nil
  | cons a b _ ih => exact .cons (f _ _ a b).1 (f _ _ a b).2 ih
theorem same (e : Same H H') (h : RowsAt N H xs rs) : RowsAt N H' xs rs := h.imp fun p r a b => ⟨a, e _ _ b⟩
theorem weak (f : ∀ p, N p → N' p) (h : RowsAt N H xs rs) : RowsAt N' H xs rs := h.imp fun p r a b => ⟨f p a, b⟩
theorem put {D : Addr} {o : HO} (n : ∀ p, N p → p ≠ D) (h : RowsAt N H xs rs) : RowsAt N (upd H D o) xs rs := h.imp fun p r a b => ⟨a, by rw [upd_ne (n p a)]; exact b⟩
theorem app (h : RowsAt N H xs rs) (k : RowsAt N H ys qs) : RowsAt N H (xs ++ ys) (rs ++ qs) := by
  induction h with
  | nil => exact k
  | cons a b _ ih => exact .cons a b ih
theorem one {p : Addr} {r : List Int} (n : N p) (h : H p = some (.lst (r.map V.int))) : RowsAt N H [.ref p] [r] := .cons n h .nil
theorem len (h : RowsAt N H xs rs) : xs.length = rs.length := by
  induction h with
  | nil => rfl
  | cons _ _ _ ih => exact congrArg (· + 1) ih
theorem at_ (h : RowsAt N H xs rs) : ∀ {i : Nat} {v : V}, xs[i]? = some v → ∃ p r, v = .ref p ∧ rs[i]? = some r ∧ N p ∧ H p = some (.lst (r.map V.int)) := by
  induction h with
  | nil => intro i v e; simp at e
  | cons a b _ ih =>
    intro i v e
    cases i with
    | zero =>
      cases (Option.some.inj e)
      exact ⟨_, _, rfl, rfl, a, b⟩
    | succ i => exact ih e
end RowsAt
/-! ### as data -/
def rD (r : List Int) : PyData := .list (r.map PyData.int)
def rsD (rs : List (List Int)) : PyData := .list (rs.map rD)
theorem ints_lay : ∀ r : List Int, PyData.canLayAll0 (r.map PyData.int) = true
  | [] => by simp [PyData.canLayAll0]
  | a :: r => by simp [PyData.canLayAll0, PyData.canLay0, ints_lay r]
theorem ints_depth : ∀ r : List Int, PyData.depthAll (r.map PyData.int) = 0
  | [] => by simp [PyData.depthAll]
  | a :: r => by simp [PyData.depthAll, PyData.depth, ints_depth r]
theorem rows_lay : ∀ rs : List (List Int), PyData.canLayAll0 (rs.map rD) = true
  | [] => by simp [PyData.canLayAll0]
  | r :: rs => by simp [PyData.canLayAll0, PyData.canLay0, rD, ints_lay, rows_lay rs]
theorem rows_depth : ∀ rs : List (List Int), PyData.depthAll (rs.map rD) ≤ 1
  | [] => by simp [PyData.depthAll]
  | r :: rs => by
    have h := rows_depth rs
    simp only [List.map_cons, PyData.depthAll, rD, PyData.depth, ints_depth]
    omega
theorem shaped_of {d : PyData} (h : d.canLay0 = true) (h2 : d.depth ≤ 64) : SeqAt.shaped d = true := by
  show (d.canLay0 && decide (d.depth ≤ 64)) = true
  rw [h, decide_eq_true h2]
  rfl
theorem rD_shaped (r : List Int) : SeqAt.shaped (rD r) = true := shaped_of (by simp only [rD, PyData.canLay0]; exact ints_lay r) (by simp only [rD, PyData.depth, ints_depth]; omega)
theorem rsD_shaped (rs : List (List Int)) : SeqAt.shaped (rsD rs) = true := shaped_of (by simp only [rsD, PyData.canLay0]; exact rows_lay rs) (by have := rows_depth rs; simp only [rsD, PyData.depth]; omega)
theorem ints_eqv : ∀ r q : List Int, PyData.eqvAll (r.map PyData.int) (q.map PyData.int) = decide (r = q)
  | [], [] => by simp [PyData.eqvAll]
  | [], _ :: _ => by simp [PyData.eqvAll]
  | _ :: _, [] => by simp [PyData.eqvAll]
  | a :: r, b :: q => by
    simp only [List.map_cons, PyData.eqvAll, PyData.eqv, ints_eqv r q]
    by_cases h : a = b <;> by_cases h2 : r = q <;> simp [h, h2]
theorem rD_eqv (r q : List Int) : PyData.eqv (rD r) (rD q) = decide (r = q) := by
  simp only [rD, PyData.eqv]
  exact ints_eqv r q
theorem rows_eqv : ∀ rs qs : List (List Int), PyData.eqvAll (rs.map rD) (qs.map rD) = decide (rs = qs)
  | [], [] => by simp [PyData.eqvAll]
  | [], _ :: _ => by simp [PyData.eqvAll]
  | _ :: _, [] => by simp [PyData.eqvAll]
  | a :: r, b :: q => by
    simp only [List.map_cons, PyData.eqvAll, rD_eqv, rows_eqv r q]
    by_cases h : a = b <;> by_cases h2 : r = q <;> simp [h, h2]
theorem rsD_eqv (rs qs : List (List Int)) : PyData.eqv (rsD rs) (rsD qs) = decide (rs = qs) := by
  simp only [rsD, PyData.eqv]
  exact rows_eqv rs qs
theorem dp_ints {K : Fr} {H : Hp} : ∀ r : List Int, DpAll K H (r.map V.int) (r.map PyData.int)
  | [] => .nil
  | a :: r => .cons (.int a) (dp_ints r)
theorem dp_row {K : Fr} {H : Hp} {p : Addr} {r : List Int} (h : H p = some (.lst (r.map V.int))) : Dp K H (.ref p) (rD r) := .lst (SqL.of h) (dp_ints r)
theorem RowsAt.dp {K : Fr} {N : Addr → Prop} {H : Hp} {xs : List V} {rs : List (List Int)} (h : RowsAt N H xs rs) : DpAll K H xs (rs.map rD) := by
  induction h with
  | nil => exact .nil
  | cons a b _ ih => exact .cons (dp_row b) ih
theorem RowsAt.dpl {K : Fr} {N : Addr → Prop} {H : Hp} {l : Addr} {xs : List V} {rs : List (List Int)} (h : RowsAt N H xs rs) (hl : H l = some (.lst xs)) : Dp K H (.ref l) (rsD rs) := .lst (SqL.of hl) h.dp
theorem r_neD {K : Fr} {x y : V} {d e : PyData} {H : Hp} {Q : VK} (h1 : Dp K H x d) (h2 : Dp K H y e) (s1 : SeqAt.shaped d = true) (s2 : SeqAt.shaped e = true) (q : Q (.bl (!PyData.eqv d e)) H) : rNeD K x y H Q := ⟨d, e, h1, h2, s1, s2, q⟩
theorem r_eqD {K : Fr} {x y : V} {d e : PyData} {H : Hp} {Q : VK} (h1 : Dp K H x d) (h2 : Dp K H y e) (s1 : SeqAt.shaped d = true) (s2 : SeqAt.shaped e = true) (q : Q (.bl (PyData.eqv d e)) H) : rEqD K x y H Q := ⟨d, e, h1, h2, s1, s2, q⟩
theorem pe_never {X : Cx} {e : Expr} : PE X e (fun _ _ _ => False) := ⟨fun _ _ _ _ _ _ h => h.elim⟩
theorem free_of {H H' : Hp} {z : Addr} (e : Same H H') (n : H' z = none) : H z = none := by
  cases h : H z with
  | none => rfl
  | some o =>
    have z2 := e _ _ h
    rw [n] at z2
    cases z2
theorem r_yes {σ : L2.St} {H : Hp} {Q : Bool → Hp → Prop} (h : Q true H) : tYes σ H Q := h
theorem while_ix {c : TT} {tb : TS} {D : Ends} {σ : L2.St} {H : Hp} (Pv : Nat → L2.St → Hp → Prop) (m0 : Nat) (h0 : Pv m0 σ H)
    (hs : ∀ m σ H, Pv m σ H → c σ H fun b H1 => if b = true then ∃ N : L2.St → Hp → Prop, (∀ σ' H', N σ' H' → ∃ m', m' < m ∧ Pv m' σ' H') ∧ tb { D with nx := N, ct := N, bk := D.nx } σ H1 else D.nx σ H1) : tWhile c tb D σ H :=
  ⟨Pv, ⟨m0, h0⟩, hs⟩
section
variable {w : World} {K : Fr} {mg : Str → Option Value} {base : Heap}
def sp_look_at_goal (K : Fr) : Sp := fun vs H Q _ => ∃ (v : V) (n : Int), vs = [v, .int n] ∧ 1 ≤ n ∧ n ≤ 1000000000000000000000000000000 ∧ Q .non H
abbrev n_look_at_goal : List Str := ["menu", "goal", "wraps", "part", "value", "wrap"]
theorem sc_look_at_goal : FnScope n_look_at_goal ["menu", "goal"] (defScope s_look_at_goal) := ⟨rfl, rfl, rfl, by decide +kernel, rfl, by decide +kernel, by decide +kernel⟩
theorem kp_look_at_goal (T : Tx K mg) : PySem.W.keepIn K (.ref (He.ga K "look_at_goal")) = true := kp_of T.d_look_at_goal
theorem ok_look_at_goal (T : Tx K mg) : FnR P w K mg base CX0 4 (He.ga K "look_at_goal") (sp_look_at_goal K) := by
  refine mk0 T.d_look_at_goal sc_look_at_goal (fun _ _ _ _ _ _ us hl => match us, hl with | [_, _], _ => rfl) (fun vs H Q E h => ?_) (fun cdv A outer s H vs Q E hr h => ?_)
  · obtain ⟨v, n, rfl, _⟩ := h
    rfl
  · obtain ⟨v, n, rfl, h1, h2, k⟩ := h
    refine ⟨_, (pss_cons (ps_if (PW.pt (pw_and (pt_not (pt_val (pe_callR (ok_is_size T) (hr.mono (by decide)) rfl T.g_is_size (kp_is_size T) pass0 (pa_cons (pv 1) pa_nil)))) (pw_and1 (pt_not (pt_val pe_never))))) (pss_one ps_never) pss_nil)
      (pss_cons (ps_if (pt_val (pe_callR (ok_is_whole T) (hr.mono (by decide)) rfl T.g_is_whole (kp_is_whole T) pass0 (pa_cons (pv 1) pa_nil))) (pss_one ps_retN) pss_nil)
      pss_never)), r_start (σ := [some v, some (.int n), none, none, none, none]) rfl ?_⟩
    walk_at "rd"
    refine ⟨n, rfl, h1, h2, ?_⟩
    walk_at "rd"
    refine ⟨_, true, rfl, .inl ⟨n, rfl, rfl⟩, ?_⟩
    walk_at "rd"
    exact k
theorem small64 {n : Nat} (h : n ≤ 1000) : n ≤ sizeLine := Nat.le_of_lt (small1000 h)
theorem last_at (r : List Int) (h : r ≠ []) : ∃ a, r.getLast? = some a ∧ atI (r.map V.int) (-1) = some (.int a) := by
  obtain ⟨q, a, rfl⟩ : ∃ q a, r = q ++ [a] := ⟨r.dropLast, r.getLast h, (List.dropLast_concat_getLast h).symm⟩
  refine ⟨a, by simp, ?_⟩
  unfold atI ixN
  rw [if_neg (by decide), if_pos (by simp; omega), List.map_append, List.length_append, List.length_map]
  show (List.map V.int q ++ [V.int a])[((-1 : Int) + ((q.length + 1 : Nat) : Int)).toNat]? = _
  rw [show ((-1 : Int) + ((q.length + 1 : Nat) : Int)).toNat = (q.map V.int).length by rw [List.length_map]; omega, List.getElem?_append_right (Nat.le_refl _), Nat.sub_self]
  rfl
def sp_all_sets (K : Fr) : Sp := fun vs H Q _ => ∃ m : Nat, vs = [.int m] ∧ m ≤ 6 ∧ ∀ l xs H', Same H H' → H l = none → H' l = some (.lst xs) → RowsAt (fun p => H p = none) H' xs (allSets m) → Q (.ref l) H'
abbrev n_all_sets : List Str := ["many", "found", "shorter", "longer", "row", "first", "at"]
theorem sc_all_sets : FnScope n_all_sets ["many"] (defScope s_all_sets) := ⟨rfl, rfl, rfl, by decide +kernel, rfl, by decide +kernel, by decide +kernel⟩
theorem kp_all_sets (T : Tx K mg) : PySem.W.keepIn K (.ref (He.ga K "all_sets")) = true := kp_of T.d_all_sets
theorem ok_all_sets (T : Tx K mg) : FnR P w K mg base CX0 1 (He.ga K "all_sets") (sp_all_sets K) := by
  refine mk0 T.d_all_sets sc_all_sets (fun _ _ _ _ _ _ us hl => match us, hl with | [_], _ => rfl) (fun vs H Q E h => ?_) (fun cdv A outer s H vs Q E hr h => ?_)
  · obtain ⟨m, rfl, _⟩ := h
    rfl
  · obtain ⟨m, rfl, hm, k⟩ := h
    refine ⟨_, (pss_cons (ps_set (i := 1) sc_all_sets.nd rfl (Or.inl rfl) (pe_lst (pa_cons (pe_lst pa_nil) pa_nil)))
      (pss_cons (ps_set (i := 2) sc_all_sets.nd rfl (Or.inl rfl) (pe_lst (pa_cons (pe_lst pa_nil) pa_nil)))
      (pss_cons (ps_while PassesOwn.never (pt_cmpR (op_neD hr.units) (pv 2) (pe_lst pa_nil) (nomark _)) (pss_cons (ps_set (i := 3) sc_all_sets.nd rfl (Or.inl rfl) (pe_lst pa_nil))
      (pss_cons (ps_for PassesOwn.never rfl (pi_list (pv 2)) (pg_name (i := 4) sc_all_sets.nd rfl (Or.inr rfl)) (pss_cons (ps_set (i := 5) sc_all_sets.nd rfl (Or.inl rfl) pe_int)
      (pss_cons (ps_if (pt_cmpR (op_neD hr.units) (pv 4) (pe_lst pa_nil) (nomark _)) (pss_one (ps_set (i := 5) sc_all_sets.nd rfl (Or.inl rfl) (pe_op op_add (pe_ix ix_list (pv 4) (pe_un un_neg pe_int) (fun _ _ => rfl)) pe_int))) pss_nil)
      (pss_one (ps_set (i := 3) sc_all_sets.nd rfl (Or.inl rfl) (pe_op op_cat (pv 3) (pe_lc (own := [("at", 6)]) (g := gName 6) (tt := tYes) rfl sc_all_sets.nd (pi_range2 rfl T.f_range (pa_cons (pv 5) (pa_cons (pv 0) pa_nil))) (blkOk_by (N := n_all_sets) (sc := defScope s_all_sets) (by decide +kernel)) (fun _ _ _ _ _ => (pg_name (i := 6) sc_all_sets.nd rfl (Or.inl rfl))) (fun _ _ _ _ _ => pts_nil) (fun _ _ _ _ _ => (pe_op op_cat (pv 4) (pe_lst (pa_cons (pv 6) pa_nil)))))))))))
      (pss_cons (ps_set (i := 1) sc_all_sets.nd rfl (Or.inl rfl) (pe_op op_cat (pv 1) (pv 3)))
      (pss_one (ps_set (i := 2) sc_all_sets.nd rfl (Or.inl rfl) (pv 3)))))))
      (pss_one (ps_ret (pv 1)))))), r_start (σ := [some (.int m), none, none, none, none, none, none]) rfl ?_⟩
    walk_at "rd"
    intro p1 n1
    walk_at "rd"
    intro l1 m1
    walk_at "rd"
    intro p2 n2
    walk_at "rd"
    intro l2 m2
    walk_at "rd"
    have e1 := same_new (H := H) (o := .lst []) n1
    have e2 := same_new2 (o := .lst [.ref p1]) e1 m1
    have e3 := same_new2 (o := .lst []) e2 n2
    have e4 := same_new2 (o := .lst [.ref p2]) e3 m2
    refine while_ix (fun kk σ Hx => ∃ (j : Nat) (l s : Addr) (fx sx : List V) (a b c d : Option V), kk = m + 1 - j ∧ j ≤ m + 1 ∧ σ = [some (.int m), some (.ref l), some (.ref s), a, b, c, d] ∧ Same H Hx ∧ H l = none ∧ Hx l = some (.lst fx) ∧
      RowsAt (fun p => H p = none) Hx fx (fLev m j) ∧ Hx s = some (.lst sx) ∧ RowsAt (fun p => H p = none) Hx sx (sLev m j)) (m + 1) ?_ ?_
    · have a1 := ne_of_none (upd_same : upd H p1 (.lst []) p1 = _) m1
      have hl1 : H l1 = none := by
        rw [upd_ne (Ne.symm a1)] at m1
        exact m1
      have b1 : p2 ≠ l1 := fun z => by
        rw [z, upd_same] at n2
        cases n2
      have b2 : p2 ≠ p1 := fun z => by
        rw [z, upd_ne a1, upd_same] at n2
        cases n2
      have hp2 : H p2 = none := by
        rw [upd_ne b1, upd_ne b2] at n2
        exact n2
      have c1 := ne_of_none (upd_same : upd (upd (upd H p1 (.lst [])) l1 (.lst [.ref p1])) p2 (.lst []) p2 = _) m2
      have c2 : l2 ≠ l1 := fun z => by
        rw [z, upd_ne (Ne.symm b1), upd_same] at m2
        cases m2
      have c3 : l2 ≠ p1 := fun z => by
        rw [z, upd_ne (Ne.symm b2), upd_ne a1, upd_same] at m2
        cases m2
      refine ⟨0, l1, l2, [.ref p1], [.ref p2], none, none, none, none, rfl, Nat.zero_le _, rfl, e4, hl1, ?_, .one n1 ?_, upd_same, .one hp2 ?_⟩
      · rw [upd_ne (Ne.symm c2), upd_ne (Ne.symm b1), upd_same]
      · rw [upd_ne (Ne.symm c3), upd_ne (Ne.symm b2), upd_ne a1, upd_same]
        rfl
      · rw [upd_ne c1, upd_same]
        rfl
    · rintro kk σ Hx ⟨j, l, s, fx, sx, a, b, c, d, rfl, hj, rfl, e, nl, hl, rf, hs, rs⟩
      walk_at "rd"
      intro q nq
      refine r_neD ((rs.same (same_new nq)).dpl (same_new nq _ _ hs)) (.lst (SqL.of upd_same) .nil) (rsD_shaped _) (rsD_shaped []) ?_
      rw [show PyData.list [] = rsD [] from rfl, rsD_eqv]
      walk_at "rd"
      have e5 := same_new2 (o := .lst []) e nq
      obtain ⟨f1, f2, f3, f4⟩ := lev_facts ⟨m, by omega⟩ ⟨j, by omega⟩ hj
      have f1 : sLev m j = [] ↔ j = m + 1 := f1
      have f2 : (sLev m j).length ≤ 64 := f2
      have f3 : (fLev m j).length ≤ 64 := f3
      by_cases hz : sLev m j = []
      · refine itef (by rw [decide_eq_true hz]; rfl) ?_
        walk_at "rd"
        obtain rfl := f1.mp hz
        exact k l fx _ e5 nl (same_new nq _ _ hl) (rf.same (same_new nq))
      · refine itet (by rw [decide_eq_false hz]; rfl) ⟨_, fun _ _ h => h, ?_⟩
        have hj2 : j < m + 1 := by
          rcases Nat.lt_or_ge j (m + 1) with q | q
          · exact q
          · exact absurd (f1.mpr (by omega)) hz
        walk_at "rd"
        intro g ng
        walk_at "rd"
        have eg := same_new2 (o := .lst []) e5 ng
        have sg : Same Hx (upd (upd Hx q (.lst [])) g (.lst [])) := same_new2 (same_new nq) ng
        have hgn : H g = none := by
          cases hg : H g with
          | none => rfl
          | some o =>
            have z := e5 _ _ hg
            rw [ng] at z
            cases z
        refine ⟨.ref s, rfl, s, rfl, ⟨sx, SqL.of (sg _ _ hs)⟩, for_list (xs := sx) (fun i σ H' => ∃ (g : Addr) (lx : List V) (a b c : Option V), σ = [some (.int m), some (.ref l), some (.ref s), some (.ref g), a, b, c] ∧ Same Hx H' ∧ H g = none ∧
          H' g = some (.lst lx) ∧ RowsAt (fun p => H p = none) H' lx (((sLev m j).take i).flatMap (exts m))) ?_ (fun i σ H' _ ⟨_, _, _, _, _, _, e', _⟩ => SqL.of (e' _ _ hs)) ?_ ?_⟩
        · exact ⟨g, [], _, _, _, rfl, sg, hgn, upd_same, .nil⟩
        · rintro i v σ H' hi ⟨g', lx, a', b', c', rfl, e', ng', hg', rl⟩
          obtain ⟨p, r, rfl, hr', np, hp⟩ := (rs.same e').at_ hi
          obtain ⟨w1, w2, w3⟩ := f4 r (List.mem_of_getElem? hr')
          have len1 : (((sLev m j).take i).flatMap (exts m)).length ≤ 64 := Nat.le_trans (flat_take ..) (lev_facts ⟨m, by omega⟩ ⟨j + 1, by omega⟩ hj2).2.1
          have len2 := exts_len hm w2
          walk_at "rd"
          intro u nu
          have su := same_new (o := .lst []) nu
          refine r_neD (dp_row (su _ _ hp)) (.lst (SqL.of upd_same) .nil) (rD_shaped _) (rD_shaped []) ?_
          rw [show PyData.list [] = rD [] from rfl, rD_eqv]
          walk_at "rd"
          have step : ∀ (x : Option V) (D : Ends), (∀ σ H', (∃ (g : Addr) (lx : List V) (a b c : Option V), σ = [some (.int m), some (.ref l), some (.ref s), some (.ref g), a, b, c] ∧ Same Hx H' ∧ H g = none ∧
                  H' g = some (.lst lx) ∧ RowsAt (fun p => H p = none) H' lx (((sLev m j).take (i + 1)).flatMap (exts m))) → D.nx σ H') →
              tAsg (tOp rCat (tVar 3) (tLc (iRng2 (tCons (tVar 5) (tCons (tVar 0) tNil))) (gName 6) tYes (tOp rCat (tVar 4) (tLst (tCons (tVar 6) tNil))) [6])) (gName 3) D
                [some (.int m), some (.ref l), some (.ref s), some (.ref g'), some (.ref p), some (.int (firstOf r)), x] (upd H' u (.lst [])) := by
            intro x D kD
            walk_at "rd"
            unfold tLc iRng2
            walk_at "rd"
            refine ⟨⟨by omega, by omega, by omega, by omega⟩, fun C nC => ?_⟩
            refine lc_range (fun i Hy => ∃ acc, Hy C = some (.lst acc) ∧ RowsAt (fun p => H p = none ∧ p ≠ C) Hy acc ((List.range i).map fun j => r ++ [firstOf r + Int.ofNat j]) ∧ Same (upd H' u (.lst [])) Hy)
              ⟨[], upd_same, .nil, same_new nC⟩ (fun i2 Hy hi2 ⟨acc, ha, ra, ea⟩ => ?_) (fun Hy ⟨acc, ha, ra, ea⟩ => ?_)
            · refine ⟨rfl, ?_⟩
              refine r_yes ?_
              refine itet rfl ?_
              show tOp rCat (tVar 4) (tLst (tCons (tVar 6) tNil)) [some (.int m), some (.ref l), some (.ref s), some (.ref g'), some (.ref p), some (.int (firstOf r)), some (.int (firstOf r + (i2 : Int)))] Hy _
              walk_at "rd"
              intro y ny
              have hpy := ea _ _ (su _ _ hp)
              refine ⟨p, y, _, _, rfl, rfl, same_new ny _ _ hpy, upd_same, small64 (by rw [List.length_map]; show _ + 1 ≤ 1000; omega), fun z nz => ?_⟩
              have nzC : z ≠ C := fun q => by
                rw [q, same_new ny _ _ ha] at nz
                cases nz
              have nzH : H z = none := free_of (((e.trans e').trans su).trans ea) (free_of (same_new ny) nz)
              have ec : Same Hy (upd (upd Hy y (.lst [.int (firstOf r + (i2 : Int))])) z (.lst (r.map V.int ++ [.int (firstOf r + (i2 : Int))]))) := same_new2 (same_new ny) nz
              refine ⟨acc, ec _ _ ha, small1000 (by
                have := ra.len
                rw [List.length_map, List.length_range] at this
                omega), _, upd_same, ?_, ?_⟩
              · rw [List.range_succ, List.map_append]
                refine ((ra.same ec).put fun p q => q.2).app (.one ⟨nzH, nzC⟩ ?_)
                rw [upd_ne nzC, upd_same, List.map_append]
                rfl
              · exact fun c o q => by
                  have q1 := ec _ _ (ea _ _ q)
                  rw [upd_ne (ne_of_none q nC)]
                  exact q1
            · have eH := su.trans ea
              have hg2 := eH _ _ hg'
              refine ⟨g', C, _, _, rfl, rfl, hg2, ha, small64 (by
                have q1 := rl.len
                have q2 := ra.len
                rw [List.length_map, List.length_range] at q2
                omega), fun z nz => ?_⟩
              have ez : Same Hy (upd Hy z (.lst (lx ++ acc))) := same_new nz
              have nzH : H z = none := by
                cases hz : H z with
                | none => rfl
                | some o =>
                  have z2 := eH _ _ (e' _ _ (e _ _ hz))
                  rw [nz] at z2
                  cases z2
              refine kD _ _ ⟨z, lx ++ acc, _, _, _, rfl, (e'.trans eH).trans ez, nzH, upd_same, ?_⟩
              rw [flat_succ (exts m) hr']
              exact ((rl.same eH).same ez).app ((ra.weak fun p q => q.1).same ez)
          by_cases hr0 : r = []
          · subst hr0
            refine itef (by rfl) ?_
            refine r_next ?_
            exact step _ _ fun _ _ h => h
          · refine itet (by rw [decide_eq_false hr0]; rfl) ?_
            obtain ⟨la, q1, q2⟩ := last_at r hr0
            walk_at "rd"
            refine r_ixL (SqL.of (su _ _ hp)) q2 ?_
            walk_at "r1"
            walk_at "r1"
            walk_at "r1"
            have ef : la + 1 = firstOf r := by
              unfold firstOf
              rw [q1]
            rw [ef]
            exact step _ _ fun _ _ h => h
        · rintro σ H' ⟨g', lx, a', b', c', rfl, e', ng', hg', rl⟩
          have et : ((sLev m j).take sx.length).flatMap (exts m) = sLev m (j + 1) := by
            rw [rs.len, List.take_length]
            rfl
          rw [et] at rl
          walk_at "rd"
          refine ⟨l, g', _, _, rfl, rfl, e' _ _ hl, hg', small64 (by
            have q1 := rf.len
            have q2 := rl.len
            have q3 := (lev_facts ⟨m, by omega⟩ ⟨j + 1, by omega⟩ hj2).2.1
            have q3 : (sLev m (j + 1)).length ≤ 64 := q3
            omega), fun z nz => ?_⟩
          have ez : Same H' (upd H' z (.lst (fx ++ lx))) := same_new nz
          have nzH : H z = none := by
            cases hz : H z with
            | none => rfl
            | some o =>
              have z2 := e' _ _ (e _ _ hz)
              rw [nz] at z2
              cases z2
          walk_at "rd"
          exact ⟨m + 1 - (j + 1), by omega, j + 1, z, g', _, _, _, _, _, _, rfl, hj2, rfl, (e.trans e').trans ez, nzH, upd_same, ((rf.same e').same ez).app (rl.same ez), ez _ _ hg', rl.same ez⟩
end
end Ls
namespace Ls
open PySem PySem.Spec PyProof.Rows L2
/-! ### changes of several parts -/
def setAll (s : Sc) (cs : List Ch) : Sc := cs.foldl Sc.set s
theorem setAll_wrap : ∀ (cs : List Ch) (s : Sc), (∀ c ∈ cs, c.part ≠ 0) → (setAll s cs).wrap = s.wrap
  | [], _, _ => rfl
  | c :: cs, s, h => by
    show (setAll (s.set c) cs).wrap = _
    rw [setAll_wrap cs _ fun d hd => h d (List.mem_cons_of_mem _ hd)]
    have := h c (List.mem_cons_self ..)
    cases c with
    | wrap _ => exact absurd rfl this
    | _ => rfl
theorem setAll_slot : ∀ (cs : List Ch) (s : Sc), (∀ c ∈ cs, c.part ≠ 1) → (setAll s cs).slot = s.slot
  | [], _, _ => rfl
  | c :: cs, s, h => by
    show (setAll (s.set c) cs).slot = _
    rw [setAll_slot cs _ fun d hd => h d (List.mem_cons_of_mem _ hd)]
    have := h c (List.mem_cons_self ..)
    cases c with
    | slot _ => exact absurd rfl this
    | _ => rfl
theorem setAll_empty : ∀ (cs : List Ch) (s : Sc), (∀ c ∈ cs, c.part ≠ 2) → (setAll s cs).empty = s.empty
  | [], _, _ => rfl
  | c :: cs, s, h => by
    show (setAll (s.set c) cs).empty = _
    rw [setAll_empty cs _ fun d hd => h d (List.mem_cons_of_mem _ hd)]
    have := h c (List.mem_cons_self ..)
    cases c with
    | empty _ => exact absurd rfl this
    | _ => rfl
theorem setAll_full : ∀ (cs : List Ch) (s : Sc), (∀ c ∈ cs, c.part ≠ 3) → (setAll s cs).full = s.full
  | [], _, _ => rfl
  | c :: cs, s, h => by
    show (setAll (s.set c) cs).full = _
    rw [setAll_full cs _ fun d hd => h d (List.mem_cons_of_mem _ hd)]
    have := h c (List.mem_cons_self ..)
    cases c with
    | full _ => exact absurd rfl this
    | _ => rfl
theorem setAll_when : ∀ (cs : List Ch) (s : Sc), (∀ c ∈ cs, c.part ≠ 4) → (setAll s cs).when = s.when
  | [], _, _ => rfl
  | c :: cs, s, h => by
    show (setAll (s.set c) cs).when = _
    rw [setAll_when cs _ fun d hd => h d (List.mem_cons_of_mem _ hd)]
    have := h c (List.mem_cons_self ..)
    cases c with
    | «when» _ => exact absurd rfl this
    | _ => rfl
/-- names and values of changes -/
inductive KnAt (K : Fr) (H : Hp) : List (Str × V) → List Ch → Prop where
  | nil : KnAt K H [] []
  | cons {y : V} {c : Ch} {kns : List (Str × V)} {cs : List Ch} : PV K H y c → KnAt K H kns cs → KnAt K H ((c.nm, y) :: kns) (c :: cs)
theorem KnAt.same {K : Fr} {H H' : Hp} {kns : List (Str × V)} {cs : List Ch} (e : Same H H') (h : KnAt K H kns cs) : KnAt K H' kns cs := by
  induction h with
  | nil => exact .nil
  | cons a _ ih => exact .cons (a.same e) ih
theorem KnAt.snoc {K : Fr} {H : Hp} {kns : List (Str × V)} {cs : List Ch} {y : V} {c : Ch} (h : KnAt K H kns cs) (a : PV K H y c) : KnAt K H (kns ++ [(c.nm, y)]) (cs ++ [c]) := by
  induction h with
  | nil => exact .cons a .nil
  | cons b _ ih => exact .cons b ih
theorem nm_inj {i j : Nat} (hi : i < 5) (hj : j < 5) (h : pname i = pname j) : i = j := by
  have k : ∀ a b : Fin 5, pname a.val = pname b.val → a = b := by decide +kernel
  exact congrArg Fin.val (k ⟨i, hi⟩ ⟨j, hj⟩ h)
theorem part_lt (c : Ch) : c.part < 5 := by
  cases c with
  | wrap _ => exact (by decide : 0 < 5)
  | slot _ => exact (by decide : 1 < 5)
  | empty _ => exact (by decide : 2 < 5)
  | full _ => exact (by decide : 3 < 5)
  | «when» _ => exact (by decide : 4 < 5)
theorem KnAt.names {K : Fr} {H : Hp} {kns : List (Str × V)} {cs : List Ch} (h : KnAt K H kns cs) : kns.map (·.1) = cs.map Ch.nm := by
  induction h with
  | nil => rfl
  | cons _ _ ih => exact congrArg (_ :: ·) ih
/-- what parts.get(name, ..) gives -/
theorem KnAt.get {K : Fr} {H : Hp} {kns : List (Str × V)} {cs : List Ch} (h : KnAt K H kns cs) {i : Nat} (hi : i < 5) :
    (valV (tkV kns) (Sum.inr (pname i)) = none ∧ ∀ c ∈ cs, c.part ≠ i) ∨ (∃ y c a b, valV (tkV kns) (Sum.inr (pname i)) = some y ∧ PV K H y c ∧ c.part = i ∧ cs = a ++ c :: b) := by
  induction h with
  | nil => exact .inl ⟨rfl, fun c hc => by cases hc⟩
  | @cons y c kns cs p _ ih =>
    by_cases e : c.part = i
    · refine .inr ⟨y, c, [], cs, ?_, p, e, rfl⟩
      exact valV_pos (p := ((Sum.inr c.nm : Key), y)) (congrArg Sum.inr (show pname c.part = pname i by rw [e]))
    · have ne : ¬ (Sum.inr c.nm : Key) = Sum.inr (pname i) := fun z => e (nm_inj (part_lt c) hi (Sum.inr.inj z))
      have z : valV (tkV ((c.nm, y) :: kns)) (Sum.inr (pname i)) = valV (tkV kns) (Sum.inr (pname i)) := valV_neg (p := ((Sum.inr c.nm : Key), y)) ne
      rcases ih with ⟨h1, h2⟩ | ⟨y', c', a, b, h1, h2, h3, h4⟩
      · refine .inl ⟨z.trans h1, fun d hd => ?_⟩
        rcases List.mem_cons.mp hd with rfl | hd
        · exact e
        · exact h2 d hd
      · exact .inr ⟨y', c', c :: a, b, z.trans h1, h2, h3, by rw [h4]; rfl⟩
theorem setAll_mid (s : Sc) (a : List Ch) (c : Ch) (b : List Ch) : setAll s (a ++ c :: b) = setAll ((setAll s a).set c) b := by
  unfold setAll
  rw [List.foldl_append]
  rfl
theorem nodup_mid {a b : List Ch} {c : Ch} (h : ((a ++ c :: b).map Ch.part).Nodup) : ∀ d ∈ b, d.part ≠ c.part := fun d hd e => by
  rw [List.map_append, List.map_cons, List.nodup_append] at h
  have := (List.nodup_cons.mp h.2.1).1
  exact this (List.mem_map.mpr ⟨d, hd, e⟩)
section
variable {K : Fr} {H : Hp} {kns : List (Str × V)} {cs : List Ch} {s : Sc} {wv fv : V}
theorem get_wrap (h : KnAt K H kns cs) (nd : (cs.map Ch.part).Nodup) (hw : PWr K H wv s.wrap) : PWr K H ((valV (tkV kns) (Sum.inr "wrap")).getD wv) (setAll s cs).wrap := by
  rcases h.get (i := 0) (by decide) with ⟨h1, h2⟩ | ⟨y, c, a, b, h1, h2, h3, rfl⟩
  · rw [show valV (tkV kns) (Sum.inr "wrap") = none from h1, setAll_wrap _ _ h2]
    exact hw
  · rw [show valV (tkV kns) (Sum.inr "wrap") = some y from h1, setAll_mid, setAll_wrap _ _ fun d hd => by have := nodup_mid nd d hd; rw [h3] at this; exact this]
    cases c with
    | wrap x => exact h2
    | _ => cases h3
theorem get_full (h : KnAt K H kns cs) (nd : (cs.map Ch.part).Nodup) (hw : PFu K H fv s.full) : PFu K H ((valV (tkV kns) (Sum.inr "full")).getD fv) (setAll s cs).full := by
  rcases h.get (i := 3) (by decide) with ⟨h1, h2⟩ | ⟨y, c, a, b, h1, h2, h3, rfl⟩
  · rw [show valV (tkV kns) (Sum.inr "full") = none from h1, setAll_full _ _ h2]
    exact hw
  · rw [show valV (tkV kns) (Sum.inr "full") = some y from h1, setAll_mid, setAll_full _ _ fun d hd => by have := nodup_mid nd d hd; rw [h3] at this; exact this]
    cases c with
    | full x => exact h2
    | _ => cases h3
theorem get_slot (h : KnAt K H kns cs) (nd : (cs.map Ch.part).Nodup) : (valV (tkV kns) (Sum.inr "slot")).getD (.str s.slot.s) = .str (setAll s cs).slot.s := by
  rcases h.get (i := 1) (by decide) with ⟨h1, h2⟩ | ⟨y, c, a, b, h1, h2, h3, rfl⟩
  · rw [show valV (tkV kns) (Sum.inr "slot") = none from h1, setAll_slot _ _ h2]
    rfl
  · rw [show valV (tkV kns) (Sum.inr "slot") = some y from h1, setAll_mid, setAll_slot _ _ fun d hd => by have := nodup_mid nd d hd; rw [h3] at this; exact this]
    cases c with
    | slot x => exact h2
    | _ => cases h3
theorem get_empty (h : KnAt K H kns cs) (nd : (cs.map Ch.part).Nodup) : (valV (tkV kns) (Sum.inr "empty")).getD (.str s.empty.s) = .str (setAll s cs).empty.s := by
  rcases h.get (i := 2) (by decide) with ⟨h1, h2⟩ | ⟨y, c, a, b, h1, h2, h3, rfl⟩
  · rw [show valV (tkV kns) (Sum.inr "empty") = none from h1, setAll_empty _ _ h2]
    rfl
  · rw [show valV (tkV kns) (Sum.inr "empty") = some y from h1, setAll_mid, setAll_empty _ _ fun d hd => by have := nodup_mid nd d hd; rw [h3] at this; exact this]
    cases c with
    | empty x => exact h2
    | _ => cases h3
theorem get_when (h : KnAt K H kns cs) (nd : (cs.map Ch.part).Nodup) : (valV (tkV kns) (Sum.inr "when")).getD (.str s.when.s) = .str (setAll s cs).when.s := by
  rcases h.get (i := 4) (by decide) with ⟨h1, h2⟩ | ⟨y, c, a, b, h1, h2, h3, rfl⟩
  · rw [show valV (tkV kns) (Sum.inr "when") = none from h1, setAll_when _ _ h2]
    rfl
  · rw [show valV (tkV kns) (Sum.inr "when") = some y from h1, setAll_mid, setAll_when _ _ fun d hd => by have := nodup_mid nd d hd; rw [h3] at this; exact this]
    cases c with
    | «when» x => exact h2
    | _ => cases h3
theorem setAll_ok (hs : s.wrap.ok ∧ s.full.ok) (h : ∀ c ∈ cs, c.ok) : (setAll s cs).wrap.ok ∧ (setAll s cs).full.ok := by
  induction cs generalizing s with
  | nil => exact hs
  | cons c cs ih =>
    refine ih (s := s.set c) ?_ fun d hd => h d (List.mem_cons_of_mem _ hd)
    have := h c (List.mem_cons_self ..)
    cases c with
    | wrap x => exact ⟨this, hs.2⟩
    | full x => exact ⟨hs.1, this⟩
    | slot x => exact hs
    | empty x => exact hs
    | «when» x => exact hs
end
section
variable {w : World} {K : Fr} {mg : Str → Option Value} {base : Heap}
theorem opK {X : Cx} {op : Value → Value → Sem Value} {r : Fr → R2} (K : Fr) (h : X.K = K) (o : OpR X op (r X.K)) : OpR X op (r K) := by
  subst h
  exact o
theorem ixK {X : Cx} {r : Fr → R2} (K : Fr) (h : X.K = K) (o : IxR X (r X.K)) : IxR X (r K) := by
  subst h
  exact o
theorem clK {X : Cx} {f : Value} {r : Fr → List V → Hp → VK → Prop} (K : Fr) (h : X.K = K) (o : CallR X f (r X.K)) : CallR X f (r K) := by
  subst h
  exact o
theorem piK {X : Cx} {tg e : Expr} {r : Fr → TI} (K : Fr) (h : X.K = K) (o : PI X tg e (r X.K)) : PI X tg e (r K) := by
  subst h
  exact o
def rListOf (K : Fr) : List V → Hp → VK → Prop := fun xs H Q => ∃ p ys, xs = [.ref p] ∧ (SqL K H p ys ∨ SqT K H p ys) ∧ ∀ l, H l = none → Q (.ref l) (upd H l (.lst ys))
theorem r_par {i j : Nat} {ta : TA} {D : Ends} {σ : L2.St} {H : Hp} (h : ta σ H fun vs H1 => ∃ v w, vs = [v, w] ∧ D.nx ((σ.set i (some v)).set j (some w)) H1) : tPar i j ta D σ H := h
theorem r_pget {K : Fr} {p pd C dx : Addr} {r : L2.St} {H : Hp} {Q : VK} {key f : Str} {kns : List (Str × V)} {fs : List (Str × V)} {v : V} (hpd : H pd = some (.dK (tkV kns))) (hp : H p = some (.ins C dx fs)) (c : Cls K C) (n : NoAttr K C f) (l : fs.lookup f = some v)
    (q : Q ((valV (tkV kns) (Sum.inr key)).getD v) H) : tDGet2 (tVar 1) (tC (.str key)) (tFld K (tVar 0) f) (some (.ref p) :: some (.ref pd) :: r) H Q :=
  ⟨.ref pd, rfl, pd, rfl, .inl ⟨_, .inl hpd⟩, .ref p, rfl, p, C, dx, fs, v, rfl, hp, c, n, l, _, DGet.k (k := Sum.inr key) hpd, q⟩
/-- [.. for k in d ..], d locked -/
theorem lc_keys {d : Addr} {od : Obj} {kvs : List (Key × V)} {g : TG} {tt : TT} {te : TE} {vs : List Nat} {σ : L2.St} {H1 : Hp} {D : Addr} {Qd : Hp → Prop} (Pv : Nat → Hp → Prop) (h0 : Pv 0 (upd H1 D (.lst []))) (hl : ∀ i H, Pv i H → H d = some (.frz od (.dK kvs)))
    (hs : ∀ i k v H, kvs[i]? = some (k, v) → Pv i H → g (kV k) (wipe σ vs) H fun σ2 H2 => wipe σ2 vs = wipe σ vs ∧ tt σ2 H2 fun b H3 =>
      if b = true then te σ2 H3 fun y H4 => ∃ acc, H4 D = some (.lst acc) ∧ acc.length < sizeLine ∧ Pv (i + 1) (upd H4 D (.lst (acc ++ [y]))) else Pv (i + 1) H3) (hd : ∀ H, Pv kvs.length H → Qd H) :
    ∃ W : Nat → Nat → Hp → Prop, (∃ m, W 0 m (upd H1 D (.lst []))) ∧ ∀ i m H, W i m H →
      ((Itk d od kvs).stop i H ∧ Qd H) ∨ ((Itk d od kvs).go i H ∧ ∃ Nx : Hp → Prop, (∀ H', Nx H' → ∃ m', m' < m ∧ W (i + 1) m' H') ∧ ∀ x H', (Itk d od kvs).yld i H x H' → g x (wipe σ vs) H' fun σ2 H2 => wipe σ2 vs = wipe σ vs ∧ tt σ2 H2 fun b H3 =>
        if b = true then te σ2 H3 fun y H4 => ∃ acc, H4 D = some (.lst acc) ∧ acc.length < sizeLine ∧ Nx (upd H4 D (.lst (acc ++ [y]))) else Nx H3) := by
  refine ⟨fun i m H => m = kvs.length - i ∧ i ≤ kvs.length ∧ Pv i H, ⟨kvs.length, rfl, Nat.zero_le _, h0⟩, ?_⟩
  rintro i m H ⟨rfl, hi, p⟩
  by_cases q : i < kvs.length
  · refine .inr ⟨⟨hl i H p, q⟩, Pv (i + 1), fun H' p' => ⟨_, (by omega : kvs.length - (i + 1) < kvs.length - i), rfl, q, p'⟩, ?_⟩
    rintro x H' ⟨rfl, k, v, e, rfl⟩
    exact hs i k v _ e p
  · have e : i = kvs.length := by omega
    subst e
    exact .inl ⟨⟨hl _ H p, Nat.le_refl _⟩, hd H p⟩
/-! ### remade -/
def sp_remade (K : Fr) : Sp := fun vs H Q E => ∃ (p pd : Addr) (s : Sc) (kns : List (Str × V)) (cs : List Ch), vs = [.ref p, .ref pd] ∧ ScAt K H p s ∧ s.ok ∧ H pd = some (.dK (tkV kns)) ∧ KnAt K H kns cs ∧ (cs.map Ch.part).Nodup ∧ (∀ c ∈ cs, c.ok) ∧
  (slOk (setAll s cs).slot (setAll s cs).wrap = true → ∀ q H', SameX pd H H' → ScAt K H' q (setAll s cs) → Q (.ref q) H') ∧
  (slOk (setAll s cs).slot (setAll s cs).wrap = false → ∀ d H', SameX pd H H' → E (.ref (He.ga K "NoScheme")) (some d) H')
abbrev n_Scheme_remade : List Str := ["self", "parts", "wrap", "slot", "empty", "full", "name"]
theorem sc_Scheme_remade : FnScope n_Scheme_remade ["self", "parts"] (defScope s_Scheme_remade) := ⟨rfl, rfl, rfl, by decide +kernel, rfl, by decide +kernel, by decide +kernel⟩
theorem ok_Scheme_remade (T : Tx K mg) : KwR P w K mg base (L2.CX P w) 6 (He.ma K (He.ga K "Scheme") "remade") "self" (sp_remade K) := by
  obtain ⟨fd, F⟩ := T.d_Scheme_remade
  obtain ⟨oc, od, dV, kV, doc, pm, an, cdv, ct, osl, rfl, lk, hcd, hD, _⟩ := F.ex
  rcases hD with ⟨_, rfl⟩ | ⟨z, _⟩
  · intro A outer s H u v kns ns Q E hr e0 ru rn hne hnd hz hsp
    refine fn_kw (sp := sp_remade K) (p1 := "self") (pv := "parts") lk hcd sc_Scheme_remade StX.cxUp rfl rfl rfl rfl rfl rfl (fun A outer s H vs Q E hr h => ?_) hr e0 ru rn hne hnd hz hsp
    obtain ⟨p, pd, sc, kns, cs, rfl, hp, hok, hpd, hkn, nd, hco, k1, k2⟩ := h
    refine ⟨_, (pss_cons (ps_if (pt_cmpR (op_neD hr.units) (pe_lock (pe_lc (own := [("name", 6)]) (g := gName 6) rfl sc_Scheme_remade.nd (pi_keys (pv 1)) (blkOk_by (N := n_Scheme_remade) (sc := defScope s_Scheme_remade) (by decide +kernel)) (fun _ _ _ _ _ => (pg_name (i := 6) sc_Scheme_remade.nd rfl (Or.inl rfl))) (fun _ _ _ _ _ => (pts_one (pt_cmpR (opK (r := fun K => rIn K true) K rfl op_notIn_seq) (pv 6) (pe_glob (v := .ref _) rfl T.g_PARTS rfl) rfl))) (fun _ _ _ _ _ => (pv 6)))) (pe_lst pa_nil) (nomark _)) (pss_one (ps_raise rfl (takes_of rfl rfl rfl rfl) (pmk_oex (oxS T).1 (oxS T).2.1 (oxS T).2.2 (noS T).choose_spec.1 (hr.mono (by decide)) (noS T).choose_spec.2 .nil pass0 rfl T.g_NoScheme (pa_cons pe_str pa_nil)))) pss_nil)
      (pss_cons (ps_par (i := 2) (j := 3) (by rfl) sc_Scheme_remade.nd rfl rfl (by decide) rfl rfl (pa_cons (pe_dget2 (hu_of hr) (pv 1) pe_str (pe_fld (pv 0) rfl) ⟨rfl, rfl, rfl, rfl⟩) (pa_cons (pe_dget2 (hu_of hr) (pv 1) pe_str (pe_fld (pv 0) rfl) ⟨rfl, rfl, rfl, rfl⟩) pa_nil)) (by rfl))
      (pss_cons (ps_par (i := 4) (j := 5) (by rfl) sc_Scheme_remade.nd rfl rfl (by decide) rfl rfl (pa_cons (pe_dget2 (hu_of hr) (pv 1) pe_str (pe_fld (pv 0) rfl) ⟨rfl, rfl, rfl, rfl⟩) (pa_cons (pe_dget2 (hu_of hr) (pv 1) pe_str (pe_fld (pv 0) rfl) ⟨rfl, rfl, rfl, rfl⟩) pa_nil)) (by rfl))
      (pss_one (ps_ret (pe_makeK0 T.k_Scheme (ok_Scheme_init T).choose_spec.1 (hr.mono (by decide)) rfl T.g_Scheme (ok_Scheme_init T).choose_spec.2 (passes_call (takes_of rfl rfl rfl rfl) fun _ _ _ _ h => h) (pk_cons (pv 2) (pk_cons (pv 3) (pk_cons (pv 4) (pk_cons (pv 5) (pk_cons (pe_dget2 (hu_of hr) (pv 1) pe_str (pe_fld (pv 0) rfl) ⟨rfl, rfl, rfl, rfl⟩) pk_nil))))))))))), r_start (σ := [some (.ref p), some (.ref pd), none, none, none, none, none]) rfl ?_⟩
    walk_at "rd"
    refine ⟨pd, .dK (tkV kns), hpd, True.intro, fun ob => ?_⟩
    refine ⟨.ref pd, rfl, pd, ob, rfl, .inl ⟨tkV kns, upd_same, fun D nD => ?_⟩⟩
    have nDp : D ≠ pd := fun z => by
      rw [z, upd_same] at nD
      cases nD
    have nDH : H D = none := by
      rw [upd_ne nDp] at nD
      exact nD
    have nm := hkn.names
    refine lc_keys (fun _ Hx => Hx = upd (upd H pd (.frz ob (.dK (tkV kns)))) D (.lst [])) rfl (fun _ Hx e => by rw [e, upd_ne (Ne.symm nDp)]; exact upd_same) ?_ ?_
    · rintro i kk v Hx hi rfl
      obtain ⟨z, hz, e⟩ := List.mem_map.mp (List.mem_of_getElem? hi)
      cases e
      have hc : z.1 ∈ cs.map Ch.nm := by
        rw [← nm]
        exact List.mem_map.mpr ⟨z, hz, rfl⟩
      obtain ⟨c, _, hc2⟩ := List.mem_map.mp hc
      refine ⟨rfl, ?_⟩
      show tTest (tOp (rIn K true) (tVar 6) (tC (V.ref (He.ga K "PARTS")))) [some (.ref p), some (.ref pd), none, none, none, none, some (.str z.1)] _ _
      walk_at "rd"
      refine r_in (.inr (w_PARTS T _)) rfl rfl ?_
      rw [inV_str, ← hc2, nm_in]
      exact ⟨_, rfl, itef rfl rfl⟩
    · rintro Hx rfl
      have eH : upd (upd (upd H pd (.frz ob (.dK (tkV kns)))) D (.lst [])) pd (.dK (tkV kns)) = upd H D (.lst []) := by
        funext b
        by_cases hb : b = pd
        · rw [hb, upd_same, upd_ne (Ne.symm nDp), hpd]
        · rw [upd_ne hb]
          by_cases hD : b = D
          · rw [hD, upd_same, upd_same]
          · rw [upd_ne hD, upd_ne hD, upd_ne hb]
      refine ⟨by rw [upd_ne (Ne.symm nDp)]; exact upd_same, ?_⟩
      rw [eH]
      have e1 := same_new (o := .lst []) nDH
      walk_at "rd"
      intro l nl
      have e2 := same_new2 (o := .lst []) e1 nl
      refine r_neD (.lst (SqL.of (same_new nl _ _ upd_same)) .nil) (.lst (SqL.of upd_same) .nil) (rD_shaped []) (rD_shaped []) ?_
      rw [show PyData.list [] = rD [] from rfl, rD_eqv]
      walk_at "rd"
      refine itef (by decide) ?_
      obtain ⟨ds, wv, fv, hp, hwv, hfv⟩ := hp
      have hp2 := e2 _ _ hp
      have hpd2 := e2 _ _ hpd
      refine r_par (r_cons (r_pget hpd2 hp2 T.c_Scheme T.n_Scheme_own_wrap sf_wrap (r_cons (r_pget hpd2 hp2 T.c_Scheme T.n_Scheme_own_slot sf_slot (r_nil ⟨_, _, rfl, ?_⟩)))))
      refine r_seq (r_par (r_cons (r_pget hpd2 hp2 T.c_Scheme T.n_Scheme_own_empty sf_empty (r_cons (r_pget hpd2 hp2 T.c_Scheme T.n_Scheme_own_full sf_full (r_nil ⟨_, _, rfl, ?_⟩))))))
      dsimp only [List.set]
      refine r_ret (r_makeK (r_nil ?_))
      walk_at "rd"
      refine r_pget hpd2 hp2 T.c_Scheme T.n_Scheme_own_when sf_when ?_
      walk_at "rd"
      have hkn2 := hkn.same e2
      rw [get_slot hkn2 nd, get_empty hkn2 nd, get_when hkn2 nd]
      obtain ⟨o1, o2⟩ := setAll_ok (cs := cs) ⟨hok.wrap, hok.full⟩ hco
      refine ⟨rfl, rfl, mk_sc rfl (get_wrap hkn2 nd (hwv.same e2)) (get_full hkn2 nd (hfv.same e2)) o1 o2 (fun hs q H' e hq => ?_) fun hs d H' e => ?_⟩
      · exact k1 hs q H' (fun c o h1 _ => e _ _ (e2 _ _ h1)) hq
      · exact k2 hs d H' (fun c o h1 _ => e _ _ (e2 _ _ h1))
  · exact absurd rfl z
end
end Ls
namespace Ls
open PySem PySem.Spec PyProof.Rows L2
/-! ### made -/
def picks (cs : List Ch) : List Ch → List Int → Option (List Ch)
  | acc, [] => some acc
  | acc, a :: r => match cs[a.toNat]? with
    | none => none
    | some c => if (acc.any fun d => decide (d.part = c.part)) = true then none else picks cs (acc ++ [c]) r
theorem picks_some {cs acc : List Ch} {a : Int} {r : List Int} {c : Ch} (h : cs[a.toNat]? = some c) : picks cs acc (a :: r) = if (acc.any fun d => decide (d.part = c.part)) = true then none else picks cs (acc ++ [c]) r := by
  rw [picks, h]
def made (s : Sc) (cs : List Ch) (r : List Int) : Option Sc := match picks cs [] r with
  | none => none
  | some l => if slOk (setAll s l).slot (setAll s l).wrap = true then some (setAll s l) else none
def ascOk (m : Nat) : Int → List Int → Bool
  | _, [] => true
  | last, a :: r => decide (last + 1 ≤ a) && (decide (a ≤ (m : Int) - 1) && ascOk m a r)
/-- tuples and filled instances stay -/
structure Kp (H H' : Hp) : Prop where
  ins : ∀ c C dx f fs, H c = some (.ins C dx (f :: fs)) → H' c = some (.ins C dx (f :: fs))
  tup : ∀ c xs, H c = some (.tup xs) → H' c = some (.tup xs)
section
variable {K : Fr} {H H' : Hp}
theorem FormAt.kp {p : Addr} {a b : Int} (e : Kp H H') (h : FormAt K H p a b) : FormAt K H' p a b := let ⟨d, h⟩ := h; ⟨d, e.ins _ _ _ _ _ h⟩
theorem PWr.kp {v : V} {y : Wr} (e : Kp H H') (h : PWr K H v y) : PWr K H' v y := by
  cases y with
  | wid _ => exact h
  | frm a b => exact let ⟨p, h1, h2⟩ := h; ⟨p, h1, h2.kp e⟩
theorem PFu.kp {v : V} {f : Fu} (e : Kp H H') (h : PFu K H v f) : PFu K H' v f := by
  cases f with
  | next => exact let ⟨p, h1, h2⟩ := h; ⟨p, h1, e.tup _ _ h2⟩
  | note => exact let ⟨p, h1, h2⟩ := h; ⟨p, h1, e.tup _ _ h2⟩
  | diff o a b => exact let ⟨p, q, h1, h2, h3⟩ := h; ⟨p, q, h1, e.tup _ _ h2, h3.kp e⟩
  | count o a b => exact let ⟨p, q, h1, h2, h3⟩ := h; ⟨p, q, h1, e.tup _ _ h2, h3.kp e⟩
theorem PV.kp {v : V} {c : Ch} (e : Kp H H') (h : PV K H v c) : PV K H' v c := by
  cases c with
  | wrap y => exact PWr.kp e h
  | full f => exact PFu.kp e h
  | slot s => exact h
  | empty s => exact h
  | «when» s => exact h
theorem KnAt.kp {kns : List (Str × V)} {cs : List Ch} (e : Kp H H') (h : KnAt K H kns cs) : KnAt K H' kns cs := by
  induction h with
  | nil => exact .nil
  | cons a _ ih => exact .cons (a.kp e) ih
theorem kp_dict {d : Addr} {kvs : List (Key × V)} {o : HO} (h : H d = some (.dK kvs)) : Kp H (upd H d o) :=
  ⟨fun c C dx f fs e => by rw [upd_ne (fun z => by rw [z, h] at e; cases e)]; exact e, fun c xs e => by rw [upd_ne (fun z => by rw [z, h] at e; cases e)]; exact e⟩
theorem kp_same (e : Same H H') : Kp H H' := ⟨fun c _ _ _ _ h => e _ _ h, fun c _ h => e _ _ h⟩
theorem put_snoc {kns : List (Str × V)} {n : Str} {y : V} (h : valV (tkV kns) (Sum.inr n) = none) : putK (tkV kns) (Sum.inr n) y = tkV (kns ++ [(n, y)]) := by
  have e : ¬ ((tkV kns).any fun kv => decide (kv.1 = (Sum.inr n : Key))) = true := fun z => by
    obtain ⟨q, hq, h2⟩ := List.any_eq_true.mp z
    unfold valV at h
    rw [Option.map_eq_none_iff, List.find?_eq_none] at h
    exact h q hq h2
  unfold putK
  rw [if_neg e]
  show tkV kns ++ [((Sum.inr n : Key), y)] = (kns ++ [(n, y)]).map _
  rw [List.map_append]
  rfl
theorem has_part {kns : List (Str × V)} {cs : List Ch} (h : KnAt K H kns cs) (c : Ch) : (valV (tkV kns) (Sum.inr c.nm)).isSome = cs.any fun d => decide (d.part = c.part) := by
  rcases h.get (part_lt c) with ⟨h1, h2⟩ | ⟨y, c', a, b, h1, h2, h3, rfl⟩
  · rw [show valV (tkV kns) (Sum.inr c.nm) = none from h1]
    symm
    exact List.any_eq_false.mpr fun d hd => by simpa using h2 d hd
  · rw [show valV (tkV kns) (Sum.inr c.nm) = some y from h1]
    symm
    exact List.any_eq_true.mpr ⟨c', by simp, decide_eq_true h3⟩
end
theorem pe_as {X : Cx} {e : Expr} {t : TE} (h : PE X e t) : PE X e t := h
theorem nm_nodup {cs : List Ch} (h : (cs.map Ch.part).Nodup) : (cs.map Ch.nm).Nodup := by
  induction cs with
  | nil => exact List.nodup_nil
  | cons c cs ih =>
    rw [List.map_cons, List.nodup_cons] at h ⊢
    refine ⟨fun z => h.1 ?_, ih h.2⟩
    obtain ⟨d, hd, e⟩ := List.mem_map.mp z
    exact List.mem_map.mpr ⟨d, hd, nm_inj (part_lt d) (part_lt c) e⟩
theorem nm_self (c : Ch) : c.nm ≠ ("self" : Str) := by
  have h : ∀ i : Fin 5, pname i.val ≠ ("self" : Str) := by decide +kernel
  exact h ⟨c.part, part_lt c⟩
theorem row_at (xs : List V) {a : Int} (h0 : 0 ≤ a) {v : V} (h : xs[a.toNat]? = some v) : atI xs a = some v := by
  obtain ⟨hi, _⟩ := List.getElem?_eq_some_iff.mp h
  unfold atI ixN
  rw [if_pos h0, if_pos (by omega)]
  exact h
section
variable {w : World} {K : Fr} {mg : Str → Option Value} {base : Heap}
def sp_reaches (K : Fr) : Sp := fun vs H Q _ => ∃ (v : V) (n : Int), vs = [v, .int n] ∧ 1 ≤ n ∧ n ≤ 1000000000000000000000000000000 ∧
  ((v = .non ∧ Q (.bl false) H) ∨ ∃ (p : Addr) (s : Sc), v = .ref p ∧ ScAt K H p s ∧ s.ok ∧ ∀ H', Same H H' → Q (.bl (right s n)) H')
abbrev n_reaches : List Str := ["scheme", "goal"]
theorem sc_reaches : FnScope n_reaches ["scheme", "goal"] (defScope s_reaches) := ⟨rfl, rfl, rfl, by decide +kernel, rfl, by decide +kernel, by decide +kernel⟩
theorem kp_reaches (T : Tx K mg) : PySem.W.keepIn K (.ref (He.ga K "reaches")) = true := kp_of T.d_reaches
theorem ok_reaches (T : Tx K mg) : FnR P w K mg base CX0 12 (He.ga K "reaches") (sp_reaches K) := by
  refine mk0 T.d_reaches sc_reaches (fun _ _ _ _ _ _ us hl => match us, hl with | [_, _], _ => rfl) (fun vs H Q E h => ?_) (fun cdv A outer s H vs Q E hr h => ?_)
  · obtain ⟨v, n, rfl, _⟩ := h
    rfl
  · obtain ⟨v, n, rfl, hn, hn2, h⟩ := h
    refine ⟨_, (pss_cons (ps_if (pt_cmpR op_isN (pv 0) pe_non (nomark _)) (pss_one (ps_ret pe_bl)) pss_nil)
      (pss_cons (ps_if (pt_val (pe_callR (ok_is_whole T) (hr.mono (by decide)) rfl T.g_is_whole (kp_is_whole T) pass0 (pa_cons (pv 1) pa_nil))) (pss_one (ps_ret (pe_callTy (boolOwn (ok_Verdict_bool T) T.m_Verdict_bool (hr.mono (by decide)) pass0) (by rfl) T.f_bool (by decide +kernel) (pa_cons (pe_callR (ok_verdict_of T) (hr.mono (by decide)) rfl T.g_verdict_of (kp_verdict_of T) pass0 (pa_cons (pv 0) (pa_cons (pv 1) pa_nil))) pa_nil)))) pss_nil)
      pss_never)), r_start (σ := [some v, some (.int n)]) rfl ?_⟩
    walk_at "rd"
    rcases h with ⟨rfl, k⟩ | ⟨p, s, rfl, hp, hok, k⟩
    · walk_at "rd"
      refine itet (by decide) ?_
      walk_at "rd"
      exact k
    · refine itef (by exact decide_eq_false fun z => by cases z) ?_
      walk_at "rd"
      refine ⟨_, true, rfl, .inl ⟨n, rfl, rfl⟩, ?_⟩
      walk_at "rd"
      refine ⟨p, s, n, rfl, hp, hok, hn, hn2, fun v H1 e1 hv => ?_⟩
      have hv' := hv
      obtain ⟨dx, fs, hv1, hv2⟩ := hv'
      walk_at "rd"
      exact ⟨v, dx, fs, rfl, hv1, v, cause s n, rfl, hv, fun H2 e2 => ⟨⟨_, rfl⟩, k _ (e1.trans e2)⟩⟩
def sp_made (K : Fr) : Sp := fun vs H Q _ => ∃ (m p : Addr) (s : Sc) (cs : List Ch) (r : List Int), vs = [.ref m, .ref p] ∧ MeAt K H m s cs ∧ s.ok ∧ (∀ c ∈ cs, c.ok) ∧ cs.length ≤ 6 ∧ H p = some (.lst (r.map V.int)) ∧ ascOk cs.length (-1) r = true ∧
  (made s cs r = none → ∀ H', Same H H' → Q .non H') ∧ (∀ s', made s cs r = some s' → ∀ q H', Same H H' → ScAt K H' q s' → s'.ok → Q (.ref q) H')
abbrev n_made : List Str := ["menu", "indexes", "last", "parts", "at", "part", "value", "found"]
theorem sc_made : FnScope n_made ["menu", "indexes"] (defScope s_made) := ⟨rfl, rfl, rfl, by decide +kernel, rfl, by decide +kernel, by decide +kernel⟩
theorem kp_made (T : Tx K mg) : PySem.W.keepIn K (.ref (He.ga K "made")) = true := kp_of T.d_made
theorem ok_made (T : Tx K mg) : FnR P w K mg base CX0 8 (He.ga K "made") (sp_made K) := by
  refine mk0 T.d_made sc_made (fun _ _ _ _ _ _ us hl => match us, hl with | [_, _], _ => rfl) (fun vs H Q E h => ?_) (fun cdv A outer s H vs Q E hr h => ?_)
  · obtain ⟨m, p, s, cs, r, rfl, _⟩ := h
    rfl
  · obtain ⟨m, p, s, cs, r, rfl, hm, hok, hco, hle, hp, hasc, k1, k2⟩ := h
    refine ⟨_, (pss_cons (ps_if (pt_not (pt_val (pe_callB call_isi (by rfl) T.f_isinstance (by decide +kernel) (pa_cons (pv 1) (pa_cons (pe_bltn (v := .ty "list") (u := .type "list") (by rfl) T.f_list (by decide +kernel) rfl) pa_nil))))) (pss_one (ps_ret pe_non)) pss_nil)
      (pss_cons (ps_set (i := 2) sc_made.nd rfl (Or.inl rfl) (pe_un un_neg pe_int))
      (pss_cons (ps_set (i := 3) sc_made.nd rfl (Or.inl rfl) pe_dnewK)
      (pss_cons (ps_for PassesOwn.never rfl (pi_list (pv 1)) (pg_name (i := 4) sc_made.nd rfl (Or.inl rfl)) (pss_cons (ps_if (pt_not (pt_val (pe_callR (ok_is_between T) (hr.mono (by decide)) rfl T.g_is_between (kp_is_between T) pass0 (pa_cons (pv 4) (pa_cons (pe_op op_add (pv 2) pe_int) (pa_cons (pe_op op_sub (pe_callB call_len_seq (by rfl) T.f_len PySem.boot_len (pa_cons (pe_fld (pv 0) rfl) pa_nil)) pe_int) pa_nil)))))) (pss_one (ps_ret pe_non)) pss_nil)
      (pss_cons (ps_asg (pe_ix ix_list (pe_fld (pv 0) rfl) (pv 4) (fun _ _ => rfl)) (pg_tup rfl (pgs_cons (pg_name (i := 5) sc_made.nd rfl (Or.inl rfl)) (pgs_cons (pg_name (i := 6) sc_made.nd rfl (Or.inl rfl)) pgs_nil))))
      (pss_cons (ps_if (pt_cmp (pc_din (hu_of hr) (pv 5) (pv 3))) (pss_one (ps_ret pe_non)) pss_nil)
      (pss_cons (ps_dput (hu_of hr) (pv 3) (pv 5) (pv 6) rfl)
      (pss_one (ps_set (i := 2) sc_made.nd rfl (Or.inl rfl) (pv 4))))))))
      (pss_cons (ps_try_only rfl rfl ⟨rfl, by decide, .inl T.g_NoScheme⟩ takes0 (fun W pn xe tk po => (pss_one (ps_set (i := 7) sc_made.nd rfl (Or.inl rfl) (pe_as (t := tMethK K (He.ga K "Scheme") "remade" (He.ma K (He.ga K "Scheme") "remade") "self" (sp_remade K) (fun cls d H => ∀ σ, W cls d σ H) (tFld K (tVar 0) "plain") (tVar 3)) (pe_methK (E := fun cls d H => ∀ σ, W cls d σ H) (pe_fld (pv 0) rfl) T.c_Scheme (bmR T) (ok_Scheme_remade T) (hr.mono (by decide)) (passes_call tk fun _ _ σ _ h => h σ) (pv 3)))))) (fun a oe cls d pn z hz => (pss_one (ps_ret pe_non))))
      (pss_one (ps_ret (pv 7)))))))), r_start (σ := [some (.ref m), some (.ref p), none, none, none, none, none, none]) rfl ?_⟩
    walk_at "rd"
    refine r_isi (.ty "list") (.base (.lst hp)) (b := true) (kit_ty (by decide +kernel)) ?_
    walk_at "rd"
    intro pd npd
    walk_at "rd"
    have e1 := same_new (o := .dK []) npd
    have hm1 := hm
    obtain ⟨dm, q, l, xs, hm0, hq, hl, hcs⟩ := hm1
    have lkp : ([("plain", V.ref q), ("rows", .ref l)] : List (Str × V)).lookup ("plain" : Str) = some (.ref q) := lk0
    have lkr : ([("plain", V.ref q), ("rows", .ref l)] : List (Str × V)).lookup ("rows" : Str) = some (.ref l) := (lk1 (by decide +kernel)).trans lk0
    refine ⟨.ref p, rfl, p, rfl, ⟨r.map V.int, SqL.of (e1 _ _ hp)⟩, for_list (xs := r.map V.int) (fun i σ H' => ∃ (last : Int) (kns : List (Str × V)) (acc : List Ch) (a b c d : Option V), σ = [some (.ref m), some (.ref p), some (.int last), some (.ref pd), a, b, c, d] ∧
      Same H H' ∧ H' pd = some (.dK (tkV kns)) ∧ KnAt K H' kns acc ∧ (acc.map Ch.part).Nodup ∧ (∀ c ∈ acc, c.ok) ∧ acc.length ≤ i ∧ picks cs acc (r.drop i) = picks cs [] r ∧ ascOk cs.length last (r.drop i) = true ∧ (i : Int) ≤ last + 1 ∧ last ≤ 5) ?_ (fun i σ H' _ ⟨_, _, _, _, _, _, _, _, e, _⟩ => SqL.of (e _ _ hp)) ?_ ?_⟩
    · exact ⟨-1, [], [], _, _, _, _, rfl, e1, upd_same, .nil, by simp, (fun c hc => absurd hc (by simp)), Nat.le_refl _, rfl, hasc, by decide, by decide⟩
    · rintro i v σ H' hi ⟨last, kns, acc, a, b, c, d, rfl, e, hpd, hkn, nd, hao, hal, hpk, has, hlast, hlast2⟩
      obtain ⟨z, hz, rfl⟩ : ∃ z, r[i]? = some z ∧ v = V.int z := by
        rw [List.getElem?_map] at hi
        cases hr : r[i]? with
        | none => rw [hr] at hi; cases hi
        | some z => rw [hr] at hi; exact ⟨z, rfl, (Option.some.inj hi).symm⟩
      have hdrop : r.drop i = z :: r.drop (i + 1) := by
        obtain ⟨h1, h2⟩ := List.getElem?_eq_some_iff.mp hz
        rw [← h2]
        exact List.drop_eq_getElem_cons h1
      rw [hdrop] at hpk has
      unfold ascOk at has
      obtain ⟨s1, s2⟩ := Bool.and_eq_true_iff.mp has
      obtain ⟨s2, s3⟩ := Bool.and_eq_true_iff.mp s2
      have t1 := of_decide_eq_true s1
      have t2 := of_decide_eq_true s2
      have hm' := e _ _ hm0
      have hl' := e _ _ hl
      have hi6 : i < 6 := by omega
      walk_at "rd"
      refine ⟨m, _, dm, _, _, rfl, hm', T.c_Menu, T.n_Menu_rows, lkr, ?_⟩
      walk_at "rd"
      refine ⟨_, _, rfl, .inl (SqL.of hl'), ?_⟩
      walk_at "rd"
      refine ⟨_, _, _, true, rfl, .inl ⟨z, rfl, ?_⟩, ?_⟩
      · rw [hcs.1, s1, s2]
        rfl
      walk_at "rd"
      refine ⟨m, _, dm, _, _, rfl, hm', T.c_Menu, T.n_Menu_rows, lkr, ?_⟩
      walk_at "rd"
      obtain ⟨c1, hc1⟩ : ∃ c1, cs[z.toNat]? = some c1 := ⟨_, List.getElem?_eq_getElem (show z.toNat < cs.length by omega)⟩
      obtain ⟨v1, hv1, ⟨tp, y, rfl, htp, hy⟩⟩ := hcs.2 _ _ hc1
      refine r_ixL (SqL.of hl') (row_at xs (by omega) hv1) ?_
      refine r_gtup (SqT.of (e _ _ htp)) rfl ?_
      walk_at "rd"
      have hps := has_part hkn c1
      rw [picks_some hc1] at hpk
      refine ⟨.str c1.nm, rfl, .ref pd, rfl, pd, _, rfl, DGet.k (k := Sum.inr c1.nm) hpd, ?_⟩
      walk_at "rd"
      rw [hps]
      refine ite2 (fun hb => ?_) (fun hb => ?_)
      · rw [if_pos hb] at hpk
        walk_at "rd"
        refine k1 ?_ _ e
        unfold made
        rw [← hpk]
      · rw [if_neg hb] at hpk
        have hnone : valV (tkV kns) (Sum.inr c1.nm) = none := by
          cases hv : valV (tkV kns) (Sum.inr c1.nm) with
          | none => rfl
          | some _ =>
            rw [hv] at hps
            exact absurd hps.symm hb
        walk_at "rd"
        have hkl : kns.length = acc.length := by
          have q := congrArg List.length hkn.names
          simpa using q
        refine ⟨y, rfl, .ref pd, rfl, .str c1.nm, rfl, pd, _, rfl, DPut.k (k := Sum.inr c1.nm) hpd (small1000 (by rw [List.length_map]; omega)), ?_⟩
        rw [put_snoc hnone]
        have kp2 : Kp H' (upd H' pd (.dK (tkV (kns ++ [(c1.nm, y)])))) := kp_dict hpd
        walk_at "rd"
        refine ⟨z, _, acc ++ [c1], _, _, _, _, rfl, same_upd e npd, upd_same, (hkn.kp kp2).snoc ((hy.same e).kp kp2), ?_, ?_, ?_, hpk, s3, by omega, by omega⟩
        · rw [List.map_append, List.nodup_append]
          refine ⟨nd, by simp, fun a ha b hb2 he => hb ?_⟩
          obtain ⟨c2, hc2, rfl⟩ := List.mem_map.mp ha
          rw [List.map_singleton, List.mem_singleton] at hb2
          exact List.any_eq_true.mpr ⟨c2, hc2, decide_eq_true (he.trans hb2)⟩
        · intro c2 hc2
          rcases List.mem_append.mp hc2 with hc2 | hc2
          · exact hao _ hc2
          · rw [List.mem_singleton.mp hc2]
            exact hco _ (List.mem_of_getElem? hc1)
        · rw [List.length_append]
          show acc.length + 1 ≤ i + 1
          omega
    · rintro σ H' ⟨last, kns, acc, a, b, c, d, rfl, e, hpd, hkn, nd, hao, hal, hpk, _, hlast, hlast2⟩
      rw [List.length_map] at hal hlast
      rw [List.length_map, List.drop_length] at hpk
      have hpk : some acc = picks cs [] r := hpk
      have hr6 : r.length ≤ 6 := by omega
      have hkl : kns.length = acc.length := by
        have q := congrArg List.length hkn.names
        simpa using q
      walk_at "rd"
      obtain ⟨ds, wv, fv, hq0, hwv, hfv⟩ := hq
      refine ⟨.ref m, rfl, m, _, dm, _, _, rfl, e _ _ hm0, T.c_Menu, T.n_Menu_plain, lkp, q, ds, _, rfl, e _ _ hq0, ?_, fun qm d nqm nd2 => ?_⟩
      · exact (lk1 (by decide +kernel)).trans ((lk1 (by decide +kernel)).trans ((lk1 (by decide +kernel)).trans ((lk1 (by decide +kernel)).trans ((lk1 (by decide +kernel)).trans rfl))))
      have f1 : Same H' (upd H' qm (.met (He.ma K (He.ga K "Scheme") "remade") q)) := same_new nqm
      have f2 := same_new2 (o := jk d) f1 nd2
      have nqd : qm ≠ d := fun z => by
        rw [z, upd_same] at nd2
        cases nd2
      have ndH : H' d = none := free_of f1 nd2
      have f3 : Same H' (upd (upd (upd H' qm (.met (He.ma K (He.ga K "Scheme") "remade") q)) d (jk d)) d (jk2 d)) := fun b o h => by
        rw [upd_ne (ne_of_none h ndH)]
        exact f2 _ _ h
      refine ⟨.ref pd, rfl, pd, kns, rfl, f2 _ _ hpd, ?_, upd_same, by omega, ?_, ?_, fun pp npp => ?_⟩
      · rw [upd_ne nqd, upd_same]
      · rw [hkn.names]
        exact nm_nodup nd
      · intro z hz
        have hz2 : z.1 ∈ acc.map Ch.nm := by
          rw [← hkn.names]
          exact List.mem_map.mpr ⟨z, hz, rfl⟩
        obtain ⟨c2, _, hc2⟩ := List.mem_map.mp hz2
        rw [← hc2]
        exact nm_self c2
      have f4 := same_new2 (o := .dK (tkV kns)) f3 npp
      have f5 := e.trans f4
      refine ⟨q, pp, s, kns, acc, rfl, ⟨ds, wv, fv, f5 _ _ hq0, hwv.same f5, hfv.same f5⟩, hok, upd_same, hkn.same f4, nd, hao, fun hs q' H'' eX hq' => ?_, fun hs d' H'' eX σ => ?_⟩
      · have eS : Same H H'' := fun c o h => eX _ _ (f5 _ _ h) (fun z => by
          have := f3 _ _ (e _ _ h)
          rw [z, npp] at this
          cases this)
        obtain ⟨w1, w2⟩ := setAll_ok (cs := acc) ⟨hok.wrap, hok.full⟩ hao
        have hmd : made s cs r = some (setAll s acc) := by
          unfold made
          rw [← hpk]
          exact if_pos hs
        show tRet (tVar 7) _ [some (.ref m), some (.ref p), some (.int last), some (.ref pd), a, b, c, some (.ref q')] _
        walk_at "rd"
        exact k2 _ hmd q' H'' eS hq' ⟨w1, w2, hs⟩
      · have eS : Same H H'' := fun c o h => eX _ _ (f5 _ _ h) (fun z => by
          have := f3 _ _ (e _ _ h)
          rw [z, npp] at this
          cases this)
        have hmd : made s cs r = none := by
          unfold made
          rw [← hpk]
          exact if_neg (by rw [hs]; decide)
        exact ⟨true, T.x_NoScheme, fun _ a0 _ => k1 hmd _ eS, fun z => by cases z⟩
end
end Ls
namespace Ls
open PySem PySem.Spec PyProof.Rows L2
/-! ### least sets -/
def minus (o r : List Int) : List Int := o.filter fun a => !decide (a ∈ r)
def inside (o r : List Int) : Bool := decide (minus o r = [])
def good (s : Sc) (cs : List Ch) (n : Int) (r : List Int) : Bool := match made s cs r with
  | none => false
  | some s' => right s' n
def greedy (g : List Int → Bool) : List (List Int) → List (List Int) → List (List Int)
  | found, [] => found
  | found, r :: rs => greedy g (if (found.filter fun o => inside o r) = [] ∧ g r = true then found ++ [r] else found) rs
def least (s : Sc) (cs : List Ch) (n : Int) : List (List Int) := greedy (good s cs n) [] (allSets cs.length)
theorem greedy_take (g : List Int → Bool) : ∀ (rs found : List (List Int)) (i : Nat) (r : List Int), rs[i]? = some r → greedy g found (rs.take (i + 1)) =
    (if ((greedy g found (rs.take i)).filter fun o => inside o r) = [] ∧ g r = true then greedy g found (rs.take i) ++ [r] else greedy g found (rs.take i))
  | [], _, _, _, h => by simp at h
  | x :: rs, found, 0, r, h => by
    cases Option.some.inj h
    rfl
  | x :: rs, found, i + 1, r, h => by
    have h : rs[i]? = some r := h
    show greedy g _ (rs.take (i + 1)) = _
    rw [greedy_take g rs _ i r h]
    rfl
theorem filter_take {α : Type} (f : α → Bool) (xs : List α) (i : Nat) {x : α} (h : xs[i]? = some x) : (xs.take (i + 1)).filter f = if f x = true then (xs.take i).filter f ++ [x] else (xs.take i).filter f := by
  rw [List.take_add_one, h, List.filter_append]
  show _ ++ [x].filter f = _
  cases hx : f x with
  | true => rw [List.filter_cons, if_pos hx]; simp
  | false => rw [List.filter_cons, if_neg (by rw [hx]; decide)]; simp
theorem in_ints (a : Int) (r : List Int) : inV (.int a) (r.map V.int) = decide (a ∈ r) := by
  unfold inV
  rw [List.any_map]
  induction r with
  | nil => simp
  | cons b r ih =>
    rw [List.any_cons, ih]
    show ((b == a) || _) = _
    by_cases h : b = a
    · subst h
      simp
    · have h2 : ¬ a = b := fun q => h q.symm
      simp [h, h2]
theorem flat_ints (r : List Int) : (r.map V.int).all flatV = true := by
  rw [List.all_map]
  exact List.all_eq_true.mpr fun _ _ => rfl
/-- [a for a in o if a not in r] -/
theorem minus_lc {K : Fr} {io ia ir : Nat} {σ : L2.St} {H : Hp} {Q : VK} {po pr : Addr} {o r : List Int} (hz : o.length ≤ 1000) (h1 : tVar io σ H fun v H1 => v = .ref po ∧ H1 = H) (h2 : ∀ v, ((wipe σ [ia]).set ia (some v))[ir]? = some (some (.ref pr)))
    (h3 : ∀ v, ((wipe σ [ia]).set ia (some v))[ia]? = some (some v)) (h4 : ∀ v, wipe ((wipe σ [ia]).set ia (some v)) [ia] = wipe σ [ia]) (ho : H po = some (.lst (o.map V.int))) (hr : H pr = some (.lst (r.map V.int)))
    (q : ∀ D H', Same H H' → H D = none → H' D = some (.lst ((minus o r).map V.int)) → Q (.ref D) H') :
    tLc (iList K (tVar io)) (gName ia) (tTest (tOp (rIn K true) (tVar ia) (tVar ir))) (tVar ia) [ia] σ H Q := by
  obtain ⟨v, hv, rfl, _⟩ := h1
  refine ⟨.ref po, hv, po, rfl, ⟨_, SqL.of ho⟩, fun D nD => ?_⟩
  refine lc_list (xs := o.map V.int) (fun i Hx => Hx D = some (.lst (((o.take i).filter fun a => !decide (a ∈ r)).map V.int)) ∧ Same H Hx) ⟨upd_same, same_new nD⟩ (fun i Hx _ h => SqL.of (h.2 _ _ ho)) (fun i x Hx hi h => ?_) (fun Hx h => ?_)
  · obtain ⟨hD, e⟩ := h
    obtain ⟨a, ha, rfl⟩ : ∃ a, o[i]? = some a ∧ x = V.int a := by
      rw [List.getElem?_map] at hi
      cases hh : o[i]? with
      | none => rw [hh] at hi; cases hi
      | some z => rw [hh] at hi; exact ⟨z, rfl, (Option.some.inj hi).symm⟩
    refine ⟨h4 _, ?_⟩
    refine ⟨.int a, h3 _, .ref pr, h2 _, ?_⟩
    refine r_in (.inl (SqL.of (e _ _ hr))) rfl (flat_ints r) ?_
    refine ⟨_, rfl, ?_⟩
    rw [in_ints]
    have ft := filter_take (fun a => !decide (a ∈ r)) o i ha
    have hlen : (((o.take i).filter fun a => !decide (a ∈ r)).map V.int).length < sizeLine := by
      refine small1000 ?_
      rw [List.length_map]
      refine Nat.le_trans (List.length_filter_le ..) ?_
      rw [List.length_take]
      omega
    by_cases hb : a ∈ r
    · rw [decide_eq_true hb]
      refine itef rfl ⟨?_, e⟩
      rw [ft, if_neg (by rw [decide_eq_true hb]; decide)]
      exact hD
    · rw [decide_eq_false hb]
      refine itet rfl ⟨.int a, h3 _, _, hD, hlen, ?_, fun c u h => ?_⟩
      · rw [ft, if_pos (by rw [decide_eq_false hb]; rfl), upd_same, List.map_append]
        rfl
      · rw [upd_ne (ne_of_none h nD)]
        exact e _ _ h
  · rw [List.length_map, List.take_length] at h
    exact q D Hx h.2 nD h.1
theorem sets_facts : ∀ m : Fin 7, (allSets m.val).length ≤ 64 ∧ ∀ r ∈ allSets m.val, ascOk m.val (-1) r = true ∧ r.length ≤ 6 := by decide +kernel
theorem greedy_len (g : List Int → Bool) : ∀ (rs found : List (List Int)), (greedy g found rs).length ≤ found.length + rs.length
  | [], found => Nat.le_refl _
  | r :: rs, found => by
    show (greedy g _ rs).length ≤ _
    refine Nat.le_trans (greedy_len g rs _) ?_
    rw [List.length_cons]
    split
    · rw [List.length_append]
      show found.length + 1 + rs.length ≤ _
      omega
    · omega
theorem greedy_mem (g : List Int → Bool) : ∀ (rs found : List (List Int)) (x : List Int), x ∈ greedy g found rs → x ∈ found ∨ x ∈ rs
  | [], found, x, h => .inl h
  | r :: rs, found, x, h => by
    rcases greedy_mem g rs _ x h with q | q
    · split at q
      · rcases List.mem_append.mp q with q | q
        · exact .inl q
        · rw [List.mem_singleton.mp q]
          exact .inr (List.mem_cons_self ..)
      · exact .inl q
    · exact .inr (List.mem_cons_of_mem _ q)
section
variable {w : World} {K : Fr} {mg : Str → Option Value} {base : Heap}
def sp_least_sets (K : Fr) : Sp := fun vs H Q _ => ∃ (m : Addr) (n : Int) (s : Sc) (cs : List Ch), vs = [.ref m, .int n] ∧ MeAt K H m s cs ∧ s.ok ∧ (∀ c ∈ cs, c.ok) ∧ cs.length ≤ 6 ∧ 1 ≤ n ∧ n ≤ 1000000000000000000000000000000 ∧
  ∀ l xs H', Same H H' → H l = none → H' l = some (.lst xs) → RowsAt (fun p => H p = none ∧ p ≠ l) H' xs (least s cs n) → Q (.ref l) H'
abbrev n_least_sets : List Str := ["menu", "goal", "found", "row", "inner", "other", "at"]
theorem sc_least_sets : FnScope n_least_sets ["menu", "goal"] (defScope s_least_sets) := ⟨rfl, rfl, rfl, by decide +kernel, rfl, by decide +kernel, by decide +kernel⟩
theorem kp_least_sets (T : Tx K mg) : PySem.W.keepIn K (.ref (He.ga K "least_sets")) = true := kp_of T.d_least_sets
theorem ok_least_sets (T : Tx K mg) : FnR P w K mg base CX0 13 (He.ga K "least_sets") (sp_least_sets K) := by
  refine mk0 T.d_least_sets sc_least_sets (fun _ _ _ _ _ _ us hl => match us, hl with | [_, _], _ => rfl) (fun vs H Q E h => ?_) (fun cdv A outer s H vs Q E hr h => ?_)
  · obtain ⟨m, n, s, cs, rfl, _⟩ := h
    rfl
  · obtain ⟨m, n, s, cs, rfl, hm, hok, hco, hle, hn, hn2, k⟩ := h
    refine ⟨_, (pss_cons (ps_expr (pe_callR (ok_look_at_goal T) (hr.mono (by decide)) rfl T.g_look_at_goal (kp_look_at_goal T) pass0 (pa_cons (pv 0) (pa_cons (pv 1) pa_nil))))
      (pss_cons (ps_set (i := 2) sc_least_sets.nd rfl (Or.inl rfl) (pe_lst pa_nil))
      (pss_cons (ps_for PassesOwn.never rfl (pi_list (pe_callR (ok_all_sets T) (hr.mono (by decide)) rfl T.g_all_sets (kp_all_sets T) pass0 (pa_cons (pe_callB call_len_seq (by rfl) T.f_len PySem.boot_len (pa_cons (pe_fld (pv 0) rfl) pa_nil)) pa_nil))) (pg_name (i := 3) sc_least_sets.nd rfl (Or.inr rfl)) (pss_cons (ps_setLc (i := 4) (own := [("other", 5)]) (g := gName 5) rfl sc_least_sets.nd rfl rfl (sw_true rfl rfl rfl (by decide +kernel)) (pi_list (pv 2)) (blkOk_by (N := n_least_sets) (sc := defScope s_least_sets) (by decide +kernel)) (fun _ _ _ _ _ => (pg_name (i := 5) sc_least_sets.nd rfl (Or.inl rfl))) (fun _ _ _ _ _ => (pts_one (pt_cmpR (opK (r := rEqD) K rfl (op_eqD hr.units)) (pe_lc (own := [("at", 6)]) (g := gName 6) rfl sc_least_sets.nd (piK (r := fun K => iList K _) K rfl (pi_list (pv 5))) (blkOk_by (N := n_least_sets) (sc := relS _ (defScope s_least_sets)) (by decide +kernel)) (fun _ _ _ _ _ => (pg_name (i := 6) sc_least_sets.nd rfl (Or.inl rfl))) (fun _ _ _ _ _ => (pts_one (pt_cmpR (opK (r := fun K => rIn K true) K rfl op_notIn_seq) (pv 6) (pv 3) rfl))) (fun _ _ _ _ _ => (pv 6))) (pe_lst pa_nil) (nomark _)))) (fun _ _ _ _ _ => (pv 5)))
      (pss_one (ps_if (PW.pt (pw_and (pt_cmpR (op_eqD hr.units) (pv 4) (pe_lst pa_nil) (nomark _)) (pw_and1 (pt_val (pe_callR (ok_reaches T) (hr.mono (by decide)) rfl T.g_reaches (kp_reaches T) pass0 (pa_cons (pe_callR (ok_made T) (hr.mono (by decide)) rfl T.g_made (kp_made T) pass0 (pa_cons (pv 0) (pa_cons (pv 3) pa_nil))) (pa_cons (pv 1) pa_nil))))))) (pss_one (ps_expr (pe_bm PySem.F.plainAttrs_list PySem.F.slot_list_append PySem.F.type_list_append mt_append (pv 2) (pa_cons (pv 3) pa_nil)))) pss_nil))))
      (pss_one (ps_ret (pv 2)))))), r_start (σ := [some (.ref m), some (.int n), none, none, none, none, none]) rfl ?_⟩
    walk_at "rd"
    refine ⟨.ref m, n, rfl, hn, hn2, ?_⟩
    walk_at "rd"
    intro fl nfl
    walk_at "rd"
    have e1 := same_new (o := .lst []) nfl
    have hm1 := hm
    obtain ⟨dm, q, l, xs, hm0, hq, hl, hcs⟩ := hm1
    have lkr : ([("plain", V.ref q), ("rows", .ref l)] : List (Str × V)).lookup ("rows" : Str) = some (.ref l) := (lk1 (by decide +kernel)).trans lk0
    refine r_call ?_
    walk_at "rd"
    refine ⟨m, _, dm, _, _, rfl, e1 _ _ hm0, T.c_Menu, T.n_Menu_rows, lkr, ?_⟩
    walk_at "rd"
    refine ⟨_, _, rfl, .inl (SqL.of (e1 _ _ hl)), ?_⟩
    walk_at "rd"
    rw [hcs.1]
    refine ⟨cs.length, rfl, hle, fun al ax H1 e2 nal hal ral => ?_⟩
    obtain ⟨g1, g2⟩ := sets_facts ⟨cs.length, by omega⟩
    have g1 : (allSets cs.length).length ≤ 64 := g1
    have hN : ∀ p, upd H fl (.lst []) p = none → H p = none ∧ p ≠ fl := fun p h => by
      have ne : p ≠ fl := fun z => by
        rw [z, upd_same] at h
        cases h
      rw [upd_ne ne] at h
      exact ⟨h, ne⟩
    have nalf := (hN al nal).2
    have fl1 := e2 _ _ (upd_same : upd H fl (.lst []) fl = _)
    refine ⟨al, rfl, ⟨ax, SqL.of hal⟩, for_list (xs := ax) (fun i σ Hx => ∃ (fx : List V) (a b c d : Option V), σ = [some (.ref m), some (.int n), some (.ref fl), a, b, c, d] ∧ SameX fl H1 Hx ∧ Hx fl = some (.lst fx) ∧
      RowsAt (fun p => upd H fl (.lst []) p = none) Hx fx (greedy (good s cs n) [] ((allSets cs.length).take i))) ?_ (fun i σ Hx _ ⟨_, _, _, _, _, _, e, _⟩ => SqL.of (e _ _ hal nalf)) ?_ ?_⟩
    · exact ⟨[], _, _, _, _, rfl, SameX.refl, fl1, .nil⟩
    · rintro i v σ Hx hi ⟨fx, a, b, c, d, rfl, eX, hfl, rf⟩
      have eH : Same H Hx := fun c o h => eX _ _ (e2 _ _ (e1 _ _ h)) (ne_of_none h nfl)
      obtain ⟨p, r, rfl, hr, np, hp⟩ := (ral.imp fun p r a b => ⟨a, eX _ _ b (hN p a).2⟩).at_ hi
      obtain ⟨hasc, hr6⟩ := g2 r (List.mem_of_getElem? hr)
      have hfound : ∀ o ∈ greedy (good s cs n) [] ((allSets cs.length).take i), o.length ≤ 6 := fun o ho => by
        rcases greedy_mem _ _ _ _ ho with z | z
        · cases z
        · exact (g2 o (List.mem_of_mem_take z)).2
      have hflen : (greedy (good s cs n) [] ((allSets cs.length).take i)).length ≤ 64 := by
        refine Nat.le_trans (greedy_len ..) ?_
        rw [List.length_nil, List.length_take]
        omega
      have gt := greedy_take (good s cs n) (allSets cs.length) [] i r hr
      generalize greedy (good s cs n) [] ((allSets cs.length).take i) = found at rf hfound hflen gt
      walk_at "rd"
      refine ⟨.ref fl, rfl, fl, rfl, ⟨fx, SqL.of hfl⟩, fun D nD => ?_⟩
      refine lc_list (xs := fx) (fun j Hy => ∃ acc, Hy D = some (.lst acc) ∧ RowsAt (fun p => p ≠ D) Hy acc ((found.take j).filter fun o => inside o r) ∧ Same Hx Hy) ⟨[], upd_same, .nil, same_new nD⟩ (fun j Hy _ ⟨_, _, _, e⟩ => SqL.of (e _ _ hfl)) ?_ ?_
      · rintro j v' Hy hj ⟨acc, hacc, racc, ey⟩
        obtain ⟨po, o, rfl, ho, npo, hpo⟩ := rf.at_ hj
        have nePD : po ≠ D := ne_of_none hpo nD
        have ho6 := hfound o (List.mem_of_getElem? ho)
        refine ⟨rfl, ?_⟩
        show tTest (tOp (rEqD K) (tLc (iList K (tVar 5)) (gName 6) (tTest (tOp (rIn K true) (tVar 6) (tVar 3))) (tVar 6) [6]) (tLst tNil)) [some (.ref m), some (.int n), some (.ref fl), some (.ref p), b, some (.ref po), d] Hy _
        refine r_test (r_op ?_)
        refine minus_lc (σ := [some (.ref m), some (.int n), some (.ref fl), some (.ref p), b, some (.ref po), d]) (io := 5) (ia := 6) (ir := 3) (o := o) (r := r) (by omega) ⟨.ref po, rfl, rfl, rfl⟩ (fun _ => rfl) (fun _ => rfl) (fun _ => rfl) (ey _ _ hpo) (ey _ _ hp) fun D2 H2 e22 nD2 hD2 => ?_
        walk_at "rd"
        intro l2 nl2
        have e3 := same_new2 (o := .lst []) e22 nl2
        refine r_eqD (dp_row (same_new nl2 _ _ hD2)) (.lst (SqL.of upd_same) .nil) (rD_shaped _) (rD_shaped []) ?_
        rw [show PyData.list [] = rD [] from rfl, rD_eqv]
        refine ⟨_, rfl, ?_⟩
        rw [show decide (minus o r = []) = inside o r from rfl]
        have ft := filter_take (fun o => inside o r) found j ho
        cases hb : inside o r with
        | true =>
          refine itet rfl ⟨.ref po, rfl, acc, e3 _ _ hacc, small1000 ?_, acc ++ [.ref po], upd_same, ?_, fun c u h => ?_⟩
          · rw [racc.len]
            refine Nat.le_trans (List.length_filter_le ..) ?_
            rw [List.length_take]
            omega
          · rw [ft, if_pos hb]
            refine ((racc.same e3).app (.one nePD (e3 _ _ (ey _ _ hpo)))).put fun _ z => z
          · rw [upd_ne (ne_of_none h nD)]
            exact e3 _ _ (ey _ _ h)
        | false =>
          refine itef rfl ⟨acc, e3 _ _ hacc, ?_, ey.trans e3⟩
          rw [ft, if_neg (by rw [hb]; decide)]
          exact racc.same e3
      · rintro Hy ⟨acc, hacc, racc, ey⟩
        rw [rf.len, List.take_length] at racc
        have hfly := ey _ _ hfl
        have rfy := rf.same ey
        have eHy := eH.trans ey
        walk_at "rd"
        intro l3 nl3
        have e3 := same_new (o := .lst []) nl3
        refine r_eqD ((racc.same e3).dpl (e3 _ _ hacc)) (.lst (SqL.of upd_same) .nil) (rsD_shaped _) (rsD_shaped []) ?_
        rw [show PyData.list [] = rsD [] from rfl, rsD_eqv]
        walk_at "rd"
        have next : ∀ H9, Same Hy H9 → ((found.filter fun o => inside o r) = [] ∧ good s cs n r = true → False) → ∃ (fx : List V) (a2 b2 c2 d2 : Option V), ([some (.ref m), some (.int n), some (.ref fl), some (.ref p), some (.ref D), c, d] : L2.St) = [some (.ref m), some (.int n), some (.ref fl), a2, b2, c2, d2] ∧ SameX fl H1 H9 ∧ H9 fl = some (.lst fx) ∧
            RowsAt (fun p => upd H fl (.lst []) p = none) H9 fx (greedy (good s cs n) [] ((allSets cs.length).take (i + 1))) := by
          intro H9 e9 hno
          refine ⟨fx, _, _, _, _, rfl, eX.same (ey.trans e9), e9 _ _ hfly, ?_⟩
          rw [gt, if_neg hno]
          exact rfy.same e9
        by_cases hin : (found.filter fun o => inside o r) = []
        · refine itet (decide_eq_true hin) ?_
          walk_at "rd"
          refine ⟨m, p, s, cs, r, rfl, hm.same (eHy.trans e3), hok, hco, hle, e3 _ _ (ey _ _ hp), hasc, fun hmd H4 e4 => ?_, fun s' hmd q' H4 e4 hq' hok' => ?_⟩
          · walk_at "rd"
            refine ⟨.non, n, rfl, hn, hn2, .inl ⟨rfl, ?_⟩⟩
            walk_at "rd"
            refine next H4 (e3.trans e4) fun z => ?_
            have z2 := z.2
            unfold good at z2
            rw [hmd] at z2
            cases z2
          · walk_at "rd"
            refine ⟨.ref q', n, rfl, hn, hn2, .inr ⟨q', s', rfl, hq', hok', fun H5 e5 => ?_⟩⟩
            have hg : good s cs n r = right s' n := by
              unfold good
              rw [hmd]
            have e6 := (e3.trans e4).trans e5
            walk_at "rd"
            cases hgr : right s' n with
            | true =>
              refine itet rfl ?_
              walk_at "rd"
              refine r_bm ?_
              walk_at "rd"
              refine ⟨ty_lst (SqL.of (e6 _ _ hfly)), ?_⟩
              walk_at "rd"
              refine ⟨fl, fx, .ref p, rfl, rfl, e6 _ _ hfly, small1000 ?_, ?_⟩
              · rw [rf.len]
                omega
              · refine ⟨fx ++ [.ref p], _, _, _, _, rfl, (eX.same (ey.trans e6)).put, upd_same, ?_⟩
                rw [gt, if_pos ⟨hin, hg.trans hgr⟩]
                exact ((rfy.same e6).app (.one np (e6 _ _ (ey _ _ hp)))).put fun p h => (hN p h).2
            | false =>
              refine itef rfl ?_
              refine r_next ?_
              refine next H5 e6 fun z => ?_
              rw [hg, hgr] at z
              cases z.2
        · refine itef (decide_eq_false hin) ?_
          walk_at "rd"
          exact next _ e3 fun z => hin z.1
    · rintro σ Hx ⟨fx, a, b, c, d, rfl, eX, hfl, rf⟩
      have eH : Same H Hx := fun c o h => eX _ _ (e2 _ _ (e1 _ _ h)) (ne_of_none h nfl)
      rw [ral.len, List.take_length] at rf
      walk_at "rd"
      exact k fl fx Hx eH nfl hfl (rf.weak fun p h => hN p h)
end
end Ls
namespace Ls
open PySem PySem.Spec PyProof.Rows L2
/-! ### the law's source of numbers -/
def SrcAt (H : Hp) (a : Addr) : Prop := ∃ x y : Int, H a = some (.lst [.int x, .int y])
section
variable {w : World} {K : Fr} {mg : Str → Option Value} {base : Heap}
def sp_law_source (K : Fr) : Sp := fun vs H Q _ => ∃ (l : Addr) (xs : List Int) (i : Int), vs = [.ref l, .int i] ∧ SqL K H l (xs.map V.int) ∧ 0 ≤ i ∧ ∀ a x y, H a = none → Q (.ref a) (upd H a (.lst [.int x, .int y]))
abbrev n_law_source : List Str := ["_law_script", "_law_turn", "_law_cell", "_law_number", "_law_seed"]
theorem sc_law_source : FnScope n_law_source ["_law_script", "_law_turn"] (defScope s_law_source) := ⟨rfl, rfl, rfl, by decide +kernel, rfl, by decide +kernel, by decide +kernel⟩
theorem kp_law_source (T : Tx K mg) : PySem.W.keepIn K (.ref (He.ga K "_law_source")) = true := kp_of T.d_law_source
theorem ok_law_source (T : Tx K mg) : FnR P w K mg base CX0 1 (He.ga K "_law_source") (sp_law_source K) := by
  refine mk0 T.d_law_source sc_law_source (fun _ _ _ _ _ _ us hl => match us, hl with | [_, _], _ => rfl) (fun vs H Q E h => ?_) (fun cdv A outer s H vs Q E hr h => ?_)
  · obtain ⟨l, xs, i, rfl, _⟩ := h
    rfl
  · obtain ⟨l, xs, i, rfl, hl, hi, k⟩ := h
    refine ⟨_, (pss_cons (ps_set (i := 2) sc_law_source.nd rfl (Or.inl rfl) pe_int)
      (pss_cons (ps_if (pt_cmpR op_lt (pv 1) (pe_callB call_len_seq (by rfl) T.f_len PySem.boot_len (pa_cons (pv 0) pa_nil)) (nomark _)) (pss_one (ps_set (i := 2) sc_law_source.nd rfl (Or.inl rfl) (pe_ix ix_list (pv 0) (pv 1) (fun _ _ => rfl)))) pss_nil)
      (pss_cons (ps_set (i := 3) sc_law_source.nd rfl (Or.inl rfl) (pe_callB call_abs (by rfl) T.f_abs (by decide +kernel) (pa_cons (pv 2) pa_nil)))
      (pss_cons (ps_set (i := 4) sc_law_source.nd rfl (Or.inl rfl) (pe_op op_mod (pe_callTy call_int1 (by rfl) T.f_int (by decide +kernel) (pa_cons (pe_op op_add (pe_op op_add (pe_op op_mul (pe_op op_mod (pe_callTy call_int1 (by rfl) T.f_int (by decide +kernel) (pa_cons (pv 3) pa_nil)) pe_int) pe_int) (pe_op op_mul pe_int (pv 1))) pe_int) pa_nil)) pe_int))
      (pss_cons (ps_if (pt_cmpR op_lt (pv 3) (pe_op op_pow pe_int pe_int) (nomark _)) (pss_one (ps_set (i := 3) sc_law_source.nd rfl (Or.inl rfl) pe_int)) pss_nil)
      (pss_one (ps_ret (pe_lst (pa_cons (pv 3) (pa_cons (pv 4) pa_nil)))))))))), r_start (σ := [some (.ref l), some (.int i), none, none, none]) rfl ?_⟩
    walk_at "rd"
    refine ⟨_, _, rfl, .inl hl, ?_⟩
    walk_at "rd"
    have hx : decide (i < ((xs.map V.int).length : Int)) = true → ∃ z : Int, atI (xs.map V.int) i = some (.int z) := fun h => by
      have h := of_decide_eq_true h
      rw [List.length_map] at h
      exact ⟨xs[i.toNat]'(by omega), row_at _ hi (by rw [List.getElem?_map, List.getElem?_eq_getElem (by omega)]; rfl)⟩
    refine ite2 (fun h => ?_) (fun h => ?_)
    · obtain ⟨z, hz⟩ := hx h
      walk_at "r1"
      walk_at "r1"
      walk_at "r1"
      walk_at "r1"
      refine r_ixL hl hz ?_
      walk_at "rd"
      refine r_i (by decide) ?_
      walk_at "rd"
      refine r_i (.inr ⟨by decide, by decide⟩) ?_
      walk_at "rd"
      refine r_i (.inl ⟨by decide, by decide⟩) ?_
      walk_at "rd"
      refine r_i (by decide) ?_
      walk_at "rd"
      refine r_i ⟨by decide, by decide, by decide⟩ ?_
      walk_at "rd"
      refine ite2 (fun h => ?_) (fun h => ?_)
      · walk_at "rd"
        intro a na
        exact k a _ _ na
      · walk_at "rd"
        intro a na
        exact k a _ _ na
    · walk_at "rd"
      refine r_i (by decide) ?_
      walk_at "rd"
      refine r_i (.inr ⟨by decide, by decide⟩) ?_
      walk_at "rd"
      refine r_i (.inl ⟨by decide, by decide⟩) ?_
      walk_at "rd"
      refine r_i (by decide) ?_
      walk_at "rd"
      refine r_i ⟨by decide, by decide, by decide⟩ ?_
      walk_at "rd"
      refine ite2 (fun h => ?_) (fun h => ?_)
      · walk_at "rd"
        intro a na
        exact k a _ _ na
      · walk_at "rd"
        intro a na
        exact k a _ _ na
/-- a drawn number -/
def sp_law_draw (K : Fr) : Sp := fun vs H Q _ => ∃ (a : Addr) (am : Int), vs = [.ref a, .int am] ∧ SrcAt H a ∧ CDivW 0 am ∧ ∀ d H', 0 ≤ d → d < am → SameX a H H' → SrcAt H' a → Q (.int d) H'
theorem at0 {x y : Int} : atI [V.int x, V.int y] 0 = some (.int x) := rfl
theorem at1 {x y : Int} : atI [V.int x, V.int y] 1 = some (.int y) := rfl
abbrev n_law_draw : List Str := ["_law_source_here", "_law_amount", "_law_digit", "_law_found"]
theorem sc_law_draw : FnScope n_law_draw ["_law_source_here", "_law_amount"] (defScope s_law_draw) := ⟨rfl, rfl, rfl, by decide +kernel, rfl, by decide +kernel, by decide +kernel⟩
theorem kp_law_draw (T : Tx K mg) : PySem.W.keepIn K (.ref (He.ga K "_law_draw")) = true := kp_of T.d_law_draw
theorem ok_law_draw (T : Tx K mg) : FnR P w K mg base CX0 1 (He.ga K "_law_draw") (sp_law_draw K) := by
  refine mk0 T.d_law_draw sc_law_draw (fun _ _ _ _ _ _ us hl => match us, hl with | [_, _], _ => rfl) (fun vs H Q E h => ?_) (fun cdv A outer s H vs Q E hr h => ?_)
  · obtain ⟨a, am, rfl, _⟩ := h
    rfl
  · obtain ⟨a, am, rfl, ⟨x, y, ha⟩, hc, k⟩ := h
    have hpos : 0 < am := hc.1
    refine ⟨_, (pss_cons (ps_if (pt_cmpR op_gt (pe_ix ix_list (pv 0) pe_int (fun _ _ => rfl)) pe_int (nomark _)) (pss_cons (ps_set (i := 2) sc_law_draw.nd rfl (Or.inl rfl) (pe_op op_modN (pe_callTy call_int1 (by rfl) T.f_int (by decide +kernel) (pa_cons (pe_ix ix_list (pv 0) pe_int (fun _ _ => rfl)) pa_nil)) (pv 1)))
      (pss_cons (ps_asg (pe_op op_fdivW (pe_ix ix_list (pv 0) pe_int (fun _ _ => rfl)) (pv 1)) (pg_sub (pv 0) pe_int set_list))
      (pss_one (ps_ret (pv 2))))) pss_nil)
      (pss_cons (ps_asg (pe_op op_mod (pe_callTy call_int1 (by rfl) T.f_int (by decide +kernel) (pa_cons (pe_op op_add (pe_op op_mul (pe_ix ix_list (pv 0) pe_int (fun _ _ => rfl)) pe_int) pe_int) pa_nil)) pe_int) (pg_sub (pv 0) pe_int set_list))
      (pss_cons (ps_set (i := 3) sc_law_draw.nd rfl (Or.inl rfl) (pe_op op_fdiv (pe_op op_mod (pe_callTy call_int1 (by rfl) T.f_int (by decide +kernel) (pa_cons (pe_op op_mul (pe_ix ix_list (pv 0) pe_int (fun _ _ => rfl)) (pe_ix ix_list (pv 0) pe_int (fun _ _ => rfl))) pa_nil)) pe_int) pe_int))
      (pss_cons (ps_if (pt_cmpR op_gt (pv 1) (pe_op op_pow pe_int pe_int) (nomark _)) (pss_cons (ps_asg (pe_op op_mod (pe_callTy call_int1 (by rfl) T.f_int (by decide +kernel) (pa_cons (pe_op op_add (pe_op op_mul (pe_ix ix_list (pv 0) pe_int (fun _ _ => rfl)) pe_int) pe_int) pa_nil)) pe_int) (pg_sub (pv 0) pe_int set_list))
      (pss_one (ps_set (i := 3) sc_law_draw.nd rfl (Or.inl rfl) (pe_op op_add (pe_op op_mul (pv 3) pe_int) (pe_op op_fdiv (pe_op op_mod (pe_callTy call_int1 (by rfl) T.f_int (by decide +kernel) (pa_cons (pe_op op_mul (pe_ix ix_list (pv 0) pe_int (fun _ _ => rfl)) (pe_ix ix_list (pv 0) pe_int (fun _ _ => rfl))) pa_nil)) pe_int) pe_int))))) pss_nil)
      (pss_one (ps_ret (pe_op op_modN (pe_callTy call_int1 (by rfl) T.f_int (by decide +kernel) (pa_cons (pv 3) pa_nil)) (pv 1)))))))), r_start (σ := [some (.ref a), some (.int am), none, none]) rfl ?_⟩
    walk_at "rd"
    refine r_ixL (SqL.of ha) at0 ?_
    walk_at "rd"
    refine ite2 (fun h => ?_) (fun h => ?_)
    · walk_at "rd"
      refine r_ixL (SqL.of ha) at0 ?_
      walk_at "rd"
      refine r_i (by omega) ?_
      walk_at "rd"
      refine r_ixL (SqL.of ha) at0 ?_
      walk_at "rd"
      refine r_i hc ?_
      refine ⟨.ref a, rfl, a, _, 0, 0, rfl, rfl, ha, rfl, ?_⟩
      walk_at "rd"
      refine k _ _ ?_ ?_ SameX.refl.put ⟨x / am, y, upd_same⟩
      · rw [fmod_pos (by omega)]
        exact Int.emod_nonneg _ (by omega)
      · rw [fmod_pos (by omega)]
        exact Int.emod_lt_of_pos _ hpos
    · walk_at "rd"
      refine r_ixL (SqL.of ha) at1 ?_
      walk_at "rd"
      refine r_i (.inr ⟨by decide, by decide⟩) ?_
      walk_at "rd"
      refine r_i (by decide) ?_
      refine ⟨.ref a, rfl, a, _, 1, 1, rfl, rfl, ha, rfl, ?_⟩
      have z1 := Int.emod_nonneg (y * 48271 + 11) (show (2147483647 : Int) ≠ 0 by decide)
      have z2 := Int.emod_lt_of_pos (y * 48271 + 11) (show (0 : Int) < 2147483647 by decide)
      generalize (y * 48271 + 11) % 2147483647 = y1 at z1 z2 ⊢
      have hy1 : upd H a (.lst ([V.int x, V.int y].set 1 (.int y1))) a = some (.lst [.int x, .int y1]) := upd_same
      have X1 : SameX a H (upd H a (.lst ([V.int x, V.int y].set 1 (.int y1)))) := SameX.refl.put
      generalize upd H a (.lst ([V.int x, V.int y].set 1 (.int y1))) = H1 at hy1 X1 ⊢
      walk_at "rd"
      refine r_ixL (SqL.of hy1) at1 ?_
      walk_at "rd"
      refine r_ixL (SqL.of hy1) at1 ?_
      walk_at "rd"
      refine r_i (.inl ⟨by omega, by omega⟩) ?_
      walk_at "rd"
      refine r_i (by decide) ?_
      walk_at "rd"
      refine r_i ⟨by decide, by decide⟩ ?_
      walk_at "rd"
      refine r_i ⟨by decide, by decide, by decide⟩ ?_
      walk_at "rd"
      refine ite2 (fun h => ?_) (fun h => ?_)
      · walk_at "rd"
        refine r_ixL (SqL.of hy1) at1 ?_
        walk_at "rd"
        refine r_i (.inr ⟨by decide, by decide⟩) ?_
        walk_at "rd"
        refine r_i (by decide) ?_
        refine ⟨.ref a, rfl, a, _, 1, 1, rfl, rfl, hy1, rfl, ?_⟩
        have z1 := Int.emod_nonneg (y1 * 39373 + 17) (show (2147483647 : Int) ≠ 0 by decide)
        have z2 := Int.emod_lt_of_pos (y1 * 39373 + 17) (show (0 : Int) < 2147483647 by decide)
        generalize (y1 * 39373 + 17) % 2147483647 = y2 at z1 z2 ⊢
        have hy2 : upd H1 a (.lst ([V.int x, V.int y1].set 1 (.int y2))) a = some (.lst [.int x, .int y2]) := upd_same
        have X2 : SameX a H (upd H1 a (.lst ([V.int x, V.int y1].set 1 (.int y2)))) := X1.put
        generalize upd H1 a (.lst ([V.int x, V.int y1].set 1 (.int y2))) = H2 at hy2 X2 ⊢
        walk_at "rd"
        refine r_i (.inr ⟨by decide, by decide⟩) ?_
        walk_at "rd"
        refine r_ixL (SqL.of hy2) at1 ?_
        walk_at "rd"
        refine r_ixL (SqL.of hy2) at1 ?_
        walk_at "rd"
        refine r_i (.inl ⟨by omega, by omega⟩) ?_
        walk_at "rd"
        refine r_i (by decide) ?_
        walk_at "rd"
        refine r_i ⟨by decide, by decide⟩ ?_
        walk_at "rd"
        refine r_i (by omega) ?_
        refine k _ _ ?_ ?_ X2 ⟨x, y2, hy2⟩
        · rw [fmod_pos (by omega)]
          exact Int.emod_nonneg _ (by omega)
        · rw [fmod_pos (by omega)]
          exact Int.emod_lt_of_pos _ hpos
      · walk_at "rd"
        refine r_i (by omega) ?_
        refine k _ _ ?_ ?_ X1 ⟨x, y1, hy1⟩
        · rw [fmod_pos (by omega)]
          exact Int.emod_nonneg _ (by omega)
        · rw [fmod_pos (by omega)]
          exact Int.emod_lt_of_pos _ hpos
def sp_law_pick (K : Fr) : Sp := fun vs H Q _ => ∃ (a l : Addr) (xs : List V), vs = [.ref a, .ref l] ∧ SrcAt H a ∧ H l = some (.lst xs) ∧ 0 < xs.length ∧ xs.length ≤ 10 ∧ l ≠ a ∧ ∀ x H', x ∈ xs → SameX a H H' → SrcAt H' a → Q x H'
theorem small_div {n : Nat} (h : 0 < n) (h2 : n ≤ 10) : CDivW 0 (n : Int) := by
  have k : ∀ m : Fin 11, 0 < m.val → CDivW 0 (m.val : Int) := by
    intro m hm
    refine ⟨by omega, ?_⟩
    have : (m.val : Int).natAbs < 16 := by omega
    exact Nat.lt_of_le_of_lt (Nat.log2_le_self _) (by omega)
  exact k ⟨n, by omega⟩ h
abbrev n_law_pick : List Str := ["_law_source_here", "_law_items"]
theorem sc_law_pick : FnScope n_law_pick ["_law_source_here", "_law_items"] (defScope s_law_pick) := ⟨rfl, rfl, rfl, by decide +kernel, rfl, by decide +kernel, by decide +kernel⟩
theorem kp_law_pick (T : Tx K mg) : PySem.W.keepIn K (.ref (He.ga K "_law_pick")) = true := kp_of T.d_law_pick
theorem ok_law_pick (T : Tx K mg) : FnR P w K mg base CX0 2 (He.ga K "_law_pick") (sp_law_pick K) := by
  refine mk0 T.d_law_pick sc_law_pick (fun _ _ _ _ _ _ us hl => match us, hl with | [_, _], _ => rfl) (fun vs H Q E h => ?_) (fun cdv A outer s H vs Q E hr h => ?_)
  · obtain ⟨a, l, xs, rfl, _⟩ := h
    rfl
  · obtain ⟨a, l, xs, rfl, ha, hl, h0, h1, hne, k⟩ := h
    refine ⟨_, (pss_one (ps_ret (pe_ix ix_list (pv 1) (pe_callR (ok_law_draw T) (hr.mono (by decide)) rfl T.g_law_draw (kp_law_draw T) pass0 (pa_cons (pv 0) (pa_cons (pe_callB call_len_seq (by rfl) T.f_len PySem.boot_len (pa_cons (pv 1) pa_nil)) pa_nil))) (fun _ _ => rfl)))), r_start (σ := [some (.ref a), some (.ref l)]) rfl ?_⟩
    walk_at "rd"
    refine ⟨_, _, rfl, .inl (SqL.of hl), ?_⟩
    walk_at "rd"
    refine ⟨a, _, rfl, ha, small_div h0 h1, fun d H' hd0 hd1 X hs => ?_⟩
    have hd2 : d.toNat < xs.length := by omega
    refine r_ixL (SqL.of (X _ _ hl hne)) (row_at xs hd0 (List.getElem?_eq_getElem hd2)) ?_
    exact k _ _ (List.getElem_mem hd2) X hs
end
end Ls
namespace Ls
open PySem PySem.Spec PyProof.Rows L2
section
variable {w : World} {K : Fr} {mg : Str → Option Value} {base : Heap}
/-! ### sizes -/
theorem div_const {m : Int} (h : decide (0 < m ∧ m.natAbs.log2 < 9000) = true) : CDivW 0 m := (of_decide_eq_true h : 0 < m ∧ m.natAbs.log2 < 9000)
def sp_law_power (K : Fr) : Sp := fun vs H Q _ => ∃ m : Nat, vs = [.int m] ∧ m ≤ 100 ∧ Q (.int ((2 : Int) ^ m)) H
abbrev n_law_power : List Str := ["_law_many", "_law_found", "_law_turn"]
theorem sc_law_power : FnScope n_law_power ["_law_many"] (defScope s_law_power) := ⟨rfl, rfl, rfl, by decide +kernel, rfl, by decide +kernel, by decide +kernel⟩
theorem kp_law_power (T : Tx K mg) : PySem.W.keepIn K (.ref (He.ga K "_law_power")) = true := kp_of T.d_law_power
theorem ok_law_power (T : Tx K mg) : FnR P w K mg base CX0 1 (He.ga K "_law_power") (sp_law_power K) := by
  refine mk0 T.d_law_power sc_law_power (fun _ _ _ _ _ _ us hl => match us, hl with | [_], _ => rfl) (fun vs H Q E h => ?_) (fun cdv A outer s H vs Q E hr h => ?_)
  · obtain ⟨m, rfl, _⟩ := h
    rfl
  · obtain ⟨m, rfl, hm, k⟩ := h
    refine ⟨_, (pss_cons (ps_set (i := 1) sc_law_power.nd rfl (Or.inl rfl) pe_int)
      (pss_cons (ps_for PassesOwn.never rfl (pi_range1 rfl T.f_range (pa_cons (pv 0) pa_nil)) (pg_name (i := 2) sc_law_power.nd rfl (Or.inl rfl)) (pss_one (ps_set (i := 1) sc_law_power.nd rfl (Or.inl rfl) (pe_op op_mul (pv 1) pe_int))))
      (pss_one (ps_ret (pv 1))))), r_start (σ := [some (.int m), none, none]) rfl ?_⟩
    walk_at "rd"
    refine ⟨.int m, rfl, (m : Int), rfl, by omega, by omega, for_range (fun i σ H' => ∃ a, σ = [some (.int m), some (.int ((2 : Int) ^ i)), a] ∧ H' = H) ?_ ?_ ?_⟩
    · exact ⟨none, rfl, rfl⟩
    · rintro i σ H' hi ⟨a, rfl, rfl⟩
      walk_at "rd"
      refine r_i (.inr ⟨by decide, by decide⟩) ?_
      walk_at "rd"
      exact ⟨_, by rw [Int.pow_succ], rfl⟩
    · rintro σ H' ⟨a, rfl, rfl⟩
      walk_at "rd"
      exact k
def sp_law_size (K : Fr) : Sp := fun vs H Q _ => ∃ a : Addr, vs = [.ref a] ∧ SrcAt H a ∧ ∀ n H', 1 ≤ n → n ≤ 1000000000000000000000000000000 → SameX a H H' → SrcAt H' a → Q (.int n) H'
theorem SameX.trans {x : Addr} {H1 H2 H3 : Hp} (a : SameX x H1 H2) (b : SameX x H2 H3) : SameX x H1 H3 := fun c o e n => b _ _ (a _ _ e n) n
abbrev n_law_size : List Str := ["_law_source_here", "_law_way"]
theorem sc_law_size : FnScope n_law_size ["_law_source_here"] (defScope s_law_size) := ⟨rfl, rfl, rfl, by decide +kernel, rfl, by decide +kernel, by decide +kernel⟩
theorem kp_law_size (T : Tx K mg) : PySem.W.keepIn K (.ref (He.ga K "_law_size")) = true := kp_of T.d_law_size
theorem ok_law_size (T : Tx K mg) : FnR P w K mg base CX0 3 (He.ga K "_law_size") (sp_law_size K) := by
  refine mk0 T.d_law_size sc_law_size (fun _ _ _ _ _ _ us hl => match us, hl with | [_], _ => rfl) (fun vs H Q E h => ?_) (fun cdv A outer s H vs Q E hr h => ?_)
  · obtain ⟨a, rfl, _⟩ := h
    rfl
  · obtain ⟨a, rfl, ha, k⟩ := h
    refine ⟨_, (pss_cons (ps_set (i := 1) sc_law_size.nd rfl (Or.inl rfl) (pe_callR (ok_law_draw T) (hr.mono (by decide)) rfl T.g_law_draw (kp_law_draw T) pass0 (pa_cons (pv 0) (pa_cons pe_int pa_nil))))
      (pss_cons (ps_if (pt_cmpR op_lt (pv 1) pe_int (nomark _)) (pss_one (ps_ret (pe_op op_add pe_int (pe_callR (ok_law_draw T) (hr.mono (by decide)) rfl T.g_law_draw (kp_law_draw T) pass0 (pa_cons (pv 0) (pa_cons pe_int pa_nil)))))) pss_nil)
      (pss_cons (ps_if (pt_cmpR op_eq (pv 1) pe_int (nomark _)) (pss_one (ps_ret (pe_op op_add (pe_callR (ok_law_power T) (hr.mono (by decide)) rfl T.g_law_power (kp_law_power T) pass0 (pa_cons (pe_callR (ok_law_draw T) (hr.mono (by decide)) rfl T.g_law_draw (kp_law_draw T) pass0 (pa_cons (pv 0) (pa_cons pe_int pa_nil))) pa_nil)) (pe_callR (ok_law_draw T) (hr.mono (by decide)) rfl T.g_law_draw (kp_law_draw T) pass0 (pa_cons (pv 0) (pa_cons pe_int pa_nil)))))) pss_nil)
      (pss_one (ps_ret (pe_op op_add pe_int (pe_callR (ok_law_draw T) (hr.mono (by decide)) rfl T.g_law_draw (kp_law_draw T) pass0 (pa_cons (pv 0) (pa_cons (pe_op op_pow pe_int pe_int) pa_nil))))))))), r_start (σ := [some (.ref a), none]) rfl ?_⟩
    walk_at "rd"
    refine ⟨a, 5, rfl, ha, div_const (by decide), fun d H1 h0 h1 X1 ha1 => ?_⟩
    walk_at "rd"
    refine ite2 (fun h => ?_) (fun h => ?_)
    · walk_at "rd"
      refine ⟨a, 14, rfl, ha1, div_const (by decide), fun d2 H2 h2 h3 X2 ha2 => ?_⟩
      walk_at "rd"
      exact k _ _ (by omega) (by omega) (X1.trans X2) ha2
    · walk_at "rd"
      rw [dec_int']
      refine ite2 (fun h => ?_) (fun h => ?_)
      · walk_at "rd"
        refine ⟨a, 99, rfl, ha1, div_const (by decide), fun d2 H2 h2 h3 X2 ha2 => ?_⟩
        walk_at "rd"
        obtain ⟨m, rfl⟩ : ∃ m : Nat, d2 = m := ⟨d2.toNat, by omega⟩
        refine ⟨m, rfl, by omega, ?_⟩
        walk_at "rd"
        refine ⟨a, 2, rfl, ha2, div_const (by decide), fun d3 H3 h4 h5 X3 ha3 => ?_⟩
        walk_at "rd"
        have p1 : 1 ≤ (2 : Int) ^ m := by
          have := Nat.one_le_two_pow (n := m)
          exact_mod_cast this
        have p2 : (2 : Int) ^ m ≤ 2 ^ 98 := by
          have := Nat.pow_le_pow_right (n := 2) (by decide) (show m ≤ 98 by omega)
          exact_mod_cast this
        have p3 : (2 : Int) ^ 98 = 316912650057057350374175801344 := by decide
        exact k _ _ (by omega) (by omega) ((X1.trans X2).trans X3) ha3
      · walk_at "rd"
        refine r_i ⟨by decide, by decide, by decide⟩ ?_
        walk_at "rd"
        refine ⟨a, _, rfl, ha1, div_const (by decide), fun d2 H2 h2 h3 X2 ha2 => ?_⟩
        walk_at "rd"
        have h3 : d2 < 1000000000000000000000000000000 := h3
        exact k _ _ (by omega) (by omega) (X1.trans X2) ha2
end
end Ls
namespace Ls
open PySem PySem.Spec PyProof.Rows L2
/-! ### drawn parts -/
def Kt (H H' : Hp) : Prop := ∀ c xs, H c = some (.tup xs) → H' c = some (.tup xs)
def LwAt (H : Hp) (v : V) : Wr → Prop
  | .wid w => v = .int w
  | .frm a b => ∃ p, v = .ref p ∧ H p = some (.tup [.int a, .int b])
def LfAt (H : Hp) (v : V) : Fu → Prop
  | .next => ∃ p, v = .ref p ∧ H p = some (.tup [.str "next"])
  | .note => ∃ p, v = .ref p ∧ H p = some (.tup [.str "note"])
  | .diff o a b => ∃ p q, v = .ref p ∧ H p = some (.tup [.str "diff", .str o.s, .ref q]) ∧ H q = some (.tup [.int a, .int b])
  | .count o a b => ∃ p q, v = .ref p ∧ H p = some (.tup [.str "count", .str o.s, .ref q]) ∧ H q = some (.tup [.int a, .int b])
def LpAt (H : Hp) (v : V) (s : Sc) : Prop := ∃ p wv fv, v = .ref p ∧ H p = some (.tup [wv, .str s.slot.s, .str s.empty.s, fv, .str s.when.s]) ∧ LwAt H wv s.wrap ∧ LfAt H fv s.full
def LV (H : Hp) (v : V) : Ch → Prop
  | .wrap x => LwAt H v x
  | .slot s => v = .str s.s
  | .empty e => v = .str e.s
  | .full f => LfAt H v f
  | .when h => v = .str h.s
def LcAt (H : Hp) (v : V) (c : Ch) : Prop := ∃ p y, v = .ref p ∧ H p = some (.tup [.str c.nm, y]) ∧ LV H y c
section
variable {H H' : Hp}
theorem Kt.of (e : Same H H') : Kt H H' := fun c xs h => e _ _ h
theorem Kt.src {a : Addr} (s : SrcAt H a) (e : SameX a H H') : Kt H H' := fun c xs h => e _ _ h fun z => by
  obtain ⟨x, y, q⟩ := s
  rw [z, q] at h
  cases h
theorem Kt.trans {H2 : Hp} (a : Kt H H') (b : Kt H' H2) : Kt H H2 := fun c xs h => b _ _ (a _ _ h)
theorem LwAt.kt {v : V} {x : Wr} (e : Kt H H') (h : LwAt H v x) : LwAt H' v x := by
  cases x with
  | wid _ => exact h
  | frm a b => exact let ⟨p, h1, h2⟩ := h; ⟨p, h1, e _ _ h2⟩
theorem LfAt.kt {v : V} {f : Fu} (e : Kt H H') (h : LfAt H v f) : LfAt H' v f := by
  cases f with
  | next => exact let ⟨p, h1, h2⟩ := h; ⟨p, h1, e _ _ h2⟩
  | note => exact let ⟨p, h1, h2⟩ := h; ⟨p, h1, e _ _ h2⟩
  | diff o a b => exact let ⟨p, q, h1, h2, h3⟩ := h; ⟨p, q, h1, e _ _ h2, e _ _ h3⟩
  | count o a b => exact let ⟨p, q, h1, h2, h3⟩ := h; ⟨p, q, h1, e _ _ h2, e _ _ h3⟩
theorem LpAt.kt {v : V} {s : Sc} (e : Kt H H') (h : LpAt H v s) : LpAt H' v s := let ⟨p, wv, fv, h1, h2, h3, h4⟩ := h; ⟨p, wv, fv, h1, e _ _ h2, h3.kt e, h4.kt e⟩
theorem LV.kt {v : V} {c : Ch} (e : Kt H H') (h : LV H v c) : LV H' v c := by
  cases c with
  | wrap x => exact LwAt.kt e h
  | full f => exact LfAt.kt e h
  | slot s => exact h
  | empty s => exact h
  | «when» s => exact h
theorem LcAt.kt {v : V} {c : Ch} (e : Kt H H') (h : LcAt H v c) : LcAt H' v c := let ⟨p, y, h1, h2, h3⟩ := h; ⟨p, y, h1, e _ _ h2, h3.kt e⟩
end
abbrev inB (x y : Int) : Prop := (0 ≤ x ∧ x ≤ 4) ∧ (-20 ≤ y ∧ y ≤ 20)
def PrAt (H : Hp) (v : V) : Prop := ∃ p x y, v = .ref p ∧ H p = some (.tup [.int x, .int y]) ∧ inB x y
theorem PrAt.kt {H H' : Hp} {v : V} (e : Kt H H') (h : PrAt H v) : PrAt H' v := let ⟨p, x, y, h1, h2, h3⟩ := h; ⟨p, x, y, h1, e _ _ h2, h3⟩
def AllP (H : Hp) (xs : List V) : Prop := ∀ v ∈ xs, PrAt H v
theorem AllP.kt {H H' : Hp} {xs : List V} (e : Kt H H') (h : AllP H xs) : AllP H' xs := fun v hv => (h v hv).kt e
theorem AllP.snoc {H : Hp} {xs : List V} {p : Addr} {x y : Int} (h : AllP H xs) (hp : H p = some (.tup [.int x, .int y])) (b : inB x y) : AllP H (xs ++ [.ref p]) := fun v hv => by
  rcases List.mem_append.mp hv with hv | hv
  · exact h v hv
  · rw [List.mem_singleton.mp hv]
    exact ⟨p, x, y, rfl, hp, b⟩
theorem AllP.nil {H : Hp} : AllP H [] := fun v hv => by cases hv
theorem AllP.new {H : Hp} {xs : List V} {p : Addr} {x y : Int} (h : AllP H xs) (np : H p = none) (b : inB x y) : AllP (upd H p (.tup [.int x, .int y])) (xs ++ [.ref p]) := (h.kt (Kt.of (same_new np))).snoc upd_same b
section
variable {w : World} {K : Fr} {mg : Str → Option Value} {base : Heap}
def sp_law_limit (K : Fr) : Sp := fun vs H Q _ => ∃ a : Addr, vs = [.ref a] ∧ SrcAt H a ∧ ∀ v H', SameX a H H' → SrcAt H' a → PrAt H' v → Q v H'
abbrev n_law_limit : List Str := ["_law_source_here", "_law_some"]
theorem sc_law_limit : FnScope n_law_limit ["_law_source_here"] (defScope s_law_limit) := ⟨rfl, rfl, rfl, by decide +kernel, rfl, by decide +kernel, by decide +kernel⟩
theorem kp_law_limit (T : Tx K mg) : PySem.W.keepIn K (.ref (He.ga K "_law_limit")) = true := kp_of T.d_law_limit
theorem ok_law_limit (T : Tx K mg) : FnR P w K mg base CX0 3 (He.ga K "_law_limit") (sp_law_limit K) := by
  refine mk0 T.d_law_limit sc_law_limit (fun _ _ _ _ _ _ us hl => match us, hl with | [_], _ => rfl) (fun vs H Q E h => ?_) (fun cdv A outer s H vs Q E hr h => ?_)
  · obtain ⟨a, rfl, _⟩ := h
    rfl
  · obtain ⟨a, rfl, ha, k⟩ := h
    refine ⟨_, (pss_cons (ps_set (i := 1) sc_law_limit.nd rfl (Or.inl rfl) (pe_lst (pa_cons (pe_tup (pa_cons pe_int (pa_cons pe_int pa_nil))) (pa_cons (pe_tup (pa_cons pe_int (pa_cons (pe_un un_neg pe_int) pa_nil))) (pa_cons (pe_tup (pa_cons pe_int (pa_cons pe_int pa_nil))) (pa_cons (pe_tup (pa_cons pe_int (pa_cons pe_int pa_nil))) (pa_cons (pe_tup (pa_cons pe_int (pa_cons pe_int pa_nil))) (pa_cons (pe_tup (pa_cons pe_int (pa_cons pe_int pa_nil))) (pa_cons (pe_tup (pa_cons pe_int (pa_cons pe_int pa_nil))) (pa_cons (pe_tup (pa_cons pe_int (pa_cons pe_int pa_nil))) pa_nil))))))))))
      (pss_cons (ps_expr (pe_bm PySem.F.plainAttrs_list PySem.F.slot_list_append PySem.F.type_list_append mt_append (pv 1) (pa_cons (pe_tup (pa_cons (pe_callR (ok_law_draw T) (hr.mono (by decide)) rfl T.g_law_draw (kp_law_draw T) pass0 (pa_cons (pv 0) (pa_cons pe_int pa_nil))) (pa_cons (pe_op op_sub (pe_callR (ok_law_draw T) (hr.mono (by decide)) rfl T.g_law_draw (kp_law_draw T) pass0 (pa_cons (pv 0) (pa_cons pe_int pa_nil))) pe_int) pa_nil))) pa_nil)))
      (pss_cons (ps_expr (pe_bm PySem.F.plainAttrs_list PySem.F.slot_list_append PySem.F.type_list_append mt_append (pv 1) (pa_cons (pe_tup (pa_cons pe_int (pa_cons (pe_op op_sub (pe_callR (ok_law_draw T) (hr.mono (by decide)) rfl T.g_law_draw (kp_law_draw T) pass0 (pa_cons (pv 0) (pa_cons pe_int pa_nil))) pe_int) pa_nil))) pa_nil)))
      (pss_one (ps_ret (pe_callR (ok_law_pick T) (hr.mono (by decide)) rfl T.g_law_pick (kp_law_pick T) pass0 (pa_cons (pv 0) (pa_cons (pv 1) pa_nil)))))))), r_start (σ := [some (.ref a), none]) rfl ?_⟩
    walk_at "rd"
    have s0 : Same H H := Same.refl H
    have q0 : AllP H [] := AllP.nil
    intro p0 n0
    have s1 := same_new2 (o := .tup [.int 1, .int 0]) s0 n0
    have q1 := q0.new (x := 1) (y := 0) n0 (by decide)
    clear s0 q0
    generalize upd H p0 (HO.tup [V.int 1, V.int 0]) = h1 at s1 q1 ⊢
    clear n0
    walk_at "rd"
    intro p1 n1
    have s2 := same_new2 (o := .tup [.int 1, .int (-1)]) s1 n1
    have q2 := q1.new (x := 1) (y := (-1)) n1 (by decide)
    clear s1 q1
    generalize upd h1 p1 (HO.tup [V.int 1, V.int (-1)]) = h2 at s2 q2 ⊢
    clear n1
    walk_at "rd"
    intro p2 n2
    have s3 := same_new2 (o := .tup [.int 1, .int 0]) s2 n2
    have q3 := q2.new (x := 1) (y := 0) n2 (by decide)
    clear s2 q2
    generalize upd h2 p2 (HO.tup [V.int 1, V.int 0]) = h3 at s3 q3 ⊢
    clear n2
    walk_at "rd"
    intro p3 n3
    have s4 := same_new2 (o := .tup [.int 1, .int 1]) s3 n3
    have q4 := q3.new (x := 1) (y := 1) n3 (by decide)
    clear s3 q3
    generalize upd h3 p3 (HO.tup [V.int 1, V.int 1]) = h4 at s4 q4 ⊢
    clear n3
    walk_at "rd"
    intro p4 n4
    have s5 := same_new2 (o := .tup [.int 2, .int 0]) s4 n4
    have q5 := q4.new (x := 2) (y := 0) n4 (by decide)
    clear s4 q4
    generalize upd h4 p4 (HO.tup [V.int 2, V.int 0]) = h5 at s5 q5 ⊢
    clear n4
    walk_at "rd"
    intro p5 n5
    have s6 := same_new2 (o := .tup [.int 0, .int 1]) s5 n5
    have q6 := q5.new (x := 0) (y := 1) n5 (by decide)
    clear s5 q5
    generalize upd h5 p5 (HO.tup [V.int 0, V.int 1]) = h6 at s6 q6 ⊢
    clear n5
    walk_at "rd"
    intro p6 n6
    have s7 := same_new2 (o := .tup [.int 0, .int 2]) s6 n6
    have q7 := q6.new (x := 0) (y := 2) n6 (by decide)
    clear s6 q6
    generalize upd h6 p6 (HO.tup [V.int 0, V.int 2]) = h7 at s7 q7 ⊢
    clear n6
    walk_at "rd"
    intro p7 n7
    have s8 := same_new2 (o := .tup [.int 0, .int 4]) s7 n7
    have q8 := q7.new (x := 0) (y := 4) n7 (by decide)
    clear s7 q7
    generalize upd h7 p7 (HO.tup [V.int 0, V.int 4]) = h8 at s8 q8 ⊢
    clear n7
    walk_at "rd"
    intro l nl
    have eL := same_new2 (o := .lst [.ref p0, .ref p1, .ref p2, .ref p3, .ref p4, .ref p5, .ref p6, .ref p7]) s8 nl
    have qL := q8.kt (Kt.of (same_new (o := .lst [.ref p0, .ref p1, .ref p2, .ref p3, .ref p4, .ref p5, .ref p6, .ref p7]) nl))
    have hl : upd h8 l (.lst [.ref p0, .ref p1, .ref p2, .ref p3, .ref p4, .ref p5, .ref p6, .ref p7]) l = some (.lst [.ref p0, .ref p1, .ref p2, .ref p3, .ref p4, .ref p5, .ref p6, .ref p7]) := upd_same
    obtain ⟨x0, y0, ha0⟩ := ha
    have nla : l ≠ a := fun z => by
      rw [z, s8 _ _ ha0] at nl
      cases nl
    have nlH : H l = none := free_of s8 nl
    have haL : SrcAt (upd h8 l (.lst [.ref p0, .ref p1, .ref p2, .ref p3, .ref p4, .ref p5, .ref p6, .ref p7])) a := ⟨x0, y0, eL _ _ ha0⟩
    have XL : SameX a H (upd h8 l (.lst [.ref p0, .ref p1, .ref p2, .ref p3, .ref p4, .ref p5, .ref p6, .ref p7])) := SameX.refl.same eL
    generalize upd h8 l (HO.lst [V.ref p0, V.ref p1, V.ref p2, V.ref p3, V.ref p4, V.ref p5, V.ref p6, V.ref p7]) = h9 at eL qL hl haL XL ⊢
    have lz : ([] ++ [V.ref p0] ++ [V.ref p1] ++ [V.ref p2] ++ [V.ref p3] ++ [V.ref p4] ++ [V.ref p5] ++ [V.ref p6] ++ [V.ref p7] : List V) = [V.ref p0, V.ref p1, V.ref p2, V.ref p3, V.ref p4, V.ref p5, V.ref p6, V.ref p7] := rfl
    rw [lz] at qL
    have ll : ([V.ref p0, V.ref p1, V.ref p2, V.ref p3, V.ref p4, V.ref p5, V.ref p6, V.ref p7] : List V).length = 8 := rfl
    generalize ([V.ref p0, V.ref p1, V.ref p2, V.ref p3, V.ref p4, V.ref p5, V.ref p6, V.ref p7] : List V) = xs at qL hl ll
    walk_at "rd"
    refine r_bm ?_
    walk_at "rd"
    refine ⟨ty_lst (SqL.of hl), ?_⟩
    walk_at "rd"
    refine ⟨a, 5, rfl, haL, div_const (by decide), fun d1 g1 c1 c2 X1 S1 => ?_⟩
    walk_at "rd"
    refine ⟨a, 41, rfl, S1, div_const (by decide), fun d2 g2 c3 c4 X2 S2 => ?_⟩
    walk_at "rd"
    intro t1 nt1
    have K2 : Kt h9 g2 := (Kt.src haL X1).trans (Kt.src S1 X2)
    have hl2 := X2 _ _ (X1 _ _ hl nla) nla
    have nlt : l ≠ t1 := fun z => by
      rw [← z, hl2] at nt1
      cases nt1
    walk_at "rd"
    refine ⟨l, xs, _, rfl, rfl, same_new nt1 _ _ hl2, small1000 (by omega), ?_⟩
    have qM : AllP (upd (upd g2 t1 (.tup [.int d1, .int (d2 - 20)])) l (.lst (xs ++ [.ref t1]))) (xs ++ [.ref t1]) := by
      refine ((qL.kt K2).new (x := d1) (y := d2 - 20) nt1 ⟨⟨by omega, by omega⟩, by omega, by omega⟩).kt fun c ys h => ?_
      rw [upd_ne (fun z => by rw [z, same_new nt1 _ _ hl2] at h; cases h)]
      exact h
    have hlM : upd (upd g2 t1 (.tup [.int d1, .int (d2 - 20)])) l (.lst (xs ++ [.ref t1])) l = some (.lst (xs ++ [.ref t1])) := upd_same
    have SM : SrcAt (upd (upd g2 t1 (.tup [.int d1, .int (d2 - 20)])) l (.lst (xs ++ [.ref t1]))) a := by
      obtain ⟨x1, y1, q⟩ := S2
      exact ⟨x1, y1, by rw [upd_ne (Ne.symm nla)]; exact same_new nt1 _ _ q⟩
    have XM : SameX a H (upd (upd g2 t1 (.tup [.int d1, .int (d2 - 20)])) l (.lst (xs ++ [.ref t1]))) := fun c o h hc => by
      have q := X2 _ _ (X1 _ _ (XL _ _ h hc) hc) hc
      rw [upd_ne (ne_of_none h nlH)]
      exact same_new nt1 _ _ q
    generalize upd (upd g2 t1 (HO.tup [V.int d1, V.int (d2 - 20)])) l (HO.lst (xs ++ [V.ref t1])) = g3 at qM hlM SM XM ⊢
    have ll2 : (xs ++ [V.ref t1]).length = 9 := by rw [List.length_append, ll]; rfl
    generalize (xs ++ [V.ref t1] : List V) = ys at qM hlM ll2
    walk_at "rd"
    refine r_bm ?_
    walk_at "rd"
    refine ⟨ty_lst (SqL.of hlM), ?_⟩
    walk_at "rd"
    refine ⟨a, 9, rfl, SM, div_const (by decide), fun d3 g4 c5 c6 X4 S4 => ?_⟩
    walk_at "rd"
    intro t2 nt2
    have hl4 := X4 _ _ hlM nla
    walk_at "rd"
    refine ⟨l, ys, _, rfl, rfl, same_new nt2 _ _ hl4, small1000 (by omega), ?_⟩
    have qN : AllP (upd (upd g4 t2 (.tup [.int 0, .int (d3 - 2)])) l (.lst (ys ++ [.ref t2]))) (ys ++ [.ref t2]) := by
      refine ((qM.kt (Kt.src SM X4)).new (x := 0) (y := d3 - 2) nt2 ⟨⟨by omega, by omega⟩, by omega, by omega⟩).kt fun c zs h => ?_
      rw [upd_ne (fun z => by rw [z, same_new nt2 _ _ hl4] at h; cases h)]
      exact h
    have hlN : upd (upd g4 t2 (.tup [.int 0, .int (d3 - 2)])) l (.lst (ys ++ [.ref t2])) l = some (.lst (ys ++ [.ref t2])) := upd_same
    have SN : SrcAt (upd (upd g4 t2 (.tup [.int 0, .int (d3 - 2)])) l (.lst (ys ++ [.ref t2]))) a := by
      obtain ⟨x1, y1, q⟩ := S4
      exact ⟨x1, y1, by rw [upd_ne (Ne.symm nla)]; exact same_new nt2 _ _ q⟩
    have XN : SameX a H (upd (upd g4 t2 (.tup [.int 0, .int (d3 - 2)])) l (.lst (ys ++ [.ref t2]))) := fun c o h hc => by
      have q := X4 _ _ (XM _ _ h hc) hc
      rw [upd_ne (ne_of_none h nlH)]
      exact same_new nt2 _ _ q
    generalize upd (upd g4 t2 (HO.tup [V.int 0, V.int (d3 - 2)])) l (HO.lst (ys ++ [V.ref t2])) = g5 at qN hlN SN XN ⊢
    have ll3 : (ys ++ [V.ref t2]).length = 10 := by rw [List.length_append, ll2]; rfl
    generalize (ys ++ [V.ref t2] : List V) = zs at qN hlN ll3
    walk_at "rd"
    refine ⟨a, l, zs, rfl, SN, hlN, by omega, by omega, nla, fun v g6 hv X6 S6 => ?_⟩
    exact k v g6 (XN.trans X6) S6 ((qN v hv).kt (Kt.src SN X6))
end
end Ls
namespace Ls
open PySem PySem.Spec PyProof.Rows L2
theorem if_key {c : TT} {t u : TS} {nx bk ct : L2.St → Hp → Prop} {rt : VK} {σ : L2.St} {H : Hp} (R : L2.St → Hp → Prop) (k : ∀ σ' H', R σ' H' → nx σ' H') (h : (∀ σ' H', R σ' H' → nx σ' H') → tIfS c t u ⟨nx, rt, bk, ct⟩ σ H) : tIfS c t u ⟨nx, rt, bk, ct⟩ σ H := h k
theorem pr_wr {H : Hp} {v : V} (h : PrAt H v) : ∃ x : Wr, LwAt H v x ∧ x.ok ∧ x.isW = false := let ⟨p, x, y, h1, h2, h3⟩ := h; ⟨.frm x y, ⟨p, h1, h2⟩, h3, rfl⟩
theorem mem_em {v : V} (h : v ∈ ([.str "same", .str "same", .str "count", .str "note"] : List V)) : ∃ e : Em, v = .str e.s := by
  simp only [List.mem_cons, List.not_mem_nil, or_false] at h
  rcases h with rfl | rfl | rfl | rfl
  · exact ⟨.same, rfl⟩
  · exact ⟨.same, rfl⟩
  · exact ⟨.count, rfl⟩
  · exact ⟨.note, rfl⟩
theorem mem_wh {v : V} (h : v ∈ ([.str "refuse", .str "refuse", .str "drop", .str "over"] : List V)) : ∃ e : Wh, v = .str e.s := by
  simp only [List.mem_cons, List.not_mem_nil, or_false] at h
  rcases h with rfl | rfl | rfl | rfl
  · exact ⟨.refuse, rfl⟩
  · exact ⟨.refuse, rfl⟩
  · exact ⟨.drop, rfl⟩
  · exact ⟨.over, rfl⟩
theorem mem_op {v : V} (h : v ∈ ([.str "=", .str ">="] : List V)) : ∃ e : Op, v = .str e.s := by
  simp only [List.mem_cons, List.not_mem_nil, or_false] at h
  rcases h with rfl | rfl
  · exact ⟨.eq, rfl⟩
  · exact ⟨.ge, rfl⟩
theorem mem_kind {v : V} (h : v ∈ ([.str "diff", .str "diff", .str "count", .str "next", .str "note"] : List V)) : v = .str "diff" ∨ v = .str "count" ∨ v = .str "next" ∨ v = .str "note" := by
  simp only [List.mem_cons, List.not_mem_nil, or_false] at h
  rcases h with rfl | rfl | rfl | rfl | rfl <;> simp
theorem mem_sl {v : V} {x : Wr} (h : v ∈ ([.str "rest", .str "rest", .str "off"] : List V)) : ∃ s : Sl, v = .str s.s ∧ slOk s x = true := by
  simp only [List.mem_cons, List.not_mem_nil, or_false] at h
  rcases h with rfl | rfl | rfl
  · exact ⟨.rest, rfl, rfl⟩
  · exact ⟨.rest, rfl, rfl⟩
  · exact ⟨.off, rfl, rfl⟩
theorem mem_sm {v : V} {w : Int} (h : v ∈ ([.str "rest", .str "mask", .str "mask", .str "off"] : List V)) : ∃ s : Sl, v = .str s.s ∧ slOk s (.wid w) = true := by
  simp only [List.mem_cons, List.not_mem_nil, or_false] at h
  rcases h with rfl | rfl | rfl | rfl
  · exact ⟨.rest, rfl, rfl⟩
  · exact ⟨.mask, rfl, rfl⟩
  · exact ⟨.mask, rfl, rfl⟩
  · exact ⟨.off, rfl, rfl⟩
theorem SrcAt.same {H H' : Hp} {a : Addr} (e : Same H H') (h : SrcAt H a) : SrcAt H' a := let ⟨x, y, q⟩ := h; ⟨x, y, e _ _ q⟩
theorem SrcAt.ne {H : Hp} {a p : Addr} (h : SrcAt H a) (n : H p = none) : p ≠ a := fun z => by
  obtain ⟨x, y, q⟩ := h
  rw [z, q] at n
  cases n
section
variable {w : World} {K : Fr} {mg : Str → Option Value} {base : Heap}
def sp_law_parts (K : Fr) : Sp := fun vs H Q _ => ∃ a : Addr, vs = [.ref a, .int 100] ∧ SrcAt H a ∧ ∀ v s H', LpAt H' v s → s.ok → SameX a H H' → SrcAt H' a → Q v H'
abbrev n_law_parts : List Str := ["_law_source_here", "_law_widest", "_law_turning", "_law_slots", "_law_kind", "_law_filled", "_law_bare"]
theorem sc_law_parts : FnScope n_law_parts ["_law_source_here", "_law_widest"] (defScope s_law_parts) := ⟨rfl, rfl, rfl, by decide +kernel, rfl, by decide +kernel, by decide +kernel⟩
theorem kp_law_parts (T : Tx K mg) : PySem.W.keepIn K (.ref (He.ga K "_law_parts")) = true := kp_of T.d_law_parts
theorem ok_law_parts (T : Tx K mg) : FnR P w K mg base CX0 4 (He.ga K "_law_parts") (sp_law_parts K) := by
  refine mk0 T.d_law_parts sc_law_parts (fun _ _ _ _ _ _ us hl => match us, hl with | [_, _], _ => rfl) (fun vs H Q E h => ?_) (fun cdv A outer s H vs Q E hr h => ?_)
  · obtain ⟨a, rfl, _⟩ := h
    rfl
  · obtain ⟨a, rfl, ha, k⟩ := h
    refine ⟨_, (pss_cons (ps_set (i := 2) sc_law_parts.nd rfl (Or.inl rfl) (pe_callR (ok_law_pick T) (hr.mono (by decide)) rfl T.g_law_pick (kp_law_pick T) pass0 (pa_cons (pv 0) (pa_cons (pe_lst (pa_cons (pe_tup (pa_cons pe_int (pa_cons pe_int pa_nil))) (pa_cons (pe_tup (pa_cons pe_int (pa_cons pe_int pa_nil))) (pa_cons (pe_tup (pa_cons pe_int (pa_cons pe_int pa_nil))) (pa_cons (pe_tup (pa_cons pe_int (pa_cons pe_int pa_nil))) (pa_cons (pe_tup (pa_cons pe_int (pa_cons pe_int pa_nil))) (pa_cons (pe_tup (pa_cons pe_int (pa_cons pe_int pa_nil))) (pa_cons (pe_tup (pa_cons pe_int (pa_cons (pe_un un_neg pe_int) pa_nil))) (pa_cons (pe_tup (pa_cons pe_int (pa_cons pe_int pa_nil))) (pa_cons (pe_callR (ok_law_limit T) (hr.mono (by decide)) rfl T.g_law_limit (kp_law_limit T) pass0 (pa_cons (pv 0) pa_nil)) pa_nil)))))))))) pa_nil))))
      (pss_cons (ps_set (i := 3) sc_law_parts.nd rfl (Or.inl rfl) (pe_lst (pa_cons pe_str (pa_cons pe_str (pa_cons pe_str pa_nil)))))
      (pss_cons (ps_if (pt_cmpR op_eq (pe_callR (ok_law_draw T) (hr.mono (by decide)) rfl T.g_law_draw (kp_law_draw T) pass0 (pa_cons (pv 0) (pa_cons pe_int pa_nil))) pe_int (nomark _)) (pss_cons (ps_set (i := 2) sc_law_parts.nd rfl (Or.inl rfl) (pe_op op_add pe_int (pe_callR (ok_law_draw T) (hr.mono (by decide)) rfl T.g_law_draw (kp_law_draw T) pass0 (pa_cons (pv 0) (pa_cons (pv 1) pa_nil)))))
      (pss_one (ps_set (i := 3) sc_law_parts.nd rfl (Or.inl rfl) (pe_lst (pa_cons pe_str (pa_cons pe_str (pa_cons pe_str (pa_cons pe_str pa_nil)))))))) pss_nil)
      (pss_cons (ps_set (i := 4) sc_law_parts.nd rfl (Or.inl rfl) (pe_callR (ok_law_pick T) (hr.mono (by decide)) rfl T.g_law_pick (kp_law_pick T) pass0 (pa_cons (pv 0) (pa_cons (pe_lst (pa_cons pe_str (pa_cons pe_str (pa_cons pe_str (pa_cons pe_str (pa_cons pe_str pa_nil)))))) pa_nil))))
      (pss_cons (ps_set (i := 5) sc_law_parts.nd rfl (Or.inl rfl) (pe_tup (pa_cons (pv 4) pa_nil)))
      (pss_cons (ps_if (pt_cmpR op_in_seq (pv 4) (pe_tup (pa_cons pe_str (pa_cons pe_str pa_nil))) rfl) (pss_one (ps_set (i := 5) sc_law_parts.nd rfl (Or.inl rfl) (pe_tup (pa_cons (pv 4) (pa_cons (pe_callR (ok_law_pick T) (hr.mono (by decide)) rfl T.g_law_pick (kp_law_pick T) pass0 (pa_cons (pv 0) (pa_cons (pe_lst (pa_cons pe_str (pa_cons pe_str pa_nil))) pa_nil))) (pa_cons (pe_callR (ok_law_limit T) (hr.mono (by decide)) rfl T.g_law_limit (kp_law_limit T) pass0 (pa_cons (pv 0) pa_nil)) pa_nil)))))) pss_nil)
      (pss_cons (ps_set (i := 6) sc_law_parts.nd rfl (Or.inl rfl) (pe_callR (ok_law_pick T) (hr.mono (by decide)) rfl T.g_law_pick (kp_law_pick T) pass0 (pa_cons (pv 0) (pa_cons (pe_lst (pa_cons pe_str (pa_cons pe_str (pa_cons pe_str (pa_cons pe_str pa_nil))))) pa_nil))))
      (pss_one (ps_ret (pe_tup (pa_cons (pv 2) (pa_cons (pe_callR (ok_law_pick T) (hr.mono (by decide)) rfl T.g_law_pick (kp_law_pick T) pass0 (pa_cons (pv 0) (pa_cons (pv 3) pa_nil))) (pa_cons (pv 6) (pa_cons (pv 5) (pa_cons (pe_callR (ok_law_pick T) (hr.mono (by decide)) rfl T.g_law_pick (kp_law_pick T) pass0 (pa_cons (pv 0) (pa_cons (pe_lst (pa_cons pe_str (pa_cons pe_str (pa_cons pe_str (pa_cons pe_str pa_nil))))) pa_nil))) pa_nil))))))))))))))), r_start (σ := [some (.ref a), some (.int 100), none, none, none, none, none]) rfl ?_⟩
    walk_at "rd"
    have s0 : Same H H := Same.refl H
    have q0 : AllP H [] := AllP.nil
    intro p0 n0
    have s1 := same_new2 (o := .tup [.int 1, .int 0]) s0 n0
    have q1 := q0.new (x := 1) (y := 0) n0 (by decide)
    clear s0 q0
    generalize upd H p0 (HO.tup [V.int 1, V.int 0]) = h1 at s1 q1 ⊢
    clear n0
    walk_at "rd"
    intro p1 n1
    have s2 := same_new2 (o := .tup [.int 2, .int 0]) s1 n1
    have q2 := q1.new (x := 2) (y := 0) n1 (by decide)
    clear s1 q1
    generalize upd h1 p1 (HO.tup [V.int 2, V.int 0]) = h2 at s2 q2 ⊢
    clear n1
    walk_at "rd"
    intro p2 n2
    have s3 := same_new2 (o := .tup [.int 2, .int 0]) s2 n2
    have q3 := q2.new (x := 2) (y := 0) n2 (by decide)
    clear s2 q2
    generalize upd h2 p2 (HO.tup [V.int 2, V.int 0]) = h3 at s3 q3 ⊢
    clear n2
    walk_at "rd"
    intro p3 n3
    have s4 := same_new2 (o := .tup [.int 3, .int 0]) s3 n3
    have q4 := q3.new (x := 3) (y := 0) n3 (by decide)
    clear s3 q3
    generalize upd h3 p3 (HO.tup [V.int 3, V.int 0]) = h4 at s4 q4 ⊢
    clear n3
    walk_at "rd"
    intro p4 n4
    have s5 := same_new2 (o := .tup [.int 1, .int 1]) s4 n4
    have q5 := q4.new (x := 1) (y := 1) n4 (by decide)
    clear s4 q4
    generalize upd h4 p4 (HO.tup [V.int 1, V.int 1]) = h5 at s5 q5 ⊢
    clear n4
    walk_at "rd"
    intro p5 n5
    have s6 := same_new2 (o := .tup [.int 2, .int 1]) s5 n5
    have q6 := q5.new (x := 2) (y := 1) n5 (by decide)
    clear s5 q5
    generalize upd h5 p5 (HO.tup [V.int 2, V.int 1]) = h6 at s6 q6 ⊢
    clear n5
    walk_at "rd"
    intro p6 n6
    have s7 := same_new2 (o := .tup [.int 1, .int (-1)]) s6 n6
    have q7 := q6.new (x := 1) (y := (-1)) n6 (by decide)
    clear s6 q6
    generalize upd h6 p6 (HO.tup [V.int 1, V.int (-1)]) = h7 at s7 q7 ⊢
    clear n6
    walk_at "rd"
    intro p7 n7
    have s8 := same_new2 (o := .tup [.int 0, .int 5]) s7 n7
    have q8 := q7.new (x := 0) (y := 5) n7 (by decide)
    clear s7 q7
    generalize upd h7 p7 (HO.tup [V.int 0, V.int 5]) = h8 at s8 q8 ⊢
    clear n7
    walk_at "rd"
    refine ⟨a, rfl, ha.same s8, fun v0 h9 X9 S9 hv0 => ?_⟩
    have q9 := q8.kt (Kt.src (ha.same s8) X9)
    have XH : SameX a H h9 := SameX.pre s8 X9
    walk_at "rd"
    intro l nl
    have q10 : AllP (upd h9 l (.lst [.ref p0, .ref p1, .ref p2, .ref p3, .ref p4, .ref p5, .ref p6, .ref p7, v0])) [.ref p0, .ref p1, .ref p2, .ref p3, .ref p4, .ref p5, .ref p6, .ref p7, v0] := by
      have z : AllP h9 ([] ++ [V.ref p0] ++ [V.ref p1] ++ [V.ref p2] ++ [V.ref p3] ++ [V.ref p4] ++ [V.ref p5] ++ [V.ref p6] ++ [V.ref p7] ++ [v0]) := fun v hv => by
        rcases List.mem_append.mp hv with hv | hv
        · exact q9 v hv
        · rw [List.mem_singleton.mp hv]
          exact hv0
      exact z.kt (Kt.of (same_new nl))
    have S10 := S9.same (same_new (o := .lst [.ref p0, .ref p1, .ref p2, .ref p3, .ref p4, .ref p5, .ref p6, .ref p7, v0]) nl)
    have X10 := XH.same (same_new (o := .lst [.ref p0, .ref p1, .ref p2, .ref p3, .ref p4, .ref p5, .ref p6, .ref p7, v0]) nl)
    walk_at "rd"
    refine ⟨a, l, _, rfl, S10, upd_same, by simp, by simp, S9.ne nl, fun tv h11 htv X11 S11 => ?_⟩
    obtain ⟨x0, hx0, ox0, _⟩ := pr_wr ((q10 tv htv).kt (Kt.src S10 X11))
    have XH := X10.trans X11
    walk_at "rd"
    intro sl nsl
    have e12 := same_new (o := .lst [.str "rest", .str "rest", .str "off"]) nsl
    have S12 := S11.same e12
    have XH := XH.same e12
    have K12 := hx0.kt (Kt.of e12)
    have hsl : upd h11 sl (.lst [.str "rest", .str "rest", .str "off"]) sl = some (.lst [.str "rest", .str "rest", .str "off"]) := upd_same
    have nsa := S11.ne nsl
    generalize upd h11 sl (HO.lst [V.str "rest", V.str "rest", V.str "off"]) = h12 at e12 S12 XH K12 hsl ⊢
    walk_at "r1"
    walk_at "r1"
    refine if_key (fun σ' H' => ∃ (tv : V) (x : Wr) (sl : Addr) (ss : List V), σ' = [some (.ref a), some (.int 100), some tv, some (.ref sl), none, none, none] ∧ SameX a H H' ∧ SrcAt H' a ∧ LwAt H' tv x ∧ x.ok ∧ H' sl = some (.lst ss) ∧ sl ≠ a ∧
      0 < ss.length ∧ ss.length ≤ 10 ∧ ∀ v ∈ ss, ∃ s : Sl, v = .str s.s ∧ slOk s x = true) ?_ fun key => ?_
    · rintro σ' g0 ⟨tv, x, sl, ss, rfl, X0, S0, hx, ox, hss, nsa, l0, l1, hsm⟩
      walk_at "rd"
      intro l2 nl2
      have e1 := same_new (o := .lst [.str "diff", .str "diff", .str "count", .str "next", .str "note"]) nl2
      have nl2a := S0.ne nl2
      walk_at "rd"
      refine ⟨a, l2, _, rfl, S0.same e1, upd_same, by decide, by decide, nl2a, fun kd g2 hkd X2 S2 => ?_⟩
      have XH := (X0.same e1).trans X2
      have hx2 := (hx.kt (Kt.of e1)).kt (Kt.src (S0.same e1) X2)
      have hs2 := X2 _ _ (e1 _ _ hss) nsa
      have hkd := mem_kind hkd
      walk_at "rd"
      intro t1 nt1
      have e3 := same_new (o := .tup [kd]) nt1
      have S3 := S2.same e3
      have XH := XH.same e3
      have hx3 := hx2.kt (Kt.of e3)
      have hs3 := e3 _ _ hs2
      have ht1 : upd g2 t1 (.tup [kd]) t1 = some (.tup [kd]) := upd_same
      generalize upd g2 t1 (HO.tup [kd]) = g3 at e3 S3 XH hx3 hs3 ht1 ⊢
      walk_at "r1"
      walk_at "r1"
      refine if_key (fun σ' H' => ∃ (fv : V) (f : Fu), σ' = [some (.ref a), some (.int 100), some tv, some (.ref sl), some kd, some fv, none] ∧ SameX a H H' ∧ SrcAt H' a ∧ LwAt H' tv x ∧ LfAt H' fv f ∧ f.ok ∧ H' sl = some (.lst ss)) ?_ fun key => ?_
      · rintro σ' g4 ⟨fv, f, rfl, X4, S4, hx4, hf4, fo, hs4⟩
        walk_at "rd"
        intro l5 nl5
        have e5 := same_new (o := .lst [.str "same", .str "same", .str "count", .str "note"]) nl5
        walk_at "rd"
        refine ⟨a, l5, _, rfl, S4.same e5, upd_same, by decide, by decide, S4.ne nl5, fun bv g6 hbv X6 S6 => ?_⟩
        obtain ⟨em, rfl⟩ := mem_em hbv
        have K6 := (Kt.of e5).trans (Kt.src (S4.same e5) X6)
        have hs6 := X6 _ _ (e5 _ _ hs4) nsa
        walk_at "rd"
        refine ⟨a, sl, ss, rfl, S6, hs6, l0, l1, nsa, fun sv g7 hsv X7 S7 => ?_⟩
        obtain ⟨slw, rfl, hok⟩ := hsm _ hsv
        have K7 := K6.trans (Kt.src S6 X7)
        walk_at "rd"
        intro l8 nl8
        have e8 := same_new (o := .lst [.str "refuse", .str "refuse", .str "drop", .str "over"]) nl8
        walk_at "rd"
        refine ⟨a, l8, _, rfl, S7.same e8, upd_same, by decide, by decide, S7.ne nl8, fun wv g9 hwv X9 S9 => ?_⟩
        obtain ⟨wh, rfl⟩ := mem_wh hwv
        have K9 := (K7.trans (Kt.of e8)).trans (Kt.src (S7.same e8) X9)
        walk_at "rd"
        intro tp ntp
        have e10 := same_new (o := .tup [tv, .str slw.s, .str em.s, fv, .str wh.s]) ntp
        refine k _ ⟨x, slw, em, f, wh⟩ _ ⟨tp, tv, fv, rfl, upd_same, (hx4.kt K9).kt (Kt.of e10), (hf4.kt K9).kt (Kt.of e10)⟩ ⟨ox, fo, hok⟩ ?_ (S9.same e10)
        exact ((((((X4.same e5).trans X6).trans X7).same e8).trans X9)).same e10
      · walk_at "rd"
        intro t2 nt2
        have e4 := same_new (o := .tup [.str "diff", .str "count"]) nt2
        rcases hkd with rfl | rfl | rfl | rfl
        · refine r_in (.inr (SqT.of upd_same)) rfl rfl ?_
          walk_at "rd"
          refine itet (by decide +kernel) ?_
          walk_at "rd"
          intro l3 nl3
          have e5 := e4.trans (same_new (o := .lst [.str "=", .str ">="]) nl3)
          walk_at "rd"
          refine ⟨a, l3, _, rfl, S3.same e5, upd_same, by decide, by decide, (S3.same e4).ne nl3, fun ov g6 hov X6 S6 => ?_⟩
          obtain ⟨op, rfl⟩ := mem_op hov
          walk_at "rd"
          refine ⟨a, rfl, S6, fun lv g7 X7 S7 hlv => ?_⟩
          obtain ⟨lp, lx, ly, rfl, hlp, hb⟩ := hlv
          have K7 := ((Kt.of e5).trans (Kt.src (S3.same e5) X6)).trans (Kt.src S6 X7)
          walk_at "rd"
          intro tp ntp
          have e8 := same_new (o := .tup [.str "diff", .str op.s, .ref lp]) ntp
          walk_at "r1"
          exact key _ _ ⟨_, .diff op lx ly, rfl, ((((XH.same e5).trans X6).trans X7).same e8), S7.same e8, (hx3.kt K7).kt (Kt.of e8), ⟨tp, lp, rfl, upd_same, e8 _ _ hlp⟩, hb, e8 _ _ (X7 _ _ (X6 _ _ (e5 _ _ hs3) nsa) nsa)⟩
        · refine r_in (.inr (SqT.of upd_same)) rfl rfl ?_
          walk_at "rd"
          refine itet (by decide +kernel) ?_
          walk_at "rd"
          intro l3 nl3
          have e5 := e4.trans (same_new (o := .lst [.str "=", .str ">="]) nl3)
          walk_at "rd"
          refine ⟨a, l3, _, rfl, S3.same e5, upd_same, by decide, by decide, (S3.same e4).ne nl3, fun ov g6 hov X6 S6 => ?_⟩
          obtain ⟨op, rfl⟩ := mem_op hov
          walk_at "rd"
          refine ⟨a, rfl, S6, fun lv g7 X7 S7 hlv => ?_⟩
          obtain ⟨lp, lx, ly, rfl, hlp, hb⟩ := hlv
          have K7 := ((Kt.of e5).trans (Kt.src (S3.same e5) X6)).trans (Kt.src S6 X7)
          walk_at "rd"
          intro tp ntp
          have e8 := same_new (o := .tup [.str "count", .str op.s, .ref lp]) ntp
          walk_at "r1"
          exact key _ _ ⟨_, .count op lx ly, rfl, ((((XH.same e5).trans X6).trans X7).same e8), S7.same e8, (hx3.kt K7).kt (Kt.of e8), ⟨tp, lp, rfl, upd_same, e8 _ _ hlp⟩, hb, e8 _ _ (X7 _ _ (X6 _ _ (e5 _ _ hs3) nsa) nsa)⟩
        · refine r_in (.inr (SqT.of upd_same)) rfl rfl ?_
          walk_at "rd"
          refine itef (by decide +kernel) ?_
          refine r_next ?_
          exact key _ _ ⟨_, .next, rfl, XH.same e4, S3.same e4, hx3.kt (Kt.of e4), ⟨t1, rfl, e4 _ _ ht1⟩, trivial, e4 _ _ hs3⟩
        · refine r_in (.inr (SqT.of upd_same)) rfl rfl ?_
          walk_at "rd"
          refine itef (by decide +kernel) ?_
          refine r_next ?_
          exact key _ _ ⟨_, .note, rfl, XH.same e4, S3.same e4, hx3.kt (Kt.of e4), ⟨t1, rfl, e4 _ _ ht1⟩, trivial, e4 _ _ hs3⟩
    · walk_at "rd"
      refine ⟨a, 3, rfl, S12, div_const (by decide), fun d g1 c1 c2 X1 S1 => ?_⟩
      have XH1 := XH.trans X1
      have K1 := Kt.src S12 X1
      walk_at "rd"
      rw [dec_int']
      refine ite2 (fun h => ?_) (fun h => ?_)
      · walk_at "rd"
        refine ⟨a, 100, rfl, S1, div_const (by decide), fun d2 g2 c3 c4 X2 S2 => ?_⟩
        walk_at "rd"
        intro l2 nl2
        have e3 := same_new (o := .lst [.str "rest", .str "mask", .str "mask", .str "off"]) nl2
        walk_at "r1"
        refine key _ _ ⟨.int (1 + d2), .wid (1 + d2), l2, _, rfl, (XH1.trans X2).same e3, S2.same e3, rfl, ⟨by omega, by omega⟩, upd_same, S2.ne nl2, by decide, by decide, fun v hv => mem_sm hv⟩
      · refine r_next ?_
        exact key _ _ ⟨tv, x0, sl, _, rfl, XH1, S1, K12.kt K1, ox0, X1 _ _ hsl nsa, nsa, by decide, by decide, fun v hv => mem_sl hv⟩
def sp_law_change (K : Fr) : Sp := fun vs H Q _ => ∃ a : Addr, vs = [.ref a, .int 100] ∧ SrcAt H a ∧ ∀ v c H', LcAt H' v c → c.ok → SameX a H H' → SrcAt H' a → Q v H'
end
end Ls
namespace Ls
open PySem PySem.Spec PyProof.Rows L2
section
variable {w : World} {K : Fr} {mg : Str → Option Value} {base : Heap}
theorem five {d : Int} (h0 : 0 ≤ d) (h1 : d < 5) : d = 0 ∨ d = 1 ∨ d = 2 ∨ d = 3 ∨ d = 4 := by omega
abbrev n_law_change : List Str := ["_law_source_here", "_law_widest", "_law_parts_here", "_law_at"]
theorem sc_law_change : FnScope n_law_change ["_law_source_here", "_law_widest"] (defScope s_law_change) := ⟨rfl, rfl, rfl, by decide +kernel, rfl, by decide +kernel, by decide +kernel⟩
theorem kp_law_change (T : Tx K mg) : PySem.W.keepIn K (.ref (He.ga K "_law_change")) = true := kp_of T.d_law_change
theorem ok_law_change (T : Tx K mg) : FnR P w K mg base CX0 5 (He.ga K "_law_change") (sp_law_change K) := by
  refine mk0 T.d_law_change sc_law_change (fun _ _ _ _ _ _ us hl => match us, hl with | [_, _], _ => rfl) (fun vs H Q E h => ?_) (fun cdv A outer s H vs Q E hr h => ?_)
  · obtain ⟨a, rfl, _⟩ := h
    rfl
  · obtain ⟨a, rfl, ha, k⟩ := h
    refine ⟨_, (pss_cons (ps_set (i := 2) sc_law_change.nd rfl (Or.inl rfl) (pe_callR (ok_law_parts T) (hr.mono (by decide)) rfl T.g_law_parts (kp_law_parts T) pass0 (pa_cons (pv 0) (pa_cons (pv 1) pa_nil))))
      (pss_cons (ps_set (i := 3) sc_law_change.nd rfl (Or.inl rfl) (pe_callR (ok_law_draw T) (hr.mono (by decide)) rfl T.g_law_draw (kp_law_draw T) pass0 (pa_cons (pv 0) (pa_cons pe_int pa_nil))))
      (pss_one (ps_ret (pe_tup (pa_cons (pe_ix ix_list (pe_lst (pa_cons pe_str (pa_cons pe_str (pa_cons pe_str (pa_cons pe_str (pa_cons pe_str pa_nil)))))) (pv 3) (fun _ _ => rfl)) (pa_cons (pe_ix ix_tup (pv 2) (pv 3) (fun _ _ => rfl)) pa_nil))))))), r_start (σ := [some (.ref a), some (.int 100), none, none]) rfl ?_⟩
    walk_at "rd"
    refine ⟨a, rfl, ha, fun v s H1 hv hok X1 S1 => ?_⟩
    obtain ⟨p, wv, fv, rfl, hp, hw, hf⟩ := hv
    walk_at "rd"
    refine ⟨a, 5, rfl, S1, div_const (by decide), fun d H2 h0 h1 X2 S2 => ?_⟩
    have K2 := Kt.src S1 X2
    have hp2 := K2 _ _ hp
    walk_at "rd"
    intro l nl
    have e3 := same_new (o := .lst [.str "wrap", .str "slot", .str "empty", .str "full", .str "when"]) nl
    have hp3 := e3 _ _ hp2
    have hl : upd H2 l (.lst [.str "wrap", .str "slot", .str "empty", .str "full", .str "when"]) l = some (.lst [.str "wrap", .str "slot", .str "empty", .str "full", .str "when"]) := upd_same
    have K3 := K2.trans (Kt.of e3)
    have fin : ∀ (c : Ch) (y : V), c.ok → LV (upd H2 l (.lst [.str "wrap", .str "slot", .str "empty", .str "full", .str "when"])) y c → ∀ t, upd H2 l (.lst [.str "wrap", .str "slot", .str "empty", .str "full", .str "when"]) t = none →
        Q (.ref t) (upd (upd H2 l (.lst [.str "wrap", .str "slot", .str "empty", .str "full", .str "when"])) t (.tup [.str c.nm, y])) := fun c y ho hy t nt => by
      have e4 := same_new (o := .tup [.str c.nm, y]) nt
      exact k _ c _ ⟨t, y, rfl, upd_same, hy.kt (Kt.of e4)⟩ ho (((X1.trans X2).same e3).same e4) ((S2.same e3).same e4)
    walk_at "rd"
    rcases five h0 h1 with rfl | rfl | rfl | rfl | rfl
    · refine r_ixL (SqL.of hl) (v := .str "wrap") (by rfl) ?_
      walk_at "rd"
      refine r_ixT (SqT.of hp3) (v := wv) (by rfl) ?_
      walk_at "rd"
      exact fin (.wrap s.wrap) wv hok.wrap (hw.kt K3)
    · refine r_ixL (SqL.of hl) (v := .str "slot") (by rfl) ?_
      walk_at "rd"
      refine r_ixT (SqT.of hp3) (v := .str s.slot.s) (by rfl) ?_
      walk_at "rd"
      exact fin (.slot s.slot) _ trivial rfl
    · refine r_ixL (SqL.of hl) (v := .str "empty") (by rfl) ?_
      walk_at "rd"
      refine r_ixT (SqT.of hp3) (v := .str s.empty.s) (by rfl) ?_
      walk_at "rd"
      exact fin (.empty s.empty) _ trivial rfl
    · refine r_ixL (SqL.of hl) (v := .str "full") (by rfl) ?_
      walk_at "rd"
      refine r_ixT (SqT.of hp3) (v := fv) (by rfl) ?_
      walk_at "rd"
      exact fin (.full s.full) fv hok.full (hf.kt K3)
    · refine r_ixL (SqL.of hl) (v := .str "when") (by rfl) ?_
      walk_at "rd"
      refine r_ixT (SqT.of hp3) (v := .str s.when.s) (by rfl) ?_
      walk_at "rd"
      exact fin (.when s.when) _ trivial rfl
/-! ### from drawn parts to objects -/
def sp_law_wrap (K : Fr) : Sp := fun vs H Q _ => ∃ (v : V) (x : Wr), vs = [v] ∧ LwAt H v x ∧ ∀ v' H', Same H H' → PWr K H' v' x → Q v' H'
abbrev n_law_wrap : List Str := ["_law_turning"]
theorem sc_law_wrap : FnScope n_law_wrap ["_law_turning"] (defScope s_law_wrap) := ⟨rfl, rfl, rfl, by decide +kernel, rfl, by decide +kernel, by decide +kernel⟩
theorem kp_law_wrap (T : Tx K mg) : PySem.W.keepIn K (.ref (He.ga K "_law_wrap")) = true := kp_of T.d_law_wrap
theorem ok_law_wrap (T : Tx K mg) : FnR P w K mg base CX0 4 (He.ga K "_law_wrap") (sp_law_wrap K) := by
  refine mk0 T.d_law_wrap sc_law_wrap (fun _ _ _ _ _ _ us hl => match us, hl with | [_], _ => rfl) (fun vs H Q E h => ?_) (fun cdv A outer s H vs Q E hr h => ?_)
  · obtain ⟨v, x, rfl, _⟩ := h
    rfl
  · obtain ⟨v, x, rfl, hv, k⟩ := h
    refine ⟨_, (pss_cons (ps_if (pt_val (pe_callB call_isi (by rfl) T.f_isinstance (by decide +kernel) (pa_cons (pv 0) (pa_cons (pe_bltn (v := .ty "int") (u := .type "int") (by rfl) T.f_int (by decide +kernel) rfl) pa_nil)))) (pss_one (ps_ret (pv 0))) pss_nil)
      (pss_one (ps_ret (StX.pe_makeR T.k_Form (ok_Form_init T) (hr.mono (by decide)) rfl T.g_Form pass0 (pa_cons (pe_ix ix_tup (pv 0) pe_int (fun _ _ => rfl)) (pa_cons (pe_ix ix_tup (pv 0) pe_int (fun _ _ => rfl)) pa_nil)))))), r_start (σ := [some v]) rfl ?_⟩
    walk_at "rd"
    cases x with
    | wid i =>
      obtain rfl : v = .int i := hv
      refine r_isi (.ty "int") (.base (.int i)) (b := true) (kit_ty (by decide +kernel)) ?_
      walk_at "rd"
      exact k _ _ (Same.refl _) rfl
    | frm x y =>
      obtain ⟨p, rfl, hp⟩ := hv
      refine r_isi (.ty "int") (.base (.tup hp)) (b := false) (kit_ty (by decide +kernel)) ?_
      walk_at "rd"
      refine r_ixT (SqT.of hp) (v := .int x) (by rfl) ?_
      walk_at "rd"
      refine r_ixT (SqT.of hp) (v := .int y) (by rfl) ?_
      walk_at "rd"
      exact mk_form rfl fun q H' e _ hf => k _ _ e ⟨q, rfl, hf⟩
def sp_law_rule (K : Fr) : Sp := fun vs H Q _ => ∃ (v : V) (f : Fu), vs = [v] ∧ LfAt H v f ∧ ∀ v' H', Same H H' → PFu K H' v' f → Q v' H'
theorem lfu_cases {H : Hp} {v : V} {f : Fu} (h : LfAt H v f) : (∃ p x, v = .ref p ∧ H p = some (.tup [.str x]) ∧ ∀ K H', Same H H' → PFu K H' v f) ∨
    (∃ p q x o a b, v = .ref p ∧ H p = some (.tup [.str x, .str (Op.s o), .ref q]) ∧ H q = some (.tup [.int a, .int b]) ∧ ∀ K H' p' q', H' p' = some (.tup [.str x, .str (Op.s o), .ref q']) → FormAt K H' q' a b → PFu K H' (.ref p') f) := by
  cases f with
  | next => obtain ⟨p, rfl, hp⟩ := h; exact .inl ⟨p, _, rfl, hp, fun K H' e => ⟨p, rfl, e _ _ hp⟩⟩
  | note => obtain ⟨p, rfl, hp⟩ := h; exact .inl ⟨p, _, rfl, hp, fun K H' e => ⟨p, rfl, e _ _ hp⟩⟩
  | diff o a b => obtain ⟨p, q, rfl, hp, hq⟩ := h; exact .inr ⟨p, q, _, o, a, b, rfl, hp, hq, fun K H' p' q' h1 h2 => ⟨p', q', rfl, h1, h2⟩⟩
  | count o a b => obtain ⟨p, q, rfl, hp, hq⟩ := h; exact .inr ⟨p, q, _, o, a, b, rfl, hp, hq, fun K H' p' q' h1 h2 => ⟨p', q', rfl, h1, h2⟩⟩
abbrev n_law_rule : List Str := ["_law_filled"]
theorem sc_law_rule : FnScope n_law_rule ["_law_filled"] (defScope s_law_rule) := ⟨rfl, rfl, rfl, by decide +kernel, rfl, by decide +kernel, by decide +kernel⟩
theorem kp_law_rule (T : Tx K mg) : PySem.W.keepIn K (.ref (He.ga K "_law_rule")) = true := kp_of T.d_law_rule
theorem ok_law_rule (T : Tx K mg) : FnR P w K mg base CX0 4 (He.ga K "_law_rule") (sp_law_rule K) := by
  refine mk0 T.d_law_rule sc_law_rule (fun _ _ _ _ _ _ us hl => match us, hl with | [_], _ => rfl) (fun vs H Q E h => ?_) (fun cdv A outer s H vs Q E hr h => ?_)
  · obtain ⟨v, f, rfl, _⟩ := h
    rfl
  · obtain ⟨v, f, rfl, hv, k⟩ := h
    refine ⟨_, (pss_cons (ps_if (pt_cmpR op_eq (pe_callB call_len_seq (by rfl) T.f_len PySem.boot_len (pa_cons (pv 0) pa_nil)) pe_int (nomark _)) (pss_one (ps_ret (pv 0))) pss_nil)
      (pss_one (ps_ret (pe_tup (pa_cons (pe_ix ix_tup (pv 0) pe_int (fun _ _ => rfl)) (pa_cons (pe_ix ix_tup (pv 0) pe_int (fun _ _ => rfl)) (pa_cons (StX.pe_makeR T.k_Form (ok_Form_init T) (hr.mono (by decide)) rfl T.g_Form pass0 (pa_cons (pe_ix ix_tup (pe_ix ix_tup (pv 0) pe_int (fun _ _ => rfl)) pe_int (fun _ _ => rfl)) (pa_cons (pe_ix ix_tup (pe_ix ix_tup (pv 0) pe_int (fun _ _ => rfl)) pe_int (fun _ _ => rfl)) pa_nil))) pa_nil))))))), r_start (σ := [some v]) rfl ?_⟩
    walk_at "rd"
    rcases lfu_cases hv with ⟨p, x, rfl, hp, kp⟩ | ⟨p, q, x, o, a, b, rfl, hp, hq, kp⟩
    · refine ⟨_, _, rfl, .inr (SqT.of hp), ?_⟩
      walk_at "rd"
      refine itet (by rfl) ?_
      walk_at "rd"
      exact k _ _ (Same.refl _) (kp _ _ (Same.refl _))
    · refine ⟨_, _, rfl, .inr (SqT.of hp), ?_⟩
      walk_at "rd"
      refine itef (by rfl) ?_
      walk_at "rd"
      refine r_ixT (SqT.of hp) (v := .str x) (by rfl) ?_
      walk_at "rd"
      refine r_ixT (SqT.of hp) (v := .str o.s) (by rfl) ?_
      walk_at "rd"
      refine r_ixT (SqT.of hp) (v := .ref q) (by rfl) ?_
      walk_at "rd"
      refine r_ixT (SqT.of hq) (v := .int a) (by rfl) ?_
      walk_at "rd"
      refine r_ixT (SqT.of hp) (v := .ref q) (by rfl) ?_
      walk_at "rd"
      refine r_ixT (SqT.of hq) (v := .int b) (by rfl) ?_
      walk_at "rd"
      refine mk_form (Q := fun y H2 => tNil [some (.ref p)] H2 fun xs H2 => (V.str x :: V.str o.s :: y :: xs).length ≤ sizeLine ∧ ∀ p, H2 p = none → Q (.ref p) (upd H2 p (.tup (V.str x :: V.str o.s :: y :: xs)))) rfl fun q' H' e _ hf => ?_
      walk_at "rd"
      intro t nt
      have e2 := same_new (o := .tup [.str x, .str o.s, .ref q']) nt
      exact k _ _ (e.trans e2) (kp _ _ t q' upd_same (hf.same e2))
def sp_law_scheme (K : Fr) : Sp := fun vs H Q _ => ∃ (v : V) (s : Sc), vs = [v] ∧ LpAt H v s ∧ s.ok ∧ ∀ p H', Same H H' → ScAt K H' p s → Q (.ref p) H'
abbrev n_law_scheme : List Str := ["_law_parts_here", "_law_turning", "_law_spot", "_law_bare", "_law_filled", "_law_manner"]
theorem sc_law_scheme : FnScope n_law_scheme ["_law_parts_here"] (defScope s_law_scheme) := ⟨rfl, rfl, rfl, by decide +kernel, rfl, by decide +kernel, by decide +kernel⟩
theorem kp_law_scheme (T : Tx K mg) : PySem.W.keepIn K (.ref (He.ga K "_law_scheme")) = true := kp_of T.d_law_scheme
theorem ok_law_scheme (T : Tx K mg) : FnR P w K mg base CX0 6 (He.ga K "_law_scheme") (sp_law_scheme K) := by
  refine mk0 T.d_law_scheme sc_law_scheme (fun _ _ _ _ _ _ us hl => match us, hl with | [_], _ => rfl) (fun vs H Q E h => ?_) (fun cdv A outer s H vs Q E hr h => ?_)
  · obtain ⟨v, s, rfl, _⟩ := h
    rfl
  · obtain ⟨v, s, rfl, hv, hok, k⟩ := h
    obtain ⟨p, wv, fv, rfl, hp, hw, hf⟩ := hv
    refine ⟨_, (pss_cons (ps_asg (pv 0) (pg_tup rfl (pgs_cons (pg_name (i := 1) sc_law_scheme.nd rfl (Or.inl rfl)) (pgs_cons (pg_name (i := 2) sc_law_scheme.nd rfl (Or.inl rfl)) (pgs_cons (pg_name (i := 3) sc_law_scheme.nd rfl (Or.inl rfl)) (pgs_cons (pg_name (i := 4) sc_law_scheme.nd rfl (Or.inl rfl)) (pgs_cons (pg_name (i := 5) sc_law_scheme.nd rfl (Or.inl rfl)) pgs_nil)))))))
      (pss_one (ps_ret (pe_makeK0 T.k_Scheme (ok_Scheme_init T).choose_spec.1 (hr.mono (by decide)) rfl T.g_Scheme (ok_Scheme_init T).choose_spec.2 passL (pk_cons (pe_callR (ok_law_wrap T) (hr.mono (by decide)) rfl T.g_law_wrap (kp_law_wrap T) pass0 (pa_cons (pv 1) pa_nil)) (pk_cons (pv 2) (pk_cons (pv 3) (pk_cons (pe_callR (ok_law_rule T) (hr.mono (by decide)) rfl T.g_law_rule (kp_law_rule T) pass0 (pa_cons (pv 4) pa_nil)) (pk_cons (pv 5) pk_nil))))))))), r_start (σ := [some (.ref p), none, none, none, none, none]) rfl ?_⟩
    walk_at "rd"
    refine r_gtup (SqT.of hp) rfl ?_
    walk_at "rd"
    refine r_makeK ?_
    walk_at "rd"
    refine ⟨wv, s.wrap, rfl, hw, fun wv' H1 e1 hw' => ?_⟩
    walk_at "rd"
    refine ⟨fv, s.full, rfl, hf.kt (Kt.of e1), fun fv' H2 e2 hf' => ?_⟩
    walk_at "rd"
    refine ⟨rfl, rfl, mk_sc rfl (hw'.same e2) hf' hok.wrap hok.full (fun _ q H' e hq => k q H' ((e1.trans e2).trans e) hq) fun z => ?_⟩
    rw [hok.slot] at z
    cases z
def sp_law_object (K : Fr) : Sp := fun vs H Q _ => ∃ (v : V) (c : Ch), vs = [v] ∧ LcAt H v c ∧ ∀ v' H', Same H H' → ChAt K H' v' c → Q v' H'
abbrev n_law_object : List Str := ["_law_change_here", "_law_part", "_law_value"]
theorem sc_law_object : FnScope n_law_object ["_law_change_here"] (defScope s_law_object) := ⟨rfl, rfl, rfl, by decide +kernel, rfl, by decide +kernel, by decide +kernel⟩
theorem kp_law_object (T : Tx K mg) : PySem.W.keepIn K (.ref (He.ga K "_law_object")) = true := kp_of T.d_law_object
theorem ok_law_object (T : Tx K mg) : FnR P w K mg base CX0 5 (He.ga K "_law_object") (sp_law_object K) := by
  refine mk0 T.d_law_object sc_law_object (fun _ _ _ _ _ _ us hl => match us, hl with | [_], _ => rfl) (fun vs H Q E h => ?_) (fun cdv A outer s H vs Q E hr h => ?_)
  · obtain ⟨v, c, rfl, _⟩ := h
    rfl
  · obtain ⟨v, c, rfl, hv, k⟩ := h
    obtain ⟨p, y, rfl, hp, hy⟩ := hv
    refine ⟨_, (pss_cons (ps_asg (pv 0) (pg_tup rfl (pgs_cons (pg_name (i := 1) sc_law_object.nd rfl (Or.inl rfl)) (pgs_cons (pg_name (i := 2) sc_law_object.nd rfl (Or.inl rfl)) pgs_nil))))
      (pss_cons (ps_if (pt_cmpR op_eq (pv 1) pe_str (nomark _)) (pss_one (ps_ret (pe_tup (pa_cons (pv 1) (pa_cons (pe_callR (ok_law_wrap T) (hr.mono (by decide)) rfl T.g_law_wrap (kp_law_wrap T) pass0 (pa_cons (pv 2) pa_nil)) pa_nil))))) pss_nil)
      (pss_cons (ps_if (pt_cmpR op_eq (pv 1) pe_str (nomark _)) (pss_one (ps_ret (pe_tup (pa_cons (pv 1) (pa_cons (pe_callR (ok_law_rule T) (hr.mono (by decide)) rfl T.g_law_rule (kp_law_rule T) pass0 (pa_cons (pv 2) pa_nil)) pa_nil))))) pss_nil)
      (pss_one (ps_ret (pe_tup (pa_cons (pv 1) (pa_cons (pv 2) pa_nil)))))))), r_start (σ := [some (.ref p), none, none]) rfl ?_⟩
    walk_at "rd"
    refine r_gtup (SqT.of hp) rfl ?_
    walk_at "rd"
    cases c with
    | wrap x =>
      refine itet (by exact (by decide +kernel : decide (V.str (pname 0) = V.str "wrap") = true)) ?_
      walk_at "rd"
      refine ⟨y, x, rfl, hy, fun y' H1 e1 hy' => ?_⟩
      walk_at "rd"
      intro t nt
      have e2 := same_new (o := .tup [.str (Ch.wrap x).nm, y']) nt
      exact k _ _ (e1.trans e2) ⟨t, y', rfl, upd_same, PWr.same e2 hy'⟩
    | full f =>
      refine itef (by exact (by decide +kernel : decide (V.str (pname 3) = V.str "wrap") = false)) ?_
      walk_at "rd"
      refine itet (by exact (by decide +kernel : decide (V.str (pname 3) = V.str "full") = true)) ?_
      walk_at "rd"
      refine ⟨y, f, rfl, hy, fun y' H1 e1 hy' => ?_⟩
      walk_at "rd"
      intro t nt
      have e2 := same_new (o := .tup [.str (Ch.full f).nm, y']) nt
      exact k _ _ (e1.trans e2) ⟨t, y', rfl, upd_same, PFu.same e2 hy'⟩
    | slot s =>
      refine itef (by exact (by decide +kernel : decide (V.str (pname 1) = V.str "wrap") = false)) ?_
      walk_at "rd"
      refine itef (by exact (by decide +kernel : decide (V.str (pname 1) = V.str "full") = false)) ?_
      walk_at "rd"
      intro t nt
      exact k _ _ (same_new nt) ⟨t, y, rfl, upd_same, hy⟩
    | empty s =>
      refine itef (by exact (by decide +kernel : decide (V.str (pname 2) = V.str "wrap") = false)) ?_
      walk_at "rd"
      refine itef (by exact (by decide +kernel : decide (V.str (pname 2) = V.str "full") = false)) ?_
      walk_at "rd"
      intro t nt
      exact k _ _ (same_new nt) ⟨t, y, rfl, upd_same, hy⟩
    | «when» s =>
      refine itef (by exact (by decide +kernel : decide (V.str (pname 4) = V.str "wrap") = false)) ?_
      walk_at "rd"
      refine itef (by exact (by decide +kernel : decide (V.str (pname 4) = V.str "full") = false)) ?_
      walk_at "rd"
      intro t nt
      exact k _ _ (same_new nt) ⟨t, y, rfl, upd_same, hy⟩
def LcsAt (H : Hp) (xs : List V) (cs : List Ch) : Prop := xs.length = cs.length ∧ ∀ (i : Nat) (c : Ch), cs[i]? = some c → ∃ v, xs[i]? = some v ∧ LcAt H v c
theorem LcsAt.kt {H H' : Hp} {xs : List V} {cs : List Ch} (e : Kt H H') (h : LcsAt H xs cs) : LcsAt H' xs cs := ⟨h.1, fun i c hc => let ⟨v, h1, h2⟩ := h.2 i c hc; ⟨v, h1, h2.kt e⟩⟩
theorem LcsAt.at {H : Hp} {xs : List V} {cs : List Ch} (h : LcsAt H xs cs) {i : Nat} {v : V} (hv : xs[i]? = some v) : ∃ c, cs[i]? = some c ∧ LcAt H v c := by
  have hi : i < cs.length := by
    rw [← h.1]
    exact (List.getElem?_eq_some_iff.mp hv).1
  obtain ⟨v', h1, h2⟩ := h.2 i _ (List.getElem?_eq_getElem hi)
  rw [hv] at h1
  cases h1
  exact ⟨_, List.getElem?_eq_getElem hi, h2⟩
theorem ChsAt.snoc {H : Hp} {xs : List V} {cs : List Ch} {v : V} {c : Ch} (h : ChsAt K H xs cs) (hv : ChAt K H v c) : ChsAt K H (xs ++ [v]) (cs ++ [c]) := by
  refine ⟨by rw [List.length_append, List.length_append, h.1]; rfl, fun i d hd => ?_⟩
  by_cases hi : i < cs.length
  · rw [List.getElem?_append_left hi] at hd
    obtain ⟨v', h1, h2⟩ := h.2 i d hd
    exact ⟨v', by rw [List.getElem?_append_left (by rw [h.1]; exact hi)]; exact h1, h2⟩
  · have hi2 := (List.getElem?_eq_some_iff.mp hd).1
    rw [List.length_append] at hi2
    have e : i = cs.length := by
      have : i < cs.length + 1 := hi2
      omega
    subst e
    rw [List.getElem?_append_right (Nat.le_refl _), Nat.sub_self] at hd
    cases hd
    exact ⟨v, by rw [List.getElem?_append_right (by rw [h.1]; exact Nat.le_refl _), h.1, Nat.sub_self]; rfl, hv⟩
theorem ChsAt.put {H : Hp} {xs : List V} {cs : List Ch} {D : Addr} {o u : HO} (h : ChsAt K H xs cs) (hD : H D = some o) (n1 : ∀ ys, o ≠ .tup ys) (n2 : ∀ C dx f fs, o ≠ .ins C dx (f :: fs)) : ChsAt K (upd H D u) xs cs := by
  have kp : Kp H (upd H D u) := ⟨fun c C dx f fs e => by rw [upd_ne (fun z => by rw [z, hD] at e; exact n2 _ _ _ _ (Option.some.inj e))]; exact e, fun c ys e => by rw [upd_ne (fun z => by rw [z, hD] at e; exact n1 _ (Option.some.inj e))]; exact e⟩
  exact ⟨h.1, fun i c hc => let ⟨v, h1, p, y, h2, h3, h4⟩ := h.2 i c hc; ⟨v, h1, p, y, h2, kp.tup _ _ h3, h4.kp kp⟩⟩
def sp_law_menu (K : Fr) : Sp := fun vs H Q _ => ∃ (p l : Addr) (s : Sc) (xs : List V) (cs : List Ch), vs = [.ref p, .ref l] ∧ ScAt K H p s ∧ s.ok ∧ H l = some (.lst xs) ∧ LcsAt H xs cs ∧ (∀ c ∈ cs, c.ok) ∧ cs.length ≤ 6 ∧ ∀ m H', Same H H' → MeAt K H' m s cs → Q (.ref m) H'
abbrev n_law_menu : List Str := ["_law_scheme_here", "_law_changes", "_law_rows", "_law_change_here"]
theorem sc_law_menu : FnScope n_law_menu ["_law_scheme_here", "_law_changes"] (defScope s_law_menu) := ⟨rfl, rfl, rfl, by decide +kernel, rfl, by decide +kernel, by decide +kernel⟩
theorem kp_law_menu (T : Tx K mg) : PySem.W.keepIn K (.ref (He.ga K "_law_menu")) = true := kp_of T.d_law_menu
theorem ok_law_menu (T : Tx K mg) : FnR P w K mg base CX0 9 (He.ga K "_law_menu") (sp_law_menu K) := by
  refine mk0 T.d_law_menu sc_law_menu (fun _ _ _ _ _ _ us hl => match us, hl with | [_, _], _ => rfl) (fun vs H Q E h => ?_) (fun cdv A outer s H vs Q E hr h => ?_)
  · obtain ⟨p, l, s, xs, cs, rfl, _⟩ := h
    rfl
  · obtain ⟨p, l, s, xs, cs, rfl, hp, hok, hl, hcs, hco, hle, k⟩ := h
    refine ⟨_, (pss_cons (ps_setLc (i := 2) (own := [("_law_change_here", 3)]) (g := gName 3) (tt := tYes) rfl sc_law_menu.nd rfl rfl (sw_true rfl rfl rfl (by decide +kernel)) (pi_list (pv 1)) (blkOk_by (N := n_law_menu) (sc := defScope s_law_menu) (by decide +kernel)) (fun _ _ _ _ _ => (pg_name (i := 3) sc_law_menu.nd rfl (Or.inl rfl))) (fun _ _ _ _ _ => pts_nil) (fun _ _ _ _ _ => (pe_callR (ok_law_object T) (hr.mono (by decide)) rfl T.g_law_object (kp_law_object T) pass0 (pa_cons (pv 3) pa_nil))))
      (pss_cons (ps_if (pt_cmpR op_eq (pe_callB call_len_seq (by rfl) T.f_len PySem.boot_len (pa_cons (pv 2) pa_nil)) pe_int (nomark _)) (pss_one (ps_ret (StX.pe_makeR T.k_Menu (ok_Menu_init T) (hr.mono (by decide)) rfl T.g_Menu pass0 (pa_cons (pv 0) pa_nil)))) pss_nil)
      (pss_cons (ps_if (pt_cmpR op_eq (pe_callB call_len_seq (by rfl) T.f_len PySem.boot_len (pa_cons (pv 2) pa_nil)) pe_int (nomark _)) (pss_one (ps_ret (StX.pe_makeR T.k_Menu (ok_Menu_init T) (hr.mono (by decide)) rfl T.g_Menu pass0 (pa_cons (pv 0) (pa_cons (pe_ix ix_list (pv 2) pe_int (fun _ _ => rfl)) pa_nil))))) pss_nil)
      (pss_cons (ps_if (pt_cmpR op_eq (pe_callB call_len_seq (by rfl) T.f_len PySem.boot_len (pa_cons (pv 2) pa_nil)) pe_int (nomark _)) (pss_one (ps_ret (StX.pe_makeR T.k_Menu (ok_Menu_init T) (hr.mono (by decide)) rfl T.g_Menu pass0 (pa_cons (pv 0) (pa_cons (pe_ix ix_list (pv 2) pe_int (fun _ _ => rfl)) (pa_cons (pe_ix ix_list (pv 2) pe_int (fun _ _ => rfl)) pa_nil)))))) pss_nil)
      (pss_cons (ps_if (pt_cmpR op_eq (pe_callB call_len_seq (by rfl) T.f_len PySem.boot_len (pa_cons (pv 2) pa_nil)) pe_int (nomark _)) (pss_one (ps_ret (StX.pe_makeR T.k_Menu (ok_Menu_init T) (hr.mono (by decide)) rfl T.g_Menu pass0 (pa_cons (pv 0) (pa_cons (pe_ix ix_list (pv 2) pe_int (fun _ _ => rfl)) (pa_cons (pe_ix ix_list (pv 2) pe_int (fun _ _ => rfl)) (pa_cons (pe_ix ix_list (pv 2) pe_int (fun _ _ => rfl)) pa_nil))))))) pss_nil)
      (pss_cons (ps_if (pt_cmpR op_eq (pe_callB call_len_seq (by rfl) T.f_len PySem.boot_len (pa_cons (pv 2) pa_nil)) pe_int (nomark _)) (pss_one (ps_ret (StX.pe_makeR T.k_Menu (ok_Menu_init T) (hr.mono (by decide)) rfl T.g_Menu pass0 (pa_cons (pv 0) (pa_cons (pe_ix ix_list (pv 2) pe_int (fun _ _ => rfl)) (pa_cons (pe_ix ix_list (pv 2) pe_int (fun _ _ => rfl)) (pa_cons (pe_ix ix_list (pv 2) pe_int (fun _ _ => rfl)) (pa_cons (pe_ix ix_list (pv 2) pe_int (fun _ _ => rfl)) pa_nil)))))))) pss_nil)
      (pss_cons (ps_if (pt_cmpR op_eq (pe_callB call_len_seq (by rfl) T.f_len PySem.boot_len (pa_cons (pv 2) pa_nil)) pe_int (nomark _)) (pss_one (ps_ret (StX.pe_makeR T.k_Menu (ok_Menu_init T) (hr.mono (by decide)) rfl T.g_Menu pass0 (pa_cons (pv 0) (pa_cons (pe_ix ix_list (pv 2) pe_int (fun _ _ => rfl)) (pa_cons (pe_ix ix_list (pv 2) pe_int (fun _ _ => rfl)) (pa_cons (pe_ix ix_list (pv 2) pe_int (fun _ _ => rfl)) (pa_cons (pe_ix ix_list (pv 2) pe_int (fun _ _ => rfl)) (pa_cons (pe_ix ix_list (pv 2) pe_int (fun _ _ => rfl)) pa_nil))))))))) pss_nil)
      (pss_one (ps_ret (StX.pe_makeR T.k_Menu (ok_Menu_init T) (hr.mono (by decide)) rfl T.g_Menu pass0 (pa_cons (pv 0) (pa_cons (pe_ix ix_list (pv 2) pe_int (fun _ _ => rfl)) (pa_cons (pe_ix ix_list (pv 2) pe_int (fun _ _ => rfl)) (pa_cons (pe_ix ix_list (pv 2) pe_int (fun _ _ => rfl)) (pa_cons (pe_ix ix_list (pv 2) pe_int (fun _ _ => rfl)) (pa_cons (pe_ix ix_list (pv 2) pe_int (fun _ _ => rfl)) (pa_cons (pe_ix ix_list (pv 2) pe_int (fun _ _ => rfl)) pa_nil))))))))))))))))), r_start (σ := [some (.ref p), some (.ref l), none, none]) rfl ?_⟩
    walk_at "rd"
    refine ⟨.ref l, rfl, l, rfl, ⟨xs, SqL.of hl⟩, fun D nD => ?_⟩
    refine lc_list (xs := xs) (fun i Hx => ∃ acc, Hx D = some (.lst acc) ∧ ChsAt K Hx acc (cs.take i) ∧ Same H Hx) ⟨[], upd_same, ⟨rfl, fun i c hc => by simp at hc⟩, same_new nD⟩ (fun i Hx _ ⟨_, _, _, e⟩ => SqL.of (e _ _ hl)) ?_ ?_
    · rintro i v Hx hi ⟨acc, hD, hacc, e⟩
      obtain ⟨c, hc, hv⟩ := hcs.at hi
      refine ⟨rfl, ?_⟩
      refine r_yes ?_
      refine itet rfl ?_
      show tCallR (sp_law_object K) E0 (tCons (tVar 3) tNil) [some (.ref p), some (.ref l), none, some v] Hx _
      walk_at "rd"
      refine ⟨v, c, rfl, hv.kt (Kt.of e), fun v' H2 e2 hv' => ⟨acc, e2 _ _ hD, ?_, _, upd_same, ?_, fun c o h => ?_⟩⟩
      · have q1 := hacc.1
        rw [List.length_take] at q1
        exact small1000 (by omega)
      · rw [List.take_add_one, hc]
        exact ((hacc.same e2).snoc hv').put (e2 _ _ hD) (fun ys z => by cases z) (fun C dx f fs z => by cases z)
      · rw [upd_ne (ne_of_none h nD)]
        exact e2 _ _ (e _ _ h)
    · rintro Hx ⟨acc, hD, hacc, e⟩
      rw [hcs.1, List.take_length] at hacc
      have hal := hacc.1
      have hp' := hp.same e
      have fin : ∀ (C : Addr) (ys : List V), C = He.ga K "Menu" → ys = acc → ∀ x dx, Hx x = Option.none → Hx dx = Option.none → dx ≠ x →
          starSp 2 (sp_Menu_init K) (.ref x :: (.ref p :: ys)) (upd (upd Hx dx (.own x)) x (.ins C dx [])) (fun v H2 => v = .non ∧ Q (.ref x) H2) E0 := by
        rintro C ys hC rfl
        exact mk_menu hC hp' hok hacc hco hle fun m H' e' hm => k m H' (e.trans e') hm
      walk_at "rd"
      refine ⟨_, _, rfl, .inl (SqL.of hD), ?_⟩
      walk_at "rd"
      rcases acc with _ | ⟨a0, _ | ⟨a1, _ | ⟨a2, _ | ⟨a3, _ | ⟨a4, _ | ⟨a5, _ | ⟨a6, _⟩⟩⟩⟩⟩⟩⟩
      · refine itet (by rfl) ?_
        walk_at "rd"
        exact fin _ _ rfl rfl
      · refine itef (by rfl) ?_
        walk_at "rd"
        refine ⟨_, _, rfl, .inl (SqL.of hD), ?_⟩
        walk_at "rd"
        refine itet (by rfl) ?_
        walk_at "rd"
        refine r_ixL (SqL.of hD) (v := a0) (by rfl) ?_
        walk_at "rd"
        exact fin _ _ rfl rfl
      · refine itef (by rfl) ?_
        walk_at "rd"
        refine ⟨_, _, rfl, .inl (SqL.of hD), ?_⟩
        walk_at "rd"
        refine itef (by rfl) ?_
        walk_at "rd"
        refine ⟨_, _, rfl, .inl (SqL.of hD), ?_⟩
        walk_at "rd"
        refine itet (by rfl) ?_
        walk_at "rd"
        refine r_ixL (SqL.of hD) (v := a0) (by rfl) ?_
        walk_at "rd"
        refine r_ixL (SqL.of hD) (v := a1) (by rfl) ?_
        walk_at "rd"
        exact fin _ _ rfl rfl
      · refine itef (by rfl) ?_
        walk_at "rd"
        refine ⟨_, _, rfl, .inl (SqL.of hD), ?_⟩
        walk_at "rd"
        refine itef (by rfl) ?_
        walk_at "rd"
        refine ⟨_, _, rfl, .inl (SqL.of hD), ?_⟩
        walk_at "rd"
        refine itef (by rfl) ?_
        walk_at "rd"
        refine ⟨_, _, rfl, .inl (SqL.of hD), ?_⟩
        walk_at "rd"
        refine itet (by rfl) ?_
        walk_at "rd"
        refine r_ixL (SqL.of hD) (v := a0) (by rfl) ?_
        walk_at "rd"
        refine r_ixL (SqL.of hD) (v := a1) (by rfl) ?_
        walk_at "rd"
        refine r_ixL (SqL.of hD) (v := a2) (by rfl) ?_
        walk_at "rd"
        exact fin _ _ rfl rfl
      · refine itef (by rfl) ?_
        walk_at "rd"
        refine ⟨_, _, rfl, .inl (SqL.of hD), ?_⟩
        walk_at "rd"
        refine itef (by rfl) ?_
        walk_at "rd"
        refine ⟨_, _, rfl, .inl (SqL.of hD), ?_⟩
        walk_at "rd"
        refine itef (by rfl) ?_
        walk_at "rd"
        refine ⟨_, _, rfl, .inl (SqL.of hD), ?_⟩
        walk_at "rd"
        refine itef (by rfl) ?_
        walk_at "rd"
        refine ⟨_, _, rfl, .inl (SqL.of hD), ?_⟩
        walk_at "rd"
        refine itet (by rfl) ?_
        walk_at "rd"
        refine r_ixL (SqL.of hD) (v := a0) (by rfl) ?_
        walk_at "rd"
        refine r_ixL (SqL.of hD) (v := a1) (by rfl) ?_
        walk_at "rd"
        refine r_ixL (SqL.of hD) (v := a2) (by rfl) ?_
        walk_at "rd"
        refine r_ixL (SqL.of hD) (v := a3) (by rfl) ?_
        walk_at "rd"
        exact fin _ _ rfl rfl
      · refine itef (by rfl) ?_
        walk_at "rd"
        refine ⟨_, _, rfl, .inl (SqL.of hD), ?_⟩
        walk_at "rd"
        refine itef (by rfl) ?_
        walk_at "rd"
        refine ⟨_, _, rfl, .inl (SqL.of hD), ?_⟩
        walk_at "rd"
        refine itef (by rfl) ?_
        walk_at "rd"
        refine ⟨_, _, rfl, .inl (SqL.of hD), ?_⟩
        walk_at "rd"
        refine itef (by rfl) ?_
        walk_at "rd"
        refine ⟨_, _, rfl, .inl (SqL.of hD), ?_⟩
        walk_at "rd"
        refine itef (by rfl) ?_
        walk_at "rd"
        refine ⟨_, _, rfl, .inl (SqL.of hD), ?_⟩
        walk_at "rd"
        refine itet (by rfl) ?_
        walk_at "rd"
        refine r_ixL (SqL.of hD) (v := a0) (by rfl) ?_
        walk_at "rd"
        refine r_ixL (SqL.of hD) (v := a1) (by rfl) ?_
        walk_at "rd"
        refine r_ixL (SqL.of hD) (v := a2) (by rfl) ?_
        walk_at "rd"
        refine r_ixL (SqL.of hD) (v := a3) (by rfl) ?_
        walk_at "rd"
        refine r_ixL (SqL.of hD) (v := a4) (by rfl) ?_
        walk_at "rd"
        exact fin _ _ rfl rfl
      · refine itef (by rfl) ?_
        walk_at "rd"
        refine ⟨_, _, rfl, .inl (SqL.of hD), ?_⟩
        walk_at "rd"
        refine itef (by rfl) ?_
        walk_at "rd"
        refine ⟨_, _, rfl, .inl (SqL.of hD), ?_⟩
        walk_at "rd"
        refine itef (by rfl) ?_
        walk_at "rd"
        refine ⟨_, _, rfl, .inl (SqL.of hD), ?_⟩
        walk_at "rd"
        refine itef (by rfl) ?_
        walk_at "rd"
        refine ⟨_, _, rfl, .inl (SqL.of hD), ?_⟩
        walk_at "rd"
        refine itef (by rfl) ?_
        walk_at "rd"
        refine ⟨_, _, rfl, .inl (SqL.of hD), ?_⟩
        walk_at "rd"
        refine itef (by rfl) ?_
        walk_at "rd"
        refine r_ixL (SqL.of hD) (v := a0) (by rfl) ?_
        walk_at "rd"
        refine r_ixL (SqL.of hD) (v := a1) (by rfl) ?_
        walk_at "rd"
        refine r_ixL (SqL.of hD) (v := a2) (by rfl) ?_
        walk_at "rd"
        refine r_ixL (SqL.of hD) (v := a3) (by rfl) ?_
        walk_at "rd"
        refine r_ixL (SqL.of hD) (v := a4) (by rfl) ?_
        walk_at "rd"
        refine r_ixL (SqL.of hD) (v := a5) (by rfl) ?_
        walk_at "rd"
        exact fin _ _ rfl rfl
      · exfalso
        simp only [List.length_cons] at hal
        omega
end
end Ls
namespace Ls
open PySem PySem.Spec PyProof.Rows L2
theorem win_zero {s : Sl} {x : Wr} {n : Int} (hk : slOk s x = true) (hn : 1 ≤ n) (hM : 1 ≤ modu x n) : decide (win s x n = 0) = isOut s n (modu x n) := by
  by_cases hout : isOut s n (modu x n) = true
  · rw [hout, win_out hk hout]
    rfl
  · have hout : isOut s n (modu x n) = false := by simpa using hout
    rw [hout]
    refine decide_eq_false ?_
    by_cases hs : s = .mask
    · obtain ⟨w, rfl⟩ := mask_wid hk hs
      subst hs
      rw [win_mask]
      have := winm_pos w.toNat n.toNat
      omega
    · rw [win_plain hs hout]
      have h1 := Int.emod_nonneg (modu x n) (show n ≠ 0 by omega)
      split <;> omega
section
variable {w : World} {K : Fr} {mg : Str → Option Value} {base : Heap}
def sp_law_modulus (K : Fr) : Sp := fun vs H Q _ => ∃ (v : V) (x : Wr) (n : Int), vs = [v, .int n] ∧ LwAt H v x ∧ x.ok ∧ Q (.int (modu x n)) H
abbrev n_law_modulus : List Str := ["_law_turning", "_law_n", "_law_found", "_law_turn"]
theorem sc_law_modulus : FnScope n_law_modulus ["_law_turning", "_law_n"] (defScope s_law_modulus) := ⟨rfl, rfl, rfl, by decide +kernel, rfl, by decide +kernel, by decide +kernel⟩
theorem kp_law_modulus (T : Tx K mg) : PySem.W.keepIn K (.ref (He.ga K "_law_modulus")) = true := kp_of T.d_law_modulus
theorem ok_law_modulus (T : Tx K mg) : FnR P w K mg base CX0 1 (He.ga K "_law_modulus") (sp_law_modulus K) := by
  refine mk0 T.d_law_modulus sc_law_modulus (fun _ _ _ _ _ _ us hl => match us, hl with | [_, _], _ => rfl) (fun vs H Q E h => ?_) (fun cdv A outer s H vs Q E hr h => ?_)
  · obtain ⟨v, x, n, rfl, _⟩ := h
    rfl
  · obtain ⟨v, x, n, rfl, hv, ho, k⟩ := h
    refine ⟨_, (pss_cons (ps_if (pt_val (pe_callB call_isi (by rfl) T.f_isinstance (by decide +kernel) (pa_cons (pv 0) (pa_cons (pe_bltn (v := .ty "tuple") (u := .type "tuple") (by rfl) T.f_tuple (by decide +kernel) rfl) pa_nil)))) (pss_one (ps_ret (pe_op op_add (pe_op op_mul (pe_ix ix_tup (pv 0) pe_int (fun _ _ => rfl)) (pv 1)) (pe_ix ix_tup (pv 0) pe_int (fun _ _ => rfl))))) pss_nil)
      (pss_cons (ps_set (i := 2) sc_law_modulus.nd rfl (Or.inl rfl) pe_int)
      (pss_cons (ps_for PassesOwn.never rfl (pi_range1 rfl T.f_range (pa_cons (pv 0) pa_nil)) (pg_name (i := 3) sc_law_modulus.nd rfl (Or.inl rfl)) (pss_one (ps_set (i := 2) sc_law_modulus.nd rfl (Or.inl rfl) (pe_op op_mul (pv 2) pe_int))))
      (pss_one (ps_ret (pv 2)))))), r_start (σ := [some v, some (.int n), none, none]) rfl ?_⟩
    walk_at "rd"
    cases x with
    | wid i =>
      obtain rfl : v = .int i := hv
      refine r_isi (.ty "tuple") (.base (.int i)) (b := false) (kit_ty (by decide +kernel)) ?_
      walk_at "rd"
      obtain ⟨m, rfl⟩ : ∃ m : Nat, i = m := ⟨i.toNat, by have : 1 ≤ i := ho.1; omega⟩
      have hm : (m : Int) ≤ 100 := ho.2
      refine ⟨.int m, rfl, (m : Int), rfl, by omega, by omega, for_range (fun i σ H' => ∃ a, σ = [some (.int m), some (.int n), some (.int ((2 : Int) ^ i)), a] ∧ H' = H) ?_ ?_ ?_⟩
      · exact ⟨none, rfl, rfl⟩
      · rintro i σ H' hi ⟨a, rfl, rfl⟩
        walk_at "rd"
        refine r_i (.inr ⟨by decide, by decide⟩) ?_
        walk_at "rd"
        exact ⟨_, by rw [Int.pow_succ], rfl⟩
      · rintro σ H' ⟨a, rfl, rfl⟩
        walk_at "rd"
        exact k
    | frm a b =>
      obtain ⟨p, rfl, hp⟩ := hv
      refine r_isi (.ty "tuple") (.base (.tup hp)) (b := true) (kit_ty (by decide +kernel)) ?_
      walk_at "rd"
      refine r_ixT (SqT.of hp) (v := .int a) (by rfl) ?_
      walk_at "rd"
      obtain ⟨⟨a0, a4⟩, _⟩ := ho
      refine r_i (.inl ⟨by omega, by omega⟩) ?_
      walk_at "rd"
      refine r_ixT (SqT.of hp) (v := .int b) (by rfl) ?_
      walk_at "rd"
      exact k
theorem lroom_cases {H : Hp} {v : V} {f : Fu} {h : Wh} {n M : Int} (hv : LfAt H v f) (ho : f.ok) (hh : h ≠ .over) :
    (∃ p, v = .ref p ∧ H p = some (.tup [.str "next"]) ∧ f = .next) ∨ (∃ p, v = .ref p ∧ H p = some (.tup [.str "note"]) ∧ f = .note) ∨
    (∃ (p q : Addr) (x : Str) (o : Op) (a b : Int) (d : Bool), v = .ref p ∧ H p = some (.tup [.str x, .str o.s, .ref q]) ∧ H q = some (.tup [.int a, .int b]) ∧ ((0 ≤ a ∧ a ≤ 4) ∧ (-20 ≤ b ∧ b ≤ 20)) ∧
      decide (V.str x = V.str "next") = false ∧ decide (V.str x = V.str "note") = false ∧ decide (V.str x = V.str "diff") = d ∧ room f h n M = lim o d (a * n + b) M) := by
  cases f with
  | next => obtain ⟨p, e, hp⟩ := hv; exact .inl ⟨p, e, hp, rfl⟩
  | note => obtain ⟨p, e, hp⟩ := hv; exact .inr (.inl ⟨p, e, hp, rfl⟩)
  | diff o a b => obtain ⟨p, q, e, hp, hf⟩ := hv; exact .inr (.inr ⟨p, q, _, o, a, b, true, e, hp, hf, ho, by decide +kernel, by decide +kernel, by decide +kernel, room_diff hh⟩)
  | count o a b => obtain ⟨p, q, e, hp, hf⟩ := hv; exact .inr (.inr ⟨p, q, _, o, a, b, false, e, hp, hf, ho, by decide +kernel, by decide +kernel, by decide +kernel, room_count hh⟩)
def sp_law_room (K : Fr) : Sp := fun vs H Q _ => ∃ (v : V) (s : Sc) (n M : Int), vs = [v, .int n, .int M] ∧ LpAt H v s ∧ s.ok ∧ 1 ≤ M ∧ Q (optV (room s.full s.when n M)) H
abbrev n_law_room : List Str := ["_law_parts_here", "_law_n", "_law_modulus_here", "_law_filled", "_law_limit_here"]
theorem sc_law_room : FnScope n_law_room ["_law_parts_here", "_law_n", "_law_modulus_here"] (defScope s_law_room) := ⟨rfl, rfl, rfl, by decide +kernel, rfl, by decide +kernel, by decide +kernel⟩
theorem kp_law_room (T : Tx K mg) : PySem.W.keepIn K (.ref (He.ga K "_law_room")) = true := kp_of T.d_law_room
theorem ok_law_room (T : Tx K mg) : FnR P w K mg base CX0 1 (He.ga K "_law_room") (sp_law_room K) := by
  refine mk0 T.d_law_room sc_law_room (fun _ _ _ _ _ _ us hl => match us, hl with | [_, _, _], _ => rfl) (fun vs H Q E h => ?_) (fun cdv A outer s H vs Q E hr h => ?_)
  · obtain ⟨v, s, n, M, rfl, _⟩ := h
    rfl
  · obtain ⟨v, s, n, M, rfl, hv, hok, hM, k⟩ := h
    obtain ⟨p, wv, fv, rfl, hp, hw, hf⟩ := hv
    refine ⟨_, (pss_cons (ps_set (i := 3) sc_law_room.nd rfl (Or.inl rfl) (pe_ix ix_tup (pv 0) pe_int (fun _ _ => rfl)))
      (pss_cons (ps_if (pt_cmpR op_eq (pe_ix ix_tup (pv 0) pe_int (fun _ _ => rfl)) pe_str (nomark _)) (pss_one (ps_ret pe_non)) pss_nil)
      (pss_cons (ps_if (pt_cmpR op_eq (pe_ix ix_tup (pv 3) pe_int (fun _ _ => rfl)) pe_str (nomark _)) (pss_one (ps_ret (pe_op op_sub (pv 2) pe_int))) pss_nil)
      (pss_cons (ps_if (pt_cmpR op_eq (pe_ix ix_tup (pv 3) pe_int (fun _ _ => rfl)) pe_str (nomark _)) (pss_one (ps_ret (pv 2))) pss_nil)
      (pss_cons (ps_set (i := 4) sc_law_room.nd rfl (Or.inl rfl) (pe_op op_add (pe_op op_mul (pe_ix ix_tup (pe_ix ix_tup (pv 3) pe_int (fun _ _ => rfl)) pe_int (fun _ _ => rfl)) (pv 1)) (pe_ix ix_tup (pe_ix ix_tup (pv 3) pe_int (fun _ _ => rfl)) pe_int (fun _ _ => rfl))))
      (pss_cons (ps_if (PW.pt (pw_or (PW.pt (pw_and (pt_cmpR op_lt (pv 4) pe_int (nomark _)) (pw_and1 (pt_cmpR op_eq (pe_ix ix_tup (pv 3) pe_int (fun _ _ => rfl)) pe_str (nomark _))))) (pw_or1 (PW.pt (pw_and (pt_cmpR op_eq (pe_ix ix_tup (pv 3) pe_int (fun _ _ => rfl)) pe_str (nomark _)) (pw_and1 (pt_cmpR op_ge (pv 4) (pv 2) (nomark _)))))))) (pss_one (ps_ret pe_non)) pss_nil)
      (pss_one (ps_ret (pe_callB (call_max2 rfl) (by rfl) T.f_max (by decide +kernel) (pa_cons pe_int (pa_cons (pe_callTy call_int1 (by rfl) T.f_int (by decide +kernel) (pa_cons (pv 4) pa_nil)) pa_nil))))))))))), r_start (σ := [some (.ref p), some (.int n), some (.int M), none, none]) rfl ?_⟩
    walk_at "rd"
    refine r_ixT (SqT.of hp) (v := fv) (by rfl) ?_
    walk_at "rd"
    refine r_ixT (SqT.of hp) (v := .str s.when.s) (by rfl) ?_
    walk_at "rd"
    rw [wh_over]
    by_cases hh : s.when = .over
    · refine itet (decide_eq_true hh) ?_
      walk_at "rd"
      rw [hh] at k
      exact k
    · refine itef (decide_eq_false hh) ?_
      walk_at "rd"
      rcases lroom_cases hf hok.full (n := n) (M := M) hh with ⟨p', rfl, hp', hfu⟩ | ⟨p', rfl, hp', hfu⟩ | ⟨p', q, x, o, a, b, d, rfl, hp', hq, hab, e1, e2, e3, er⟩
      · refine r_ixT (SqT.of hp') (v := .str "next") (by rfl) ?_
        walk_at "rd"
        refine itet (by decide +kernel) ?_
        walk_at "rd"
        rw [hfu, room_next hh] at k
        exact k
      · refine r_ixT (SqT.of hp') (v := .str "note") (by rfl) ?_
        walk_at "rd"
        refine itef (by decide +kernel) ?_
        walk_at "rd"
        refine r_ixT (SqT.of hp') (v := .str "note") (by rfl) ?_
        walk_at "rd"
        refine itet (by decide +kernel) ?_
        walk_at "rd"
        rw [hfu, room_note hh] at k
        exact k
      · rw [er] at k
        obtain ⟨⟨a0, a4⟩, b0, b4⟩ := hab
        refine r_ixT (SqT.of hp') (v := .str x) (by rfl) ?_
        walk_at "rd"
        refine itef e1 ?_
        walk_at "rd"
        refine r_ixT (SqT.of hp') (v := .str x) (by rfl) ?_
        walk_at "rd"
        refine itef e2 ?_
        walk_at "rd"
        refine r_ixT (SqT.of hp') (v := .ref q) (by rfl) ?_
        walk_at "rd"
        refine r_ixT (SqT.of hq) (v := .int a) (by rfl) ?_
        walk_at "rd"
        refine r_i (.inl ⟨by omega, by omega⟩) ?_
        walk_at "rd"
        refine r_ixT (SqT.of hp') (v := .ref q) (by rfl) ?_
        walk_at "rd"
        refine r_ixT (SqT.of hq) (v := .int b) (by rfl) ?_
        walk_at "rd"
        generalize a * n + b = l at k ⊢
        unfold lim at k
        have mx : (if l > 0 then l else 0) = if l < 0 then 0 else l := by
          split <;> split <;> omega
        refine ite2 (fun h1 => ?_) (fun h1 => ?_)
        · have h1 : l < 0 := of_decide_eq_true h1
          rw [if_pos h1] at k mx
          walk_at "rd"
          refine r_ixT (SqT.of hp') (v := .str o.s) (by rfl) ?_
          walk_at "rd"
          rw [op_eq_]
          cases o with
          | eq =>
            refine itet (by rfl) ?_
            walk_at "rd"
            exact k
          | ge =>
            refine itef (by rfl) ?_
            walk_at "rd"
            refine r_ixT (SqT.of hp') (v := .str x) (by rfl) ?_
            walk_at "rd"
            rw [e3]
            cases d with
            | false =>
              walk_at "rd"
              rw [mx]
              exact k
            | true =>
              walk_at "rd"
              refine itef (decide_eq_false (by omega)) ?_
              walk_at "rd"
              rw [mx]
              exact k
        · have h1 : ¬ l < 0 := fun z => h1 (decide_eq_true z)
          rw [if_neg h1] at k mx
          walk_at "rd"
          refine r_ixT (SqT.of hp') (v := .str x) (by rfl) ?_
          walk_at "rd"
          rw [e3]
          cases d with
          | false =>
            walk_at "rd"
            rw [mx]
            exact k
          | true =>
            walk_at "rd"
            refine ite2 (fun h2 => ?_) (fun h2 => ?_)
            · have h2 : M ≤ l := of_decide_eq_true h2
              walk_at "rd"
              rw [if_pos (by rw [decide_eq_true h2]; rfl)] at k
              exact k
            · have h2 : ¬ M ≤ l := fun z => h2 (decide_eq_true z)
              walk_at "rd"
              rw [if_neg (by rw [decide_eq_false h2]; decide)] at k
              rw [mx]
              exact k
def sp_law_window (K : Fr) : Sp := fun vs H Q _ => ∃ (v : V) (s : Sc) (n : Int), vs = [v, .int n, .int (modu s.wrap n)] ∧ LpAt H v s ∧ s.ok ∧ 1 ≤ n ∧ 1 ≤ modu s.wrap n ∧ Q (.int (win s.slot s.wrap n)) H
abbrev n_law_window : List Str := ["_law_parts_here", "_law_n", "_law_modulus_here", "_law_bit"]
theorem sc_law_window : FnScope n_law_window ["_law_parts_here", "_law_n", "_law_modulus_here"] (defScope s_law_window) := ⟨rfl, rfl, rfl, by decide +kernel, rfl, by decide +kernel, by decide +kernel⟩
theorem kp_law_window (T : Tx K mg) : PySem.W.keepIn K (.ref (He.ga K "_law_window")) = true := kp_of T.d_law_window
theorem ok_law_window (T : Tx K mg) : FnR P w K mg base CX0 1 (He.ga K "_law_window") (sp_law_window K) := by
  refine mk0 T.d_law_window sc_law_window (fun _ _ _ _ _ _ us hl => match us, hl with | [_, _, _], _ => rfl) (fun vs H Q E h => ?_) (fun cdv A outer s H vs Q E hr h => ?_)
  · obtain ⟨v, s, n, rfl, _⟩ := h
    rfl
  · obtain ⟨v, s, n, rfl, hv, hok, hn, hM, k⟩ := h
    obtain ⟨p, wv, fv, rfl, hp, hw, hf⟩ := hv
    refine ⟨_, (pss_cons (ps_if (pt_cmpR op_eq (pe_ix ix_tup (pv 0) pe_int (fun _ _ => rfl)) pe_str (nomark _)) (pss_cons (ps_set (i := 3) sc_law_window.nd rfl (Or.inl rfl) pe_int)
      (pss_cons (ps_while PassesOwn.never (PW.pt (pw_and (pt_cmpR op_lt (pv 3) (pv 2) (nomark _)) (pw_and1 (pt_cmpR op_eq (pe_op op_modN (pe_callTy call_int1 (by rfl) T.f_int (by decide +kernel) (pa_cons (pv 1) pa_nil)) (pe_op op_mul pe_int (pv 3))) pe_int (nomark _))))) (pss_one (ps_set (i := 3) sc_law_window.nd rfl (Or.inl rfl) (pe_op op_mul pe_int (pv 3)))))
      (pss_one (ps_ret (pv 3))))) pss_nil)
      (pss_cons (ps_if (PW.pt (pw_and (pt_cmpR op_eq (pe_ix ix_tup (pv 0) pe_int (fun _ _ => rfl)) pe_str (nomark _)) (pw_and1 (pt_cmpR op_gt (pv 2) (pe_op op_mul pe_int (pv 1)) (nomark _))))) (pss_one (ps_ret pe_int)) pss_nil)
      (pss_cons (ps_if (pt_cmpR op_eq (pe_op op_modN (pe_callTy call_int1 (by rfl) T.f_int (by decide +kernel) (pa_cons (pv 2) pa_nil)) (pv 1)) pe_int (nomark _)) (pss_one (ps_ret (pv 1))) pss_nil)
      (pss_one (ps_ret (pe_op op_modN (pe_callTy call_int1 (by rfl) T.f_int (by decide +kernel) (pa_cons (pv 2) pa_nil)) (pv 1))))))), r_start (σ := [some (.ref p), some (.int n), some (.int (modu s.wrap n)), none]) rfl ?_⟩
    walk_at "rd"
    refine r_ixT (SqT.of hp) (v := .str s.slot.s) (by rfl) ?_
    walk_at "rd"
    rw [sl_mask]
    by_cases hs : s.slot = .mask
    · refine itet (decide_eq_true hs) ?_
      obtain ⟨wd, hwd⟩ := mask_wid hok.slot hs
      rw [hs, hwd, win_mask] at k
      have hwo := hok.wrap
      rw [hwd] at hwo ⊢
      obtain ⟨m, rfl⟩ : ∃ m : Nat, wd = m := ⟨wd.toNat, by have : 1 ≤ wd := hwo.1; omega⟩
      obtain ⟨nn, rfl⟩ : ∃ nn : Nat, n = nn := ⟨n.toNat, by omega⟩
      have k : Q (.int (winm nn m)) H := k
      walk_at "rd"
      refine while_ix (fun kk σ Hx => ∃ j : Nat, kk = m - j ∧ j ≤ m ∧ nn % 2 ^ j = 0 ∧ σ = [some (.ref p), some (.int nn), some (.int (modu (.wid m) nn)), some (.int ((2 ^ j : Nat) : Int))] ∧ Hx = H) m ⟨0, rfl, Nat.zero_le _, Nat.mod_one _, rfl, rfl⟩ ?_
      rintro kk σ Hx ⟨j, rfl, hj, hmod, rfl, rfl⟩
      have hmo : modu (.wid (m : Int)) nn = ((2 ^ m : Nat) : Int) := by
        show (2 : Int) ^ m = _
        rw [Int.natCast_pow]
        rfl
      rw [hmo]
      have hp2 := Nat.two_pow_pos j
      walk_at "rd"
      refine ite2 (fun h1 => ?_) (fun h1 => ?_)
      · have h1 : ((2 ^ j : Nat) : Int) < ((2 ^ m : Nat) : Int) := of_decide_eq_true h1
        have h1 : 2 ^ j < 2 ^ m := by exact_mod_cast h1
        have hjm : j < m := (Nat.pow_lt_pow_iff_right (by decide)).mp h1
        walk_at "rd"
        refine r_i (.inl ⟨by decide, by decide⟩) ?_
        walk_at "rd"
        refine r_i (by omega) ?_
        have hfm : ((nn : Int).fmod (2 * ((2 ^ j : Nat) : Int))) = ((nn % 2 ^ (j + 1) : Nat) : Int) := by
          rw [fmod_pos (by omega), Nat.pow_succ, Nat.mul_comm (2 ^ j) 2, Int.natCast_emod, Int.natCast_mul]
          rfl
        rw [hfm]
        walk_at "rd"
        rw [dec_int']
        refine ite2 (fun h2 => ?_) (fun h2 => ?_)
        · have h2 : ((nn % 2 ^ (j + 1) : Nat) : Int) = 0 := of_decide_eq_true h2
          have h2 : nn % 2 ^ (j + 1) = 0 := by exact_mod_cast h2
          refine ⟨_, fun _ _ h => h, ?_⟩
          walk_at "rd"
          refine r_i (.inl ⟨by decide, by decide⟩) ?_
          walk_at "rd"
          refine ⟨m - (j + 1), by omega, j + 1, rfl, hjm, h2, ?_, rfl⟩
          rw [Nat.pow_succ, Nat.mul_comm (2 ^ j) 2, Int.natCast_mul]
          rfl
        · have h2 : ¬ nn % 2 ^ (j + 1) = 0 := fun z => h2 (decide_eq_true (by rw [z]; rfl))
          walk_at "rd"
          rw [winm_stop hj hmod (.inr h2)] at k
          exact k
      · have h1 : ¬ ((2 ^ j : Nat) : Int) < ((2 ^ m : Nat) : Int) := fun z => h1 (decide_eq_true z)
        have h1 : ¬ 2 ^ j < 2 ^ m := by exact_mod_cast h1
        have hjm : ¬ j < m := fun z => h1 (Nat.pow_lt_pow_right (by decide) z)
        walk_at "rd"
        rw [winm_stop hj hmod (.inl (by omega))] at k
        exact k
    · refine itef (decide_eq_false hs) ?_
      walk_at "rd"
      refine r_ixT (SqT.of hp) (v := .str s.slot.s) (by rfl) ?_
      walk_at "rd"
      rw [sl_off]
      have plain : isOut s.slot n (modu s.wrap n) = false → (decide (V.int ((modu s.wrap n).fmod n) = V.int 0) = true → Q (.int n) H) ∧ (¬ decide (V.int ((modu s.wrap n).fmod n) = V.int 0) = true → Q (.int ((modu s.wrap n).fmod n)) H) := fun hout => by
        rw [win_plain hs hout] at k
        rw [dec_int', fmod_pos (by omega)]
        refine ⟨fun z => ?_, fun z => ?_⟩
        · rw [if_pos (of_decide_eq_true z)] at k
          exact k
        · rw [if_neg (fun y => z (decide_eq_true y))] at k
          exact k
      by_cases ho : s.slot = .off
      · refine itet (decide_eq_true ho) ?_
        walk_at "rd"
        refine r_i (.inl ⟨by decide, by decide⟩) ?_
        walk_at "rd"
        refine ite2 (fun h2 => ?_) (fun h2 => ?_)
        · walk_at "rd"
          have hout : isOut s.slot n (modu s.wrap n) = true := by
            unfold isOut
            rw [decide_eq_true ho, h2]
            rfl
          rw [win_out hok.slot hout] at k
          exact k
        · have hout : isOut s.slot n (modu s.wrap n) = false := by
            unfold isOut
            rw [show decide (2 * n < modu s.wrap n) = false by simpa using h2, Bool.and_false]
          obtain ⟨p1, p2⟩ := plain hout
          walk_at "rd"
          refine r_i (by omega) ?_
          walk_at "rd"
          refine ite2 (fun h3 => ?_) (fun h3 => ?_)
          · walk_at "rd"
            exact p1 h3
          · walk_at "rd"
            refine r_i (by omega) ?_
            exact p2 h3
      · refine itef (decide_eq_false ho) ?_
        have hout : isOut s.slot n (modu s.wrap n) = false := by
          unfold isOut
          rw [decide_eq_false ho, Bool.false_and]
        obtain ⟨p1, p2⟩ := plain hout
        walk_at "rd"
        refine r_i (by omega) ?_
        walk_at "rd"
        refine ite2 (fun h3 => ?_) (fun h3 => ?_)
        · walk_at "rd"
          exact p1 h3
        · walk_at "rd"
          refine r_i (by omega) ?_
          exact p2 h3
theorem em_lit (e : Em) : decide (V.str e.s = V.str "same") = decide (e = .same) := em_same e
def sp_law_cause (K : Fr) : Sp := fun vs H Q _ => ∃ (v : V) (s : Sc) (n : Int), vs = [v, .int n] ∧ LpAt H v s ∧ s.ok ∧ 1 ≤ n ∧ Q (.str (cause s n).s) H
abbrev n_law_cause : List Str := ["_law_parts_here", "_law_n", "_law_modulus_here", "_law_room_here", "_law_window_here"]
theorem sc_law_cause : FnScope n_law_cause ["_law_parts_here", "_law_n"] (defScope s_law_cause) := ⟨rfl, rfl, rfl, by decide +kernel, rfl, by decide +kernel, by decide +kernel⟩
theorem kp_law_cause (T : Tx K mg) : PySem.W.keepIn K (.ref (He.ga K "_law_cause")) = true := kp_of T.d_law_cause
theorem ok_law_cause (T : Tx K mg) : FnR P w K mg base CX0 2 (He.ga K "_law_cause") (sp_law_cause K) := by
  refine mk0 T.d_law_cause sc_law_cause (fun _ _ _ _ _ _ us hl => match us, hl with | [_, _], _ => rfl) (fun vs H Q E h => ?_) (fun cdv A outer s H vs Q E hr h => ?_)
  · obtain ⟨v, s, n, rfl, _⟩ := h
    rfl
  · obtain ⟨v, s, n, rfl, hv, hok, hn, k⟩ := h
    have hv' := hv
    obtain ⟨p, wv, fv, rfl, hp, hw, hf⟩ := hv'
    refine ⟨_, (pss_cons (ps_set (i := 2) sc_law_cause.nd rfl (Or.inl rfl) (pe_callR (ok_law_modulus T) (hr.mono (by decide)) rfl T.g_law_modulus (kp_law_modulus T) pass0 (pa_cons (pe_ix ix_tup (pv 0) pe_int (fun _ _ => rfl)) (pa_cons (pv 1) pa_nil))))
      (pss_cons (ps_if (pt_cmpR op_lt (pv 2) pe_int (nomark _)) (pss_one (ps_ret pe_str)) pss_nil)
      (pss_cons (ps_par (i := 3) (j := 4) (by rfl) sc_law_cause.nd rfl rfl (by decide) rfl rfl (pa_cons (pe_callR (ok_law_room T) (hr.mono (by decide)) rfl T.g_law_room (kp_law_room T) pass0 (pa_cons (pv 0) (pa_cons (pv 1) (pa_cons (pv 2) pa_nil)))) (pa_cons (pe_callR (ok_law_window T) (hr.mono (by decide)) rfl T.g_law_window (kp_law_window T) pass0 (pa_cons (pv 0) (pa_cons (pv 1) (pa_cons (pv 2) pa_nil)))) pa_nil)) (by rfl))
      (pss_cons (ps_if (pt_cmpR op_eq (pv 3) pe_int (nomark _)) (pss_one (ps_ret pe_str)) pss_nil)
      (pss_cons (ps_if (pt_cmpR op_eq (pv 4) pe_int (nomark _)) (pss_one (ps_ret pe_str)) pss_nil)
      (pss_cons (ps_if (PW.pt (pw_and (pt_cmpR op_eq (pe_ix ix_tup (pv 0) pe_int (fun _ _ => rfl)) pe_str (nomark _)) (pw_and1 (PW.pt (pw_or (pt_cmpR op_isN (pv 3) pe_non (nomark _)) (pw_or1 (pt_cmpR op_ge (pv 3) (pv 2) (nomark _)))))))) (pss_one (ps_ret pe_str)) pss_nil)
      (pss_cons (ps_if (PW.pt (pw_or (pt_cmpR op_isN (pv 3) pe_non (nomark _)) (pw_or1 (pt_cmpR op_gt (pv 3) (pv 4) (nomark _))))) (pss_one (ps_ret pe_str)) pss_nil)
      (pss_one (ps_ret pe_str))))))))), r_start (σ := [some (.ref p), some (.int n), none, none, none]) rfl ?_⟩
    walk_at "rd"
    refine r_ixT (SqT.of hp) (v := wv) (by rfl) ?_
    walk_at "rd"
    refine ⟨wv, s.wrap, n, rfl, hw, hok.wrap, ?_⟩
    walk_at "rd"
    unfold cause at k
    refine ite2 (fun h1 => ?_) (fun h1 => ?_)
    · have h1 : modu s.wrap n < 1 := of_decide_eq_true h1
      simp only [if_pos h1] at k
      walk_at "rd"
      exact k
    · have h1 : ¬ modu s.wrap n < 1 := fun z => h1 (decide_eq_true z)
      simp only [if_neg h1] at k
      walk_at "rd"
      refine r_par ?_
      walk_at "rd"
      refine ⟨_, s, n, modu s.wrap n, rfl, hv, hok, by omega, ?_⟩
      walk_at "rd"
      refine ⟨_, s, n, rfl, hv, hok, hn, by omega, ?_⟩
      walk_at "rd"
      refine ⟨_, _, rfl, ?_⟩
      dsimp only [List.set]
      generalize hr : room s.full s.when n (modu s.wrap n) = r at k ⊢
      have wz := win_zero hok.slot hn (show 1 ≤ modu s.wrap n by omega)
      obtain ⟨z1, z2⟩ := opt_zero r
      walk_at "rd"
      refine r_eq z1 ?_
      rw [z2]
      walk_at "rd"
      refine ite2 (fun h2 => ?_) (fun h2 => ?_)
      · have h2 : r = some 0 := of_decide_eq_true h2
        rw [if_pos h2] at k
        walk_at "rd"
        exact k
      · have h2 : ¬ r = some 0 := fun z => h2 (decide_eq_true z)
        rw [if_neg h2] at k
        walk_at "rd"
        rw [dec_int', wz]
        refine ite2 (fun h3 => ?_) (fun h3 => ?_)
        · rw [if_pos h3] at k
          walk_at "rd"
          exact k
        · rw [if_neg h3] at k
          walk_at "rd"
          refine r_ixT (SqT.of hp) (v := .str s.empty.s) (by rfl) ?_
          walk_at "rd"
          rw [em_same]
          have last : ∀ Q2 : Bool → Prop, Q2 (above r (win s.slot s.wrap n)) → (if decide (optV r = V.non) = true then Q2 true else (∃ i : Int, optV r = .int i ∧ Q2 (decide (win s.slot s.wrap n < i)))) := fun Q2 h => above_opt h
          cases r with
          | none =>
            by_cases h4 : s.empty = .same
            · refine itet (decide_eq_true h4) ?_
              walk_at "rd"
              refine itet (by decide) ?_
              walk_at "rd"
              rw [if_pos ⟨h4, rfl⟩] at k
              exact k
            · refine itef (decide_eq_false h4) ?_
              walk_at "rd"
              refine itet (by decide) ?_
              walk_at "rd"
              rw [if_neg (fun z => h4 z.1)] at k
              exact k
          | some i =>
            have hab : ∀ y, above (some i) y = decide (y < i) := fun y => rfl
            rw [hab, hab] at k
            by_cases h4 : s.empty = .same
            · refine itet (decide_eq_true h4) ?_
              walk_at "rd"
              refine itef (by exact decide_eq_false fun z => by cases z) ?_
              walk_at "rd"
              refine r_i0 ?_
              walk_at "rd"
              refine ite2 (fun h5 => ?_) (fun h5 => ?_)
              · have h5 : modu s.wrap n ≤ i := of_decide_eq_true h5
                walk_at "rd"
                rw [if_pos ⟨h4, decide_eq_true (by omega)⟩] at k
                exact k
              · have h5 : ¬ modu s.wrap n ≤ i := fun z => h5 (decide_eq_true z)
                rw [if_neg (fun z => h5 (by have := of_decide_eq_true z.2; omega))] at k
                walk_at "rd"
                refine itef (by exact decide_eq_false fun z => by cases z) ?_
                walk_at "rd"
                refine r_i0 ?_
                walk_at "rd"
                refine ite2 (fun h6 => ?_) (fun h6 => ?_)
                · walk_at "rd"
                  rw [if_pos h6] at k
                  exact k
                · walk_at "rd"
                  rw [if_neg h6] at k
                  exact k
            · refine itef (decide_eq_false h4) ?_
              rw [if_neg (fun z => h4 z.1)] at k
              walk_at "rd"
              refine itef (by exact decide_eq_false fun z => by cases z) ?_
              walk_at "rd"
              refine r_i0 ?_
              walk_at "rd"
              refine ite2 (fun h6 => ?_) (fun h6 => ?_)
              · walk_at "rd"
                rw [if_pos h6] at k
                exact k
              · walk_at "rd"
                rw [if_neg h6] at k
                exact k
end
end Ls
namespace Ls
open PySem PySem.Spec PyProof.Rows L2
/-! ### the law's own making -/
def sel (cs : List Ch) (r : List Int) : List Ch := r.map fun a => (cs[a.toNat]?).getD (.when .over)
theorem sel_at {cs : List Ch} {r : List Int} {i : Nat} {a : Int} {c : Ch} (h : r[i]? = some a) (hc : cs[a.toNat]? = some c) : (sel cs r)[i]? = some c := by
  unfold sel
  rw [List.getElem?_map, h]
  show some ((cs[a.toNat]?).getD _) = _
  rw [hc]
  rfl
theorem asc_mem {m : Nat} : ∀ {r : List Int} {last : Int}, ascOk m last r = true → -1 ≤ last → ∀ a ∈ r, 0 ≤ a ∧ a ≤ (m : Int) - 1
  | [], _, _, _, _, ha => by cases ha
  | x :: r, last, h, hl, a, ha => by
    unfold ascOk at h
    obtain ⟨h1, h2⟩ := Bool.and_eq_true_iff.mp h
    obtain ⟨h2, h3⟩ := Bool.and_eq_true_iff.mp h2
    have h1 := of_decide_eq_true h1
    have h2 := of_decide_eq_true h2
    rcases List.mem_cons.mp ha with rfl | ha
    · exact ⟨by omega, h2⟩
    · exact asc_mem h3 (by omega) a ha
theorem asc_len {m : Nat} : ∀ {r : List Int} {last : Int}, ascOk m last r = true → last ≤ (m : Int) - 1 → (r.length : Int) + last ≤ (m : Int) - 1
  | [], _, _, h => by simpa using h
  | x :: r, last, h, hl => by
    unfold ascOk at h
    obtain ⟨h1, h2⟩ := Bool.and_eq_true_iff.mp h
    obtain ⟨h2, h3⟩ := Bool.and_eq_true_iff.mp h2
    have h1 := of_decide_eq_true h1
    have h2 := of_decide_eq_true h2
    have := asc_len h3 h2
    rw [List.length_cons]
    omega
theorem picks_sel {cs : List Ch} : ∀ {r : List Int} {acc : List Ch}, (∀ a ∈ r, 0 ≤ a ∧ a ≤ (cs.length : Int) - 1) → (acc.map Ch.part).Nodup →
    picks cs acc r = if ((acc ++ sel cs r).map Ch.part).Nodup then some (acc ++ sel cs r) else none
  | [], acc, _, nd => by
    show some acc = _
    rw [show acc ++ sel cs [] = acc from List.append_nil acc, if_pos nd]
  | a :: r, acc, h, nd => by
    obtain ⟨h1, h2⟩ := h a List.mem_cons_self
    obtain ⟨c, hc⟩ : ∃ c, cs[a.toNat]? = some c := ⟨_, List.getElem?_eq_getElem (show a.toNat < cs.length by omega)⟩
    have es : acc ++ sel cs (a :: r) = (acc ++ [c]) ++ sel cs r := by
      rw [List.append_assoc]
      show acc ++ ((cs[a.toNat]?).getD _ :: sel cs r) = _
      rw [hc]
      rfl
    rw [picks_some hc, es]
    by_cases hb : (acc.any fun d => decide (d.part = c.part)) = true
    · rw [if_pos hb, if_neg fun z => ?_]
      obtain ⟨d, hd, e⟩ := List.any_eq_true.mp hb
      rw [List.map_append, List.nodup_append] at z
      have z := z.1
      rw [List.map_append, List.nodup_append] at z
      exact z.2.2 d.part (List.mem_map.mpr ⟨d, hd, rfl⟩) c.part (by simp) (of_decide_eq_true e)
    · rw [if_neg hb]
      refine picks_sel (fun x hx => h x (List.mem_cons_of_mem _ hx)) ?_
      rw [List.map_append, List.nodup_append]
      refine ⟨nd, by simp, fun x hx y hy e => hb ?_⟩
      obtain ⟨d, hd, rfl⟩ := List.mem_map.mp hx
      obtain rfl : y = c.part := by simpa using hy
      exact List.any_eq_true.mpr ⟨d, hd, decide_eq_true e⟩
theorem nodup_nm (cs : List Ch) : (cs.map Ch.nm).Nodup ↔ (cs.map Ch.part).Nodup := by
  refine ⟨fun h => ?_, nm_nodup⟩
  induction cs with
  | nil => exact List.nodup_nil
  | cons c cs ih =>
    rw [List.map_cons, List.nodup_cons] at h ⊢
    refine ⟨fun z => h.1 ?_, ih h.2⟩
    obtain ⟨d, hd, e⟩ := List.mem_map.mp z
    exact List.mem_map.mpr ⟨d, hd, by unfold Ch.nm; rw [e]⟩
/-- the drawn parts, as a row -/
def RepL (H : Hp) (ys : List V) (s : Sc) : Prop := ∃ wv fv, ys = [wv, .str s.slot.s, .str s.empty.s, fv, .str s.when.s] ∧ LwAt H wv s.wrap ∧ LfAt H fv s.full
theorem RepL.kt {H H' : Hp} {ys : List V} {s : Sc} (e : Kt H H') (h : RepL H ys s) : RepL H' ys s := let ⟨wv, fv, h1, h2, h3⟩ := h; ⟨wv, fv, h1, h2.kt e, h3.kt e⟩
theorem RepL.len {H : Hp} {ys : List V} {s : Sc} (h : RepL H ys s) : ys.length = 5 := by
  obtain ⟨wv, fv, rfl, _⟩ := h
  rfl
theorem RepL.set {H : Hp} {ys : List V} {s : Sc} {c : Ch} {y : V} (h : RepL H ys s) (hy : LV H y c) : RepL H (ys.set c.part y) (s.set c) := by
  obtain ⟨wv, fv, rfl, h2, h3⟩ := h
  cases c with
  | wrap w => exact ⟨y, fv, rfl, hy, h3⟩
  | slot x =>
    obtain rfl : y = .str x.s := hy
    exact ⟨wv, fv, rfl, h2, h3⟩
  | empty x =>
    obtain rfl : y = .str x.s := hy
    exact ⟨wv, fv, rfl, h2, h3⟩
  | full f => exact ⟨wv, y, rfl, h2, hy⟩
  | «when» x =>
    obtain rfl : y = .str x.s := hy
    exact ⟨wv, fv, rfl, h2, h3⟩
theorem setAll_take {s : Sc} {l : List Ch} {i : Nat} {c : Ch} (h : l[i]? = some c) : setAll s (l.take (i + 1)) = (setAll s (l.take i)).set c := by
  unfold setAll
  rw [List.take_add_one, h, List.foldl_append]
  rfl
theorem kt_lst {H : Hp} {a : Addr} {xs ys : List V} (h : H a = some (.lst xs)) : Kt H (upd H a (.lst ys)) := fun c zs e => by
  rw [upd_ne (fun z => by rw [z, h] at e; cases e)]
  exact e
abbrev nmL : List V := [.str "wrap", .str "slot", .str "empty", .str "full", .str "when"]
theorem nm_at (c : Ch) : nmL[c.part]? = some (.str c.nm) := by
  cases c <;> rfl
theorem nm_first (c : Ch) : ∀ (m : Nat) (z : V), m < c.part → nmL[m]? = some z → eqV z (.str c.nm) = false := by
  have h : ∀ i : Fin 5, ∀ m : Fin 5, m.val < i.val → eqV (nmL[m.val]?.getD .non) (.str (pname i.val)) = false := by decide +kernel
  intro m z hm hz
  have := part_lt c
  have q := h ⟨c.part, this⟩ ⟨m, by omega⟩ hm
  rw [hz] at q
  exact q
theorem r_gsub {to ti : TE} {t : TSet} {v : V} {σ : L2.St} {H : Hp} {N : L2.St → Hp → Prop} (h : to σ H fun o H1 => ti σ H1 fun i H2 => t o i v H2 fun H3 => N σ H3) : gSub to ti t v σ H N := h
theorem r_setL {p : Addr} {k : Int} {v : V} {H : Hp} {xs : List V} {j : Nat} {N : Hp → Prop} (hp : H p = some (.lst xs)) (hj : ixN xs.length k = some j) (q : N (upd H p (.lst (xs.set j v)))) : rSetL (.ref p) (.int k) v H N := ⟨p, xs, k, j, rfl, rfl, hp, hj, q⟩
theorem r_lens {K : Fr} {ta : TE} {σ : L2.St} {H : Hp} {Q : VK} (h : ta σ H fun x H1 => ∃ (l : Addr) (xs : List Str), x = .ref l ∧ SqL K H1 l (xs.map V.str) ∧ xs.length < 4000 ∧ Q (.int (uq [] xs).length) H1) : tLenSetS K ta σ H Q := h
section
variable {w : World} {K : Fr} {mg : Str → Option Value} {base : Heap}
def sp_law_made (K : Fr) : Sp := fun vs H Q _ => ∃ (v : V) (l p : Addr) (s : Sc) (xs : List V) (cs : List Ch) (r : List Int), vs = [v, .ref l, .ref p] ∧ LpAt H v s ∧ s.ok ∧ H l = some (.lst xs) ∧ LcsAt H xs cs ∧ (∀ c ∈ cs, c.ok) ∧ cs.length ≤ 6 ∧
  H p = some (.lst (r.map V.int)) ∧ ascOk cs.length (-1) r = true ∧ (made s cs r = none → ∀ H', Same H H' → Q .non H') ∧ (∀ s', made s cs r = some s' → ∀ q H', Same H H' → LpAt H' (.ref q) s' → s'.ok → Q (.ref q) H')
abbrev n_law_made : List Str := ["_law_parts_here", "_law_changes", "_law_indexes", "_law_names", "_law_found", "_law_chosen", "_law_at"]
theorem sc_law_made : FnScope n_law_made ["_law_parts_here", "_law_changes", "_law_indexes"] (defScope s_law_made) := ⟨rfl, rfl, rfl, by decide +kernel, rfl, by decide +kernel, by decide +kernel⟩
theorem kp_law_made (T : Tx K mg) : PySem.W.keepIn K (.ref (He.ga K "_law_made")) = true := kp_of T.d_law_made
theorem ok_law_made (T : Tx K mg) : FnR P w K mg base CX0 1 (He.ga K "_law_made") (sp_law_made K) := by
  refine mk0 T.d_law_made sc_law_made (fun _ _ _ _ _ _ us hl => match us, hl with | [_, _, _], _ => rfl) (fun vs H Q E h => ?_) (fun cdv A outer s H vs Q E hr h => ?_)
  · obtain ⟨v, l, p, s, xs, cs, r, rfl, _⟩ := h
    rfl
  · obtain ⟨v, l, p, s, xs, cs, r, rfl, hv, hok, hl, hcs, hco, hle, hp, hasc, k1, k2⟩ := h
    obtain ⟨pp, wv, fv, rfl, hpp, hwv, hfv⟩ := hv
    have hmem := asc_mem hasc (by decide)
    have hlen := asc_len hasc (by omega)
    have hps := picks_sel (acc := []) hmem List.nodup_nil
    rw [List.nil_append] at hps
    have atI6 : ∀ {i : Nat} {z : Int}, r[i]? = some z → ∃ c, cs[z.toNat]? = some c ∧ (sel cs r)[i]? = some c ∧ c.ok ∧ ∃ t y, xs[z.toNat]? = some (.ref t) ∧ atI xs z = some (.ref t) ∧ H t = some (.tup [.str c.nm, y]) ∧ LV H y c := fun {i z} hz => by
      obtain ⟨z1, z2⟩ := hmem z (List.mem_of_getElem? hz)
      obtain ⟨c, hc⟩ : ∃ c, cs[z.toNat]? = some c := ⟨_, List.getElem?_eq_getElem (show z.toNat < cs.length by omega)⟩
      obtain ⟨v1, hv1, ⟨t, y, rfl, ht, hy⟩⟩ := hcs.2 _ _ hc
      exact ⟨c, hc, sel_at hz hc, hco c (List.mem_of_getElem? hc), t, y, hv1, row_at xs z1 hv1, ht, hy⟩
    refine ⟨_, (pss_cons (ps_set (i := 3) sc_law_made.nd rfl (Or.inl rfl) (pe_lst (pa_cons pe_str (pa_cons pe_str (pa_cons pe_str (pa_cons pe_str (pa_cons pe_str pa_nil)))))))
      (pss_cons (ps_set (i := 4) sc_law_made.nd rfl (Or.inl rfl) (pe_callTy call_list_of (by rfl) T.f_list (by decide +kernel) (pa_cons (pv 0) pa_nil)))
      (pss_cons (ps_setLc (i := 5) (own := [("_law_at", 6)]) (g := gName 6) (tt := tYes) rfl sc_law_made.nd rfl rfl (sw_true rfl rfl rfl (by decide +kernel)) (pi_list (pv 2)) (blkOk_by (N := n_law_made) (sc := defScope s_law_made) (by decide +kernel)) (fun _ _ _ _ _ => (pg_name (i := 6) sc_law_made.nd rfl (Or.inl rfl))) (fun _ _ _ _ _ => pts_nil) (fun _ _ _ _ _ => (pe_ix (ixK (r := rIxT) K rfl ix_tup) (pe_ix (ixK (r := rIxL) K rfl ix_list) (pv 1) (pv 6) (fun _ _ => rfl)) pe_int (fun _ _ => rfl))))
      (pss_cons (ps_if (pt_cmpR op_lt (pe_lenSetS rfl (by rfl) T.f_len (by rfl) T.f_set (pv 5)) (pe_callB call_len_seq (by rfl) T.f_len PySem.boot_len (pa_cons (pv 5) pa_nil)) (nomark _)) (pss_one (ps_ret pe_non)) pss_nil)
      (pss_cons (ps_for PassesOwn.never rfl (pi_list (pv 2)) (pg_name (i := 6) sc_law_made.nd rfl (Or.inl rfl)) (pss_one (ps_asg (pe_ix ix_tup (pe_ix ix_list (pv 1) (pv 6) (fun _ _ => rfl)) pe_int (fun _ _ => rfl)) (pg_sub (pv 4) (pe_bm PySem.F.plainAttrs_list PySem.F.slot_list_index PySem.F.type_list_index mt_index (pv 3) (pa_cons (pe_ix ix_tup (pe_ix ix_list (pv 1) (pv 6) (fun _ _ => rfl)) pe_int (fun _ _ => rfl)) pa_nil)) set_list))))
      (pss_cons (ps_if (PW.pt (pw_and (pt_cmpR op_eq (pe_ix ix_list (pv 4) pe_int (fun _ _ => rfl)) pe_str (nomark _)) (pw_and1 (pt_val (pe_callB call_isi (by rfl) T.f_isinstance (by decide +kernel) (pa_cons (pe_ix ix_list (pv 4) pe_int (fun _ _ => rfl)) (pa_cons (pe_bltn (v := .ty "tuple") (u := .type "tuple") (by rfl) T.f_tuple (by decide +kernel) rfl) pa_nil))))))) (pss_one (ps_ret pe_non)) pss_nil)
      (pss_one (ps_ret (pe_callTy call_tuple_of (by rfl) T.f_tuple (by decide +kernel) (pa_cons (pv 4) pa_nil)))))))))), r_start (σ := [some (.ref pp), some (.ref l), some (.ref p), none, none, none, none]) rfl ?_⟩
    walk_at "rd"
    intro pn npn
    have s1 := same_new (o := .lst nmL) npn
    have gn : upd H pn (HO.lst nmL) pn = some (.lst nmL) := upd_same
    generalize upd H pn (HO.lst nmL) = H1 at s1 gn ⊢
    walk_at "rd"
    refine ⟨pp, _, rfl, .inr (SqT.of (s1 _ _ hpp)), fun pf npf => ?_⟩
    have s2 := same_new2 (o := .lst [wv, .str s.slot.s, .str s.empty.s, fv, .str s.when.s]) s1 npf
    have gn2 := same_new (o := .lst [wv, .str s.slot.s, .str s.empty.s, fv, .str s.when.s]) npf _ _ gn
    have gf : upd H1 pf (HO.lst [wv, .str s.slot.s, .str s.empty.s, fv, .str s.when.s]) pf = some (.lst [wv, .str s.slot.s, .str s.empty.s, fv, .str s.when.s]) := upd_same
    have nfn : pf ≠ pn := fun z => by
      rw [z, gn] at npf
      cases npf
    have nfH : H pf = none := free_of s1 npf
    generalize upd H1 pf (HO.lst [wv, .str s.slot.s, .str s.empty.s, fv, .str s.when.s]) = H2 at s2 gn2 gf ⊢
    clear gn npf s1
    walk_at "rd"
    refine ⟨.ref p, rfl, p, rfl, ⟨r.map V.int, SqL.of (s2 _ _ hp)⟩, fun D nD => ?_⟩
    refine lc_list (xs := r.map V.int) (fun i Hx => Hx D = some (.lst (((sel cs r).take i).map fun c => V.str c.nm)) ∧ Same H2 Hx) ⟨upd_same, same_new nD⟩ (fun i Hx _ h => SqL.of (h.2 _ _ (s2 _ _ hp))) ?_ ?_
    · rintro i v Hx hi ⟨hD, e⟩
      obtain ⟨z, hz, rfl⟩ : ∃ z, r[i]? = some z ∧ v = V.int z := by
        rw [List.getElem?_map] at hi
        cases hr : r[i]? with
        | none => rw [hr] at hi; cases hi
        | some z => rw [hr] at hi; exact ⟨z, rfl, (Option.some.inj hi).symm⟩
      obtain ⟨c, hc, hsc, hcok, t, y, hv1, hat, ht, hy⟩ := atI6 hz
      refine ⟨rfl, ?_⟩
      refine r_yes ?_
      refine itet rfl ?_
      show tOp (rIxT K) (tOp (rIxL K) (tVar 1) (tVar 6)) (tC (.int 0)) [some (.ref pp), some (.ref l), some (.ref p), some (.ref pn), some (.ref pf), none, some (.int z)] Hx _
      walk_at "rd"
      refine r_ixL (SqL.of (e _ _ (s2 _ _ hl))) hat ?_
      walk_at "rd"
      refine r_ixT (SqT.of (e _ _ (s2 _ _ ht))) (v := .str c.nm) (by rfl) ?_
      walk_at "rd"
      refine ⟨_, hD, ?_, upd_same.trans ?_, fun b o h => ?_⟩
      · rw [List.length_map, List.length_take]
        have : (sel cs r).length = r.length := List.length_map _
        exact small1000 (by omega)
      · rw [List.take_add_one, hsc, List.map_append]
        rfl
      · rw [upd_ne (ne_of_none h nD)]
        exact e _ _ h
    · rintro Hx ⟨hD, e⟩
      have hsl : (sel cs r).length = r.length := List.length_map _
      rw [List.length_map, ← hsl, List.take_length] at hD
      have s3 := s2.trans e
      walk_at "rd"
      refine r_lens ?_
      walk_at "rd"
      have hD2 : Hx D = some (.lst (((sel cs r).map Ch.nm).map V.str)) := by
        rw [hD, List.map_map]
        rfl
      have lnm : ((sel cs r).map Ch.nm).length = r.length := by rw [List.length_map, hsl]
      refine ⟨D, _, rfl, SqL.of hD2, by omega, ?_⟩
      walk_at "rd"
      refine ⟨_, _, rfl, .inl (SqL.of hD), ?_⟩
      walk_at "rd"
      have hu1 := uq_le ((sel cs r).map Ch.nm) []
      have hu2 := uq_full ((sel cs r).map Ch.nm) [] List.nodup_nil
      rw [List.nil_append, nodup_nm, List.length_nil, Nat.zero_add] at hu2
      rw [List.length_nil, Nat.zero_add] at hu1
      have hl3 : ((sel cs r).map fun c => V.str c.nm).length = r.length := by rw [List.length_map, hsl]
      rw [hl3]
      rw [lnm] at hu1 hu2
      refine ite2 (fun h1 => ?_) (fun h1 => ?_)
      · have h1 := of_decide_eq_true h1
        walk_at "rd"
        refine k1 ?_ _ s3
        unfold made
        rw [hps, if_neg fun z => ?_]
        have := hu2.mpr z
        omega
      · have h1 : ¬ _ := fun z => h1 (decide_eq_true z)
        have nd : ((sel cs r).map Ch.part).Nodup := hu2.mp (by omega)
        rw [if_pos nd] at hps
        have hmd : made s cs r = if slOk (setAll s (sel cs r)).slot (setAll s (sel cs r)).wrap = true then some (setAll s (sel cs r)) else none := by
          unfold made
          rw [hps]
        have hcok : ∀ c ∈ sel cs r, c.ok := fun c hc => by
          obtain ⟨i, hi⟩ := List.getElem?_of_mem hc
          obtain ⟨z, hz⟩ : ∃ z, r[i]? = some z := ⟨_, List.getElem?_eq_getElem (by rw [← hsl]; exact (List.getElem?_eq_some_iff.mp hi).1)⟩
          obtain ⟨c2, _, h2, h3, _⟩ := atI6 hz
          rw [hi] at h2
          cases h2
          exact h3
        obtain ⟨w1, w2⟩ := setAll_ok (cs := sel cs r) ⟨hok.wrap, hok.full⟩ hcok
        have gn3 := e _ _ gn2
        have gf3 := e _ _ gf
        clear gn2 gf hD hD2 hu1 hu2 nD
        walk_at "rd"
        refine ⟨.ref p, rfl, p, rfl, ⟨r.map V.int, SqL.of (s3 _ _ hp)⟩, for_list (xs := r.map V.int) (fun i σ H' => ∃ (a : Option V) (ys : List V), σ = [some (.ref pp), some (.ref l), some (.ref p), some (.ref pn), some (.ref pf), some (.ref D), a] ∧
          Same H H' ∧ H' pn = some (.lst nmL) ∧ H' pf = some (.lst ys) ∧ RepL H' ys (setAll s ((sel cs r).take i))) ?_ (fun i σ H' _ ⟨_, _, _, e, _⟩ => SqL.of (e _ _ hp)) ?_ ?_⟩
        · exact ⟨_, _, rfl, s3, gn3, gf3, wv, fv, rfl, hwv.kt (Kt.of s3), hfv.kt (Kt.of s3)⟩
        · rintro i v σ H' hi ⟨a, ys, rfl, e', hn', hf', hr'⟩
          obtain ⟨z, hz, rfl⟩ : ∃ z, r[i]? = some z ∧ v = V.int z := by
            rw [List.getElem?_map] at hi
            cases hr : r[i]? with
            | none => rw [hr] at hi; cases hi
            | some z => rw [hr] at hi; exact ⟨z, rfl, (Option.some.inj hi).symm⟩
          obtain ⟨c, hc, hsc, hcok, t, y, hv1, hat, ht, hy⟩ := atI6 hz
          walk_at "rd"
          refine r_ixL (SqL.of (e' _ _ hl)) hat ?_
          walk_at "rd"
          refine r_ixT (SqT.of (e' _ _ ht)) (v := y) (by rfl) ?_
          walk_at "rd"
          refine r_gsub ?_
          walk_at "rd"
          refine r_bm ?_
          walk_at "rd"
          refine ⟨ty_lst (SqL.of hn'), ?_⟩
          walk_at "rd"
          refine r_ixL (SqL.of (e' _ _ hl)) hat ?_
          walk_at "rd"
          refine r_ixT (SqT.of (e' _ _ ht)) (v := .str c.nm) (by rfl) ?_
          walk_at "rd"
          refine ⟨pn, nmL, .str c.nm, c.part, .str c.nm, rfl, rfl, SqL.of hn', rfl, rfl, nm_at c, by simp [eqV], nm_first c, ?_⟩
          have hp5 := part_lt c
          refine r_setL hf' (j := c.part) (by rw [hr'.len]; unfold ixN; rw [if_pos (by omega), if_pos (by omega)]; rfl) ?_
          walk_at "rd"
          refine ⟨_, _, rfl, same_upd e' nfH, by rw [upd_ne (Ne.symm nfn)]; exact hn', upd_same, ?_⟩
          rw [setAll_take hsc]
          exact (hr'.kt (kt_lst hf')).set ((hy.kt (Kt.of e')).kt (kt_lst hf'))
        · rintro σ H' ⟨a, ys, rfl, e', hn', hf', hr'⟩
          rw [List.length_map, ← hsl, List.take_length] at hr'
          obtain ⟨wv', fv', rfl, hw', hfu'⟩ := hr'
          generalize setAll s (sel cs r) = s' at hw' hfu' hmd w1 w2 hf' ⊢
          walk_at "rd"
          refine r_ixL (SqL.of hf') (v := .str s'.slot.s) (by rfl) ?_
          walk_at "rd"
          rw [sl_mask]
          have fin : made s cs r = some s' → ∀ q, H' q = none → Q (.ref q) (upd H' q (.tup [wv', .str s'.slot.s, .str s'.empty.s, fv', .str s'.when.s])) := fun hm q nq => by
            have e2 := same_new (o := .tup [wv', .str s'.slot.s, .str s'.empty.s, fv', .str s'.when.s]) nq
            refine k2 s' hm q _ (e'.trans e2) ⟨q, wv', fv', rfl, upd_same, hw'.kt (Kt.of e2), hfu'.kt (Kt.of e2)⟩ ⟨w1, w2, ?_⟩
            rw [hm] at hmd
            by_cases hs : slOk s'.slot s'.wrap = true
            · exact hs
            · rw [if_neg hs] at hmd
              cases hmd
          by_cases hm : s'.slot = .mask
          · refine itet (decide_eq_true hm) ?_
            walk_at "rd"
            refine r_ixL (SqL.of hf') (v := wv') (by rfl) ?_
            walk_at "rd"
            cases hwr : s'.wrap with
            | wid i =>
              rw [hwr] at hw'
              obtain rfl : wv' = .int i := hw'
              refine r_isi (.ty "tuple") (.base (.int i)) (b := false) (kit_ty (by decide +kernel)) ?_
              walk_at "rd"
              refine ⟨pf, _, rfl, .inl ⟨SqL.of hf', fin ?_⟩⟩
              rw [hmd, hwr, hm]
              rfl
            | frm x y =>
              rw [hwr] at hw'
              obtain ⟨q, rfl, hq⟩ := hw'
              refine r_isi (.ty "tuple") (.base (.tup hq)) (b := true) (kit_ty (by decide +kernel)) ?_
              walk_at "rd"
              refine k1 ?_ _ e'
              rw [hmd, hwr, hm]
              rfl
          · refine itef (decide_eq_false hm) ?_
            walk_at "rd"
            refine ⟨pf, _, rfl, .inl ⟨SqL.of hf', fin ?_⟩⟩
            rw [hmd]
            unfold slOk
            cases hs : s'.slot with
            | mask => exact absurd hs hm
            | rest => rfl
            | off => rfl
end
end Ls
namespace Ls
open PySem PySem.Spec PyProof.Rows L2
/-! ### the law's own sets -/
def lawSets : Nat → List (List Int)
  | 0 => [[]]
  | m + 1 => lawSets m ++ (lawSets m).map fun r => r ++ [(m : Int)]
theorem lsets_facts : ∀ m : Fin 7, (lawSets m.val).length ≤ 64 ∧ ∀ r ∈ lawSets m.val, ascOk m.val (-1) r = true ∧ r.length ≤ 6 := by decide +kernel
def lawGood (s : Sc) (cs : List Ch) (n : Int) : List (List Int) := (lawSets cs.length).filter (good s cs n)
def inner (rs : List (List Int)) (r : List Int) : List (List Int) := rs.filter fun o => !decide (o = r) && inside o r
def lawLeast (s : Sc) (cs : List Ch) (n : Int) : List (List Int) := (lawGood s cs n).filter fun r => decide (inner (lawGood s cs n) r = [])
theorem ca_right (c : Ca) : decide (V.str c.s = V.str "right") = decide (c = .right) := by cases c <;> decide +kernel
section
variable {w : World} {K : Fr} {mg : Str → Option Value} {base : Heap}
abbrev AnyA : Addr → Prop := fun _ => True
def sp_law_sets (K : Fr) : Sp := fun vs H Q _ => ∃ m : Nat, vs = [.int m] ∧ m ≤ 6 ∧ ∀ l xs H', Same H H' → H' l = some (.lst xs) → RowsAt AnyA H' xs (lawSets m) → Q (.ref l) H'
abbrev n_law_sets : List Str := ["_law_many", "_law_rows", "_law_at", "_law_row"]
theorem sc_law_sets : FnScope n_law_sets ["_law_many"] (defScope s_law_sets) := ⟨rfl, rfl, rfl, by decide +kernel, rfl, by decide +kernel, by decide +kernel⟩
theorem kp_law_sets (T : Tx K mg) : PySem.W.keepIn K (.ref (He.ga K "_law_sets")) = true := kp_of T.d_law_sets
theorem ok_law_sets (T : Tx K mg) : FnR P w K mg base CX0 1 (He.ga K "_law_sets") (sp_law_sets K) := by
  refine mk0 T.d_law_sets sc_law_sets (fun _ _ _ _ _ _ us hl => match us, hl with | [_], _ => rfl) (fun vs H Q E h => ?_) (fun cdv A outer s H vs Q E hr h => ?_)
  · obtain ⟨m, rfl, _⟩ := h
    rfl
  · obtain ⟨m, rfl, hm, k⟩ := h
    refine ⟨_, (pss_cons (ps_set (i := 1) sc_law_sets.nd rfl (Or.inl rfl) (pe_lst (pa_cons (pe_lst pa_nil) pa_nil)))
      (pss_cons (ps_for PassesOwn.never rfl (pi_range1 rfl T.f_range (pa_cons (pv 0) pa_nil)) (pg_name (i := 2) sc_law_sets.nd rfl (Or.inr rfl)) (pss_one (ps_set (i := 1) sc_law_sets.nd rfl (Or.inl rfl) (pe_op op_cat (pv 1) (pe_lc (own := [("_law_row", 3)]) (g := gName 3) (tt := tYes) rfl sc_law_sets.nd (pi_list (pv 1)) (blkOk_by (N := n_law_sets) (sc := defScope s_law_sets) (by decide +kernel)) (fun _ _ _ _ _ => (pg_name (i := 3) sc_law_sets.nd rfl (Or.inl rfl))) (fun _ _ _ _ _ => pts_nil) (fun _ _ _ _ _ => (pe_op op_cat (pv 3) (pe_lst (pa_cons (pv 2) pa_nil)))))))))
      (pss_one (ps_ret (pv 1))))), r_start (σ := [some (.int m), none, none, none]) rfl ?_⟩
    walk_at "rd"
    intro p1 n1
    walk_at "rd"
    intro l1 m1
    walk_at "rd"
    have e2 := same_new2 (o := .lst [.ref p1]) (same_new (H := H) (o := .lst []) n1) m1
    have h1 : upd (upd H p1 (.lst [])) l1 (.lst [.ref p1]) p1 = some (.lst []) := same_new m1 _ _ upd_same
    refine ⟨.int m, rfl, (m : Int), rfl, by omega, by omega, for_range (fun i σ H' => ∃ (l : Addr) (xs : List V) (a b : Option V), σ = [some (.int m), some (.ref l), a, b] ∧ Same H H' ∧ H' l = some (.lst xs) ∧ RowsAt AnyA H' xs (lawSets i)) ?_ ?_ ?_⟩
    · exact ⟨l1, _, _, _, rfl, e2, upd_same, .one trivial h1⟩
    · rintro i σ H' hi ⟨l, xs, a, b, rfl, e, hl, rs⟩
      have hi : i < m := by omega
      obtain ⟨f1, f2⟩ := lsets_facts ⟨i, by omega⟩
      have f1 : (lawSets i).length ≤ 64 := f1
      have f2 : ∀ r ∈ lawSets i, _ ∧ r.length ≤ 6 := f2
      simp only [Int.zero_add]
      walk_at "rd"
      refine ⟨.ref l, rfl, l, rfl, ⟨xs, SqL.of hl⟩, fun D nD => ?_⟩
      refine lc_list (xs := xs) (fun j Hy => ∃ acc, Hy D = some (.lst acc) ∧ RowsAt (fun p => p ≠ D) Hy acc (((lawSets i).take j).map fun r => r ++ [(i : Int)]) ∧ Same H' Hy) ⟨[], upd_same, .nil, same_new nD⟩ (fun j Hy _ ⟨_, _, _, ey⟩ => SqL.of (ey _ _ hl)) ?_ ?_
      · rintro j v Hy hj ⟨acc, hacc, racc, ey⟩
        obtain ⟨p, r, rfl, hr, _, hp⟩ := rs.at_ hj
        have hr6 := (f2 r (List.mem_of_getElem? hr)).2
        refine ⟨rfl, ?_⟩
        refine r_yes ?_
        refine itet rfl ?_
        show tOp rCat (tVar 3) (tLst (tCons (tVar 2) tNil)) [some (.int m), some (.ref l), some (.int i), some (.ref p)] Hy _
        walk_at "rd"
        intro y ny
        have hpy := ey _ _ hp
        refine ⟨p, y, _, _, rfl, rfl, same_new ny _ _ hpy, upd_same, small64 (by rw [List.length_map]; show _ + 1 ≤ 1000; omega), fun z nz => ?_⟩
        have nzD : z ≠ D := fun q => by
          rw [q, same_new ny _ _ hacc] at nz
          cases nz
        have ec : Same Hy (upd (upd Hy y (.lst [.int (i : Int)])) z (.lst (r.map V.int ++ [.int (i : Int)]))) := same_new2 (same_new ny) nz
        refine ⟨acc, ec _ _ hacc, small1000 (by
          have := racc.len
          rw [List.length_map, List.length_take] at this
          omega), _, upd_same, ?_, ?_⟩
        · rw [List.take_add_one, hr, List.map_append]
          refine ((racc.same ec).put fun p q => q).app (.one nzD ?_)
          rw [upd_ne nzD, upd_same, List.map_append]
          rfl
        · exact fun c o q => by
            have q1 := ec _ _ (ey _ _ q)
            rw [upd_ne (ne_of_none q nD)]
            exact q1
      · rintro Hy ⟨acc, hacc, racc, ey⟩
        rw [rs.len, List.take_length] at racc
        refine ⟨l, D, _, _, rfl, rfl, ey _ _ hl, hacc, small64 (by
          have q1 := rs.len
          have q2 := racc.len
          rw [List.length_map] at q2
          omega), fun z nz => ?_⟩
        have ez : Same Hy (upd Hy z (.lst (xs ++ acc))) := same_new nz
        walk_at "rd"
        exact ⟨z, _, _, _, rfl, (e.trans ey).trans ez, upd_same, ((rs.same ey).same ez).app ((racc.weak fun _ _ => trivial).same ez)⟩
    · rintro σ H' ⟨l, xs, a, b, rfl, e, hl, rs⟩
      walk_at "rd"
      exact k l xs H' e hl rs
def sp_law_reaches (K : Fr) : Sp := fun vs H Q _ => ∃ (v : V) (l p : Addr) (s : Sc) (xs : List V) (cs : List Ch) (r : List Int) (n : Int), vs = [v, .ref l, .ref p, .int n] ∧ LpAt H v s ∧ s.ok ∧ H l = some (.lst xs) ∧ LcsAt H xs cs ∧ (∀ c ∈ cs, c.ok) ∧ cs.length ≤ 6 ∧
  H p = some (.lst (r.map V.int)) ∧ ascOk cs.length (-1) r = true ∧ 1 ≤ n ∧ ∀ H', Same H H' → Q (.bl (good s cs n r)) H'
abbrev n_law_reaches : List Str := ["_law_parts_here", "_law_changes", "_law_indexes", "_law_n", "_law_found"]
theorem sc_law_reaches : FnScope n_law_reaches ["_law_parts_here", "_law_changes", "_law_indexes", "_law_n"] (defScope s_law_reaches) := ⟨rfl, rfl, rfl, by decide +kernel, rfl, by decide +kernel, by decide +kernel⟩
theorem kp_law_reaches (T : Tx K mg) : PySem.W.keepIn K (.ref (He.ga K "_law_reaches")) = true := kp_of T.d_law_reaches
theorem ok_law_reaches (T : Tx K mg) : FnR P w K mg base CX0 3 (He.ga K "_law_reaches") (sp_law_reaches K) := by
  refine mk0 T.d_law_reaches sc_law_reaches (fun _ _ _ _ _ _ us hl => match us, hl with | [_, _, _, _], _ => rfl) (fun vs H Q E h => ?_) (fun cdv A outer s H vs Q E hr h => ?_)
  · obtain ⟨v, l, p, s, xs, cs, r, n, rfl, _⟩ := h
    rfl
  · obtain ⟨v, l, p, s, xs, cs, r, n, rfl, hv, hok, hl, hcs, hco, hle, hp, hasc, hn, k⟩ := h
    refine ⟨_, (pss_cons (ps_set (i := 4) sc_law_reaches.nd rfl (Or.inl rfl) (pe_callR (ok_law_made T) (hr.mono (by decide)) rfl T.g_law_made (kp_law_made T) pass0 (pa_cons (pv 0) (pa_cons (pv 1) (pa_cons (pv 2) pa_nil)))))
      (pss_one (ps_ret (pe_and (pe_cmpR op_notN (pv 4) pe_non (nomark _)) (pe_one (pe_cmpR op_eq (pe_callR (ok_law_cause T) (hr.mono (by decide)) rfl T.g_law_cause (kp_law_cause T) pass0 (pa_cons (pv 4) (pa_cons (pv 3) pa_nil))) pe_str (nomark _))))))), r_start (σ := [some v, some (.ref l), some (.ref p), some (.int n), none]) rfl ?_⟩
    walk_at "rd"
    refine ⟨v, l, p, s, xs, cs, r, rfl, hv, hok, hl, hcs, hco, hle, hp, hasc, fun hmd H' e => ?_, fun s' hmd q H' e hq hok' => ?_⟩
    · walk_at "rd"
      have hg : good s cs n r = false := by
        unfold good
        rw [hmd]
      rw [hg] at k
      exact k H' e
    · have hg : good s cs n r = right s' n := by
        unfold good
        rw [hmd]
      rw [hg] at k
      walk_at "rd"
      refine itet (by exact (by rw [decide_eq_false fun z => by cases z]; rfl)) ?_
      walk_at "rd"
      refine ⟨.ref q, s', n, rfl, hq, hok', hn, ?_⟩
      walk_at "rd"
      rw [ca_right]
      exact k H' e
end
end Ls
namespace Ls
open PySem PySem.Spec PyProof.Rows L2
theorem lcFirst {K : Fr} {tl : TE} {g : TG} {tt : TT} {te : TE} {vs : List Nat} {σ : L2.St} {H : Hp} {Q : VK} (h : tl σ H fun x H1 => tLc (iList K (tC x)) g tt te vs σ H1 Q) : tLc (iList K tl) g tt te vs σ H Q := h
section
variable {w : World} {K : Fr} {mg : Str → Option Value} {base : Heap}
def sp_law_least (K : Fr) : Sp := fun vs H Q _ => ∃ (v : V) (l : Addr) (s : Sc) (xs : List V) (cs : List Ch) (n : Int), vs = [v, .ref l, .int n] ∧ LpAt H v s ∧ s.ok ∧ H l = some (.lst xs) ∧ LcsAt H xs cs ∧ (∀ c ∈ cs, c.ok) ∧ cs.length ≤ 6 ∧ 1 ≤ n ∧
  ∀ q ys H', Same H H' → H' q = some (.lst ys) → RowsAt AnyA H' ys (lawLeast s cs n) → Q (.ref q) H'
abbrev n_law_least : List Str := ["_law_parts_here", "_law_changes", "_law_n", "_law_good", "_law_least_here", "_law_row", "_law_inner", "_law_other", "_law_at"]
theorem sc_law_least : FnScope n_law_least ["_law_parts_here", "_law_changes", "_law_n"] (defScope s_law_least) := ⟨rfl, rfl, rfl, by decide +kernel, rfl, by decide +kernel, by decide +kernel⟩
theorem kp_law_least (T : Tx K mg) : PySem.W.keepIn K (.ref (He.ga K "_law_least")) = true := kp_of T.d_law_least
theorem ok_law_least (T : Tx K mg) : FnR P w K mg base CX0 4 (He.ga K "_law_least") (sp_law_least K) := by
  refine mk0 T.d_law_least sc_law_least (fun _ _ _ _ _ _ us hl => match us, hl with | [_, _, _], _ => rfl) (fun vs H Q E h => ?_) (fun cdv A outer s H vs Q E hr h => ?_)
  · obtain ⟨v, l, s, xs, cs, n, rfl, _⟩ := h
    rfl
  · obtain ⟨v, l, s, xs, cs, n, rfl, hv, hok, hl, hcs, hco, hle, hn, k⟩ := h
    obtain ⟨g1, g2⟩ := lsets_facts ⟨cs.length, by omega⟩
    have g1 : (lawSets cs.length).length ≤ 64 := g1
    have g2 : ∀ r ∈ lawSets cs.length, ascOk cs.length (-1) r = true ∧ r.length ≤ 6 := g2
    refine ⟨_, (pss_cons (ps_setLc (i := 3) (own := [("_law_row", 5)]) (g := gName 5) rfl sc_law_least.nd rfl rfl (sw_true rfl rfl rfl (by decide +kernel)) (pi_list (pe_callR (ok_law_sets T) (hr.mono (by decide)) rfl T.g_law_sets (kp_law_sets T) pass0 (pa_cons (pe_callB call_len_seq (by rfl) T.f_len PySem.boot_len (pa_cons (pv 1) pa_nil)) pa_nil))) (blkOk_by (N := n_law_least) (sc := defScope s_law_least) (by decide +kernel)) (fun _ _ _ _ _ => (pg_name (i := 5) sc_law_least.nd rfl (Or.inl rfl))) (fun _ _ _ _ _ => (pts_one (pt_val (pe_callR (ok_law_reaches T) (hr.mono (by decide)) rfl T.g_law_reaches (kp_law_reaches T) pass0 (pa_cons (pv 0) (pa_cons (pv 1) (pa_cons (pv 5) (pa_cons (pv 2) pa_nil)))))))) (fun _ _ _ _ _ => (pv 5)))
      (pss_cons (ps_set (i := 4) sc_law_least.nd rfl (Or.inl rfl) (pe_lst pa_nil))
      (pss_cons (ps_for PassesOwn.never rfl (pi_list (pv 3)) (pg_name (i := 5) sc_law_least.nd rfl (Or.inr rfl)) (pss_cons (ps_setLc (i := 6) (own := [("_law_other", 7)]) (g := gName 7) rfl sc_law_least.nd rfl rfl (sw_true rfl rfl rfl (by decide +kernel)) (pi_list (pv 3)) (blkOk_by (N := n_law_least) (sc := defScope s_law_least) (by decide +kernel)) (fun _ _ _ _ _ => (pg_name (i := 7) sc_law_least.nd rfl (Or.inl rfl))) (fun _ _ _ _ _ => (pts_one (PW.pt (pw_and (pt_cmpR (opK (r := rNeD) K rfl (op_neD hr.units)) (pv 7) (pv 5) (nomark _)) (pw_and1 (pt_cmpR (opK (r := rEqD) K rfl (op_eqD hr.units)) (pe_lc (own := [("_law_at", 8)]) (g := gName 8) rfl sc_law_least.nd (piK (r := fun K => iList K _) K rfl (pi_list (pv 7))) (blkOk_by (N := n_law_least) (sc := relS _ (defScope s_law_least)) (by decide +kernel)) (fun _ _ _ _ _ => (pg_name (i := 8) sc_law_least.nd rfl (Or.inl rfl))) (fun _ _ _ _ _ => (pts_one (pt_cmpR (opK (r := fun K => rIn K true) K rfl op_notIn_seq) (pv 8) (pv 5) rfl))) (fun _ _ _ _ _ => (pv 8))) (pe_lst pa_nil) (nomark _))))))) (fun _ _ _ _ _ => (pv 7)))
      (pss_one (ps_if (pt_cmpR (op_eqD hr.units) (pv 6) (pe_lst pa_nil) (nomark _)) (pss_one (ps_expr (pe_bm PySem.F.plainAttrs_list PySem.F.slot_list_append PySem.F.type_list_append mt_append (pv 4) (pa_cons (pv 5) pa_nil)))) pss_nil))))
      (pss_one (ps_ret (pv 4)))))), r_start (σ := [some v, some (.ref l), some (.int n), none, none, none, none, none, none]) rfl ?_⟩
    walk_at "rd"
    refine lcFirst ?_
    walk_at "rd"
    refine ⟨_, _, rfl, .inl (SqL.of hl), ?_⟩
    walk_at "rd"
    rw [hcs.1]
    refine ⟨cs.length, rfl, hle, fun al ax H1 e1 hal ral => ?_⟩
    refine ⟨al, rfl, ⟨ax, SqL.of hal⟩, fun D nD => ?_⟩
    refine lc_list (xs := ax) (fun j Hy => ∃ acc, Hy D = some (.lst acc) ∧ RowsAt (fun p => p ≠ D) Hy acc (((lawSets cs.length).take j).filter (good s cs n)) ∧ Same H1 Hy) ⟨[], upd_same, .nil, same_new nD⟩ (fun j Hy _ ⟨_, _, _, ey⟩ => SqL.of (ey _ _ hal)) ?_ ?_
    · rintro j v' Hy hj ⟨acc, hacc, racc, ey⟩
      obtain ⟨p, r, rfl, hr, _, hp⟩ := ral.at_ hj
      have neD : p ≠ D := ne_of_none hp nD
      obtain ⟨ha, hr6⟩ := g2 r (List.mem_of_getElem? hr)
      refine ⟨rfl, ?_⟩
      refine r_tb ?_
      show tCallR (sp_law_reaches K) E0 (tCons (tVar 0) (tCons (tVar 1) (tCons (tVar 5) (tCons (tVar 2) tNil)))) [some v, some (.ref l), some (.int n), none, none, some (.ref p), none, none, none] Hy _
      walk_at "rd"
      have e2 := e1.trans ey
      refine ⟨v, l, p, s, xs, cs, r, n, rfl, hv.kt (Kt.of e2), hok, e2 _ _ hl, hcs.kt (Kt.of e2), hco, hle, ey _ _ hp, ha, hn, fun H3 e3 => ⟨_, rfl, ?_⟩⟩
      have ft := filter_take (good s cs n) (lawSets cs.length) j hr
      cases hb : good s cs n r with
      | true =>
        refine itet rfl ⟨.ref p, rfl, acc, e3 _ _ hacc, small1000 ?_, acc ++ [.ref p], upd_same, ?_, fun c u h => ?_⟩
        · rw [racc.len]
          refine Nat.le_trans (List.length_filter_le ..) ?_
          rw [List.length_take]
          omega
        · rw [ft, if_pos hb]
          refine ((racc.same e3).app (.one neD (e3 _ _ (ey _ _ hp)))).put fun _ z => z
        · rw [upd_ne (ne_of_none h nD)]
          exact e3 _ _ (ey _ _ h)
      | false =>
        refine itef rfl ⟨acc, e3 _ _ hacc, ?_, ey.trans e3⟩
        rw [ft, if_neg (by rw [hb]; decide)]
        exact racc.same e3
    · rintro Hy ⟨gx, hG, rG, ey⟩
      rw [ral.len, List.take_length] at rG
      have eH := e1.trans ey
      have gl : (lawGood s cs n).length ≤ 64 := Nat.le_trans (List.length_filter_le ..) g1
      have gm : ∀ r ∈ lawGood s cs n, r.length ≤ 6 := fun r hr => (g2 r (List.mem_filter.mp hr).1).2
      have rG : RowsAt AnyA Hy gx (lawGood s cs n) := rG.weak fun _ _ => trivial
      have kk : ∀ q ys H', Same H H' → H' q = some (.lst ys) → RowsAt AnyA H' ys ((lawGood s cs n).filter fun r => decide (inner (lawGood s cs n) r = [])) → Q (.ref q) H' := k
      clear k
      generalize lawGood s cs n = gs at rG gl gm kk
      walk_at "rd"
      intro L nL
      have rG : RowsAt (fun p => p ≠ L) Hy gx gs := rG.imp fun p r _ b => ⟨ne_of_none b nL, b⟩
      have neG : D ≠ L := ne_of_none hG nL
      have nLH : H L = none := free_of eH nL
      walk_at "rd"
      have e2 : Same Hy (upd Hy L (.lst [])) := same_new nL
      have hL0 : upd Hy L (.lst []) L = some (.lst []) := upd_same
      have hG2 := e2 _ _ hG
      have rG2 := rG.same e2
      have eH2 := eH.trans e2
      clear hG rG eH e2 nL hal ral
      generalize upd Hy L (.lst []) = H2 at hL0 hG2 rG2 eH2 ⊢
      refine ⟨.ref D, rfl, D, rfl, ⟨gx, SqL.of hG2⟩, for_list (xs := gx) (fun i σ Hx => ∃ (lx : List V) (a b c d : Option V), σ = [some v, some (.ref l), some (.int n), some (.ref D), some (.ref L), a, b, c, d] ∧ SameX L H2 Hx ∧ Hx L = some (.lst lx) ∧
        RowsAt (fun p => p ≠ L) Hx lx ((gs.take i).filter fun r => decide (inner gs r = []))) ?_ (fun i σ Hx _ ⟨_, _, _, _, _, _, e, _⟩ => SqL.of (e _ _ hG2 neG)) ?_ ?_⟩
      · exact ⟨[], _, _, _, _, rfl, SameX.refl, hL0, .nil⟩
      · rintro i v' σ Hx hi ⟨lx, a, b, c, d, rfl, eX, hLx, rL⟩
        have rGx : RowsAt (fun p => p ≠ L) Hx gx gs := rG2.imp fun p r a b => ⟨a, eX _ _ b a⟩
        obtain ⟨p, r, rfl, hr, np, hp⟩ := rGx.at_ hi
        have hGx := eX _ _ hG2 neG
        have hr6 := gm r (List.mem_of_getElem? hr)
        walk_at "rd"
        refine ⟨.ref D, rfl, D, rfl, ⟨gx, SqL.of hGx⟩, fun D2 nD2 => ?_⟩
        refine lc_list (xs := gx) (fun j Hz => ∃ acc, Hz D2 = some (.lst acc) ∧ RowsAt (fun p => p ≠ D2) Hz acc ((gs.take j).filter fun o => !decide (o = r) && inside o r) ∧ Same Hx Hz) ⟨[], upd_same, .nil, same_new nD2⟩ (fun j Hz _ ⟨_, _, _, e⟩ => SqL.of (e _ _ hGx)) ?_ ?_
        · rintro j v' Hz hj ⟨acc, hacc, racc, ez⟩
          obtain ⟨po, o, rfl, ho, npo, hpo⟩ := rGx.at_ hj
          have neD2 : po ≠ D2 := ne_of_none hpo nD2
          have ho6 := gm o (List.mem_of_getElem? ho)
          refine ⟨rfl, ?_⟩
          show tAnd (tTest (tOp (rNeD K) (tVar 7) (tVar 5))) (tTest (tOp (rEqD K) (tLc (iList K (tVar 7)) (gName 8) (tTest (tOp (rIn K true) (tVar 8) (tVar 5))) (tVar 8) [8]) (tLst tNil))) [some v, some (.ref l), some (.int n), some (.ref D), some (.ref L), some (.ref p), b, some (.ref po), d] Hz _
          have ft := filter_take (fun o => !decide (o = r) && inside o r) gs j ho
          have no : ∀ H3, Same Hz H3 → (!decide (o = r) && inside o r) = false → ∃ acc, H3 D2 = some (.lst acc) ∧ RowsAt (fun p => p ≠ D2) H3 acc ((gs.take (j + 1)).filter fun o => !decide (o = r) && inside o r) ∧ Same Hx H3 := fun H3 e3 hb => by
            refine ⟨acc, e3 _ _ hacc, ?_, ez.trans e3⟩
            rw [ft, if_neg (by rw [hb]; decide)]
            exact racc.same e3
          walk_at "rd"
          refine r_neD (dp_row (ez _ _ hpo)) (dp_row (ez _ _ hp)) (rD_shaped _) (rD_shaped _) ?_
          rw [rD_eqv]
          refine ⟨_, rfl, ?_⟩
          by_cases hor : o = r
          · refine itef (by rw [decide_eq_true hor]; rfl) ?_
            refine itef rfl ?_
            exact no Hz (Same.refl _) (by rw [decide_eq_true hor]; rfl)
          · refine itet (by rw [decide_eq_false hor]; rfl) ?_
            refine r_test (r_op ?_)
            refine minus_lc (σ := [some v, some (.ref l), some (.int n), some (.ref D), some (.ref L), some (.ref p), b, some (.ref po), d]) (io := 7) (ia := 8) (ir := 5) (o := o) (r := r) (by omega) ⟨.ref po, rfl, rfl, rfl⟩ (fun _ => rfl) (fun _ => rfl) (fun _ => rfl) (ez _ _ hpo) (ez _ _ hp) fun D3 H3 e3 nD3 hD3 => ?_
            walk_at "rd"
            intro l2 nl2
            have e4 := same_new2 (o := .lst []) e3 nl2
            refine r_eqD (dp_row (same_new nl2 _ _ hD3)) (.lst (SqL.of upd_same) .nil) (rD_shaped _) (rD_shaped []) ?_
            rw [show PyData.list [] = rD [] from rfl, rD_eqv]
            refine ⟨_, rfl, ?_⟩
            rw [show decide (minus o r = []) = inside o r from rfl]
            cases hb : inside o r with
            | true =>
              refine itet rfl ⟨.ref po, rfl, acc, e4 _ _ hacc, small1000 ?_, acc ++ [.ref po], upd_same, ?_, fun c u h => ?_⟩
              · rw [racc.len]
                refine Nat.le_trans (List.length_filter_le ..) ?_
                rw [List.length_take]
                omega
              · rw [ft, if_pos (by rw [hb, decide_eq_false hor]; rfl)]
                refine ((racc.same e4).app (.one neD2 (e4 _ _ (ez _ _ hpo)))).put fun _ z => z
              · rw [upd_ne (ne_of_none h nD2)]
                exact e4 _ _ (ez _ _ h)
            | false =>
              refine itef rfl (no _ e4 ?_)
              rw [hb, Bool.and_false]
        · rintro Hz ⟨acc, hacc, racc, ez⟩
          rw [rGx.len, List.take_length] at racc
          walk_at "rd"
          intro l3 nl3
          have e3 := same_new2 (o := .lst []) ez nl3
          refine r_eqD ((racc.same (same_new nl3)).dpl (same_new nl3 _ _ hacc)) (.lst (SqL.of upd_same) .nil) (rsD_shaped _) (rsD_shaped []) ?_
          rw [show PyData.list [] = rsD [] from rfl, rsD_eqv]
          walk_at "rd"
          have ft := filter_take (fun r => decide (inner gs r = [])) gs i hr
          by_cases hin : inner gs r = []
          · refine itet (decide_eq_true hin) ?_
            walk_at "rd"
            refine r_bm ?_
            walk_at "rd"
            have hL3 := e3 _ _ hLx
            refine ⟨ty_lst (SqL.of hL3), ?_⟩
            walk_at "rd"
            refine ⟨L, lx, .ref p, rfl, rfl, hL3, small1000 ?_, ?_⟩
            · rw [rL.len]
              refine Nat.le_trans (List.length_filter_le ..) ?_
              rw [List.length_take]
              omega
            · refine ⟨lx ++ [.ref p], _, _, _, _, rfl, (eX.same e3).put, upd_same, ?_⟩
              rw [ft, if_pos (decide_eq_true hin)]
              exact ((rL.same e3).app (.one np (e3 _ _ hp))).put fun p h => h
          · refine itef (decide_eq_false hin) ?_
            walk_at "rd"
            refine ⟨lx, _, _, _, _, rfl, eX.same e3, e3 _ _ hLx, ?_⟩
            rw [ft, if_neg (by rw [decide_eq_false hin]; decide)]
            exact rL.same e3
      · rintro σ Hx ⟨lx, a, b, c, d, rfl, eX, hLx, rL⟩
        rw [rG2.len, List.take_length] at rL
        walk_at "rd"
        exact kk L lx Hx (fun c o h => eX _ _ (eH2 _ _ h) (ne_of_none h nLH)) hLx (rL.weak fun _ _ => trivial)
end
end Ls
namespace Ls
open PySem PySem.Spec PyProof.Rows L2
/-! ### the order of rows -/
def ltI : List Int → List Int → Bool
  | [], [] => false
  | [], _ :: _ => true
  | _ :: _, [] => false
  | x :: xs, y :: ys => if x = y then ltI xs ys else decide (x < y)
def ordI (a b : List Int) : Bool := decide (a.length < b.length) || (decide (a.length = b.length) && ltI a b)
theorem alike_ints : ∀ o r : List Int, PySem.W.alikeAll (o.map PyData.int) (r.map PyData.int) = true
  | [], _ => by simp [PySem.W.alikeAll]
  | _ :: _, [] => by simp [PySem.W.alikeAll]
  | x :: xs, y :: ys => by simp [PySem.W.alikeAll, PySem.W.alike, alike_ints xs ys]
theorem lt_ints : ∀ o r : List Int, PyProof.Rows.lexLt itemOrd (PySem.W.keyToksAll (o.map PyData.int)) (PySem.W.keyToksAll (r.map PyData.int)) = ltI o r
  | [], [] => by decide +kernel
  | [], y :: ys => by
    rw [List.map_cons, PySem.W.toks_all_cons]
    show PyProof.Rows.lexLt itemOrd (PySem.W.keyToksAll []) _ = true
    simp only [PySem.W.keyToksAll]
    rw [PySem.W.lex_atom (by decide), PySem.W.lex_one]
    decide +kernel
  | x :: xs, [] => by
    rw [List.map_cons, PySem.W.toks_all_cons]
    show PyProof.Rows.lexLt itemOrd _ (PySem.W.keyToksAll []) = false
    simp only [PySem.W.keyToksAll]
    rw [PySem.W.lex_atom (by decide), PySem.W.lex_one]
    decide +kernel
  | x :: xs, y :: ys => by
    have ha : PySem.W.alike (.int x) (.int y) = true := by simp [PySem.W.alike]
    rw [List.map_cons, List.map_cons]
    by_cases h : x = y
    · rw [PySem.W.dataLt_all_yes ha (by simp [PyData.eqv, h]), lt_ints xs ys, ltI, if_pos h]
    · rw [PySem.W.dataLt_all_no ha (by simp [PyData.eqv, h]), PySem.W.dataLt_int, ltI, if_neg h]
theorem lt_rD (o r : List Int) : PySem.W.dataLt (rD o) (rD r) = ltI o r := by
  unfold rD
  rw [PySem.W.dataLt_list]
  exact lt_ints o r
section
variable {X : Cx}
def rLtD (K : Fr) : R2 := fun x y H Q => ∃ d e : List Int, Dp K H x (rD d) ∧ Dp K H y (rD e) ∧ Q (.bl (ltI d e)) H
theorem op_ltD (hu : X.A.units + 64 < cLine) : OpR X (compareOp .Lt) (rLtD X.K) := by
  intro pins s σ H x y v u Q I rx ry h
  obtain ⟨d, e, hd, he, q⟩ := h
  obtain ⟨as, r1⟩ := Dp.reads I _ x v hd rx
  obtain ⟨bs, r2⟩ := Dp.reads I _ y u he ry
  refine PySem.W.lt_data r1 r2 (by unfold rD; rw [PySem.W.alike]; exact alike_ints d e) (by unfold rD; exact fun z => nomatch z) ?_ ⟨.bl _, H, I, rfl, ?_⟩
  · have := SeqAt.depth_of_shaped (rD_shaped d)
    have : min (rD d).depth (rD e).depth ≤ (rD d).depth := Nat.min_le_left _ _
    omega
  · rw [lt_rD]
    exact q
end
theorem for_zip {K : Fr} {a b : Addr} {xs ys : List V} {g : TG} {tb : TS} {D : Ends} {σ : L2.St} {H : Hp} (Pv : Nat → L2.St → Hp → Prop) (h0 : Pv 0 σ H) (hle : ys.length ≤ xs.length)
    (hl : ∀ i σ H, i ≤ ys.length → Pv i σ H → SqL K H a xs ∧ SqL K H b ys)
    (hs : ∀ (i : Nat) (x y : V) (T : Addr) (σ : L2.St) (H : Hp), xs[i]? = some x → ys[i]? = some y → Pv i σ H → H T = none → g (.ref T) σ (upd H T (.tup [x, y])) fun σ2 H2 => tb { D with nx := Pv (i + 1), ct := Pv (i + 1), bk := D.nx } σ2 H2)
    (hd : ∀ σ H, Pv ys.length σ H → D.nx σ H) :
    ∃ W : Nat → Nat → L2.St → Hp → Prop, (∃ m, W 0 m σ H) ∧ ∀ i m σ H, W i m σ H →
      ((Itz K a b).stop i H ∧ D.nx σ H) ∨ ((Itz K a b).go i H ∧ ∃ N : L2.St → Hp → Prop, (∀ σ' H', N σ' H' → ∃ m', m' < m ∧ W (i + 1) m' σ' H') ∧
        ∀ x H', (Itz K a b).yld i H x H' → g x σ H' fun σ2 H2 => tb { D with nx := N, ct := N, bk := D.nx } σ2 H2) := by
  refine ⟨fun i m σ H => m = ys.length - i ∧ i ≤ ys.length ∧ Pv i σ H, ⟨_, rfl, Nat.zero_le _, h0⟩, ?_⟩
  rintro i m σ H ⟨rfl, hi, p⟩
  obtain ⟨q1, q2⟩ := hl i σ H hi p
  rcases Nat.lt_or_ge i ys.length with lt | ge
  · refine .inr ⟨⟨xs, ys, xs[i]'(by omega), ys[i], q1, q2, List.getElem?_eq_getElem _, List.getElem?_eq_getElem _⟩, Pv (i + 1), fun σ' H' p' => ⟨ys.length - (i + 1), by omega, rfl, lt, p'⟩, ?_⟩
    rintro v H' ⟨T, x, y, rfl, nT, rfl, hx, hy⟩
    exact hs i x y T σ H (hx xs q1) (hy ys q2) p nT
  · obtain rfl : i = ys.length := by omega
    exact .inl ⟨⟨xs, ys, q1, q2, .inr (Nat.le_refl _)⟩, hd σ H p⟩
theorem r_zip {K : Fr} {ta : TA} {g : TG} {tb : TS} {D : Ends} {σ : L2.St} {H : Hp} (h : ta σ H fun vs H1 => ∃ a b xs ys, vs = [.ref a, .ref b] ∧ SqL K H1 a xs ∧ SqL K H1 b ys ∧ ∃ W : Nat → Nat → L2.St → Hp → Prop, (∃ m, W 0 m σ H1) ∧ ∀ i m σ H, W i m σ H →
      ((Itz K a b).stop i H ∧ D.nx σ H) ∨ ((Itz K a b).go i H ∧ ∃ N : L2.St → Hp → Prop, (∀ σ' H', N σ' H' → ∃ m', m' < m ∧ W (i + 1) m' σ' H') ∧
        ∀ x H', (Itz K a b).yld i H x H' → g x σ H' fun σ2 H2 => tb { D with nx := N, ct := N, bk := D.nx } σ2 H2)) : tFor (iZip K ta) g tb D σ H := h
theorem cut1 (xs : List V) : cutV xs (some 1) none = xs.drop 1 := by
  unfold cutV
  rw [HT.sIx_none, show HT.sIx xs.length 0 (some 1) = min 1 xs.length from HT.sIx_nat _ _ 1]
  cases xs with
  | nil => rfl
  | cons x xs =>
    rw [show min 1 (x :: xs).length = 1 by rw [List.length_cons]; omega]
    show List.take ((xs.length + 1) - 1) xs = xs
    rw [Nat.add_sub_cancel, List.take_length]
section
variable {w : World} {K : Fr} {mg : Str → Option Value} {base : Heap}
def sp_law_ordered (K : Fr) : Sp := fun vs H Q _ => ∃ (l : Addr) (xs : List V) (rs : List (List Int)), vs = [.ref l] ∧ H l = some (.lst xs) ∧ RowsAt AnyA H xs rs ∧ rs.Pairwise (fun a b => ordI a b = true) ∧ ∀ H', Same H H' → Q (.bl true) H'
abbrev n_law_ordered : List Str := ["_law_rows", "_law_one", "_law_other"]
theorem sc_law_ordered : FnScope n_law_ordered ["_law_rows"] (defScope s_law_ordered) := ⟨rfl, rfl, rfl, by decide +kernel, rfl, by decide +kernel, by decide +kernel⟩
theorem kp_law_ordered (T : Tx K mg) : PySem.W.keepIn K (.ref (He.ga K "_law_ordered")) = true := kp_of T.d_law_ordered
theorem ok_law_ordered (T : Tx K mg) : FnR P w K mg base CX0 1 (He.ga K "_law_ordered") (sp_law_ordered K) := by
  refine mk0 T.d_law_ordered sc_law_ordered (fun _ _ _ _ _ _ us hl => match us, hl with | [_], _ => rfl) (fun vs H Q E h => ?_) (fun cdv A outer s H vs Q E hr h => ?_)
  · obtain ⟨l, xs, rs, rfl, _⟩ := h
    rfl
  · obtain ⟨l, xs, rs, rfl, hl, hrs, hpw, k⟩ := h
    refine ⟨_, (pss_cons (ps_for PassesOwn.never rfl (pi_zip (by rfl) T.f_zip (pa_cons (pv 0) (pa_cons (pe_slice sl_list (pv 0) (po_some pe_int) po_none) pa_nil))) (pg_tup rfl (pgs_cons (pg_name (i := 1) sc_law_ordered.nd rfl (Or.inl rfl)) (pgs_cons (pg_name (i := 2) sc_law_ordered.nd rfl (Or.inl rfl)) pgs_nil))) (pss_one (ps_if (PW.pt (pw_or (pt_cmpR op_gt (pe_callB call_len_seq (by rfl) T.f_len PySem.boot_len (pa_cons (pv 1) pa_nil)) (pe_callB call_len_seq (by rfl) T.f_len PySem.boot_len (pa_cons (pv 2) pa_nil)) (nomark _)) (pw_or1 (PW.pt (pw_and (pt_cmpR op_eq (pe_callB call_len_seq (by rfl) T.f_len PySem.boot_len (pa_cons (pv 1) pa_nil)) (pe_callB call_len_seq (by rfl) T.f_len PySem.boot_len (pa_cons (pv 2) pa_nil)) (nomark _)) (pw_and1 (pt_not (pt_cmpR (op_ltD hr.units) (pv 1) (pv 2) (nomark _))))))))) (pss_one (ps_ret pe_bl)) pss_nil)))
      (pss_one (ps_ret pe_bl))), r_start (σ := [some (.ref l), none, none]) rfl ?_⟩
    walk_at "rd"
    refine r_zip ?_
    refine ⟨.ref l, rfl, .ref l, rfl, 1, rfl, l, xs, rfl, SqL.of hl, fun p np => ?_⟩
    rw [cut1]
    have e1 := same_new (o := .lst (xs.drop 1)) np
    refine ⟨l, p, _, _, rfl, SqL.of (e1 _ _ hl), SqL.of upd_same, ?_⟩
    have hp1 : upd H p (.lst (xs.drop 1)) p = some (.lst (xs.drop 1)) := upd_same
    refine for_zip (xs := xs) (ys := xs.drop 1) (fun i σ H' => ∃ (a b : Option V), σ = [some (.ref l), a, b] ∧ Same (upd H p (.lst (xs.drop 1))) H') ⟨_, _, rfl, Same.refl _⟩ (by rw [List.length_drop]; omega)
      (fun i σ H' _ ⟨_, _, _, e⟩ => ⟨SqL.of (e _ _ (e1 _ _ hl)), SqL.of (e _ _ hp1)⟩) ?_ ?_
    · rintro i x y T σ H' hx hy ⟨a, b, rfl, e⟩ nT
      rw [List.getElem?_drop, Nat.add_comm] at hy
      have e2 := (e1.trans e).trans (same_new (o := .tup [x, y]) nT)
      obtain ⟨p1, r1, rfl, h1, _, q1⟩ := (hrs.same e2).at_ hx
      obtain ⟨p2, r2, rfl, h2, _, q2⟩ := (hrs.same e2).at_ hy
      obtain ⟨i1, rfl⟩ := List.getElem?_eq_some_iff.mp h1
      obtain ⟨i2, rfl⟩ := List.getElem?_eq_some_iff.mp h2
      have ho := List.pairwise_iff_getElem.mp hpw i (i + 1) i1 i2 (Nat.lt_succ_self i)
      generalize rs[i] = r1 at q1 ho
      generalize rs[i + 1] = r2 at q2 ho
      refine r_gtup (SqT.of upd_same) rfl ?_
      walk_at "rd"
      refine ⟨_, _, rfl, .inl (SqL.of q1), ?_⟩
      walk_at "rd"
      refine ⟨_, _, rfl, .inl (SqL.of q2), ?_⟩
      walk_at "rd"
      rw [List.length_map, List.length_map]
      unfold ordI at ho
      have fin : ∃ (a b : Option V), ([some (.ref l), some (.ref p1), some (.ref p2)] : L2.St) = [some (.ref l), a, b] ∧ Same (upd H p (.lst (xs.drop 1))) (upd H' T (.tup [.ref p1, .ref p2])) := ⟨_, _, rfl, e.trans (same_new nT)⟩
      have hng : ¬ r2.length < r1.length := by
        rcases Bool.or_eq_true_iff.mp ho with h | h
        · have h := of_decide_eq_true h
          omega
        · have h := of_decide_eq_true (Bool.and_eq_true_iff.mp h).1
          omega
      refine itef (decide_eq_false (by omega)) ?_
      walk_at "rd"
      refine ⟨_, _, rfl, .inl (SqL.of q1), ?_⟩
      walk_at "rd"
      refine ⟨_, _, rfl, .inl (SqL.of q2), ?_⟩
      walk_at "rd"
      rw [List.length_map, List.length_map]
      by_cases hl12 : r1.length = r2.length
      · refine itet (decide_eq_true (by rw [hl12])) ?_
        walk_at "rd"
        refine ⟨r1, r2, dp_row q1, dp_row q2, ?_⟩
        have hlt : ltI r1 r2 = true := by
          rcases Bool.or_eq_true_iff.mp ho with h | h
          · have h := of_decide_eq_true h
            omega
          · exact (Bool.and_eq_true_iff.mp h).2
        rw [hlt]
        refine ⟨true, rfl, itef rfl fin⟩
      · refine itef (decide_eq_false fun z => by
          injection z with z
          omega) (itef rfl ?_)
        exact fin
    · rintro σ H' ⟨a, b, rfl, e⟩
      walk_at "rd"
      exact k _ (e1.trans e)
end
end Ls
namespace Ls
/-! ### the plain law: least sets are the minimal good ones -/
theorem inside_iff (o r : List Int) : inside o r = true ↔ ∀ a ∈ o, a ∈ r := by
  unfold inside minus
  rw [decide_eq_true_iff, List.filter_eq_nil_iff]
  simp
theorem inside_refl (r : List Int) : inside r r = true := (inside_iff r r).mpr fun _ h => h
theorem inside_trans {a b c : List Int} (h : inside a b = true) (k : inside b c = true) : inside a c = true :=
  (inside_iff a c).mpr fun x hx => (inside_iff b c).mp k x ((inside_iff a b).mp h x hx)
/-- good, and no other good one lies inside -/
def minl (g : List Int → Bool) (L : List (List Int)) (r : List Int) : Bool := g r && decide (∀ o ∈ L, g o = true → o ≠ r → inside o r = false)
theorem minl_iff {g : List Int → Bool} {L : List (List Int)} {r : List Int} : minl g L r = true ↔ g r = true ∧ ∀ o ∈ L, g o = true → o ≠ r → inside o r = false := by
  unfold minl
  rw [Bool.and_eq_true_iff, decide_eq_true_iff]
/-- each good one holds a minimal one, not later -/
theorem has_minl {g : List Int → Bool} {L : List (List Int)} (hL : L.Pairwise fun a b => inside b a = false) : ∀ (i : Nat) (o : List Int), L[i]? = some o → g o = true → ∃ (j : Nat) (o' : List Int), j ≤ i ∧ L[j]? = some o' ∧ minl g L o' = true ∧ inside o' o = true := by
  intro i
  induction i using Nat.strongRecOn with
  | ind i ih =>
    intro o ho hg
    by_cases hm : minl g L o = true
    · exact ⟨i, o, Nat.le_refl _, ho, hm, inside_refl o⟩
    · have hn : ∃ q ∈ L, g q = true ∧ q ≠ o ∧ inside q o = true := by
        refine Classical.byContradiction fun hc => hm (minl_iff.mpr ⟨hg, fun q hq gq ne => ?_⟩)
        cases hi : inside q o with
        | false => rfl
        | true => exact absurd ⟨q, hq, gq, ne, hi⟩ hc
      obtain ⟨q, hq, gq, ne, hi⟩ := hn
      obtain ⟨j, hj⟩ := List.getElem?_of_mem hq
      have hji : j < i := by
        rcases Nat.lt_trichotomy j i with h | h | h
        · exact h
        · subst h
          rw [ho] at hj
          exact absurd (Option.some.inj hj).symm ne
        · obtain ⟨i1, rfl⟩ := List.getElem?_eq_some_iff.mp ho
          obtain ⟨j1, rfl⟩ := List.getElem?_eq_some_iff.mp hj
          have := List.pairwise_iff_getElem.mp hL i j i1 j1 h
          rw [hi] at this
          cases this
      obtain ⟨k, o', hk, ho', hm', hi'⟩ := ih j hji q hj gq
      exact ⟨k, o', by omega, ho', hm', inside_trans hi' hi⟩
theorem greedy_minl {g : List Int → Bool} {L : List (List Int)} (hL : L.Pairwise fun a b => inside b a = false) : ∀ i, i ≤ L.length → greedy g [] (L.take i) = (L.take i).filter (minl g L)
  | 0, _ => rfl
  | i + 1, hi => by
    have hr : L[i]? = some L[i] := List.getElem?_eq_getElem (by omega)
    have ih := greedy_minl (g := g) hL i (by omega)
    rw [greedy_take g L [] i _ hr, ih, filter_take (minl g L) L i hr]
    generalize hrr : L[i] = r at hr
    have key : ((((L.take i).filter (minl g L)).filter fun o => inside o r) = [] ∧ g r = true) ↔ minl g L r = true := by
      rw [minl_iff, List.filter_eq_nil_iff]
      refine ⟨fun ⟨h1, h2⟩ => ⟨h2, fun o ho go ne => ?_⟩, fun ⟨h1, h2⟩ => ⟨fun o ho => ?_, h1⟩⟩
      · cases hio : inside o r with
        | false => rfl
        | true =>
          exfalso
          obtain ⟨j, hj⟩ := List.getElem?_of_mem ho
          have hji : j < i := by
            rcases Nat.lt_trichotomy j i with h | h | h
            · exact h
            · subst h
              rw [hr] at hj
              exact absurd (Option.some.inj hj).symm ne
            · obtain ⟨i1, e1⟩ := List.getElem?_eq_some_iff.mp hr
              obtain ⟨j1, e2⟩ := List.getElem?_eq_some_iff.mp hj
              have := List.pairwise_iff_getElem.mp hL i j i1 j1 h
              rw [e1, e2, hio] at this
              cases this
          obtain ⟨k, o', hk, ho', hm', hi'⟩ := has_minl hL j o hj go
          refine h1 o' (List.mem_filter.mpr ⟨?_, hm'⟩) (inside_trans hi' hio)
          obtain ⟨k1, e3⟩ := List.getElem?_eq_some_iff.mp ho'
          exact List.mem_iff_getElem?.mpr ⟨k, by rw [List.getElem?_take, if_pos (by omega)]; exact ho'⟩
      · obtain ⟨ho1, ho2⟩ := List.mem_filter.mp ho
        obtain ⟨j, hj⟩ := List.getElem?_of_mem ho1
        rw [List.getElem?_take] at hj
        split at hj
        · rename_i hji
          have ne : o ≠ r := fun z => by
            obtain ⟨i1, e1⟩ := List.getElem?_eq_some_iff.mp hr
            obtain ⟨j1, e2⟩ := List.getElem?_eq_some_iff.mp hj
            have := List.pairwise_iff_getElem.mp hL j i j1 i1 hji
            rw [e1, e2, z, inside_refl] at this
            cases this
          rw [h2 o (List.mem_of_getElem? hj) (minl_iff.mp ho2).1 ne]
          decide
        · cases hj
    by_cases hm : minl g L r = true
    · rw [if_pos (key.mpr hm), if_pos hm]
    · rw [if_neg fun z => hm (key.mp z), if_neg hm]
theorem sets_order : ∀ m : Fin 7, (allSets m.val).Pairwise (fun a b => inside b a = false) ∧ (allSets m.val).Pairwise (fun a b => ordI a b = true) := by decide +kernel
theorem sets_perm : ∀ m : Fin 7, (allSets m.val).isPerm (lawSets m.val) = true := by decide +kernel
theorem least_eq {s : Sc} {cs : List Ch} {n : Int} (h : cs.length ≤ 6) : least s cs n = (allSets cs.length).filter (minl (good s cs n) (allSets cs.length)) := by
  have hL := (sets_order ⟨cs.length, by omega⟩).1
  have := greedy_minl (g := good s cs n) hL _ (Nat.le_refl _)
  rw [List.take_length] at this
  exact this
theorem lawLeast_eq {s : Sc} {cs : List Ch} {n : Int} (h : cs.length ≤ 6) : lawLeast s cs n = (lawSets cs.length).filter (minl (good s cs n) (allSets cs.length)) := by
  have hp : (allSets cs.length).Perm (lawSets cs.length) := List.isPerm_iff.mp (sets_perm ⟨cs.length, by omega⟩)
  unfold lawLeast
  have e : ∀ r, (good s cs n r && decide (inner (lawGood s cs n) r = [])) = minl (good s cs n) (allSets cs.length) r := fun r => by
    unfold minl
    congr 1
    refine decide_eq_decide.mpr ?_
    unfold inner lawGood
    rw [List.filter_eq_nil_iff]
    refine ⟨fun h o ho go ne => ?_, fun h o ho => ?_⟩
    · have := h o (List.mem_filter.mpr ⟨hp.mem_iff.mp ho, go⟩)
      cases hi : inside o r with
      | false => rfl
      | true => exact absurd (by rw [hi, decide_eq_false ne]; rfl) this
    · obtain ⟨h1, h2⟩ := List.mem_filter.mp ho
      by_cases ne : o = r
      · rw [decide_eq_true ne]
        simp
      · rw [h o (hp.mem_iff.mpr h1) h2 ne]
        simp
  conv => lhs; arg 2; unfold lawGood
  rw [List.filter_filter]
  congr 1
  funext r
  rw [← e r, Bool.and_comm]
theorem least_law {s : Sc} {cs : List Ch} {n : Int} (h : cs.length ≤ 6) : (least s cs n).length = (lawLeast s cs n).length ∧ (∀ r ∈ least s cs n, r ∈ lawLeast s cs n) ∧ (least s cs n).Pairwise (fun a b => ordI a b = true) := by
  have hp : (allSets cs.length).Perm (lawSets cs.length) := List.isPerm_iff.mp (sets_perm ⟨cs.length, by omega⟩)
  rw [least_eq h, lawLeast_eq h]
  have hf := hp.filter (minl (good s cs n) (allSets cs.length))
  exact ⟨hf.length_eq, fun r hr => hf.mem_iff.mp hr, (sets_order ⟨cs.length, by omega⟩).2.filter _⟩
theorem least_small {s : Sc} {cs : List Ch} {n : Int} (h : cs.length ≤ 6) : (least s cs n).length ≤ 64 ∧ ∀ r ∈ least s cs n, r.length ≤ 6 := by
  obtain ⟨f1, f2⟩ := sets_facts ⟨cs.length, by omega⟩
  refine ⟨Nat.le_trans (by rw [least_eq h]; exact List.length_filter_le ..) f1, fun r hr => ?_⟩
  rw [least_eq h] at hr
  exact (f2 r (List.mem_filter.mp hr).1).2
end Ls
namespace Ls
open PySem PySem.Spec PyProof.Rows L2
theorem mkO {P : Program} {w : World} {K : Fr} {mg : Str → Option Value} {base : Heap} {x qual : Str} {params : Arguments} {body : List Stmt} {scope : Scope} {kws : List (Str × V)} {f : Addr} {fd : FuncData} {N ps : List Str} {k : Nat} {sp : Sp}
    (F : FunD K x qual params body scope [] kws f fd) (S : FnScope N ps scope) (len : ∀ vs H Q E, sp vs H Q E → vs.length = ps.length)
    (hb : ∀ (cdv : Value) (A : Around) (outer : List Env) (s : Shared) (H : Hp) (vs : List V) (Q : VK) (E : XK), Room k (A.deeper (envOfC qual scope s.heap.objs.size f cdv)) → sp vs H Q E →
      ∃ t, PSs (cxOf CX0 P w K mg base N qual scope f cdv A outer s H E).nox body t ∧ t { nx := fun _ H' => Q .non H', rt := Q } (start N vs) H) : FnOk P w K mg base CX0 (k + 1) f fd ps sp :=
  F.ok S len fun cdv A outer s H vs Q E hr h => let ⟨t, h1, h2⟩ := hb cdv A outer s H vs Q E hr h; ⟨t, h1.nox, h2⟩
theorem rngFirst {ta : TA} {g : TG} {tt : TT} {te : TE} {vs : List Nat} {σ : L2.St} {H : Hp} {Q : VK} (h : ta σ H fun ws H1 => ∃ j : Int, ws = [.int j] ∧ -(2 ^ 62) ≤ j ∧ j < 2 ^ 62 ∧ ∀ D, H1 D = none → ∃ W : Nat → Nat → Hp → Prop, (∃ m, W 0 m (upd H1 D (.lst []))) ∧ ∀ i m H, W i m H →
      ((Itr 0 j.toNat).stop i H ∧ Q (.ref D) H) ∨ ((Itr 0 j.toNat).go i H ∧ ∃ Nx : Hp → Prop, (∀ H', Nx H' → ∃ m', m' < m ∧ W (i + 1) m' H') ∧ ∀ x H', (Itr 0 j.toNat).yld i H x H' → g x (wipe σ vs) H' fun σ2 H2 => wipe σ2 vs = wipe σ vs ∧ tt σ2 H2 fun b H3 =>
        if b = true then te σ2 H3 fun y H4 => ∃ acc, H4 D = some (.lst acc) ∧ acc.length < sizeLine ∧ Nx (upd H4 D (.lst (acc ++ [y]))) else Nx H3)) : tLc (iRng1 ta) g tt te vs σ H Q := h
theorem SqL.same {K : Fr} {H H' : Hp} {a : Addr} {xs : List V} (e : Same H H') (h : SqL K H a xs) : SqL K H' a xs := by
  rcases h with (h | ⟨o, h⟩) | h
  · exact .inl (.inl (e _ _ h))
  · exact .inl (.inr ⟨o, e _ _ h⟩)
  · exact .inr h
theorem LcsAt.snoc {H : Hp} {xs : List V} {cs : List Ch} {v : V} {c : Ch} (h : LcsAt H xs cs) (hv : LcAt H v c) : LcsAt H (xs ++ [v]) (cs ++ [c]) := by
  refine ⟨by rw [List.length_append, List.length_append, h.1]; rfl, fun i d hd => ?_⟩
  rcases Nat.lt_or_ge i cs.length with hi | hi
  · rw [List.getElem?_append_left hi] at hd
    obtain ⟨v', h1, h2⟩ := h.2 i d hd
    exact ⟨v', (List.getElem?_append_left (h.1 ▸ hi)).trans h1, h2⟩
  · have hi2 := (List.getElem?_eq_some_iff.mp hd).1
    rw [List.length_append] at hi2
    obtain rfl : i = cs.length := by
      have : i < cs.length + 1 := hi2
      omega
    rw [List.getElem?_append_right (Nat.le_refl _), Nat.sub_self] at hd
    obtain rfl : c = d := Option.some.inj hd
    exact ⟨v, by rw [← h.1, List.getElem?_append_right (Nat.le_refl _), Nat.sub_self]; rfl, hv⟩
theorem r_rng1 {ta : TA} {g : TG} {tb : TS} {D : Ends} {σ : L2.St} {H : Hp} (h : ta σ H fun ws H1 => ∃ j : Int, ws = [.int j] ∧ -(2 ^ 62) ≤ j ∧ j < 2 ^ 62 ∧ ∃ W : Nat → Nat → L2.St → Hp → Prop, (∃ m, W 0 m σ H1) ∧ ∀ i m σ H, W i m σ H →
      ((Itr 0 j.toNat).stop i H ∧ D.nx σ H) ∨ ((Itr 0 j.toNat).go i H ∧ ∃ N : L2.St → Hp → Prop, (∀ σ' H', N σ' H' → ∃ m', m' < m ∧ W (i + 1) m' σ' H') ∧
        ∀ x H', (Itr 0 j.toNat).yld i H x H' → g x σ H' fun σ2 H2 => tb { D with nx := N, ct := N, bk := D.nx } σ2 H2)) : tFor (iRng1 ta) g tb D σ H := h
section
variable {w : World} {K : Fr} {mg : Str → Option Value} {base : Heap}
theorem _root_.L2.Room.units65 {k : Nat} {A : Around} (r : Room (k + 1) A) : A.units + 65 < cLine := by
  have := r.un
  omega
def sp_law (K : Fr) : Sp := fun vs H Q _ => ∃ (l : Addr) (ns : List Int), vs = [.ref l] ∧ SqL K H l (ns.map V.int) ∧ ∀ H', Q (.bl true) H'
abbrev n_law : List Str := ["_law_script", "_law_turn", "_law_source_here", "_law_parts_here", "_law_changes", "_law_n", "_law_menu_here", "_law_found", "_law_due", "_law_kept", "_law_row", "_law_k"]
theorem sc_law : FnScope n_law ["_law_script"] (defScope s_law) := ⟨rfl, rfl, rfl, by decide +kernel, rfl, by decide +kernel, by decide +kernel⟩
theorem fd_law (T : Tx K mg) {fd : FuncData} (F : FunA K d_law fd) : FnOk P w K mg base CX0 14 (He.ga K "law") fd ["_law_script"] (sp_law K) := by
  refine mkO F sc_law (fun vs H Q E h => ?_) (fun cdv A outer s H vs Q E hr h => ?_)
  · obtain ⟨l, ns, rfl, _⟩ := h
    rfl
  · obtain ⟨l, ns, rfl, hl, k⟩ := h
    refine ⟨_, (pss_cons (ps_for PassesOwn.never rfl (pi_range1 rfl T.f_range (pa_cons (pe_callB (call_max2 rfl) (by rfl) T.f_max (by decide +kernel) (pa_cons pe_int (pa_cons (pe_callB (call_min2 rfl) (by rfl) T.f_min (by decide +kernel) (pa_cons (pe_callB call_len_seq (by rfl) T.f_len PySem.boot_len (pa_cons (pv 0) pa_nil)) (pa_cons pe_int pa_nil))) pa_nil))) pa_nil)) (pg_name (i := 1) sc_law.nd rfl (Or.inl rfl)) (pss_cons (ps_set (i := 2) sc_law.nd rfl (Or.inr rfl) (pe_callR (ok_law_source T) (hr.mono (by decide)) rfl T.g_law_source (kp_law_source T) pass0 (pa_cons (pv 0) (pa_cons (pv 1) pa_nil))))
      (pss_cons (ps_set (i := 3) sc_law.nd rfl (Or.inl rfl) (pe_callR (ok_law_parts T) (hr.mono (by decide)) rfl T.g_law_parts (kp_law_parts T) pass0 (pa_cons (pv 2) (pa_cons pe_int pa_nil))))
      (pss_cons (ps_setLc (i := 4) (own := [("_law_k", 11)]) (g := gName 11) (tt := tYes) rfl sc_law.nd rfl rfl (sw_true rfl rfl rfl (by decide +kernel)) (pi_range1 rfl T.f_range (pa_cons (pe_callR (ok_law_draw T) (hr.mono (by decide)) rfl T.g_law_draw (kp_law_draw T) pass0 (pa_cons (pv 2) (pa_cons pe_int pa_nil))) pa_nil)) (blkOk_by (N := n_law) (sc := defScope s_law) (by decide +kernel)) (fun _ _ _ _ _ => (pg_name (i := 11) sc_law.nd rfl (Or.inl rfl))) (fun _ _ _ _ _ => pts_nil) (fun _ _ _ _ _ => (pe_callR (ok_law_change T) (hr.mono (by decide)) rfl T.g_law_change (kp_law_change T) pass0 (pa_cons (pv 2) (pa_cons pe_int pa_nil)))))
      (pss_cons (ps_set (i := 5) sc_law.nd rfl (Or.inl rfl) (pe_callR (ok_law_size T) (hr.mono (by decide)) rfl T.g_law_size (kp_law_size T) pass0 (pa_cons (pv 2) pa_nil)))
      (pss_cons (ps_set (i := 6) sc_law.nd rfl (Or.inl rfl) (pe_callR (ok_law_menu T) (hr.mono (by decide)) rfl T.g_law_menu (kp_law_menu T) pass0 (pa_cons (pe_callR (ok_law_scheme T) (hr.mono (by decide)) rfl T.g_law_scheme (kp_law_scheme T) pass0 (pa_cons (pv 3) pa_nil)) (pa_cons (pv 4) pa_nil))))
      (pss_cons (ps_set (i := 7) sc_law.nd rfl (Or.inl rfl) (pe_callR (ok_least_sets T) (hr.mono (by decide)) rfl T.g_least_sets (kp_least_sets T) pass0 (pa_cons (pv 6) (pa_cons (pv 5) pa_nil))))
      (pss_cons (ps_set (i := 8) sc_law.nd rfl (Or.inr rfl) (pe_callR (ok_law_least T) (hr.mono (by decide)) rfl T.g_law_least (kp_law_least T) pass0 (pa_cons (pv 3) (pa_cons (pv 4) (pa_cons (pv 5) pa_nil)))))
      (pss_cons (ps_if (PW.pt (pw_or (pt_not (pt_val (pe_callB call_isi (by rfl) T.f_isinstance (by decide +kernel) (pa_cons (pv 7) (pa_cons (pe_bltn (v := .ty "list") (u := .type "list") (by rfl) T.f_list (by decide +kernel) rfl) pa_nil))))) (pw_or (pt_not (pt_val (pe_callR (ok_law_ordered T) (hr.mono (by decide)) rfl T.g_law_ordered (kp_law_ordered T) pass0 (pa_cons (pv 7) pa_nil)))) (pw_or1 (pt_cmpR op_ne (pe_callB call_len_seq (by rfl) T.f_len PySem.boot_len (pa_cons (pv 7) pa_nil)) (pe_callB call_len_seq (by rfl) T.f_len PySem.boot_len (pa_cons (pv 8) pa_nil)) (nomark _)))))) (pss_one (ps_ret pe_bl)) pss_nil)
      (pss_cons (ps_if (pt_cmpR (op_neD hr.units) (pe_lc (own := [("_law_row", 10)]) (g := gName 10) rfl sc_law.nd (pi_list (pv 7)) (blkOk_by (N := n_law) (sc := defScope s_law) (by decide +kernel)) (fun _ _ _ _ _ => (pg_name (i := 10) sc_law.nd rfl (Or.inl rfl))) (fun _ _ _ _ _ => (pts_one (PW.pt (pw_or (pt_not (pt_val (pe_callB (clK (r := rIsi) K rfl call_isi) (by rfl) T.f_isinstance (by decide +kernel) (pa_cons (pv 10) (pa_cons (pe_bltn (v := .ty "list") (u := .type "list") (by rfl) T.f_list (by decide +kernel) rfl) pa_nil))))) (pw_or1 (pt_cmpR (opK (r := rNotInD) K rfl (op_notInD (hr.units65))) (pv 10) (pv 8) rfl)))))) (fun _ _ _ _ _ => (pv 10))) (pe_lst pa_nil) (nomark _)) (pss_one (ps_ret pe_bl)) pss_nil)
      (pss_cons (ps_setLc (i := 9) (own := [("_law_row", 10)]) (g := gName 10) (tt := tYes) rfl sc_law.nd rfl rfl (sw_true rfl rfl rfl (by decide +kernel)) (pi_list (pv 7)) (blkOk_by (N := n_law) (sc := defScope s_law) (by decide +kernel)) (fun _ _ _ _ _ => (pg_name (i := 10) sc_law.nd rfl (Or.inl rfl))) (fun _ _ _ _ _ => pts_nil) (fun _ _ _ _ _ => (pe_callTy (clK (r := rListOf) K rfl call_list_of) (by rfl) T.f_list (by decide +kernel) (pa_cons (pv 10) pa_nil))))
      (pss_cons (ps_for PassesOwn.never rfl (pi_list (pv 7)) (pg_name (i := 10) sc_law.nd rfl (Or.inl rfl)) (pss_one (ps_expr (pe_bm PySem.F.plainAttrs_list PySem.F.slot_list_append PySem.F.type_list_append mt_append (pv 10) (pa_cons pe_non pa_nil)))))
      (pss_one (ps_if (pt_cmpR (op_neD hr.units) (pe_callR (ok_least_sets T) (hr.mono (by decide)) rfl T.g_least_sets (kp_least_sets T) pass0 (pa_cons (pv 6) (pa_cons (pv 5) pa_nil))) (pv 9) (nomark _)) (pss_one (ps_ret pe_bl)) pss_nil))))))))))))))
      (pss_one (ps_ret pe_bl))), r_start (σ := [some (.ref l), none, none, none, none, none, none, none, none, none, none, none]) rfl ?_⟩
    walk_at "rd"
    refine r_rng1 ?_
    walk_at "rd"
    refine ⟨_, _, rfl, .inl hl, ?_⟩
    walk_at "rd"
    rw [List.length_map]
    generalize hmn : (if (4 : Int) < (ns.length : Int) then (4 : Int) else (ns.length : Int)) = mn
    generalize hmx : (if mn > (1 : Int) then mn else (1 : Int)) = mx
    have hmx4 : 0 ≤ mx ∧ mx ≤ 4 := by
      split at hmn <;> split at hmx <;> omega
    refine ⟨by omega, by omega, for_range (fun i σ H' => ∃ (c1 c2 c3 c4 c5 c6 c7 c8 c9 c10 c11 : Option V), σ = [some (.ref l), c1, c2, c3, c4, c5, c6, c7, c8, c9, c10, c11] ∧ Same H H') ?_ ?_ ?_⟩
    · exact ⟨_, _, _, _, _, _, _, _, _, _, _, rfl, Same.refl _⟩
    · rintro i σ H0 hi ⟨c1, c2, c3, c4, c5, c6, c7, c8, c9, c10, c11, rfl, e0⟩
      simp only [Int.zero_add]
      walk_at "rd"
      refine ⟨l, ns, (i : Int), rfl, SqL.same e0 hl, by omega, fun a x y na => ?_⟩
      have e1 := same_new (o := .lst [.int x, .int y]) na
      have S1 : SrcAt (upd H0 a (.lst [.int x, .int y])) a := ⟨x, y, upd_same⟩
      generalize upd H0 a (HO.lst [V.int x, V.int y]) = H1 at e1 S1 ⊢
      walk_at "rd"
      refine ⟨a, rfl, S1, fun pv s H2 hpv hok X2 S2 => ?_⟩
      walk_at "rd"
      refine rngFirst ?_
      walk_at "rd"
      refine ⟨a, 7, rfl, S2, div_const (by decide), fun d H3 d0 d7 X3 S3 => ?_⟩
      walk_at "rd"
      refine ⟨by omega, by omega, fun D nD => ?_⟩
      have neD : D ≠ a := S3.ne nD
      refine lc_range (fun j Hx => ∃ acc cs, Hx D = some (.lst acc) ∧ LcsAt Hx acc cs ∧ (∀ c ∈ cs, c.ok) ∧ cs.length = j ∧ SameX a H3 Hx ∧ SrcAt Hx a) ⟨[], [], upd_same, ⟨rfl, fun i c hc => by simp at hc⟩, fun c hc => by simp at hc, rfl, SameX.refl.same (same_new nD), S3.same (same_new nD)⟩ ?_ ?_
      · rintro j Hx hj ⟨acc, cs, hD, hcs, hco, hcl, X4, S4⟩
        refine ⟨rfl, ?_⟩
        refine r_yes ?_
        refine itet rfl ?_
        show tCallR (sp_law_change K) E0 (tCons (tVar 2) (tCons (tC (.int 100)) tNil)) [some (.ref l), some (.int i), some (.ref a), some pv, c4, c5, c6, c7, c8, c9, c10, some (.int (0 + (j : Int)))] Hx _
        walk_at "rd"
        refine ⟨a, rfl, S4, fun v c H5 hv hc X5 S5 => ?_⟩
        have hD5 := X5 _ _ hD neD
        have kt5 : Kt Hx H5 := Kt.src S4 X5
        have kt6 : Kt H5 (upd H5 D (.lst (acc ++ [v]))) := kt_lst hD5
        refine ⟨acc, hD5, small1000 (by rw [hcs.1, hcl]; omega), acc ++ [v], cs ++ [c], upd_same, ((hcs.kt kt5).snoc hv).kt kt6, fun c' hc' => ?_, by rw [List.length_append, hcl]; rfl, fun b o h hb => ?_, ?_⟩
        · rcases List.mem_append.mp hc' with z | z
          · exact hco _ z
          · rw [List.mem_singleton.mp z]
            exact hc
        · rw [upd_ne (ne_of_none h nD)]
          exact X5 _ _ (X4 _ _ h hb) hb
        · obtain ⟨x2, y2, q⟩ := S5
          exact ⟨x2, y2, by rw [upd_ne (Ne.symm neD)]; exact q⟩
      · rintro Hx ⟨acc, cs, hD, hcs, hco, hcl, X4, S4⟩
        have hle : cs.length ≤ 6 := by omega
        have hpv2 := (hpv.kt (Kt.src S2 X3)).kt (Kt.src S3 X4)
        have X := (X2.trans X3).trans X4
        clear hpv X2 X3 X4 S2 S3 nD hcl d0 d7
        walk_at "rd"
        refine ⟨a, rfl, S4, fun n H4 n1 n2 X5 S5 => ?_⟩
        have hpv4 := hpv2.kt (Kt.src S4 X5)
        have hcs4 := hcs.kt (Kt.src S4 X5)
        have hD4 := X5 _ _ hD neD
        have E4 : Same H0 H4 := fun c o h => X5 _ _ (X _ _ (e1 _ _ h) (ne_of_none h na)) (ne_of_none h na)
        clear X X5 S4 S5 hpv2 hcs hD S1 e1
        walk_at "rd"
        refine ⟨pv, s, rfl, hpv4, hok, fun p H5 e5 hp => ?_⟩
        walk_at "rd"
        refine ⟨p, D, s, acc, cs, rfl, hp, hok, e5 _ _ hD4, hcs4.kt (Kt.of e5), hco, hle, fun m H6 e6 hm => ?_⟩
        have e46 := e5.trans e6
        walk_at "rd"
        refine ⟨m, n, s, cs, rfl, hm, hok, hco, hle, n1, n2, fun fl fx H7 e7 nfl hfl rf => ?_⟩
        have e47 := e46.trans e7
        walk_at "rd"
        refine ⟨pv, D, s, acc, cs, n, rfl, hpv4.kt (Kt.of e47), hok, e47 _ _ hD4, hcs4.kt (Kt.of e47), hco, hle, n1, fun dl dx H8 e8 hdl rd => ?_⟩
        obtain ⟨q1, q2, q3⟩ := least_law (s := s) (cs := cs) (n := n) hle
        obtain ⟨z1, z2⟩ := least_small (s := s) (cs := cs) (n := n) hle
        have e68 := e7.trans e8
        have hfl8 := e8 _ _ hfl
        have rf8 := rf.same e8
        walk_at "rd"
        refine r_isi (.ty "list") (.base (.lst hfl8)) (b := true) (kit_ty (by decide +kernel)) ?_
        walk_at "rd"
        refine ⟨fl, fx, _, rfl, hfl8, rf8.weak fun _ _ => trivial, q3, fun H9 e9 => ?_⟩
        refine ⟨true, rfl, itef rfl ?_⟩
        have hfl9 := e9 _ _ hfl8
        have hdl9 := e9 _ _ hdl
        have rf9 := rf8.same e9
        have rd9 := rd.same e9
        have e69 := e68.trans e9
        have e06 : Same H0 H6 := E4.trans e46
        have e09 : Same H0 H9 := E4.trans (e47.trans (e8.trans e9))
        have hm9 := hm
        clear hpv4 hcs4 hD4 e5 hp e6 e46 e7 rf e47 e8 hdl rd e68 hfl8 rf8 e9 hfl
        walk_at "rd"
        refine ⟨_, _, rfl, .inl (SqL.of hfl9), ?_⟩
        walk_at "rd"
        refine ⟨_, _, rfl, .inl (SqL.of hdl9), ?_⟩
        walk_at "rd"
        rw [rf9.len, rd9.len, q1]
        refine itef (by rw [decide_eq_true rfl]; rfl) ?_
        walk_at "rd"
        refine ⟨.ref fl, rfl, fl, rfl, ⟨fx, SqL.of hfl9⟩, fun D2 nD2 => ?_⟩
        refine lc_list (xs := fx) (fun j Hy => Hy D2 = some (.lst []) ∧ Same H9 Hy) ⟨upd_same, same_new nD2⟩ (fun j Hy _ ⟨_, ey⟩ => SqL.of (ey _ _ hfl9)) ?_ ?_
        · rintro j v Hy hj ⟨hD2, ey⟩
          obtain ⟨q, r, rfl, hr, _, hq⟩ := rf9.at_ hj
          refine ⟨rfl, ?_⟩
          show tOr (tNot (tB (tCB (rIsi K) (tCons (tVar 10) (tCons (tC (V.ty "list")) tNil))))) (tTest (tOp (rNotInD K) (tVar 10) (tVar 8))) [some (.ref l), some (.int i), some (.ref a), some pv, some (.ref D), some (.int n), some (.ref m), some (.ref fl), some (.ref dl), c9, some (.ref q), c11] Hy _
          walk_at "rd"
          refine r_isi (.ty "list") (.base (.lst (ey _ _ hq))) (b := true) (kit_ty (by decide +kernel)) ?_
          walk_at "rd"
          refine ⟨rD r, (lawLeast s cs n).map rD, dp_row (ey _ _ hq), (rd9.same ey).dpl (ey _ _ hdl9), rD_shaped _, rsD_shaped _, ?_⟩
          have hin : ((lawLeast s cs n).map rD).any (fun z => PyData.eqv z (rD r)) = true := by
            rw [List.any_map]
            refine List.any_eq_true.mpr ⟨r, q2 r (List.mem_of_getElem? hr), ?_⟩
            show PyData.eqv (rD r) (rD r) = true
            rw [rD_eqv]
            exact decide_eq_true rfl
          rw [hin]
          exact ⟨false, rfl, itef rfl ⟨hD2, ey⟩⟩
        · rintro Hy ⟨hD2, ey⟩
          walk_at "rd"
          intro l2 nl2
          refine r_neD (.lst (SqL.of (same_new nl2 _ _ hD2)) .nil) (.lst (SqL.of upd_same) .nil) (rsD_shaped []) (rsD_shaped []) ?_
          rw [show PyData.list [] = rsD [] from rfl, rsD_eqv]
          walk_at "rd"
          refine itef (by rfl) ?_
          have e10 := ey.trans (same_new (o := .lst []) nl2)
          generalize upd Hy l2 (HO.lst []) = H10 at e10 ⊢
          have hfl10 := e10 _ _ hfl9
          have rf10 := rf9.same e10
          have e610 := e69.trans e10
          have e010 := e09.trans e10
          clear hfl9 rf9 e69 e09 hdl9 rd9 nD2 ey hD2 nl2
          walk_at "rd"
          refine ⟨.ref fl, rfl, fl, rfl, ⟨fx, SqL.of hfl10⟩, fun D3 nD3 => ?_⟩
          refine lc_list (xs := fx) (fun j Hy => ∃ acc, Hy D3 = some (.lst acc) ∧ RowsAt (fun p => H10 p = none ∧ p ≠ D3) Hy acc ((least s cs n).take j) ∧ Same H10 Hy) ⟨[], upd_same, .nil, same_new nD3⟩ (fun j Hy _ ⟨_, _, _, ey⟩ => SqL.of (ey _ _ hfl10)) ?_ ?_
          · rintro j v Hy hj ⟨acc, hacc, racc, ey⟩
            obtain ⟨q, r, rfl, hr, _, hq⟩ := rf10.at_ hj
            refine ⟨rfl, ?_⟩
            refine r_yes ?_
            refine itet rfl ?_
            show tCB (rListOf K) (tCons (tVar 10) tNil) [some (.ref l), some (.int i), some (.ref a), some pv, some (.ref D), some (.int n), some (.ref m), some (.ref fl), some (.ref dl), c9, some (.ref q), c11] Hy _
            walk_at "rd"
            refine ⟨q, _, rfl, .inl (SqL.of (ey _ _ hq)), fun z nz => ?_⟩
            have ez : Same Hy (upd Hy z (.lst (r.map V.int))) := same_new nz
            have neZ : z ≠ D3 := fun t => by
              rw [t, hacc] at nz
              cases nz
            refine ⟨acc, ez _ _ hacc, small1000 (by
              rw [racc.len, List.length_take]
              omega), acc ++ [.ref z], upd_same, ?_, fun c o h => ?_⟩
            · rw [List.take_add_one, hr]
              exact ((racc.same ez).app (.one ⟨free_of ey nz, neZ⟩ upd_same)).put fun _ t => t.2
            · rw [upd_ne (ne_of_none h nD3)]
              exact ez _ _ (ey _ _ h)
          · rintro Hy ⟨kx, hkx, rk, ey⟩
            rw [rf10.len, List.take_length] at rk
            walk_at "rd"
            have hrow : ∀ q, V.ref q ∈ fx → H6 q = none ∧ q ≠ fl ∧ ∃ r : List Int, H10 q = some (.lst (r.map V.int)) ∧ r.length ≤ 6 := fun q hq => by
              obtain ⟨t, ht⟩ := List.getElem?_of_mem hq
              obtain ⟨q', r, eq, hr, hN, hq'⟩ := rf10.at_ ht
              cases eq
              exact ⟨hN.1, hN.2, r, hq', z2 r (List.mem_of_getElem? hr)⟩
            have nfx : V.ref fl ∉ fx := fun z => (hrow fl z).2.1 rfl
            have hfly := ey _ _ hfl10
            have fl64 : fx.length ≤ 64 := by
              rw [rf10.len]
              exact z1
            refine ⟨.ref fl, rfl, fl, rfl, ⟨fx, SqL.of hfly⟩, for_list (xs := fx) (fun j σ Hz => ∃ c10 : Option V, σ = [some (.ref l), some (.int i), some (.ref a), some pv, some (.ref D), some (.int n), some (.ref m), some (.ref fl), some (.ref dl), some (.ref D3), c10, c11] ∧
              (∀ c o, Hy c = some o → V.ref c ∉ fx → Hz c = some o) ∧ (∀ q, V.ref q ∈ fx → ∃ ys, Hz q = some (.lst ys) ∧ ys.length ≤ 6 + j)) ?_ (fun j σ Hz _ ⟨_, _, e, _⟩ => SqL.of (e _ _ hfly nfx)) ?_ ?_⟩
            · refine ⟨_, rfl, fun _ _ h _ => h, fun q hq => ?_⟩
              obtain ⟨_, _, r, h1, h2⟩ := hrow q hq
              exact ⟨_, ey _ _ h1, by rw [List.length_map]; omega⟩
            · rintro j v σ Hz hj ⟨c10, rfl, f1, f2⟩
              have hjl : j < fx.length := (List.getElem?_eq_some_iff.mp hj).1
              obtain ⟨q, r, rfl, _⟩ := rf10.at_ hj
              have hqm := List.mem_of_getElem? hj
              obtain ⟨ys, hys, hyl⟩ := f2 q hqm
              walk_at "rd"
              refine r_bm ?_
              walk_at "rd"
              refine ⟨.ref q, rfl, ty_lst (SqL.of hys), ?_⟩
              walk_at "rd"
              refine ⟨q, ys, .non, rfl, rfl, hys, small1000 (by omega), _, rfl, fun c o h nc => ?_, fun q' hq' => ?_⟩
              · have hcq : c ≠ q := fun z => nc (by rw [z]; exact hqm)
                rw [upd_ne hcq]
                exact f1 c o h nc
              · by_cases hqq : q' = q
                · subst hqq
                  exact ⟨_, upd_same, by rw [List.length_append]; show ys.length + 1 ≤ _; omega⟩
                · obtain ⟨ys', g1, g2⟩ := f2 q' hq'
                  exact ⟨ys', by rw [upd_ne hqq]; exact g1, by omega⟩
            · rintro σ Hz ⟨c10, rfl, f1, f2⟩
              have k6 : Same H6 Hz := fun c o h => f1 _ _ (ey _ _ (e610 _ _ h)) fun z => by
                rw [(hrow c z).1] at h
                cases h
              have k0 : Same H0 Hz := e06.trans k6
              have nf : ∀ c, H10 c = none → V.ref c ∉ fx := fun c h z => by
                obtain ⟨_, _, r, h1, _⟩ := hrow c z
                rw [h] at h1
                cases h1
              have hkz := f1 _ _ hkx (nf _ nD3)
              have rkz : RowsAt AnyA Hz kx (least s cs n) := rk.imp fun c r hN h => ⟨trivial, f1 _ _ h (nf c hN.1)⟩
              walk_at "rd"
              refine ⟨m, n, s, cs, rfl, hm.same k6, hok, hco, hle, n1, n2, fun l3 x3 Hw ew nl3 hl3 r3 => ?_⟩
              walk_at "rd"
              refine r_neD (r3.dpl hl3) ((rkz.same ew).dpl (ew _ _ hkz)) (rsD_shaped _) (rsD_shaped _) ?_
              rw [rsD_eqv]
              refine ⟨_, rfl, itef (by rw [decide_eq_true rfl]; rfl) ?_⟩
              refine r_next ?_
              exact ⟨_, _, _, _, _, _, _, _, _, _, _, rfl, e0.trans (k0.trans ew)⟩
    · rintro σ H' ⟨c1, c2, c3, c4, c5, c6, c7, c8, c9, c10, c11, rfl, e⟩
      walk_at "rd"
      exact k _
end
end Ls
set_option Elab.async false
set_option linter.all false
set_option maxRecDepth 100000
set_option maxHeartbeats 0
open PySem PySem.W PySem.Calls PyProof.Rows
theorem PySem.Challenge.cw_ringindexes_k86_whole_least_sets_for_a_s_holds : PySem.Challenge.rw_ringindexes_k86_whole_least_sets_for_a_s.Holds := by
  w_on; o_law
  refine HandSHeadRun.head_any (r := OpenLaw.row PySem.Challenge.rw_ringindexes_k86_whole_least_sets_for_a_s) (q := view (OpenLaw.row PySem.Challenge.rw_ringindexes_k86_whole_least_sets_for_a_s).prog [120]) (H := Ls.hk) (ob := Ls.ob) (M := 20000) (loose := Ls.names) (d := HandSHeadRun.topDef (OpenLaw.row PySem.Challenge.rw_ringindexes_k86_whole_least_sets_for_a_s).prog 120) (kwd := []) Ls.ob_eq
    (by kernel_rfl) (fun s => by kernel_rfl) Ls.run (by kernel_rfl) (by kernel_rfl) (by kernel_rfl) (by rfl) (by first | assumption | decide +kernel) (by decide +kernel) ⟨rfl, rfl, rfl, rfl, rfl, by decide +kernel⟩ ?hw ?hc
  case hw => w_witness2
  case hc =>
    refine L2.walk_ofE (l := PySem.Challenge.rw_ringindexes_k86_whole_least_sets_for_a_s) (n := 63) (k := 14) (x := "_law_script") (CX := L2.CX0) rfl (by decide) (by kernel_rfl) ⟨rfl, by decide, by decide⟩ ?F (fun _ _ _ _ z => z)
    intro w mg fa h Y G hmg0
    obtain ⟨K, KX, c⟩ := Y
    have hmg : mg ("law" : PySem.Str) = some (.ref fa) := by
      have e : (HandSHeadRun.topDef (OpenLaw.row PySem.Challenge.rw_ringindexes_k86_whole_least_sets_for_a_s).prog 120).name = ("law" : PySem.Str) := by kernel_rfl
      rw [← e]
      exact hmg0
    have T := Ls.tx_of KX G c
    have e := hmg.symm.trans T.g_law
    cases e
    obtain ⟨fd, F⟩ := T.d_law
    have b := L2.FunD.bindsA (ps := ["_law_script"]) F fun _ _ _ _ _ _ us hl => match us, hl with | [_], _ => rfl
    exact ⟨K, fd, Ls.sp_law K, KX, fun s v => b s [v] rfl, fun H a ns hl _ hS => ⟨a, ns, rfl, hS, fun _ => rfl⟩, fun base KB GB => Ls.fd_law (Ls.tx_of KB GB c) F⟩
