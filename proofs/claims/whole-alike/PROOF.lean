import PyProof.Rows.All
import Wide.All
import OpenK.AllK
import Wide.FinOn
import KE.KStateDown
import HandS.Base
import HandS.Call
import HandS.Ends
import HandS.Words
import HandS.Defaults
import HandS.Head0
import HandS.Head1
import HandS.Head2
import HandS.HeadEnd
import HandS.HeadHook1
import HandS.HeadHook2
import PySem.Challenge.RW_bitsback_k78_whole_alike_from_all
import HandS.ForMost
import HandS.Deep
import HandS.Walk
import HandS.NoneIn
import HandS.Flow
import HandS.WideBits
import HandS.Conv
import HandS.TupSets
import HandS.IsInst
import KE.GoesMore
import KE.GoesEnum
import HandS.Sort
import HandS.More
import KE.KDictZip
import HandS.Text
set_option Elab.async false
set_option linter.all false
set_option maxRecDepth 100000
set_option maxHeartbeats 4000000
section
/-! the text by places (printed by gen_head.py) -/
namespace BB
open PySem L2
def top (i : Nat) : Stmt := PySem.Challenge.pw_bitsback_k78_whole_alike_from_all.main.body.getD i (.Pass ⟨0, 0, 0, 0⟩)
abbrev s_number_of : Stmt := top 2
abbrev s_bits_of : Stmt := top 3
abbrev s_places_of : Stmt := top 4
abbrev s_parity : Stmt := top 5
abbrev s_times : Stmt := top 6
abbrev s_behind : Stmt := top 7
abbrev s_Span___init__ : Stmt := inClass (top 8) 0
abbrev s_Span_reduced : Stmt := inClass (top 8) 1
abbrev s_Span_put : Stmt := inClass (top 8) 2
abbrev s_Span_made_of : Stmt := inClass (top 8) 3
abbrev s_combined : Stmt := top 9
abbrev s_check_wires : Stmt := top 44
abbrev s_equation_of : Stmt := top 45
abbrev s_check_settled : Stmt := top 46
abbrev s_settled : Stmt := top 47
abbrev s_Table___init__ : Stmt := inClass (top 50) 0
abbrev s_Motion___init__ : Stmt := inClass (top 51) 0
abbrev s_Motion_looks_until : Stmt := inClass (top 51) 3
abbrev s_motion_of : Stmt := top 52
abbrev s_paired : Stmt := top 53
abbrev s_shown : Stmt := top 54
abbrev s_Net___init__ : Stmt := inClass (top 61) 0
abbrev s_Net_table : Stmt := inClass (top 61) 4
abbrev s_state_for : Stmt := top 63
abbrev s_check_frame : Stmt := top 65
abbrev s_first_difference : Stmt := top 66
abbrev s_both : Stmt := top 67
abbrev s_twin_of : Stmt := top 68
abbrev s_FromAll___init__ : Stmt := inClass (top 69) 0
abbrev s_from_all : Stmt := top 70
abbrev s__law_draw : Stmt := top 72
abbrev s__law_places : Stmt := top 73
abbrev s__law_wires : Stmt := top 74
abbrev s__law_flips : Stmt := top 75
abbrev s__law_settled : Stmt := top 76
abbrev s__law_net : Stmt := top 77
abbrev s__law_bits : Stmt := top 78
abbrev s__law_units : Stmt := top 79
abbrev s__law_tables : Stmt := top 80
abbrev s__law_first : Stmt := top 81
abbrev s__law_added : Stmt := top 82
abbrev s__law_step : Stmt := top 83
abbrev s__law_run : Stmt := top 84
abbrev s__law_bare : Stmt := top 85
abbrev s__law_turned : Stmt := top 86
abbrev s__law_wired : Stmt := top 87
abbrev s__law_ghost : Stmt := top 88
abbrev s__law_other : Stmt := top 89
abbrev s__law_times : Stmt := top 90
abbrev s__law_ring : Stmt := top 91
abbrev s__law_companion : Stmt := top 92
abbrev s__law_flow : Stmt := top 93
abbrev s__law_quiet_pair : Stmt := top 94
abbrev s__law_late_pair : Stmt := top 95
abbrev s__law_pair : Stmt := top 96
abbrev s__law_answer : Stmt := top 97
abbrev s__law_difference : Stmt := top 98
abbrev s__law_all : Stmt := top 99
abbrev s__law_runs : Stmt := top 100
abbrev s__law_twins : Stmt := top 101
abbrev s__law_against : Stmt := top 102
abbrev s_law : Stmt := top 103
end BB
end
section
set_option maxHeartbeats 0
/-! a hook by addresses -/
namespace BB
open PySem PySem.Spec PyProof.Rows L2
/-- the objects at these addresses, one after another -/
def grab {α : Type} (g : Addr → Option Obj) : List Addr → (PySem.W.Frag → α) → α
  | [], k => k []
  | a :: r, k => (match g a with
    | some o => grab g r fun K => k ((a, o) :: K)
    | none => grab g r k)
theorem grab_eq {α : Type} (g : Addr → Option Obj) : ∀ (as : List Addr) (k : PySem.W.Frag → α), grab g as k = k (grab g as id)
  | [], k => rfl
  | a :: r, k => by
    unfold grab
    cases g a with
    | none => exact grab_eq g r k
    | some o =>
      show grab g r (fun K => k ((a, o) :: K)) = k (grab g r fun K => (a, o) :: K)
      rw [grab_eq g r, grab_eq g r fun K => (a, o) :: K]
theorem grab_in (h : Heap) : ∀ as : List Addr, PySem.W.Frag.In (grab h.get? as id) h
  | [] => fun _ _ e => by cases e
  | a :: r => by
    unfold grab
    cases e : h.get? a with
    | none => exact grab_in h r
    | some o =>
      show PySem.W.Frag.In (grab h.get? r fun K => (a, o) :: K) h
      rw [grab_eq]
      intro b u q
      by_cases z : b = a
      · subst z
        have q' : (match b == b with | true => some o | false => (grab h.get? r id).lookup b) = some u := q
        rw [beq_self_eq_true] at q'
        cases q'
        exact e
      · have q' : (match b == a with | true => some o | false => (grab h.get? r id).lookup b) = some u := q
        rw [show (b == a) = false from beq_eq_false_iff_ne.mpr z] at q'
        exact grab_in h r b u q'
structure DA where
  addr : Addr
  name : Str
  qual : Str
  st : Stmt
  dfl : List V
abbrev FV : Type := Option (Str × Str × Arguments × FuncBody × Scope × Addr × List (Str × Addr) × Addr)
def seen (K : PySem.W.Frag) (a : Addr) : FV := (match K.lookup a with
  | some ⟨_, _, .func z, _⟩ => some (z.name, z.qualname, z.params, z.body, z.scope, z.globals, z.closure, z.builtins)
  | _ => none)
def DA.told (d : DA) : FV := some (d.name, d.qual, defArgs d.st, .stmts (defBody d.st), defScope d.st, mainGlobals, [], builtinsNs)
def DA.ok (K : PySem.W.Frag) (d : DA) : Bool := (match K.lookup d.addr with
  | some ⟨_, _, .func z, _⟩ => PySem.W.codeIn K z.code d.qual && (He.dflB K z.defaults d.dfl && He.kwdB K z.kwdefaults [])
  | _ => false)
theorem DA.fun {K : PySem.W.Frag} {d : DA} (e : seen K d.addr = d.told) (c : d.ok K = true) : ∃ fd, FunD K d.name d.qual (defArgs d.st) (defBody d.st) (defScope d.st) d.dfl [] d.addr fd := by
  unfold seen at e
  unfold DA.ok at c
  cases q : K.lookup d.addr with
  | none => rw [q] at c; cases c
  | some o =>
    obtain ⟨oc, od, dt, osl⟩ := o
    rw [q] at e c
    cases dt with
    | func z =>
      obtain ⟨n1, n2, n3, n4, n5, n6, n7, n8, n9, n10, n11, n12, n13, n14, n15⟩ := z
      have e2 : (some (n1, n2, n3, n4, n5, n6, n7, n15) : FV) = some (d.name, d.qual, defArgs d.st, .stmts (defBody d.st), defScope d.st, mainGlobals, [], builtinsNs) := e
      injection e2 with e3
      injection e3 with a1 e3
      injection e3 with a2 e3
      injection e3 with a3 e3
      injection e3 with a4 e3
      injection e3 with a5 e3
      injection e3 with a6 e3
      injection e3 with a7 a8
      subst a1 a2 a3 a4 a5 a6 a7 a8
      have c3 : (PySem.W.codeIn K n13 d.qual && (He.dflB K n8 d.dfl && He.kwdB K n9 [])) = true := c
      rw [Bool.and_eq_true, Bool.and_eq_true] at c3
      refine ⟨_, ⟨oc, od, n8, n9, n10, n11, n12, n13, n14, osl, rfl, q, c3.1, He.dflB_ok c3.2.1, He.kwdB_ok c3.2.2⟩, ?_⟩
      show (match K.lookup d.addr with
        | some ⟨_, _, .func _, _⟩ => true
        | some ⟨_, _, .cls _, _⟩ => PySem.W.specialIn K (.ref d.addr) "__call__" == some (some (.builtin "type.__call__"))
        | _ => false) = true
      rw [q]
    | _ => cases c
/-- what else is asked, by addresses -/
inductive Ask where
  | glo (x : Str) (a : Addr)
  | free (x : Str)
  | cls (C : Addr)
  | noat (C : Addr) (f : Str)
  | meth (C : Addr) (m : Str) (a : Addr)
  | mkr (C a : Addr)
  | tup (a : Addr) (vs : List V)
def tupAt (K : PySem.W.Frag) (a : Addr) (vs : List V) : Bool := (match K.lookup a with
  | some ⟨.type c, _, .seq its _, _⟩ => decide (c = "tuple") && (decide (its.size ≤ sizeLine) && He.relAll vs its.toList)
  | _ => false)
def Ask.ok (K : PySem.W.Frag) : Ask → Bool
  | .glo x a => He.eqO (PySem.W.nsIn K mainGlobals x) (some (some (.ref a)))
  | .free x => He.eqO (PySem.W.nsIn K mainGlobals x) (some none)
  | .cls C => (PySem.W.plainGet K C Str.empty && PySem.W.hasDictIn K C) && (PySem.W.plainOver K C && He.eqO (PySem.W.findIn K (.ref C) "__setattr__") (some (some (.builtin "object.__setattr__"))))
  | .noat C f => He.eqO (PySem.W.findIn K (.ref C) f) (some none)
  | .meth C m a => He.eqO (PySem.W.findIn K (.ref C) m) (some (some (.ref a))) && (PySem.W.isFn K (.ref a) && PySem.W.keepIn K (.ref a))
  | .mkr C a => (PySem.W.makesIn K C && He.eqO (PySem.W.findIn K (.ref C) "__init__") (some (some (.ref a)))) && (PySem.W.isFn K (.ref a) && PySem.W.keepIn K (.ref C))
  | .tup a vs => tupAt K a vs
section
variable {K : PySem.W.Frag} {h : Heap} {mg : Str → Option Value} {C a : Addr} {x f m : Str}
theorem and2 {a b : Bool} (h : (a && b) = true) : a = true ∧ b = true := by rw [Bool.and_eq_true] at h; exact h
theorem Ask.gloOk (X : K.In h) (G : h.Ns mainGlobals mg) (c : (Ask.glo x a).ok K = true) : mg x = some (.ref a) := PySem.W.mg_of X G (He.eqO_ok c)
theorem Ask.freeOk (X : K.In h) (G : h.Ns mainGlobals mg) (c : (Ask.free x).ok K = true) : mg x = none := PySem.W.mg_none_of X G (He.eqO_ok c)
theorem Ask.clsOk (c : (Ask.cls C).ok K = true) : Cls K C := ⟨(and2 (and2 c).1).1, (and2 (and2 c).1).2, (and2 (and2 c).2).1, He.eqO_ok (and2 (and2 c).2).2⟩
theorem Ask.noatOk (c : (Ask.noat C f).ok K = true) : NoAttr K C f := He.eqO_ok c
theorem Ask.methOk (c : (Ask.meth C m a).ok K = true) : Meth K C m a := ⟨He.eqO_ok (and2 c).1, (and2 (and2 c).2).1, (and2 (and2 c).2).2⟩
theorem Ask.mkrOk (c : (Ask.mkr C a).ok K = true) : Mk K C a := ⟨(and2 (and2 c).1).1, He.eqO_ok (and2 (and2 c).1).2, (and2 (and2 c).2).1, (and2 (and2 c).2).2⟩
theorem Ask.tupOk {vs : List V} (c : (Ask.tup a vs).ok K = true) (H : Hp) : SqT K H a vs := by
  have c : tupAt K a vs = true := c
  unfold tupAt at c
  cases q : K.lookup a with
  | none => rw [q] at c; cases c
  | some o =>
    obtain ⟨oc, od, dt, osl⟩ := o
    rw [q] at c
    cases oc with
    | type n =>
      cases dt with
      | seq its k =>
        have c := and2 (show (decide (n = "tuple") && (decide (its.size ≤ sizeLine) && He.relAll vs its.toList)) = true from c)
        exact .inr ⟨_, its, k, q, congrArg Value.type (of_decide_eq_true c.1), rfl, of_decide_eq_true (and2 c.2).1, He.relAll_ok (and2 c.2).2⟩
      | _ => cases c
    | _ => cases dt <;> cases c
end
abbrev Got : Type := Bool × List FV
def lookAt (qs : List Ask) (ds : List DA) (K : PySem.W.Frag) : Got := ((qs.all fun q => q.ok K) && ds.all fun d => d.ok K, ds.map fun d => seen K d.addr)
def wanted (ds : List DA) : Got := (true, ds.map DA.told)
def hookA (as : List Addr) (qs : List Ask) (ds : List DA) : PySem.W.Hook where
  α := Got
  obs := fun s => grab s.heap.get? as (lookAt qs ds)
  val := fun _ => wanted ds
  says := fun _ h => ∃ K : PySem.W.Frag, K.In h ∧ lookAt qs ds K = wanted ds
  of := fun _ s e => ⟨_, grab_in s.heap as, by rw [grab_eq] at e; exact e⟩
  keeps := fun _ _ _ ⟨K, hK, c⟩ k => ⟨K, PySem.W.Frag.In.keeps hK k, c⟩
theorem hookA_eq {as : List Addr} {qs : List Ask} {ds : List DA} {g : Addr → Option Obj} {s : Shared} (h : ∀ a, g a = s.heap.get? a) : grab g as (lookAt qs ds) = (hookA as qs ds).obs s := by
  rw [show g = s.heap.get? from funext h] <;> rfl
section
variable {qs : List Ask} {ds : List DA} {K : PySem.W.Frag}
theorem asked (c : lookAt qs ds K = wanted ds) (i : Nat) {q : Ask} (h : qs[i]? = some q := by rfl) : q.ok K = true :=
  List.all_eq_true.mp (and2 (congrArg (fun z : Got => z.1) c)).1 q (List.mem_of_getElem? h)
theorem defAt (c : lookAt qs ds K = wanted ds) (i : Nat) {d : DA} (h : ds[i]? = some d := by rfl) : ∃ fd, FunD K d.name d.qual (defArgs d.st) (defBody d.st) (defScope d.st) d.dfl [] d.addr fd := by
  have c2 := List.all_eq_true.mp (and2 (congrArg (fun z : Got => z.1) c)).2 d (List.mem_of_getElem? h)
  have e : ds.map (fun d => seen K d.addr) = ds.map DA.told := congrArg (fun z : Got => z.2) c
  have e2 := congrArg (fun l => l[i]?) e
  simp only [List.getElem?_map, h] at e2
  exact DA.fun (Option.some.inj e2) c2
end
end BB
end
section
set_option maxHeartbeats 0
/-! the head: facts by addresses, the top's run (printed by gen_head.py) -/
namespace BB
open PySem PySem.Spec PyProof.Rows L2
def d_number_of : DA := ⟨28, "number_of", "number_of", s_number_of, []⟩
def d_bits_of : DA := ⟨33, "bits_of", "bits_of", s_bits_of, []⟩
def d_places_of : DA := ⟨38, "places_of", "places_of", s_places_of, []⟩
def d_parity : DA := ⟨45, "parity", "parity", s_parity, []⟩
def d_times : DA := ⟨52, "times", "times", s_times, []⟩
def d_behind : DA := ⟨59, "behind", "behind", s_behind, []⟩
def d_Span___init__ : DA := ⟨75, "__init__", "Span.__init__", s_Span___init__, [.ref 67]⟩
def d_Span_reduced : DA := ⟨82, "reduced", "Span.reduced", s_Span_reduced, []⟩
def d_Span_put : DA := ⟨89, "put", "Span.put", s_Span_put, []⟩
def d_Span_made_of : DA := ⟨96, "made_of", "Span.made_of", s_Span_made_of, []⟩
def d_combined : DA := ⟨108, "combined", "combined", s_combined, []⟩
def d_check_wires : DA := ⟨758, "check_wires", "check_wires", s_check_wires, []⟩
def d_equation_of : DA := ⟨765, "equation_of", "equation_of", s_equation_of, []⟩
def d_check_settled : DA := ⟨770, "check_settled", "check_settled", s_check_settled, []⟩
def d_settled : DA := ⟨775, "settled", "settled", s_settled, []⟩
def d_Table___init__ : DA := ⟨792, "__init__", "Table.__init__", s_Table___init__, []⟩
def d_Motion___init__ : DA := ⟨818, "__init__", "Motion.__init__", s_Motion___init__, []⟩
def d_Motion_looks_until : DA := ⟨837, "looks_until", "Motion.looks_until", s_Motion_looks_until, []⟩
def d_motion_of : DA := ⟨849, "motion_of", "motion_of", s_motion_of, []⟩
def d_paired : DA := ⟨854, "paired", "paired", s_paired, []⟩
def d_shown : DA := ⟨859, "shown", "shown", s_shown, []⟩
def d_Net___init__ : DA := ⟨893, "__init__", "Net.__init__", s_Net___init__, []⟩
def d_Net_table : DA := ⟨922, "table", "Net.table", s_Net_table, []⟩
def d_state_for : DA := ⟨961, "state_for", "state_for", s_state_for, []⟩
def d_check_frame : DA := ⟨968, "check_frame", "check_frame", s_check_frame, []⟩
def d_first_difference : DA := ⟨973, "first_difference", "first_difference", s_first_difference, []⟩
def d_both : DA := ⟨980, "both", "both", s_both, []⟩
def d_twin_of : DA := ⟨985, "twin_of", "twin_of", s_twin_of, []⟩
def d_FromAll___init__ : DA := ⟨1001, "__init__", "FromAll.__init__", s_FromAll___init__, [.non, .non, .ref 993]⟩
def d_from_all : DA := ⟨1015, "from_all", "from_all", s_from_all, []⟩
def d__law_draw : DA := ⟨1022, "_law_draw", "_law_draw", s__law_draw, []⟩
def d__law_places : DA := ⟨1027, "_law_places", "_law_places", s__law_places, []⟩
def d__law_wires : DA := ⟨1032, "_law_wires", "_law_wires", s__law_wires, []⟩
def d__law_flips : DA := ⟨1037, "_law_flips", "_law_flips", s__law_flips, []⟩
def d__law_settled : DA := ⟨1042, "_law_settled", "_law_settled", s__law_settled, []⟩
def d__law_net : DA := ⟨1047, "_law_net", "_law_net", s__law_net, []⟩
def d__law_bits : DA := ⟨1052, "_law_bits", "_law_bits", s__law_bits, []⟩
def d__law_units : DA := ⟨1057, "_law_units", "_law_units", s__law_units, []⟩
def d__law_tables : DA := ⟨1064, "_law_tables", "_law_tables", s__law_tables, []⟩
def d__law_first : DA := ⟨1069, "_law_first", "_law_first", s__law_first, []⟩
def d__law_added : DA := ⟨1074, "_law_added", "_law_added", s__law_added, []⟩
def d__law_step : DA := ⟨1079, "_law_step", "_law_step", s__law_step, []⟩
def d__law_run : DA := ⟨1086, "_law_run", "_law_run", s__law_run, []⟩
def d__law_bare : DA := ⟨1093, "_law_bare", "_law_bare", s__law_bare, []⟩
def d__law_turned : DA := ⟨1100, "_law_turned", "_law_turned", s__law_turned, []⟩
def d__law_wired : DA := ⟨1105, "_law_wired", "_law_wired", s__law_wired, []⟩
def d__law_ghost : DA := ⟨1110, "_law_ghost", "_law_ghost", s__law_ghost, []⟩
def d__law_other : DA := ⟨1115, "_law_other", "_law_other", s__law_other, []⟩
def d__law_times : DA := ⟨1122, "_law_times", "_law_times", s__law_times, []⟩
def d__law_ring : DA := ⟨1127, "_law_ring", "_law_ring", s__law_ring, []⟩
def d__law_companion : DA := ⟨1132, "_law_companion", "_law_companion", s__law_companion, []⟩
def d__law_flow : DA := ⟨1137, "_law_flow", "_law_flow", s__law_flow, []⟩
def d__law_quiet_pair : DA := ⟨1142, "_law_quiet_pair", "_law_quiet_pair", s__law_quiet_pair, []⟩
def d__law_late_pair : DA := ⟨1149, "_law_late_pair", "_law_late_pair", s__law_late_pair, []⟩
def d__law_pair : DA := ⟨1156, "_law_pair", "_law_pair", s__law_pair, []⟩
def d__law_answer : DA := ⟨1163, "_law_answer", "_law_answer", s__law_answer, []⟩
def d__law_difference : DA := ⟨1168, "_law_difference", "_law_difference", s__law_difference, []⟩
def d__law_all : DA := ⟨1173, "_law_all", "_law_all", s__law_all, []⟩
def d__law_runs : DA := ⟨1178, "_law_runs", "_law_runs", s__law_runs, []⟩
def d__law_twins : DA := ⟨1183, "_law_twins", "_law_twins", s__law_twins, []⟩
def d__law_against : DA := ⟨1188, "_law_against", "_law_against", s__law_against, []⟩
def d_law : DA := ⟨1193, "law", "law", s_law, []⟩
def qs0 : List Ask := [.glo "number_of" 28, .glo "bits_of" 33, .glo "places_of" 38, .glo "parity" 45, .glo "times" 52, .glo "behind" 59, .glo "combined" 108, .glo "check_wires" 758, .glo "equation_of" 765, .glo "check_settled" 770, .glo "settled" 775, .glo "motion_of" 849, .glo "paired" 854, .glo "shown" 859, .glo "state_for" 961, .glo "check_frame" 968, .glo "first_difference" 973, .glo "both" 980, .glo "twin_of" 985, .glo "from_all" 1015, .glo "_law_draw" 1022, .glo "_law_places" 1027, .glo "_law_wires" 1032, .glo "_law_flips" 1037, .glo "_law_settled" 1042, .glo "_law_net" 1047, .glo "_law_bits" 1052, .glo "_law_units" 1057, .glo "_law_tables" 1064, .glo "_law_first" 1069]
def qs1 : List Ask := [.glo "_law_added" 1074, .glo "_law_step" 1079, .glo "_law_run" 1086, .glo "_law_bare" 1093, .glo "_law_turned" 1100, .glo "_law_wired" 1105, .glo "_law_ghost" 1110, .glo "_law_other" 1115, .glo "_law_times" 1122, .glo "_law_ring" 1127, .glo "_law_companion" 1132, .glo "_law_flow" 1137, .glo "_law_quiet_pair" 1142, .glo "_law_late_pair" 1149, .glo "_law_pair" 1156, .glo "_law_answer" 1163, .glo "_law_difference" 1168, .glo "_law_all" 1173, .glo "_law_runs" 1178, .glo "_law_twins" 1183, .glo "_law_against" 1188, .glo "law" 1193, .glo "Span" 99, .cls 99, .mkr 99 75, .noat 99 "kept", .noat 99 "count", .glo "Table" 800, .cls 800, .mkr 800 792]
def qs2 : List Ask := [.noat 800 "a", .noat 800 "b", .noat 800 "c", .noat 800 "d", .noat 800 "width", .glo "Motion" 840, .cls 840, .mkr 840 818, .noat 840 "moves", .noat 840 "drives", .noat 840 "shows", .noat 840 "direct", .glo "Net" 952, .cls 952, .mkr 952 893, .noat 952 "wires", .noat 952 "outs", .noat 952 "solved", .noat 952 "ins", .noat 952 "cells", .noat 952 "first", .glo "FromAll" 1004, .cls 1004, .mkr 1004 1001, .noat 1004 "there", .noat 1004 "back", .noat 1004 "difference", .noat 1004 "side", .noat 1004 "state", .noat 1004 "looks"]
def qs3 : List Ask := [.meth 99 "reduced" 82, .meth 99 "put" 89, .meth 99 "made_of" 96, .meth 840 "looks_until" 837, .meth 952 "table" 922, .free "len", .free "range", .free "enumerate", .free "zip", .free "tuple", .free "list", .free "int", .free "sum", .free "any", .free "all", .free "max", .free "isinstance", .free "sorted", .free "set", .tup 67 [], .tup 993 [.non, .non]]
def qs : List Ask := qs0 ++ (qs1 ++ (qs2 ++ (qs3)))
def ds0 : List DA := [d_number_of, d_bits_of, d_places_of, d_parity, d_times, d_behind, d_Span___init__, d_Span_reduced, d_Span_put, d_Span_made_of, d_combined, d_check_wires, d_equation_of, d_check_settled, d_settled, d_Table___init__, d_Motion___init__, d_Motion_looks_until, d_motion_of, d_paired]
def ds1 : List DA := [d_shown, d_Net___init__, d_Net_table, d_state_for, d_check_frame, d_first_difference, d_both, d_twin_of, d_FromAll___init__, d_from_all, d__law_draw, d__law_places, d__law_wires, d__law_flips, d__law_settled, d__law_net, d__law_bits, d__law_units, d__law_tables, d__law_first]
def ds2 : List DA := [d__law_added, d__law_step, d__law_run, d__law_bare, d__law_turned, d__law_wired, d__law_ghost, d__law_other, d__law_times, d__law_ring, d__law_companion, d__law_flow, d__law_quiet_pair, d__law_late_pair, d__law_pair, d__law_answer, d__law_difference, d__law_all, d__law_runs, d__law_twins]
def ds3 : List DA := [d__law_against, d_law]
def ds : List DA := ds0 ++ (ds1 ++ (ds2 ++ (ds3)))
def nm0 : List PySem.Str := ["_wall", "number_of", "bits_of", "places_of", "parity", "times", "behind", "Span", "combined", "BitsError", "BadNumber", "BadBeat", "NoDivision", "NoWidth", "Ragged", "Misfit", "NotReal", "NoWire", "NotBit", "Unsettled", "BadLine", "WrongLength", "OtherFrame", "times_of", "divided", "power_of", "low_of", "Poly", "gcd_of", "every_other"]
def nm1 : List PySem.Str := ["Ratio", "joined", "recurrence_of", "said", "dot", "columns_of", "Grid", "check_wires", "equation_of", "check_settled", "settled", "sum_of", "Table", "Motion", "motion_of", "paired", "shown", "FIGURES", "check_length", "is_number", "wire_of", "lines_of", "Net", "state_for", "check_frame", "first_difference", "both", "twin_of", "FromAll", "from_all"]
def nm2 : List PySem.Str := ["_law_draw", "_law_places", "_law_wires", "_law_flips", "_law_settled", "_law_net", "_law_bits", "_law_units", "_law_tables", "_law_first", "_law_added", "_law_step", "_law_run", "_law_bare", "_law_turned", "_law_wired", "_law_ghost", "_law_other", "_law_times", "_law_ring", "_law_companion", "_law_flow", "_law_quiet_pair", "_law_late_pair", "_law_pair", "_law_answer", "_law_difference", "_law_all", "_law_runs", "_law_twins"]
def nm3 : List PySem.Str := ["_law_against"]
def nm : List PySem.Str := nm0 ++ (nm1 ++ (nm2 ++ (nm3)))
def as0 : List Addr := [3, 99, 98, 800, 799, 840, 839, 952, 951, 1004, 1003, 28, 27, 33, 32, 38, 37, 45, 44, 52, 51, 59, 58, 75, 74, 82, 81, 89, 88, 96, 95, 108, 107, 758, 757, 765, 764, 770, 769, 775]
def as1 : List Addr := [774, 792, 791, 818, 817, 837, 836, 849, 848, 854, 853, 859, 858, 893, 892, 922, 921, 961, 960, 968, 967, 973, 972, 980, 979, 985, 984, 1001, 1000, 1015, 1014, 1022, 1021, 1027, 1026, 1032, 1031, 1037, 1036, 1042]
def as2 : List Addr := [1041, 1047, 1046, 1052, 1051, 1057, 1056, 1064, 1063, 1069, 1068, 1074, 1073, 1079, 1078, 1086, 1085, 1093, 1092, 1100, 1099, 1105, 1104, 1110, 1109, 1115, 1114, 1122, 1121, 1127, 1126, 1132, 1131, 1137, 1136, 1142, 1141, 1149, 1148, 1156]
def as3 : List Addr := [1155, 1163, 1162, 1168, 1167, 1173, 1172, 1178, 1177, 1183, 1182, 1188, 1187, 1193, 1192, 67, 68, 993, 994]
def as : List Addr := as0 ++ (as1 ++ (as2 ++ (as3)))
abbrev R : PySem.W.OpenRow := PySem.W.OpenLaw.row PySem.Challenge.rw_bitsback_k78_whole_alike_from_all
abbrev hk : PySem.W.Hook := hookA as qs ds
def ob (s : PySem.W.SharedT) : Got := grab (HandSHeadRun.getT s) as (lookAt qs ds)
theorem ob_eq (s : PySem.W.SharedT) : ob s = hk.obs s.abs := hookA_eq (HandSHeadRun.getT_eq s)
theorem run (w : World) : HandSHeadRun.RunEq R (PySem.W.view R.prog [103]) hk ob 20000 nm w := by
  intro os
  kernel_rfl
end BB
end
section
/-! DL: data trees, a store of mutable things, transformers over them -/
namespace DL
open PySem
/-- a value as data: None, bools, ints, texts, lists and tuples that stand still, an object that stands still (its class, its attributes), a mutable thing -/
inductive D where
  | non | bl (b : Bool) | int (i : Int) | str (s : Str) | lst (xs : List D) | tup (xs : List D) | obj (C : Nat) (fs : List (Str × D)) | ref (a : Nat) | scr (ns : List Int)
inductive MO where
  | lst (xs : List D) | ins (C : Nat) (fs : List (Str × D))
abbrev MM := Nat → Option MO
def MM.upd (M : MM) (a : Nat) (o : MO) : MM := fun b => if b = a then some o else M b
def MM.del (M : MM) (a : Nat) : MM := fun b => if b = a then none else M b
def MM.le (M' M : MM) : Prop := ∀ a o, M' a = some o → M a = some o
theorem MM.le_refl (M : MM) : M.le M := fun _ _ h => h
theorem MM.upd_same {M : MM} {a : Nat} {o : MO} : M.upd a o a = some o := if_pos rfl
theorem MM.upd_ne {M : MM} {a b : Nat} {o : MO} (h : b ≠ a) : M.upd a o b = M b := if_neg h
theorem MM.del_same {M : MM} {a : Nat} : M.del a a = none := if_pos rfl
theorem MM.del_ne {M : MM} {a b : Nat} (h : b ≠ a) : M.del a b = M b := if_neg h
theorem MM.upd_upd {M : MM} {a : Nat} {o u : MO} : (M.upd a o).upd a u = M.upd a u := by
  funext b; unfold MM.upd; by_cases h : b = a <;> simp [h]
theorem MM.upd_del {M : MM} {a : Nat} {o : MO} (h : M a = none) : (M.upd a o).del a = M := by
  funext b; by_cases e : b = a
  · simp [MM.upd, MM.del, e, h]
  · simp [MM.upd, MM.del, e]
theorem MM.le_upd {M : MM} {a : Nat} {o : MO} (h : M a = none) : M.le (M.upd a o) := fun b u e => by
  by_cases q : b = a
  · rw [q, h] at e; cases e
  · rw [MM.upd_ne q]; exact e
theorem MM.le_trans {A B C : MM} (h : A.le B) (k : B.le C) : A.le C := fun a o e => k a o (h a o e)
theorem MM.del_upd {M : MM} {a : Nat} {o : MO} (h : M a = some o) : (M.del a).upd a o = M := by
  funext b; by_cases e : b = a
  · simp [MM.upd, MM.del, e, h]
  · simp [MM.upd, MM.del, e]

abbrev Env := List (Option D)
abbrev PQ := D → MM → Prop
abbrev ET := Env → MM → PQ → Prop
abbrev AT := Env → MM → (List D → MM → Prop) → Prop
abbrev TT := Env → MM → (Bool → MM → Prop) → Prop
abbrev OT := Env → MM → (Option Int → MM → Prop) → Prop
abbrev IT := Env → MM → (List D → MM → Prop) → Prop
abbrev GT := D → Env → MM → (Env → MM → Prop) → Prop
/-- a contract: arguments, store, what is wanted of the answer and the store behind it -/
abbrev CT := List D → MM → PQ → Prop
abbrev R2 := D → D → MM → PQ → Prop
abbrev R1 := D → MM → PQ → Prop
structure Fin where
  nx : Env → MM → Prop
  rt : PQ
  bk : Env → MM → Prop := fun _ _ => False
  ct : Env → MM → Prop := fun _ _ => False
abbrev ST := Fin → Env → MM → Prop

/-! ### reading lists, ints, bools off data -/
def asL (M : MM) : D → Option (List D)
  | .lst xs => some xs
  | .ref a => (match M a with
    | some (.lst xs) => some xs
    | _ => none)
  | _ => none
def asS (M : MM) : D → Option (List D)
  | .tup xs => some xs
  | d => asL M d
def intsOf : List D → Option (List Int)
  | [] => some []
  | .int i :: r => (intsOf r).map (i :: ·)
  | _ :: _ => none
def boolsOf : List D → Option (List Bool)
  | [] => some []
  | .bl i :: r => (boolsOf r).map (i :: ·)
  | _ :: _ => none
def tupsOf : List D → Option (List (List Int))
  | [] => some []
  | .tup xs :: r => (intsOf xs).bind fun ns => (tupsOf r).map (ns :: ·)
  | _ :: _ => none
theorem intsOf_map : ∀ ns : List Int, intsOf (ns.map D.int) = some ns
  | [] => rfl
  | n :: r => by show (intsOf (r.map D.int)).map (n :: ·) = _; rw [intsOf_map r]; rfl
theorem boolsOf_map : ∀ ns : List Bool, boolsOf (ns.map D.bl) = some ns
  | [] => rfl
  | n :: r => by show (boolsOf (r.map D.bl)).map (n :: ·) = _; rw [boolsOf_map r]; rfl
mutual
/-- data as the model's own data, through the store -/
inductive Py (M : MM) : D → PyData → Prop
  | non : Py M .non .none
  | bl (b : Bool) : Py M (.bl b) (.bool b)
  | int (i : Int) : Py M (.int i) (.int i)
  | str (x : Str) : Py M (.str x) (.str x)
  | lst {xs : List D} {ps : List PyData} : PyAll M xs ps → Py M (.lst xs) (.list ps)
  | tup {xs : List D} {ps : List PyData} : PyAll M xs ps → Py M (.tup xs) (.tuple ps)
  | ref {a : Nat} {xs : List D} {ps : List PyData} : M a = some (.lst xs) → PyAll M xs ps → Py M (.ref a) (.list ps)
inductive PyAll (M : MM) : List D → List PyData → Prop
  | nil : PyAll M [] []
  | cons {d : D} {xs : List D} {p : PyData} {ps : List PyData} : Py M d p → PyAll M xs ps → PyAll M (d :: xs) (p :: ps)
end
def eqS : D → D → Option Bool
  | .non, .non => some true | .non, .int _ => some false | .int _, .non => some false | .non, .bl _ => some false | .bl _, .non => some false | .non, .str _ => some false | .str _, .non => some false
  | .int i, .int j => some (decide (i = j)) | .bl i, .bl j => some (decide (i = j)) | .str i, .str j => some (decide (i = j))
  | .int _, .str _ => some false | .str _, .int _ => some false | .bl _, .str _ => some false | .str _, .bl _ => some false
  | _, _ => none
def putD (f : Str) (v : D) : List (Str × D) → List (Str × D)
  | [] => [(f, v)]
  | (g, x) :: r => if g = f then (g, v) :: r else (g, x) :: putD f v r
def fldOf (M : MM) (C : Nat) (f : Str) : D → Option D
  | .obj C' fs => if C' = C then fs.lookup f else none
  | .ref a => (match M a with
    | some (.ins C' fs) => if C' = C then fs.lookup f else none
    | _ => none)
  | _ => none
/-- an instance of C, without an attribute of that name -/
def isIns (M : MM) (C : Nat) (m : Str) : D → Prop
  | .obj C' fs => C' = C ∧ fs.lookup m = none
  | .ref a => (match M a with
    | some (.ins C' fs) => C' = C ∧ fs.lookup m = none
    | _ => False)
  | _ => False
def cutD (xs : List D) (lo hi : Option Int) : List D := (xs.drop (HT.sIx xs.length 0 lo)).take (HT.sIx xs.length xs.length hi - HT.sIx xs.length 0 lo)
/-- the most items that a list may have here -/
abbrev big : Nat := 100000

/-! ### expressions -/
def mVar (i : Nat) : ET := fun ρ M P => match ρ[i]? with
  | some (some d) => P d M
  | _ => False
def mC (d : D) : ET := fun _ M P => P d M
/-- a mutable list that stands still from here on -/
def frz (d : D) (M : MM) (P : PQ) : Prop := match d with
  | .ref a => (match M a with
    | some (.lst xs) => P (.lst xs) (M.del a)
    | _ => P d M)
  | _ => P d M
def mFrz (m : ET) : ET := fun ρ M P => m ρ M fun d M1 => frz d M1 P
def mBin (r : R2) (a b : ET) : ET := fun ρ M P => a ρ M fun x M1 => b ρ M1 fun y M2 => r x y M2 P
def mUn (r : R1) (a : ET) : ET := fun ρ M P => a ρ M fun x M1 => r x M1 P
def bI (C : Int → Int → Prop) (g : Int → Int → Int) : R2 := fun x y M P => match x, y with
  | .int i, .int j => C i j ∧ P (.int (g i j)) M
  | _, _ => False
def bI0 (g : Int → Int → Int) : R2 := fun x y M P => match x, y with
  | .int i, .int j => P (.int (g i j)) M
  | _, _ => False
def bCmp (g : Int → Int → Bool) : R2 := fun x y M P => match x, y with
  | .int i, .int j => P (.bl (g i j)) M
  | _, _ => False
abbrev bAdd : R2 := bI0 fun i j => i + j
abbrev bSub : R2 := bI0 fun i j => i - j
abbrev bMul : R2 := bI (fun i j => (-(2 ^ 64) < i ∧ i < 2 ^ 64) ∨ (-(2 ^ 64) < j ∧ j < 2 ^ 64)) fun i j => i * j
abbrev bMod : R2 := bI (fun _ j => 0 < j) fun i j => i % j
abbrev bDiv : R2 := bI (fun _ j => 0 < j ∧ j < 1073741824) fun i j => i / j
abbrev bPow : R2 := bI (fun i j => 0 ≤ j ∧ j ≤ 1000000 ∧ i.natAbs < 2 ^ 64) fun i j => i ^ j.toNat
abbrev bShl : R2 := bI (fun i j => 0 ≤ j ∧ j ≤ 1000000 ∧ i.natAbs < 2 ^ 64) fun i j => i * 2 ^ j.toNat
abbrev bShr : R2 := bI (fun _ j => 0 ≤ j) fun i j => i / 2 ^ j.toNat
abbrev bAnd : R2 := bI0 Builtin.bitAnd
abbrev bOr : R2 := bI0 Builtin.bitOr
abbrev bXor : R2 := bI0 Builtin.bitXor
abbrev bLt : R2 := bCmp fun i j => decide (i < j)
abbrev bLe : R2 := bCmp fun i j => decide (i ≤ j)
abbrev bGt : R2 := bCmp fun i j => decide (j < i)
abbrev bGe : R2 := bCmp fun i j => decide (j ≤ i)
def bEqS (neg : Bool) : R2 := fun x y M P => match eqS x y with
  | some b => P (.bl (if neg then !b else b)) M
  | none => False
def bEqD (neg : Bool) : R2 := fun x y M P => ∃ p q, Py M x p ∧ Py M y q ∧ SeqAt.shaped p = true ∧ SeqAt.shaped q = true ∧ P (.bl (if neg then !(PyData.eqv p q) else PyData.eqv p q)) M
def bIn (neg : Bool) : R2 := fun x y M P => match x, (asS M y).bind intsOf with
  | .int i, some ns => P (.bl (if neg then !(ns.contains i) else ns.contains i)) M
  | _, _ => False
def bInD (neg : Bool) : R2 := fun x y M P => ∃ p qs, Py M x p ∧ Py M y (.list qs) ∧ SeqAt.shaped p = true ∧ SeqAt.shaped (.list qs) = true ∧ P (.bl (if neg then !(qs.any fun z => PyData.eqv z p) else qs.any fun z => PyData.eqv z p)) M
def bCat : R2 := fun x y M P => match asL M x, asL M y with
  | some xs, some ys => xs.length + ys.length ≤ big ∧ P (.lst (xs ++ ys)) M
  | _, _ => False
def bCatM : R2 := fun x y M P => match asL M x, asL M y with
  | some xs, some ys => xs.length + ys.length ≤ big ∧ ∀ a, M a = none → P (.ref a) (M.upd a (.lst (xs ++ ys)))
  | _, _ => False
def bRep : R2 := fun x y M P => match asL M x, y with
  | some xs, .int k => 0 ≤ k ∧ k ≤ big ∧ xs.length * k.toNat ≤ big ∧ P (.lst (List.replicate k.toNat xs).flatten) M
  | _, _ => False
def bRepM : R2 := fun x y M P => match asL M x, y with
  | some xs, .int k => 0 ≤ k ∧ k ≤ big ∧ xs.length * k.toNat ≤ big ∧ ∀ a, M a = none → P (.ref a) (M.upd a (.lst (List.replicate k.toNat xs).flatten))
  | _, _ => False
def bIx : R2 := fun x y M P => match asS M x, y with
  | some xs, .int i => (match L2.atI xs i with
    | some d => P d M
    | none => False)
  | _, _ => False
def uNeg : R1 := fun x M P => match x with
  | .int i => P (.int (-i)) M
  | _ => False
def uInv : R1 := fun x M P => match x with
  | .int i => P (.int (Builtin.bitNot i)) M
  | _ => False
def uIsN (neg : Bool) : R1 := fun x M P => match x with
  | .non => P (.bl (!neg)) M
  | _ => P (.bl neg) M
def uBits : R1 := fun x M P => match x with
  | .int i => P (.int (Builtin.Int.intBits i : Nat)) M
  | _ => False
def aNil : AT := fun _ M P => P [] M
def aCons (e : ET) (r : AT) : AT := fun ρ M P => e ρ M fun x M1 => r ρ M1 fun xs M2 => P (x :: xs) M2
def mTup (a : AT) : ET := fun ρ M P => a ρ M fun xs M1 => xs.length ≤ big ∧ P (.tup xs) M1
def mLst (a : AT) : ET := fun ρ M P => a ρ M fun xs M1 => xs.length ≤ big ∧ P (.lst xs) M1
def mLstM (a : AT) : ET := fun ρ M P => a ρ M fun xs M1 => xs.length ≤ big ∧ ∀ p, M1 p = none → P (.ref p) (M1.upd p (.lst xs))
def oNone : OT := fun _ M P => P none M
def oSome (e : ET) : OT := fun ρ M P => e ρ M fun x M1 => match x with
  | .int i => P (some i) M1
  | _ => False
def slL (d : D) (lo hi : Option Int) (M : MM) (P : PQ) : Prop := match asL M d with
  | some xs => P (.lst (cutD xs lo hi)) M
  | none => False
def slT (d : D) (lo hi : Option Int) (M : MM) (P : PQ) : Prop := match d with
  | .tup xs => ¬ (HT.sIx xs.length 0 lo = 0 ∧ HT.sIx xs.length xs.length hi = xs.length) ∧ P (.tup (cutD xs lo hi)) M
  | _ => False
def mSl (r : D → Option Int → Option Int → MM → PQ → Prop) (e : ET) (lo hi : OT) : ET := fun ρ M P => e ρ M fun d M1 => lo ρ M1 fun l M2 => hi ρ M2 fun h M3 => r d l h M3 P
def mFld (C : Nat) (f : Str) (o : ET) : ET := fun ρ M P => o ρ M fun d M1 => match fldOf M1 C f d with
  | some v => P v M1
  | none => False
def mCB (r : List D → MM → PQ → Prop) (a : AT) : ET := fun ρ M P => a ρ M fun ds M1 => r ds M1 P
def mCall (s : CT) (dv : List D) (a : AT) : ET := fun ρ M P => a ρ M fun ds M1 => s (ds ++ dv) M1 P
def mMeth (C : Nat) (m : Str) (s : CT) (dv : List D) (o : ET) (a : AT) : ET := fun ρ M P => o ρ M fun x M1 => isIns M1 C m x ∧ a ρ M1 fun ds M2 => s (x :: (ds ++ dv)) M2 P
/-- a new object that stands still behind its __init__ -/
def mMake (C : Nat) (s : CT) (dv : List D) (a : AT) : ET := fun ρ M P => a ρ M fun ds M1 => ∀ p, M1 p = none → s (.ref p :: (ds ++ dv)) (M1.upd p (.ins C [])) fun _ M2 => match M2 p with
  | some (.ins C' fs) => P (.obj C' fs) (M2.del p)
  | _ => False
/-- a new object that may change -/
def mMakeM (C : Nat) (s : CT) (dv : List D) (a : AT) : ET := fun ρ M P => a ρ M fun ds M1 => ∀ p, M1 p = none → s (.ref p :: (ds ++ dv)) (M1.upd p (.ins C [])) fun _ M2 => P (.ref p) M2
def mBM (r : D → List D → MM → PQ → Prop) (o : ET) (a : AT) : ET := fun ρ M P => o ρ M fun x M1 => a ρ M1 fun ds M2 => r x ds M2 P
/-! built-ins by values -/
def fLen (ds : List D) (M : MM) (P : PQ) : Prop := match ds with
  | [d] => (match asS M d with
    | some xs => P (.int (xs.length : Int)) M
    | none => False)
  | _ => False
def fSum (ds : List D) (M : MM) (P : PQ) : Prop := match ds with
  | [d] => (match (asL M d).bind intsOf with
    | some ns => P (.int ns.sum) M
    | none => False)
  | _ => False
def fAny (ds : List D) (M : MM) (P : PQ) : Prop := match ds with
  | [d] => (match (asL M d).bind boolsOf with
    | some bs => P (.bl (bs.any id)) M
    | none => False)
  | _ => False
def fAll (ds : List D) (M : MM) (P : PQ) : Prop := match ds with
  | [d] => (match (asL M d).bind boolsOf with
    | some bs => P (.bl (bs.all id)) M
    | none => False)
  | _ => False
def fMax (ds : List D) (M : MM) (P : PQ) : Prop := match ds with
  | [.int i, .int j] => P (.int (if j > i then j else i)) M
  | _ => False
def fTup (ds : List D) (M : MM) (P : PQ) : Prop := match ds with
  | [d] => (match asS M d with
    | some xs => P (.tup xs) M
    | none => False)
  | _ => False
def fList (ds : List D) (M : MM) (P : PQ) : Prop := match ds with
  | [d] => (match asS M d with
    | some xs => P (.lst xs) M
    | none => False)
  | _ => False
def fListM (ds : List D) (M : MM) (P : PQ) : Prop := match ds with
  | [d] => (match asS M d with
    | some xs => ∀ a, M a = none → P (.ref a) (M.upd a (.lst xs))
    | none => False)
  | _ => False
/-- list(script) -/
def fScr (ds : List D) (M : MM) (P : PQ) : Prop := match ds with
  | [.scr ns] => ∀ a, M a = none → P (.ref a) (M.upd a (.lst (ns.map D.int)))
  | _ => False
def fInt (ds : List D) (M : MM) (P : PQ) : Prop := match ds with
  | [.int i] => P (.int i) M
  | [.bl b] => P (.int (if b then 1 else 0)) M
  | _ => False
/-- isinstance(d, tuple) of a tuple -/
def fIsTup (ds : List D) (M : MM) (P : PQ) : Prop := match ds with
  | [.tup _] => P (.bl true) M
  | _ => False
/-- pairs of ints from 0 to 63 that rise strictly -/
def pairD (p : Int × Int) : D := .tup [.int p.1, .int p.2]
def Rise (ps : List (Int × Int)) : Prop := (∀ p ∈ ps, (0 ≤ p.1 ∧ p.1 < 64) ∧ 0 ≤ p.2 ∧ p.2 < 64) ∧ ps.Pairwise fun p q => p.1 < q.1 ∨ (p.1 = q.1 ∧ p.2 < q.2)
/-- sorted(set(xs)) of such -/
def uSortSet : R1 := fun d M P => ∃ ps : List (Int × Int), d = .lst (ps.map pairD) ∧ ps.length < 64 ∧ Rise ps ∧ P (.lst (ps.map pairD)) M
/-- x not in range(n) -/
def bNotRng : R2 := fun x y M P => match x, y with
  | .int i, .int n => P (.bl (!(decide (0 ≤ i ∧ i < n)))) M
  | _, _ => False
def mAppend (x : D) (ds : List D) (M : MM) (P : PQ) : Prop := match x, ds with
  | .ref a, [d] => (match M a with
    | some (.lst xs) => xs.length < big ∧ P .non (M.upd a (.lst (xs ++ [d])))
    | _ => False)
  | _, _ => False
def mExtend (x : D) (ds : List D) (M : MM) (P : PQ) : Prop := match x, ds with
  | .ref a, [d] => (match M a, asL M d with
    | some (.lst xs), some ys => xs.length + ys.length ≤ big ∧ P .non (M.upd a (.lst (xs ++ ys)))
    | _, _ => False)
  | _, _ => False
def mInsert (x : D) (ds : List D) (M : MM) (P : PQ) : Prop := match x, ds with
  | .ref a, [.int i, d] => (match M a with
    | some (.lst xs) => xs.length < big ∧ 0 ≤ i ∧ i < big ∧ P .non (M.upd a (.lst (xs.take i.toNat ++ [d] ++ xs.drop i.toNat)))
    | _ => False)
  | _, _ => False
/-- xs.index(i), ints -/
def mIndex (x : D) (ds : List D) (M : MM) (P : PQ) : Prop := match (asL M x).bind intsOf, ds with
  | some ns, [.int i] => ∃ j : Nat, ns[j]? = some i ∧ (∀ m, m < j → ns[m]? ≠ some i) ∧ P (.int (j : Int)) M
  | _, _ => False

/-! ### tests -/
def tVal (e : ET) : TT := fun ρ M P => e ρ M fun d M1 => match d with
  | .bl b => P b M1
  | _ => False
def tTru (e : ET) : TT := fun ρ M P => e ρ M fun d M1 => match d with
  | .int i => P (i != 0) M1
  | .bl b => P b M1
  | .non => P false M1
  | _ => False
def tAnd (a b : TT) : TT := fun ρ M P => a ρ M fun c M1 => match c with
  | true => b ρ M1 P
  | false => P false M1
def tOr (a b : TT) : TT := fun ρ M P => a ρ M fun c M1 => match c with
  | true => P true M1
  | false => b ρ M1 P
def tNot (a : TT) : TT := fun ρ M P => a ρ M fun c M1 => P (!c) M1
def tYes : TT := fun _ M P => P true M
def mIf (t : TT) (a b : ET) : ET := fun ρ M P => t ρ M fun c M1 => match c with
  | true => a ρ M1 P
  | false => b ρ M1 P
/-- a and b as values, a True or False -/
def mAndV (a b : ET) : ET := fun ρ M P => a ρ M fun d M1 => match d with
  | .bl true => b ρ M1 P
  | .bl false => P (.bl false) M1
  | _ => False
/-- a list or another value -/
def mOrL (a b : ET) : ET := fun ρ M P => a ρ M fun d M1 => match asL M1 d with
  | some [] => b ρ M1 P
  | some _ => P d M1
  | none => False
def mChain (r r' : R2) (a b c : ET) : ET := fun ρ M P => a ρ M fun x M1 => b ρ M1 fun y M2 => r x y M2 fun z M3 => match z with
  | .bl true => c ρ M3 fun w M4 => r' y w M4 P
  | .bl false => P (.bl false) M3
  | _ => False

/-! ### what is walked; targets -/
def iSeq (e : ET) : IT := fun ρ M P => e ρ M fun d M1 => match d with
  | .lst xs => P xs M1
  | .tup xs => P xs M1
  | _ => False
def rangeD (n : Int) : List D := (List.range n.toNat).map fun i => .int (i : Nat)
def rangeD2 (a b : Int) : List D := (List.range (b - a).toNat).map fun i => .int (a + (i : Nat))
def iRange (e : ET) : IT := fun ρ M P => e ρ M fun d M1 => match d with
  | .int n => (-100000 ≤ n ∧ n ≤ 100000) ∧ P (rangeD n) M1
  | _ => False
def iRange2 (a b : ET) : IT := fun ρ M P => a ρ M fun x M1 => b ρ M1 fun y M2 => match x, y with
  | .int i, .int j => (0 ≤ i ∧ i ≤ 100000 ∧ -100000 ≤ j ∧ j ≤ 100000) ∧ P (rangeD2 i j) M2
  | _, _ => False
def enumD (xs : List D) : List D := xs.mapIdx fun i x => .tup [.int (i : Nat), x]
def iEnum (e : ET) : IT := fun ρ M P => iSeq e ρ M fun xs M1 => P (enumD xs) M1
def zipD (xs ys : List D) : List D := List.zipWith (fun x y => .tup [x, y]) xs ys
def iZip (a b : ET) : IT := fun ρ M P => a ρ M fun x M1 => b ρ M1 fun y M2 => match x, y with
  | .lst xs, .lst ys => P (zipD xs ys) M2
  | _, _ => False
def setAll (ρ : Env) : List Nat → List D → Env
  | i :: is, x :: xs => setAll (ρ.set i (some x)) is xs
  | _, _ => ρ
def gNm (i : Nat) : GT := fun d ρ M P => P (ρ.set i (some d)) M
def gTp (is : List Nat) : GT := fun d ρ M P => match d with
  | .tup xs => xs.length = is.length ∧ P (setAll ρ is xs) M
  | _ => False
def gLs (is : List Nat) : GT := fun d ρ M P => match asL M d with
  | some xs => xs.length = is.length ∧ P (setAll ρ is xs) M
  | none => False
def setL (o i v : D) (M : MM) (P : MM → Prop) : Prop := match o, i with
  | .ref a, .int k => (match M a with
    | some (.lst xs) => (match L2.ixN xs.length k with
      | some j => P (M.upd a (.lst (xs.set j v)))
      | none => False)
    | _ => False)
  | _, _ => False
def gSub (o i : ET) : GT := fun d ρ M P => o ρ M fun x M1 => i ρ M1 fun y M2 => setL x y d M2 fun M3 => P ρ M3
def setF (C : Nat) (f : Str) (o v : D) (M : MM) (P : MM → Prop) : Prop := match o with
  | .ref a => (match M a with
    | some (.ins C' fs) => C' = C ∧ fs.length < 900 ∧ P (M.upd a (.ins C (putD f v fs)))
    | _ => False)
  | _ => False
def gFld (C : Nat) (f : Str) (o : ET) : GT := fun d ρ M P => o ρ M fun x M1 => setF C f x d M1 fun M2 => P ρ M2
/-- a tuple given to two targets -/
def gTp2 (g h : GT) : GT := fun d ρ M P => match d with
  | .tup [x, y] => g x ρ M fun ρ1 M1 => h y ρ1 M1 P
  | _ => False
def wipeD (ρ : Env) : List Nat → Env
  | [] => ρ
  | v :: vs => (wipeD ρ vs).set v none

/-! ### comprehensions: I by the turn, the items so far, the store -/
def lcI (xs : List D) (g : GT) (t : TT) (e : ET) (ρ : Env) (M : MM) (P : List D → MM → Prop) : Prop :=
  ∃ I : Nat → List D → MM → Prop, I 0 [] M ∧
    (∀ i x acc M, xs[i]? = some x → I i acc M → g x ρ M fun ρ1 M1 => t ρ1 M1 fun b M2 => match b with
      | true => e ρ1 M2 fun y M3 => I (i + 1) (acc ++ [y]) M3
      | false => I (i + 1) acc M2) ∧
    ∀ acc M, I xs.length acc M → P acc M
def mLc (it : IT) (g : GT) (vs : List Nat) (t : TT) (e : ET) : ET := fun ρ M P => it ρ M fun xs M1 => lcI xs g t e (wipeD ρ vs) M1 fun acc M2 => P (.lst acc) M2
def mLcM (it : IT) (g : GT) (vs : List Nat) (t : TT) (e : ET) : ET := fun ρ M P => it ρ M fun xs M1 => lcI xs g t e (wipeD ρ vs) M1 fun acc M2 => ∀ a, M2 a = none → P (.ref a) (M2.upd a (.lst acc))
/-- two clauses, no test: the inner walk each turn of the outer -/
def mLc2 (it : IT) (g : GT) (it1 : IT) (g1 : GT) (vs vs1 : List Nat) (e : ET) : ET := fun ρ M P => it ρ M fun xs M1 =>
  ∃ I : Nat → List D → MM → Prop, I 0 [] M1 ∧
    (∀ i x acc M, xs[i]? = some x → I i acc M → g x (wipeD ρ vs) M fun ρ1 M1 => it1 ρ1 M1 fun ys M2 =>
      ∃ J : Nat → List D → MM → Prop, J 0 acc M2 ∧
        (∀ j y acc M, ys[j]? = some y → J j acc M → g1 y (wipeD ρ1 vs1) M fun ρ2 M3 => e ρ2 M3 fun z M4 => acc.length < big ∧ J (j + 1) (acc ++ [z]) M4) ∧
        ∀ acc M, J ys.length acc M → I (i + 1) acc M) ∧
    ∀ acc M, I xs.length acc M → P (.lst acc) M

/-! ### statements -/
def sNx : ST := fun F ρ M => F.nx ρ M
def sSeq (s t : ST) : ST := fun F ρ M => s { F with nx := t F } ρ M
def sSet (e : ET) (g : GT) : ST := fun F ρ M => e ρ M fun d M1 => g d ρ M1 F.nx
def sExpr (e : ET) : ST := fun F ρ M => e ρ M fun _ M1 => F.nx ρ M1
def sRet (e : ET) : ST := fun F ρ M => e ρ M F.rt
def sRetN : ST := fun F _ M => F.rt .non M
def sIf (t : TT) (a b : ST) : ST := fun F ρ M => t ρ M fun c M1 => match c with
  | true => a F ρ M1
  | false => b F ρ M1
def sNever : ST := fun _ _ _ => False
def sAug (i : Nat) (r : R2) (e : ET) : ST := fun F ρ M => match ρ[i]? with
  | some (some x) => e ρ M fun y M1 => r x y M1 fun z M2 => F.nx (ρ.set i (some z)) M2
  | _ => False
def sFor (it : IT) (g : GT) (b : ST) : ST := fun F ρ M => it ρ M fun xs M1 =>
  ∃ I : Nat → Env → MM → Prop, I 0 ρ M1 ∧
    (∀ i x ρ M, xs[i]? = some x → I i ρ M → g x ρ M fun ρ1 M2 => b { F with nx := I (i + 1), ct := I (i + 1), bk := F.nx } ρ1 M2) ∧
    ∀ ρ M, I xs.length ρ M → F.nx ρ M
/-- a walk over a mutable list, which the body cannot touch -/
def sForL (e : ET) (g : GT) (b : ST) : ST := fun F ρ M => e ρ M fun d M1 => match d with
  | .ref a => (match M1 a with
    | some (.lst xs) => ∃ I : Nat → Env → MM → Prop, I 0 ρ (M1.del a) ∧
      (∀ i x ρ M, xs[i]? = some x → I i ρ M → g x ρ M fun ρ1 M2 => b { nx := I (i + 1), ct := I (i + 1), bk := fun ρ' M' => F.nx ρ' (M'.upd a (.lst xs)), rt := fun v M' => F.rt v (M'.upd a (.lst xs)) } ρ1 M2) ∧
      ∀ ρ M, I xs.length ρ M → F.nx ρ (M.upd a (.lst xs))
    | _ => False)
  | _ => False
def sWhile (t : TT) (b : ST) : ST := fun F ρ M => ∃ W : Nat → Env → MM → Prop, (∃ m, W m ρ M) ∧
  ∀ m ρ M, W m ρ M → t ρ M fun c M1 => match c with
    | true => ∃ N : Env → MM → Prop, (∀ ρ' M', N ρ' M' → ∃ m', m' < m ∧ W m' ρ' M') ∧ b { F with nx := N, ct := N, bk := F.nx } ρ M1
    | false => F.nx ρ M1
def sBreak : ST := fun F ρ M => F.bk ρ M
def sFldAug (C : Nat) (f : Str) (r : R2) (o e : ET) : ST := fun F ρ M => o ρ M fun x M1 => match fldOf M1 C f x with
  | some v => e ρ M1 fun y M2 => r v y M2 fun z M3 => setF C f x z M3 fun M4 => F.nx ρ M4
  | none => False
/-- list(range(a, b)) -/
def mListRng (a b : ET) : ET := fun ρ M P => a ρ M fun x M1 => b ρ M1 fun y M2 => match x, y with
  | .int i, .int j => (0 ≤ i ∧ i ≤ 100000 ∧ 0 ≤ j ∧ j ≤ 100000) ∧ P (.lst (rangeD2 i j)) M2
  | _, _ => False
/-- the mutable list in a slot stands still from here on -/
def sGh (i : Nat) (m : ST) : ST := fun F ρ M => match ρ[i]? with
  | some (some (.ref a)) => (match M a with
    | some (.lst xs) => m F (ρ.set i (some (.lst xs))) (M.del a)
    | _ => False)
  | _ => False
/-- a method of a list that is read now -/
def mBL (r : D → List D → MM → PQ → Prop) (o : ET) (a : AT) : ET := fun ρ M P => o ρ M fun x M1 => (asL M1 x).isSome = true ∧ a ρ M1 fun ds M2 => r x ds M2 P
/-- a def's body at its arguments -/
def startD (n : Nat) (ds : List D) : Env := ds.map some ++ List.replicate (n - ds.length) none
def finD (P : PQ) : Fin := { nx := fun _ M => ∃ M', M'.le M ∧ P .non M', rt := fun d M => ∃ M', M'.le M ∧ P d M' }
/-- the body keeps the contract -/
def Keeps (n : Nat) (b : ST) (s : CT) : Prop := ∀ ds M P, s ds M P → b (finD P) (startD n ds) M
end DL
end
section
/-! the bodies as transformers over data (printed by gen.py) -/
namespace BB
open PySem DL
/-- number_of: 0 bits 1 number 2 at 3 bit -/
def b_number_of : ST := (sSeq (sSet (mC (.int 0)) (gNm 1))
  (sSeq (sFor (iEnum (mVar 0)) (gTp [2, 3]) (sAug 1 bOr (mBin bShl (mVar 3) (mVar 2))))
  (sRet (mVar 1))))
/-- bits_of: 0 number 1 size 2 at -/
def b_bits_of : ST := (sRet (mCB fTup (aCons (mLc (iRange (mVar 1)) (gNm 2) [2] tYes (mBin bAnd (mBin bShr (mVar 0) (mVar 2)) (mC (.int 1)))) aNil)))
/-- places_of: 0 number 1 at -/
def b_places_of : ST := (sRet (mLc (iRange (mUn uBits (mVar 0))) (gNm 1) [1] (tTru (mBin bAnd (mBin bShr (mVar 0) (mVar 1)) (mC (.int 1)))) (mVar 1)))
/-- parity: 0 number 1 found -/
def b_parity : ST := (sSeq (sSet (mC (.int 0)) (gNm 1))
  (sSeq (sWhile (tTru (mVar 0)) (sSeq (sAug 1 bXor (mC (.int 1)))
  (sAug 0 bAnd (mBin bSub (mVar 0) (mC (.int 1))))))
  (sRet (mVar 1))))
/-- times: 0 row 1 rows 2 found 3 at 4 other -/
def b_times : ST := (sSeq (sSet (mC (.int 0)) (gNm 2))
  (sSeq (sFor (iEnum (mVar 1)) (gTp [3, 4]) (sIf (tTru (mBin bAnd (mBin bShr (mVar 0) (mVar 3)) (mC (.int 1)))) (sAug 2 bXor (mVar 4)) sNx))
  (sRet (mVar 2))))
/-- behind: 0 column 1 rows 2 found 3 at 4 row -/
def b_behind (c_parity : CT) : ST := (sSeq (sSet (mC (.int 0)) (gNm 2))
  (sSeq (sFor (iEnum (mVar 1)) (gTp [3, 4]) (sAug 2 bOr (mBin bShl (mCall c_parity [] (aCons (mBin bAnd (mVar 4) (mVar 0)) aNil)) (mVar 3))))
  (sRet (mVar 2))))
/-- Span.reduced: 0 self 1 row 2 made 3 other 4 more -/
def b_Span_reduced : ST := (sSeq (sSet (mC (.int 0)) (gNm 2))
  (sSeq (sForL (mFld 99 "kept" (mVar 0)) (gTp [3, 4]) (sIf (tVal (mBin bLt (mBin bXor (mVar 1) (mVar 3)) (mVar 1))) (sSeq (sAug 1 bXor (mVar 3))
  (sAug 2 bXor (mVar 4))) sNx))
  (sRet (mTup (aCons (mVar 1) (aCons (mVar 2) aNil))))))
/-- Span.put: 0 self 1 row 2 left 3 made 4 place -/
def b_Span_put (c_Span_reduced : CT) : ST := (sSeq (sSet (mMeth 99 "reduced" c_Span_reduced [] (mVar 0) (aCons (mVar 1) aNil)) (gTp [2, 3]))
  (sSeq (sSet (mBin bShl (mC (.int 1)) (mFld 99 "count" (mVar 0))) (gNm 4))
  (sSeq (sFldAug 99 "count" bAdd (mVar 0) (mC (.int 1)))
  (sSeq (sIf (tNot (tTru (mVar 2))) (sRet (mVar 3)) sNx)
  (sSeq (sExpr (mBL mAppend (mFld 99 "kept" (mVar 0)) (aCons (mTup (aCons (mVar 2) (aCons (mBin bOr (mVar 3) (mVar 4)) aNil))) aNil)))
  (sRet (mC .non)))))))
/-- Span.__init__: 0 self 1 rows 2 row -/
def b_Span___init__ (c_Span_put : CT) : ST := (sSeq (sSet (mLstM aNil) (gFld 99 "kept" (mVar 0)))
  (sSeq (sSet (mC (.int 0)) (gFld 99 "count" (mVar 0)))
  (sFor (iSeq (mVar 1)) (gNm 2) (sExpr (mMeth 99 "put" c_Span_put [] (mVar 0) (aCons (mVar 2) aNil))))))
/-- Span.made_of: 0 self 1 row 2 left 3 made -/
def b_Span_made_of (c_Span_reduced : CT) : ST := (sSeq (sSet (mMeth 99 "reduced" c_Span_reduced [] (mVar 0) (aCons (mVar 1) aNil)) (gTp [2, 3]))
  (sRet (mIf (tTru (mVar 2)) (mC .non) (mVar 3))))
/-- combined: 0 columns 1 bits 2 size 3 rows 4 column 5 at 6 found 7 longer 8 bit -/
def b_combined (c_Span___init__ c_Span_made_of c_number_of : CT) : ST := (sSeq (sSet (mLc (iRange (mVar 2)) (gNm 5) [5] tYes (mCall c_number_of [] (aCons (mLc (iSeq (mVar 0)) (gNm 4) [4] tYes (mBin bAnd (mBin bShr (mVar 4) (mVar 5)) (mC (.int 1)))) aNil))) (gNm 3))
  (sSeq (sSet (mMeth 99 "made_of" c_Span_made_of [] (mMakeM 99 c_Span___init__ [] (aCons (mVar 3) aNil)) (aCons (mCall c_number_of [] (aCons (mVar 1) aNil)) aNil)) (gNm 6))
  (sSeq (sIf (tVal (mUn (uIsN true) (mVar 6))) (sRet (mTup (aCons (mVar 6) (aCons (mC .non) aNil)))) sNx)
  (sSeq (sSet (mLc (iZip (mVar 0) (mVar 1)) (gTp [4, 8]) [4, 8] tYes (mBin bOr (mVar 4) (mBin bShl (mVar 8) (mVar 2)))) (gNm 7))
  (sRet (mTup (aCons (mC .non) (aCons (mMeth 99 "made_of" c_Span_made_of [] (mMakeM 99 c_Span___init__ [] (aCons (mVar 7) aNil)) (aCons (mBin bShl (mC (.int 1)) (mVar 2)) aNil)) aNil))))))))
/-- check_wires: 0 wires 1 outs 2 wire 3 sources 4 source 5 out -/
def b_check_wires : ST := (sSeq (sFor (iSeq (mVar 0)) (gNm 2) (sSeq (sSet (mIf (tVal (mBin (bEqS false) (mBin bIx (mVar 2) (mC (.int 0))) (mC (.str "cell")))) (mSl slT (mVar 2) (oSome (mC (.int 1))) (oSome (mC (.int 2)))) (mSl slT (mVar 2) (oSome (mC (.int 1))) oNone)) (gNm 3))
  (sSeq (sFor (iSeq (mVar 3)) (gNm 4) (sIf (tNot (tVal (mChain bLe bLt (mC (.int 0)) (mVar 4) (mCB fLen (aCons (mVar 0) aNil))))) sNever sNx))
  (sIf (tAnd (tVal (mBin (bEqS false) (mBin bIx (mVar 2) (mC (.int 0))) (mC (.str "cell")))) (tVal (mBin (bIn true) (mBin bIx (mVar 2) (mC (.int 2))) (mTup (aCons (mC (.int 0)) (aCons (mC (.int 1)) aNil)))))) sNever sNx))))
  (sFor (iSeq (mVar 1)) (gNm 5) (sIf (tNot (tVal (mChain bLe bLt (mC (.int 0)) (mVar 5) (mCB fLen (aCons (mVar 0) aNil))))) sNever sNx)))
/-- equation_of: 0 at 1 wire 2 found 3 source -/
def b_equation_of : ST := (sSeq (sSet (mBin bShl (mC (.int 1)) (mVar 0)) (gNm 2))
  (sSeq (sFor (iSeq (mSl slT (mVar 1) (oSome (mC (.int 1))) oNone)) (gNm 3) (sAug 2 bXor (mBin bShl (mC (.int 1)) (mVar 3))))
  (sRet (mVar 2))))
/-- check_settled: 0 sums 1 equations 2 span 3 at 4 here 5 made 6 equation 7 place -/
def b_check_settled (c_Span_put c_number_of c_Span___init__ : CT) : ST := (sSeq (sSet (mMakeM 99 c_Span___init__ [D.tup []] aNil) (gNm 2))
  (sFor (iEnum (mVar 0)) (gTp [3, 4]) (sSeq (sSet (mMeth 99 "put" c_Span_put [] (mVar 2) (aCons (mCall c_number_of [] (aCons (mLc (iSeq (mVar 1)) (gNm 6) [6] tYes (mBin bAnd (mBin bShr (mVar 6) (mVar 4)) (mC (.int 1)))) aNil)) aNil)) (gNm 5))
  (sIf (tVal (mUn (uIsN true) (mVar 5))) sNever sNx))))
/-- settled: 0 wires 1 sums 2 at 3 wire 4 equations 5 inner 6 span 7 equation 8 found 9 here 10 known 11 place -/
def b_settled (c_places_of c_Span_made_of c_Span___init__ c_check_settled c_equation_of : CT) : ST := (sSeq (sSet (mLc (iEnum (mVar 0)) (gTp [2, 3]) [2, 3] (tVal (mBin (bEqS false) (mBin bIx (mVar 3) (mC (.int 0))) (mC (.str "sum")))) (mVar 2)) (gNm 1))
  (sSeq (sSet (mLc (iSeq (mVar 1)) (gNm 2) [2] tYes (mCall c_equation_of [] (aCons (mVar 2) (aCons (mBin bIx (mVar 0) (mVar 2)) aNil)))) (gNm 4))
  (sSeq (sExpr (mCall c_check_settled [] (aCons (mVar 1) (aCons (mVar 4) aNil))))
  (sSeq (sSet (mCB fSum (aCons (mLc (iSeq (mVar 1)) (gNm 2) [2] tYes (mBin bShl (mC (.int 1)) (mVar 2))) aNil)) (gNm 5))
  (sSeq (sSet (mMakeM 99 c_Span___init__ [] (aCons (mLc (iSeq (mVar 4)) (gNm 7) [7] tYes (mBin bAnd (mVar 7) (mVar 5))) aNil)) (gNm 6))
  (sSeq (sSet (mLcM (iRange (mCB fLen (aCons (mVar 0) aNil))) (gNm 2) [2] tYes (mBin bShl (mC (.int 1)) (mVar 2))) (gNm 8))
  (sSeq (sFor (iSeq (mVar 1)) (gNm 9) (sSeq (sSet (mC (.int 0)) (gNm 10))
  (sSeq (sFor (iSeq (mCall c_places_of [] (aCons (mMeth 99 "made_of" c_Span_made_of [] (mVar 6) (aCons (mBin bShl (mC (.int 1)) (mVar 9)) aNil)) aNil))) (gNm 11) (sAug 10 bXor (mBin bAnd (mBin bIx (mVar 4) (mVar 11)) (mUn uInv (mVar 5)))))
  (sSet (mVar 10) (gSub (mVar 8) (mVar 9))))))
  (sRet (mFrz (mVar 8))))))))))
/-- Table.__init__: 0 self 1 a 2 b 3 c 4 d 5 width 6 row -/
def b_Table___init__ : ST := (sSeq (sSet (mCB fTup (aCons (mLc (iSeq (mVar 1)) (gNm 6) [6] tYes (mCB fTup (aCons (mVar 6) aNil))) aNil)) (gFld 800 "a" (mVar 0)))
  (sSeq (sSet (mCB fTup (aCons (mLc (iSeq (mVar 2)) (gNm 6) [6] tYes (mCB fTup (aCons (mVar 6) aNil))) aNil)) (gFld 800 "b" (mVar 0)))
  (sSeq (sSet (mCB fTup (aCons (mLc (iSeq (mVar 3)) (gNm 6) [6] tYes (mCB fTup (aCons (mVar 6) aNil))) aNil)) (gFld 800 "c" (mVar 0)))
  (sSeq (sSet (mCB fTup (aCons (mLc (iSeq (mVar 4)) (gNm 6) [6] tYes (mCB fTup (aCons (mVar 6) aNil))) aNil)) (gFld 800 "d" (mVar 0)))
  (sSet (mVar 5) (gFld 800 "width" (mVar 0)))))))
/-- Motion.__init__: 0 self 1 moves 2 drives 3 shows 4 direct -/
def b_Motion___init__ : ST := (sSeq (sSet (mVar 1) (gFld 840 "moves" (mVar 0)))
  (sSeq (sSet (mVar 2) (gFld 840 "drives" (mVar 0)))
  (sSeq (sSet (mVar 3) (gFld 840 "shows" (mVar 0)))
  (sSet (mVar 4) (gFld 840 "direct" (mVar 0))))))
/-- Motion.looks_until: 0 self 1 beats 2 found 3 here 4 beat 5 column -/
def b_Motion_looks_until (c_behind : CT) : ST := (sSeq (sSet (mLstM aNil) (gNm 2))
  (sSeq (sSet (mCB fList (aCons (mFld 840 "shows" (mVar 0)) aNil)) (gNm 3))
  (sSeq (sFor (iRange (mVar 1)) (gNm 4) (sSeq (sExpr (mBL mAppend (mVar 2) (aCons (mVar 3) aNil)))
  (sSet (mLc (iSeq (mVar 3)) (gNm 5) [5] tYes (mCall c_behind [] (aCons (mVar 5) (aCons (mFld 840 "moves" (mVar 0)) aNil)))) (gNm 3))))
  (sRet (mFrz (mVar 2))))))
/-- motion_of: 0 table 1 shows 2 row 3 output 4 moves -/
def b_motion_of (c_Motion___init__ c_number_of : CT) : ST := (sSeq (sSet (mLc (iRange (mFld 800 "width" (mVar 0))) (gNm 3) [3] tYes (mCall c_number_of [] (aCons (mLc (iSeq (mFld 800 "c" (mVar 0))) (gNm 2) [2] tYes (mBin bIx (mVar 2) (mVar 3))) aNil))) (gNm 1))
  (sSeq (sSet (mLc (iSeq (mFld 800 "a" (mVar 0))) (gNm 2) [2] tYes (mCall c_number_of [] (aCons (mVar 2) aNil))) (gNm 4))
  (sRet (mMake 840 c_Motion___init__ [] (aCons (mVar 4) (aCons (mLc (iSeq (mFld 800 "b" (mVar 0))) (gNm 2) [2] tYes (mCall c_number_of [] (aCons (mVar 2) aNil))) (aCons (mVar 1) (aCons (mLc (iSeq (mFld 800 "d" (mVar 0))) (gNm 2) [2] tYes (mCall c_number_of [] (aCons (mVar 2) aNil))) aNil))))))))
/-- paired: 0 one 1 other 2 size 3 moves 4 row 5 drives 6 first 7 second 8 shows -/
def b_paired (c_Motion___init__ : CT) : ST := (sSeq (sSet (mCB fLen (aCons (mFld 840 "moves" (mVar 0)) aNil)) (gNm 2))
  (sSeq (sSet (mBin bCat (mCB fList (aCons (mFld 840 "moves" (mVar 0)) aNil)) (mLc (iSeq (mFld 840 "moves" (mVar 1))) (gNm 4) [4] tYes (mBin bShl (mVar 4) (mVar 2)))) (gNm 3))
  (sSeq (sSet (mLc (iZip (mFld 840 "drives" (mVar 0)) (mFld 840 "drives" (mVar 1))) (gTp [6, 7]) [6, 7] tYes (mBin bOr (mVar 6) (mBin bShl (mVar 7) (mVar 2)))) (gNm 5))
  (sSeq (sSet (mLc (iZip (mFld 840 "shows" (mVar 0)) (mFld 840 "shows" (mVar 1))) (gTp [6, 7]) [6, 7] tYes (mBin bOr (mVar 6) (mBin bShl (mVar 7) (mVar 2)))) (gNm 8))
  (sRet (mMake 840 c_Motion___init__ [] (aCons (mVar 3) (aCons (mVar 5) (aCons (mVar 8) (aCons (mLc (iZip (mFld 840 "direct" (mVar 0)) (mFld 840 "direct" (mVar 1))) (gTp [6, 7]) [6, 7] tYes (mBin bXor (mVar 6) (mVar 7))) aNil))))))))))
/-- shown: 0 motion 1 state 2 column -/
def b_shown (c_number_of c_parity : CT) : ST := (sRet (mCall c_number_of [] (aCons (mLc (iSeq (mFld 840 "shows" (mVar 0))) (gNm 2) [2] tYes (mCall c_parity [] (aCons (mBin bAnd (mVar 1) (mVar 2)) aNil))) aNil)))
/-- Net.__init__: 0 self 1 wires 2 outs 3 wire 4 at -/
def b_Net___init__ (c_settled c_check_wires : CT) : ST := (sSeq (sSet (mCB fTup (aCons (mLc (iSeq (mVar 1)) (gNm 3) [3] tYes (mCB fTup (aCons (mVar 3) aNil))) aNil)) (gFld 952 "wires" (mVar 0)))
  (sSeq (sSet (mCB fTup (aCons (mVar 2) aNil)) (gFld 952 "outs" (mVar 0)))
  (sSeq (sExpr (mCall c_check_wires [] (aCons (mFld 952 "wires" (mVar 0)) (aCons (mFld 952 "outs" (mVar 0)) aNil))))
  (sSeq (sSet (mCall c_settled [] (aCons (mFld 952 "wires" (mVar 0)) aNil)) (gFld 952 "solved" (mVar 0)))
  (sSeq (sSet (mCB fTup (aCons (mLc (iEnum (mFld 952 "wires" (mVar 0))) (gTp [4, 3]) [4, 3] (tVal (mBin (bEqS false) (mBin bIx (mVar 3) (mC (.int 0))) (mC (.str "in")))) (mVar 4)) aNil)) (gFld 952 "ins" (mVar 0)))
  (sSeq (sSet (mCB fTup (aCons (mLc (iEnum (mFld 952 "wires" (mVar 0))) (gTp [4, 3]) [4, 3] (tVal (mBin (bEqS false) (mBin bIx (mVar 3) (mC (.int 0))) (mC (.str "cell")))) (mVar 4)) aNil)) (gFld 952 "cells" (mVar 0)))
  (sSet (mCB fTup (aCons (mLc (iSeq (mFld 952 "cells" (mVar 0))) (gNm 4) [4] tYes (mBin bIx (mBin bIx (mFld 952 "wires" (mVar 0)) (mVar 4)) (mC (.int 2)))) aNil)) (gFld 952 "first" (mVar 0)))))))))
/-- Net.table: 0 self 1 sources 2 at 3 shown 4 a 5 known 6 b 7 c 8 d -/
def b_Net_table (c_Table___init__ : CT) : ST := (sSeq (sSet (mLc (iSeq (mFld 952 "cells" (mVar 0))) (gNm 2) [2] tYes (mBin bIx (mFld 952 "solved" (mVar 0)) (mBin bIx (mBin bIx (mFld 952 "wires" (mVar 0)) (mVar 2)) (mC (.int 1))))) (gNm 1))
  (sSeq (sSet (mLc (iSeq (mFld 952 "outs" (mVar 0))) (gNm 2) [2] tYes (mBin bIx (mFld 952 "solved" (mVar 0)) (mVar 2))) (gNm 3))
  (sSeq (sSet (mLc (iSeq (mFld 952 "cells" (mVar 0))) (gNm 2) [2] tYes (mLc (iSeq (mVar 1)) (gNm 5) [5] tYes (mBin bAnd (mBin bShr (mVar 5) (mVar 2)) (mC (.int 1))))) (gNm 4))
  (sSeq (sSet (mLc (iSeq (mFld 952 "ins" (mVar 0))) (gNm 2) [2] tYes (mLc (iSeq (mVar 1)) (gNm 5) [5] tYes (mBin bAnd (mBin bShr (mVar 5) (mVar 2)) (mC (.int 1))))) (gNm 6))
  (sSeq (sSet (mLc (iSeq (mFld 952 "cells" (mVar 0))) (gNm 2) [2] tYes (mLc (iSeq (mVar 3)) (gNm 5) [5] tYes (mBin bAnd (mBin bShr (mVar 5) (mVar 2)) (mC (.int 1))))) (gNm 7))
  (sSeq (sSet (mLc (iSeq (mFld 952 "ins" (mVar 0))) (gNm 2) [2] tYes (mLc (iSeq (mVar 3)) (gNm 5) [5] tYes (mBin bAnd (mBin bShr (mVar 5) (mVar 2)) (mC (.int 1))))) (gNm 8))
  (sRet (mMake 800 c_Table___init__ [] (aCons (mVar 4) (aCons (mVar 6) (aCons (mVar 7) (aCons (mVar 8) (aCons (mCB fLen (aCons (mFld 952 "outs" (mVar 0)) aNil)) aNil)))))))))))))
/-- state_for: 0 motion 1 beats 2 bits 3 size 4 columns 5 places 6 beat 7 row 8 output 9 found 10 against 11 at -/
def b_state_for (c_bits_of c_places_of c_combined c_Motion_looks_until : CT) : ST := (sSeq (sSet (mCB fLen (aCons (mFld 840 "moves" (mVar 0)) aNil)) (gNm 3))
  (sSeq (sSet (mLstM aNil) (gNm 4))
  (sSeq (sSet (mLstM aNil) (gNm 5))
  (sSeq (sFor (iEnum (mMeth 840 "looks_until" c_Motion_looks_until [] (mVar 0) (aCons (mVar 1) aNil))) (gTp [6, 7]) (sSeq (sExpr (mBL mExtend (mVar 4) (aCons (mVar 7) aNil)))
  (sExpr (mBL mExtend (mVar 5) (aCons (mLc (iRange (mCB fLen (aCons (mVar 7) aNil))) (gNm 8) [8] tYes (mTup (aCons (mVar 8) (aCons (mVar 6) aNil)))) aNil)))))
  (sSeq (sGh 4 (sSet (mCall c_combined [] (aCons (mVar 4) (aCons (mVar 2) (aCons (mVar 3) aNil)))) (gTp [9, 10])))
  (sSeq (sIf (tVal (mUn (uIsN false) (mVar 9))) (sRet (mTup (aCons (mC .non) (aCons (mCB fTup (aCons (mLc (iSeq (mCall c_places_of [] (aCons (mVar 10) aNil))) (gNm 11) [11] tYes (mBin bIx (mVar 5) (mVar 11))) aNil)) aNil)))) sNx)
  (sRet (mTup (aCons (mCall c_bits_of [] (aCons (mVar 9) (aCons (mVar 3) aNil))) (aCons (mC .non) aNil))))))))))
/-- check_frame: 0 one 1 other -/
def b_check_frame : ST := (sIf (tOr (tVal (mBin (bEqS true) (mCB fLen (aCons (mFld 952 "ins" (mVar 0)) aNil)) (mCB fLen (aCons (mFld 952 "ins" (mVar 1)) aNil)))) (tVal (mBin (bEqS true) (mCB fLen (aCons (mFld 952 "outs" (mVar 0)) aNil)) (mCB fLen (aCons (mFld 952 "outs" (mVar 1)) aNil))))) sNever sNx)
/-- first_difference: 0 motion 1 put 2 row 3 here 4 beat 5 state 6 outs -/
def b_first_difference (c_times c_places_of c_shown : CT) : ST := (sSeq (sFor (iEnum (mFld 840 "direct" (mVar 0))) (gTp [1, 2]) (sIf (tTru (mVar 2)) (sRet (mTup (aCons (mC (.int 0)) (aCons (mVar 1) (aCons (mBin bIx (mCall c_places_of [] (aCons (mVar 2) aNil)) (mC (.int 0))) aNil))))) sNx))
  (sSeq (sSet (mCB fList (aCons (mFld 840 "drives" (mVar 0)) aNil)) (gNm 3))
  (sSeq (sFor (iRange (mCB fLen (aCons (mFld 840 "moves" (mVar 0)) aNil))) (gNm 4) (sSeq (sFor (iEnum (mVar 3)) (gTp [1, 5]) (sSeq (sSet (mCall c_shown [] (aCons (mVar 0) (aCons (mVar 5) aNil))) (gNm 6))
  (sIf (tTru (mVar 6)) (sRet (mTup (aCons (mBin bAdd (mVar 4) (mC (.int 1))) (aCons (mVar 1) (aCons (mBin bIx (mCall c_places_of [] (aCons (mVar 6) aNil)) (mC (.int 0))) aNil))))) sNx)))
  (sSet (mLc (iSeq (mVar 3)) (gNm 5) [5] tYes (mCall c_times [] (aCons (mVar 5) (aCons (mFld 840 "moves" (mVar 0)) aNil)))) (gNm 3))))
  (sRet (mC .non)))))
/-- both: 0 one 1 other -/
def b_both (c_paired c_motion_of c_Net_table c_check_frame : CT) : ST := (sSeq (sExpr (mCall c_check_frame [] (aCons (mVar 0) (aCons (mVar 1) aNil))))
  (sRet (mCall c_paired [] (aCons (mCall c_motion_of [] (aCons (mMeth 952 "table" c_Net_table [] (mVar 0) aNil) aNil)) (aCons (mCall c_motion_of [] (aCons (mMeth 952 "table" c_Net_table [] (mVar 1) aNil) aNil)) aNil)))))
/-- twin_of: 0 one 1 state 2 other 3 beats 4 bits 5 row 6 column -/
def b_twin_of (c_state_for c_Motion_looks_until c_parity : CT) : ST := (sSeq (sSet (mBin bAdd (mCB fLen (aCons (mFld 840 "moves" (mVar 0)) aNil)) (mCB fLen (aCons (mFld 840 "moves" (mVar 2)) aNil))) (gNm 3))
  (sSeq (sSet (mLc2 (iSeq (mMeth 840 "looks_until" c_Motion_looks_until [] (mVar 0) (aCons (mVar 3) aNil))) (gNm 5) (iSeq (mVar 5)) (gNm 6) [5, 6] [6] (mCall c_parity [] (aCons (mBin bAnd (mVar 1) (mVar 6)) aNil))) (gNm 4))
  (sRet (mCall c_state_for [] (aCons (mVar 2) (aCons (mVar 3) (aCons (mVar 4) aNil)))))))
/-- FromAll.__init__: 0 self 1 twins 2 difference 3 side 4 against -/
def b_FromAll___init__ : ST := (sSeq (sSet (mVar 1) (gTp2 (gFld 1004 "there" (mVar 0)) (gFld 1004 "back" (mVar 0))))
  (sSeq (sSet (mVar 2) (gFld 1004 "difference" (mVar 0)))
  (sSeq (sSet (mVar 3) (gFld 1004 "side" (mVar 0)))
  (sSet (mVar 4) (gTp2 (gFld 1004 "state" (mVar 0)) (gFld 1004 "looks" (mVar 0)))))))
/-- from_all: 0 one 1 other 2 difference 3 motions 4 twins 5 side 6 here 7 size 8 row 9 at 10 found 11 looks -/
def b_from_all (c_FromAll___init__ c_bits_of c_twin_of c_motion_of c_Net_table c_first_difference c_both : CT) : ST := (sSeq (sSet (mCall c_first_difference [] (aCons (mCall c_both [] (aCons (mVar 0) (aCons (mVar 1) aNil))) aNil)) (gNm 2))
  (sSeq (sIf (tVal (mUn (uIsN true) (mVar 2))) (sRet (mMake 1004 c_FromAll___init__ [D.non, D.tup [.non, .non]] (aCons (mTup (aCons (mC .non) (aCons (mC .non) aNil))) (aCons (mVar 2) aNil)))) sNx)
  (sSeq (sSet (mTup (aCons (mCall c_motion_of [] (aCons (mMeth 952 "table" c_Net_table [] (mVar 0) aNil) aNil)) (aCons (mCall c_motion_of [] (aCons (mMeth 952 "table" c_Net_table [] (mVar 1) aNil) aNil)) aNil))) (gNm 3))
  (sSeq (sSet (mLstM aNil) (gNm 4))
  (sSeq (sFor (iRange (mC (.int 2))) (gNm 5) (sSeq (sSet (mBin bIx (mVar 3) (mVar 5)) (gNm 6))
  (sSeq (sSet (mCB fLen (aCons (mFld 840 "moves" (mVar 6)) aNil)) (gNm 7))
  (sSeq (sSet (mLstM aNil) (gNm 8))
  (sSeq (sFor (iRange (mVar 7)) (gNm 9) (sSeq (sSet (mCall c_twin_of [] (aCons (mVar 6) (aCons (mBin bShl (mC (.int 1)) (mVar 9)) (aCons (mBin bIx (mVar 3) (mBin bSub (mC (.int 1)) (mVar 5))) aNil)))) (gTp [10, 11]))
  (sSeq (sIf (tVal (mUn (uIsN false) (mVar 10))) (sRet (mMake 1004 c_FromAll___init__ [] (aCons (mTup (aCons (mC .non) (aCons (mC .non) aNil))) (aCons (mC .non) (aCons (mVar 5) (aCons (mTup (aCons (mCall c_bits_of [] (aCons (mBin bShl (mC (.int 1)) (mVar 9)) (aCons (mVar 7) aNil))) (aCons (mVar 11) aNil))) aNil)))))) sNx)
  (sExpr (mBL mAppend (mVar 8) (aCons (mVar 10) aNil))))))
  (sExpr (mBL mAppend (mVar 4) (aCons (mCB fTup (aCons (mVar 8) aNil)) aNil))))))))
  (sRet (mMake 1004 c_FromAll___init__ [D.non, D.non, D.tup [.non, .non]] (aCons (mCB fTup (aCons (mVar 4) aNil)) aNil))))))))
/-- _law_draw: 0 _law_pen 1 _law_many 2 _law_spot 3 _law_at 4 _law_cell 5 _law_mixed -/
def b__law_draw : ST := (sSeq (sSet (mBin bIx (mVar 0) (mC (.int 1))) (gNm 2))
  (sSeq (sSet (mBin bAdd (mVar 2) (mC (.int 1))) (gSub (mVar 0) (mC (.int 1))))
  (sSeq (sSet (mBin bMod (mCB fInt (aCons (mVar 2) aNil)) (mCB fLen (aCons (mBin bIx (mVar 0) (mC (.int 0))) aNil))) (gNm 3))
  (sSeq (sSet (mCB fInt (aCons (mBin bIx (mBin bIx (mVar 0) (mC (.int 0))) (mVar 3)) aNil)) (gNm 4))
  (sSeq (sIf (tVal (mBin bGe (mVar 4) (mBin bPow (mC (.int 10)) (mC (.int 18))))) (sSeq (sSet (mBin bDiv (mVar 4) (mVar 1)) (gSub (mBin bIx (mVar 0) (mC (.int 0))) (mVar 3)))
  (sRet (mBin bMod (mCB fInt (aCons (mVar 4) aNil)) (mVar 1)))) sNx)
  (sSeq (sSet (mBin bPow (mCB fInt (aCons (mBin bAdd (mBin bAdd (mBin bMul (mBin bMod (mCB fInt (aCons (mVar 4) aNil)) (mC (.int 1000003))) (mC (.int 48271))) (mBin bMul (mVar 2) (mC (.int 7919)))) (mC (.int 104729))) aNil)) (mC (.int 5))) (gNm 5))
  (sRet (mBin bMod (mBin bDiv (mCB fInt (aCons (mBin bMod (mCB fInt (aCons (mVar 5) aNil)) (mC (.int 2147483647))) aNil)) (mC (.int 8))) (mVar 1)))))))))
/-- _law_places: 0 _law_wires_here 1 _law_kind 2 _law_at -/
def b__law_places : ST := (sRet (mLc (iRange (mCB fLen (aCons (mVar 0) aNil))) (gNm 2) [2] (tVal (mBin (bEqS false) (mBin bIx (mBin bIx (mVar 0) (mVar 2)) (mC (.int 0))) (mVar 1))) (mVar 2)))
/-- _law_wires: 0 _law_pen 1 _law_counts 2 _law_row 3 _law_kind 4 _law_many 5 _law_k 6 _law_wires_here 7 _law_lists -/
def b__law_wires (c__law_draw : CT) : ST := (sSeq (sSet (mLstM aNil) (gNm 2))
  (sSeq (sFor (iSeq (mVar 1)) (gTp [3, 4]) (sFor (iRange (mVar 4)) (gNm 5) (sExpr (mBL mInsert (mVar 2) (aCons (mCall c__law_draw [] (aCons (mVar 0) (aCons (mBin bAdd (mCB fLen (aCons (mVar 2) aNil)) (mC (.int 1))) aNil))) (aCons (mVar 3) aNil))))))
  (sSeq (sSet (mLstM aNil) (gNm 6))
  (sSeq (sGh 2 (sFor (iSeq (mVar 2)) (gNm 3) (sIf (tVal (mBin (bEqS false) (mVar 3) (mC (.str "in")))) (sExpr (mBL mAppend (mVar 6) (aCons (mTup (aCons (mC (.str "in")) aNil)) aNil))) (sIf (tVal (mBin (bEqS false) (mVar 3) (mC (.str "cell")))) (sExpr (mBL mAppend (mVar 6) (aCons (mTup (aCons (mC (.str "cell")) (aCons (mCall c__law_draw [] (aCons (mVar 0) (aCons (mCB fLen (aCons (mVar 2) aNil)) aNil))) (aCons (mCall c__law_draw [] (aCons (mVar 0) (aCons (mC (.int 2)) aNil))) aNil)))) aNil))) (sSeq (sSet (mLc (iRange (mCall c__law_draw [] (aCons (mVar 0) (aCons (mC (.int 4)) aNil)))) (gNm 5) [5] tYes (mCall c__law_draw [] (aCons (mVar 0) (aCons (mCB fLen (aCons (mVar 2) aNil)) aNil)))) (gNm 7))
  (sExpr (mBL mAppend (mVar 6) (aCons (mCB fTup (aCons (mBin bCat (mLst (aCons (mC (.str "sum")) aNil)) (mVar 7)) aNil)) aNil))))))))
  (sRet (mFrz (mVar 6)))))))
/-- _law_flips: 0 _law_wires_here 1 _law_sums 2 _law_mask 3 _law_part 4 _law_k 5 _law_odd 6 _law_v 7 _law_x -/
def b__law_flips (c__law_places : CT) : ST := (sSeq (sSet (mCall c__law_places [] (aCons (mVar 0) (aCons (mC (.str "sum")) aNil))) (gNm 1))
  (sSeq (sFor (iRange2 (mC (.int 1)) (mBin bShl (mC (.int 1)) (mCB fLen (aCons (mVar 1) aNil)))) (gNm 2) (sSeq (sSet (mLc (iRange (mCB fLen (aCons (mVar 1) aNil))) (gNm 4) [4] (tVal (mBin (bEqS false) (mBin bAnd (mBin bShr (mVar 2) (mVar 4)) (mC (.int 1))) (mC (.int 1)))) (mBin bIx (mVar 1) (mVar 4))) (gNm 3))
  (sSeq (sSet (mLc (iSeq (mVar 1)) (gNm 6) [6] (tVal (mBin (bEqS false) (mBin bAnd (mCB fLen (aCons (mLc (iSeq (mSl slT (mBin bIx (mVar 0) (mVar 6)) (oSome (mC (.int 1))) oNone)) (gNm 7) [7] (tVal (mBin (bIn false) (mVar 7) (mVar 3))) (mVar 7)) aNil)) (mC (.int 1))) (mC (.int 1)))) (mVar 6)) (gNm 5))
  (sIf (tVal (mBin (bEqD false) (mVar 5) (mVar 3))) (sRet (mCB fTup (aCons (mVar 3) aNil))) sNx))))
  (sRet (mC .non))))
/-- _law_settled: 0 _law_wires_here 1 _law_found 2 _law_at 3 _law_wire 4 _law_x -/
def b__law_settled (c__law_flips : CT) : ST := (sSeq (sIf (tVal (mUn (uIsN false) (mCall c__law_flips [] (aCons (mVar 0) aNil)))) (sRet (mVar 0)) sNx)
  (sSeq (sSet (mLstM aNil) (gNm 1))
  (sSeq (sFor (iRange (mCB fLen (aCons (mVar 0) aNil))) (gNm 2) (sSeq (sSet (mBin bIx (mVar 0) (mVar 2)) (gNm 3))
  (sSeq (sIf (tVal (mBin (bEqS false) (mBin bIx (mVar 3) (mC (.int 0))) (mC (.str "sum")))) (sSet (mCB fTup (aCons (mBin bCat (mLst (aCons (mC (.str "sum")) aNil)) (mLc (iSeq (mSl slT (mVar 3) (oSome (mC (.int 1))) oNone)) (gNm 4) [4] (tOr (tVal (mBin (bEqS true) (mBin bIx (mBin bIx (mVar 0) (mVar 4)) (mC (.int 0))) (mC (.str "sum")))) (tVal (mBin bLt (mVar 4) (mVar 2)))) (mVar 4))) aNil)) (gNm 3)) sNx)
  (sExpr (mBL mAppend (mVar 1) (aCons (mVar 3) aNil))))))
  (sRet (mFrz (mVar 1))))))
/-- _law_net: 0 _law_pen 1 _law_counts 2 _law_many 3 _law_kinds 4 _law_wires_here 5 _law_k -/
def b__law_net (c__law_draw c__law_settled c__law_wires : CT) : ST := (sSeq (sSet (mLst (aCons (mC (.str "in")) (aCons (mC (.str "cell")) (aCons (mC (.str "sum")) aNil)))) (gNm 3))
  (sSeq (sSet (mCall c__law_settled [] (aCons (mCall c__law_wires [] (aCons (mVar 0) (aCons (mLc (iRange (mC (.int 3))) (gNm 5) [5] tYes (mTup (aCons (mBin bIx (mVar 3) (mVar 5)) (aCons (mBin bIx (mVar 1) (mVar 5)) aNil)))) aNil))) aNil)) (gNm 4))
  (sRet (mTup (aCons (mVar 4) (aCons (mLc (iRange (mVar 2)) (gNm 5) [5] (tVal (mBin (bEqD true) (mVar 4) (mLst aNil))) (mCall c__law_draw [] (aCons (mVar 0) (aCons (mCB fLen (aCons (mVar 4) aNil)) aNil)))) aNil))))))
/-- _law_bits: 0 _law_wires_here 1 _law_known 2 _law_bits_here 3 _law_left 4 _law_ready 5 _law_v 6 _law_x 7 _law_mask 8 _law_k -/
def b__law_bits (c__law_places : CT) : ST := (sSeq (sSet (mCB fListM (aCons (mVar 1) aNil)) (gNm 2))
  (sSeq (sSet (mCall c__law_places [] (aCons (mVar 0) (aCons (mC (.str "sum")) aNil))) (gNm 3))
  (sSeq (sSet (mCB fList (aCons (mVar 3) aNil)) (gNm 4))
  (sSeq (sWhile (tVal (mBin (bEqD true) (mVar 4) (mLst aNil))) (sSeq (sSet (mLc (iSeq (mVar 3)) (gNm 5) [5] (tNot (tVal (mCB fAny (aCons (mLc (iSeq (mSl slT (mBin bIx (mVar 0) (mVar 5)) (oSome (mC (.int 1))) oNone)) (gNm 6) [6] tYes (mBin (bIn false) (mVar 6) (mVar 3))) aNil)))) (mVar 5)) (gNm 4))
  (sSeq (sFor (iSeq (mVar 4)) (gNm 5) (sSet (mBin bAnd (mCB fSum (aCons (mLc (iSeq (mSl slT (mBin bIx (mVar 0) (mVar 5)) (oSome (mC (.int 1))) oNone)) (gNm 6) [6] tYes (mBin bIx (mVar 2) (mVar 6))) aNil)) (mC (.int 1))) (gSub (mVar 2) (mVar 5))))
  (sSet (mLc (iSeq (mVar 3)) (gNm 5) [5] (tVal (mBin (bIn true) (mVar 5) (mVar 4))) (mVar 5)) (gNm 3)))))
  (sSeq (sFor (iRange (mBin bShl (mC (.int 1)) (mCB fLen (aCons (mVar 3) aNil)))) (gNm 7) (sSeq (sFor (iRange (mCB fLen (aCons (mVar 3) aNil))) (gNm 8) (sSet (mBin bAnd (mBin bShr (mVar 7) (mVar 8)) (mC (.int 1))) (gSub (mVar 2) (mBin bIx (mVar 3) (mVar 8)))))
  (sIf (tVal (mCB fAll (aCons (mLc (iSeq (mVar 3)) (gNm 5) [5] tYes (mBin (bEqS false) (mBin bAnd (mCB fSum (aCons (mLc (iSeq (mSl slT (mBin bIx (mVar 0) (mVar 5)) (oSome (mC (.int 1))) oNone)) (gNm 6) [6] tYes (mBin bIx (mVar 2) (mVar 6))) aNil)) (mC (.int 1))) (mBin bIx (mVar 2) (mVar 5)))) aNil))) (sRet (mFrz (mVar 2))) sNx)))
  (sRet (mFrz (mVar 2))))))))
/-- _law_units: 0 _law_wires_here 1 _law_outs 2 _law_kind 3 _law_inner 4 _law_outer 5 _law_at 6 _law_known 7 _law_bits_here 8 _law_x -/
def b__law_units (c__law_places c__law_bits : CT) : ST := (sSeq (sSet (mLstM aNil) (gNm 3))
  (sSeq (sSet (mLstM aNil) (gNm 4))
  (sSeq (sFor (iSeq (mCall c__law_places [] (aCons (mVar 0) (aCons (mVar 2) aNil)))) (gNm 5) (sSeq (sSet (mBin bRepM (mLst (aCons (mC (.int 0)) aNil)) (mCB fLen (aCons (mVar 0) aNil))) (gNm 6))
  (sSeq (sSet (mC (.int 1)) (gSub (mVar 6) (mVar 5)))
  (sSeq (sSet (mCall c__law_bits [] (aCons (mVar 0) (aCons (mVar 6) aNil))) (gNm 7))
  (sSeq (sExpr (mBL mAppend (mVar 3) (aCons (mLc (iSeq (mCall c__law_places [] (aCons (mVar 0) (aCons (mC (.str "cell")) aNil)))) (gNm 8) [8] tYes (mBin bIx (mVar 7) (mBin bIx (mBin bIx (mVar 0) (mVar 8)) (mC (.int 1))))) aNil)))
  (sExpr (mBL mAppend (mVar 4) (aCons (mLc (iSeq (mVar 1)) (gNm 8) [8] tYes (mBin bIx (mVar 7) (mVar 8))) aNil))))))))
  (sRet (mTup (aCons (mFrz (mVar 3)) (aCons (mFrz (mVar 4)) aNil)))))))
/-- _law_tables: 0 _law_wires_here 1 _law_outs 2 _law_a 3 _law_c 4 _law_b 5 _law_d -/
def b__law_tables (c__law_units : CT) : ST := (sSeq (sSet (mCall c__law_units [] (aCons (mVar 0) (aCons (mVar 1) (aCons (mC (.str "cell")) aNil)))) (gTp [2, 3]))
  (sSeq (sSet (mCall c__law_units [] (aCons (mVar 0) (aCons (mVar 1) (aCons (mC (.str "in")) aNil)))) (gTp [4, 5]))
  (sRet (mLst (aCons (mVar 2) (aCons (mVar 4) (aCons (mVar 3) (aCons (mVar 5) (aCons (mCB fLen (aCons (mVar 1) aNil)) aNil)))))))))
/-- _law_first: 0 _law_wires_here 1 _law_at -/
def b__law_first (c__law_places : CT) : ST := (sRet (mLcM (iSeq (mCall c__law_places [] (aCons (mVar 0) (aCons (mC (.str "cell")) aNil)))) (gNm 1) [1] tYes (mBin bIx (mBin bIx (mVar 0) (mVar 1)) (mC (.int 2)))))
/-- _law_added: 0 _law_rows 1 _law_size 2 _law_row 3 _law_j -/
def b__law_added : ST := (sRet (mLcM (iRange (mVar 1)) (gNm 3) [3] tYes (mBin bAnd (mCB fSum (aCons (mLc (iSeq (mVar 0)) (gNm 2) [2] tYes (mBin bIx (mVar 2) (mVar 3))) aNil)) (mC (.int 1)))))
/-- _law_step: 0 _law_tables_here 1 _law_here 2 _law_bits_here 3 _law_a 4 _law_b 5 _law_c 6 _law_d 7 _law_many 8 _law_cells 9 _law_q 10 _law_puts 11 _law_i 12 _law_outs -/
def b__law_step (c__law_added : CT) : ST := (sSeq (sSet (mVar 0) (gLs [3, 4, 5, 6, 7]))
  (sSeq (sSet (mLc (iRange (mCB fLen (aCons (mVar 3) aNil))) (gNm 9) [9] (tVal (mBin (bEqS false) (mBin bIx (mVar 1) (mVar 9)) (mC (.int 1)))) (mVar 9)) (gNm 8))
  (sSeq (sSet (mLc (iRange (mCB fLen (aCons (mVar 4) aNil))) (gNm 11) [11] (tVal (mBin (bEqS false) (mBin bIx (mVar 2) (mVar 11)) (mC (.int 1)))) (mVar 11)) (gNm 10))
  (sSeq (sSet (mFrz (mCall c__law_added [] (aCons (mBin bCat (mLc (iSeq (mVar 8)) (gNm 9) [9] tYes (mBin bIx (mVar 5) (mVar 9))) (mLc (iSeq (mVar 10)) (gNm 11) [11] tYes (mBin bIx (mVar 6) (mVar 11)))) (aCons (mVar 7) aNil)))) (gNm 12))
  (sRet (mTup (aCons (mVar 12) (aCons (mFrz (mCall c__law_added [] (aCons (mBin bCat (mLc (iSeq (mVar 8)) (gNm 9) [9] tYes (mBin bIx (mVar 3) (mVar 9))) (mLc (iSeq (mVar 10)) (gNm 11) [11] tYes (mBin bIx (mVar 4) (mVar 11)))) (aCons (mCB fLen (aCons (mVar 3) aNil)) aNil)))) aNil))))))))
/-- _law_run: 0 _law_tables_here 1 _law_here 2 _law_rows 3 _law_found 4 _law_bits_here 5 _law_outs -/
def b__law_run (c__law_step : CT) : ST := (sSeq (sSet (mLstM aNil) (gNm 3))
  (sSeq (sFor (iSeq (mVar 2)) (gNm 4) (sSeq (sSet (mCall c__law_step [] (aCons (mVar 0) (aCons (mVar 1) (aCons (mVar 4) aNil)))) (gTp [5, 1]))
  (sExpr (mBL mAppend (mVar 3) (aCons (mVar 5) aNil)))))
  (sRet (mTup (aCons (mFrz (mVar 3)) (aCons (mVar 1) aNil))))))
/-- _law_bare: 0 _law_tables_here 1 _law_here 2 _law_beats -/
def b__law_bare (c__law_run : CT) : ST := (sRet (mBin bIx (mCall c__law_run [] (aCons (mVar 0) (aCons (mVar 1) (aCons (mBin bRep (mLst (aCons (mBin bRep (mLst (aCons (mC (.int 0)) aNil)) (mCB fLen (aCons (mBin bIx (mVar 0) (mC (.int 1))) aNil))) aNil)) (mVar 2)) aNil)))) (mC (.int 0))))
/-- _law_turned: 0 _law_pen 1 _law_parts 2 _law_a 3 _law_b 4 _law_c 5 _law_first_here 6 _law_turn 7 _law_p 8 _law_q 9 _law_row -/
def b__law_turned (c__law_draw c__law_added : CT) : ST := (sSeq (sSet (mVar 1) (gLs [2, 3, 4, 5]))
  (sFor (iRange (mCall c__law_draw [] (aCons (mVar 0) (aCons (mC (.int 6)) aNil)))) (gNm 6) (sSeq (sSet (mCall c__law_draw [] (aCons (mVar 0) (aCons (mBin bAdd (mCB fLen (aCons (mVar 2) aNil)) (mC (.int 1))) aNil))) (gNm 7))
  (sSeq (sSet (mCall c__law_draw [] (aCons (mVar 0) (aCons (mBin bAdd (mCB fLen (aCons (mVar 2) aNil)) (mC (.int 1))) aNil))) (gNm 8))
  (sIf (tAnd (tVal (mBin (bEqS true) (mVar 7) (mVar 8))) (tVal (mBin bLt (mCB fMax (aCons (mVar 7) (aCons (mVar 8) aNil))) (mCB fLen (aCons (mVar 2) aNil))))) (sSeq (sFor (iSeq (mBin bCat (mBin bCat (mVar 2) (mVar 3)) (mLst (aCons (mVar 5) aNil)))) (gNm 9) (sSet (mBin bXor (mBin bIx (mVar 9) (mVar 8)) (mBin bIx (mVar 9) (mVar 7))) (gSub (mVar 9) (mVar 8))))
  (sSeq (sSet (mCall c__law_added [] (aCons (mLst (aCons (mBin bIx (mVar 2) (mVar 7)) (aCons (mBin bIx (mVar 2) (mVar 8)) aNil))) (aCons (mCB fLen (aCons (mVar 2) aNil)) aNil))) (gSub (mVar 2) (mVar 7)))
  (sSet (mCall c__law_added [] (aCons (mLst (aCons (mBin bIx (mVar 4) (mVar 7)) (aCons (mBin bIx (mVar 4) (mVar 8)) aNil))) (aCons (mCB fLen (aCons (mBin bIx (mVar 4) (mVar 7)) aNil)) aNil))) (gSub (mVar 4) (mVar 7))))) sNx)))))
/-- _law_wired: 0 _law_tables_here 1 _law_first_here 2 _law_spare 3 _law_a 4 _law_b 5 _law_c 6 _law_d 7 _law_many 8 _law_size 9 _law_start 10 _law_wires_here 11 _law_q 12 _law_k 13 _law_r 14 _law_lists 15 _law_i 16 _law_j -/
def b__law_wired : ST := (sSeq (sSet (mVar 0) (gLs [3, 4, 5, 6, 7]))
  (sSeq (sSet (mCB fLen (aCons (mVar 3) aNil)) (gNm 8))
  (sSeq (sSet (mBin bAdd (mBin bAdd (mCB fLen (aCons (mVar 4) aNil)) (mVar 8)) (mVar 2)) (gNm 9))
  (sSeq (sSet (mBin bRepM (mLst (aCons (mTup (aCons (mC (.str "in")) aNil)) aNil)) (mCB fLen (aCons (mVar 4) aNil))) (gNm 10))
  (sSeq (sFor (iRange (mVar 8)) (gNm 11) (sExpr (mBL mAppend (mVar 10) (aCons (mTup (aCons (mC (.str "cell")) (aCons (mBin bAdd (mVar 9) (mVar 11)) (aCons (mBin bIx (mVar 1) (mVar 11)) aNil)))) aNil))))
  (sSeq (sFor (iRange (mVar 2)) (gNm 12) (sExpr (mBL mAppend (mVar 10) (aCons (mTup (aCons (mC (.str "cell")) (aCons (mBin bIx (mLst (aCons (mC (.int 0)) (aCons (mBin bSub (mVar 9) (mC (.int 1))) aNil))) (mBin bAnd (mVar 12) (mC (.int 1)))) (aCons (mBin bAnd (mVar 12) (mC (.int 1))) aNil)))) aNil))))
  (sSeq (sFor (iRange (mVar 8)) (gNm 13) (sSeq (sSet (mLc (iRange (mCB fLen (aCons (mVar 4) aNil))) (gNm 15) [15] (tVal (mBin (bEqS false) (mBin bIx (mBin bIx (mVar 4) (mVar 15)) (mVar 13)) (mC (.int 1)))) (mVar 15)) (gNm 14))
  (sSeq (sSet (mBin bCat (mVar 14) (mLc (iRange (mVar 8)) (gNm 11) [11] (tVal (mBin (bEqS false) (mBin bIx (mBin bIx (mVar 3) (mVar 11)) (mVar 13)) (mC (.int 1)))) (mBin bAdd (mCB fLen (aCons (mVar 4) aNil)) (mVar 11)))) (gNm 14))
  (sExpr (mBL mAppend (mVar 10) (aCons (mCB fTup (aCons (mBin bCat (mLst (aCons (mC (.str "sum")) aNil)) (mVar 14)) aNil)) aNil))))))
  (sSeq (sFor (iRange (mVar 7)) (gNm 16) (sSeq (sSet (mLc (iRange (mCB fLen (aCons (mVar 4) aNil))) (gNm 15) [15] (tVal (mBin (bEqS false) (mBin bIx (mBin bIx (mVar 6) (mVar 15)) (mVar 16)) (mC (.int 1)))) (mVar 15)) (gNm 14))
  (sSeq (sSet (mBin bCat (mVar 14) (mLc (iRange (mVar 8)) (gNm 11) [11] (tVal (mBin (bEqS false) (mBin bIx (mBin bIx (mVar 5) (mVar 11)) (mVar 16)) (mC (.int 1)))) (mBin bAdd (mCB fLen (aCons (mVar 4) aNil)) (mVar 11)))) (gNm 14))
  (sExpr (mBL mAppend (mVar 10) (aCons (mCB fTup (aCons (mBin bCat (mLst (aCons (mC (.str "sum")) aNil)) (mVar 14)) aNil)) aNil))))))
  (sRet (mTup (aCons (mFrz (mVar 10)) (aCons (mListRng (mBin bAdd (mVar 9) (mVar 8)) (mBin bAdd (mBin bAdd (mVar 9) (mVar 8)) (mVar 7))) aNil))))))))))))
/-- _law_ghost: 0 _law_pen 1 _law_a 2 _law_b 3 _law_c 4 _law_first_here 5 _law_many 6 _law_row 7 _law_j -/
def b__law_ghost (c__law_draw : CT) : ST := (sSeq (sFor (iSeq (mBin bCat (mVar 1) (mVar 2))) (gNm 6) (sExpr (mBL mAppend (mVar 6) (aCons (mC (.int 0)) aNil))))
  (sSeq (sExpr (mBL mAppend (mVar 1) (aCons (mBin bCatM (mBin bRep (mLst (aCons (mC (.int 0)) aNil)) (mCB fLen (aCons (mVar 1) aNil))) (mLst (aCons (mCall c__law_draw [] (aCons (mVar 0) (aCons (mC (.int 2)) aNil))) aNil))) aNil)))
  (sSeq (sExpr (mBL mAppend (mVar 3) (aCons (mLcM (iRange (mVar 5)) (gNm 7) [7] tYes (mCall c__law_draw [] (aCons (mVar 0) (aCons (mC (.int 2)) aNil)))) aNil)))
  (sExpr (mBL mAppend (mVar 4) (aCons (mCall c__law_draw [] (aCons (mVar 0) (aCons (mC (.int 2)) aNil))) aNil))))))
/-- _law_other: 0 _law_pen 1 _law_wires_here 2 _law_outs 3 _law_way 4 _law_counts 5 _law_tables_here 6 _law_a 7 _law_b 8 _law_c 9 _law_d 10 _law_row 11 _law_rows 12 _law_first_here 13 _law_spots 14 _law_at -/
def b__law_other (c__law_wired c__law_draw c__law_turned c__law_ghost c__law_first c__law_tables c__law_net c__law_places : CT) : ST := (sSeq (sSet (mCall c__law_draw [] (aCons (mVar 0) (aCons (mC (.int 5)) aNil))) (gNm 3))
  (sSeq (sSet (mLst (aCons (mCB fLen (aCons (mCall c__law_places [] (aCons (mVar 1) (aCons (mC (.str "in")) aNil))) aNil)) (aCons (mCall c__law_draw [] (aCons (mVar 0) (aCons (mC (.int 4)) aNil))) (aCons (mBin bAdd (mC (.int 1)) (mCall c__law_draw [] (aCons (mVar 0) (aCons (mC (.int 3)) aNil)))) aNil)))) (gNm 4))
  (sSeq (sIf (tVal (mBin (bEqS false) (mVar 3) (mC (.int 4)))) (sRet (mCall c__law_net [] (aCons (mVar 0) (aCons (mVar 4) (aCons (mCB fLen (aCons (mVar 2) aNil)) aNil))))) sNx)
  (sSeq (sSet (mCall c__law_tables [] (aCons (mVar 1) (aCons (mVar 2) aNil))) (gNm 5))
  (sSeq (sSet (mLc (iSeq (mSl slL (mVar 5) oNone (oSome (mC (.int 4))))) (gNm 11) [11] tYes (mLcM (iSeq (mVar 11)) (gNm 10) [10] tYes (mCB fListM (aCons (mVar 10) aNil)))) (gLs [6, 7, 8, 9]))
  (sSeq (sSet (mCall c__law_first [] (aCons (mVar 1) aNil)) (gNm 12))
  (sSeq (sIf (tVal (mBin bGt (mVar 3) (mC (.int 1)))) (sExpr (mCall c__law_ghost [] (aCons (mVar 0) (aCons (mVar 6) (aCons (mVar 7) (aCons (mVar 8) (aCons (mVar 12) (aCons (mCB fLen (aCons (mVar 2) aNil)) aNil)))))))) sNx)
  (sSeq (sExpr (mCall c__law_turned [] (aCons (mVar 0) (aCons (mLst (aCons (mVar 6) (aCons (mVar 7) (aCons (mVar 8) (aCons (mVar 12) aNil))))) aNil))))
  (sSeq (sSet (mLc (iSeq (mBin bCat (mBin bCat (mBin bCat (mBin bCat (mVar 6) (mVar 7)) (mVar 8)) (mVar 9)) (mLst (aCons (mVar 12) aNil)))) (gNm 10) [10] (tVal (mBin (bEqD true) (mVar 10) (mLst aNil))) (mVar 10)) (gNm 13))
  (sSeq (sIf (tAnd (tVal (mBin (bEqS false) (mVar 3) (mC (.int 3)))) (tVal (mBin (bEqD true) (mVar 13) (mLst aNil)))) (sSeq (sSet (mBin bIx (mVar 13) (mCall c__law_draw [] (aCons (mVar 0) (aCons (mCB fLen (aCons (mVar 13) aNil)) aNil)))) (gNm 10))
  (sSeq (sSet (mCall c__law_draw [] (aCons (mVar 0) (aCons (mCB fLen (aCons (mVar 10) aNil)) aNil))) (gNm 14))
  (sSet (mBin bSub (mC (.int 1)) (mBin bIx (mVar 10) (mVar 14))) (gSub (mVar 10) (mVar 14))))) sNx)
  (sRet (mCall c__law_wired [] (aCons (mLst (aCons (mVar 6) (aCons (mVar 7) (aCons (mVar 8) (aCons (mVar 9) (aCons (mCB fLen (aCons (mVar 2) aNil)) aNil)))))) (aCons (mVar 12) (aCons (mCall c__law_draw [] (aCons (mVar 0) (aCons (mC (.int 2)) aNil))) aNil)))))))))))))))
/-- _law_times: 0 _law_one 1 _law_other_here 2 _law_found 3 _law_k -/
def b__law_times : ST := (sSeq (sSet (mC (.int 0)) (gNm 2))
  (sSeq (sFor (iRange (mUn uBits (mVar 1))) (gNm 3) (sSet (mBin bXor (mVar 2) (mBin bMul (mBin bShl (mVar 0) (mVar 3)) (mBin bAnd (mBin bShr (mVar 1) (mVar 3)) (mC (.int 1))))) (gNm 2)))
  (sRet (mVar 2))))
/-- _law_ring: 0 _law_above 1 _law_below 2 _law_size 3 _law_wires_here 4 _law_k 5 _law_taps 6 _law_shows -/
def b__law_ring : ST := (sSeq (sSet (mLstM (aCons (mTup (aCons (mC (.str "in")) aNil)) aNil)) (gNm 3))
  (sSeq (sFor (iRange (mVar 2)) (gNm 4) (sExpr (mBL mAppend (mVar 3) (aCons (mTup (aCons (mC (.str "cell")) (aCons (mBin bIx (mLst (aCons (mVar 4) (aCons (mBin bAdd (mVar 2) (mC (.int 1))) aNil))) (mCB fInt (aCons (mBin (bEqS false) (mVar 4) (mC (.int 0))) aNil))) (aCons (mC (.int 0)) aNil)))) aNil))))
  (sSeq (sSet (mLc (iRange2 (mC (.int 1)) (mBin bAdd (mVar 2) (mC (.int 1)))) (gNm 4) [4] (tVal (mBin (bEqS false) (mBin bAnd (mBin bShr (mVar 1) (mVar 4)) (mC (.int 1))) (mC (.int 1)))) (mVar 4)) (gNm 5))
  (sSeq (sExpr (mBL mAppend (mVar 3) (aCons (mCB fTup (aCons (mBin bCat (mLst (aCons (mC (.str "sum")) (aCons (mC (.int 0)) aNil))) (mVar 5)) aNil)) aNil)))
  (sSeq (sSet (mLc (iRange (mBin bAdd (mVar 2) (mC (.int 1)))) (gNm 4) [4] (tVal (mBin (bEqS false) (mBin bAnd (mBin bShr (mVar 0) (mVar 4)) (mC (.int 1))) (mC (.int 1)))) (mBin bIx (mLst (aCons (mVar 4) (aCons (mBin bAdd (mVar 2) (mC (.int 1))) aNil))) (mCB fInt (aCons (mBin (bEqS false) (mVar 4) (mC (.int 0))) aNil)))) (gNm 6))
  (sSeq (sExpr (mBL mAppend (mVar 3) (aCons (mCB fTup (aCons (mBin bCat (mLst (aCons (mC (.str "sum")) aNil)) (mVar 6)) aNil)) aNil)))
  (sRet (mTup (aCons (mFrz (mVar 3)) (aCons (mLst (aCons (mBin bAdd (mVar 2) (mC (.int 2))) aNil)) aNil))))))))))
/-- _law_companion: 0 _law_below 1 _law_size 2 _law_first_here 3 _law_wires_here 4 _law_k -/
def b__law_companion : ST := (sSeq (sSet (mLstM aNil) (gNm 3))
  (sSeq (sFor (iRange (mVar 1)) (gNm 4) (sExpr (mBL mAppend (mVar 3) (aCons (mTup (aCons (mC (.str "cell")) (aCons (mBin bAdd (mVar 4) (mC (.int 1))) (aCons (mBin bIx (mVar 2) (mVar 4)) aNil)))) aNil))))
  (sSeq (sExpr (mBL mAppend (mVar 3) (aCons (mCB fTup (aCons (mBin bCat (mLst (aCons (mC (.str "sum")) aNil)) (mLc (iRange2 (mC (.int 1)) (mBin bAdd (mVar 1) (mC (.int 1)))) (gNm 4) [4] (tVal (mBin (bEqS false) (mBin bAnd (mBin bShr (mVar 0) (mVar 4)) (mC (.int 1))) (mC (.int 1)))) (mBin bSub (mVar 1) (mVar 4)))) aNil)) aNil)))
  (sRet (mTup (aCons (mFrz (mVar 3)) (aCons (mLst (aCons (mC (.int 0)) aNil)) aNil)))))))
/-- _law_flow: 0 _law_below 1 _law_first_here 2 _law_beats 3 _law_bits_here 4 _law_k -/
def b__law_flow : ST := (sSeq (sSet (mCB fListM (aCons (mVar 1) aNil)) (gNm 3))
  (sSeq (sWhile (tVal (mBin bLt (mCB fLen (aCons (mVar 3) aNil)) (mVar 2))) (sExpr (mBL mAppend (mVar 3) (aCons (mBin bAnd (mCB fSum (aCons (mLc (iRange2 (mC (.int 1)) (mBin bAdd (mCB fLen (aCons (mVar 1) aNil)) (mC (.int 1)))) (gNm 4) [4] (tVal (mBin (bEqS false) (mBin bAnd (mBin bShr (mVar 0) (mVar 4)) (mC (.int 1))) (mC (.int 1)))) (mBin bIx (mVar 3) (mUn uNeg (mVar 4)))) aNil)) (mC (.int 1))) aNil))))
  (sRet (mFrz (mVar 3)))))
/-- _law_quiet_pair: 0 _law_below 1 _law_size 2 _law_more 3 _law_wide 4 _law_best 5 _law_number 6 _law_first_here 7 _law_k 8 _law_one 9 _law_two 10 _law_unlike 11 _law_t -/
def b__law_quiet_pair (c__law_companion c__law_flow : CT) : ST := (sSeq (sSet (mLst (aCons (mUn uNeg (mC (.int 1))) (aCons (mBin bRep (mLst (aCons (mC (.int 1)) aNil)) (mVar 1)) (aCons (mBin bRep (mLst (aCons (mC (.int 1)) aNil)) (mVar 3)) aNil)))) (gNm 4))
  (sSeq (sFor (iRange2 (mC (.int 1)) (mBin bShl (mC (.int 1)) (mVar 1))) (gNm 5) (sSeq (sSet (mLc (iRange (mVar 1)) (gNm 7) [7] tYes (mBin bAnd (mBin bShr (mVar 5) (mVar 7)) (mC (.int 1)))) (gNm 6))
  (sSeq (sSet (mCall c__law_flow [] (aCons (mVar 0) (aCons (mVar 6) (aCons (mBin bAdd (mVar 1) (mVar 3)) aNil)))) (gNm 8))
  (sSeq (sSet (mCall c__law_flow [] (aCons (mVar 2) (aCons (mSl slL (mVar 8) oNone (oSome (mVar 3))) (aCons (mBin bAdd (mVar 1) (mVar 3)) aNil)))) (gNm 9))
  (sSeq (sSet (mBin bCat (mLc (iRange (mBin bAdd (mVar 1) (mVar 3))) (gNm 11) [11] (tVal (mBin (bEqS true) (mBin bIx (mVar 8) (mVar 11)) (mBin bIx (mVar 9) (mVar 11)))) (mVar 11)) (mLst (aCons (mUn uNeg (mC (.int 1))) aNil))) (gNm 10))
  (sIf (tVal (mBin bGt (mBin bIx (mVar 10) (mC (.int 0))) (mBin bIx (mVar 4) (mC (.int 0))))) (sSet (mLst (aCons (mBin bIx (mVar 10) (mC (.int 0))) (aCons (mVar 6) (aCons (mSl slL (mVar 8) oNone (oSome (mVar 3))) aNil)))) (gNm 4)) sNx))))))
  (sRet (mTup (aCons (mCall c__law_companion [] (aCons (mVar 0) (aCons (mVar 1) (aCons (mBin bIx (mVar 4) (mC (.int 1))) aNil)))) (aCons (mCall c__law_companion [] (aCons (mVar 2) (aCons (mVar 3) (aCons (mBin bIx (mVar 4) (mC (.int 2))) aNil)))) aNil))))))
/-- _law_late_pair: 0 _law_pen 1 _law_size 2 _law_wide 3 _law_below 4 _law_more 5 _law_above 6 _law_other_here -/
def b__law_late_pair (c__law_quiet_pair c__law_times c__law_ring c__law_draw : CT) : ST := (sSeq (sSet (mBin bAdd (mC (.int 1)) (mCall c__law_draw [] (aCons (mVar 0) (aCons (mC (.int 2)) aNil)))) (gNm 1))
  (sSeq (sSet (mBin bAdd (mC (.int 1)) (mCall c__law_draw [] (aCons (mVar 0) (aCons (mC (.int 2)) aNil)))) (gNm 2))
  (sSeq (sSet (mBin bAdd (mC (.int 1)) (mBin bMul (mC (.int 2)) (mCall c__law_draw [] (aCons (mVar 0) (aCons (mBin bShl (mC (.int 1)) (mVar 1)) aNil))))) (gNm 3))
  (sSeq (sSet (mBin bAdd (mC (.int 1)) (mBin bMul (mC (.int 2)) (mCall c__law_draw [] (aCons (mVar 0) (aCons (mBin bShl (mC (.int 1)) (mVar 2)) aNil))))) (gNm 4))
  (sSeq (sIf (tVal (mBin (bEqS false) (mCall c__law_draw [] (aCons (mVar 0) (aCons (mC (.int 2)) aNil))) (mC (.int 0)))) (sRet (mCall c__law_quiet_pair [] (aCons (mVar 3) (aCons (mVar 1) (aCons (mVar 4) (aCons (mVar 2) aNil)))))) sNx)
  (sSeq (sFor (iRange (mBin bShl (mC (.int 1)) (mBin bAdd (mVar 1) (mC (.int 1))))) (gNm 5) (sFor (iRange (mBin bShl (mC (.int 1)) (mBin bAdd (mVar 2) (mC (.int 1))))) (gNm 6) (sIf (tVal (mBin (bEqS false) (mBin bXor (mCall c__law_times [] (aCons (mVar 5) (aCons (mVar 4) aNil))) (mCall c__law_times [] (aCons (mVar 6) (aCons (mVar 3) aNil)))) (mBin bShl (mC (.int 1)) (mBin bAdd (mVar 1) (mVar 2))))) (sRet (mTup (aCons (mCall c__law_ring [] (aCons (mVar 5) (aCons (mVar 3) (aCons (mVar 1) aNil)))) (aCons (mCall c__law_ring [] (aCons (mVar 6) (aCons (mVar 4) (aCons (mVar 2) aNil)))) aNil)))) sNx)))
  (sRet (mCall c__law_quiet_pair [] (aCons (mVar 3) (aCons (mVar 1) (aCons (mVar 4) (aCons (mVar 2) aNil))))))))))))
/-- _law_pair: 0 _law_pen 1 _law_counts 2 _law_one 3 _law_other_here -/
def b__law_pair (c__law_draw c__law_other c__law_net c__law_late_pair : CT) : ST := (sSeq (sIf (tVal (mBin (bEqS false) (mCall c__law_draw [] (aCons (mVar 0) (aCons (mC (.int 4)) aNil))) (mC (.int 0)))) (sRet (mCall c__law_late_pair [] (aCons (mVar 0) aNil))) sNx)
  (sSeq (sSet (mLst (aCons (mCall c__law_draw [] (aCons (mVar 0) (aCons (mC (.int 3)) aNil))) (aCons (mCall c__law_draw [] (aCons (mVar 0) (aCons (mC (.int 4)) aNil))) (aCons (mCall c__law_draw [] (aCons (mVar 0) (aCons (mC (.int 4)) aNil))) aNil)))) (gNm 1))
  (sSeq (sSet (mCall c__law_net [] (aCons (mVar 0) (aCons (mVar 1) (aCons (mCall c__law_draw [] (aCons (mVar 0) (aCons (mC (.int 4)) aNil))) aNil)))) (gNm 2))
  (sSeq (sSet (mCall c__law_other [] (aCons (mVar 0) (aCons (mBin bIx (mVar 2) (mC (.int 0))) (aCons (mBin bIx (mVar 2) (mC (.int 1))) aNil)))) (gNm 3))
  (sSeq (sIf (tVal (mBin (bEqS false) (mCall c__law_draw [] (aCons (mVar 0) (aCons (mC (.int 2)) aNil))) (mC (.int 0)))) (sRet (mTup (aCons (mVar 2) (aCons (mVar 3) aNil)))) sNx)
  (sRet (mTup (aCons (mVar 3) (aCons (mVar 2) aNil)))))))))
/-- _law_answer: 0 _law_tables_here 1 _law_put 2 _law_beats 3 _law_bare_here -/
def b__law_answer (c__law_bare : CT) : ST := (sSeq (sSet (mCall c__law_bare [] (aCons (mVar 0) (aCons (mBin bIx (mBin bIx (mVar 0) (mC (.int 1))) (mVar 1)) (aCons (mVar 2) aNil)))) (gNm 3))
  (sRet (mBin bCat (mLst (aCons (mBin bIx (mBin bIx (mVar 0) (mC (.int 3))) (mVar 1)) aNil)) (mVar 3))))
/-- _law_difference: 0 _law_tables_here 1 _law_others 2 _law_beats 3 _law_runs_here 4 _law_put 5 _law_one 6 _law_other_here 7 _law_pair_here 8 _law_beat -/
def b__law_difference (c__law_added c__law_answer : CT) : ST := (sSeq (sSet (mBin bAdd (mCB fLen (aCons (mBin bIx (mVar 0) (mC (.int 0))) aNil)) (mCB fLen (aCons (mBin bIx (mVar 1) (mC (.int 0))) aNil))) (gNm 2))
  (sSeq (sSet (mLstM aNil) (gNm 3))
  (sSeq (sFor (iRange (mCB fLen (aCons (mBin bIx (mVar 0) (mC (.int 1))) aNil))) (gNm 4) (sSeq (sSet (mCall c__law_answer [] (aCons (mVar 0) (aCons (mVar 4) (aCons (mVar 2) aNil)))) (gNm 5))
  (sSeq (sSet (mCall c__law_answer [] (aCons (mVar 1) (aCons (mVar 4) (aCons (mVar 2) aNil)))) (gNm 6))
  (sExpr (mBL mAppend (mVar 3) (aCons (mLc (iZip (mVar 5) (mVar 6)) (gNm 7) [7] tYes (mFrz (mCall c__law_added [] (aCons (mVar 7) (aCons (mBin bIx (mVar 0) (mC (.int 4))) aNil))))) aNil))))))
  (sSeq (sFor (iRange (mBin bAdd (mVar 2) (mC (.int 1)))) (gNm 8) (sFor (iRange (mCB fLen (aCons (mVar 3) aNil))) (gNm 4) (sIf (tVal (mBin (bIn false) (mC (.int 1)) (mBin bIx (mBin bIx (mVar 3) (mVar 4)) (mVar 8)))) (sRet (mTup (aCons (mVar 8) (aCons (mVar 4) (aCons (mBL mIndex (mBin bIx (mBin bIx (mVar 3) (mVar 4)) (mVar 8)) (aCons (mC (.int 1)) aNil)) aNil))))) sNx)))
  (sRet (mC .non))))))
/-- _law_all: 0 _law_size 1 _law_at 2 _law_number -/
def b__law_all : ST := (sRet (mLc (iRange (mBin bShl (mC (.int 1)) (mVar 0))) (gNm 2) [2] tYes (mLc (iRange (mVar 0)) (gNm 1) [1] tYes (mBin bAnd (mBin bShr (mVar 2) (mVar 1)) (mC (.int 1))))))
/-- _law_runs: 0 _law_tables_here 1 _law_beats 2 _law_here -/
def b__law_runs (c__law_all c__law_bare : CT) : ST := (sRet (mLc (iSeq (mCall c__law_all [] (aCons (mCB fLen (aCons (mBin bIx (mVar 0) (mC (.int 0))) aNil)) aNil))) (gNm 2) [2] tYes (mCall c__law_bare [] (aCons (mVar 0) (aCons (mVar 2) (aCons (mVar 1) aNil))))))
/-- _law_twins: 0 _law_twins_here 1 _law_runs_here 2 _law_others 3 _law_beats 4 _law_size 5 _law_states 6 _law_at 7 _law_parts 8 _law_k 9 _law_part -/
def b__law_twins (c__law_bare c__law_added c__law_all : CT) : ST := (sSeq (sSet (mCB fLen (aCons (mBin bIx (mVar 2) (mC (.int 0))) aNil)) (gNm 4))
  (sSeq (sIf (tOr (tNot (tVal (mCB fIsTup (aCons (mVar 0) aNil)))) (tVal (mBin (bEqS true) (mBin bShl (mC (.int 1)) (mCB fLen (aCons (mVar 0) aNil))) (mCB fLen (aCons (mVar 1) aNil))))) (sRet (mC (.bl false))) sNx)
  (sSeq (sSet (mCall c__law_all [] (aCons (mCB fLen (aCons (mVar 0) aNil)) aNil)) (gNm 5))
  (sSeq (sFor (iRange (mCB fLen (aCons (mVar 1) aNil))) (gNm 6) (sSeq (sSet (mLc (iRange (mCB fLen (aCons (mVar 0) aNil))) (gNm 8) [8] (tVal (mBin (bEqS false) (mBin bIx (mBin bIx (mVar 5) (mVar 6)) (mVar 8)) (mC (.int 1)))) (mBin bIx (mVar 0) (mVar 8))) (gNm 7))
  (sSeq (sIf (tVal (mBin (bEqD true) (mLc (iSeq (mVar 0)) (gNm 9) [9] tYes (mCB fLen (aCons (mVar 9) aNil))) (mBin bRep (mLst (aCons (mVar 4) aNil)) (mCB fLen (aCons (mVar 0) aNil))))) (sRet (mC (.bl false))) sNx)
  (sIf (tVal (mBin (bEqD true) (mCall c__law_bare [] (aCons (mVar 2) (aCons (mFrz (mCall c__law_added [] (aCons (mVar 7) (aCons (mVar 4) aNil)))) (aCons (mVar 3) aNil)))) (mBin bIx (mVar 1) (mVar 6)))) (sRet (mC (.bl false))) sNx))))
  (sRet (mC (.bl true)))))))
/-- _law_against: 0 _law_looks 1 _law_run_here 2 _law_others 3 _law_beats 4 _law_order 5 _law_out 6 _law_beat 7 _law_one 8 _law_at 9 _law_here 10 _law_k 11 _law_bare_here -/
def b__law_against (c__law_bare : CT) : ST := (sSeq (sSet (mLc (iSeq (mVar 0)) (gTp [5, 6]) [5, 6] tYes (mTup (aCons (mVar 6) (aCons (mVar 5) aNil)))) (gNm 4))
  (sSeq (sIf (tOr (tNot (tVal (mCB fIsTup (aCons (mVar 0) aNil)))) (tVal (mBin (bEqD true) (mVar 4) (mUn uSortSet (mVar 4))))) (sRet (mC (.bl false))) sNx)
  (sSeq (sIf (tVal (mBin (bEqD true) (mLc (iSeq (mVar 4)) (gNm 7) [7] (tOr (tVal (mBin bNotRng (mBin bIx (mVar 7) (mC (.int 0))) (mVar 3))) (tVal (mBin bNotRng (mBin bIx (mVar 7) (mC (.int 1))) (mBin bIx (mVar 2) (mC (.int 4)))))) (mVar 7)) (mLst aNil))) (sRet (mC (.bl false))) sNx)
  (sSeq (sFor (iRange (mCB fLen (aCons (mBin bIx (mVar 2) (mC (.int 0))) aNil))) (gNm 8) (sSeq (sSet (mLc (iRange (mCB fLen (aCons (mBin bIx (mVar 2) (mC (.int 0))) aNil))) (gNm 10) [10] tYes (mCB fInt (aCons (mBin (bEqS false) (mVar 10) (mVar 8)) aNil))) (gNm 9))
  (sSeq (sSet (mCall c__law_bare [] (aCons (mVar 2) (aCons (mVar 9) (aCons (mVar 3) aNil)))) (gNm 11))
  (sIf (tVal (mBin (bEqS true) (mBin bAnd (mCB fSum (aCons (mLc (iSeq (mVar 0)) (gTp [5, 6]) [5, 6] tYes (mBin bIx (mBin bIx (mVar 11) (mVar 6)) (mVar 5))) aNil)) (mC (.int 1))) (mC (.int 0)))) (sRet (mC (.bl false))) sNx))))
  (sRet (mBin (bEqS false) (mBin bAnd (mCB fSum (aCons (mLc (iSeq (mVar 0)) (gTp [5, 6]) [5, 6] tYes (mBin bIx (mBin bIx (mVar 1) (mVar 6)) (mVar 5))) aNil)) (mC (.int 1))) (mC (.int 1))))))))
/-- law: 0 _law_script 1 _law_pen 2 _law_one 3 _law_other_here 4 _law_tables_here 5 _law_told 6 _law_due 7 _law_beats 8 _law_runs_here 9 _law_lost 10 _law_side 11 _law_run_here 12 _law_here -/
def b_law (c__law_against c__law_bare c__law_twins c__law_runs c__law_difference c_from_all c_Net___init__ c__law_tables c__law_pair : CT) : ST := (sSeq (sSet (mLstM (aCons (mOrL (mCB fScr (aCons (mVar 0) aNil)) (mLstM (aCons (mC (.int 0)) aNil))) (aCons (mC (.int 0)) aNil))) (gNm 1))
  (sSeq (sSet (mCall c__law_pair [] (aCons (mVar 1) aNil)) (gTp [2, 3]))
  (sSeq (sSet (mLst (aCons (mCall c__law_tables [] (aCons (mBin bIx (mVar 2) (mC (.int 0))) (aCons (mBin bIx (mVar 2) (mC (.int 1))) aNil))) (aCons (mCall c__law_tables [] (aCons (mBin bIx (mVar 3) (mC (.int 0))) (aCons (mBin bIx (mVar 3) (mC (.int 1))) aNil))) aNil))) (gNm 4))
  (sSeq (sSet (mCall c_from_all [] (aCons (mMake 952 c_Net___init__ [] (aCons (mBin bIx (mVar 2) (mC (.int 0))) (aCons (mBin bIx (mVar 2) (mC (.int 1))) aNil))) (aCons (mMake 952 c_Net___init__ [] (aCons (mBin bIx (mVar 3) (mC (.int 0))) (aCons (mBin bIx (mVar 3) (mC (.int 1))) aNil))) aNil))) (gNm 5))
  (sSeq (sSet (mCall c__law_difference [] (aCons (mBin bIx (mVar 4) (mC (.int 0))) (aCons (mBin bIx (mVar 4) (mC (.int 1))) aNil))) (gNm 6))
  (sSeq (sIf (tVal (mBin (bEqD true) (mFld 1004 "difference" (mVar 5)) (mVar 6))) (sRet (mC (.bl false))) sNx)
  (sSeq (sIf (tVal (mUn (uIsN true) (mVar 6))) (sRet (mAndV (mBin (bEqD false) (mLst (aCons (mFld 1004 "there" (mVar 5)) (aCons (mFld 1004 "back" (mVar 5)) (aCons (mFld 1004 "side" (mVar 5)) (aCons (mFld 1004 "looks" (mVar 5)) aNil))))) (mBin bRep (mLst (aCons (mC .non) aNil)) (mC (.int 4)))) (mUn (uIsN false) (mFld 1004 "state" (mVar 5))))) sNx)
  (sSeq (sSet (mBin bAdd (mCB fLen (aCons (mBin bIx (mBin bIx (mVar 4) (mC (.int 0))) (mC (.int 0))) aNil)) (mCB fLen (aCons (mBin bIx (mBin bIx (mVar 4) (mC (.int 1))) (mC (.int 0))) aNil))) (gNm 7))
  (sSeq (sSet (mLst (aCons (mCall c__law_runs [] (aCons (mBin bIx (mVar 4) (mC (.int 0))) (aCons (mVar 7) aNil))) (aCons (mCall c__law_runs [] (aCons (mBin bIx (mVar 4) (mC (.int 1))) (aCons (mVar 7) aNil))) aNil))) (gNm 8))
  (sSeq (sSet (mLc (iRange (mC (.int 2))) (gNm 10) [10] (tVal (mBin (bEqD true) (mLc (iSeq (mBin bIx (mVar 8) (mVar 10))) (gNm 11) [11] (tVal (mBin (bInD true) (mVar 11) (mBin bIx (mVar 8) (mBin bSub (mC (.int 1)) (mVar 10))))) (mVar 11)) (mLst aNil))) (mVar 10)) (gNm 9))
  (sSeq (sIf (tVal (mBin (bEqD false) (mVar 9) (mLst aNil))) (sSeq (sIf (tOr (tVal (mUn (uIsN true) (mFld 1004 "side" (mVar 5)))) (tOr (tVal (mUn (uIsN true) (mFld 1004 "looks" (mVar 5)))) (tVal (mUn (uIsN true) (mFld 1004 "state" (mVar 5)))))) (sRet (mC (.bl false))) sNx)
  (sSeq (sIf (tNot (tVal (mCall c__law_twins [] (aCons (mFld 1004 "there" (mVar 5)) (aCons (mBin bIx (mVar 8) (mC (.int 0))) (aCons (mBin bIx (mVar 4) (mC (.int 1))) (aCons (mVar 7) aNil))))))) (sRet (mC (.bl false))) sNx)
  (sRet (mCall c__law_twins [] (aCons (mFld 1004 "back" (mVar 5)) (aCons (mBin bIx (mVar 8) (mC (.int 1))) (aCons (mBin bIx (mVar 4) (mC (.int 0))) (aCons (mVar 7) aNil)))))))) sNx)
  (sSeq (sIf (tOr (tVal (mBin (bEqS true) (mFld 1004 "side" (mVar 5)) (mBin bIx (mVar 9) (mC (.int 0))))) (tOr (tVal (mUn (uIsN true) (mFld 1004 "there" (mVar 5)))) (tVal (mUn (uIsN true) (mFld 1004 "back" (mVar 5)))))) (sRet (mC (.bl false))) sNx)
  (sSeq (sSet (mFld 1004 "state" (mVar 5)) (gNm 12))
  (sSeq (sIf (tOr (tNot (tVal (mCB fIsTup (aCons (mVar 12) aNil)))) (tVal (mBin (bEqS true) (mCB fLen (aCons (mVar 12) aNil)) (mCB fLen (aCons (mBin bIx (mBin bIx (mVar 4) (mBin bIx (mVar 9) (mC (.int 0)))) (mC (.int 0))) aNil))))) (sRet (mC (.bl false))) sNx)
  (sSeq (sSet (mCall c__law_bare [] (aCons (mBin bIx (mVar 4) (mBin bIx (mVar 9) (mC (.int 0)))) (aCons (mVar 12) (aCons (mVar 7) aNil)))) (gNm 11))
  (sRet (mCall c__law_against [] (aCons (mFld 1004 "looks" (mVar 5)) (aCons (mVar 11) (aCons (mBin bIx (mVar 4) (mBin bSub (mC (.int 1)) (mBin bIx (mVar 9) (mC (.int 0))))) (aCons (mVar 7) aNil)))))))))))))))))))))
end BB
end
section
/-! DL: how data and store stand in the layer's heap; soundness of readings -/
namespace DL
open PySem PySem.Spec PyProof.Rows L2
def Ex (H H' : Hp) : Prop := ∀ a o, H a = some o → H' a = some o
theorem Ex.refl (H : Hp) : Ex H H := fun _ _ h => h
theorem Ex.trans {H H1 H2 : Hp} (a : Ex H H1) (b : Ex H1 H2) : Ex H H2 := fun x o h => b x o (a x o h)
theorem Ex.new {H : Hp} {p : Addr} {o : HO} (h : H p = none) : Ex H (upd H p o) := fun a u e => by
  rw [upd_ne (ne_of_none e h)]
  exact e
theorem Ex.back {H H' : Hp} {p : Addr} (e : Ex H H') (h : H' p = none) : H p = none := by
  cases h1 : H p with
  | none => rfl
  | some o => rw [e p o h1] at h; cases h
theorem Ex.upd {H H' : Hp} {p : Addr} {o : HO} (e : Ex H H') (h : H p = none) : Ex H (upd H' p o) := fun a u q => by
  rw [upd_ne (ne_of_none q h)]; exact e a u q
theorem Ex.upd2 {H H' : Hp} {p : Addr} {o : HO} (e : Ex H H') : Ex (L2.upd H p o) (L2.upd H' p o) := fun a u q => by
  by_cases h : a = p
  · subst h; rw [upd_same] at q ⊢; exact q
  · rw [upd_ne h] at q ⊢; exact e a u q
theorem ex_sqL {K : PySem.W.Frag} {H H' : Hp} {a : Addr} {xs : List V} (e : Ex H H') (h : SqL K H a xs) : SqL K H' a xs := by
  rcases h with (h | ⟨o, h⟩) | h
  · exact .inl (.inl (e _ _ h))
  · exact .inl (.inr ⟨o, e _ _ h⟩)
  · exact .inr h
theorem ex_sqT {K : PySem.W.Frag} {H H' : Hp} {a : Addr} {xs : List V} (e : Ex H H') (h : SqT K H a xs) : SqT K H' a xs := by
  rcases h with (h | ⟨o, h⟩) | h
  · exact .inl (.inl (e _ _ h))
  · exact .inl (.inr ⟨o, e _ _ h⟩)
  · exact .inr h
mutual
inductive Rp (K : PySem.W.Frag) (H : Hp) : V → D → Prop
  | non : Rp K H .non .non
  | bl (b : Bool) : Rp K H (.bl b) (.bl b)
  | int (i : Int) : Rp K H (.int i) (.int i)
  | str (x : Str) : Rp K H (.str x) (.str x)
  | lst {a : Addr} {xs : List V} {ds : List D} : H a = some (.lst xs) → xs.length ≤ sizeLine → RpAll K H xs ds → Rp K H (.ref a) (.lst ds)
  | tup {a : Addr} {xs : List V} {ds : List D} : SqT K H a xs → xs.length ≤ sizeLine → RpAll K H xs ds → Rp K H (.ref a) (.tup ds)
  | obj {a C dx : Addr} {fs : List (Str × V)} {gs : List (Str × D)} : H a = some (.ins C dx fs) → RpF K H fs gs → Rp K H (.ref a) (.obj C gs)
  | ref (a : Addr) : Rp K H (.ref a) (.ref a)
  | scr {a : Addr} {ns : List Int} : SqL K H a (ns.map V.int) → ns.length ≤ 63 → Rp K H (.ref a) (.scr ns)
inductive RpAll (K : PySem.W.Frag) (H : Hp) : List V → List D → Prop
  | nil : RpAll K H [] []
  | cons {v : V} {vs : List V} {d : D} {ds : List D} : Rp K H v d → RpAll K H vs ds → RpAll K H (v :: vs) (d :: ds)
inductive RpF (K : PySem.W.Frag) (H : Hp) : List (Str × V) → List (Str × D) → Prop
  | nil : RpF K H [] []
  | cons {f : Str} {v : V} {vs : List (Str × V)} {d : D} {ds : List (Str × D)} : Rp K H v d → RpF K H vs ds → RpF K H ((f, v) :: vs) ((f, d) :: ds)
end
section
variable {K : PySem.W.Frag} {H H' : Hp}
mutual
theorem Rp.mono (e : Ex H H') : ∀ {v : V} {d : D}, Rp K H v d → Rp K H' v d
  | _, _, .non => .non
  | _, _, .bl b => .bl b
  | _, _, .int b => .int b
  | _, _, .str b => .str b
  | _, _, .lst h l r => .lst (e _ _ h) l (RpAll.mono e r)
  | _, _, .tup h l r => .tup (ex_sqT e h) l (RpAll.mono e r)
  | _, _, .obj h r => .obj (e _ _ h) (RpF.mono e r)
  | _, _, .ref a => .ref a
  | _, _, .scr h l => .scr (ex_sqL e h) l
theorem RpAll.mono (e : Ex H H') : ∀ {v : List V} {d : List D}, RpAll K H v d → RpAll K H' v d
  | _, _, .nil => .nil
  | _, _, .cons h r => .cons (Rp.mono e h) (RpAll.mono e r)
theorem RpF.mono (e : Ex H H') : ∀ {v : List (Str × V)} {d : List (Str × D)}, RpF K H v d → RpF K H' v d
  | _, _, .nil => .nil
  | _, _, .cons h r => .cons (Rp.mono e h) (RpF.mono e r)
end
theorem RpAll.length : ∀ {v : List V} {d : List D}, RpAll K H v d → v.length = d.length
  | _, _, .nil => rfl
  | _, _, .cons _ r => congrArg Nat.succ (RpAll.length r)
theorem RpAll.get : ∀ {v : List V} {d : List D} {i : Nat} {x : D}, RpAll K H v d → d[i]? = some x → ∃ u, v[i]? = some u ∧ Rp K H u x
  | _, _, _, _, .nil, e => by simp at e
  | _, _, 0, _, .cons h r, e => by simp at e; subst e; exact ⟨_, rfl, h⟩
  | _, _, i + 1, x, .cons h r, e => by
    obtain ⟨u, a, b⟩ := RpAll.get (i := i) (x := x) r (by simpa using e)
    exact ⟨u, by simpa using a, b⟩
theorem RpAll.get' : ∀ {v : List V} {d : List D} {i : Nat} {u : V}, RpAll K H v d → v[i]? = some u → ∃ x, d[i]? = some x ∧ Rp K H u x
  | _, _, _, _, .nil, e => by simp at e
  | _, _, 0, _, .cons h r, e => by simp at e; subst e; exact ⟨_, rfl, h⟩
  | _, _, i + 1, x, .cons h r, e => by
    obtain ⟨u, a, b⟩ := RpAll.get' (i := i) (u := x) r (by simpa using e)
    exact ⟨u, by simpa using a, b⟩
theorem RpAll.append : ∀ {v w : List V} {d e : List D}, RpAll K H v d → RpAll K H w e → RpAll K H (v ++ w) (d ++ e)
  | _, _, _, _, .nil, r => r
  | _, _, _, _, .cons h t, r => .cons h (RpAll.append t r)
theorem RpAll.take : ∀ {v : List V} {d : List D} (n : Nat), RpAll K H v d → RpAll K H (v.take n) (d.take n)
  | _, _, 0, _ => .nil
  | _, _, _ + 1, .nil => .nil
  | _, _, n + 1, .cons h t => .cons h (RpAll.take n t)
theorem RpAll.drop : ∀ {v : List V} {d : List D} (n : Nat), RpAll K H v d → RpAll K H (v.drop n) (d.drop n)
  | _, _, 0, r => r
  | _, _, _ + 1, .nil => .nil
  | _, _, n + 1, .cons h t => RpAll.drop n t
theorem RpAll.set {x : V} {y : D} (h : Rp K H x y) : ∀ {v : List V} {d : List D} (n : Nat), RpAll K H v d → RpAll K H (v.set n x) (d.set n y)
  | _, _, _, .nil => .nil
  | _, _, 0, .cons _ t => .cons h t
  | _, _, n + 1, .cons q t => .cons q (RpAll.set h n t)
theorem RpAll.rep {v : List V} {d : List D} (r : RpAll K H v d) : ∀ n, RpAll K H (List.replicate n v).flatten (List.replicate n d).flatten
  | 0 => .nil
  | n + 1 => by
    rw [List.replicate_succ, List.replicate_succ, List.flatten_cons, List.flatten_cons]
    exact r.append (RpAll.rep r n)
theorem RpF.put {x : V} {y : D} {f : Str} (h : Rp K H x y) : ∀ {v : List (Str × V)} {d : List (Str × D)}, RpF K H v d → RpF K H (putF f x v) (putD f y d)
  | _, _, .nil => .cons h .nil
  | _, _, .cons (f := g) q t => by
    show RpF K H (if g = f then _ else _) (if g = f then _ else _)
    by_cases e : g = f
    · rw [if_pos e, if_pos e]; exact .cons h t
    · rw [if_neg e, if_neg e]; exact .cons q (RpF.put h t)
theorem RpF.look {f : Str} {y : D} : ∀ {v : List (Str × V)} {d : List (Str × D)}, RpF K H v d → d.lookup f = some y → ∃ x, v.lookup f = some x ∧ Rp K H x y
  | _, _, .nil, e => by cases e
  | _, _, .cons (f := g) q t, e => by
    rw [List.lookup_cons] at e
    cases h : (f == g) with
    | true =>
      rw [h] at e
      have e' := Option.some.inj e
      subst e'
      exact ⟨_, by rw [List.lookup_cons, h], q⟩
    | false =>
      rw [h] at e
      obtain ⟨x, a, b⟩ := RpF.look t e
      exact ⟨x, by rw [List.lookup_cons, h]; exact a, b⟩
theorem RpF.look0 {f : Str} : ∀ {v : List (Str × V)} {d : List (Str × D)}, RpF K H v d → d.lookup f = none → v.lookup f = none
  | _, _, .nil, e => rfl
  | _, _, .cons (f := g) q t, e => by
    rw [List.lookup_cons] at e
    cases h : (f == g) with
    | true => rw [h] at e; cases e
    | false => rw [h] at e; rw [List.lookup_cons, h]; exact RpF.look0 t e
theorem RpF.length : ∀ {v : List (Str × V)} {d : List (Str × D)}, RpF K H v d → v.length = d.length
  | _, _, .nil => rfl
  | _, _, .cons _ r => congrArg Nat.succ (RpF.length r)
theorem RpAll.ints : ∀ {v : List V} {d : List D} {ns : List Int}, RpAll K H v d → intsOf d = some ns → v = ns.map V.int
  | _, _, _, .nil, e => by cases e; rfl
  | _, _, ns, .cons (d := d) (ds := ds) h t, e => by
    cases h with
    | int i =>
      have e' : (intsOf ds).map (i :: ·) = some ns := e
      cases q : intsOf ds with
      | none => rw [q] at e'; cases e'
      | some ms =>
        rw [q] at e'
        have e2 := Option.some.inj e'
        subst e2
        rw [RpAll.ints t q]; rfl
    | _ => cases e
theorem RpAll.bools : ∀ {v : List V} {d : List D} {ns : List Bool}, RpAll K H v d → boolsOf d = some ns → v = ns.map V.bl
  | _, _, _, .nil, e => by cases e; rfl
  | _, _, ns, .cons (d := d) (ds := ds) h t, e => by
    cases h with
    | bl i =>
      have e' : (boolsOf ds).map (i :: ·) = some ns := e
      cases q : boolsOf ds with
      | none => rw [q] at e'; cases e'
      | some ms =>
        rw [q] at e'
        have e2 := Option.some.inj e'
        subst e2
        rw [RpAll.bools t q]; rfl
    | _ => cases e
end
/-- a mutable thing in the heap -/
def MOk (K : PySem.W.Frag) (Hc H : Hp) (a : Nat) : MO → Prop
  | .lst ds => ∃ xs, H a = some (.lst xs) ∧ xs.length ≤ sizeLine ∧ RpAll K Hc xs ds
  | .ins C gs => ∃ dx fs, H a = some (.ins C dx fs) ∧ RpF K Hc fs gs
/-- what stands still (Hc), the store (M), what is another's (F), the heap -/
structure Rel (K : PySem.W.Frag) (Hc : Hp) (M : MM) (F H : Hp) : Prop where
  hc : Ex Hc H
  fr : Ex F H
  mo : ∀ a o, M a = some o → Hc a = none ∧ F a = none ∧ MOk K Hc H a o
  df : ∀ a o, F a = some o → Hc a = none
section
variable {K : PySem.W.Frag} {Hc Hc' F H H' : Hp} {M M' : MM} {a p : Nat} {o : HO}
theorem MOk.mono {u : MO} (e : Ex Hc Hc') (h : H' a = H a) (k : MOk K Hc H a u) : MOk K Hc' H' a u := by
  cases u with
  | lst ds => obtain ⟨xs, x, l, r⟩ := k; exact ⟨xs, h.trans x, l, r.mono e⟩
  | ins C gs => obtain ⟨dx, fs, x, r⟩ := k; exact ⟨dx, fs, h.trans x, r.mono e⟩
theorem MOk.some {u : MO} (k : MOk K Hc H a u) : ∃ o, H a = some o := by
  cases u with
  | lst ds => obtain ⟨xs, x, l, r⟩ := k; exact ⟨_, x⟩
  | ins C gs => obtain ⟨dx, fs, x, r⟩ := k; exact ⟨_, x⟩
theorem Rel.nM (R : Rel K Hc M F H) (h : H p = none) : M p = none := by
  cases e : M p with
  | none => rfl
  | some u =>
    obtain ⟨o, q⟩ := (R.mo _ _ e).2.2.some
    rw [h] at q; cases q
/-- a new thing that stands still -/
theorem Rel.new (R : Rel K Hc M F H) (h : H p = none) : Rel K (upd Hc p o) M F (upd H p o) where
  hc := R.hc.upd2
  fr := R.fr.upd (R.fr.back h)
  mo := fun a u e => by
    obtain ⟨h1, h2, h3⟩ := R.mo a u e
    obtain ⟨z, hz⟩ := h3.some
    have ne : a ≠ p := ne_of_none hz h
    exact ⟨by rw [upd_ne ne]; exact h1, h2, h3.mono (Ex.new (R.hc.back h)) (upd_ne ne)⟩
  df := fun a u e => by
    have ne : a ≠ p := ne_of_none (R.fr a u e) h
    rw [upd_ne ne]; exact R.df a u e
/-- a new mutable list -/
theorem Rel.newM (R : Rel K Hc M F H) (h : H p = none) {xs : List V} {ds : List D} (r : RpAll K Hc xs ds) (l : xs.length ≤ sizeLine) : Rel K Hc (M.upd p (.lst ds)) F (upd H p (.lst xs)) where
  hc := R.hc.upd (R.hc.back h)
  fr := R.fr.upd (R.fr.back h)
  mo := fun a u e => by
    by_cases q : a = p
    · subst q
      rw [MM.upd_same] at e; cases e
      exact ⟨R.hc.back h, R.fr.back h, xs, upd_same, l, r⟩
    · rw [MM.upd_ne q] at e
      obtain ⟨h1, h2, h3⟩ := R.mo a u e
      exact ⟨h1, h2, h3.mono (Ex.refl _) (upd_ne q)⟩
  df := R.df
/-- a mutable thing is written -/
theorem Rel.write (R : Rel K Hc M F H) {u u' : MO} (e : M p = some u) (k : MOk K Hc (upd H p o) p u') : Rel K Hc (M.upd p u') F (upd H p o) where
  hc := R.hc.upd (R.mo _ _ e).1
  fr := R.fr.upd (R.mo _ _ e).2.1
  mo := fun a v q => by
    by_cases z : a = p
    · subst z
      rw [MM.upd_same] at q; cases q
      exact ⟨(R.mo _ _ e).1, (R.mo _ _ e).2.1, k⟩
    · rw [MM.upd_ne z] at q
      obtain ⟨h1, h2, h3⟩ := R.mo a v q
      exact ⟨h1, h2, h3.mono (Ex.refl _) (upd_ne z)⟩
  df := R.df
theorem Rel.setLst (R : Rel K Hc M F H) {u : MO} (e : M p = some u) {xs : List V} {ds : List D} (r : RpAll K Hc xs ds) (l : xs.length ≤ sizeLine) : Rel K Hc (M.upd p (.lst ds)) F (upd H p (.lst xs)) :=
  R.write e ⟨xs, upd_same, l, r⟩
/-- a mutable thing stands still from here on -/
theorem Rel.freeze (R : Rel K Hc M F H) (hp : H p = some o) (hf : F p = none) (hcp : Hc p = none) : Rel K (upd Hc p o) (M.del p) F H where
  hc := fun a u e => by
    by_cases q : a = p
    · subst q; rw [upd_same] at e; cases e; exact hp
    · rw [upd_ne q] at e; exact R.hc a u e
  fr := R.fr
  mo := fun a u e => by
    by_cases q : a = p
    · subst q; rw [MM.del_same] at e; cases e
    · rw [MM.del_ne q] at e
      obtain ⟨h1, h2, h3⟩ := R.mo a u e
      exact ⟨by rw [upd_ne q]; exact h1, h2, h3.mono (Ex.new hcp) rfl⟩
  df := fun a u e => by
    by_cases q : a = p
    · subst q; rw [hf] at e; cases e
    · rw [upd_ne q]; exact R.df a u e
theorem Rel.drop (R : Rel K Hc M F H) (h : M'.le M) : Rel K Hc M' F H := ⟨R.hc, R.fr, fun a o e => R.mo a o (h a o e), R.df⟩
/-- a mutable thing is laid aside, and taken back -/
theorem Rel.lock (R : Rel K Hc M F H) {u : MO} (e : M p = some u) (hp : H p = some o) : Rel K Hc (M.del p) (upd F p o) H where
  hc := R.hc
  fr := fun a v q => by
    by_cases z : a = p
    · subst z; rw [upd_same] at q; cases q; exact hp
    · rw [upd_ne z] at q; exact R.fr a v q
  mo := fun a v q => by
    by_cases z : a = p
    · subst z; rw [MM.del_same] at q; cases q
    · rw [MM.del_ne z] at q
      obtain ⟨h1, h2, h3⟩ := R.mo a v q
      exact ⟨h1, by rw [upd_ne z]; exact h2, h3⟩
  df := fun a v q => by
    by_cases z : a = p
    · subst z; exact (R.mo _ _ e).1
    · rw [upd_ne z] at q; exact R.df a v q
theorem Rel.unlock (R : Rel K Hc M (upd F p o) H) (hf : F p = none) {u : MO} (k : H p = some o → MOk K Hc H p u) : Rel K Hc (M.upd p u) F H where
  hc := R.hc
  fr := fun a v q => R.fr a v (by rw [upd_ne (ne_of_none q hf)]; exact q)
  mo := fun a v q => by
    by_cases z : a = p
    · subst z
      rw [MM.upd_same] at q; cases q
      exact ⟨R.df a o upd_same, hf, k (R.fr a o upd_same)⟩
    · rw [MM.upd_ne z] at q
      obtain ⟨h1, h2, h3⟩ := R.mo a v q
      exact ⟨h1, by rw [upd_ne z] at h2; exact h2, h3⟩
  df := fun a v q => R.df a v (by rw [upd_ne (ne_of_none q hf)]; exact q)
end
/-- slots -/
structure Slots (K : PySem.W.Frag) (Hc : Hp) (σ : L2.St) (ρ : Env) : Prop where
  len : σ.length = ρ.length
  at_ : ∀ (i : Nat) d, ρ[i]? = some (some d) → ∃ v, σ[i]? = some (some v) ∧ Rp K Hc v d
section
variable {K : PySem.W.Frag} {Hc Hc' : Hp} {σ : L2.St} {ρ : Env}
theorem Slots.mono (e : Ex Hc Hc') (S : Slots K Hc σ ρ) : Slots K Hc' σ ρ := ⟨S.len, fun i d h => by
  obtain ⟨v, a, b⟩ := S.at_ i d h
  exact ⟨v, a, b.mono e⟩⟩
theorem Slots.set {v : V} {d : D} (S : Slots K Hc σ ρ) (r : Rp K Hc v d) (i : Nat) : Slots K Hc (σ.set i (some v)) (ρ.set i (some d)) := by
  refine ⟨by rw [List.length_set, List.length_set]; exact S.len, fun j e h => ?_⟩
  by_cases q : i = j
  · subst q
    by_cases z : i < ρ.length
    · rw [List.getElem?_set_self z] at h
      cases h
      exact ⟨v, List.getElem?_set_self (by rw [S.len]; exact z), r⟩
    · rw [List.getElem?_eq_none (by rw [List.length_set]; omega)] at h; cases h
  · rw [List.getElem?_set_ne q] at h
    obtain ⟨u, a, b⟩ := S.at_ j e h
    exact ⟨u, by rw [List.getElem?_set_ne q]; exact a, b⟩
theorem Slots.unset (S : Slots K Hc σ ρ) (i : Nat) : Slots K Hc (σ.set i none) (ρ.set i none) := by
  refine ⟨by rw [List.length_set, List.length_set]; exact S.len, fun j e h => ?_⟩
  by_cases q : i = j
  · subst q
    by_cases z : i < ρ.length
    · rw [List.getElem?_set_self z] at h; cases h
    · rw [List.getElem?_eq_none (by rw [List.length_set]; omega)] at h; cases h
  · rw [List.getElem?_set_ne q] at h
    obtain ⟨u, a, b⟩ := S.at_ j e h
    exact ⟨u, by rw [List.getElem?_set_ne q]; exact a, b⟩
theorem Slots.wipe (S : Slots K Hc σ ρ) : ∀ vs : List Nat, Slots K Hc (wipe σ vs) (wipeD ρ vs)
  | [] => S
  | v :: vs => (Slots.wipe S vs).unset v
end
/-! ### soundness -/
section
variable (K : PySem.W.Frag)
def SE (t : TE) (m : ET) : Prop := ∀ {σ : L2.St} {ρ : Env} {Hc : Hp} {M : MM} {F H : Hp} {P : PQ} {Q : VK}, Slots K Hc σ ρ → Rel K Hc M F H → m ρ M P →
  (∀ d M' v Hc' H', P d M' → Ex Hc Hc' → Rel K Hc' M' F H' → Rp K Hc' v d → Q v H') → t σ H Q
def SA (t : TA) (m : AT) : Prop := ∀ {σ : L2.St} {ρ : Env} {Hc : Hp} {M : MM} {F H : Hp} {P : List D → MM → Prop} {Q : List V → Hp → Prop}, Slots K Hc σ ρ → Rel K Hc M F H → m ρ M P →
  (∀ d M' v Hc' H', P d M' → Ex Hc Hc' → Rel K Hc' M' F H' → RpAll K Hc' v d → Q v H') → t σ H Q
def STt (t : L2.TT) (m : TT) : Prop := ∀ {σ : L2.St} {ρ : Env} {Hc : Hp} {M : MM} {F H : Hp} {P : Bool → MM → Prop} {Q : Bool → Hp → Prop}, Slots K Hc σ ρ → Rel K Hc M F H → m ρ M P →
  (∀ b M' Hc' H', P b M' → Ex Hc Hc' → Rel K Hc' M' F H' → Q b H') → t σ H Q
def SO (t : L2.TO) (m : OT) : Prop := ∀ {σ : L2.St} {ρ : Env} {Hc : Hp} {M : MM} {F H : Hp} {P : Option Int → MM → Prop} {Q : Option Int → Hp → Prop}, Slots K Hc σ ρ → Rel K Hc M F H → m ρ M P →
  (∀ b M' Hc' H', P b M' → Ex Hc Hc' → Rel K Hc' M' F H' → Q b H') → t σ H Q
/-- two values to a value -/
def S2 (t : L2.R2) (m : R2) : Prop := ∀ {Hc : Hp} {M : MM} {F H : Hp} {P : PQ} {Q : VK} {x y : V} {dx dy : D}, Rel K Hc M F H → Rp K Hc x dx → Rp K Hc y dy → m dx dy M P →
  (∀ d M' v Hc' H', P d M' → Ex Hc Hc' → Rel K Hc' M' F H' → Rp K Hc' v d → Q v H') → t x y H Q
def S1 (t : V → Hp → VK → Prop) (m : R1) : Prop := ∀ {Hc : Hp} {M : MM} {F H : Hp} {P : PQ} {Q : VK} {x : V} {dx : D}, Rel K Hc M F H → Rp K Hc x dx → m dx M P →
  (∀ d M' v Hc' H', P d M' → Ex Hc Hc' → Rel K Hc' M' F H' → Rp K Hc' v d → Q v H') → t x H Q
def SC (t : List V → Hp → VK → Prop) (m : List D → MM → PQ → Prop) : Prop := ∀ {Hc : Hp} {M : MM} {F H : Hp} {P : PQ} {Q : VK} {xs : List V} {ds : List D}, Rel K Hc M F H → RpAll K Hc xs ds → m ds M P →
  (∀ d M' v Hc' H', P d M' → Ex Hc Hc' → Rel K Hc' M' F H' → Rp K Hc' v d → Q v H') → t xs H Q
/-- a method of a list -/
def SM (t : V → List V → Hp → VK → Prop) (m : D → List D → MM → PQ → Prop) : Prop := ∀ {Hc : Hp} {M : MM} {F H : Hp} {P : PQ} {Q : VK} {x : V} {dx : D} {xs : List V} {ds : List D}, Rel K Hc M F H → Rp K Hc x dx → RpAll K Hc xs ds → m dx ds M P →
  (∀ d M' v Hc' H', P d M' → Ex Hc Hc' → Rel K Hc' M' F H' → Rp K Hc' v d → Q v H') → t x xs H Q
/-- a target -/
def SG (t : TG) (m : GT) : Prop := ∀ {σ : L2.St} {ρ : Env} {Hc : Hp} {M : MM} {F H : Hp} {P : Env → MM → Prop} {Q : L2.St → Hp → Prop} {v : V} {d : D}, Slots K Hc σ ρ → Rel K Hc M F H → Rp K Hc v d → m d ρ M P →
  (∀ ρ' M' σ' Hc' H', P ρ' M' → Ex Hc Hc' → Slots K Hc' σ' ρ' → Rel K Hc' M' F H' → Q σ' H') → t v σ H Q
structure FinOk (Hc F : Hp) (G : Fin) (E : Ends) : Prop where
  nx : ∀ ρ M σ Hc' H, G.nx ρ M → Ex Hc Hc' → Slots K Hc' σ ρ → Rel K Hc' M F H → E.nx σ H
  rt : ∀ d M v Hc' H, G.rt d M → Ex Hc Hc' → Rel K Hc' M F H → Rp K Hc' v d → E.rt v H
  bk : ∀ ρ M σ Hc' H, G.bk ρ M → Ex Hc Hc' → Slots K Hc' σ ρ → Rel K Hc' M F H → E.bk σ H
  ct : ∀ ρ M σ Hc' H, G.ct ρ M → Ex Hc Hc' → Slots K Hc' σ ρ → Rel K Hc' M F H → E.ct σ H
def SS (t : TS) (m : ST) : Prop := ∀ {σ : L2.St} {ρ : Env} {Hc : Hp} {M : MM} {F H : Hp} {G : Fin} {E : Ends}, Slots K Hc σ ρ → Rel K Hc M F H → FinOk K Hc F G E → m G ρ M → t E σ H
/-- a walk: n turns, the items -/
def SI (t : TI) (m : IT) : Prop := ∀ {σ : L2.St} {ρ : Env} {Hc : Hp} {M : MM} {F H : Hp} {P : List D → MM → Prop} {R : It → Hp → Prop}, Slots K Hc σ ρ → Rel K Hc M F H → m ρ M P →
  (∀ xs M' J Hc' H', P xs M' → Ex Hc Hc' → Rel K Hc' M' F H' → xs.length ≤ sizeLine →
    Walk J xs.length (fun H => Ex Hc' H) (fun i H v H' => (∃ d, xs[i]? = some d ∧ ∀ Hd, Ex Hc' Hd → ∀ M F, Rel K Hd M F H → ∃ Hd', Ex Hd Hd' ∧ Rel K Hd' M F H' ∧ Rp K Hd' v d)) → R J H') → t σ H R
end
section
variable {K : PySem.W.Frag}
theorem FinOk.mono {Hc Hc' F : Hp} {G : Fin} {E : Ends} (e : Ex Hc Hc') (k : FinOk K Hc F G E) : FinOk K Hc' F G E :=
  ⟨fun ρ M σ Hd H g x S R => k.nx ρ M σ Hd H g (e.trans x) S R, fun d M v Hd H g x R r => k.rt d M v Hd H g (e.trans x) R r, fun ρ M σ Hd H g x S R => k.bk ρ M σ Hd H g (e.trans x) S R, fun ρ M σ Hd H g x S R => k.ct ρ M σ Hd H g (e.trans x) S R⟩
end
end DL
end
section
/-! DL: the rules -/
namespace DL
open PySem PySem.Spec PyProof.Rows L2
structure JE (K : PySem.W.Frag) (X : Cx) (e : Expr) (t : TE) (m : ET) : Prop where
  pe : PE X e t
  se : SE K t m
structure JA (K : PySem.W.Frag) (X : Cx) (e : List Expr) (t : TA) (m : AT) : Prop where
  pe : PA X e t
  se : SA K t m
structure JT (K : PySem.W.Frag) (X : Cx) (e : Expr) (t : L2.TT) (m : TT) : Prop where
  pe : PT X e t
  se : STt K t m
structure JW (K : PySem.W.Frag) (X : Cx) (e : Expr) (t : L2.TT) (m : TT) : Prop where
  pe : PW X e t
  se : STt K t m
structure JO (K : PySem.W.Frag) (X : Cx) (e : Option Expr) (t : TO) (m : OT) : Prop where
  pe : PO X e t
  se : SO K t m
structure JI (K : PySem.W.Frag) (X : Cx) (tg e : Expr) (t : TI) (m : IT) : Prop where
  pe : PI X tg e t
  se : SI K t m
structure JG (K : PySem.W.Frag) (X : Cx) (e : Expr) (t : TG) (m : GT) : Prop where
  pe : PG X e t
  se : SG K t m
structure JS (K : PySem.W.Frag) (X : Cx) (e : Stmt) (t : TS) (m : ST) : Prop where
  pe : PS X e t
  se : SS K t m
structure JB (K : PySem.W.Frag) (X : Cx) (e : List Stmt) (t : TS) (m : ST) : Prop where
  pe : PSs X e t
  se : SS K t m
section
variable {X : Cx} {K : PySem.W.Frag} {e a b : Expr} {es : List Expr} {t ta tb : TE} {m ma mb : ET} {pos : Pos}
/-! ### either of two readings -/
theorem PE.or {t1 t2 : TE} (h1 : PE X e t1) (h2 : PE X e t2) : PE X e (fun σ H Q => t1 σ H Q ∨ t2 σ H Q) :=
  ⟨fun pins s σ H Q I h => h.elim (h1.run pins s σ H Q I) (h2.run pins s σ H Q I)⟩
theorem PI.or {tg : Expr} {t1 t2 : TI} (h1 : PI X tg e t1) (h2 : PI X tg e t2) : PI X tg e (fun σ H Q => t1 σ H Q ∨ t2 σ H Q) :=
  ⟨fun pins s σ H Q I h => h.elim (h1.run pins s σ H Q I) (h2.run pins s σ H Q I)⟩
/-! ### names, constants -/
theorem je_var (i : Nat) {x : Str} (hN : X.N[i]? = some x := by rfl) (hv : Vis X.env.scope x := by first | exact Or.inl rfl | exact Or.inr (Or.inl rfl) | exact Or.inr (Or.inr rfl)) (hd : (x == ("__debug__" : Str)) = false := by decide)
    (hcd : (x == ("__classdict__" : Str)) = false := by decide) : JE K X (.Name x pos) (tVar i) (mVar i) := by
  refine ⟨pe_var hN hv hd hcd, fun {σ ρ Hc M F H P Q} S R h k => ?_⟩
  unfold mVar at h
  split at h
  · rename_i d e
    obtain ⟨v, a, b⟩ := S.at_ i d e
    exact ⟨v, a, k d M v Hc H h (Ex.refl _) R b⟩
  · exact h.elim
theorem je_c {v : V} {d : D} (h : PE X e (tC v)) (r : ∀ Hc, Rp K Hc v d) : JE K X e (tC v) (mC d) :=
  ⟨h, fun {σ ρ Hc M F H P Q} S R h k => k d M v Hc H h (Ex.refl _) R (r Hc)⟩
theorem je_int {i j} : JE K X (.Constant (.int i) j pos) (tC (.int i)) (mC (.int i)) := je_c pe_int fun _ => .int i
theorem je_bl {i j} : JE K X (.Constant (.bool i) j pos) (tC (.bl i)) (mC (.bl i)) := je_c pe_bl fun _ => .bl i
theorem je_non {j} : JE K X (.Constant .none j pos) (tC .non) (mC .non) := je_c pe_non fun _ => .non
theorem je_str {i j} : JE K X (.Constant (.str i) j pos) (tC (.str i)) (mC (.str i)) := je_c pe_str fun _ => .str i
theorem se_frz {K : PySem.W.Frag} (h : SE K t m) : SE K t (mFrz m) := fun {σ ρ Hc M F H P Q} S R hm k => h S R hm fun d M' v Hc' H' p ex R' r => by
  cases d with
  | ref a =>
    unfold frz at p
    dsimp only at p
    split at p
    · rename_i xs e
      obtain ⟨h1, h2, xs', h3, h4, h5⟩ := R'.mo a _ e
      cases r
      exact k _ _ _ (upd Hc' a (.lst xs')) H' p (ex.trans (Ex.new h1)) (R'.freeze h3 h2 h1) (.lst upd_same h4 (h5.mono (Ex.new h1)))
    · exact k _ _ _ _ _ p ex R' r
  | _ => exact k _ _ _ _ _ p ex R' r
theorem je_frz (h : JE K X e t m) : JE K X e t (mFrz m) := ⟨h.pe, se_frz h.se⟩
/-! ### operators -/
theorem se_op {K : PySem.W.Frag} {r : L2.R2} {rd : R2} (hr : S2 K r rd) (ha : SE K ta ma) (hb : SE K tb mb) : SE K (tOp r ta tb) (mBin rd ma mb) := fun {σ ρ Hc M F H P Q} S R h k =>
  ha S R h fun x M1 u Hc1 H1 p1 e1 R1 r1 => hb (S.mono e1) R1 p1 fun y M2 w Hc2 H2 p2 e2 R2 r2 => hr R2 (r1.mono e2) r2 p2 fun d M' v Hc' H' p e R' r' => k d M' v Hc' H' p ((e1.trans e2).trans e) R' r'
theorem je_op {op : Operator} {r : L2.R2} {rd : R2} (ho : OpR X (binaryOp op) r) (hr : S2 K r rd) (ha : JE K X a ta ma) (hb : JE K X b tb mb) : JE K X (.BinOp a op b pos) (tOp r ta tb) (mBin rd ma mb) := ⟨pe_op ho ha.pe hb.pe, se_op hr ha.se hb.se⟩
theorem je_cmp {op : CmpOp} {r : L2.R2} {rd : R2} (ho : OpR X (compareOp op) r) (hr : S2 K r rd) (ha : JE K X a ta ma) (hb : JE K X b tb mb) (hm : behindInMarks op b = false := by first | exact nomark _ | rfl) : JE K X (.Compare a [op] [b] pos) (tOp r ta tb) (mBin rd ma mb) :=
  ⟨pe_cmpR ho ha.pe hb.pe hm, se_op hr ha.se hb.se⟩
theorem je_un {op : UnaryOp} {r : V → Hp → VK → Prop} {rd : R1} (ho : UnR X (unaryOp op) r) (hr : S1 K r rd) (ha : JE K X a ta ma) : JE K X (.UnaryOp op a pos) (tUn r ta) (mUn rd ma) :=
  ⟨pe_un ho ha.pe, fun {σ ρ Hc M F H P Q} S R h k => ha.se S R h fun x M1 u Hc1 H1 p1 e1 R1 r1 => hr R1 r1 p1 fun d M' v Hc' H' p e R' r' => k d M' v Hc' H' p (e1.trans e) R' r'⟩
theorem s2_I {K : PySem.W.Frag} {C : Int → Int → Prop} {g : Int → Int → Int} : S2 K (rI C fun i j => .int (g i j)) (bI C g) := fun {Hc M F H P Q x y dx dy} R rx ry h k => by
  cases rx with
  | int i => cases ry with
    | int j => exact ⟨i, j, rfl, rfl, h.1, k _ _ _ _ _ h.2 (Ex.refl _) R (.int _)⟩
    | _ => exact h.elim
  | _ => exact h.elim
theorem s2_I0 {K : PySem.W.Frag} {g : Int → Int → Int} : S2 K (rI0 fun i j => .int (g i j)) (bI0 g) := fun {Hc M F H P Q x y dx dy} R rx ry h k => by
  cases rx with
  | int i => cases ry with
    | int j => exact ⟨i, j, rfl, rfl, k _ _ _ _ _ h (Ex.refl _) R (.int _)⟩
    | _ => exact h.elim
  | _ => exact h.elim
theorem s2_B {K : PySem.W.Frag} {g : Int → Int → Bool} : S2 K (rI0 fun i j => .bl (g i j)) (bCmp g) := fun {Hc M F H P Q x y dx dy} R rx ry h k => by
  cases rx with
  | int i => cases ry with
    | int j => exact ⟨i, j, rfl, rfl, k _ _ _ _ _ h (Ex.refl _) R (.bl _)⟩
    | _ => exact h.elim
  | _ => exact h.elim
theorem je_add (ha : JE K X a ta ma) (hb : JE K X b tb mb) : JE K X (.BinOp a .Add b pos) (tOp (rI0 fun i j => .int (i + j)) ta tb) (mBin bAdd ma mb) := je_op op_add s2_I0 ha hb
theorem je_sub (ha : JE K X a ta ma) (hb : JE K X b tb mb) : JE K X (.BinOp a .Sub b pos) (tOp (rI0 fun i j => .int (i - j)) ta tb) (mBin bSub ma mb) := je_op op_sub s2_I0 ha hb
theorem je_mul (ha : JE K X a ta ma) (hb : JE K X b tb mb) : JE K X (.BinOp a .Mult b pos) (tOp (rI CMul fun i j => .int (i * j)) ta tb) (mBin bMul ma mb) := je_op op_mul s2_I ha hb
theorem je_mod (ha : JE K X a ta ma) (hb : JE K X b tb mb) : JE K X (.BinOp a .Mod b pos) (tOp (rI (fun _ j => 0 < j) fun i j => .int (i % j)) ta tb) (mBin bMod ma mb) := je_op op_mod s2_I ha hb
theorem je_div (ha : JE K X a ta ma) (hb : JE K X b tb mb) : JE K X (.BinOp a .FloorDiv b pos) (tOp (rI CDiv fun i j => .int (i / j)) ta tb) (mBin bDiv ma mb) := je_op op_fdiv s2_I ha hb
theorem je_pow (ha : JE K X a ta ma) (hb : JE K X b tb mb) : JE K X (.BinOp a .Pow b pos) (tOp (rI CPow fun i j => .int (i ^ j.toNat)) ta tb) (mBin bPow ma mb) := je_op op_pow s2_I ha hb
theorem je_shl (ha : JE K X a ta ma) (hb : JE K X b tb mb) : JE K X (.BinOp a .LShift b pos) (tOp (rI CPow fun i j => .int (i * 2 ^ j.toNat)) ta tb) (mBin bShl ma mb) := je_op op_shl s2_I ha hb
theorem je_shr (ha : JE K X a ta ma) (hb : JE K X b tb mb) : JE K X (.BinOp a .RShift b pos) (tOp (rI (fun _ j => 0 ≤ j) fun i j => .int (i / 2 ^ j.toNat)) ta tb) (mBin bShr ma mb) := je_op op_shr s2_I ha hb
theorem je_and (ha : JE K X a ta ma) (hb : JE K X b tb mb) : JE K X (.BinOp a .BitAnd b pos) (tOp (rI0 fun i j => .int (Builtin.bitAnd i j)) ta tb) (mBin bAnd ma mb) := je_op op_and s2_I0 ha hb
theorem je_or (ha : JE K X a ta ma) (hb : JE K X b tb mb) : JE K X (.BinOp a .BitOr b pos) (tOp (rI0 fun i j => .int (Builtin.bitOr i j)) ta tb) (mBin bOr ma mb) := je_op op_or s2_I0 ha hb
theorem je_xor (ha : JE K X a ta ma) (hb : JE K X b tb mb) : JE K X (.BinOp a .BitXor b pos) (tOp (rI0 fun i j => .int (Builtin.bitXor i j)) ta tb) (mBin bXor ma mb) := je_op op_xor s2_I0 ha hb
theorem je_lt (ha : JE K X a ta ma) (hb : JE K X b tb mb) : JE K X (.Compare a [.Lt] [b] pos) (tOp (rI0 fun i j => .bl (decide (i < j))) ta tb) (mBin bLt ma mb) := je_cmp op_lt s2_B ha hb (nomark _)
theorem je_le (ha : JE K X a ta ma) (hb : JE K X b tb mb) : JE K X (.Compare a [.LtE] [b] pos) (tOp (rI0 fun i j => .bl (decide (i ≤ j))) ta tb) (mBin bLe ma mb) := je_cmp op_le s2_B ha hb (nomark _)
theorem je_gt (ha : JE K X a ta ma) (hb : JE K X b tb mb) : JE K X (.Compare a [.Gt] [b] pos) (tOp (rI0 fun i j => .bl (decide (j < i))) ta tb) (mBin bGt ma mb) := je_cmp op_gt s2_B ha hb (nomark _)
theorem je_ge (ha : JE K X a ta ma) (hb : JE K X b tb mb) : JE K X (.Compare a [.GtE] [b] pos) (tOp (rI0 fun i j => .bl (decide (j ≤ i))) ta tb) (mBin bGe ma mb) := je_cmp op_ge s2_B ha hb (nomark _)
theorem eqS_ok {K : PySem.W.Frag} {Hc : Hp} {x y : V} {dx dy : D} {c : Bool} (rx : Rp K Hc x dx) (ry : Rp K Hc y dy) (h : eqS dx dy = some c) : scal x y = true ∧ decide (x = y) = c := by
  cases rx <;> cases ry <;> simp [eqS] at h <;> subst h <;> simp [scal]
theorem s2_eq {K : PySem.W.Frag} : S2 K rEq (bEqS false) := fun {Hc M F H P Q x y dx dy} R rx ry h k => by
  unfold bEqS at h
  split at h
  · rename_i c e
    obtain ⟨h1, h2⟩ := eqS_ok rx ry e
    exact ⟨h1, k _ _ _ _ _ h (Ex.refl _) R (by rw [h2]; exact .bl c)⟩
  · exact h.elim
theorem s2_ne {K : PySem.W.Frag} : S2 K rNe (bEqS true) := fun {Hc M F H P Q x y dx dy} R rx ry h k => by
  unfold bEqS at h
  split at h
  · rename_i c e
    obtain ⟨h1, h2⟩ := eqS_ok rx ry e
    exact ⟨h1, k _ _ _ _ _ h (Ex.refl _) R (by rw [h2]; exact .bl _)⟩
  · exact h.elim
theorem je_eq (ha : JE K X a ta ma) (hb : JE K X b tb mb) : JE K X (.Compare a [.Eq] [b] pos) (tOp rEq ta tb) (mBin (bEqS false) ma mb) := je_cmp op_eq s2_eq ha hb (nomark _)
theorem je_ne (ha : JE K X a ta ma) (hb : JE K X b tb mb) : JE K X (.Compare a [.NotEq] [b] pos) (tOp rNe ta tb) (mBin (bEqS true) ma mb) := je_cmp op_ne s2_ne ha hb (nomark _)
/-! data, through the store, as the layer's own Dp -/
section
variable {K : PySem.W.Frag} {Hc F H : Hp} {M : MM}
mutual
theorem Py.dp (R : Rel K Hc M F H) : ∀ {d : D} {p : PyData} {v : V}, Py M d p → Rp K Hc v d → Dp K H v p
  | _, _, _, .non, r => by cases r; exact .non
  | _, _, _, .bl b, r => by cases r; exact .bl b
  | _, _, _, .int b, r => by cases r; exact .int b
  | _, _, _, .str b, r => by cases r; exact .str b
  | _, _, _, .lst h, r => by
    cases r with
    | lst x l q => exact .lst (SqL.of (R.hc _ _ x)) (PyAll.dp R h q)
  | _, _, _, .tup h, r => by
    cases r with
    | tup x l q => exact .tup (ex_sqT R.hc x) (PyAll.dp R h q)
  | _, _, _, .ref e h, r => by
    cases r
    obtain ⟨_, _, xs, x, l, q⟩ := R.mo _ _ e
    exact .lst (SqL.of x) (PyAll.dp R h q)
theorem PyAll.dp (R : Rel K Hc M F H) : ∀ {d : List D} {p : List PyData} {v : List V}, PyAll M d p → RpAll K Hc v d → DpAll K H v p
  | _, _, _, .nil, r => by cases r; exact .nil
  | _, _, _, .cons h t, r => by
    cases r with
    | cons q u => exact .cons (Py.dp R h q) (PyAll.dp R t u)
end
end
theorem s2_eqD {K : PySem.W.Frag} : S2 K (rEqD K) (bEqD false) := fun {Hc M F H P Q x y dx dy} R rx ry h k => by
  obtain ⟨p, q, h1, h2, h3, h4, h5⟩ := h
  exact ⟨p, q, h1.dp R rx, h2.dp R ry, h3, h4, k _ _ _ _ _ h5 (Ex.refl _) R (.bl _)⟩
theorem s2_neD {K : PySem.W.Frag} : S2 K (rNeD K) (bEqD true) := fun {Hc M F H P Q x y dx dy} R rx ry h k => by
  obtain ⟨p, q, h1, h2, h3, h4, h5⟩ := h
  exact ⟨p, q, h1.dp R rx, h2.dp R ry, h3, h4, k _ _ _ _ _ h5 (Ex.refl _) R (.bl _)⟩
theorem je_eqD (hu : X.A.units + 65 < cLine) (ha : JE K X a ta ma) (hb : JE K X b tb mb) (hK : X.K = K := by rfl) : JE K X (.Compare a [.Eq] [b] pos) (tOp (rEqD K) ta tb) (mBin (bEqD false) ma mb) := by
  subst hK
  exact je_cmp (op_eqD (by omega)) s2_eqD ha hb (nomark _)
theorem je_neD (hu : X.A.units + 65 < cLine) (ha : JE K X a ta ma) (hb : JE K X b tb mb) (hK : X.K = K := by rfl) : JE K X (.Compare a [.NotEq] [b] pos) (tOp (rNeD K) ta tb) (mBin (bEqD true) ma mb) := by
  subst hK
  exact je_cmp (op_neD (by omega)) s2_neD ha hb (nomark _)
theorem s2_inD {K : PySem.W.Frag} : S2 K (rInD K) (bInD false) := fun {Hc M F H P Q x y dx dy} R rx ry h k => by
  obtain ⟨p, q, h1, h2, h3, h4, h5⟩ := h
  exact ⟨p, q, h1.dp R rx, h2.dp R ry, h3, h4, k _ _ _ _ _ h5 (Ex.refl _) R (.bl _)⟩
theorem s2_notInD {K : PySem.W.Frag} : S2 K (rNotInD K) (bInD true) := fun {Hc M F H P Q x y dx dy} R rx ry h k => by
  obtain ⟨p, q, h1, h2, h3, h4, h5⟩ := h
  exact ⟨p, q, h1.dp R rx, h2.dp R ry, h3, h4, k _ _ _ _ _ h5 (Ex.refl _) R (.bl _)⟩
theorem je_inD (hu : X.A.units + 65 < cLine) (ha : JE K X a ta ma) (hb : JE K X b tb mb) (hm : behindInMarks .In b = false := by rfl) (hK : X.K = K := by rfl) : JE K X (.Compare a [.In] [b] pos) (tOp (rInD K) ta tb) (mBin (bInD false) ma mb) := by
  subst hK
  exact je_cmp (op_inD hu) s2_inD ha hb hm
theorem je_notInD (hu : X.A.units + 65 < cLine) (ha : JE K X a ta ma) (hb : JE K X b tb mb) (hm : behindInMarks .NotIn b = false := by rfl) (hK : X.K = K := by rfl) : JE K X (.Compare a [.NotIn] [b] pos) (tOp (rNotInD K) ta tb) (mBin (bInD true) ma mb) := by
  subst hK
  exact je_cmp (op_notInD hu) s2_notInD ha hb hm
/-! lists read off a value -/
section
variable {K : PySem.W.Frag} {Hc F H : Hp} {M : MM}
theorem asL_ok (R : Rel K Hc M F H) {v : V} {d : D} {xs : List D} (r : Rp K Hc v d) (h : asL M d = some xs) : ∃ (p : Addr) (vs : List V), v = .ref p ∧ H p = some (.lst vs) ∧ vs.length ≤ sizeLine ∧ RpAll K Hc vs xs := by
  cases r with
  | lst x l q => cases h; exact ⟨_, _, rfl, R.hc _ _ x, l, q⟩
  | ref a =>
    unfold asL at h
    dsimp only at h
    split at h
    · rename_i ys e
      cases h
      obtain ⟨_, _, vs, x, l, q⟩ := R.mo _ _ e
      exact ⟨a, vs, rfl, x, l, q⟩
    · cases h
  | _ => cases h
theorem asS_ok (R : Rel K Hc M F H) {v : V} {d : D} {xs : List D} (r : Rp K Hc v d) (h : asS M d = some xs) : ∃ (p : Addr) (vs : List V), v = .ref p ∧ (SqL K H p vs ∨ SqT K H p vs) ∧ vs.length ≤ sizeLine ∧ RpAll K Hc vs xs := by
  cases r with
  | tup x l q => cases h; exact ⟨_, _, rfl, .inr (ex_sqT R.hc x), l, q⟩
  | lst x l q => cases h; exact ⟨_, _, rfl, .inl (SqL.of (R.hc _ _ x)), l, q⟩
  | ref a =>
    obtain ⟨p, vs, h1, h2, h3, h4⟩ := asL_ok R (Rp.ref a) h
    exact ⟨p, vs, h1, .inl (SqL.of h2), h3, h4⟩
  | _ => cases h
end
theorem inV_ints : ∀ (i : Int) (ns : List Int), inV (.int i) (ns.map V.int) = ns.contains i
  | i, [] => rfl
  | i, n :: r => by
    have ih := inV_ints i r
    show (eqV (.int n) (.int i) || inV (.int i) (r.map V.int)) = (n :: r).contains i
    rw [ih, List.contains_cons]
    congr 1
    show (n == i) = (i == n)
    rw [Bool.beq_comm]
theorem flat_ints : ∀ ns : List Int, (ns.map V.int).all flatV = true
  | [] => rfl
  | n :: r => by show (true && _) = true; rw [Bool.true_and]; exact flat_ints r
theorem s2_in {K : PySem.W.Frag} {neg : Bool} : S2 K (rIn K neg) (bIn neg) := fun {Hc M F H P Q x y dx dy} R rx ry h k => by
  unfold bIn at h
  split at h
  · rename_i i ns e
    cases rx
    obtain ⟨xs, e1, e2⟩ := Option.bind_eq_some_iff.mp e
    obtain ⟨p, vs, rfl, h2, h3, h4⟩ := asS_ok R ry e1
    have e3 := h4.ints e2
    subst e3
    exact ⟨p, _, rfl, h2, rfl, flat_ints ns, by rw [inV_ints]; exact k _ _ _ _ _ h (Ex.refl _) R (.bl _)⟩
  · exact h.elim
theorem je_in (ha : JE K X a ta ma) (hb : JE K X b tb mb) (hm : behindInMarks .In b = false := by rfl) (hK : X.K = K := by rfl) : JE K X (.Compare a [.In] [b] pos) (tOp (rIn K false) ta tb) (mBin (bIn false) ma mb) := by
  subst hK
  exact je_cmp op_in_seq s2_in ha hb hm
theorem je_notIn (ha : JE K X a ta ma) (hb : JE K X b tb mb) (hm : behindInMarks .NotIn b = false := by rfl) (hK : X.K = K := by rfl) : JE K X (.Compare a [.NotIn] [b] pos) (tOp (rIn K true) ta tb) (mBin (bIn true) ma mb) := by
  subst hK
  exact je_cmp op_notIn_seq s2_in ha hb hm
theorem szBig {n : Nat} (h : n ≤ big) : n ≤ sizeLine := Nat.le_trans h (by decide)
theorem szLt {n : Nat} (h : n < big) : n < sizeLine := Nat.lt_of_lt_of_le h (by decide)
theorem s2_cat {K : PySem.W.Frag} : S2 K rCat bCat := fun {Hc M F H P Q x y dx dy} R rx ry h k => by
  unfold bCat at h
  split at h
  · rename_i xs ys e1 e2
    obtain ⟨p, vs, rfl, h2, h3, h4⟩ := asL_ok R rx e1
    obtain ⟨q, ws, rfl, g2, g3, g4⟩ := asL_ok R ry e2
    have hl := h4.length
    have gl := g4.length
    refine ⟨p, q, vs, ws, rfl, rfl, h2, g2, szBig (by omega), fun l hl' => ?_⟩
    have ex : Ex Hc (upd Hc l (.lst (vs ++ ws))) := Ex.new (R.hc.back hl')
    exact k _ _ _ _ _ h.2 ex (R.new hl') (.lst upd_same (szBig (by rw [List.length_append]; omega)) ((h4.append g4).mono ex))
  · exact h.elim
theorem s2_catM {K : PySem.W.Frag} : S2 K rCat bCatM := fun {Hc M F H P Q x y dx dy} R rx ry h k => by
  unfold bCatM at h
  split at h
  · rename_i xs ys e1 e2
    obtain ⟨p, vs, rfl, h2, h3, h4⟩ := asL_ok R rx e1
    obtain ⟨q, ws, rfl, g2, g3, g4⟩ := asL_ok R ry e2
    have hl := h4.length
    have gl := g4.length
    refine ⟨p, q, vs, ws, rfl, rfl, h2, g2, szBig (by omega), fun l hl' => ?_⟩
    exact k _ _ _ _ _ (h.2 l (R.nM hl')) (Ex.refl _) (R.newM hl' (h4.append g4) (szBig (by rw [List.length_append]; omega))) (.ref l)
  · exact h.elim
theorem je_cat (ha : JE K X a ta ma) (hb : JE K X b tb mb) : JE K X (.BinOp a .Add b pos) (tOp rCat ta tb) (mBin bCat ma mb) := je_op op_cat s2_cat ha hb
theorem je_catM (ha : JE K X a ta ma) (hb : JE K X b tb mb) : JE K X (.BinOp a .Add b pos) (tOp rCat ta tb) (mBin bCatM ma mb) := je_op op_cat s2_catM ha hb
theorem rep_len {α : Type} (xs : List α) (n : Nat) : (List.replicate n xs).flatten.length = xs.length * n := by
  rw [List.length_flatten, List.map_replicate, List.sum_replicate_nat, Nat.mul_comm]
theorem s2_rep {K : PySem.W.Frag} : S2 K rRep bRep := fun {Hc M F H P Q x y dx dy} R rx ry h k => by
  unfold bRep at h
  split at h
  · rename_i xs j e1
    obtain ⟨p, vs, rfl, h2, h3, h4⟩ := asL_ok R rx e1
    cases ry
    have hl := h4.length
    obtain ⟨g1, g2, g3, g4⟩ := h
    have g2 : j ≤ 100000 := g2
    refine ⟨p, j, vs, rfl, rfl, h2, by omega, by omega, szBig (by rw [hl]; exact g3), fun l hl' => ?_⟩
    have ex : Ex Hc (upd Hc l (.lst (List.replicate j.toNat vs).flatten)) := Ex.new (R.hc.back hl')
    exact k _ _ _ _ _ g4 ex (R.new hl') (.lst upd_same (szBig (by rw [rep_len, hl]; exact g3)) ((h4.rep _).mono ex))
  · exact h.elim
theorem s2_repM {K : PySem.W.Frag} : S2 K rRep bRepM := fun {Hc M F H P Q x y dx dy} R rx ry h k => by
  unfold bRepM at h
  split at h
  · rename_i xs j e1
    obtain ⟨p, vs, rfl, h2, h3, h4⟩ := asL_ok R rx e1
    cases ry
    have hl := h4.length
    obtain ⟨g1, g2, g3, g4⟩ := h
    have g2 : j ≤ 100000 := g2
    refine ⟨p, j, vs, rfl, rfl, h2, by omega, by omega, szBig (by rw [hl]; exact g3), fun l hl' => ?_⟩
    exact k _ _ _ _ _ (g4 l (R.nM hl')) (Ex.refl _) (R.newM hl' (h4.rep _) (szBig (by rw [rep_len, hl]; exact g3))) (.ref l)
  · exact h.elim
theorem je_rep (ha : JE K X a ta ma) (hb : JE K X b tb mb) : JE K X (.BinOp a .Mult b pos) (tOp rRep ta tb) (mBin bRep ma mb) := je_op op_rep s2_rep ha hb
theorem je_repM (ha : JE K X a ta ma) (hb : JE K X b tb mb) : JE K X (.BinOp a .Mult b pos) (tOp rRep ta tb) (mBin bRepM ma mb) := je_op op_rep s2_repM ha hb
/-! items -/
theorem atI_get {α : Type} {xs : List α} {i : Int} {x : α} (h : atI xs i = some x) : ∃ j, ixN xs.length i = some j ∧ xs[j]? = some x := by
  unfold atI at h
  cases e : ixN xs.length i with
  | none => rw [e] at h; cases h
  | some j => rw [e] at h; exact ⟨j, rfl, h⟩
theorem RpAll.atI {K : PySem.W.Frag} {Hc : Hp} {vs : List V} {ds : List D} {i : Int} {d : D} (r : RpAll K Hc vs ds) (h : L2.atI ds i = some d) : ∃ v, L2.atI vs i = some v ∧ Rp K Hc v d := by
  obtain ⟨j, h1, h2⟩ := atI_get h
  obtain ⟨v, a, b⟩ := r.get h2
  refine ⟨v, ?_, b⟩
  unfold L2.atI
  rw [r.length, h1]
  exact a
theorem s2_ix {K : PySem.W.Frag} : S2 K (rIx K) bIx := fun {Hc M F H P Q x y dx dy} R rx ry h k => by
  unfold bIx at h
  split at h
  · rename_i xs i e1
    split at h
    · rename_i d e2
      cases ry
      obtain ⟨p, vs, rfl, h2, h3, h4⟩ := asS_ok R rx e1
      obtain ⟨v, h5, h6⟩ := h4.atI e2
      rcases h2 with h2 | h2
      · exact .inl ⟨p, vs, i, v, rfl, rfl, h2, h5, k _ _ _ _ _ h (Ex.refl _) R h6⟩
      · exact .inr (.inl ⟨p, vs, i, v, rfl, rfl, h2, h5, k _ _ _ _ _ h (Ex.refl _) R h6⟩)
    · exact h.elim
  · exact h.elim
theorem je_ix (ha : JE K X a ta ma) (hb : JE K X b tb mb) (hp : PlainIx b := by exact fun _ _ => rfl) (hK : X.K = K := by rfl) : JE K X (.Subscript a b pos) (tOp (rIx K) ta tb) (mBin bIx ma mb) := by
  subst hK
  exact ⟨pe_ix ix_seq ha.pe hb.pe hp, se_op s2_ix ha.se hb.se⟩
/-! unary -/
theorem je_neg (ha : JE K X a ta ma) : JE K X (.UnaryOp .USub a pos) (tUn (rU fun i => .int (-i)) ta) (mUn uNeg ma) := je_un un_neg (fun {Hc M F H P Q x dx} R rx h k => by
  cases rx with
  | int i => exact ⟨i, rfl, k _ _ _ _ _ h (Ex.refl _) R (.int _)⟩
  | _ => exact h.elim) ha
theorem je_inv (ha : JE K X a ta ma) : JE K X (.UnaryOp .Invert a pos) (tUn (rU fun i => .int (Builtin.bitNot i)) ta) (mUn uInv ma) := je_un un_inv (fun {Hc M F H P Q x dx} R rx h k => by
  cases rx with
  | int i => exact ⟨i, rfl, k _ _ _ _ _ h (Ex.refl _) R (.int _)⟩
  | _ => exact h.elim) ha
theorem isN_ok {K : PySem.W.Frag} {Hc : Hp} {x : V} {d : D} {neg : Bool} {M : MM} {P : PQ} (r : Rp K Hc x d) (h : uIsN neg d M P) : P (.bl (if neg then !(decide (x = .non)) else decide (x = .non))) M := by
  cases r <;> cases neg <;> exact h
theorem je_isN {j pos'} (ha : JE K X a ta ma) : JE K X (.Compare a [.Is] [.Constant .none j pos'] pos) (tOp (fun x y H Q => y = .non ∧ Q (.bl (decide (x = .non))) H) ta (tC .non)) (mUn (uIsN false) ma) := ⟨pe_cmpR op_isN ha.pe pe_non (nomark _), fun {σ ρ Hc M F H P Q} S R h k => ha.se S R h fun x M1 u Hc1 H1 p1 e1 R1 r1 => ⟨rfl, k _ _ _ _ _ (isN_ok r1 p1) e1 R1 (.bl _)⟩⟩
theorem je_notN {j pos'} (ha : JE K X a ta ma) : JE K X (.Compare a [.IsNot] [.Constant .none j pos'] pos) (tOp (fun x y H Q => y = .non ∧ Q (.bl (!decide (x = .non))) H) ta (tC .non)) (mUn (uIsN true) ma) := ⟨pe_cmpR op_notN ha.pe pe_non (nomark _), fun {σ ρ Hc M F H P Q} S R h k => ha.se S R h fun x M1 u Hc1 H1 p1 e1 R1 r1 => ⟨rfl, k _ _ _ _ _ (isN_ok r1 p1) e1 R1 (.bl _)⟩⟩
theorem je_bits {apos : Pos} (ha : JE K X a ta ma) (hbase : attributeBase a "bit_length" X.env (eval a X.env) = eval a X.env := by rfl) (hline : (apos.endLine == pos.line) = true := by rfl) : JE K X (.Call (.Attribute a "bit_length" apos) [] [] pos) (tBits ta) (mUn uBits ma) :=
  ⟨pe_bits ha.pe hbase hline, fun {σ ρ Hc M F H P Q} S R h k => ha.se S R h fun x M1 u Hc1 H1 p1 e1 R1 r1 => by
    cases r1 with
    | int i => exact ⟨i, rfl, k _ _ _ _ _ p1 e1 R1 (.int _)⟩
    | _ => exact p1.elim⟩
/-! ### argument lists, displays -/
theorem ja_nil : JA K X [] tNil aNil := ⟨pa_nil, fun {σ ρ Hc M F H P Q} S R h k => k _ _ _ _ _ h (Ex.refl _) R .nil⟩
theorem ja_cons {tr : TA} {mr : AT} (ha : JE K X e t m) (hr : JA K X es tr mr) (hs : starEach (e :: es) X.env = (false, eval e X.env) :: starEach es X.env := by rfl) : JA K X (e :: es) (tCons t tr) (aCons m mr) :=
  ⟨pa_cons ha.pe hr.pe hs, fun {σ ρ Hc M F H P Q} S R h k => ha.se S R h fun x M1 u Hc1 H1 p1 e1 R1 r1 => hr.se (S.mono e1) R1 p1 fun xs M2 us Hc2 H2 p2 e2 R2 r2 => k _ _ _ _ _ p2 (e1.trans e2) R2 (.cons (r1.mono e2) r2)⟩
theorem je_tup {x1} {tr : TA} {mr : AT} (h : JA K X es tr mr) : JE K X (.Tuple es x1 pos) (tTup tr) (mTup mr) := ⟨pe_tup h.pe, fun {σ ρ Hc M F H P Q} S R hm k => h.se S R hm fun xs M1 us Hc1 H1 p1 e1 R1 r1 => by
  have hl := r1.length
  refine ⟨szBig (by omega), fun p hp => ?_⟩
  have ex : Ex Hc1 (upd Hc1 p (.tup us)) := Ex.new (R1.hc.back hp)
  exact k _ _ _ _ _ p1.2 (e1.trans ex) (R1.new hp) (.tup (SqT.of upd_same) (szBig (by omega)) (r1.mono ex))⟩
theorem je_lst {tr : TA} {mr : AT} (h : JA K X es tr mr) : JE K X (.List es pos) (tLst tr) (mLst mr) := ⟨pe_lst h.pe, fun {σ ρ Hc M F H P Q} S R hm k => h.se S R hm fun xs M1 us Hc1 H1 p1 e1 R1 r1 => by
  have hl := r1.length
  refine ⟨szBig (by omega), fun p hp => ?_⟩
  have ex : Ex Hc1 (upd Hc1 p (.lst us)) := Ex.new (R1.hc.back hp)
  exact k _ _ _ _ _ p1.2 (e1.trans ex) (R1.new hp) (.lst upd_same (szBig (by omega)) (r1.mono ex))⟩
theorem je_lstM {tr : TA} {mr : AT} (h : JA K X es tr mr) : JE K X (.List es pos) (tLst tr) (mLstM mr) := ⟨pe_lst h.pe, fun {σ ρ Hc M F H P Q} S R hm k => h.se S R hm fun xs M1 us Hc1 H1 p1 e1 R1 r1 => by
  have hl := r1.length
  refine ⟨szBig (by omega), fun p hp => ?_⟩
  exact k _ _ _ _ _ (p1.2 p (R1.nM hp)) e1 (R1.newM hp r1 (szBig (by omega))) (.ref p)⟩
/-! ### slices -/
theorem jo_none : JO K X none tNoPart oNone := ⟨po_none, fun {σ ρ Hc M F H P Q} S R h k => k _ _ _ _ h (Ex.refl _) R⟩
theorem jo_some (h : JE K X e t m) : JO K X (some e) (tPart t) (oSome m) := ⟨po_some h.pe, fun {σ ρ Hc M F H P Q} S R hm k => h.se S R hm fun x M1 u Hc1 H1 p1 e1 R1 r1 => by
  cases r1 with
  | int i => exact ⟨i, rfl, k _ _ _ _ p1 e1 R1⟩
  | _ => exact p1.elim⟩
theorem RpAll.cut {K : PySem.W.Frag} {Hc : Hp} {vs : List V} {ds : List D} (r : RpAll K Hc vs ds) (lo hi : Option Int) : RpAll K Hc (cutV vs lo hi) (cutD ds lo hi) := by
  unfold cutV cutD
  rw [r.length]
  exact (r.drop _).take _
theorem cutV_len (vs : List V) (lo hi : Option Int) : (cutV vs lo hi).length ≤ vs.length := by
  unfold cutV
  rw [List.length_take, List.length_drop]
  omega
theorem je_slL {lo hi : Option Expr} {tl th : TO} {ml mh : OT} {p2 : Pos} (he : JE K X e t m) (hl : JO K X lo tl ml) (hu : JO K X hi th mh) (hK : X.K = K := by rfl) : JE K X (.Subscript e (.Slice lo hi none p2) pos) (tSl (rSlL K) t tl th) (mSl slL m ml mh) := by
  subst hK
  exact ⟨pe_slice sl_list he.pe hl.pe hu.pe, fun {σ ρ Hc M F H P Q} S R hm k => he.se S R hm fun x M1 u Hc1 H1 p1 e1 R1 r1 => hl.se (S.mono e1) R1 p1 fun l M2 Hc2 H2 p2 e2 R2 => hu.se (S.mono (e1.trans e2)) R2 p2 fun g M3 Hc3 H3 p3 e3 R3 => by
    unfold slL at p3
    split at p3
    · rename_i xs e4
      obtain ⟨p, vs, rfl, h2, h3, h4⟩ := asL_ok R3 (r1.mono (e2.trans e3)) e4
      refine ⟨p, vs, rfl, SqL.of h2, fun q hq => ?_⟩
      have ex : Ex Hc3 (upd Hc3 q (.lst (cutV vs l g))) := Ex.new (R3.hc.back hq)
      exact k _ _ _ _ _ p3 (((e1.trans e2).trans e3).trans ex) (R3.new hq) (.lst upd_same (Nat.le_trans (cutV_len _ _ _) h3) ((h4.cut l g).mono ex))
    · exact p3.elim⟩
theorem je_slT {lo hi : Option Expr} {tl th : TO} {ml mh : OT} {p2 : Pos} (he : JE K X e t m) (hl : JO K X lo tl ml) (hu : JO K X hi th mh) (hK : X.K = K := by rfl) : JE K X (.Subscript e (.Slice lo hi none p2) pos) (tSl (rSlT K) t tl th) (mSl slT m ml mh) := by
  subst hK
  exact ⟨pe_slice sl_tup he.pe hl.pe hu.pe, fun {σ ρ Hc M F H P Q} S R hm k => he.se S R hm fun x M1 u Hc1 H1 p1 e1 R1 r1 => hl.se (S.mono e1) R1 p1 fun l M2 Hc2 H2 p2 e2 R2 => hu.se (S.mono (e1.trans e2)) R2 p2 fun g M3 Hc3 H3 p3 e3 R3 => by
    have r3 := r1.mono (e2.trans e3)
    cases r3 with
    | @tup _ vs _ h2 h3 h4 =>
      refine ⟨_, _, rfl, ex_sqT R3.hc h2, by rw [h4.length]; exact p3.1, fun q hq => ?_⟩
      have ex : Ex Hc3 (upd Hc3 q (.tup (cutV vs l g))) := Ex.new (R3.hc.back hq)
      exact k _ _ _ _ _ p3.2 (((e1.trans e2).trans e3).trans ex) (R3.new hq) (.tup (SqT.of upd_same) (Nat.le_trans (cutV_len _ _ _) h3) ((h4.cut l g).mono ex))
    | _ => exact p3.elim⟩
end
end DL
end
section
/-! DL: the rules, 2: calls, tests, targets, walks, statements -/
namespace DL
open PySem PySem.Spec PyProof.Rows L2
/-- a contract as the layer's promise -/
def spD (K : PySem.W.Frag) (s : CT) : Sp := fun vs H Q _ => ∃ ds Hc M F P, RpAll K Hc vs ds ∧ Rel K Hc M F H ∧ s ds M P ∧ ∀ d M' v Hc' H', P d M' → Ex Hc Hc' → Rel K Hc' M' F H' → Rp K Hc' v d → Q v H'
section
variable {X : Cx} {K : PySem.W.Frag} {e a b : Expr} {es : List Expr} {t ta tb : TE} {m ma mb : ET} {pos : Pos} {tr : TA} {mr : AT} {CX : CXT} {k : Nat} {f : Addr} {fd : FuncData} {ps : List Str} {s : CT} {x : Str} {p : Pos} {dvs : List V} {dv : List D} {ds : List Value} {E : XK}
/-! ### calls -/
theorem se_call {K : PySem.W.Frag} (hd : ∀ Hc, RpAll K Hc dvs dv) (ha : SA K tr mr) : SE K (tCall (spD K s) dvs E tr) (mCall s dv mr) := fun {σ ρ Hc M F H P Q} S R h k =>
  ha S R h fun ds M1 us Hc1 H1 p1 e1 R1 r1 => ⟨ds ++ dv, Hc1, M1, F, P, r1.append (hd Hc1), R1, p1, fun d M' v Hc' H' q e' R' r' => k d M' v Hc' H' q (e1.trans e') R' r'⟩
theorem je_call (F : FnOk X.prog X.w K X.mg X.base CX k f fd ps (spD K s)) (hr : Room k X.A) (hg : Gl X x) (hm : X.mg x = some (.ref f)) (hk : PySem.W.keepIn K (.ref f) = true) (hb : Binds K fd ps ds) (hd : Vals dvs ds) (hdd : ∀ Hc, RpAll K Hc dvs dv) (hx : Passes CX X E)
    (ha : JA K X (e :: es) tr mr) (hdb : (x == ("__debug__" : Str)) = false := by decide) (he : starEach (e :: es) X.env = (false, eval e X.env) :: starEach es X.env := by rfl) (hpl : (backTo pos (starEach es X.env)).any (·.1) = false := by rfl) (hK : X.K = K := by rfl) :
    JE K X (.Call (.Name x p) (e :: es) [] pos) (tCall (spD K s) dvs E tr) (mCall s dv mr) := by
  subst hK
  exact ⟨pe_call F hr hg hm hk hb hd hx ha.pe hdb he hpl, se_call hdd ha.se⟩
theorem isIns_ok {K : PySem.W.Frag} {Hc F H : Hp} {M : MM} {C : Nat} {mm : Str} {v : V} {d : D} (R : Rel K Hc M F H) (r : Rp K Hc v d) (h : isIns M C mm d) : ∃ p dx fs, v = .ref p ∧ H p = some (.ins C dx fs) ∧ fs.lookup mm = none := by
  cases r with
  | obj x q => obtain ⟨h1, h2⟩ := h; subst h1; exact ⟨_, _, _, rfl, R.hc _ _ x, q.look0 h2⟩
  | ref a =>
    unfold isIns at h
    dsimp only at h
    split at h
    · rename_i C' gs e
      obtain ⟨h1, h2⟩ := h
      subst h1
      obtain ⟨_, _, dx, fs, x, q⟩ := R.mo _ _ e
      exact ⟨a, dx, fs, rfl, x, q.look0 h2⟩
    · exact h.elim
  | _ => exact h.elim
theorem se_meth {K : PySem.W.Frag} {C : Addr} {mm : Str} (hd : ∀ Hc, RpAll K Hc dvs dv) (ho : SE K ta ma) (ha : SA K tr mr) : SE K (tMeth C mm (spD K s) dvs E ta tr) (mMeth C mm s dv ma mr) := fun {σ ρ Hc M F H P Q} S R h k =>
  ho S R h fun x M1 u Hc1 H1 p1 e1 R1 r1 => by
    obtain ⟨p, dx, fs, h1, h2, h3⟩ := isIns_ok R1 r1 p1.1
    refine ⟨p, dx, fs, h1, h2, h3, ha (S.mono e1) R1 p1.2 fun ds M2 us Hc2 H2 p2 e2 R2 r2 => ?_⟩
    exact ⟨x :: (ds ++ dv), Hc2, M2, F, P, .cons (r1.mono e2) (r2.append (hd Hc2)), R2, p2, fun d M' v Hc' H' q e' R' r' => k d M' v Hc' H' q ((e1.trans e2).trans e') R' r'⟩
theorem je_meth {C : Addr} {o : Expr} {mm : Str} {apos : Pos} {pl : Sem Bool} (ho : JE K X o ta ma) (c : Cls K C) (hm : Meth K C mm f) (F : FnOk X.prog X.w K X.mg X.base CX k f fd ps (spD K s)) (hr : Room k X.A) (hb : Binds K fd ps ds) (hd : Vals dvs ds) (hdd : ∀ Hc, RpAll K Hc dvs dv) (hx : Passes CX X E)
    (ha : JA K X (e :: es) tr mr) (hst : starEach (e :: es) X.env = (false, eval e X.env) :: starEach es X.env := by rfl) (hpl : (backTo pos (starEach es X.env)).any (·.1) = false := by rfl)
    (ht : eval (.Call (.Attribute o mm apos) (e :: es) [] pos) X.env = (do
      let ov ← eval o X.env
      standAt apos.atName
      let (f, first) ← holding [ov] (getMethod ov mm pl)
      callWith pos f first (backTo pos (starEach (e :: es) X.env)) (backToKw pos (keywordEach [] X.env))) := by rfl) (hK : X.K = K := by rfl) :
    JE K X (.Call (.Attribute o mm apos) (e :: es) [] pos) (tMeth C mm (spD K s) dvs E ta tr) (mMeth C mm s dv ma mr) := by
  subst hK
  exact ⟨pe_meth ho.pe c hm F hr hb hd hx ha.pe hst hpl ht, se_meth hdd ho.se ha.se⟩
theorem se_make {K : PySem.W.Frag} {C : Addr} (hd : ∀ Hc, RpAll K Hc dvs dv) (ha : SA K tr mr) (hnon : ∀ ds M P, s ds M P → s ds M fun d M' => d = .non ∧ P .non M') : SE K (tMake C (spD K s) dvs E tr) (mMake C s dv mr) := fun {σ ρ Hc M F H P Q} S R h k =>
  ha S R h fun ds M1 us Hc1 H1 p1 e1 R1 r1 x dx nx nd ne => by
    have n1 := R1.nM nx
    have hxd : (upd H1 dx (.own x)) x = none := by rw [upd_ne (Ne.symm ne)]; exact nx
    have R2 : Rel K (upd Hc1 dx (.own x)) M1 F (upd H1 dx (.own x)) := R1.new nd
    have ex : Ex Hc1 (upd Hc1 dx (.own x)) := Ex.new (R1.hc.back nd)
    have R3 : Rel K (upd Hc1 dx (.own x)) (M1.upd x (.ins C [])) F (upd (upd H1 dx (.own x)) x (.ins C dx [])) := by
      refine ⟨R2.hc.upd (R2.hc.back hxd), R2.fr.upd (R2.fr.back hxd), fun a u q => ?_, R2.df⟩
      by_cases z : a = x
      · subst z
        rw [MM.upd_same] at q; cases q
        exact ⟨R2.hc.back hxd, R2.fr.back hxd, dx, [], upd_same, .nil⟩
      · rw [MM.upd_ne z] at q
        obtain ⟨h1, h2, h3⟩ := R2.mo a u q
        exact ⟨h1, h2, h3.mono (Ex.refl _) (upd_ne z)⟩
    refine ⟨.ref x :: (ds ++ dv), _, _, F, _, .cons (.ref x) ((r1.mono ex).append (hd _)), R3, hnon _ _ _ (p1 x n1), fun d M' v Hc' H' q e' R' r' => ?_⟩
    obtain ⟨q1, q2⟩ := q
    subst q1
    refine ⟨by cases r'; rfl, ?_⟩
    split at q2
    · rename_i C' fs eM
      obtain ⟨h1, h2, dx', fs', h3, h4⟩ := R'.mo x _ eM
      exact k _ _ _ (upd Hc' x (.ins C' dx' fs')) H' q2 (((e1.trans ex).trans e').trans (Ex.new h1)) (R'.freeze h3 h2 h1) (.obj upd_same (h4.mono (Ex.new h1)))
    · exact q2.elim
theorem se_makeM {K : PySem.W.Frag} {C : Addr} (hd : ∀ Hc, RpAll K Hc dvs dv) (ha : SA K tr mr) (hnon : ∀ ds M P, s ds M P → s ds M fun d M' => d = .non ∧ P .non M') : SE K (tMake C (spD K s) dvs E tr) (mMakeM C s dv mr) := fun {σ ρ Hc M F H P Q} S R h k =>
  ha S R h fun ds M1 us Hc1 H1 p1 e1 R1 r1 x dx nx nd ne => by
    have n1 := R1.nM nx
    have hxd : (upd H1 dx (.own x)) x = none := by rw [upd_ne (Ne.symm ne)]; exact nx
    have R2 : Rel K (upd Hc1 dx (.own x)) M1 F (upd H1 dx (.own x)) := R1.new nd
    have ex : Ex Hc1 (upd Hc1 dx (.own x)) := Ex.new (R1.hc.back nd)
    have R3 : Rel K (upd Hc1 dx (.own x)) (M1.upd x (.ins C [])) F (upd (upd H1 dx (.own x)) x (.ins C dx [])) := by
      refine ⟨R2.hc.upd (R2.hc.back hxd), R2.fr.upd (R2.fr.back hxd), fun a u q => ?_, R2.df⟩
      by_cases z : a = x
      · subst z
        rw [MM.upd_same] at q; cases q
        exact ⟨R2.hc.back hxd, R2.fr.back hxd, dx, [], upd_same, .nil⟩
      · rw [MM.upd_ne z] at q
        obtain ⟨h1, h2, h3⟩ := R2.mo a u q
        exact ⟨h1, h2, h3.mono (Ex.refl _) (upd_ne z)⟩
    refine ⟨.ref x :: (ds ++ dv), _, _, F, _, .cons (.ref x) ((r1.mono ex).append (hd _)), R3, hnon _ _ _ (p1 x n1), fun d M' v Hc' H' q e' R' r' => ?_⟩
    obtain ⟨q1, q2⟩ := q
    subst q1
    exact ⟨by cases r'; rfl, k _ _ _ _ _ q2 ((e1.trans ex).trans e') R' (.ref x)⟩
theorem je_make {C : Addr} (M : Mk K C f) (F : FnOk X.prog X.w K X.mg X.base CX k f fd ps (spD K s)) (hr : Room (k + 1) X.A) (hg : Gl X x) (hm : X.mg x = some (.ref C)) (hb : Binds K fd ps ds) (hd : Vals dvs ds) (hdd : ∀ Hc, RpAll K Hc dvs dv) (hx : Passes CX X E) (hnon : ∀ ds M P, s ds M P → s ds M fun d M' => d = .non ∧ P .non M')
    (ha : JA K X (e :: es) tr mr) (hdb : (x == ("__debug__" : Str)) = false := by decide) (he : starEach (e :: es) X.env = (false, eval e X.env) :: starEach es X.env := by rfl) (hpl : (backTo pos (starEach es X.env)).any (·.1) = false := by rfl) (hK : X.K = K := by rfl) :
    JE K X (.Call (.Name x p) (e :: es) [] pos) (tMake C (spD K s) dvs E tr) (mMake C s dv mr) := by
  subst hK
  exact ⟨pe_make M F hr hg hm hb hd hx ha.pe hdb he hpl, se_make hdd ha.se hnon⟩
theorem je_makeM {C : Addr} (M : Mk K C f) (F : FnOk X.prog X.w K X.mg X.base CX k f fd ps (spD K s)) (hr : Room (k + 1) X.A) (hg : Gl X x) (hm : X.mg x = some (.ref C)) (hb : Binds K fd ps ds) (hd : Vals dvs ds) (hdd : ∀ Hc, RpAll K Hc dvs dv) (hx : Passes CX X E) (hnon : ∀ ds M P, s ds M P → s ds M fun d M' => d = .non ∧ P .non M')
    (ha : JA K X (e :: es) tr mr) (hdb : (x == ("__debug__" : Str)) = false := by decide) (he : starEach (e :: es) X.env = (false, eval e X.env) :: starEach es X.env := by rfl) (hpl : (backTo pos (starEach es X.env)).any (·.1) = false := by rfl) (hK : X.K = K := by rfl) :
    JE K X (.Call (.Name x p) (e :: es) [] pos) (tMake C (spD K s) dvs E tr) (mMakeM C s dv mr) := by
  subst hK
  exact ⟨pe_make M F hr hg hm hb hd hx ha.pe hdb he hpl, se_makeM hdd ha.se hnon⟩
theorem je_makeM0 {C : Addr} (M : Mk K C f) (F : FnOk X.prog X.w K X.mg X.base CX k f fd ps (spD K s)) (hr : Room (k + 1) X.A) (hg : Gl X x) (hm : X.mg x = some (.ref C)) (hb : Binds K fd ps ds) (hd : Vals dvs ds) (hdd : ∀ Hc, RpAll K Hc dvs dv) (hx : Passes CX X E) (hnon : ∀ ds M P, s ds M P → s ds M fun d M' => d = .non ∧ P .non M')
    (hdb : (x == ("__debug__" : Str)) = false := by decide) (hK : X.K = K := by rfl) :
    JE K X (.Call (.Name x p) [] [] pos) (tMake C (spD K s) dvs E tNil) (mMakeM C s dv aNil) := by
  subst hK
  exact ⟨pe_make0 M F hr hg hm hb hd hx hdb, se_makeM hdd (ja_nil (X := X)).se hnon⟩
theorem je_meth0 {C : Addr} {o : Expr} {mm : Str} {apos : Pos} (ho : JE K X o ta ma) (c : Cls K C) (hm : Meth K C mm f) (F : FnOk X.prog X.w K X.mg X.base CX k f fd ps (spD K s)) (hr : Room k X.A) (hb : Binds K fd ps ds) (hd : Vals dvs ds) (hdd : ∀ Hc, RpAll K Hc dvs dv) (hx : Passes CX X E)
    (hpe : PE X (.Call (.Attribute o mm apos) [] [] pos) (tMeth C mm (spD K s) dvs E ta tNil)) (hK : X.K = K := by rfl) :
    JE K X (.Call (.Attribute o mm apos) [] [] pos) (tMeth C mm (spD K s) dvs E ta tNil) (mMeth C mm s dv ma aNil) := by
  subst hK
  exact ⟨hpe, se_meth hdd ho.se (ja_nil (X := X)).se⟩
/-! attributes -/
theorem fldOf_ok {K : PySem.W.Frag} {Hc F H : Hp} {M : MM} {C : Nat} {g : Str} {v : V} {d y : D} (R : Rel K Hc M F H) (r : Rp K Hc v d) (h : fldOf M C g d = some y) : ∃ p dx fs u, v = .ref p ∧ H p = some (.ins C dx fs) ∧ fs.lookup g = some u ∧ Rp K Hc u y := by
  cases r with
  | obj x q =>
    have h' : (if _ = C then _ else none) = some y := h
    split at h'
    · rename_i e
      subst e
      obtain ⟨u, h1, h2⟩ := q.look h'
      exact ⟨_, _, _, u, rfl, R.hc _ _ x, h1, h2⟩
    · cases h'
  | ref a =>
    unfold fldOf at h
    dsimp only at h
    split at h
    · rename_i C' gs e
      split at h
      · rename_i e2
        subst e2
        obtain ⟨_, _, dx, fs, x, q⟩ := R.mo _ _ e
        obtain ⟨u, h1, h2⟩ := q.look h
        exact ⟨a, dx, fs, u, rfl, x, h1, h2⟩
      · cases h
    · cases h
  | _ => cases h
theorem je_fld {C : Addr} {g : Str} (c : Cls K C) (n : NoAttr K C g) (ho : JE K X e t m) (hb : attributeBase e g X.env (eval e X.env) = eval e X.env := by rfl) (hK : X.K = K := by rfl) : JE K X (.Attribute e g pos) (tFld K t g) (mFld C g m) := by
  subst hK
  exact ⟨pe_fld ho.pe hb, fun {σ ρ Hc M F H P Q} S R h k => ho.se S R h fun x M1 u Hc1 H1 p1 e1 R1 r1 => by
    split at p1
    · rename_i y ey
      obtain ⟨p, dx, fs, w, h1, h2, h3, h4⟩ := fldOf_ok R1 r1 ey
      exact ⟨p, C, dx, fs, w, h1, h2, c, n, h3, k _ _ _ _ _ p1 e1 R1 h4⟩
    · exact p1.elim⟩
/-! ### built-ins -/
theorem se_cb {K : PySem.W.Frag} {r : List V → Hp → VK → Prop} {rd : List D → MM → PQ → Prop} (hr : SC K r rd) (ha : SA K tr mr) : SE K (tCB r tr) (mCB rd mr) := fun {σ ρ Hc M F H P Q} S R h k =>
  ha S R h fun ds M1 us Hc1 H1 p1 e1 R1 r1 => hr R1 r1 p1 fun d M' v Hc' H' q e' R' r' => k d M' v Hc' H' q (e1.trans e') R' r'
theorem je_cb {r : List V → Hp → VK → Prop} {rd : List D → MM → PQ → Prop} {id : String} (hc : CallR X (.builtin id) r) (hr : SC K r rd) (hg : Gl X x) (hm : X.mg x = none) (hv : bootBuiltins x = some (.builtin id)) (ha : JA K X (e :: es) tr mr) (hn : x ≠ "__name__" := by decide) (hdb : (x == ("__debug__" : Str)) = false := by decide)
    (he : starEach (e :: es) X.env = (false, eval e X.env) :: starEach es X.env := by rfl) (hpl : (backTo pos (starEach es X.env)).any (·.1) = false := by rfl) : JE K X (.Call (.Name x p) (e :: es) [] pos) (tCB r tr) (mCB rd mr) := ⟨pe_callB hc hg hm hv ha.pe hn hdb he hpl, se_cb hr ha.se⟩
theorem je_cty {r : List V → Hp → VK → Prop} {rd : List D → MM → PQ → Prop} {T : String} (hc : CallR X (.type T) r) (hr : SC K r rd) (hg : Gl X x) (hm : X.mg x = none) (hv : bootBuiltins x = some (.type T)) (ha : JA K X (e :: es) tr mr) (hn : x ≠ "__name__" := by decide) (hdb : (x == ("__debug__" : Str)) = false := by decide)
    (he : starEach (e :: es) X.env = (false, eval e X.env) :: starEach es X.env := by rfl) (hpl : (backTo pos (starEach es X.env)).any (·.1) = false := by rfl) : JE K X (.Call (.Name x p) (e :: es) [] pos) (tCB r tr) (mCB rd mr) := ⟨pe_callTy hc hg hm hv ha.pe hn hdb he hpl, se_cb hr ha.se⟩
theorem one_of {K : PySem.W.Frag} {Hc : Hp} {vs : List V} {d : D} (r : RpAll K Hc vs [d]) : ∃ v, vs = [v] ∧ Rp K Hc v d := by
  cases r with
  | cons h t => cases t; exact ⟨_, rfl, h⟩
theorem sc_len {K : PySem.W.Frag} : SC K (fun xs H Q => ∃ p ys, xs = [.ref p] ∧ (SqL K H p ys ∨ SqT K H p ys) ∧ Q (.int ys.length) H) fLen := fun {Hc M F H P Q xs ds} R r h k => by
  unfold fLen at h
  split at h
  · split at h
    · rename_i d ys e
      obtain ⟨v, rfl, rv⟩ := one_of r
      obtain ⟨p, vs, rfl, h2, h3, h4⟩ := asS_ok R rv e
      exact ⟨p, vs, rfl, h2, by rw [h4.length]; exact k _ _ _ _ _ h (Ex.refl _) R (.int _)⟩
    · exact h.elim
  · exact h.elim
theorem sc_sum {K : PySem.W.Frag} : SC K (rSum K) fSum := fun {Hc M F H P Q xs ds} R r h k => by
  unfold fSum at h
  split at h
  · split at h
    · rename_i d ns e
      obtain ⟨v, rfl, rv⟩ := one_of r
      obtain ⟨ys, e1, e2⟩ := Option.bind_eq_some_iff.mp e
      obtain ⟨p, vs, rfl, h2, h3, h4⟩ := asL_ok R rv e1
      have e3 := h4.ints e2
      subst e3
      exact ⟨p, ns, rfl, SqL.of h2, k _ _ _ _ _ h (Ex.refl _) R (.int _)⟩
    · exact h.elim
  · exact h.elim
theorem sc_any {K : PySem.W.Frag} : SC K (rAny K) fAny := fun {Hc M F H P Q xs ds} R r h k => by
  unfold fAny at h
  split at h
  · split at h
    · rename_i d ns e
      obtain ⟨v, rfl, rv⟩ := one_of r
      obtain ⟨ys, e1, e2⟩ := Option.bind_eq_some_iff.mp e
      obtain ⟨p, vs, rfl, h2, h3, h4⟩ := asL_ok R rv e1
      have e3 := h4.bools e2
      subst e3
      exact ⟨p, ns, rfl, SqL.of h2, k _ _ _ _ _ h (Ex.refl _) R (.bl _)⟩
    · exact h.elim
  · exact h.elim
theorem sc_all {K : PySem.W.Frag} : SC K (rAll K) fAll := fun {Hc M F H P Q xs ds} R r h k => by
  unfold fAll at h
  split at h
  · split at h
    · rename_i d ns e
      obtain ⟨v, rfl, rv⟩ := one_of r
      obtain ⟨ys, e1, e2⟩ := Option.bind_eq_some_iff.mp e
      obtain ⟨p, vs, rfl, h2, h3, h4⟩ := asL_ok R rv e1
      have e3 := h4.bools e2
      subst e3
      exact ⟨p, ns, rfl, SqL.of h2, k _ _ _ _ _ h (Ex.refl _) R (.bl _)⟩
    · exact h.elim
  · exact h.elim
theorem sc_max {K : PySem.W.Frag} : SC K (fun xs H Q => ∃ i j, xs = [.int i, .int j] ∧ Q (.int (if j > i then j else i)) H) fMax := fun {Hc M F H P Q xs ds} R r h k => by
  unfold fMax at h
  split at h
  · rename_i i j
    cases r with
    | cons h1 t1 => cases h1; cases t1 with
      | cons h2 t2 => cases h2; cases t2; exact ⟨i, j, rfl, k _ _ _ _ _ h (Ex.refl _) R (.int _)⟩
  · exact h.elim
theorem sc_tup {K : PySem.W.Frag} : SC K (fun xs H Q => ∃ p ys, xs = [.ref p] ∧ ((SqL K H p ys ∧ ∀ l, H l = none → Q (.ref l) (upd H l (.tup ys))) ∨ (SqT K H p ys ∧ Q (.ref p) H))) fTup := fun {Hc M F H P Q xs ds} R r h k => by
  unfold fTup at h
  split at h
  · split at h
    · rename_i d ys e
      obtain ⟨v, rfl, rv⟩ := one_of r
      have key : ∀ (p : Addr) (vs : List V), v = .ref p → H p = some (.lst vs) → vs.length ≤ sizeLine → RpAll K Hc vs ys → ∃ p ys, [v] = [V.ref p] ∧ ((SqL K H p ys ∧ ∀ l, H l = none → Q (.ref l) (upd H l (.tup ys))) ∨ (SqT K H p ys ∧ Q (.ref p) H)) := by
        intro p vs e1 h2 h3 h4
        subst e1
        refine ⟨p, vs, rfl, .inl ⟨SqL.of h2, fun l hl => ?_⟩⟩
        have ex : Ex Hc (upd Hc l (.tup vs)) := Ex.new (R.hc.back hl)
        exact k _ _ _ _ _ h ex (R.new hl) (.tup (SqT.of upd_same) h3 (h4.mono ex))
      cases rv with
      | tup x l q =>
        cases e
        exact ⟨_, _, rfl, .inr ⟨ex_sqT R.hc x, k _ _ _ _ _ h (Ex.refl _) R (.tup x l q)⟩⟩
      | lst x l q => cases e; exact key _ _ rfl (R.hc _ _ x) l q
      | ref a =>
        obtain ⟨p, vs, h1, h2, h3, h4⟩ := asL_ok R (Rp.ref a) e
        exact key p vs h1 h2 h3 h4
      | _ => cases e
    · exact h.elim
  · exact h.elim
theorem sc_list {K : PySem.W.Frag} : SC K (fun xs H Q => ∃ p ys, xs = [.ref p] ∧ (SqL K H p ys ∨ SqT K H p ys) ∧ ∀ l, H l = none → Q (.ref l) (upd H l (.lst ys))) fList := fun {Hc M F H P Q xs ds} R r h k => by
  unfold fList at h
  split at h
  · split at h
    · rename_i d ys e
      obtain ⟨v, rfl, rv⟩ := one_of r
      obtain ⟨p, vs, rfl, h2, h3, h4⟩ := asS_ok R rv e
      refine ⟨p, vs, rfl, h2, fun l hl => ?_⟩
      have ex : Ex Hc (upd Hc l (.lst vs)) := Ex.new (R.hc.back hl)
      exact k _ _ _ _ _ h ex (R.new hl) (.lst upd_same h3 (h4.mono ex))
    · exact h.elim
  · exact h.elim
theorem sc_listM {K : PySem.W.Frag} : SC K (fun xs H Q => ∃ p ys, xs = [.ref p] ∧ (SqL K H p ys ∨ SqT K H p ys) ∧ ∀ l, H l = none → Q (.ref l) (upd H l (.lst ys))) fListM := fun {Hc M F H P Q xs ds} R r h k => by
  unfold fListM at h
  split at h
  · split at h
    · rename_i d ys e
      obtain ⟨v, rfl, rv⟩ := one_of r
      obtain ⟨p, vs, rfl, h2, h3, h4⟩ := asS_ok R rv e
      exact ⟨p, vs, rfl, h2, fun l hl => k _ _ _ _ _ (h l (R.nM hl)) (Ex.refl _) (R.newM hl h4 h3) (.ref l)⟩
    · exact h.elim
  · exact h.elim
theorem sc_int {K : PySem.W.Frag} : SC K (fun xs H Q => (∃ i, xs = [.int i] ∧ Q (.int i) H) ∨ ∃ k, xs = [.bl k] ∧ Q (.int (if k then 1 else 0)) H) fInt := fun {Hc M F H P Q xs ds} R r h k => by
  unfold fInt at h
  split at h
  · rename_i i
    obtain ⟨v, rfl, rv⟩ := one_of r
    cases rv
    exact .inl ⟨i, rfl, k _ _ _ _ _ h (Ex.refl _) R (.int _)⟩
  · rename_i i
    obtain ⟨v, rfl, rv⟩ := one_of r
    cases rv
    exact .inr ⟨i, rfl, k _ _ _ _ _ h (Ex.refl _) R (.int _)⟩
  · exact h.elim
theorem je_len (hg : Gl X "len") (hm : X.mg "len" = none) (ha : JA K X (e :: es) tr mr) (he : starEach (e :: es) X.env = (false, eval e X.env) :: starEach es X.env := by rfl) (hpl : (backTo pos (starEach es X.env)).any (·.1) = false := by rfl) (hK : X.K = K := by rfl) : JE K X (.Call (.Name "len" p) (e :: es) [] pos) (tCB (fun xs H Q => ∃ p ys, xs = [.ref p] ∧ (SqL K H p ys ∨ SqT K H p ys) ∧ Q (.int ys.length) H) tr) (mCB fLen mr) := by
  subst hK
  exact je_cb call_len_seq sc_len hg hm boot_len ha (he := he) (hpl := hpl)
theorem je_sum (hc : X.calm = true) (hg : Gl X "sum") (hm : X.mg "sum" = none) (ha : JA K X (e :: es) tr mr) (he : starEach (e :: es) X.env = (false, eval e X.env) :: starEach es X.env := by rfl) (hpl : (backTo pos (starEach es X.env)).any (·.1) = false := by rfl) (hK : X.K = K := by rfl) : JE K X (.Call (.Name "sum" p) (e :: es) [] pos) (tCB (rSum K) tr) (mCB fSum mr) := by
  subst hK
  exact je_cb (cr_sum hc) sc_sum hg hm (by decide +kernel) ha (he := he) (hpl := hpl)
theorem je_any (hc : X.calm = true) (hg : Gl X "any") (hm : X.mg "any" = none) (ha : JA K X (e :: es) tr mr) (he : starEach (e :: es) X.env = (false, eval e X.env) :: starEach es X.env := by rfl) (hpl : (backTo pos (starEach es X.env)).any (·.1) = false := by rfl) (hK : X.K = K := by rfl) : JE K X (.Call (.Name "any" p) (e :: es) [] pos) (tCB (rAny K) tr) (mCB fAny mr) := by
  subst hK
  exact je_cb (cr_any hc) sc_any hg hm (by decide +kernel) ha (he := he) (hpl := hpl)
theorem je_all (hc : X.calm = true) (hg : Gl X "all") (hm : X.mg "all" = none) (ha : JA K X (e :: es) tr mr) (he : starEach (e :: es) X.env = (false, eval e X.env) :: starEach es X.env := by rfl) (hpl : (backTo pos (starEach es X.env)).any (·.1) = false := by rfl) (hK : X.K = K := by rfl) : JE K X (.Call (.Name "all" p) (e :: es) [] pos) (tCB (rAll K) tr) (mCB fAll mr) := by
  subst hK
  exact je_cb (cr_all hc) sc_all hg hm (by decide +kernel) ha (he := he) (hpl := hpl)
theorem je_max (hc : X.calm = true) (hg : Gl X "max") (hm : X.mg "max" = none) (ha : JA K X (e :: es) tr mr) (he : starEach (e :: es) X.env = (false, eval e X.env) :: starEach es X.env := by rfl) (hpl : (backTo pos (starEach es X.env)).any (·.1) = false := by rfl) : JE K X (.Call (.Name "max" p) (e :: es) [] pos) (tCB (fun xs H Q => ∃ i j, xs = [.int i, .int j] ∧ Q (.int (if j > i then j else i)) H) tr) (mCB fMax mr) := je_cb (call_max2 hc) sc_max hg hm (by decide +kernel) ha (he := he) (hpl := hpl)
theorem je_tupOf (hg : Gl X "tuple") (hm : X.mg "tuple" = none) (ha : JA K X (e :: es) tr mr) (he : starEach (e :: es) X.env = (false, eval e X.env) :: starEach es X.env := by rfl) (hpl : (backTo pos (starEach es X.env)).any (·.1) = false := by rfl) (hK : X.K = K := by rfl) : JE K X (.Call (.Name "tuple" p) (e :: es) [] pos) (tCB (fun xs H Q => ∃ p ys, xs = [.ref p] ∧ ((SqL K H p ys ∧ ∀ l, H l = none → Q (.ref l) (upd H l (.tup ys))) ∨ (SqT K H p ys ∧ Q (.ref p) H))) tr) (mCB fTup mr) := by
  subst hK
  exact je_cty call_tuple_of sc_tup hg hm (by decide +kernel) ha (he := he) (hpl := hpl)
theorem je_listOf (hg : Gl X "list") (hm : X.mg "list" = none) (ha : JA K X (e :: es) tr mr) (he : starEach (e :: es) X.env = (false, eval e X.env) :: starEach es X.env := by rfl) (hpl : (backTo pos (starEach es X.env)).any (·.1) = false := by rfl) (hK : X.K = K := by rfl) : JE K X (.Call (.Name "list" p) (e :: es) [] pos) (tCB (fun xs H Q => ∃ p ys, xs = [.ref p] ∧ (SqL K H p ys ∨ SqT K H p ys) ∧ ∀ l, H l = none → Q (.ref l) (upd H l (.lst ys))) tr) (mCB fList mr) := by
  subst hK
  exact je_cty call_list_of sc_list hg hm (by decide +kernel) ha (he := he) (hpl := hpl)
theorem je_listOfM (hg : Gl X "list") (hm : X.mg "list" = none) (ha : JA K X (e :: es) tr mr) (he : starEach (e :: es) X.env = (false, eval e X.env) :: starEach es X.env := by rfl) (hpl : (backTo pos (starEach es X.env)).any (·.1) = false := by rfl) (hK : X.K = K := by rfl) : JE K X (.Call (.Name "list" p) (e :: es) [] pos) (tCB (fun xs H Q => ∃ p ys, xs = [.ref p] ∧ (SqL K H p ys ∨ SqT K H p ys) ∧ ∀ l, H l = none → Q (.ref l) (upd H l (.lst ys))) tr) (mCB fListM mr) := by
  subst hK
  exact je_cty call_list_of sc_listM hg hm (by decide +kernel) ha (he := he) (hpl := hpl)
theorem je_intOf (hg : Gl X "int") (hm : X.mg "int" = none) (ha : JA K X (e :: es) tr mr) (he : starEach (e :: es) X.env = (false, eval e X.env) :: starEach es X.env := by rfl) (hpl : (backTo pos (starEach es X.env)).any (·.1) = false := by rfl) : JE K X (.Call (.Name "int" p) (e :: es) [] pos) (tCB (fun xs H Q => (∃ i, xs = [.int i] ∧ Q (.int i) H) ∨ ∃ k, xs = [.bl k] ∧ Q (.int (if k then 1 else 0)) H) tr) (mCB fInt mr) := je_cty call_int1 sc_int hg hm (by decide +kernel) ha (he := he) (hpl := hpl)
end
end DL
end
section
/-! DL: a list or a tuple walked, by itself or by enumerate -/
namespace DL
open PySem PySem.Spec PyProof.Rows L2
/-- a list or a tuple, told where it stands -/
def iAny (K : PySem.W.Frag) (te : TE) : TI := fun σ H R => te σ H fun x H1 => ∃ a, x = .ref a ∧ (((∃ xs, SqL K H1 a xs) ∧ R (Itl K a) H1) ∨ ((∃ xs, SqT K H1 a xs) ∧ R (Itt K a) H1))
theorem pi_any {X : Cx} {tg e : Expr} {te : TE} (h : PE X e te) : PI X tg e (iAny X.K te) := by
  refine ⟨fun pins s σ H R I hw => ?_⟩
  refine thn (h.run pins s σ H _ I hw) fun v s1 ⟨x, H1, I1, r1, a, ex, q⟩ => ?_
  subst ex
  cases r1
  have fp : ∀ b ∈ [s1.heap.objs.size], FpOk X pins H1 b := fun b hb => by
    have eb : b = s1.heap.objs.size := by simpa using hb
    subst eb
    exact I1.fpOk (Nat.le_refl _) (I1.hok.fresh (Nat.le_refl _))
  rcases q with ⟨⟨xs, hq⟩, q⟩ | ⟨⟨xs, hq⟩, q⟩
  · obtain ⟨its, rv, pl, hz⟩ := I1.list hq
    exact wpAny_pyIter_list pl.isList ⟨s1.heap.objs.size, [s1.heap.objs.size], _, _, H1, rfl, I1.kept (t' := s1.toks) fun b o z => Heap.get?_push_of_some _ z, turn_list a _, ⟨_, Heap.get?_push_size _ rfl, rfl, rfl⟩, fp, q⟩
  · obtain ⟨its, rv, pl, hz⟩ := I1.tuple hq
    exact wpAny_pyIter_tuple (show s1.heap.IsTuple a its.toArray from pl) ⟨s1.heap.objs.size, [s1.heap.objs.size], _, _, H1, rfl, I1.kept (t' := s1.toks) fun b o z => Heap.get?_push_of_some _ z, turn_tuple a _, ⟨_, Heap.get?_push_size _ rfl, rfl, rfl⟩, fp, q⟩

theorem enum_made {v : Value} {o : Obj} {H : Heap → Prop} (B : Begins v o H) :
    Meets (Builtin.«enumerate.__new__» ⟨[.type "enumerate", v], []⟩) (fun _ R s => H s.heap ∧
      R (.ok (.ret (.ref (s.heap.push o).objs.size))) { s with heap := (s.heap.push o).push { cls := .type "enumerate", data := .fields #[.none, .bool false, .ref s.heap.objs.size, rawInt 0, .none, .none] } }) :=
  .of_wp fun prog w A R s h => by
    obtain ⟨hp, g, d, tk, os⟩ := s
    obtain ⟨h1, h⟩ := h
    have hsub := sub_enumerate
    have q1 : ∀ {A' : Around} {E : Value → Shared → Prop} {Q : Value → Shared → Prop}, Q (.ref hp.objs.size) ⟨hp.push o, g, d, tk, os⟩ → wpAny (model prog w) A' (pyIter v) Q E ⟨hp, g, d, tk, os⟩ :=
      fun q => B.iter prog w _ _ ⟨hp, g, d, tk, os⟩ _ h1 q
    wp_walk using q1
    refine wpAny_stack_any fun st => wpAny_pure ?_
    split
    · rename_i c _ _ _ _ _
      cases (c == Value.type "enumerate")
      · wp_walk using q1
        exact ⟨_, rfl, h⟩
      · wp_walk using q1
        exact ⟨_, rfl, h⟩
    · wp_walk using q1
      exact ⟨_, rfl, h⟩
theorem enum_call {prog : Program} {w : World} {A : Around} {E : Value → Shared → Prop} {s : Shared} {v : Value} {o : Obj} {H : Heap → Prop} {Q : Value → Shared → Prop} (B : Begins v o H) (h1 : H s.heap)
    (h : ∀ h', IsEnum h' (s.heap.objs.size + 1) s.heap.objs.size 0 .none → h'.get? s.heap.objs.size = some o → h'.objs.size = s.heap.objs.size + 2 →
      (∀ b o, s.heap.get? b = some o → h'.get? b = some o) → Q (.ref (s.heap.objs.size + 1)) { s with heap := h' }) :
    wpAny (model prog w) A (call (.type "enumerate") [v]) Q E s := by
  refine callType_new F.called_enumerate (by decide) (F.typeCall_enumerate_1 _) (F.newCall_enumerate_1 _) (fun obj => F.args_object_init_2 obj _) F.entry_enumerate_new (enum_made B) ⟨h1, ?_⟩
  have hz : (s.heap.push o).objs.size = s.heap.objs.size + 1 := Heap.size_push ..
  show _ ∧ _
  rw [hz]
  have he : IsEnum ((s.heap.push o).push { cls := .type "enumerate", data := .fields #[.none, .bool false, .ref s.heap.objs.size, rawInt 0, .none, .none] }) (s.heap.objs.size + 1) s.heap.objs.size 0 .none := by
    have z := Heap.get?_push_size (s.heap.push o) (o := { cls := .type "enumerate", data := .fields #[.none, .bool false, .ref s.heap.objs.size, rawInt 0, .none, .none] }) rfl
    rw [hz] at z
    exact z
  exact ⟨⟨_, he, rfl⟩, h _ he (Heap.get?_push_of_some _ (Heap.get?_push_size _ B.free)) (by rw [Heap.size_push, hz]) fun b o x => Heap.get?_push_of_some _ (Heap.get?_push_of_some _ x)⟩
/-- the tuple at a, each item in a new pair with its place -/
def IteT (K : PySem.W.Frag) (a : Addr) : It :=
  ⟨fun i H => ∃ (xs : List V) (x : V), SqT K H a xs ∧ xs[i]? = some x, fun i H v H' => ∃ T x, v = .ref T ∧ H T = none ∧ H' = upd H T (.tup [.int (i : Nat), x]) ∧ ∀ xs, SqT K H a xs → xs[i]? = some x, fun i H => ∃ xs : List V, SqT K H a xs ∧ xs.length = i⟩
theorem turn_enumT {P : Program} {w : World} {K : PySem.W.Frag} {elts : List Expr} {kk : Nat} {tpos : Pos} (a e it : Addr) (hae : a ≠ it ∧ a ≠ e) :
    Turn P w K (.Tuple elts kk tpos) (IteT K a) [e, it] e (fun i h => (∃ old, IsEnum h e it ((i : Nat) : Int) old) ∧ h.IsTupleIter it a i ∧ e ≠ it) where
  mem := by simp
  obj := fun i h st b hb => by
    obtain ⟨⟨old, he⟩, ⟨o, ho, hc, hd⟩, _⟩ := st
    have z : b = e ∨ b = it := by simpa using hb
    rcases z with z | z
    · rw [z]; exact ⟨_, he, fun v q => nomatch q⟩
    · rw [z]; exact ⟨o, ho, fun v q => by rw [hd] at q; cases q⟩
  keep := fun i h h' st k => let ⟨⟨old, he⟩, hi, hne⟩ := st; ⟨⟨old, k e (by simp) _ he⟩, hi.at fun o q => k it (by simp) o q, hne⟩
  item := by
    intro X hP hw hK hc i pins s σ H E I hf st hg
    subst hP hw hK
    obtain ⟨⟨old, he⟩, hit, hne⟩ := st
    obtain ⟨xs, x, hq, hx⟩ := hg
    obtain ⟨its, rv, pl, hz⟩ := I.tuple hq
    obtain ⟨u, hu, ru⟩ := rv.get hx
    have hel : e < s.heap.objs.size := Heap.lt_size he
    have hil : it < s.heap.objs.size := by obtain ⟨_, q, _⟩ := hit; exact Heap.lt_size q
    have hlt : i < its.toArray.size := by
      have := (List.getElem?_eq_some_iff.mp hu).1
      simpa using this
    refine wpAny_pyNext_enum_itemD (Draws.tuple (A := X.A.in1) (show X.A.in1.handled = none from I.ok.hd hc) it a hae.1 its.toArray) he ⟨hit, pl⟩ hlt hne (by simp [hne, Ne.symm hae.2]) fun u' h' tk hu' ho hst hT hsz hk => ?_
    have eu : u' = u := by
      have h1 : its.toArray[i]? = some u' := hu'
      have h2 : its.toArray[i]? = some u := by simpa using hu
      rw [h1] at h2
      exact Option.some.inj h2
    subst eu
    refine ⟨_, rfl, wpAny_letOwnedTupleGo_enum (s := { s with heap := h', toks := tk + 1 }) ho fun h'' he' sb => ?_⟩
    have hT2 : h''.get? s.heap.objs.size = some { cls := .type "tuple", data := .seq #[.int i tk, u'] } := (sb.2 _ (Nat.ne_of_gt hel)).trans hT
    have new : ObjOk X.prog X.w (upd H s.heap.objs.size (.tup [.int (i : Nat), x])) h'' s.heap.objs.size (.tup [.int (i : Nat), x]) :=
      ⟨by show 2 ≤ sizeLine; decide, [.int i tk, u'], .cons ⟨_, rfl⟩ (.cons ru .nil), ⟨_, hT2, rfl, _, rfl⟩⟩
    have I1 : Inv X pins σ (upd H s.heap.objs.size (.tup [.int (i : Nat), x])) { s with heap := h'', toks := tk + 1 } :=
      I.turnedNew (ch := [e, it]) (fun b ob hb q => (sb.2 b (fun z => hb (by simp [z]))).trans (hk b ob (fun z => hb (by simp [z])) (fun z => hb (by simp [z])) q)) hf (Nat.le_refl _) new
    refine ⟨.ref s.heap.objs.size, _, I1, rfl, ⟨_, x, rfl, I.hok.fresh (Nat.le_refl _), rfl, fun ys hy => by rw [I.tuple_inj hy hq]; exact hx⟩, ⟨⟨u', ?_⟩, hst.1.at fun o q => (sb.2 it (Ne.symm hne)).trans q, hne⟩, fun b hb => ?_⟩
    · have e1 : ((i + 1 : Nat) : Int) = (i : Int) + 1 := by omega
      rw [e1]; exact he'
    · have hb' : b < s.heap.objs.size := by
        have z : b = e ∨ b = it := by simpa using hb
        rcases z with z | z
        · rw [z]; exact hel
        · rw [z]; exact hil
      rw [upd_ne (Nat.ne_of_lt hb')]
      exact (hf b hb).1
  done := by
    intro X hP hw hK hc i pins s σ H E I hf st hg
    subst hP hw hK
    obtain ⟨⟨old, he⟩, hit, hne⟩ := st
    obtain ⟨xs, hq, hx⟩ := hg
    obtain ⟨its, rv, pl, hz⟩ := I.tuple hq
    obtain ⟨f0, f1, f2, f3, f4, f5⟩ := hf it (by simp)
    have hl := rv.length
    have ei : i = its.toArray.size := by simp; omega
    subst ei
    exact wpAny_pyNext_enum_endD (Draws.tuple (A := X.A.in1) (show X.A.in1.handled = none from I.ok.hd hc) it a hae.1 its.toArray) he ⟨hit, pl⟩ fun h' eb => ⟨rfl, I.turned (t' := s.toks) (fun b o hb q => eb b o hb q) f0 f1 f3 f4 f5⟩
  self := fun A i s Q E st h => let ⟨⟨_, he⟩, _⟩ := st; wpAny_pyIter_enum he h
/-- enumerate of a list or a tuple -/
def iEnumA (K : PySem.W.Frag) (ta : TA) : TI := fun σ H R => ta σ H fun vs H1 => ∃ a, vs = [.ref a] ∧ (((∃ xs, SqL K H1 a xs) ∧ R (Ite K a) H1) ∨ ((∃ xs, SqT K H1 a xs) ∧ R (IteT K a) H1))
theorem pi_enumA {X : Cx} {e : Expr} {ta : TA} {p pos tpos : Pos} {elts : List Expr} {kk : Nat} (hg : Gl X "enumerate") (hm : X.mg "enumerate" = none) (pa : PA X [e] ta) (hs : starEach [e] X.env = [(false, eval e X.env)] := by rfl) :
    PI X (.Tuple elts kk tpos) (.Call (.Name "enumerate" p) [e] [] pos) (iEnumA X.K ta) := by
  refine ⟨fun pins s σ H R I hw => ?_⟩
  refine Call_ (ld_blt I hg hm boot_enumerate (PyProof.Rows.callWith_type1 (thn (pa.run pos pins s σ H _ I hw) fun us s1 ⟨vs, H1, I1, r1, q1⟩ => ?_) hs rfl))
  · obtain ⟨a, ex, q⟩ := q1
    subst ex
    cases r1 with
    | cons r rr =>
      cases rr
      cases r
      have fin : ∀ (o : Obj) (J : It) (tn : Nat → Heap → Prop) (h' : Heap), (∀ b o, s1.heap.get? b = some o → h'.get? b = some o) → Turn X.prog X.w X.K (.Tuple elts kk tpos) J [s1.heap.objs.size + 1, s1.heap.objs.size] (s1.heap.objs.size + 1) tn → tn 0 h' → R J H1 →
          PIE X pins σ (.Tuple elts kk tpos) R (.ref (s1.heap.objs.size + 1)) { s1 with heap := h' } := fun o J tn h' hk T t0 q => by
        refine ⟨s1.heap.objs.size + 1, [s1.heap.objs.size + 1, s1.heap.objs.size], _, J, H1, rfl, I1.kept (t' := s1.toks) hk, T, t0, fun b hb => ?_, q⟩
        have z : b = s1.heap.objs.size + 1 ∨ b = s1.heap.objs.size := by simpa using hb
        have hle : s1.heap.objs.size ≤ b := by
          rcases z with z | z
          · rw [z]; exact Nat.le_add_right _ _
          · rw [z]; exact Nat.le_refl _
        exact I1.fpOk hle (I1.hok.fresh hle)
      rcases q with ⟨⟨xs, hq⟩, q⟩ | ⟨⟨xs, hq⟩, q⟩
      · obtain ⟨its, rv, pl, hz⟩ := I1.list hq
        refine enum_call (begins_list a its.toArray) pl.isList fun h' he hit hsz hk => wpAny_pyIter_enum he ?_
        exact fin default _ _ h' hk (turn_enum a (s1.heap.objs.size + 1) s1.heap.objs.size) ⟨⟨.none, he⟩, ⟨_, hit, rfl, rfl⟩, Nat.succ_ne_self _⟩ q
      · obtain ⟨its, rv, pl, hz⟩ := I1.tuple hq
        have hat : a < s1.heap.objs.size := by obtain ⟨o, ho, _⟩ := pl; exact Heap.lt_size ho
        refine enum_call (begins_tuple a its.toArray) (show s1.heap.IsTuple a its.toArray from pl) fun h' he hit hsz hk => wpAny_pyIter_enum he ?_
        exact fin default _ _ h' hk (turn_enumT a (s1.heap.objs.size + 1) s1.heap.objs.size ⟨Nat.ne_of_lt hat, Nat.ne_of_lt (Nat.lt_succ_of_lt hat)⟩) ⟨⟨.none, he⟩, ⟨_, hit, rfl, rfl⟩, Nat.succ_ne_self _⟩ q
end DL
end
section
/-! DL: the rules, 3: tests, targets, walks, comprehensions, statements -/
namespace DL
open PySem PySem.Spec PyProof.Rows L2
section
variable {X : Cx} {K : PySem.W.Frag} {e a b : Expr} {es : List Expr} {t ta tb : TE} {m ma mb : ET} {pos : Pos} {tr : TA} {mr : AT} {x : Str} {p : Pos}
/-! ### tests -/
theorem jt_val (h : JE K X e t m) (he : ∀ whole, isTrue e X.env whole = (do let v ← whole; standAt e.pos; holding [v] (truthy v)) := by intro _; rfl) : JT K X e (tB t) (tVal m) := ⟨pt_val h.pe he, fun {σ ρ Hc M F H P Q} S R hm k => h.se S R hm fun x M1 u Hc1 H1 p1 e1 R1 r1 => by
  cases r1 with
  | bl c => exact ⟨c, rfl, k _ _ _ _ p1 e1 R1⟩
  | _ => exact p1.elim⟩
theorem st_test {K : PySem.W.Frag} (h : SE K t m) : STt K (tTest t) (tVal m) := fun {σ ρ Hc M F H P Q} S R hm k => h S R hm fun x M1 u Hc1 H1 p1 e1 R1 r1 => by
  cases r1 with
  | bl c => exact ⟨c, rfl, k _ _ _ _ p1 e1 R1⟩
  | _ => exact p1.elim
theorem jt_cmp {op : CmpOp} {r : L2.R2} {rd : R2} (ho : OpR X (compareOp op) r) (hr : S2 K r rd) (ha : JE K X a ta ma) (hb : JE K X b tb mb) (hm : behindInMarks op b = false := by first | exact nomark _ | rfl) : JT K X (.Compare a [op] [b] pos) (tTest (tOp r ta tb)) (tVal (mBin rd ma mb)) :=
  ⟨pt_cmpR ho ha.pe hb.pe hm, st_test (se_op hr ha.se hb.se)⟩
theorem se_chain {K : PySem.W.Frag} {r r' : L2.R2} {rd rd' : R2} {c : Expr} {tc : TE} {mc : ET} (hr : S2 K r rd) (hr' : S2 K r' rd') (ha : SE K ta ma) (hb : SE K tb mb) (hc : SE K tc mc) : SE K (tChain r r' ta tb tc) (mChain rd rd' ma mb mc) := fun {σ ρ Hc M F H P Q} S R h k =>
  ha S R h fun x M1 u Hc1 H1 p1 e1 R1 r1 => hb (S.mono e1) R1 p1 fun y M2 w Hc2 H2 p2 e2 R2 r2 => hr R2 (r1.mono e2) r2 p2 fun d M3 v Hc3 H3 p3 e3 R3 r3 => by
    cases r3 with
    | bl k' =>
      refine ⟨k', rfl, ?_⟩
      cases k' with
      | true =>
        show tc σ H3 fun z H4 => r' w z H4 Q
        exact hc (S.mono ((e1.trans e2).trans e3)) R3 p3 fun z M4 v4 Hc4 H4 p4 e4 R4 r4 => hr' R4 (r2.mono (e3.trans e4)) r4 p4 fun d M' v Hc' H' p e R' r' => k d M' v Hc' H' p ((((e1.trans e2).trans e3).trans e4).trans e) R' r'
      | false => exact k _ _ _ _ _ p3 ((e1.trans e2).trans e3) R3 (.bl false)
    | _ => exact p3.elim
theorem jt_chain {op op' : CmpOp} {r r' : L2.R2} {rd rd' : R2} {c : Expr} {tc : TE} {mc : ET} (ho : OpR X (compareOp op) r) (ho' : OpR X (compareOp op') r') (hr : S2 K r rd) (hr' : S2 K r' rd') (ha : JE K X a ta ma) (hb : JE K X b tb mb) (hc : JE K X c tc mc)
    (hm : lastMarks [op, op'] [b, c] = false := by with_unfolding_all rfl) : JT K X (.Compare a [op, op'] [b, c] pos) (tTest (tChain r r' ta tb tc)) (tVal (mChain rd rd' ma mb mc)) := ⟨pt_chain ho ho' ha.pe hb.pe hc.pe hm, st_test (se_chain (c := c) hr hr' ha.se hb.se hc.se)⟩
theorem jt_isN {j pos'} (ha : JE K X a ta ma) : JT K X (.Compare a [.Is] [.Constant .none j pos'] pos) (tTest (tOp (fun x y H Q => y = .non ∧ Q (.bl (decide (x = .non))) H) ta (tC .non))) (tVal (mUn (uIsN false) ma)) := ⟨pt_cmpR op_isN ha.pe pe_non (nomark _), st_test (je_isN (X := X) (pos := pos) (pos' := pos') (j := j) ha).se⟩
theorem jt_notN {j pos'} (ha : JE K X a ta ma) : JT K X (.Compare a [.IsNot] [.Constant .none j pos'] pos) (tTest (tOp (fun x y H Q => y = .non ∧ Q (.bl (!decide (x = .non))) H) ta (tC .non))) (tVal (mUn (uIsN true) ma)) := ⟨pt_cmpR op_notN ha.pe pe_non (nomark _), st_test (je_notN (X := X) (pos := pos) (pos' := pos') (j := j) ha).se⟩
theorem jt_tru (h : JE K X e t m) (he : ∀ whole, isTrue e X.env whole = (do let v ← whole; standAt e.pos; holding [v] (truthy v)) := by intro _; rfl) (hK : X.K = K := by rfl) : JT K X e (fun σ H Q => t σ H fun x H' => ∃ k, TruV K x H' k ∧ Q k H') (tTru m) := by
  subst hK
  exact ⟨pt_truth h.pe he, fun {σ ρ Hc M F H P Q} S R hm k => h.se S R hm fun x M1 u Hc1 H1 p1 e1 R1 r1 => by
  cases r1 with
  | int i => exact ⟨_, rfl, k _ _ _ _ p1 e1 R1⟩
  | bl i => exact ⟨_, rfl, k _ _ _ _ p1 e1 R1⟩
  | non => exact ⟨_, rfl, k _ _ _ _ p1 e1 R1⟩
  | _ => exact p1.elim⟩
theorem st_and {K : PySem.W.Frag} {t1 t2 : L2.TT} {m1 m2 : TT} (h1 : STt K t1 m1) (h2 : STt K t2 m2) : STt K (L2.tAnd t1 t2) (tAnd m1 m2) := fun {σ ρ Hc M F H P Q} S R hm k => h1 S R hm fun c M1 Hc1 H1 p1 e1 R1 => by
  cases c with
  | true => exact h2 (S.mono e1) R1 p1 fun b M' Hc' H' p e R' => k b M' Hc' H' p (e1.trans e) R'
  | false => exact k _ _ _ _ p1 e1 R1
theorem st_or {K : PySem.W.Frag} {t1 t2 : L2.TT} {m1 m2 : TT} (h1 : STt K t1 m1) (h2 : STt K t2 m2) : STt K (L2.tOr t1 t2) (tOr m1 m2) := fun {σ ρ Hc M F H P Q} S R hm k => h1 S R hm fun c M1 Hc1 H1 p1 e1 R1 => by
  cases c with
  | true => exact k _ _ _ _ p1 e1 R1
  | false => exact h2 (S.mono e1) R1 p1 fun b M' Hc' H' p e R' => k b M' Hc' H' p (e1.trans e) R'
theorem jw_and1 {tA : L2.TT} {mA : TT} (h : JT K X a tA mA) : JW K X (.BoolOp .And [a] pos) tA mA := ⟨pw_and1 h.pe, h.se⟩
theorem jw_or1 {tA : L2.TT} {mA : TT} (h : JT K X a tA mA) : JW K X (.BoolOp .Or [a] pos) tA mA := ⟨pw_or1 h.pe, h.se⟩
theorem jw_and {tA tB' : L2.TT} {mA mB : TT} {rest : List Expr} (ha : JT K X a tA mA) (hb : JW K X (.BoolOp .And (b :: rest) pos) tB' mB) : JW K X (.BoolOp .And (a :: b :: rest) pos) (L2.tAnd tA tB') (tAnd mA mB) := ⟨pw_and ha.pe hb.pe, st_and ha.se hb.se⟩
theorem jw_or {tA tB' : L2.TT} {mA mB : TT} {rest : List Expr} (ha : JT K X a tA mA) (hb : JW K X (.BoolOp .Or (b :: rest) pos) tB' mB) : JW K X (.BoolOp .Or (a :: b :: rest) pos) (L2.tOr tA tB') (tOr mA mB) := ⟨pw_or ha.pe hb.pe, st_or ha.se hb.se⟩
theorem JW.jt {tA : L2.TT} {mA : TT} (h : JW K X a tA mA) : JT K X a tA mA := ⟨h.pe.pt, h.se⟩
theorem jt_not {tA : L2.TT} {mA : TT} (h : JT K X a tA mA) : JT K X (.UnaryOp .Not a pos) (L2.tNot tA) (tNot mA) := ⟨pt_not h.pe, fun {σ ρ Hc M F H P Q} S R hm k => h.se S R hm fun c M1 Hc1 H1 p1 e1 R1 => k _ _ _ _ p1 e1 R1⟩
theorem je_ifExp {c : Expr} {tc : L2.TT} {mc : TT} (hc : JT K X c tc mc) (ha : JE K X a ta ma) (hb : JE K X b tb mb) : JE K X (.IfExp c a b pos) (tIf tc ta tb) (mIf mc ma mb) := ⟨pe_ifExp hc.pe ha.pe hb.pe, fun {σ ρ Hc M F H P Q} S R hm k => hc.se S R hm fun c M1 Hc1 H1 p1 e1 R1 => by
  cases c with
  | true =>
    show ta σ H1 Q
    exact ha.se (S.mono e1) R1 p1 fun d M' v Hc' H' p e R' r' => k d M' v Hc' H' p (e1.trans e) R' r'
  | false =>
    show tb σ H1 Q
    exact hb.se (S.mono e1) R1 p1 fun d M' v Hc' H' p e R' r' => k d M' v Hc' H' p (e1.trans e) R' r'⟩
theorem je_andV {rest : List Expr} (ha : JE K X a ta ma) (hb : JE K X (.BoolOp .And (b :: rest) pos) tb mb) : JE K X (.BoolOp .And (a :: b :: rest) pos) (tAndV ta tb) (mAndV ma mb) := ⟨pe_and ha.pe hb.pe, fun {σ ρ Hc M F H P Q} S R hm k => ha.se S R hm fun x M1 u Hc1 H1 p1 e1 R1 r1 => by
  cases r1 with
  | bl c =>
    refine ⟨c, rfl, ?_⟩
    cases c with
    | true =>
      show tb σ H1 Q
      exact hb.se (S.mono e1) R1 p1 fun d M' v Hc' H' p e R' r' => k d M' v Hc' H' p (e1.trans e) R' r'
    | false => exact k _ _ _ _ _ p1 e1 R1 (.bl false)
  | _ => exact p1.elim⟩
theorem je_one {op} (h : JE K X a t m) : JE K X (.BoolOp op [a] pos) t m := ⟨pe_one h.pe, h.se⟩
theorem je_orL {rest : List Expr} (ha : JE K X a ta ma) (hb : JE K X (.BoolOp .Or (b :: rest) pos) tb mb) (hK : X.K = K := by rfl) : JE K X (.BoolOp .Or (a :: b :: rest) pos) (tOrT K ta tb) (mOrL ma mb) := by
  subst hK
  exact ⟨pe_orT ha.pe hb.pe, fun {σ ρ Hc M F H P Q} S R hm k => ha.se S R hm fun x M1 u Hc1 H1 p1 e1 R1 r1 => by
  split at p1
  · rename_i e2
    obtain ⟨p, vs, rfl, h2, h3, h4⟩ := asL_ok R1 r1 e2
    cases h4
    refine ⟨false, .inl ⟨[], SqL.of h2, rfl⟩, ?_⟩
    show tb σ H1 Q
    exact hb.se (S.mono e1) R1 p1 fun d M' v Hc' H' p e R' r' => k d M' v Hc' H' p (e1.trans e) R' r'
  · rename_i ys hne e2
    obtain ⟨p, vs, rfl, h2, h3, h4⟩ := asL_ok R1 r1 e2
    cases h4 with
    | nil => exact (hne rfl).elim
    | cons q1 q2 => exact ⟨true, .inl ⟨_, SqL.of h2, rfl⟩, k _ _ _ _ _ p1 e1 R1 r1⟩
  · exact p1.elim⟩
/-! ### targets -/
theorem sg_name {K : PySem.W.Frag} (i : Nat) : SG K (gName i) (gNm i) := fun {σ ρ Hc M F H P Q v d} S R r h k => k _ _ _ _ _ h (Ex.refl _) (S.set r i) R
theorem jg_name {i : Nat} (hN : X.N.Nodup) (hi : X.N[i]? = some x) (hx : Loc X.env.scope x) (hf : X.fn x = true ∨ X.env.scope.names.lookup x = some .local := by first | exact .inl rfl | exact .inr rfl | assumption) : JG K X (.Name x pos) (gName i) (gNm i) := ⟨pg_name hN hi hx hf, sg_name i⟩
/-- several names -/
inductive Nms (X : Cx) : List Expr → TGs → List Nat → Prop where
  | nil : Nms X [] gNil []
  | cons {e : Expr} {es : List Expr} {i : Nat} {is : List Nat} {u : TGs} (h1 : PG X e (gName i)) (h2 : Nms X es u is) (hs : (assignEach (e :: es) X.env).map (·.2) = assign e X.env :: (assignEach es X.env).map (·.2)) : Nms X (e :: es) (gCons (gName i) u) (i :: is)
theorem nms_cons {es : List Expr} {i : Nat} {is : List Nat} {u : TGs} (h1 : PG X e (gName i)) (h2 : Nms X es u is) (hs : (assignEach (e :: es) X.env).map (·.2) = assign e X.env :: (assignEach es X.env).map (·.2) := by rfl) : Nms X (e :: es) (gCons (gName i) u) (i :: is) := .cons h1 h2 hs
theorem Nms.pgs {es : List Expr} {u : TGs} {is : List Nat} (h : Nms X es u is) : PGs X es u := by
  induction h with
  | nil => exact pgs_nil
  | cons h1 h2 hs ih => exact pgs_cons h1 ih hs
def setV (σ : L2.St) : List Nat → List V → L2.St
  | i :: is, x :: xs => setV (σ.set i (some x)) is xs
  | _, _ => σ
theorem Nms.go {es : List Expr} {u : TGs} {is : List Nat} (h : Nms X es u is) : ∀ {vs : List V} {σ : L2.St} {H : Hp} {Q : L2.St → Hp → Prop}, vs.length = is.length → Q (setV σ is vs) H → u vs σ H Q := by
  induction h with
  | nil =>
    intro vs σ H Q hl q
    cases vs with
    | nil => exact ⟨rfl, q⟩
    | cons x r => cases hl
  | cons h1 h2 hs ih =>
    intro vs σ H Q hl q
    cases vs with
    | nil => cases hl
    | cons v r => exact ⟨v, r, rfl, ih (Nat.succ.inj hl) q⟩
theorem Slots.setAll {K : PySem.W.Frag} {Hc : Hp} : ∀ {is : List Nat} {vs : List V} {ds : List D} {σ : L2.St} {ρ : Env}, Slots K Hc σ ρ → RpAll K Hc vs ds → Slots K Hc (setV σ is vs) (setAll ρ is ds)
  | [], _, _, _, _, S, _ => S
  | i :: is, [], [], _, _, S, .nil => S
  | i :: is, v :: vs, d :: ds, σ, ρ, S, .cons h t => Slots.setAll (is := is) (S.set h i) t
theorem sg_tup {K : PySem.W.Frag} {es : List Expr} {u : TGs} {is : List Nat} (h : Nms X es u is) : SG K (gTup K is.length u) (gTp is) := fun {σ ρ Hc M F H P Q v d} S R r hm k => by
  cases r with
  | tup q l r =>
    have hl := r.length
    obtain ⟨h1, h2⟩ := hm
    exact ⟨_, _, rfl, ex_sqT R.hc q, hl.trans h1, h.go (hl.trans h1) (k _ _ _ _ _ h2 (Ex.refl _) (S.setAll r) R)⟩
  | _ => exact hm.elim
theorem jg_tup {k : Nat} {u : TGs} {is : List Nat} (hc : X.calm = true) (h : Nms X es u is) (hn : (assignEach es X.env).length = is.length := by rfl) (hst : (assignEach es X.env).findIdx? (·.1) = none := by rfl) (hK : X.K = K := by rfl) : JG K X (.Tuple es k pos) (gTup K is.length u) (gTp is) := by
  subst hK
  exact ⟨pg_tup hc h.pgs hn hst, sg_tup h⟩
theorem jg_unl {k : Nat} {u : TGs} {is : List Nat} (hc : X.calm = true) (h : Nms X es u is) (hn : (assignEach es X.env).length = is.length := by rfl) (hst : (assignEach es X.env).findIdx? (·.1) = none := by rfl) (hK : X.K = K := by rfl) : JG K X (.Tuple es k pos) (gUnl K is.length u) (gLs is) := by
  subst hK
  exact ⟨pg_unl hc h.pgs hn hst, fun {σ ρ Hc M F H P Q v d} S R r hm k => by
    unfold gLs at hm
    split at hm
    · rename_i xs e
      obtain ⟨p, vs, rfl, h2, h3, h4⟩ := asL_ok R r e
      have hl := h4.length
      exact ⟨p, vs, rfl, SqL.of h2, hl.trans hm.1, h.go (hl.trans hm.1) (k _ _ _ _ _ hm.2 (Ex.refl _) (S.setAll h4) R)⟩
    · exact hm.elim⟩
/-- o[i] = v -/
theorem setL_ok {K : PySem.W.Frag} {Hc F H : Hp} {M : MM} {o i v : V} {od id vd : D} {P : MM → Prop} {Q : Hp → Prop} (R : Rel K Hc M F H) (ro : Rp K Hc o od) (ri : Rp K Hc i id) (rv : Rp K Hc v vd) (h : setL od id vd M P) (k : ∀ M' H', P M' → Rel K Hc M' F H' → Q H') : rSetL o i v H Q := by
  unfold setL at h
  split at h
  · rename_i a z
    split at h
    · rename_i xs e
      split at h
      · rename_i j ej
        cases ro
        cases ri
        obtain ⟨_, _, vs, h1, h2, h3⟩ := R.mo _ _ e
        exact ⟨a, vs, z, j, rfl, rfl, h1, by rw [h3.length]; exact ej, k _ _ h (R.setLst e (h3.set rv j) (by rw [List.length_set]; exact h2))⟩
      · exact h.elim
    · exact h.elim
  · exact h.elim
theorem jg_sub {o i : Expr} {to ti : TE} {mo mi : ET} (ho : JE K X o to mo) (hi : JE K X i ti mi)
    (ha : ∀ v, assign (.Subscript o i pos) X.env v = (do
      let ov ← holding [v] (eval o X.env)
      let iv ← holding [v, ov] (eval i X.env)
      standAt pos
      holding [v, ov, iv] (setItem ov iv v)
      release [v, ov, iv] []) := by intro _; rfl) : JG K X (.Subscript o i pos) (L2.gSub to ti rSetL) (gSub mo mi) := ⟨pg_sub ho.pe hi.pe set_list ha, fun {σ ρ Hc M F H P Q v d} S R r hm k =>
  ho.se S R hm fun x M1 u Hc1 H1 p1 e1 R1 r1 => hi.se (S.mono e1) R1 p1 fun y M2 w Hc2 H2 p2 e2 R2 r2 => setL_ok R2 (r1.mono e2) r2 (r.mono (e1.trans e2)) p2 fun M' H' q R' => k _ _ _ _ _ q (e1.trans e2) (S.mono (e1.trans e2)) R'⟩
/-- o.f = v -/
theorem setF_ok {K : PySem.W.Frag} {Hc F H : Hp} {M : MM} {C : Nat} {g : Str} {o v : V} {od vd : D} {P : MM → Prop} {Q : Hp → Prop} (R : Rel K Hc M F H) (ro : Rp K Hc o od) (rv : Rp K Hc v vd) (h : setF C g od vd M P) (k : ∀ M' H', P M' → Rel K Hc M' F H' → Q H') :
    ∃ a dx fs, o = .ref a ∧ H a = some (.ins C dx fs) ∧ fs.length < 1000 ∧ Q (upd H a (.ins C dx (putF g v fs))) := by
  unfold setF at h
  split at h
  · rename_i a
    split at h
    · rename_i C' gs e
      obtain ⟨h1, h2, h3⟩ := h
      subst h1
      cases ro
      obtain ⟨_, _, dx, fs, h4, h5⟩ := R.mo _ _ e
      have hl := h5.length
      exact ⟨a, dx, fs, rfl, h4, by omega, k _ _ h3 (R.write e ⟨dx, _, upd_same, h5.put rv⟩)⟩
    · exact h.elim
  · exact h.elim
theorem js_fld {C : Addr} {g : Str} {o value : Expr} {to tv : TE} {mo mv : ET} {pos' : Pos} (c : Cls K C) (n : NoAttr K C g) (ho : JE K X o to mo) (hv : JE K X value tv mv) (hs : swapsWith value (some (.Attribute o g pos')) pos.line X.env = pure false := by rfl) (hK : X.K = K := by rfl) :
    JS K X (.Assign [.Attribute o g pos'] value pos) (sFld K to tv g) (sSet mv (gFld C g mo)) := by
  subst hK
  exact ⟨ps_fld ho.pe hv.pe hs, fun {σ ρ Hc M F H G E} S R fo hm => hv.se S R hm fun y M1 u Hc1 H1 p1 e1 R1 r1 => ho.se (S.mono e1) R1 p1 fun x M2 w Hc2 H2 p2 e2 R2 r2 => by
  obtain ⟨a, dx, fs, h1, h2, h3, h4⟩ := setF_ok (Q := fun H' => E.nx σ H') R2 r2 (r1.mono e2) p2 fun M' H' q R' => fo.nx _ _ _ _ _ q (e1.trans e2) (S.mono (e1.trans e2)) R'
  exact ⟨a, C, dx, fs, h1, h2, c, n, h3, h4⟩⟩
/-! ### walks -/
theorem pi_nxt {K : PySem.W.Frag} {Hc : Hp} {xs : List V} {ds : List D} (r : RpAll K Hc xs ds) {i : Nat} {H H' : Hp} {v : V} (y : YAt xs i H v H') :
    ∃ d, ds[i]? = some d ∧ ∀ Hd, Ex Hc Hd → ∀ M F, Rel K Hd M F H → ∃ Hd', Ex Hd Hd' ∧ Rel K Hd' M F H' ∧ Rp K Hd' v d := by
  obtain ⟨e1, e2⟩ := y
  subst e1
  obtain ⟨d, h1, h2⟩ := r.get' e2
  exact ⟨d, h1, fun Hd ex M F R => ⟨Hd, Ex.refl _, R, h2.mono ex⟩⟩
theorem ji_seq {tg : Expr} (h : JE K X e t m) (hK : X.K = K := by rfl) : JI K X tg e (iAny K t) (iSeq m) := by
  subst hK
  exact ⟨pi_any h.pe, fun {σ ρ Hc M F H P R'} S R hm k => h.se S R hm fun d M1 u Hc1 H1 p1 e1 R1 r1 => by
  cases r1 with
  | @lst a vs ds q l r =>
    have hl := r.length
    have w : Walk (Itl X.K a) ds.length (fun H => Ex Hc1 H) (fun i H v H' => ∃ d, ds[i]? = some d ∧ ∀ Hd, Ex Hc1 Hd → ∀ M F, Rel X.K Hd M F H → ∃ Hd', Ex Hd Hd' ∧ Rel X.K Hd' M F H' ∧ Rp X.K Hd' v d) := by
      rw [← hl]
      exact walk_list.mono (fun H ex => SqL.of (ex _ _ q)) (fun i H x H' _ _ y => pi_nxt r y)
    exact ⟨a, rfl, .inl ⟨⟨vs, SqL.of (R1.hc _ _ q)⟩, k _ _ _ _ _ p1 e1 R1 (by rw [← hl]; exact l) w⟩⟩
  | @tup a vs ds q l r =>
    have hl := r.length
    have w : Walk (Itt X.K a) ds.length (fun H => Ex Hc1 H) (fun i H v H' => ∃ d, ds[i]? = some d ∧ ∀ Hd, Ex Hc1 Hd → ∀ M F, Rel X.K Hd M F H → ∃ Hd', Ex Hd Hd' ∧ Rel X.K Hd' M F H' ∧ Rp X.K Hd' v d) := by
      rw [← hl]
      exact walk_tup.mono (fun H ex => ex_sqT ex q) (fun i H x H' _ _ y => pi_nxt r y)
    exact ⟨a, rfl, .inr ⟨⟨vs, ex_sqT R1.hc q⟩, k _ _ _ _ _ p1 e1 R1 (by rw [← hl]; exact l) w⟩⟩
  | _ => exact p1.elim⟩
theorem enumD_get (ds : List D) (i : Nat) : (enumD ds)[i]? = ds[i]?.map fun x => D.tup [.int (i : Nat), x] := by
  unfold enumD
  rw [List.getElem?_mapIdx]
theorem enumD_len (ds : List D) : (enumD ds).length = ds.length := by unfold enumD; rw [List.length_mapIdx]
theorem pair_nxt {K : PySem.W.Frag} {Hc : Hp} {H H' : Hp} {v : V} {T : Addr} {x y : V} {dx dy : D} (e1 : v = .ref T) (e2 : H T = none) (e3 : H' = upd H T (.tup [x, y])) (rx : Rp K Hc x dx) (ry : Rp K Hc y dy) :
    ∀ Hd, Ex Hc Hd → ∀ M F, Rel K Hd M F H → ∃ Hd', Ex Hd Hd' ∧ Rel K Hd' M F H' ∧ Rp K Hd' v (.tup [dx, dy]) := by
  subst e1 e3
  intro Hd ex M F R
  have ex' : Ex Hd (upd Hd T (.tup [x, y])) := Ex.new (R.hc.back e2)
  exact ⟨_, ex', R.new e2, .tup (SqT.of upd_same) (by show 2 ≤ sizeLine; decide) (.cons (rx.mono (ex.trans ex')) (.cons (ry.mono (ex.trans ex')) .nil))⟩
theorem ji_enum {elts : List Expr} {kk : Nat} {tpos : Pos} (hg : Gl X "enumerate") (hm : X.mg "enumerate" = none) (h : JE K X e t m) (hs : starEach [e] X.env = [(false, eval e X.env)] := by rfl) (hK : X.K = K := by rfl) : JI K X (.Tuple elts kk tpos) (.Call (.Name "enumerate" p) [e] [] pos) (iEnumA K (tCons t tNil)) (iEnum m) := by
  subst hK
  exact ⟨pi_enumA hg hm (pa_cons h.pe pa_nil (hs := hs)) hs, fun {σ ρ Hc M F H P R'} S R hm k => h.se S R hm fun d M1 u Hc1 H1 p1 e1 R1 r1 => by
  cases r1 with
  | @lst a vs ds q l r =>
    have hl := r.length
    have w : Walk (Ite X.K a) (enumD ds).length (fun H => Ex Hc1 H) (fun i H v H' => ∃ d, (enumD ds)[i]? = some d ∧ ∀ Hd, Ex Hc1 Hd → ∀ M F, Rel X.K Hd M F H → ∃ Hd', Ex Hd Hd' ∧ Rel X.K Hd' M F H' ∧ Rp X.K Hd' v d) := by
      rw [enumD_len, ← hl]
      refine walk_enum.mono (fun H ex => SqL.of (ex _ _ q)) (fun i H x H' _ _ y => ?_)
      obtain ⟨T, z, w, h1, h2, h3, h4, h5⟩ := y
      cases h4
      obtain ⟨d, g1, g2⟩ := r.get' h5
      exact ⟨_, by rw [enumD_get, g1]; rfl, pair_nxt h1 h2 h3 (.int _) g2⟩
    exact ⟨a, rfl, .inl ⟨⟨vs, SqL.of (R1.hc _ _ q)⟩, k _ _ _ _ _ p1 e1 R1 (by rw [enumD_len, ← hl]; exact l) w⟩⟩
  | @tup a vs ds q l r =>
    have hl := r.length
    have w : Walk (IteT X.K a) (enumD ds).length (fun H => Ex Hc1 H) (fun i H v H' => ∃ d, (enumD ds)[i]? = some d ∧ ∀ Hd, Ex Hc1 Hd → ∀ M F, Rel X.K Hd M F H → ∃ Hd', Ex Hd Hd' ∧ Rel X.K Hd' M F H' ∧ Rp X.K Hd' v d) := by
      rw [enumD_len, ← hl]
      refine ⟨fun i H hi ex => ⟨vs, vs[i], ex_sqT ex q, by simp [hi]⟩, fun H ex => ⟨vs, ex_sqT ex q, rfl⟩, fun i H x H' hi ex y => ?_⟩
      obtain ⟨T, z, h1, h2, h3, h4⟩ := y
      obtain ⟨d, g1, g2⟩ := r.get' (h4 vs (ex_sqT ex q))
      exact ⟨_, by rw [enumD_get, g1]; rfl, pair_nxt h1 h2 h3 (.int _) g2⟩
    exact ⟨a, rfl, .inr ⟨⟨vs, ex_sqT R1.hc q⟩, k _ _ _ _ _ p1 e1 R1 (by rw [enumD_len, ← hl]; exact l) w⟩⟩
  | _ => exact p1.elim⟩
theorem rangeD_len (n : Int) : (rangeD n).length = n.toNat := by unfold rangeD; rw [List.length_map, List.length_range]
theorem rangeD_get {n : Int} {i : Nat} (h : i < n.toNat) : (rangeD n)[i]? = some (.int (i : Nat)) := by
  unfold rangeD
  rw [List.getElem?_map, List.getElem?_range h] <;> rfl
theorem rangeD2_len (a b : Int) : (rangeD2 a b).length = (b - a).toNat := by unfold rangeD2; rw [List.length_map, List.length_range]
theorem rangeD2_get {a b : Int} {i : Nat} (h : i < (b - a).toNat) : (rangeD2 a b)[i]? = some (.int (a + (i : Nat))) := by
  unfold rangeD2
  rw [List.getElem?_map, List.getElem?_range h] <;> rfl
theorem ji_range {tg : Expr} (hg : Gl X "range") (hm : X.mg "range" = none) (h : JE K X e t m) (hs : starEach [e] X.env = [(false, eval e X.env)] := by rfl) : JI K X tg (.Call (.Name "range" p) [e] [] pos) (iRng1 (tCons t tNil)) (iRange m) :=
  ⟨pi_range1 hg hm (pa_cons h.pe pa_nil (hs := hs)) hs, fun {σ ρ Hc M F H P R'} S R hm k => h.se S R hm fun d M1 u Hc1 H1 p1 e1 R1 r1 => by
  cases r1 with
  | int n =>
    obtain ⟨⟨h0, h1⟩, h2⟩ := p1
    refine ⟨n, rfl, by omega, by omega, k _ _ _ _ _ h2 e1 R1 (by rw [rangeD_len]; exact szBig (by show n.toNat ≤ 100000; omega)) ?_⟩
    rw [rangeD_len]
    refine walk_range.mono (fun _ _ => trivial) (fun i H x H' hi _ y => ?_)
    obtain ⟨y1, y2⟩ := y
    subst y1 y2
    exact ⟨_, rangeD_get hi, fun Hd ex M F R => ⟨Hd, Ex.refl _, R, by show Rp K Hd (V.int (0 + (i : Int))) (D.int (i : Nat)); rw [Int.zero_add]; exact .int _⟩⟩
  | _ => exact p1.elim⟩
theorem ji_range2 {tg : Expr} (hg : Gl X "range") (hm : X.mg "range" = none) (ha : JE K X a ta ma) (hb : JE K X b tb mb) (hs : starEach [a, b] X.env = [(false, eval a X.env), (false, eval b X.env)] := by rfl) (hs2 : starEach [b] X.env = [(false, eval b X.env)] := by rfl) : JI K X tg (.Call (.Name "range" p) [a, b] [] pos) (iRng2 (tCons ta (tCons tb tNil))) (iRange2 ma mb) :=
  ⟨pi_range2 hg hm (pa_cons ha.pe (pa_cons hb.pe pa_nil (hs := hs2)) (hs := by rw [hs2]; exact hs)) hs hs2, fun {σ ρ Hc M F H P R'} S R hm k => ha.se S R hm fun d M1 u Hc1 H1 p1 e1 R1 r1 => hb.se (S.mono e1) R1 p1 fun d2 M2 u2 Hc2 H2 p2 e2 R2 r2 => by
  have r1' := r1.mono e2
  cases r1' with
  | int n =>
    cases r2 with
    | int n2 =>
      obtain ⟨⟨h0, h1, h1b, h1c⟩, h2⟩ := p2
      refine ⟨n, n2, rfl, ⟨by omega, by omega, by omega, by omega⟩, k _ _ _ _ _ h2 (e1.trans e2) R2 (by rw [rangeD2_len]; exact szBig (by show (n2 - n).toNat ≤ 100000; omega)) ?_⟩
      rw [rangeD2_len]
      refine walk_range.mono (fun _ _ => trivial) (fun i H x H' hi _ y => ?_)
      obtain ⟨y1, y2⟩ := y
      subst y1 y2
      exact ⟨_, rangeD2_get hi, fun Hd ex M F R => ⟨Hd, Ex.refl _, R, .int _⟩⟩
    | _ => exact p2.elim
  | _ => exact p2.elim⟩
theorem zipD_get (xs ys : List D) (i : Nat) (x y : D) (h1 : xs[i]? = some x) (h2 : ys[i]? = some y) : (zipD xs ys)[i]? = some (.tup [x, y]) := by
  unfold zipD
  rw [List.getElem?_zipWith, h1, h2]
theorem zipD_len (xs ys : List D) : (zipD xs ys).length = min xs.length ys.length := by unfold zipD; rw [List.length_zipWith]
theorem ji_zip {elts : List Expr} {kk : Nat} {tpos : Pos} (hg : Gl X "zip") (hm : X.mg "zip" = none) (ha : JE K X a ta ma) (hb : JE K X b tb mb) (hs : starEach [a, b] X.env = [(false, eval a X.env), (false, eval b X.env)] := by rfl) (hs2 : starEach [b] X.env = [(false, eval b X.env)] := by rfl)
    (hpi : PI X (.Tuple elts kk tpos) (.Call (.Name "zip" p) [a, b] [] pos) (L2.iZip K (tCons ta (tCons tb tNil)))) (hK : X.K = K := by rfl) : JI K X (.Tuple elts kk tpos) (.Call (.Name "zip" p) [a, b] [] pos) (L2.iZip K (tCons ta (tCons tb tNil))) (iZip ma mb) := by
  subst hK
  exact ⟨hpi, fun {σ ρ Hc M F H P R'} S R hm k => ha.se S R hm fun d M1 u Hc1 H1 p1 e1 R1 r1 => hb.se (S.mono e1) R1 p1 fun d2 M2 u2 Hc2 H2 p2 e2 R2 r2 => by
  have r1' := r1.mono e2
  cases r1' with
  | @lst c vs ds q l r =>
    cases r2 with
    | @lst c2 vs2 ds2 q2 l2 r2 =>
      have hl := r.length
      have hl2 := r2.length
      have w : Walk (Itz X.K c c2) (zipD ds ds2).length (fun H => Ex Hc2 H) (fun i H v H' => ∃ d, (zipD ds ds2)[i]? = some d ∧ ∀ Hd, Ex Hc2 Hd → ∀ M F, Rel X.K Hd M F H → ∃ Hd', Ex Hd Hd' ∧ Rel X.K Hd' M F H' ∧ Rp X.K Hd' v d) := by
        rw [zipD_len, ← hl, ← hl2]
        refine (walk_zip rfl).mono (fun H ex => ⟨SqL.of (ex _ _ q), SqL.of (ex _ _ q2)⟩) (fun i H x H' _ _ y => ?_)
        obtain ⟨T, z, w, h1, h2, h3, h4, h5⟩ := y
        obtain ⟨d, g1, g2⟩ := r.get' h4
        obtain ⟨d2, g3, g4⟩ := r2.get' h5
        exact ⟨_, zipD_get _ _ _ _ _ g1 g3, pair_nxt h1 h2 h3 g2 g4⟩
      exact ⟨c, c2, vs, vs2, rfl, SqL.of (R2.hc _ _ q), SqL.of (R2.hc _ _ q2), k _ _ _ _ _ p2 (e1.trans e2) R2 (by rw [zipD_len, ← hl]; exact Nat.le_trans (Nat.min_le_left _ _) l) w⟩
    | _ => exact p2.elim
  | _ => cases d2 <;> exact p2.elim⟩
/-! ### statements -/
theorem js_pass : JS K X (.Pass pos) tNext sNx := ⟨ps_pass, fun {σ ρ Hc M F H G E} S R fo hm => fo.nx _ _ _ _ _ hm (Ex.refl _) S R⟩
theorem jb_nil : JB K X [] tNext sNx := ⟨pss_nil, fun {σ ρ Hc M F H G E} S R fo hm => fo.nx _ _ _ _ _ hm (Ex.refl _) S R⟩
theorem ss_seq {K : PySem.W.Frag} {t1 t2 : TS} {m1 m2 : ST} (h1 : SS K t1 m1) (h2 : SS K t2 m2) : SS K (tSeq t1 t2) (sSeq m1 m2) := fun {σ ρ Hc M F H G E} S R fo hm =>
  h1 (G := { G with nx := m2 G }) (E := { E with nx := t2 E }) S R ⟨fun ρ' M' σ' Hc' H' g ex S' R' => h2 S' R' (fo.mono ex) g, fo.rt, fo.bk, fo.ct⟩ hm
theorem jb_cons {st : Stmt} {rest : List Stmt} {t1 t2 : TS} {m1 m2 : ST} (h1 : JS K X st t1 m1) (h2 : JB K X rest t2 m2) : JB K X (st :: rest) (tSeq t1 t2) (sSeq m1 m2) := ⟨pss_cons h1.pe h2.pe, ss_seq h1.se h2.se⟩
theorem jb_one {st : Stmt} {t1 : TS} {m1 : ST} (h1 : JS K X st t1 m1) : JB K X [st] t1 m1 := ⟨pss_one h1.pe, h1.se⟩
theorem jb_never {sts : List Stmt} : JB K X sts tNever sNever := ⟨pss_never, fun {σ ρ Hc M F H G E} S R fo hm => hm.elim⟩
theorem js_never {st : Stmt} : JS K X st tNever sNever := ⟨ps_never, fun {σ ρ Hc M F H G E} S R fo hm => hm.elim⟩
theorem js_break : JS K X (.Break pos) tBreak sBreak := ⟨ps_break, fun {σ ρ Hc M F H G E} S R fo hm => fo.bk _ _ _ _ _ hm (Ex.refl _) S R⟩
theorem js_expr (h : JE K X e t m) (hs : swapsWith e none pos.line X.env = pure false := by rfl) : JS K X (.Expr e pos) (tDrop t) (sExpr m) := ⟨ps_expr h.pe hs, fun {σ ρ Hc M F H G E} S R fo hm => h.se S R hm fun x M1 u Hc1 H1 p1 e1 R1 r1 => fo.nx _ _ _ _ _ p1 e1 (S.mono e1) R1⟩
theorem js_ret (h : JE K X e t m) : JS K X (.Return (some e) pos) (tRet t) (sRet m) := ⟨ps_ret h.pe, fun {σ ρ Hc M F H G E} S R fo hm => h.se S R hm fun x M1 u Hc1 H1 p1 e1 R1 r1 => fo.rt _ _ _ _ _ p1 e1 R1 r1⟩
theorem js_retN : JS K X (.Return none pos) tRetN sRetN := ⟨ps_retN, fun {σ ρ Hc M F H G E} S R fo hm => fo.rt _ _ _ _ _ hm (Ex.refl _) R .non⟩
theorem js_if {c : Expr} {p q : List Stmt} {tc : L2.TT} {mc : TT} {t1 t2 : TS} {m1 m2 : ST} (hc : JT K X c tc mc) (h1 : JB K X p t1 m1) (h2 : JB K X q t2 m2) : JS K X (.If c p q pos) (tIfS tc t1 t2) (sIf mc m1 m2) := ⟨ps_if hc.pe h1.pe h2.pe, fun {σ ρ Hc M F H G E} S R fo hm => hc.se S R hm fun c M1 Hc1 H1 p1 e1 R1 => by
  cases c with
  | true =>
    show t1 E σ H1
    exact h1.se (S.mono e1) R1 (fo.mono e1) p1
  | false =>
    show t2 E σ H1
    exact h2.se (S.mono e1) R1 (fo.mono e1) p1⟩
theorem ss_asg {K : PySem.W.Frag} {g : TG} {gm : GT} (h : SE K t m) (hg : SG K g gm) : SS K (tAsg t g) (sSet m gm) := fun {σ ρ Hc M F H G E} S R fo hm =>
  h S R hm fun x M1 u Hc1 H1 p1 e1 R1 r1 => hg (S.mono e1) R1 r1 p1 fun ρ' M' σ' Hc' H' q ex S' R' => fo.nx _ _ _ _ _ q (e1.trans ex) S' R'
theorem js_asg {tg : Expr} {g : TG} {gm : GT} (h : JE K X e t m) (hg : JG K X tg g gm) (hs : swapsWithSole [tg] e pos.line X.env = pure false := by rfl) (hw : swappedStores [tg] e X.env = pure none := by rfl)
    (h1 : (assignEach [tg] X.env).map (·.2) = [assign tg X.env] := by rfl) : JS K X (.Assign [tg] e pos) (tAsg t g) (sSet m gm) := ⟨ps_asg h.pe hg.pe hs hw h1, ss_asg h.se hg.se⟩
theorem js_set {i : Nat} {pos' : Pos} (hN : X.N.Nodup) (hi : X.N[i]? = some x) (hx : Loc X.env.scope x) (h : JE K X e t m) (hs : swapsWith e (some (.Name x pos')) pos.line X.env = pure false := by rfl) (hf : X.fn x = true ∨ X.env.scope.names.lookup x = some .local := by first | exact .inl rfl | exact .inr rfl | assumption) :
    JS K X (.Assign [.Name x pos'] e pos) (tAsg t (gName i)) (sSet m (gNm i)) := ⟨ps_set hN hi hx h.pe hs hf, ss_asg h.se (sg_name i)⟩
theorem js_aug {i : Nat} {pos' : Pos} {op : Operator} {r : L2.R2} {rd : R2} (hN : X.N.Nodup) (hi : X.N[i]? = some x) (hx : Loc X.env.scope x) (h : JE K X e t m) (ho : OpR X (inplaceOp op) r) (hr : S2 K r rd) (hf : X.fn x = true ∨ X.env.scope.names.lookup x = some .local := by first | exact .inl rfl | exact .inr rfl | assumption) :
    JS K X (.AugAssign (.Name x pos') op e pos) (tAug i t r) (sAug i rd m) := ⟨ps_aug hN hi hx h.pe ho hf, fun {σ ρ Hc M F H G E} S R fo hm => by
  unfold sAug at hm
  split at hm
  · rename_i d ed
    obtain ⟨v, h1, h2⟩ := S.at_ i d ed
    refine ⟨v, h1, h.se S R hm fun y M1 u Hc1 H1 p1 e1 R1 r1 => hr R1 (h2.mono e1) r1 p1 fun z M2 w Hc2 H2 p2 e2 R2 r2 => ?_⟩
    exact fo.nx _ _ _ _ _ p2 (e1.trans e2) ((S.mono (e1.trans e2)).set r2 i) R2
  · exact hm.elim⟩
theorem js_for {iter tg : Expr} {body : List Stmt} {wi : TI} {mi : IT} {g : TG} {gm : GT} {tb : TS} {mb : ST} (hp : PassesOwn (model X.prog X.w) X.A X.env X.xe) (hc : X.calm = true) (hi : JI K X tg iter wi mi) (hg : JG K X tg g gm) (hb : JB K X body tb mb) (hs : ∀ x, foldedSetIterable iter X.env x = pure x := by intro _; rfl) :
    JS K X (.For tg iter body [] pos) (tFor wi g tb) (sFor mi gm mb) := ⟨ps_for hp hc hi.pe hg.pe hb.pe (hs := hs), fun {σ ρ Hc M F H G E} S R fo hm => hi.se S R hm fun xs M1 J Hc1 H1 p1 e1 R1 hz w => by
  obtain ⟨I, i0, step, done⟩ := p1
  refine for_it w (fun i σ' H' => ∃ ρ' M' Hd, Ex Hc1 Hd ∧ Slots K Hd σ' ρ' ∧ Rel K Hd M' F H' ∧ I i ρ' M') ⟨ρ, M1, Hc1, Ex.refl _, S.mono e1, R1, i0⟩ (fun i σ' H' _ ⟨ρ', M', Hd, ex, _, R', _⟩ => ex.trans R'.hc) (fun i v σ' H' H2 hi' ⟨ρ', M', Hd, ex, S', R', q⟩ y => ?_) (fun σ' H' ⟨ρ', M', Hd, ex, S', R', q⟩ => ?_)
  · obtain ⟨d, hd, hy⟩ := y
    obtain ⟨Hd', ex', R'', r''⟩ := hy Hd ex M' F R'
    refine hg.se (S'.mono ex') R'' r'' (step i d ρ' M' hd q) fun ρ2 M2 σ2 Hc2 H2' q2 ex2 S2 R2 => ?_
    refine hb.se (G := { G with nx := I (i + 1), ct := I (i + 1), bk := G.nx }) S2 R2 ⟨fun ρ3 M3 σ3 Hc3 H3 g3 ex3 S3 R3 => ⟨ρ3, M3, Hc3, ((ex.trans ex').trans ex2).trans ex3, S3, R3, g3⟩, fun d M3 v Hc3 H3 g3 ex3 R3 r3 => fo.rt _ _ _ _ _ g3 ((((e1.trans ex).trans ex').trans ex2).trans ex3) R3 r3,
      fun ρ3 M3 σ3 Hc3 H3 g3 ex3 S3 R3 => fo.nx _ _ _ _ _ g3 ((((e1.trans ex).trans ex').trans ex2).trans ex3) S3 R3, fun ρ3 M3 σ3 Hc3 H3 g3 ex3 S3 R3 => ⟨ρ3, M3, Hc3, ((ex.trans ex').trans ex2).trans ex3, S3, R3, g3⟩⟩ q2
  · exact fo.nx _ _ _ _ _ (done ρ' M' q) (e1.trans ex) S' R'⟩
theorem js_while {c : Expr} {body : List Stmt} {tc : L2.TT} {mc : TT} {tb : TS} {mb : ST} (hp : PassesOwn (model X.prog X.w) X.A X.env X.xe) (hc : JT K X c tc mc) (hb : JB K X body tb mb) : JS K X (.While c body [] pos) (tWhile tc tb) (sWhile mc mb) := ⟨ps_while hp hc.pe hb.pe, fun {σ ρ Hc M F H G E} S R fo hm => by
  obtain ⟨W, ⟨n0, w0⟩, step⟩ := hm
  refine ⟨fun n σ' H' => ∃ ρ' M' Hd, Ex Hc Hd ∧ Slots K Hd σ' ρ' ∧ Rel K Hd M' F H' ∧ W n ρ' M', ⟨n0, ρ, M, Hc, Ex.refl _, S, R, w0⟩, fun n σ' H' ⟨ρ', M', Hd, ex, S', R', q⟩ => ?_⟩
  refine hc.se S' R' (step n ρ' M' q) fun b M1 Hc1 H1 p1 e1 R1 => ?_
  cases b with
  | true =>
    obtain ⟨N, hN, p1⟩ := p1
    refine ⟨fun σ2 H2 => ∃ ρ2 M2 Hd2, Ex Hc Hd2 ∧ Slots K Hd2 σ2 ρ2 ∧ Rel K Hd2 M2 F H2 ∧ N ρ2 M2, fun σ2 H2 ⟨ρ2, M2, Hd2, ex2, S2, R2, q2⟩ => ?_, ?_⟩
    · obtain ⟨m', hm', w'⟩ := hN ρ2 M2 q2
      exact ⟨m', hm', ρ2, M2, Hd2, ex2, S2, R2, w'⟩
    · refine hb.se (G := { G with nx := N, ct := N, bk := G.nx }) (S'.mono e1) R1 ⟨fun ρ3 M3 σ3 Hc3 H3 g3 ex3 S3 R3 => ⟨ρ3, M3, Hc3, (ex.trans e1).trans ex3, S3, R3, g3⟩, fun d M3 v Hc3 H3 g3 ex3 R3 r3 => fo.rt _ _ _ _ _ g3 ((ex.trans e1).trans ex3) R3 r3,
        fun ρ3 M3 σ3 Hc3 H3 g3 ex3 S3 R3 => fo.nx _ _ _ _ _ g3 ((ex.trans e1).trans ex3) S3 R3, fun ρ3 M3 σ3 Hc3 H3 g3 ex3 S3 R3 => ⟨ρ3, M3, Hc3, (ex.trans e1).trans ex3, S3, R3, g3⟩⟩ p1
  | false =>
    show E.nx σ' H1
    exact fo.nx _ _ _ _ _ p1 (ex.trans e1) (S'.mono e1) R1⟩
end
end DL
end
section
/-! DL: the rules, 4: comprehensions, methods of lists, the rest -/
namespace DL
open PySem PySem.Spec PyProof.Rows L2
theorem wipe_get (σ : L2.St) (j : Nat) : ∀ vs : List Nat, (wipe σ vs)[j]? = if j ∈ vs then (if j < σ.length then some none else none) else σ[j]?
  | [] => by simp [wipe]
  | v :: vs => by
    have ih := wipe_get σ j vs
    show ((wipe σ vs).set v none)[j]? = _
    rw [List.getElem?_set, wipe_length]
    by_cases h : v = j
    · subst h
      simp
    · rw [if_neg h, ih]
      have h' : ¬ j = v := fun e => h e.symm
      simp [h']
theorem wipe_set {σ : L2.St} {i : Nat} {x : Option V} {vs : List Nat} (h : i ∈ vs) : wipe (σ.set i x) vs = wipe σ vs := by
  apply List.ext_getElem?
  intro j
  rw [wipe_get, wipe_get, List.length_set, List.getElem?_set]
  by_cases hj : j ∈ vs
  · rw [if_pos hj, if_pos hj]
  · rw [if_neg hj, if_neg hj, if_neg (show ¬ i = j from fun e => hj (e ▸ h))]
theorem wipe_wipe (σ : L2.St) (vs : List Nat) : wipe (wipe σ vs) vs = wipe σ vs := by
  apply List.ext_getElem?
  intro j
  rw [wipe_get, wipe_get, wipe_length]
  by_cases hj : j ∈ vs
  · rw [if_pos hj, if_pos hj]
  · rw [if_neg hj, if_neg hj]
/-- a target that stores in these slots alone -/
def Wp (vs : List Nat) (t : TG) : Prop := ∀ v σ H Q, t v σ H Q → t v σ H fun σ' H' => wipe σ' vs = wipe σ vs ∧ Q σ' H'
theorem wp_name {vs : List Nat} {i : Nat} (h : i ∈ vs) : Wp vs (gName i) := fun v σ H Q q => ⟨wipe_set h, q⟩
theorem Nms.wp {X : Cx} {es : List Expr} {u : TGs} {is : List Nat} (h : Nms X es u is) (vs : List Nat) (hv : ∀ i ∈ is, i ∈ vs) : ∀ xs σ H Q, u xs σ H Q → u xs σ H fun σ' H' => wipe σ' vs = wipe σ vs ∧ Q σ' H' := by
  induction h with
  | nil => intro xs σ H Q q; exact ⟨q.1, rfl, q.2⟩
  | cons h1 h2 hs ih =>
    intro xs σ H Q q
    obtain ⟨v, r, e1, q⟩ := q
    refine ⟨v, r, e1, ?_⟩
    have z := ih (fun i hi => hv i (List.mem_cons_of_mem _ hi)) r _ H Q q
    rw [wipe_set (hv _ List.mem_cons_self)] at z
    exact z
theorem wp_tup {K : PySem.W.Frag} {X : Cx} {es : List Expr} {u : TGs} {is : List Nat} {n : Nat} (h : Nms X es u is) (vs : List Nat) (hv : ∀ i ∈ is, i ∈ vs) : Wp vs (gTup K n u) := fun v σ H Q q => by
  obtain ⟨a, xs, e1, e2, e3, q⟩ := q
  exact ⟨a, xs, e1, e2, e3, h.wp vs hv xs σ H Q q⟩
structure JC (K : PySem.W.Frag) (X : Cx) (vs : List Nat) (e : Expr) (t : TG) (m : GT) : Prop where
  pe : PG X e t
  se : SG K t m
  wp : Wp vs t
structure JTs (K : PySem.W.Frag) (X : Cx) (e : List Expr) (t : L2.TT) (m : TT) : Prop where
  pe : PTs X e t
  se : STt K t m
section
variable {X : Cx} {K : PySem.W.Frag} {e a b : Expr} {es : List Expr} {t ta tb : TE} {m ma mb : ET} {pos : Pos} {tr : TA} {mr : AT} {x : Str} {p : Pos}
theorem jc_name {vs : List Nat} {i : Nat} (hN : X.N.Nodup) (hi : X.N[i]? = some x) (hx : Loc X.env.scope x) (hv : i ∈ vs := by decide) (hf : X.fn x = true ∨ X.env.scope.names.lookup x = some .local := by first | exact .inl rfl | exact .inr rfl | assumption) : JC K X vs (.Name x pos) (gName i) (gNm i) := ⟨pg_name hN hi hx hf, sg_name i, wp_name hv⟩
theorem jc_tup {vs : List Nat} {k : Nat} {u : TGs} {is : List Nat} (hc : X.calm = true) (h : Nms X es u is) (hv : ∀ i ∈ is, i ∈ vs := by decide) (hn : (assignEach es X.env).length = is.length := by rfl) (hst : (assignEach es X.env).findIdx? (·.1) = none := by rfl) (hK : X.K = K := by rfl) : JC K X vs (.Tuple es k pos) (gTup K is.length u) (gTp is) := by
  subst hK
  exact ⟨pg_tup hc h.pgs hn hst, sg_tup h, wp_tup h vs hv⟩
theorem jts_nil : JTs K X [] L2.tYes tYes := ⟨pts_nil, fun {σ ρ Hc M F H P Q} S R hm k => k _ _ _ _ hm (Ex.refl _) R⟩
theorem jts_one {c : Expr} {tc : L2.TT} {mc : TT} (h : JT K X c tc mc) : JTs K X [c] tc mc := ⟨pts_one h.pe, h.se⟩
/-- the walk of a comprehension, the items laid in another's keep -/
theorem lc_go {K : PySem.W.Frag} {J : It} {xs : List D} {Hc1 H1 : Hp} {F : Hp} {M1 : MM} {vs : List Nat} {σ : L2.St} {ρ : Env} {g : TG} {gm : GT} {tt : L2.TT} {tm : TT} {te : TE} {me : ET} {Dl : Addr} {Qd : Hp → Prop} {P : List D → MM → Prop}
    (hg : SG K g gm) (hw : Wp vs g) (ht : STt K tt tm) (he : SE K te me) (S : Slots K Hc1 σ ρ) (R : Rel K Hc1 M1 F H1) (hD : H1 Dl = none) (hz : xs.length ≤ sizeLine)
    (w : Walk J xs.length (fun H => Ex Hc1 H) (fun i H v H' => ∃ d, xs[i]? = some d ∧ ∀ Hd, Ex Hc1 Hd → ∀ M F, Rel K Hd M F H → ∃ Hd', Ex Hd Hd' ∧ Rel K Hd' M F H' ∧ Rp K Hd' v d))
    (h : lcI xs gm tm me (wipeD ρ vs) M1 P) (k : ∀ acc M av Hd H, P acc M → Ex Hc1 Hd → Rel K Hd M (upd F Dl (.lst av)) H → av.length ≤ sizeLine → RpAll K Hd av acc → Qd H) :
    ∃ W : Nat → Nat → Hp → Prop, (∃ m, W 0 m (upd H1 Dl (.lst []))) ∧ ∀ i m H, W i m H →
      (J.stop i H ∧ Qd H) ∨ (J.go i H ∧ ∃ Nx : Hp → Prop, (∀ H', Nx H' → ∃ m', m' < m ∧ W (i + 1) m' H') ∧ ∀ x H', J.yld i H x H' → g x (wipe σ vs) H' fun σ2 H2 => wipe σ2 vs = wipe σ vs ∧ tt σ2 H2 fun b H3 =>
        if b = true then te σ2 H3 fun y H4 => ∃ acc, H4 Dl = some (.lst acc) ∧ acc.length < sizeLine ∧ Nx (upd H4 Dl (.lst (acc ++ [y]))) else Nx H3) := by
  obtain ⟨I, i0, step, done⟩ := h
  have hF : F Dl = none := R.fr.back hD
  have hH : Hc1 Dl = none := R.hc.back hD
  have key : ∀ {Hd M av H aw}, Rel K Hd M (upd F Dl (.lst av)) H → Rel K Hd M (upd F Dl (.lst aw)) (upd H Dl (.lst aw)) := fun {Hd M av H aw} R' => by
    have hd : Hd Dl = none := R'.df Dl _ upd_same
    refine ⟨R'.hc.upd hd, fun c u q => ?_, fun c u q => ?_, fun c u q => ?_⟩
    · by_cases z : c = Dl
      · subst z; rw [upd_same] at q ⊢; exact q
      · rw [upd_ne z] at q ⊢
        exact R'.fr c u (by rw [upd_ne z]; exact q)
    · obtain ⟨h1, h2, h3⟩ := R'.mo c u q
      have z : c ≠ Dl := fun z => by rw [z, upd_same] at h2; cases h2
      rw [upd_ne z] at h2
      exact ⟨h1, by rw [upd_ne z]; exact h2, h3.mono (Ex.refl _) (upd_ne z)⟩
    · by_cases z : c = Dl
      · subst z; exact hd
      · rw [upd_ne z] at q
        exact R'.df c u (by rw [upd_ne z]; exact q)
  refine lc_it w (fun i H => ∃ acc av M Hd, Ex Hc1 Hd ∧ Rel K Hd M (upd F Dl (.lst av)) H ∧ av.length ≤ i ∧ RpAll K Hd av acc ∧ I i acc M) ?_ (fun i H _ ⟨acc, av, M, Hd, ex, R', _⟩ => ex.trans R'.hc) ?_ ?_
  · refine ⟨[], [], M1, Hc1, Ex.refl _, ?_, Nat.le_refl _, .nil, i0⟩
    refine ⟨R.hc.upd hH, fun c u q => ?_, fun c u q => ?_, fun c u q => ?_⟩
    · by_cases z : c = Dl
      · subst z; rw [upd_same] at q ⊢; exact q
      · rw [upd_ne z] at q ⊢; exact R.fr c u q
    · obtain ⟨h1, h2, h3⟩ := R.mo c u q
      obtain ⟨o, ho⟩ := h3.some
      have z : c ≠ Dl := ne_of_none ho hD
      exact ⟨h1, by rw [upd_ne z]; exact h2, h3.mono (Ex.refl _) (upd_ne z)⟩
    · by_cases z : c = Dl
      · subst z; exact hH
      · rw [upd_ne z] at q; exact R.df c u q
  · rintro i v H H' hi ⟨acc, av, M, Hd, ex, R', hl, ra, q⟩ ⟨d, hd, hy⟩
    obtain ⟨Hd', ex', R'', r''⟩ := hy Hd ex M _ R'
    have s := step i d acc M hd q
    have S' : Slots K Hd' (wipe σ vs) (wipeD ρ vs) := (S.mono (ex.trans ex')).wipe vs
    have z := hg (Q := fun σ2 H2 => tt σ2 H2 fun b H3 => if b = true then te σ2 H3 fun y H4 => ∃ acc, H4 Dl = some (.lst acc) ∧ acc.length < sizeLine ∧ (∃ acc' av' M Hd, Ex Hc1 Hd ∧ Rel K Hd M (upd F Dl (.lst av')) (upd H4 Dl (.lst (acc ++ [y]))) ∧ av'.length ≤ i + 1 ∧ RpAll K Hd av' acc' ∧ I (i + 1) acc' M) else ∃ acc' av' M Hd, Ex Hc1 Hd ∧ Rel K Hd M (upd F Dl (.lst av')) H3 ∧ av'.length ≤ i + 1 ∧ RpAll K Hd av' acc' ∧ I (i + 1) acc' M) S' R'' r'' s fun ρ2 M2 σ2 Hc2 H2 q2 ex2 S2 R2 => ?_
    · have zz := hw _ _ _ _ z
      rw [wipe_wipe] at zz
      exact zz
    · refine ht S2 R2 q2 fun b M3 Hc3 H3 q3 ex3 R3 => ?_
      cases b with
      | true =>
        show te σ2 H3 _
        refine he (S2.mono ex3) R3 q3 fun y M4 vy Hc4 H4 q4 ex4 R4 r4 => ?_
        have exx : Ex Hd Hc4 := ((ex'.trans ex2).trans ex3).trans ex4
        refine ⟨av, R4.fr Dl _ upd_same, Nat.lt_of_lt_of_le (Nat.lt_of_le_of_lt hl hi) hz, acc ++ [y], av ++ [vy], M4, Hc4, ex.trans exx, key R4, by rw [List.length_append]; exact Nat.succ_le_succ hl, (ra.mono exx).append (.cons r4 .nil), q4⟩
      | false =>
        show ∃ acc' av' M Hd, _
        have exx : Ex Hd Hc3 := (ex'.trans ex2).trans ex3
        exact ⟨acc, av, M3, Hc3, ex.trans exx, R3, Nat.le_succ_of_le hl, ra.mono exx, q3⟩
  · rintro H ⟨acc, av, M, Hd, ex, R', hl, ra, q⟩
    exact k acc M av Hd H (done acc M q) ex R' (Nat.le_trans hl hz) ra
theorem se_lc {K : PySem.W.Frag} {vs : List Nat} {wi : TI} {mi : IT} {g : TG} {gm : GT} {tt : L2.TT} {tm : TT} {te : TE} {me : ET} (hi : SI K wi mi) (hg : SG K g gm) (hw : Wp vs g) (ht : STt K tt tm) (he : SE K te me) : SE K (tLc wi g tt te vs) (mLc mi gm vs tm me) := fun {σ ρ Hc M F H P Q} S R hm k =>
  hi S R hm fun xs M1 J Hc1 H1 p1 e1 R1 hz w Dl hD => lc_go hg hw ht he (S.mono e1) R1 hD hz w p1 fun acc M' av Hd H' q ex R' hl ra => by
    have hF : F Dl = none := R1.fr.back hD
    have hd : Hd Dl = none := R'.df Dl _ upd_same
    have hH := R'.fr Dl _ upd_same
    have ex' : Ex Hd (upd Hd Dl (.lst av)) := Ex.new hd
    refine k (.lst acc) M' (.ref Dl) (upd Hd Dl (.lst av)) H' q ((e1.trans ex).trans ex') ?_ (.lst upd_same hl (ra.mono ex'))
    refine ⟨fun c u z => ?_, fun c u z => R'.fr c u (by rw [upd_ne (ne_of_none z hF)]; exact z), fun c u z => ?_, fun c u z => ?_⟩
    · by_cases y : c = Dl
      · subst y; rw [upd_same] at z; cases z; exact hH
      · rw [upd_ne y] at z; exact R'.hc c u z
    · obtain ⟨h1, h2, h3⟩ := R'.mo c u z
      have y : c ≠ Dl := fun y => by rw [y, upd_same] at h2; cases h2
      rw [upd_ne y] at h2
      exact ⟨by rw [upd_ne y]; exact h1, h2, h3.mono ex' rfl⟩
    · have y : c ≠ Dl := ne_of_none z hF
      rw [upd_ne y]
      exact R'.df c u (by rw [upd_ne y]; exact z)
theorem se_lcM {K : PySem.W.Frag} {vs : List Nat} {wi : TI} {mi : IT} {g : TG} {gm : GT} {tt : L2.TT} {tm : TT} {te : TE} {me : ET} (hi : SI K wi mi) (hg : SG K g gm) (hw : Wp vs g) (ht : STt K tt tm) (he : SE K te me) : SE K (tLc wi g tt te vs) (mLcM mi gm vs tm me) := fun {σ ρ Hc M F H P Q} S R hm k =>
  hi S R hm fun xs M1 J Hc1 H1 p1 e1 R1 hz w Dl hD => lc_go hg hw ht he (S.mono e1) R1 hD hz w p1 fun acc M' av Hd H' q ex R' hl ra => by
    have hF : F Dl = none := R1.fr.back hD
    have hM : M' Dl = none := by
      cases z : M' Dl with
      | none => rfl
      | some u =>
        have h2 := (R'.mo Dl u z).2.1
        rw [upd_same] at h2; cases h2
    exact k (.ref Dl) _ (.ref Dl) Hd H' (q Dl hM) (e1.trans ex) (R'.unlock hF fun hH => ⟨av, hH, hl, ra⟩) (.ref Dl)
theorem je_lc {elt tg iter : Expr} {ifs : List Expr} {scope : Scope} {own : List (Str × Nat)} {wi : TI} {mi : IT} {g : TG} {gm : GT} {tt : L2.TT} {tm : TT} {te : TE} {me : ET} (hc : X.calm = true) (hN : X.N.Nodup) (hi : JI K X tg iter wi mi) (ok : BlkOk X.N X.env.scope scope own)
    (hg : ∀ (s : Shared) (H : Hp) (C : Addr) (cl : List (Str × Addr)) (fp : List Addr), JC K (X.blk s H scope (compEnvC scope cl C X.env) fp) (own.map (·.2)) tg g gm) (ht : ∀ (s : Shared) (H : Hp) (C : Addr) (cl : List (Str × Addr)) (fp : List Addr), JTs K (X.blk s H scope (compEnvC scope cl C X.env) fp) ifs tt tm)
    (he : ∀ (s : Shared) (H : Hp) (C : Addr) (cl : List (Str × Addr)) (fp : List Addr), JE K (X.blk s H scope (compEnvC scope cl C X.env) fp) elt te me) (hs : ∀ x, foldedSetIterable iter X.env x = pure x := by intro _; rfl) :
    JE K X (.ListComp elt [⟨tg, iter, ifs, 0⟩] scope pos) (tLc wi g tt te (own.map (·.2))) (mLc mi gm (own.map (·.2)) tm me) :=
  ⟨pe_lc hc hN hi.pe ok (fun s H C cl fp => (hg s H C cl fp).pe) (fun s H C cl fp => (ht s H C cl fp).pe) (fun s H C cl fp => (he s H C cl fp).pe) hs, se_lc hi.se (hg X.s_0 (fun _ => none) 0 [] []).se (hg X.s_0 (fun _ => none) 0 [] []).wp (ht X.s_0 (fun _ => none) 0 [] []).se (he X.s_0 (fun _ => none) 0 [] []).se⟩
theorem je_lcM {elt tg iter : Expr} {ifs : List Expr} {scope : Scope} {own : List (Str × Nat)} {wi : TI} {mi : IT} {g : TG} {gm : GT} {tt : L2.TT} {tm : TT} {te : TE} {me : ET} (hc : X.calm = true) (hN : X.N.Nodup) (hi : JI K X tg iter wi mi) (ok : BlkOk X.N X.env.scope scope own)
    (hg : ∀ (s : Shared) (H : Hp) (C : Addr) (cl : List (Str × Addr)) (fp : List Addr), JC K (X.blk s H scope (compEnvC scope cl C X.env) fp) (own.map (·.2)) tg g gm) (ht : ∀ (s : Shared) (H : Hp) (C : Addr) (cl : List (Str × Addr)) (fp : List Addr), JTs K (X.blk s H scope (compEnvC scope cl C X.env) fp) ifs tt tm)
    (he : ∀ (s : Shared) (H : Hp) (C : Addr) (cl : List (Str × Addr)) (fp : List Addr), JE K (X.blk s H scope (compEnvC scope cl C X.env) fp) elt te me) (hs : ∀ x, foldedSetIterable iter X.env x = pure x := by intro _; rfl) :
    JE K X (.ListComp elt [⟨tg, iter, ifs, 0⟩] scope pos) (tLc wi g tt te (own.map (·.2))) (mLcM mi gm (own.map (·.2)) tm me) :=
  ⟨pe_lc hc hN hi.pe ok (fun s H C cl fp => (hg s H C cl fp).pe) (fun s H C cl fp => (ht s H C cl fp).pe) (fun s H C cl fp => (he s H C cl fp).pe) hs, se_lcM hi.se (hg X.s_0 (fun _ => none) 0 [] []).se (hg X.s_0 (fun _ => none) 0 [] []).wp (ht X.s_0 (fun _ => none) 0 [] []).se (he X.s_0 (fun _ => none) 0 [] []).se⟩
/-- name = [..] on one line -/
theorem js_setLc {i : Nat} {y : Str} {py : Pos} {spos : Pos} {elt tg iter : Expr} {ifs : List Expr} {scope : Scope} {own : List (Str × Nat)} {wi : TI} {mi : IT} {g : TG} {gm : GT} {tt : L2.TT} {tm : TT} {te : TE} {me : ET} (hc : X.calm = true) (hN : X.N.Nodup) (hy : X.N[i]? = some y) (hyl : X.env.scope.names.lookup y = some .local)
    (hsw : swapsWith (.ListComp elt [⟨tg, iter, ifs, 0⟩] scope pos) (some (.Name y py)) spos.line X.env = pure true) (hi : JI K X tg iter wi mi) (ok : BlkOk X.N X.env.scope scope own)
    (hg : ∀ (s : Shared) (H : Hp) (C : Addr) (cl : List (Str × Addr)) (fp : List Addr), JC K (X.blk s H scope (compEnvC scope cl C X.env) fp) (own.map (·.2)) tg g gm) (ht : ∀ (s : Shared) (H : Hp) (C : Addr) (cl : List (Str × Addr)) (fp : List Addr), JTs K (X.blk s H scope (compEnvC scope cl C X.env) fp) ifs tt tm)
    (he : ∀ (s : Shared) (H : Hp) (C : Addr) (cl : List (Str × Addr)) (fp : List Addr), JE K (X.blk s H scope (compEnvC scope cl C X.env) fp) elt te me) (hs : ∀ x, foldedSetIterable iter X.env x = pure x := by intro _; rfl) :
    JS K X (.Assign [.Name y py] (.ListComp elt [⟨tg, iter, ifs, 0⟩] scope pos) spos) (tAsg (tLc wi g tt te (own.map (·.2))) (gName i)) (sSet (mLc mi gm (own.map (·.2)) tm me) (gNm i)) :=
  ⟨ps_setLc hc hN hy hyl hsw hi.pe ok (fun s H C cl fp => (hg s H C cl fp).pe) (fun s H C cl fp => (ht s H C cl fp).pe) (fun s H C cl fp => (he s H C cl fp).pe) hs, ss_asg (se_lc hi.se (hg X.s_0 (fun _ => none) 0 [] []).se (hg X.s_0 (fun _ => none) 0 [] []).wp (ht X.s_0 (fun _ => none) 0 [] []).se (he X.s_0 (fun _ => none) 0 [] []).se) (sg_name i)⟩
end
end DL
end
section
/-! DL: the rules, 5: methods of lists, the rest, defs -/
namespace DL
open PySem PySem.Spec PyProof.Rows L2
section
variable {X : Cx} {K : PySem.W.Frag} {e a b o : Expr} {es : List Expr} {t ta tb to : TE} {m ma mb mo : ET} {pos apos cpos : Pos} {tr : TA} {mr : AT} {x : Str} {p : Pos}
/-! ### methods of lists -/
end
section
variable {X : Cx} {K : PySem.W.Frag} {e a b o : Expr} {es : List Expr} {t ta tb to : TE} {m ma mb mo : ET} {pos apos cpos : Pos} {tr : TA} {mr : AT} {x : Str} {p : Pos}
theorem se_bl {K : PySem.W.Frag} {r : V → List V → Hp → VK → Prop} {rm : D → List D → MM → PQ → Prop} (hr : SM K r rm) (ho : SE K to mo) (ha : SA K tr mr) : SE K (tBM K "list" r to tr) (mBL rm mo mr) := fun {σ ρ Hc M F H P Q} S R h k =>
  ho S R h fun x M1 u Hc1 H1 p1 e1 R1 r1 => by
    obtain ⟨h1, h2⟩ := p1
    obtain ⟨xs, h1⟩ := Option.isSome_iff_exists.mp h1
    obtain ⟨p, vs, rfl, h3, h4, h5⟩ := asL_ok R1 r1 h1
    exact ⟨.inl ⟨rfl, vs, SqL.of h3⟩, ha (S.mono e1) R1 h2 fun ds M2 us Hc2 H2 p2 e2 R2 r2 => hr R2 (r1.mono e2) r2 p2 fun d M' v Hc' H' q e' R' r' => k d M' v Hc' H' q ((e1.trans e2).trans e') R' r'⟩
theorem je_lm {name : Str} {id : String} {r : V → List V → Hp → VK → Prop} {rm : D → List D → MM → PQ → Prop} (slot : Slot "list" name id) (hty : typeOf (.builtin id) = pure (.type "method_descriptor")) (hm : MtR X id r) (hr : SM K r rm) (ho : JE K X o to mo) (ha : JA K X (e :: es) tr mr)
    (hbase : attributeBase o name X.env (eval o X.env) = eval o X.env := by rfl)
    (hfew : ((backTo cpos (starEach (e :: es) X.env)).all (fun x => !x.1) && (backToKw cpos (keywordEach [] X.env)).all (fun x => x.1.isSome)
      && decide ((e :: es).length + ([] : List Keyword).length + (if ([] : List Keyword).isEmpty then 0 else 1) < 30)) = true := by rfl)
    (hline : (apos.endLine == cpos.line) = true := by rfl) (hs : starEach (e :: es) X.env = (false, eval e X.env) :: starEach es X.env := by rfl) (hplain : (backTo cpos (starEach es X.env)).any (·.1) = false := by rfl) (hK : X.K = K := by rfl) :
    JE K X (.Call (.Attribute o name apos) (e :: es) [] cpos) (tBM K "list" r to tr) (mBL rm mo mr) := by
  subst hK
  exact ⟨pe_bm PySem.F.plainAttrs_list slot hty hm ho.pe ha.pe hbase hfew hline hs hplain, se_bl hr ho.se ha.se⟩
theorem sm_app {K : PySem.W.Frag} : SM K rAppend mAppend := fun {Hc M F H P Q x dx xs ds} R rx rs h k => by
  unfold mAppend at h
  split at h
  · rename_i a d
    split at h
    · rename_i ys ey
      obtain ⟨v, rfl, rv⟩ := one_of rs
      cases rx
      obtain ⟨_, _, vs, h1, h2, h3⟩ := R.mo _ _ ey
      have hl := h3.length
      exact ⟨a, vs, v, rfl, rfl, h1, szLt (by omega), k _ _ _ _ _ h.2 (Ex.refl _) (R.setLst ey (h3.append (.cons rv .nil)) (by rw [List.length_append]; exact szBig (by show vs.length + 1 ≤ _; have := h.1; omega))) .non⟩
    · exact h.elim
  · exact h.elim
theorem sm_ext {K : PySem.W.Frag} : SM K rExtend mExtend := fun {Hc M F H P Q x dx xs ds} R rx rs h k => by
  unfold mExtend at h
  split at h
  · rename_i a d
    split at h
    · rename_i ys zs ey ez
      obtain ⟨v, rfl, rv⟩ := one_of rs
      obtain ⟨p, ws, rfl, g1, g2, g3⟩ := asL_ok R rv ez
      cases rx
      obtain ⟨_, _, vs, h1, h2, h3⟩ := R.mo _ _ ey
      have hl := h3.length
      have gl := g3.length
      exact ⟨a, p, vs, ws, rfl, rfl, h1, g1, szBig (by omega), k _ _ _ _ _ h.2 (Ex.refl _) (R.setLst ey (h3.append g3) (by rw [List.length_append]; exact szBig (by omega))) .non⟩
    · exact h.elim
  · exact h.elim
theorem sm_ins {K : PySem.W.Frag} : SM K (fun x vs H Q => ∃ (l : Addr) (xs : List V) (i : Int) (y : V), x = .ref l ∧ vs = [.int i, y] ∧ H l = some (.lst xs) ∧ xs.length < sizeLine ∧ 0 ≤ i ∧ i < 2 ^ 63 ∧ Q .non (upd H l (.lst (xs.take i.toNat ++ [y] ++ xs.drop i.toNat)))) mInsert := fun {Hc M F H P Q x dx xs ds} R rx rs h k => by
  unfold mInsert at h
  split at h
  · rename_i a i d
    split at h
    · rename_i ys ey
      cases rs with
      | cons r1 rt =>
        cases r1
        obtain ⟨v, rfl, rv⟩ := one_of rt
        cases rx
        obtain ⟨_, _, vs, h1, h2, h3⟩ := R.mo _ _ ey
        have hl := h3.length
        obtain ⟨g1, g2, g3, g4⟩ := h
        have g3 : i < 100000 := g3
        refine ⟨a, vs, i, v, rfl, rfl, h1, szLt (by omega), g2, by omega, k _ _ _ _ _ g4 (Ex.refl _) (R.setLst ey (((h3.take _).append (.cons rv .nil)).append (h3.drop _)) ?_) .non⟩
        simp only [List.length_append, List.length_take, List.length_drop, List.length_cons, List.length_nil]
        exact szBig (by omega)
    · exact h.elim
  · exact h.elim
theorem eqV_int (i : Int) (n : Int) : eqV (.int n) (.int i) = (n == i) := rfl
theorem sm_idx {K : PySem.W.Frag} : SM K (rIndex K) mIndex := fun {Hc M F H P Q x dx xs ds} R rx rs h k => by
  unfold mIndex at h
  split at h
  · rename_i ns i en
    obtain ⟨v, rfl, rv⟩ := one_of rs
    cases rv
    obtain ⟨ys, e1, e2⟩ := Option.bind_eq_some_iff.mp en
    obtain ⟨p, vs, rfl, g1, g2, g3⟩ := asL_ok R rx e1
    have e3 := g3.ints e2
    subst e3
    obtain ⟨j, h1, h2, h3⟩ := h
    refine ⟨p, _, .int i, j, .int i, rfl, rfl, SqL.of g1, rfl, flat_ints ns, by rw [List.getElem?_map, h1]; rfl, by rw [eqV_int, beq_self_eq_true], fun m z hm hz => ?_, k _ _ _ _ _ h3 (Ex.refl _) R (.int _)⟩
    rw [List.getElem?_map] at hz
    cases q : ns[m]? with
    | none => rw [q] at hz; cases hz
    | some n =>
      rw [q] at hz
      cases hz
      rw [eqV_int]
      refine beq_eq_false_iff_ne.mpr fun e => h2 m hm ?_
      rw [q, e]
  · exact h.elim
/-! ### the script, a test of a tuple, ranges, sets -/
theorem sc_scr {K : PySem.W.Frag} : SC K (fun xs H Q => ∃ p ys, xs = [.ref p] ∧ (SqL K H p ys ∨ SqT K H p ys) ∧ ∀ l, H l = none → Q (.ref l) (upd H l (.lst ys))) fScr := fun {Hc M F H P Q xs ds} R r h k => by
  unfold fScr at h
  split at h
  · rename_i ns
    obtain ⟨v, rfl, rv⟩ := one_of r
    cases rv with
    | scr q l =>
      have ri : ∀ ns : List Int, RpAll K Hc (ns.map V.int) (ns.map D.int) := fun ns => by
        induction ns with
        | nil => exact .nil
        | cons n r ih => exact .cons (.int n) ih
      exact ⟨_, _, rfl, .inl (ex_sqL R.hc q), fun l' hl => k _ _ _ _ _ (h l' (R.nM hl)) (Ex.refl _) (R.newM hl (ri ns) (by rw [List.length_map]; exact szBig (by show ns.length ≤ 100000; omega))) (.ref l')⟩
  · exact h.elim
theorem je_listScr (hg : Gl X "list") (hm : X.mg "list" = none) (ha : JA K X (e :: es) tr mr) (he : starEach (e :: es) X.env = (false, eval e X.env) :: starEach es X.env := by rfl) (hpl : (backTo pos (starEach es X.env)).any (·.1) = false := by rfl) (hK : X.K = K := by rfl) : JE K X (.Call (.Name "list" p) (e :: es) [] pos) (tCB (fun xs H Q => ∃ p ys, xs = [.ref p] ∧ (SqL K H p ys ∨ SqT K H p ys) ∧ ∀ l, H l = none → Q (.ref l) (upd H l (.lst ys))) tr) (mCB fScr mr) := by
  subst hK
  exact je_cty call_list_of sc_scr hg hm (by decide +kernel) ha (he := he) (hpl := hpl)
theorem tyX_tup {K : PySem.W.Frag} {H : Hp} {a : Addr} {xs : List V} (h : SqT K H a xs) : TyX K H (.ref a) (.type "tuple") := by
  rcases h with (h | ⟨o, h⟩) | ⟨o, its, n, h1, h2, _⟩
  · exact .base (.tup h)
  · exact .fTuple h
  · exact .kTuple h1 h2
/-- isinstance(d, tuple) of a tuple, or of None -/
theorem je_isTup {a2 : Expr} (hg : Gl X "isinstance") (hm : X.mg "isinstance" = none) (hg2 : Gl X "tuple") (hm2 : X.mg "tuple" = none) {p2 : Pos} (ha : JE K X e t m) (he : starEach [e, .Name "tuple" p2] X.env = (false, eval e X.env) :: starEach [.Name "tuple" p2] X.env := by rfl) (hpl : (backTo pos (starEach [.Name "tuple" p2] X.env)).any (·.1) = false := by rfl) (hs2 : starEach [.Name "tuple" p2] X.env = (false, eval (.Name "tuple" p2) X.env) :: starEach [] X.env := by rfl) (hK : X.K = K := by rfl) :
    JE K X (.Call (.Name "isinstance" p) [e, .Name "tuple" p2] [] pos) (tCB (rIsi K) (tCons t (tCons (tC (.ty "tuple")) tNil))) (mCB fIsTup (aCons m aNil)) := by
  subst hK
  exact ⟨pe_callB call_isi hg hm (by decide +kernel) (pa_cons ha.pe (pa_cons (pe_bltn hg2 hm2 (by decide +kernel) rfl) pa_nil (hs := hs2)) (hs := he)) (he := he) (hpl := hpl), fun {σ ρ Hc M F H P Q} S R hm k => ha.se S R hm fun d M1 u Hc1 H1 p1 e1 R1 r1 => by
    cases r1 with
    | tup q l r => exact ⟨_, .ty "tuple", .type "tuple", .type "tuple", true, rfl, .ty "tuple", tyX_tup (ex_sqT R1.hc q), if_pos (beq_self_eq_true _), k _ _ _ _ _ p1 e1 R1 (.bl true)⟩
    | _ => exact p1.elim⟩
theorem cr_rng1 : CallR X (.type "range") (fun vs H Q => ∃ j, vs = [V.int j] ∧ ∀ p, H p = none → Q (.ref p) (upd H p (.rng 0 j))) := by
  intro pins s σ H vs us Q I r h
  obtain ⟨j, rfl, q⟩ := h
  obtain ⟨u2, rfl, rj⟩ := vals1 r
  obtain ⟨t, rfl⟩ := rj
  refine call_range_1 ⟨.ref s.heap.objs.size, upd H s.heap.objs.size (.rng 0 j), I.laid (t' := s.toks + 2) (fun b o e => Heap.get?_push_of_some _ e) (Nat.le_refl _) ?_, rfl, q _ (I.hok.fresh (Nat.le_refl _))⟩
  exact ⟨_, _, _, Heap.get?_push_size _ rfl⟩
theorem op_notin_rng : OpR X (compareOp .NotIn) (fun x y H Q => ∃ i a lo hi, x = V.int i ∧ y = V.ref a ∧ H a = some (.rng lo hi) ∧ Q (.bl (!(decide (lo ≤ i ∧ i < hi)))) H) := by
  intro pins s σ H x y v u Q I rx ry h
  obtain ⟨i, a, lo, hi, rfl, rfl, ha, q⟩ := h
  obtain ⟨k, rfl⟩ := rx
  obtain rfl : u = Value.ref a := ry
  obtain ⟨t1, t2, t3, ho⟩ := I.hok a _ ha
  show wpAny _ _ (do return Value.bool (!(← contains (Value.ref a) (Value.int i k)))) _ _ s
  refine wpAny_bind (wpAny_contains_slot (T := "range") ⟨_, ho, rfl⟩ F.slot_range_contains (call_meets F.slot_range_contains ⟨_, ho, rfl⟩ F.entry_range_contains (F.args_range_contains_2 _ _) (q_contains a lo hi i t1 t2 t3 k)
    ⟨ho, wpAny_truthy_bool (wpAny_pure ⟨.bl _, H, I, rfl, ?_⟩)⟩))
  rw [place1]
  exact q
theorem je_notInRng {p2 q2 : Pos} (ha : JE K X a ta ma) (hb : JE K X b tb mb) (hg : Gl X "range") (hm : X.mg "range" = none) (hs : starEach [b] X.env = (false, eval b X.env) :: starEach [] X.env := by rfl) (hpl : (backTo q2 (starEach [] X.env)).any (·.1) = false := by rfl) :
    JE K X (.Compare a [.NotIn] [.Call (.Name "range" p2) [b] [] q2] pos) (tOp (fun x y H Q => ∃ i a lo hi, x = V.int i ∧ y = V.ref a ∧ H a = some (.rng lo hi) ∧ Q (.bl (!(decide (lo ≤ i ∧ i < hi)))) H) ta (tCB (fun vs H Q => ∃ j, vs = [V.int j] ∧ ∀ p, H p = none → Q (.ref p) (upd H p (.rng 0 j))) (tCons tb tNil))) (mBin bNotRng ma mb) :=
  ⟨pe_cmpR op_notin_rng ha.pe (pe_callTy cr_rng1 hg hm (by decide +kernel) (pa_cons hb.pe pa_nil (hs := hs)) (he := hs) (hpl := hpl)) (by rfl), fun {σ ρ Hc M F H P Q} S R h k =>
    ha.se S R h fun x M1 u Hc1 H1 p1 e1 R1 r1 => hb.se (S.mono e1) R1 p1 fun y M2 w Hc2 H2 p2 e2 R2 r2 => by
      have r1' := r1.mono e2
      cases r1' with
      | int i =>
        cases r2 with
        | int n =>
          refine ⟨n, rfl, fun q hq => ⟨i, q, 0, n, rfl, rfl, upd_same, ?_⟩⟩
          have ex : Ex Hc2 (upd Hc2 q (.rng 0 n)) := Ex.new (R2.hc.back hq)
          exact k _ _ _ _ _ p2 ((e1.trans e2).trans ex) (R2.new hq) (.bl _)
        | _ => exact p2.elim
      | _ => cases y <;> exact p2.elim⟩
/-! sorted(set(xs)) -/
theorem pair_vals {K : PySem.W.Frag} {Hc : Hp} : ∀ {ps : List (Int × Int)} {vs : List V}, RpAll K Hc vs (ps.map pairD) → ∃ ks : List (Addr × List Int), vs = ks.map (fun q => V.ref q.1) ∧ ks.map (·.2) = ps.map (fun q => [q.1, q.2]) ∧ ∀ q ∈ ks, SqT K Hc q.1 (q.2.map V.int)
  | [], _, .nil => ⟨[], rfl, rfl, fun _ h => by cases h⟩
  | p :: ps, _, .cons h t => by
    obtain ⟨ks, h1, h2, h3⟩ := pair_vals t
    cases h with
    | @tup a xs ds q l r =>
      cases r with
      | cons r1 r =>
        cases r with
        | cons r2 r =>
          cases r
          cases r1
          cases r2
          refine ⟨(a, [p.1, p.2]) :: ks, by rw [h1]; rfl, by show [p.1, p.2] :: _ = _; rw [h2]; rfl, fun q' hq => ?_⟩
          rcases List.mem_cons.mp hq with e | hq
          · subst e; exact q
          · exact h3 q' hq
theorem sorted_same {B : Int} : ∀ {ks L : List (Addr × List Int)}, (ks.Pairwise fun p q => TS.code B p.2 < TS.code B q.2) → (L.Pairwise fun p q => TS.code B p.2 ≤ TS.code B q.2) → (L.map (·.2)).Nodup → (∀ p ∈ L, p ∈ ks) → (∀ p ∈ ks, p.2 ∈ L.map (·.2)) → L = ks
  | [], L, _, _, _, h1, _ => by
    cases L with
    | nil => rfl
    | cons p r => exact absurd (h1 p List.mem_cons_self) (by simp)
  | k :: ks, [], _, _, _, _, h2 => absurd (h2 k List.mem_cons_self) (by simp)
  | k :: ks, l :: L, hk, hl, hn, h1, h2 => by
    obtain ⟨k1, k2⟩ := List.pairwise_cons.mp hk
    obtain ⟨l1, l2⟩ := List.pairwise_cons.mp hl
    obtain ⟨n1, n2⟩ := List.nodup_cons.mp (show (l.2 :: L.map (·.2)).Nodup from hn)
    have e : l = k := by
      rcases List.mem_cons.mp (h1 l List.mem_cons_self) with e | e
      · exact e
      · have a := k1 l e
        obtain ⟨q, hq, eq⟩ := List.mem_map.mp (h2 k List.mem_cons_self)
        rcases List.mem_cons.mp hq with z | z
        · rw [z] at eq
          have eq : l.2 = k.2 := eq
          rw [eq] at a
          exact absurd a (Int.lt_irrefl _)
        · have b := l1 q z
          have eq : q.2 = k.2 := eq
          rw [eq] at b
          exact absurd (Int.lt_of_lt_of_le a b) (Int.lt_irrefl _)
    subst e
    rw [sorted_same k2 l2 n2 (fun p hp => ?_) fun p hp => ?_]
    · rcases List.mem_cons.mp (h1 p (List.mem_cons_of_mem _ hp)) with z | z
      · exact absurd (List.mem_map.mpr ⟨p, hp, by rw [z]⟩) n1
      · exact z
    · rcases List.mem_cons.mp (h2 p (List.mem_cons_of_mem _ hp)) with z | z
      · have a := k1 p hp
        rw [z] at a
        exact absurd a (Int.lt_irrefl _)
      · exact z
theorem je_sortSet {q1 q2 p2 : Pos} (hc : X.calm = true) (hu : X.A.units + 65 < cLine) (hg : Gl X "sorted") (hm : X.mg "sorted" = none) (hg2 : Gl X "set") (hm2 : X.mg "set" = none) (ha : JE K X a ta ma)
    (hs : starEach [a] X.env = (false, eval a X.env) :: starEach [] X.env := by rfl) (hpl : (backTo q2 (starEach [] X.env)).any (·.1) = false := by rfl)
    (hs2 : starEach [.Call (.Name "set" q1) [a] [] q2] X.env = (false, eval (.Call (.Name "set" q1) [a] [] q2) X.env) :: starEach [] X.env := by rfl) (hpl2 : (backTo pos (starEach [] X.env)).any (·.1) = false := by rfl) (hK : X.K = K := by rfl) :
    JE K X (.Call (.Name "sorted" p2) [.Call (.Name "set" q1) [a] [] q2] [] pos) (tCB (rSortedT K X.prog X.w) (tCons (tCB (rSetOfT K X.prog X.w) (tCons ta tNil)) tNil)) (mUn uSortSet ma) := by
  subst hK
  exact ⟨pe_callB (cr_sortedT hc) hg hm (by decide +kernel) (pa_cons (pe_callTy (cr_setOfT hc (by omega)) hg2 hm2 (by decide +kernel) (pa_cons ha.pe pa_nil (hs := hs)) (he := hs) (hpl := hpl)) pa_nil (hs := hs2)) (he := hs2) (hpl := hpl2), fun {σ ρ Hc M F H P Q} S R h k =>
    ha.se S R h fun x M1 u Hc1 H1 p1 e1 R1 r1 => by
      obtain ⟨ps, rfl, h64, ⟨hb, hr⟩, p1⟩ := p1
      cases r1 with
      | @lst l vs ds q lz r =>
        obtain ⟨ks, g1, g2, g3⟩ := pair_vals r
        subst g1
        have hlen : ks.length = ps.length := by
          have z := congrArg List.length g2
          rw [List.length_map, List.length_map] at z
          exact z
        refine ⟨l, ks, rfl, SqL.of (R1.hc _ _ q), fun p hp => ex_sqT R1.hc (g3 p hp), by omega, fun a2 L hn2 hL1 hL2 => ?_⟩
        have ex1 : Ex Hc1 (upd Hc1 a2 (SetTO X.prog X.w a2 L)) := Ex.new (R1.hc.back hn2)
        have R2 := R1.new (o := SetTO X.prog X.w a2 L) hn2
        have bd : ∀ p ∈ ks, p.2.length = 2 ∧ TS.Bd 64 p.2 := fun p hp => by
          have z : p.2 ∈ ps.map fun q => [q.1, q.2] := g2 ▸ List.mem_map.mpr ⟨p, hp, rfl⟩
          obtain ⟨w, hw, ew⟩ := List.mem_map.mp z
          have b := hb w hw
          refine ⟨by rw [← ew]; rfl, fun m hm => ?_⟩
          rw [← ew] at hm
          simp at hm
          rcases hm with z | z
          · subst z; exact b.1
          · subst z; exact b.2
        refine ⟨a2, L, 2, 64, rfl, upd_same, fun p hp => ex_sqT (ex1.trans R2.hc) (g3 p (hL1 p hp)), by omega, fun p hp => bd p (hL1 p hp), fun L' p2 perm nd few pw hn3 => ?_⟩
        have strict : ks.Pairwise fun p q => TS.code 64 p.2 < TS.code 64 q.2 := by
          have z : (ks.map (·.2)).Pairwise fun p q => TS.code 64 p < TS.code 64 q := by
            rw [g2, List.pairwise_map]
            refine hr.imp_of_mem fun {a b} ha hb' hab => ?_
            rw [code_pair, code_pair]
            have b1 := hb a ha
            have b2 := hb b hb'
            omega
          exact (List.pairwise_map (R := fun p q => TS.code 64 p < TS.code 64 q) (f := fun x : Addr × List Int => x.2)).mp z
        have eL : L' = ks := sorted_same strict pw nd (fun p hp => hL1 p (perm.mem_iff.mp hp)) fun p hp => (perm.map (·.2)).mem_iff.mpr (hL2 p hp)
        subst eL
        have ex2 : Ex (upd Hc1 a2 (SetTO X.prog X.w a2 L)) (upd (upd Hc1 a2 (SetTO X.prog X.w a2 L)) p2 (.lst (L'.map fun q => V.ref q.1))) := Ex.new (R2.hc.back hn3)
        exact k _ _ _ _ _ p1 ((e1.trans ex1).trans ex2) (R2.new hn3) (.lst upd_same lz (r.mono (ex1.trans ex2)))
      | _ => exact (by contradiction)⟩
end
end DL
end
section
/-! DL: the rules, 6: two clauses, a locked walk, attributes, defs -/
namespace DL
open PySem PySem.Spec PyProof.Rows L2
section
variable {X : Cx} {K : PySem.W.Frag} {e a b o : Expr} {es : List Expr} {t ta tb to : TE} {m ma mb mo : ET} {pos apos cpos : Pos} {tr : TA} {mr : AT} {x : Str} {p : Pos}
/-- a walk over a mutable list -/
theorem js_forL {iter tg : Expr} {body : List Stmt} {g : TG} {gm : GT} {tb : TS} {mb : ST} (hp : PassesOwn (model X.prog X.w) X.A X.env X.xe) (hc : X.calm = true) (hi : JE K X iter t m) (hg : JG K X tg g gm) (hb : JB K X body tb mb) (hs : ∀ x, foldedSetIterable iter X.env x = pure x := by intro _; rfl) (hK : X.K = K := by rfl) :
    JS K X (.For tg iter body [] pos) (tFor (iList K t) g tb) (sForL m gm mb) := by
  subst hK
  exact ⟨ps_for hp hc (pi_list hi.pe) hg.pe hb.pe (hs := hs), fun {σ ρ Hc M F H G E} S R fo hm => hi.se S R hm fun d M1 u Hc1 H1 p1 e1 R1 r1 => by
  split at p1
  · rename_i a
    split at p1
    · rename_i xs ex
      cases r1
      obtain ⟨hca, hfa, vs, h1, h2, h3⟩ := R1.mo _ _ ex
      have hl := h3.length
      obtain ⟨I, i0, step, done⟩ := p1
      have RL := R1.lock ex h1
      have back : ∀ {Hd M' H'}, Ex Hc1 Hd → Rel X.K Hd M' (upd F a (.lst vs)) H' → Rel X.K Hd (M'.upd a (.lst xs)) F H' := fun ex R' => R'.unlock hfa fun hH => ⟨vs, hH, h2, h3.mono ex⟩
      refine ⟨a, rfl, ⟨vs, SqL.of h1⟩, ?_⟩
      refine for_it (walk_list (K := X.K) (a := a) (xs := vs)) (fun i σ' H' => ∃ ρ' M' Hd, Ex Hc1 Hd ∧ Slots X.K Hd σ' ρ' ∧ Rel X.K Hd M' (upd F a (.lst vs)) H' ∧ I i ρ' M') ⟨ρ, _, Hc1, Ex.refl _, S.mono e1, RL, i0⟩ (fun i σ' H' _ ⟨ρ', M', Hd, ex, _, R', _⟩ => SqL.of (R'.fr a _ upd_same)) (fun i v σ' H' H2 hi' ⟨ρ', M', Hd, exd, S', R', q⟩ y => ?_) (fun σ' H' ⟨ρ', M', Hd, exd, S', R', q⟩ => ?_)
      · obtain ⟨y1, y2⟩ := y
        subst y1
        obtain ⟨d, hd, rd⟩ := h3.get' y2
        refine hg.se S' R' (rd.mono exd) (step i d ρ' M' hd q) fun ρ2 M2 σ2 Hc2 H2' q2 ex2 S2 R2 => ?_
        refine hb.se (G := { nx := I (i + 1), ct := I (i + 1), bk := fun ρ' M' => G.nx ρ' (M'.upd a (.lst xs)), rt := fun v M' => G.rt v (M'.upd a (.lst xs)) }) S2 R2 ⟨fun ρ3 M3 σ3 Hc3 H3 g3 ex3 S3 R3 => ⟨ρ3, M3, Hc3, (exd.trans ex2).trans ex3, S3, R3, g3⟩, fun d M3 v Hc3 H3 g3 ex3 R3 r3 => fo.rt _ _ _ _ _ g3 (((e1.trans exd).trans ex2).trans ex3) (back ((exd.trans ex2).trans ex3) R3) r3,
          fun ρ3 M3 σ3 Hc3 H3 g3 ex3 S3 R3 => fo.nx _ _ _ _ _ g3 (((e1.trans exd).trans ex2).trans ex3) S3 (back ((exd.trans ex2).trans ex3) R3), fun ρ3 M3 σ3 Hc3 H3 g3 ex3 S3 R3 => ⟨ρ3, M3, Hc3, (exd.trans ex2).trans ex3, S3, R3, g3⟩⟩ q2
      · rw [hl] at q
        exact fo.nx _ _ _ _ _ (done ρ' M' q) (e1.trans exd) S' (back exd R')
    · exact p1.elim
  · exact p1.elim⟩
/-- self.a, self.b = a tuple -/
theorem pg_fld {C : Addr} {g : Str} {to : TE} (c : Cls X.K C) (n : NoAttr X.K C g) (ho : PE X o to) : PG X (.Attribute o g pos) (fun v σ H Q => to σ H fun x H2 => ∃ a dx fs, x = .ref a ∧ H2 a = some (.ins C dx fs) ∧ fs.length < 1000 ∧ Q σ (upd H2 a (.ins C dx (putF g v fs)))) := by
  refine ⟨fun pins s σ H v u Q I r h => ?_⟩
  rw [assign_Attribute]
  refine wpAny_bind (wpAny_holding (thn (ho.run pins s σ H _ I h) fun ov s1 ⟨x, H1, I1, r1, a, dx, fs, ex, ea, hl, q1⟩ => ?_))
  subst ex
  obtain rfl : ov = Value.ref a := r1
  refine wpAny_bind (wpAny_standAt (wpAny_bind (wpAny_holding (setattr_ok I1 ea c n hl r fun s3 I3 => ?_))))
  exact wpAny_release ⟨σ, _, I3, q1⟩
theorem jg_fld {C : Addr} {g : Str} (c : Cls K C) (n : NoAttr K C g) (ho : JE K X o to mo) (hK : X.K = K := by rfl) : JG K X (.Attribute o g pos) (fun v σ H Q => to σ H fun x H2 => ∃ a dx fs, x = .ref a ∧ H2 a = some (.ins C dx fs) ∧ fs.length < 1000 ∧ Q σ (upd H2 a (.ins C dx (putF g v fs)))) (gFld C g mo) := by
  subst hK
  exact ⟨pg_fld c n ho.pe, fun {σ ρ Hc M F H P Q v d} S R r hm k => ho.se S R hm fun x M1 u Hc1 H1 p1 e1 R1 r1 => setF_ok (Q := Q σ) R1 r1 (r.mono e1) p1 fun M' H' q R' => k _ _ _ _ _ q e1 (S.mono e1) R'⟩
theorem jg_tup2 {e1 e2 : Expr} {k : Nat} {t1 t2 : TG} {m1 m2 : GT} (hc : X.calm = true) (h1 : JG K X e1 t1 m1) (h2 : JG K X e2 t2 m2) (hs : (assignEach [e1, e2] X.env).map (·.2) = assign e1 X.env :: (assignEach [e2] X.env).map (·.2) := by rfl) (hs2 : (assignEach [e2] X.env).map (·.2) = assign e2 X.env :: (assignEach [] X.env).map (·.2) := by rfl)
    (hn : (assignEach [e1, e2] X.env).length = 2 := by rfl) (hst : (assignEach [e1, e2] X.env).findIdx? (·.1) = none := by rfl) (hK : X.K = K := by rfl) : JG K X (.Tuple [e1, e2] k pos) (gTup K 2 (gCons t1 (gCons t2 gNil))) (gTp2 m1 m2) := by
  subst hK
  exact ⟨pg_tup hc (pgs_cons h1.pe (pgs_cons h2.pe pgs_nil hs2) hs) hn hst, fun {σ ρ Hc M F H P Q v d} S R r hm k => by
    unfold gTp2 at hm
    split at hm
    · rename_i x y
      cases r with
      | tup q l r =>
        cases r with
        | cons r1 r =>
          cases r with
          | cons r2 r =>
            cases r
            refine ⟨_, _, rfl, ex_sqT R.hc q, rfl, _, _, rfl, h1.se S R r1 hm fun ρ1 M1 σ1 Hc1 H1 p1 ex1 S1 R1 => ⟨_, _, rfl, h2.se S1 R1 (r2.mono ex1) p1 fun ρ2 M2 σ2 Hc2 H2 p2 ex2 S2 R2 => ⟨rfl, k _ _ _ _ _ p2 (ex1.trans ex2) S2 R2⟩⟩⟩
    · exact hm.elim⟩
/-- self.f op= e -/
theorem js_fldaug {C : Addr} {g : Str} {value : Expr} {op : Operator} {tv : TE} {mv : ET} {tpos : Pos} {rd : V → V → Hp → VK → Prop} {rm : R2} (c : Cls K C) (n : NoAttr K C g) (ho : JE K X o to mo) (hv : JE K X value tv mv) (hop : InOp X op rd) (hr : S2 K rd rm) (hK : X.K = K := by rfl) :
    JS K X (.AugAssign (.Attribute o g tpos) op value pos) (L2.sFldAug K to tv rd g) (sFldAug C g rm mo mv) := by
  subst hK
  exact ⟨ps_fldaug ho.pe hv.pe hop, fun {σ ρ Hc M F H G E} S R fo hm => ho.se S R hm fun x M1 u Hc1 H1 p1 e1 R1 r1 => by
  split at p1
  · rename_i y ey
    obtain ⟨p, dx, fs, w, h1, h2, h3, h4⟩ := fldOf_ok R1 r1 ey
    refine ⟨p, C, dx, fs, w, h1, h2, c, n, h3, hv.se (S.mono e1) R1 p1 fun z M2 vz Hc2 H2 p2 e2 R2 r2 => hr R2 (h4.mono e2) r2 p2 fun q M3 vq Hc3 H3 p3 e3 R3 r3 => ?_⟩
    obtain ⟨a, dx', fs', g1, g2, g3, g4⟩ := setF_ok (Q := fun H' => E.nx σ H') R3 (r1.mono (e2.trans e3)) r3 p3 fun M' H' q R' => fo.nx _ _ _ _ _ q ((e1.trans e2).trans e3) (S.mono ((e1.trans e2).trans e3)) R'
    have ea : a = p := V.ref.inj (g1.symm.trans h1)
    subst ea
    exact ⟨dx', fs', g2, g3, g4⟩
  · exact p1.elim⟩
/-- [e for a in xs for b in ys] -/
theorem se_lc2 {K : PySem.W.Frag} {vs vs1 : List Nat} {wi wi1 : TI} {mi mi1 : IT} {g g1 : TG} {gm gm1 : GT} {te : TE} {me : ET} (hi : SI K wi mi) (hg : SG K g gm) (hw : Wp vs g) (hi1 : SI K wi1 mi1) (hg1 : SG K g1 gm1) (hw1 : Wp vs1 g1) (he : SE K te me) :
    SE K (tLc2 wi g L2.tYes wi1 g1 L2.tYes te vs vs1) (mLc2 mi gm mi1 gm1 vs vs1 me) := fun {σ ρ Hc M F H P Q} S R hm k =>
  hi S R hm fun xs M1 J Hc1 H1 p1 e1 R1 hz w Dl hD => by
  obtain ⟨I, i0, step, done⟩ := p1
  have hF : F Dl = none := R1.fr.back hD
  have hH : Hc1 Dl = none := R1.hc.back hD
  have key : ∀ {Hd M av H aw}, Rel K Hd M (upd F Dl (.lst av)) H → Rel K Hd M (upd F Dl (.lst aw)) (upd H Dl (.lst aw)) := fun {Hd M av H aw} R' => by
    have hd : Hd Dl = none := R'.df Dl _ upd_same
    refine ⟨R'.hc.upd hd, fun c u q => ?_, fun c u q => ?_, fun c u q => ?_⟩
    · by_cases z : c = Dl
      · subst z; rw [upd_same] at q ⊢; exact q
      · rw [upd_ne z] at q ⊢
        exact R'.fr c u (by rw [upd_ne z]; exact q)
    · obtain ⟨h1, h2, h3⟩ := R'.mo c u q
      have z : c ≠ Dl := fun z => by rw [z, upd_same] at h2; cases h2
      rw [upd_ne z] at h2
      exact ⟨h1, by rw [upd_ne z]; exact h2, h3.mono (Ex.refl _) (upd_ne z)⟩
    · by_cases z : c = Dl
      · subst z; exact hd
      · rw [upd_ne z] at q
        exact R'.df c u (by rw [upd_ne z]; exact q)
  have start : Rel K Hc1 M1 (upd F Dl (.lst [])) (upd H1 Dl (.lst [])) := by
    refine ⟨R1.hc.upd hH, fun c u q => ?_, fun c u q => ?_, fun c u q => ?_⟩
    · by_cases z : c = Dl
      · subst z; rw [upd_same] at q ⊢; exact q
      · rw [upd_ne z] at q ⊢; exact R1.fr c u q
    · obtain ⟨h1, h2, h3⟩ := R1.mo c u q
      obtain ⟨o, ho⟩ := h3.some
      have z : c ≠ Dl := ne_of_none ho hD
      exact ⟨h1, by rw [upd_ne z]; exact h2, h3.mono (Ex.refl _) (upd_ne z)⟩
    · by_cases z : c = Dl
      · subst z; exact hH
      · rw [upd_ne z] at q; exact R1.df c u q
  let Pv : Nat → Hp → Prop := fun i H => ∃ acc av M Hd, Ex Hc1 Hd ∧ Rel K Hd M (upd F Dl (.lst av)) H ∧ av.length ≤ big ∧ RpAll K Hd av acc ∧ I i acc M
  refine ⟨fun i m H => m = xs.length - i ∧ i ≤ xs.length ∧ Pv i H, ⟨xs.length, by simp, Nat.zero_le _, [], [], M1, Hc1, Ex.refl _, start, Nat.zero_le _, .nil, i0⟩, ?_⟩
  rintro i m H ⟨rfl, hi', acc, av, M', Hd, ex, R', hl, ra, q⟩
  by_cases hlt : i < xs.length
  · refine .inr ⟨w.goes i H hlt (ex.trans R'.hc), Pv (i + 1), fun H' p' => ⟨xs.length - (i + 1), by omega, rfl, hlt, p'⟩, fun v H' y => ?_⟩
    obtain ⟨d, hd, hy⟩ := w.yields i H v H' hlt (ex.trans R'.hc) y
    obtain ⟨Hd', ex', R'', r''⟩ := hy Hd ex M' _ R'
    have S' : Slots K Hd' (wipe σ vs) (wipeD ρ vs) := ((S.mono e1).mono (ex.trans ex')).wipe vs
    have z := hg (Q := fun σ2 H2 => L2.tYes σ2 H2 fun b H3 => if b = true then wi1 σ2 H3 fun J1 H4 => ∃ W1 : Nat → Nat → Hp → Prop, (∃ m, W1 0 m H4) ∧ ∀ j k H, W1 j k H →
      (J1.stop j H ∧ Pv (i + 1) H) ∨ (J1.go j H ∧ ∃ Nx1 : Hp → Prop, (∀ H', Nx1 H' → ∃ k', k' < k ∧ W1 (j + 1) k' H') ∧ ∀ x H', J1.yld j H x H' → g1 x (wipe σ2 vs1) H' fun σ3 H5 => wipe σ3 vs1 = wipe σ2 vs1 ∧ L2.tYes σ3 H5 fun b H6 =>
        if b = true then te σ3 H6 fun y H7 => ∃ acc, H7 Dl = some (.lst acc) ∧ acc.length < sizeLine ∧ Nx1 (upd H7 Dl (.lst (acc ++ [y]))) else Nx1 H6) else Pv (i + 1) H3) S' R'' r'' (step i d acc M' hd q) fun ρ2 M2 σ2 Hc2 H2 q2 ex2 S2 R2 => ?_
    · have zz := hw _ _ _ _ z
      rw [wipe_wipe] at zz
      exact zz
    · show wi1 σ2 H2 _
      refine hi1 S2 R2 q2 fun ys M3 J1 Hc3 H3 p3 e3 R3 hz1 w1 => ?_
      obtain ⟨I1, j0, step1, done1⟩ := p3
      let Pw : Nat → Hp → Prop := fun j H => ∃ acc av M He, Ex Hc3 He ∧ Rel K He M (upd F Dl (.lst av)) H ∧ av.length ≤ big ∧ RpAll K He av acc ∧ I1 j acc M
      have base : Ex Hc1 Hc3 := ((ex.trans ex').trans ex2).trans e3
      refine ⟨fun j m H => m = ys.length - j ∧ j ≤ ys.length ∧ Pw j H, ⟨ys.length, by simp, Nat.zero_le _, acc, av, M3, Hc3, Ex.refl _, R3, hl, ra.mono ((ex'.trans ex2).trans e3), j0⟩, ?_⟩
      rintro j m H5 ⟨rfl, hj', acc5, av5, M5, He, ex5, R5, hl5, ra5, q5⟩
      by_cases hlt5 : j < ys.length
      · refine .inr ⟨w1.goes j H5 hlt5 (ex5.trans R5.hc), Pw (j + 1), fun H' p' => ⟨ys.length - (j + 1), by omega, rfl, hlt5, p'⟩, fun v5 H6 y5 => ?_⟩
        obtain ⟨d5, hd5, hy5⟩ := w1.yields j H5 v5 H6 hlt5 (ex5.trans R5.hc) y5
        obtain ⟨He', ex5', R5', r5'⟩ := hy5 He ex5 M5 _ R5
        have S5 : Slots K He' (wipe σ2 vs1) (wipeD ρ2 vs1) := (S2.mono ((e3.trans ex5).trans ex5')).wipe vs1
        have z5 := hg1 (Q := fun σ3 H5 => L2.tYes σ3 H5 fun b H6 => if b = true then te σ3 H6 fun y H7 => ∃ acc, H7 Dl = some (.lst acc) ∧ acc.length < sizeLine ∧ Pw (j + 1) (upd H7 Dl (.lst (acc ++ [y]))) else Pw (j + 1) H6) S5 R5' r5' (step1 j d5 acc5 M5 hd5 q5) fun ρ6 M6 σ6 Hc6 H7 q6 ex6 S6 R6 => ?_
        · have zz := hw1 _ _ _ _ z5
          rw [wipe_wipe] at zz
          exact zz
        · show te σ6 H7 _
          refine he S6 R6 q6 fun yv M7 vy Hc7 H8 q7 ex7 R7 r7 => ?_
          have exx : Ex He Hc7 := (ex5'.trans ex6).trans ex7
          have hl6 : av5.length = acc5.length := ra5.length
          exact ⟨av5, R7.fr Dl _ upd_same, szLt (by have := q7.1; omega), acc5 ++ [yv], av5 ++ [vy], M7, Hc7, ex5.trans exx, key R7, by rw [List.length_append]; show av5.length + 1 ≤ big; have := q7.1; omega, (ra5.mono exx).append (.cons r7 .nil), q7.2⟩
      · have ej : j = ys.length := by omega
        subst ej
        exact .inl ⟨w1.stops H5 (ex5.trans R5.hc), acc5, av5, M5, He, base.trans ex5, R5, hl5, ra5, done1 acc5 M5 q5⟩
  · have ei : i = xs.length := by omega
    subst ei
    refine .inl ⟨w.stops H (ex.trans R'.hc), ?_⟩
    have hd : Hd Dl = none := R'.df Dl _ upd_same
    have hH2 := R'.fr Dl _ upd_same
    have ex' : Ex Hd (upd Hd Dl (.lst av)) := Ex.new hd
    refine k (.lst acc) M' (.ref Dl) (upd Hd Dl (.lst av)) H (done acc M' q) ((e1.trans ex).trans ex') ?_ (.lst upd_same (szBig hl) (ra.mono ex'))
    refine ⟨fun c u z => ?_, fun c u z => R'.fr c u (by rw [upd_ne (ne_of_none z hF)]; exact z), fun c u z => ?_, fun c u z => ?_⟩
    · by_cases y : c = Dl
      · subst y; rw [upd_same] at z; cases z; exact hH2
      · rw [upd_ne y] at z; exact R'.hc c u z
    · obtain ⟨h1, h2, h3⟩ := R'.mo c u z
      have y : c ≠ Dl := fun y => by rw [y, upd_same] at h2; cases h2
      rw [upd_ne y] at h2
      exact ⟨by rw [upd_ne y]; exact h1, h2, h3.mono ex' rfl⟩
    · have y : c ≠ Dl := ne_of_none z hF
      rw [upd_ne y]
      exact R'.df c u (by rw [upd_ne y]; exact z)
theorem js_setLc2 {i : Nat} {y : Str} {py : Pos} {spos : Pos} {elt tg iter tg1 iter1 : Expr} {scope : Scope} {own : List (Str × Nat)} {vs1 : List Nat} {wi wi1 : TI} {mi mi1 : IT} {g g1 : TG} {gm gm1 : GT} {te : TE} {me : ET} (hc : X.calm = true) (hN : X.N.Nodup) (hy : X.N[i]? = some y) (hyl : X.env.scope.names.lookup y = some .local)
    (hsw : swapsWith (.ListComp elt [⟨tg, iter, [], 0⟩, ⟨tg1, iter1, [], 0⟩] scope pos) (some (.Name y py)) spos.line X.env = pure true) (hi : JI K X tg iter wi mi) (ok : BlkOk X.N X.env.scope scope own) (hv : ∀ i ∈ vs1, i ∈ own.map (·.2))
    (hg : ∀ (s : Shared) (H : Hp) (C : Addr) (cl : List (Str × Addr)) (fp : List Addr), JC K (X.blk s H scope (compEnvC scope cl C X.env) fp) (own.map (·.2)) tg g gm)
    (hi1 : ∀ (s : Shared) (H : Hp) (C : Addr) (cl : List (Str × Addr)) (fp : List Addr), JI K (X.blk s H scope (compEnvC scope cl C X.env) fp) tg1 iter1 wi1 mi1)
    (hg1 : ∀ (s : Shared) (H : Hp) (C : Addr) (cl : List (Str × Addr)) (fp : List Addr), JC K (X.blk s H scope (compEnvC scope cl C X.env) fp) vs1 tg1 g1 gm1)
    (he : ∀ (s : Shared) (H : Hp) (C : Addr) (cl : List (Str × Addr)) (fp : List Addr), JE K (X.blk s H scope (compEnvC scope cl C X.env) fp) elt te me) (hs : ∀ x, foldedSetIterable iter X.env x = pure x := by intro _; rfl) (hs1 : ∀ env x, foldedSetIterable iter1 env x = pure x := by intro _ _; rfl) :
    JS K X (.Assign [.Name y py] (.ListComp elt [⟨tg, iter, [], 0⟩, ⟨tg1, iter1, [], 0⟩] scope pos) spos) (tAsg (tLc2 wi g L2.tYes wi1 g1 L2.tYes te (own.map (·.2)) vs1) (gName i)) (sSet (mLc2 mi gm mi1 gm1 (own.map (·.2)) vs1 me) (gNm i)) :=
  ⟨ps_setLc2 hc hN hy hyl hsw hi.pe ok hv (fun s H C cl fp => (hg s H C cl fp).pe) (fun s H C cl fp => pts_nil) (fun s H C cl fp => (hi1 s H C cl fp).pe) (fun s H C cl fp => (hg1 s H C cl fp).pe) (fun s H C cl fp => pts_nil) (fun s H C cl fp => (he s H C cl fp).pe) hs hs1,
    ss_asg (se_lc2 hi.se (hg X.s_0 (fun _ => none) 0 [] []).se (hg X.s_0 (fun _ => none) 0 [] []).wp (hi1 X.s_0 (fun _ => none) 0 [] []).se (hg1 X.s_0 (fun _ => none) 0 [] []).se (hg1 X.s_0 (fun _ => none) 0 [] []).wp (he X.s_0 (fun _ => none) 0 [] []).se) (sg_name i)⟩
end
/-- a def's body keeps its contract -/
structure Ok (K : PySem.W.Frag) (s : CT) (n : Nat) : Prop where
  len : ∀ ds M P, s ds M P → ds.length = n
theorem start_slots {K : PySem.W.Frag} {Hc : Hp} {N : List Str} : ∀ {vs : List V} {ds : List D}, RpAll K Hc vs ds → Slots K Hc (L2.start N vs) (startD N.length ds) := by
  intro vs ds r
  have hl := r.length
  refine ⟨by unfold L2.start startD; rw [List.length_append, List.length_append, List.length_map, List.length_map, List.length_replicate, List.length_replicate, hl], fun i d h => ?_⟩
  unfold startD at h
  by_cases hi : i < ds.length
  · rw [List.getElem?_append_left (by rw [List.length_map]; exact hi), List.getElem?_map] at h
    obtain ⟨d', h1, h2⟩ := Option.map_eq_some_iff.mp h
    cases h2
    obtain ⟨v, g1, g2⟩ := r.get h1
    refine ⟨v, ?_, g2⟩
    unfold L2.start
    rw [List.getElem?_append_left (by rw [List.length_map, hl]; exact hi), List.getElem?_map, g1]
    rfl
  · rw [List.getElem?_append_right (by rw [List.length_map]; omega)] at h
    have z := List.mem_of_getElem? h
    have z := (List.mem_replicate.mp z).2
    cases z
theorem fn_ok {P : Program} {w : World} {K : PySem.W.Frag} {mg : Str → Option Value} {base : Heap} {x qual : Str} {params : Arguments} {body : List Stmt} {scope : Scope} {dvs : List V} {kws : List (Str × V)} {f : Addr} {fd : FuncData} {N ps : List Str} {k : Nat} {s : CT} {mb : ST}
    (F : FunD K x qual params body scope dvs kws f fd) (S : FnScope N ps scope) (len : ∀ ds M P, s ds M P → ds.length = ps.length) (keeps : Keeps N.length mb s)
    (hbody : ∀ (cdv : Value) (A : Around) (outer : List PySem.Env) (s : Shared) (H : Hp) (E : XK), Room k (A.deeper (envOfC qual scope s.heap.objs.size f cdv)) → ∃ t, JB K (cxOf CX0 P w K mg base N qual scope f cdv A outer s H E).nox body t mb) :
    FnOk P w K mg base CX0 (k + 1) f fd ps (spD K s) := by
  refine F.ok S (fun vs H Q E h => ?_) (fun cdv A outer sh H vs Q E hr h => ?_)
  · obtain ⟨ds, Hc, M, F', P', r, _, h, _⟩ := h
    rw [r.length]
    exact len _ _ _ h
  · obtain ⟨ds, Hc, M, F', P', r, R, h, q⟩ := h
    obtain ⟨t, j⟩ := hbody cdv A outer sh H E hr
    refine ⟨t, j.pe.nox, j.se (G := finD P') (start_slots r) R ⟨?_, ?_, ?_, ?_⟩ (keeps _ _ _ h)⟩
    · rintro ρ M' σ Hc' H' ⟨M2, le, g⟩ ex S' R'
      exact q _ _ _ _ _ g ex (R'.drop le) .non
    · rintro d M' v Hc' H' ⟨M2, le, g⟩ ex R' r'
      exact q _ _ _ _ _ g ex (R'.drop le) r'
    · intro ρ M' σ Hc' H' g; exact g.elim
    · intro ρ M' σ Hc' H' g; exact g.elim
end DL
end
section
/-! DL: what stands behind the top, packed; short words for the printed terms -/
namespace DL
open PySem PySem.Spec PyProof.Rows L2
theorem huR {A : Around} {k : Nat} (hr : Room k A) : A.units + 65 < cLine := by
  have := hr.un
  omega
section
variable (P : Program) (w : World) (K : PySem.W.Frag) (mg : Str → Option Value) (base : Heap)
/-- a def by its name -/
def FnK (k : Nat) (x : Str) (ps : List Str) (s : CT) : Prop := ∃ f fd, FnOk P w K mg base CX0 k f fd ps (spD K s) ∧ mg x = some (.ref f) ∧ PySem.W.keepIn K (.ref f) = true ∧ Binds K fd ps []
/-- a method -/
def MtK (k : Nat) (C : Addr) (m : Str) (ps : List Str) (s : CT) : Prop := ∃ f fd, FnOk P w K mg base CX0 k f fd ps (spD K s) ∧ Cls K C ∧ Meth K C m f ∧ Binds K fd ps []
/-- a class and its __init__ -/
def MkK (k : Nat) (C : Addr) (x : Str) (ps : List Str) (s : CT) (dvs : List V) (dv : List D) : Prop := ∃ f fd ds, FnOk P w K mg base CX0 k f fd ps (spD K s) ∧ Mk K C f ∧ mg x = some (.ref C) ∧ Binds K fd ps ds ∧ Vals dvs ds ∧ (∀ Hc, RpAll K Hc dvs dv) ∧ ∀ ds M P, s ds M P → s ds M fun d M' => d = .non ∧ P .non M'
/-- the built-ins that the text reads, the attributes that no class takes -/
structure TX : Prop where
  len : mg "len" = none
  range : mg "range" = none
  enumerate : mg "enumerate" = none
  zip : mg "zip" = none
  tuple : mg "tuple" = none
  list : mg "list" = none
  int : mg "int" = none
  sum : mg "sum" = none
  any : mg "any" = none
  all : mg "all" = none
  max : mg "max" = none
  isinstance : mg "isinstance" = none
  sorted : mg "sorted" = none
  set : mg "set" = none
  cSpan : Cls K 99
  cTable : Cls K 800
  cMotion : Cls K 840
  cNet : Cls K 952
  cFromAll : Cls K 1004
  na : ∀ q ∈ ([(99, "kept"), (99, "count"), (800, "a"), (800, "b"), (800, "c"), (800, "d"), (800, "width"), (840, "moves"), (840, "drives"), (840, "shows"), (840, "direct"), (952, "wires"), (952, "outs"), (952, "solved"), (952, "ins"), (952, "cells"), (952, "first"), (1004, "there"), (1004, "back"), (1004, "difference"), (1004, "side"), (1004, "state"), (1004, "looks")] : List (Nat × Str)), NoAttr K q.1 q.2
end
section
variable {X : Cx} {K : PySem.W.Frag} {e a b o : Expr} {es : List Expr} {t ta tb to : TE} {m ma mb mo : ET} {pos apos cpos p : Pos} {tr : TA} {mr : AT} {x : Str} {k : Nat} {ps : List Str} {s : CT}
theorem jk_call (F : FnK X.prog X.w K X.mg X.base k x ps s) (hr : Room k X.A) (hg : Gl X x) (ha : JA K X (e :: es) tr mr) (hdb : (x == ("__debug__" : Str)) = false := by decide) (he : starEach (e :: es) X.env = (false, eval e X.env) :: starEach es X.env := by rfl) (hpl : (backTo pos (starEach es X.env)).any (·.1) = false := by rfl) (hK : X.K = K := by rfl) :
    JE K X (.Call (.Name x p) (e :: es) [] pos) (tCall (spD K s) [] E0 tr) (mCall s [] mr) := by
  subst hK
  obtain ⟨f, fd, F, gm, kp, b⟩ := F
  exact je_call F hr hg gm kp b .nil (fun _ => .nil) pass0 ha hdb he hpl
theorem jk_meth {C : Addr} {mm : Str} {pl : Sem Bool} (F : MtK X.prog X.w K X.mg X.base k C mm ps s) (hr : Room k X.A) (ho : JE K X o ta ma) (ha : JA K X (e :: es) tr mr) (hst : starEach (e :: es) X.env = (false, eval e X.env) :: starEach es X.env := by rfl) (hpl : (backTo pos (starEach es X.env)).any (·.1) = false := by rfl)
    (ht : eval (.Call (.Attribute o mm apos) (e :: es) [] pos) X.env = (do
      let ov ← eval o X.env
      standAt apos.atName
      let (f, first) ← holding [ov] (getMethod ov mm pl)
      callWith pos f first (backTo pos (starEach (e :: es) X.env)) (backToKw pos (keywordEach [] X.env))) := by rfl) (hK : X.K = K := by rfl) :
    JE K X (.Call (.Attribute o mm apos) (e :: es) [] pos) (tMeth C mm (spD K s) [] E0 ta tr) (mMeth C mm s [] ma mr) := by
  subst hK
  obtain ⟨f, fd, F, c, gm, b⟩ := F
  exact je_meth ho c gm F hr b .nil (fun _ => .nil) pass0 ha hst hpl ht
theorem jk_meth0 {C : Addr} {mm : Str} {pl : Sem Bool} (F : MtK X.prog X.w K X.mg X.base k C mm ps s) (hr : Room k X.A) (ho : JE K X o ta ma)
    (ht : eval (.Call (.Attribute o mm apos) [] [] pos) X.env = (do
      let ov ← eval o X.env
      standAt apos.atName
      let (f, first) ← holding [ov] (getMethod ov mm pl)
      callWith pos f first (backTo pos (starEach [] X.env)) (backToKw pos (keywordEach [] X.env))) := by rfl) (hK : X.K = K := by rfl) :
    JE K X (.Call (.Attribute o mm apos) [] [] pos) (tMeth C mm (spD K s) [] E0 ta tNil) (mMeth C mm s [] ma aNil) := by
  subst hK
  obtain ⟨f, fd, F, c, gm, b⟩ := F
  exact je_meth0 ho c gm F hr b .nil (fun _ => .nil) pass0 (pe_meth0 ho.pe c gm F hr b .nil pass0 ht)
theorem jk_make {C : Addr} {dvs : List V} {dv : List D} (F : MkK X.prog X.w K X.mg X.base k C x ps s dvs dv) (hr : Room (k + 1) X.A) (hg : Gl X x) (ha : JA K X (e :: es) tr mr) (hdb : (x == ("__debug__" : Str)) = false := by decide) (he : starEach (e :: es) X.env = (false, eval e X.env) :: starEach es X.env := by rfl) (hpl : (backTo pos (starEach es X.env)).any (·.1) = false := by rfl) (hK : X.K = K := by rfl) :
    JE K X (.Call (.Name x p) (e :: es) [] pos) (tMake C (spD K s) dvs E0 tr) (mMake C s dv mr) := by
  subst hK
  obtain ⟨f, fd, ds, F, M, gm, b, v, r, hn⟩ := F
  exact je_make M F hr hg gm b v r pass0 hn ha hdb he hpl
theorem jk_makeM {C : Addr} {dvs : List V} {dv : List D} (F : MkK X.prog X.w K X.mg X.base k C x ps s dvs dv) (hr : Room (k + 1) X.A) (hg : Gl X x) (ha : JA K X (e :: es) tr mr) (hdb : (x == ("__debug__" : Str)) = false := by decide) (he : starEach (e :: es) X.env = (false, eval e X.env) :: starEach es X.env := by rfl) (hpl : (backTo pos (starEach es X.env)).any (·.1) = false := by rfl) (hK : X.K = K := by rfl) :
    JE K X (.Call (.Name x p) (e :: es) [] pos) (tMake C (spD K s) dvs E0 tr) (mMakeM C s dv mr) := by
  subst hK
  obtain ⟨f, fd, ds, F, M, gm, b, v, r, hn⟩ := F
  exact je_makeM M F hr hg gm b v r pass0 hn ha hdb he hpl
theorem jk_makeM0 {C : Addr} {dvs : List V} {dv : List D} (F : MkK X.prog X.w K X.mg X.base k C x ps s dvs dv) (hr : Room (k + 1) X.A) (hg : Gl X x) (hdb : (x == ("__debug__" : Str)) = false := by decide) (hK : X.K = K := by rfl) :
    JE K X (.Call (.Name x p) [] [] pos) (tMake C (spD K s) dvs E0 tNil) (mMakeM C s dv aNil) := by
  subst hK
  obtain ⟨f, fd, ds, F, M, gm, b, v, r, hn⟩ := F
  exact je_makeM0 M F hr hg gm b v r pass0 hn hdb
theorem jk_zip {elts : List Expr} {kk : Nat} {tpos : Pos} (hg : Gl X "zip") (hm : X.mg "zip" = none) (ha : JE K X a ta ma) (hb : JE K X b tb mb) (hs : starEach [a, b] X.env = [(false, eval a X.env), (false, eval b X.env)] := by rfl) (hs2 : starEach [b] X.env = [(false, eval b X.env)] := by rfl)
    (hs3 : starEach [a, b] X.env = (false, eval a X.env) :: starEach [b] X.env := by rfl) (hpl : (backTo pos (starEach [b] X.env)).any (·.1) = false := by rfl) (hK : X.K = K := by rfl) : JI K X (.Tuple elts kk tpos) (.Call (.Name "zip" p) [a, b] [] pos) (L2.iZip K (tCons ta (tCons tb tNil))) (iZip ma mb) := by
  subst hK
  exact ji_zip hg hm ha hb hs hs2 (pi_zip hg hm (pa_cons ha.pe (pa_cons hb.pe pa_nil (hs := hs2)) (hs := hs3)) hs3 hpl)
theorem jk_app (ho : JE K X o to mo) (ha : JA K X (e :: es) tr mr) (hbase : attributeBase o "append" X.env (eval o X.env) = eval o X.env := by rfl)
    (hfew : ((backTo cpos (starEach (e :: es) X.env)).all (fun x => !x.1) && (backToKw cpos (keywordEach [] X.env)).all (fun x => x.1.isSome)
      && decide ((e :: es).length + ([] : List Keyword).length + (if ([] : List Keyword).isEmpty then 0 else 1) < 30)) = true := by rfl)
    (hline : (apos.endLine == cpos.line) = true := by rfl) (hs : starEach (e :: es) X.env = (false, eval e X.env) :: starEach es X.env := by rfl) (hplain : (backTo cpos (starEach es X.env)).any (·.1) = false := by rfl) (hK : X.K = K := by rfl) :
    JE K X (.Call (.Attribute o "append" apos) (e :: es) [] cpos) (tBM K "list" rAppend to tr) (mBL mAppend mo mr) := by
  subst hK
  exact je_lm PySem.F.slot_list_append PySem.F.type_list_append mt_append sm_app ho ha hbase hfew hline hs hplain
theorem jk_ext (ho : JE K X o to mo) (ha : JA K X (e :: es) tr mr) (hbase : attributeBase o "extend" X.env (eval o X.env) = eval o X.env := by rfl)
    (hfew : ((backTo cpos (starEach (e :: es) X.env)).all (fun x => !x.1) && (backToKw cpos (keywordEach [] X.env)).all (fun x => x.1.isSome)
      && decide ((e :: es).length + ([] : List Keyword).length + (if ([] : List Keyword).isEmpty then 0 else 1) < 30)) = true := by rfl)
    (hline : (apos.endLine == cpos.line) = true := by rfl) (hs : starEach (e :: es) X.env = (false, eval e X.env) :: starEach es X.env := by rfl) (hplain : (backTo cpos (starEach es X.env)).any (·.1) = false := by rfl) (hK : X.K = K := by rfl) :
    JE K X (.Call (.Attribute o "extend" apos) (e :: es) [] cpos) (tBM K "list" rExtend to tr) (mBL mExtend mo mr) := by
  subst hK
  exact je_lm PySem.F.slot_list_extend PySem.F.type_list_extend mt_extend sm_ext ho ha hbase hfew hline hs hplain
theorem jk_ins (ho : JE K X o to mo) (ha : JA K X (e :: es) tr mr) (hbase : attributeBase o "insert" X.env (eval o X.env) = eval o X.env := by rfl)
    (hfew : ((backTo cpos (starEach (e :: es) X.env)).all (fun x => !x.1) && (backToKw cpos (keywordEach [] X.env)).all (fun x => x.1.isSome)
      && decide ((e :: es).length + ([] : List Keyword).length + (if ([] : List Keyword).isEmpty then 0 else 1) < 30)) = true := by rfl)
    (hline : (apos.endLine == cpos.line) = true := by rfl) (hs : starEach (e :: es) X.env = (false, eval e X.env) :: starEach es X.env := by rfl) (hplain : (backTo cpos (starEach es X.env)).any (·.1) = false := by rfl) (hK : X.K = K := by rfl) :
    JE K X (.Call (.Attribute o "insert" apos) (e :: es) [] cpos) (tBM K "list" (fun x vs H Q => ∃ (l : Addr) (xs : List V) (i : Int) (y : V), x = .ref l ∧ vs = [.int i, y] ∧ H l = some (.lst xs) ∧ xs.length < sizeLine ∧ 0 ≤ i ∧ i < 2 ^ 63 ∧ Q .non (upd H l (.lst (xs.take i.toNat ++ [y] ++ xs.drop i.toNat)))) to tr) (mBL mInsert mo mr) := by
  subst hK
  exact je_lm PySem.F.slot_list_insert PySem.F.type_list_insert mt_insert sm_ins ho ha hbase hfew hline hs hplain
theorem jk_idx (ho : JE K X o to mo) (ha : JA K X (e :: es) tr mr) (hbase : attributeBase o "index" X.env (eval o X.env) = eval o X.env := by rfl)
    (hfew : ((backTo cpos (starEach (e :: es) X.env)).all (fun x => !x.1) && (backToKw cpos (keywordEach [] X.env)).all (fun x => x.1.isSome)
      && decide ((e :: es).length + ([] : List Keyword).length + (if ([] : List Keyword).isEmpty then 0 else 1) < 30)) = true := by rfl)
    (hline : (apos.endLine == cpos.line) = true := by rfl) (hs : starEach (e :: es) X.env = (false, eval e X.env) :: starEach es X.env := by rfl) (hplain : (backTo cpos (starEach es X.env)).any (·.1) = false := by rfl) (hK : X.K = K := by rfl) :
    JE K X (.Call (.Attribute o "index" apos) (e :: es) [] cpos) (tBM K "list" (rIndex K) to tr) (mBL mIndex mo mr) := by
  subst hK
  exact je_lm PySem.F.slot_list_index PySem.F.type_list_index mt_index sm_idx ho ha hbase hfew hline hs hplain
theorem jt_eq (ha : JE K X a ta ma) (hb : JE K X b tb mb) : JT K X (.Compare a [.Eq] [b] pos) (tTest (tOp rEq ta tb)) (tVal (mBin (bEqS false) ma mb)) := jt_cmp op_eq s2_eq ha hb (nomark _)
theorem jt_ne (ha : JE K X a ta ma) (hb : JE K X b tb mb) : JT K X (.Compare a [.NotEq] [b] pos) (tTest (tOp rNe ta tb)) (tVal (mBin (bEqS true) ma mb)) := jt_cmp op_ne s2_ne ha hb (nomark _)
theorem jt_lt (ha : JE K X a ta ma) (hb : JE K X b tb mb) : JT K X (.Compare a [.Lt] [b] pos) (tTest (tOp (rI0 fun i j => .bl (decide (i < j))) ta tb)) (tVal (mBin bLt ma mb)) := jt_cmp op_lt s2_B ha hb (nomark _)
theorem jt_gt (ha : JE K X a ta ma) (hb : JE K X b tb mb) : JT K X (.Compare a [.Gt] [b] pos) (tTest (tOp (rI0 fun i j => .bl (decide (j < i))) ta tb)) (tVal (mBin bGt ma mb)) := jt_cmp op_gt s2_B ha hb (nomark _)
theorem jt_ge (ha : JE K X a ta ma) (hb : JE K X b tb mb) : JT K X (.Compare a [.GtE] [b] pos) (tTest (tOp (rI0 fun i j => .bl (decide (j ≤ i))) ta tb)) (tVal (mBin bGe ma mb)) := jt_cmp op_ge s2_B ha hb (nomark _)
theorem jt_eqD (hu : X.A.units + 65 < cLine) (ha : JE K X a ta ma) (hb : JE K X b tb mb) (hK : X.K = K := by rfl) : JT K X (.Compare a [.Eq] [b] pos) (tTest (tOp (rEqD K) ta tb)) (tVal (mBin (bEqD false) ma mb)) := by
  subst hK
  exact jt_cmp (op_eqD (by omega)) s2_eqD ha hb (nomark _)
theorem jt_neD (hu : X.A.units + 65 < cLine) (ha : JE K X a ta ma) (hb : JE K X b tb mb) (hK : X.K = K := by rfl) : JT K X (.Compare a [.NotEq] [b] pos) (tTest (tOp (rNeD K) ta tb)) (tVal (mBin (bEqD true) ma mb)) := by
  subst hK
  exact jt_cmp (op_neD (by omega)) s2_neD ha hb (nomark _)
theorem jt_in (ha : JE K X a ta ma) (hb : JE K X b tb mb) (hm : behindInMarks .In b = false := by rfl) (hK : X.K = K := by rfl) : JT K X (.Compare a [.In] [b] pos) (tTest (tOp (rIn K false) ta tb)) (tVal (mBin (bIn false) ma mb)) := by
  subst hK
  exact jt_cmp op_in_seq s2_in ha hb hm
theorem jt_notIn (ha : JE K X a ta ma) (hb : JE K X b tb mb) (hm : behindInMarks .NotIn b = false := by rfl) (hK : X.K = K := by rfl) : JT K X (.Compare a [.NotIn] [b] pos) (tTest (tOp (rIn K true) ta tb)) (tVal (mBin (bIn true) ma mb)) := by
  subst hK
  exact jt_cmp op_notIn_seq s2_in ha hb hm
theorem jt_notInD (hu : X.A.units + 65 < cLine) (ha : JE K X a ta ma) (hb : JE K X b tb mb) (hm : behindInMarks .NotIn b = false := by rfl) (hK : X.K = K := by rfl) : JT K X (.Compare a [.NotIn] [b] pos) (tTest (tOp (rNotInD K) ta tb)) (tVal (mBin (bInD true) ma mb)) := by
  subst hK
  exact jt_cmp (op_notInD hu) s2_notInD ha hb hm
theorem jt_notInRng {p2 q2 : Pos} (ha : JE K X a ta ma) (hb : JE K X b tb mb) (hg : Gl X "range") (hm : X.mg "range" = none) (hs : starEach [b] X.env = (false, eval b X.env) :: starEach [] X.env := by rfl) (hpl : (backTo q2 (starEach [] X.env)).any (·.1) = false := by rfl) :
    JT K X (.Compare a [.NotIn] [.Call (.Name "range" p2) [b] [] q2] pos) (tTest (tOp (fun x y H Q => ∃ i a lo hi, x = V.int i ∧ y = V.ref a ∧ H a = some (.rng lo hi) ∧ Q (.bl (!(decide (lo ≤ i ∧ i < hi)))) H) ta (tCB (fun vs H Q => ∃ j, vs = [V.int j] ∧ ∀ p, H p = none → Q (.ref p) (upd H p (.rng 0 j))) (tCons tb tNil)))) (tVal (mBin bNotRng ma mb)) :=
  ⟨pt_cmpR op_notin_rng ha.pe (pe_callTy cr_rng1 hg hm (by decide +kernel) (pa_cons hb.pe pa_nil (hs := hs)) (he := hs) (hpl := hpl)) (by rfl), st_test (je_notInRng (X := X) (pos := pos) (p2 := p2) (q2 := q2) ha hb hg hm hs hpl).se⟩
theorem rgV_rel {K : PySem.W.Frag} {Hc : Hp} (i j : Int) : RpAll K Hc (rgV i j) (rangeD2 i j) := by
  unfold rgV rangeD2
  generalize List.range (j - i).toNat = l
  induction l with
  | nil => exact .nil
  | cons n r ih => exact .cons (.int _) ih
theorem jk_listRng2 {p2 q2 : Pos} (hc : X.calm = true) (hg : Gl X "list") (hm : X.mg "list" = none) (hg2 : Gl X "range") (hm2 : X.mg "range" = none) (ha : JE K X a ta ma) (hb : JE K X b tb mb)
    (hs : starEach [a, b] X.env = (false, eval a X.env) :: starEach [b] X.env := by rfl) (hs2 : starEach [b] X.env = (false, eval b X.env) :: starEach [] X.env := by rfl)
    (hs3 : starEach [.Call (.Name "range" p2) [a, b] [] q2] X.env = (false, eval (.Call (.Name "range" p2) [a, b] [] q2) X.env) :: starEach [] X.env := by rfl) (hp : (backTo q2 (starEach [b] X.env)).any (·.1) = false := by rfl) :
    JE K X (.Call (.Name "list" p) [.Call (.Name "range" p2) [a, b] [] q2] [] pos) (tLstRg (tRg2 ta tb)) (mListRng ma mb) :=
  ⟨pe_listRg hc hg hm (prg_2 hg2 hm2 ha.pe hb.pe hs hs2 hp) hs3, fun {σ ρ Hc M F H P Q} S R h k =>
    ha.se S R h fun x M1 u Hc1 H1 p1 e1 R1 r1 => hb.se (S.mono e1) R1 p1 fun y M2 w Hc2 H2 p2 e2 R2 r2 => by
      have r1' := r1.mono e2
      cases r1' with
      | int i =>
        cases r2 with
        | int n =>
          obtain ⟨⟨h0, h1, h2, h3⟩, p2⟩ := p2
          refine ⟨i, n, rfl, rfl, .of_le (by omega) (by omega) (by omega) (by omega), fun q hq => ?_⟩
          have ex : Ex Hc2 (upd Hc2 q (.lst (rgV i n))) := Ex.new (R2.hc.back hq)
          exact k _ _ _ _ _ p2 ((e1.trans e2).trans ex) (R2.new hq) (.lst upd_same (by rw [rgV_length]; exact szBig (by show (n - i).toNat ≤ 100000; omega)) (rgV_rel i n))
        | _ => exact p2.elim
      | _ => cases y <;> exact p2.elim⟩
theorem s2_addF {K : PySem.W.Frag} : S2 K rAdd bAdd := fun {Hc M F H P Q x y dx dy} R rx ry h k => by
  cases rx with
  | int i => cases ry with
    | int j => exact ⟨i, j, rfl, rfl, k _ _ _ _ _ h (Ex.refl _) R (.int _)⟩
    | _ => exact h.elim
  | _ => exact h.elim
/-- a slot's mutable list stands still from here on -/
theorem js_gh {st : Stmt} {t : TS} {m : ST} (i : Nat) (h : JS K X st t m) : JS K X st t (sGh i m) := ⟨h.pe, fun {σ ρ Hc M F H G E} S R fo hm => by
  unfold sGh at hm
  split at hm
  · rename_i a ea
    split at hm
    · rename_i xs ex
      obtain ⟨h1, h2, vs, h3, h4, h5⟩ := R.mo _ _ ex
      obtain ⟨v, g1, g2⟩ := S.at_ i _ ea
      cases g2
      have e1 : Ex Hc (upd Hc a (.lst vs)) := Ex.new h1
      have R' := R.freeze h3 h2 h1
      have S' : Slots K (upd Hc a (.lst vs)) σ (ρ.set i (some (.lst xs))) := by
        refine ⟨by rw [List.length_set]; exact S.len, fun j d hd => ?_⟩
        by_cases q : i = j
        · subst q
          have hi : i < ρ.length := (List.getElem?_eq_some_iff.mp ea).1
          rw [List.getElem?_set_self hi] at hd
          cases hd
          exact ⟨_, g1, .lst upd_same h4 (h5.mono e1)⟩
        · rw [List.getElem?_set_ne q] at hd
          obtain ⟨u, x1, x2⟩ := S.at_ j d hd
          exact ⟨u, x1, x2.mono e1⟩
      exact h.se S' R' (fo.mono e1) hm
    · exact hm.elim
  · exact hm.elim⟩
theorem js_setLcM {i : Nat} {y : Str} {py : Pos} {spos : Pos} {elt tg iter : Expr} {ifs : List Expr} {scope : Scope} {own : List (Str × Nat)} {wi : TI} {mi : IT} {g : TG} {gm : GT} {tt : L2.TT} {tm : TT} {te : TE} {me : ET} (hc : X.calm = true) (hN : X.N.Nodup) (hy : X.N[i]? = some y) (hyl : X.env.scope.names.lookup y = some .local)
    (hsw : swapsWith (.ListComp elt [⟨tg, iter, ifs, 0⟩] scope pos) (some (.Name y py)) spos.line X.env = pure true) (hi : JI K X tg iter wi mi) (ok : BlkOk X.N X.env.scope scope own)
    (hg : ∀ (s : Shared) (H : Hp) (C : Addr) (cl : List (Str × Addr)) (fp : List Addr), JC K (X.blk s H scope (compEnvC scope cl C X.env) fp) (own.map (·.2)) tg g gm) (ht : ∀ (s : Shared) (H : Hp) (C : Addr) (cl : List (Str × Addr)) (fp : List Addr), JTs K (X.blk s H scope (compEnvC scope cl C X.env) fp) ifs tt tm)
    (he : ∀ (s : Shared) (H : Hp) (C : Addr) (cl : List (Str × Addr)) (fp : List Addr), JE K (X.blk s H scope (compEnvC scope cl C X.env) fp) elt te me) (hs : ∀ x, foldedSetIterable iter X.env x = pure x := by intro _; rfl) :
    JS K X (.Assign [.Name y py] (.ListComp elt [⟨tg, iter, ifs, 0⟩] scope pos) spos) (tAsg (tLc wi g tt te (own.map (·.2))) (gName i)) (sSet (mLcM mi gm (own.map (·.2)) tm me) (gNm i)) :=
  ⟨ps_setLc hc hN hy hyl hsw hi.pe ok (fun s H C cl fp => (hg s H C cl fp).pe) (fun s H C cl fp => (ht s H C cl fp).pe) (fun s H C cl fp => (he s H C cl fp).pe) hs, ss_asg (se_lcM hi.se (hg X.s_0 (fun _ => none) 0 [] []).se (hg X.s_0 (fun _ => none) 0 [] []).wp (ht X.s_0 (fun _ => none) 0 [] []).se (he X.s_0 (fun _ => none) 0 [] []).se) (sg_name i)⟩
end
end DL
end
section
/-! DL: zip with a name to take the pair -/
namespace DL
open PySem PySem.Spec PyProof.Rows L2
/-- a zip as it stands: its first field, the flag behind it -/
abbrev ZipAt (h : Heap) (z TI TO : Addr) (f0 : Value) (fl : Bool) : Prop :=
  h.get? z = some { cls := .type "zip", dict := none, data := .fields #[f0, .bool fl, .bool false, .ref TI, .ref TO], slots := #[] }
section
variable {prog : Program} {w : World} {A : Around} {E : Value → Shared → Prop} {s : Shared}
theorem load_gone {a : Addr} {Q : Option Obj → Shared → Prop} (ha : s.heap.get? a = none) (h : Q none s) : wpAny (model prog w) A (loadIfAlive a) Q E s := by
  have k : Q (s.heap.get? a) s := ha ▸ h
  exact fun _ _ _ => k
/-- nobody holds the zip's tuple -/
def FreeAt (s : Shared) (z : Addr) (f0 : Value) : Prop := f0 = .none ∨ ∃ T : Addr, f0 = rawInt T ∧ s.heap.get? T = none
theorem free_at {z TI TO : Addr} {f0 : Value} {fl : Bool} {Q : Bool → Shared → Prop} (q : ZipAt s.heap z TI TO f0 fl) (f : FreeAt s z f0) (h : Q true s) :
    wpAny (model prog w) A (Builtin.SmallTypes.ownedTupleIsFree (.ref z)) Q E s := by
  unfold Builtin.SmallTypes.ownedTupleIsFree
  rcases f with rfl | ⟨T, rfl, hT⟩
  · exact wpAny_bind (wpAny_field q rfl (x := .none) rfl (wpAny_pure h))
  · refine wpAny_bind (wpAny_field q rfl (x := rawInt T) rfl ?_)
    show wpAny _ _ (loadIfAlive ((T : Int).toNat) >>= fun o => _) _ _ _
    have eT : ((T : Int).toNat) = T := Int.toNat_natCast T
    rw [eT]
    refine wpAny_bind (load_gone hT ?_)
    simp only [Option.isNone_none, if_true]
    exact wpAny_pure h
/-- the next pair, of a zip whose tuple is free -/
theorem zip_pair {z TI TO i1 i2 a b : Addr} {k1 k2 : Nat} {xs ys : Array Value} {x y u v f0 : Value} {fl : Bool} {Q : Value → Shared → Prop} (D : ZipApart z TI TO i1 i2 a b)
    (q : ZipAt s.heap z TI TO f0 fl) (fr : FreeAt s z f0) (qI : IsPair s.heap TI (.ref i1) (.ref i2)) (qO : IsPair s.heap TO u v) (t1 : s.heap.IsListIter i1 a k1) (t2 : s.heap.IsListIter i2 b k2) (m1 : s.heap.IsList a xs) (m2 : s.heap.IsList b ys) (hx : xs[k1]? = some x) (hy : ys[k2]? = some y)
    (fin : ∀ g, ZipAt g z TI TO (rawInt s.heap.objs.size) false → IsPair g TO x y → g.IsListIter i1 a (k1 + 1) → g.IsListIter i2 b (k2 + 1) → IsPair g s.heap.objs.size x y → g.objs.size = s.heap.objs.size + 1 →
      (∀ c o, c ≠ z ∧ c ≠ TO ∧ c ≠ i1 ∧ c ≠ i2 → s.heap.get? c = some o → g.get? c = some o) → Q (.ref s.heap.objs.size) { s with heap := g }) :
    wpAny (model prog w) A (Builtin.«zip.__next__» ⟨[.ref z], []⟩) (fun r s' => ∃ p, r = .done (.ret p) ∧ Q p s') E s := by
  show wpAny (model prog w) A (field (.ref z) 2 >>= fun o => _) _ _ _
  refine wpAny_bind (wpAny_field q rfl (x := .bool false) rfl ?_); show wpAny (model prog w) A (field (.ref z) 3 >>= fun o => _) _ _ _
  refine wpAny_bind (wpAny_field q rfl (x := .ref TI) rfl ?_); refine wpAny_bind (wpAny_seqItems qI rfl ?_)
  show wpAny (model prog w) A (Builtin.SmallTypes.ownedTupleIsFree (.ref z) >>= fun o => _) _ _ _
  refine wpAny_bind (free_at q fr ?_); simp only [if_true]; refine wpAny_bind (wpAny_rule ?_); refine wpAny_bind (wpAny_field q rfl (x := .ref TO) rfl ?_)
  refine wpAny_bind (wpAny_setField_rec q (by simp) fun g1 q1 b1 => ?_); replace q1 : ZipAt g1 z TI TO .ellipsis fl := q1
  refine wpAny_bind ?_; simp only [List.zipIdx_cons, List.zipIdx_nil, List.forIn_cons, List.forIn_nil]; refine wpAny_bind (wpAny_bind (wpAny_onRaise ?_))
  show wpAny (model prog w) A (Builtin.SmallTypes.nextOf (.ref i1) >>= fun o => _) _ _ _
  refine wpAny_bind (wpAny_nextOf_list_item (t1.extBut b1.extBut D.i1z) (m1.extBut b1.extBut D.l1z) hx fun g2 n1 b2 => wpAny_pure ?_)
  have O2 : IsPair g2 TO u v := b2.extBut _ _ D.TOi1 (b1.extBut _ _ D.TOz qO)
  refine wpAny_bind (wpAny_seqItems O2 rfl ?_); refine wpAny_bind (wpAny_updateSeq_pair O2 fun g3 O3 b3 => ?_); replace O3 : IsPair g3 TO x v := O3
  refine wpAny_bind (wpAny_letGo (wpAny_pure ?_)); refine wpAny_bind (wpAny_bind (wpAny_onRaise ?_))
  show wpAny (model prog w) A (Builtin.SmallTypes.nextOf (.ref i2) >>= fun o => _) _ _ _
  refine wpAny_bind (wpAny_nextOf_list_item (((t2.extBut b1.extBut D.i2z).extBut b2.extBut D.i12.symm).extBut b3.extBut D.TOi2.symm) (((m2.extBut b1.extBut D.l2z).extBut b2.extBut D.l2i1).extBut b3.extBut D.l2TO) hy fun g4 n2 b4 => wpAny_pure ?_)
  have O4 : IsPair g4 TO x v := b4.extBut _ _ D.TOi2 O3
  refine wpAny_bind (wpAny_seqItems O4 rfl ?_); refine wpAny_bind (wpAny_updateSeq_pair O4 fun g5 O5 b5 => ?_); replace O5 : IsPair g5 TO x y := O5
  refine wpAny_bind (wpAny_letGo (wpAny_pure (wpAny_pure ?_))); refine wpAny_bind (wpAny_seqItems O5 rfl ?_); refine wpAny_bind (wpAny_newTuple ?_)
  have sz : g5.objs.size = s.heap.objs.size := by rw [b5.1, b4.1, b3.1, b2.1, b1.1]
  have q5 : ZipAt g5 z TI TO .ellipsis fl := b5.extBut _ _ D.TOz.symm (b4.extBut _ _ D.i2z.symm (b3.extBut _ _ D.TOz.symm (b2.extBut _ _ D.i1z.symm q1)))
  have keep5 : ∀ c o, c ≠ z ∧ c ≠ TO ∧ c ≠ i1 ∧ c ≠ i2 → s.heap.get? c = some o → g5.get? c = some o := fun c o ⟨c1, c2, c3, c4⟩ e => b5.extBut _ _ c2 (b4.extBut _ _ c4 (b3.extBut _ _ c2 (b2.extBut _ _ c3 (b1.extBut _ _ c1 e))))
  have r1 : g5.IsListIter i1 a (k1 + 1) := ((n1.extBut b3.extBut D.TOi1.symm).extBut b4.extBut D.i12).extBut b5.extBut D.TOi1.symm
  have r2 : g5.IsListIter i2 b (k2 + 1) := n2.extBut b5.extBut D.TOi2.symm
  have lz : z < g5.objs.size := Heap.lt_size q5
  show wpAny (model prog w) A (Builtin.SmallTypes.ownedTupleHandOut (.ref z) (.ref g5.objs.size) >>= fun o => _) _ _ _
  refine wpAny_bind ?_; unfold Builtin.SmallTypes.ownedTupleHandOut
  have q6 : ZipAt (g5.push { cls := .type "tuple", data := .seq #[x, y] }) z TI TO .ellipsis fl := Heap.get?_push_of_some _ q5
  refine wpAny_bind (wpAny_setField_rec q6 (by simp) fun g7 q7 b7 => ?_); replace q7 : ZipAt g7 z TI TO (rawInt g5.objs.size) fl := q7
  refine wpAny_setField_rec q7 (by simp) fun g8 q8 b8 => ?_; replace q8 : ZipAt g8 z TI TO (rawInt g5.objs.size) false := q8
  have up : ∀ c o, c ≠ z → g5.get? c = some o → g8.get? c = some o := fun c o h e => b8.extBut _ _ h (b7.extBut _ _ h (Heap.get?_push_of_some _ e))
  have T8 : IsPair g8 g5.objs.size x y := b8.extBut _ _ (Nat.ne_of_gt lz) (b7.extBut _ _ (Nat.ne_of_gt lz) (Heap.get?_push_size _ rfl))
  have sz8 : g8.objs.size = g5.objs.size + 1 := by rw [b8.1, b7.1, Heap.size_push]
  rw [sz] at q8 T8 sz8
  refine wpAny_pure ⟨_, rfl, ?_⟩; show Q (.ref g5.objs.size) _; rw [sz]
  exact fin g8 q8 (up _ _ D.TOz O5) (r1.at fun o e => up _ o D.i1z e) (r2.at fun o e => up _ o D.i2z e) T8 sz8 fun c o hc e => up c o hc.1 (keep5 c o hc e)
/-- no next pair -/
theorem zip_over {z TI TO i1 i2 a b : Addr} {k1 k2 : Nat} {xs ys : Array Value} {u v f0 : Value} {fl : Bool} {Q : PySem.Fin → Shared → Prop} (hh : A.handled = none) (D : ZipApart z TI TO i1 i2 a b)
    (q : ZipAt s.heap z TI TO f0 fl) (fr : FreeAt s z f0) (qI : IsPair s.heap TI (.ref i1) (.ref i2)) (qO : IsPair s.heap TO u v) (t1 : s.heap.IsListIter i1 a k1) (t2 : s.heap.IsListIter i2 b k2) (m1 : s.heap.IsList a xs) (m2 : s.heap.IsList b ys) (hend : xs[k1]? = none ∨ ys[k2]? = none)
    (fin : ∀ g e, (∀ c o, c ≠ z ∧ c ≠ TO ∧ c ≠ i1 ∧ c ≠ i2 → s.heap.get? c = some o → g.get? c = some o) → (∃ o, g.get? e = some o ∧ o.cls = .type "StopIteration") → E (.ref e) { s with heap := g }) :
    wpAny (model prog w) A (Builtin.«zip.__next__» ⟨[.ref z], []⟩) Q E s := by
  show wpAny (model prog w) A (field (.ref z) 2 >>= fun o => _) _ _ _
  refine wpAny_bind (wpAny_field q rfl (x := .bool false) rfl ?_); show wpAny (model prog w) A (field (.ref z) 3 >>= fun o => _) _ _ _
  refine wpAny_bind (wpAny_field q rfl (x := .ref TI) rfl ?_); refine wpAny_bind (wpAny_seqItems qI rfl ?_)
  show wpAny (model prog w) A (Builtin.SmallTypes.ownedTupleIsFree (.ref z) >>= fun o => _) _ _ _
  refine wpAny_bind (free_at q fr ?_); simp only [if_true]; refine wpAny_bind (wpAny_rule ?_); refine wpAny_bind (wpAny_field q rfl (x := .ref TO) rfl ?_)
  refine wpAny_bind (wpAny_setField_rec q (by simp) fun g1 q1 b1 => ?_); replace q1 : ZipAt g1 z TI TO .ellipsis fl := q1
  refine wpAny_bind ?_; simp only [List.zipIdx_cons, List.zipIdx_nil, List.forIn_cons, List.forIn_nil]; refine wpAny_bind (wpAny_bind (wpAny_onRaise ?_))
  show wpAny (model prog w) A (Builtin.SmallTypes.nextOf (.ref i1) >>= fun o => _) _ _ _
  cases hx : xs[k1]? with
  | none =>
    refine wpAny_bind (wpAny_nextOf_list_end hh (t1.extBut b1.extBut D.i1z) (m1.extBut b1.extBut D.l1z) hx fun g2 e b2 he => ?_)
    obtain ⟨oe, hoe, hce⟩ := he
    have q2 : ZipAt g2 z TI TO .ellipsis fl := b2 _ _ D.i1z.symm q1
    have ez : e ≠ z := fun x => by subst x; rw [q2] at hoe; cases hoe; simp at hce
    exact wpAny_setField_rec q2 (by simp) fun g3 _ b3 => fin g3 e (fun c o h x => b3.extBut _ _ h.1 (b2 _ _ h.2.2.1 (b1.extBut _ _ h.1 x))) ⟨oe, b3.extBut _ _ ez hoe, hce⟩
  | some x =>
    have hy : ys[k2]? = none := hend.resolve_left fun h => by rw [hx] at h; cases h
    refine wpAny_bind (wpAny_nextOf_list_item (t1.extBut b1.extBut D.i1z) (m1.extBut b1.extBut D.l1z) hx fun g2 n1 b2 => wpAny_pure ?_)
    have O2 : IsPair g2 TO u v := b2.extBut _ _ D.TOi1 (b1.extBut _ _ D.TOz qO)
    refine wpAny_bind (wpAny_seqItems O2 rfl ?_); refine wpAny_bind (wpAny_updateSeq_pair O2 fun g3 O3 b3 => ?_)
    refine wpAny_bind (wpAny_letGo (wpAny_pure ?_)); refine wpAny_bind (wpAny_bind (wpAny_onRaise ?_))
    show wpAny (model prog w) A (Builtin.SmallTypes.nextOf (.ref i2) >>= fun o => _) _ _ _
    refine wpAny_bind (wpAny_nextOf_list_end hh (((t2.extBut b1.extBut D.i2z).extBut b2.extBut D.i12.symm).extBut b3.extBut D.TOi2.symm) (((m2.extBut b1.extBut D.l2z).extBut b2.extBut D.l2i1).extBut b3.extBut D.l2TO) hy fun g4 e b4 he => ?_)
    obtain ⟨oe, hoe, hce⟩ := he
    have q4 : ZipAt g4 z TI TO .ellipsis fl := b4 _ _ D.i2z.symm (b3.extBut _ _ D.TOz.symm (b2.extBut _ _ D.i1z.symm q1))
    have ez : e ≠ z := fun x => by subst x; rw [q4] at hoe; cases hoe; simp at hce
    exact wpAny_setField_rec q4 (by simp) fun g5 _ b5 => fin g5 e (fun c o h x => b5.extBut _ _ h.1 (b4 _ _ h.2.2.2 (b3.extBut _ _ h.2.1 (b2.extBut _ _ h.2.2.1 (b1.extBut _ _ h.1 x))))) ⟨oe, b5.extBut _ _ ez hoe, hce⟩
theorem next_pair {z TI TO i1 i2 a b : Addr} {k1 k2 : Nat} {xs ys : Array Value} {x y u v f0 : Value} {fl : Bool} {Q : Option Value → Shared → Prop} (D : ZipApart z TI TO i1 i2 a b)
    (q : ZipAt s.heap z TI TO f0 fl) (fr : FreeAt s z f0) (qI : IsPair s.heap TI (.ref i1) (.ref i2)) (qO : IsPair s.heap TO u v) (t1 : s.heap.IsListIter i1 a k1) (t2 : s.heap.IsListIter i2 b k2) (m1 : s.heap.IsList a xs) (m2 : s.heap.IsList b ys) (hx : xs[k1]? = some x) (hy : ys[k2]? = some y)
    (fin : ∀ g, ZipAt g z TI TO (rawInt s.heap.objs.size) false → IsPair g TO x y → g.IsListIter i1 a (k1 + 1) → g.IsListIter i2 b (k2 + 1) → IsPair g s.heap.objs.size x y → g.objs.size = s.heap.objs.size + 1 →
      (∀ c o, c ≠ z ∧ c ≠ TO ∧ c ≠ i1 ∧ c ≠ i2 → s.heap.get? c = some o → g.get? c = some o) → Q (some (.ref s.heap.objs.size)) { s with heap := g }) : wpAny (model prog w) A (pyNext (.ref z)) Q E s := by
  have ty : s.TypeIs (.ref z) "zip" := ⟨_, q, rfl⟩
  unfold pyNext
  refine wpAny_bind (wpAny_attempt (wpAny_callSpecial?_slot (name := Str.ofString "__next__") ty F.slot_zip_next ?_))
  exact wpAny_call_entry F.slot_zip_next ty F.entry_zip_next (zip_pair D q fr qI qO t1 t2 m1 m2 hx hy fun g a1 a2 a3 a4 a5 a6 a7 => wpAny_pure (fin g a1 a2 a3 a4 a5 a6 a7)) (F.args_zip_next_1 _)
theorem next_over {z TI TO i1 i2 a b : Addr} {k1 k2 : Nat} {xs ys : Array Value} {u v f0 : Value} {fl : Bool} {Q : Option Value → Shared → Prop} (hh : A.handled = none) (D : ZipApart z TI TO i1 i2 a b)
    (q : ZipAt s.heap z TI TO f0 fl) (fr : FreeAt s z f0) (qI : IsPair s.heap TI (.ref i1) (.ref i2)) (qO : IsPair s.heap TO u v) (t1 : s.heap.IsListIter i1 a k1) (t2 : s.heap.IsListIter i2 b k2) (m1 : s.heap.IsList a xs) (m2 : s.heap.IsList b ys) (hend : xs[k1]? = none ∨ ys[k2]? = none)
    (fin : ∀ g, (∀ c o, c ≠ z ∧ c ≠ TO ∧ c ≠ i1 ∧ c ≠ i2 → s.heap.get? c = some o → g.get? c = some o) → Q none { s with heap := g }) : wpAny (model prog w) A (pyNext (.ref z)) Q E s := by
  have ty : s.TypeIs (.ref z) "zip" := ⟨_, q, rfl⟩
  unfold pyNext
  refine wpAny_bind (wpAny_attempt (wpAny_callSpecial?_slot (name := Str.ofString "__next__") ty F.slot_zip_next ?_))
  refine wpAny_call_entry F.slot_zip_next ty F.entry_zip_next (zip_over hh D q fr qI qO t1 t2 m1 m2 hend fun g e keep ⟨o, ho, hc⟩ => ?_) (F.args_zip_next_1 _)
  exact wpAny_bind (wpAny_isInstance (T := "StopIteration") (b := true) ⟨o, ho, hc⟩ isSubtype_stop (wpAny_pure (fin _ keep)))
end
theorem five {z TI TO i1 i2 c : Addr} : c ∈ [z, TI, TO, i1, i2] ↔ c = z ∨ c = TI ∨ c = TO ∨ c = i1 ∨ c = i2 := by simp
/-- a zip's iterator at the i-th turn: its last tuple may live or not -/
def ZipTn (z TI TO i1 i2 a b : Addr) (i : Nat) (h : Heap) : Prop := (∃ f0 fl, ZipAt h z TI TO f0 fl ∧ ((f0 = .none ∧ fl = false) ∨ ∃ T : Addr, f0 = rawInt T)) ∧ IsPair h TI (.ref i1) (.ref i2) ∧ (∃ x y, IsPair h TO x y) ∧ h.IsListIter i1 a i ∧ h.IsListIter i2 b i
/-- the turns of a zip, a name taking the pairs -/
theorem turn_zipN {P : Program} {w : World} {K : PySem.W.Frag} {nm : Str} {p : Pos} {a b z TI TO i1 i2 : Addr} (D : ZipApart z TI TO i1 i2 a b) :
    Turn P w K (.Name nm p) (Itz K a b) [z, TI, TO, i1, i2] z (ZipTn z TI TO i1 i2 a b) where
  mem := List.mem_cons_self ..
  obj := fun i h ⟨⟨f0, fl, q, _⟩, qI, ⟨u, v, qO⟩, ⟨o1, e1, _, d1⟩, ⟨o2, e2, _, d2⟩⟩ c hc => by
    rcases five.mp hc with rfl | rfl | rfl | rfl | rfl
    · exact ⟨_, q, fun _ h => nomatch h⟩
    · exact ⟨_, qI, fun _ h => nomatch h⟩
    · exact ⟨_, qO, fun _ h => nomatch h⟩
    · exact ⟨o1, e1, fun _ h => by rw [d1] at h; cases h⟩
    · exact ⟨o2, e2, fun _ h => by rw [d2] at h; cases h⟩
  keep := fun i h h' ⟨⟨f0, fl, q, hf⟩, qI, ⟨u, v, qO⟩, t1, t2⟩ k =>
    ⟨⟨f0, fl, k z (five.mpr (.inl rfl)) _ q, hf⟩, k TI (five.mpr (.inr (.inl rfl))) _ qI, ⟨u, v, k TO (five.mpr (.inr (.inr (.inl rfl)))) _ qO⟩, t1.at fun o e => k i1 (five.mpr (.inr (.inr (.inr (.inl rfl))))) o e, t2.at fun o e => k i2 (five.mpr (.inr (.inr (.inr (.inr rfl))))) o e⟩
  item := by
    intro X hP hw hK hc i pins s σ H E I hf ⟨⟨f0, fl, q, hq⟩, qI, ⟨u0, v0, qO⟩, t1, t2⟩ ⟨xs, ys, x, y, hqx, hqy, hx, hy⟩
    subst hP hw hK
    obtain ⟨its, rv, m1, _⟩ := I.list hqx
    obtain ⟨its2, rv2, m2, _⟩ := I.list hqy
    obtain ⟨u, hu, ru⟩ := rv.get hx
    obtain ⟨u2, hu2, ru2⟩ := rv2.get hy
    have lz : z < s.heap.objs.size := Heap.lt_size q
    have low : ∀ c, c ∈ [z, TI, TO, i1, i2] → c < s.heap.objs.size := fun c hc => by
      rcases five.mp hc with rfl | rfl | rfl | rfl | rfl
      · exact lz
      · exact Heap.lt_size qI
      · exact Heap.lt_size qO
      · obtain ⟨_, e1, _⟩ := t1; exact Heap.lt_size e1
      · obtain ⟨_, e2, _⟩ := t2; exact Heap.lt_size e2
    have last : ∀ (g : Heap) (f1 : Value) (fl1 : Bool), ZipAt g z TI TO f1 fl1 → ((f1 = .none ∧ fl1 = false) ∨ ∃ T : Addr, f1 = rawInt T) → (∃ x y, IsPair g TO x y) → g.IsListIter i1 a (i + 1) → g.IsListIter i2 b (i + 1) → IsPair g s.heap.objs.size u u2 →
        (∀ c o, c ≠ z ∧ c ≠ TO ∧ c ≠ i1 ∧ c ≠ i2 → s.heap.get? c = some o → g.get? c = some o) → ∃ u', some (Value.ref s.heap.objs.size) = some u' ∧
          wpAny (model X.prog X.w) X.A (letOwnedTupleGo (.Name nm p) (.ref z) u') (fun _ s2 => ∃ x H', Inv X pins σ H' s2 ∧ RelV x u' ∧ (Itz X.K a b).yld i H x H' ∧ ZipTn z TI TO i1 i2 a b (i + 1) s2.heap ∧ ∀ b ∈ [z, TI, TO, i1, i2], H' b = none) E { s with heap := g } := by
      intro g f1 fl1 q1 hq1 hO n1 n2 hT hk
      refine ⟨_, rfl, ?_⟩
      have new : ObjOk X.prog X.w (upd H s.heap.objs.size (.tup [x, y])) g s.heap.objs.size (.tup [x, y]) := ⟨by show 2 ≤ sizeLine; decide, [u, u2], .cons ru (.cons ru2 .nil), ⟨_, hT, rfl, _, rfl⟩⟩
      have out : ∀ c, c ∉ [z, TI, TO, i1, i2] → c ≠ z ∧ c ≠ TO ∧ c ≠ i1 ∧ c ≠ i2 := fun c hc => ⟨fun e => hc (five.mpr (.inl e)), fun e => hc (five.mpr (.inr (.inr (.inl e)))), fun e => hc (five.mpr (.inr (.inr (.inr (.inl e))))), fun e => hc (five.mpr (.inr (.inr (.inr (.inr e)))))⟩
      have I1 : Inv X pins σ (upd H s.heap.objs.size (.tup [x, y])) { s with heap := g } := I.turnedNew (t' := s.toks) (ch := [z, TI, TO, i1, i2]) (fun c o hb e => hk c o (out c hb) e) hf (Nat.le_refl _) new
      refine wpAny_pure ⟨.ref s.heap.objs.size, _, I1, rfl, ⟨_, x, y, rfl, I.hok.fresh (Nat.le_refl _), rfl, fun l hl => (I.list_inj hl hqx) ▸ hx, fun l hl => (I.list_inj hl hqy) ▸ hy⟩, ⟨⟨f1, fl1, q1, hq1⟩, hk _ _ ⟨D.TIz, D.TITO, D.TIi1, D.TIi2⟩ qI, hO, n1, n2⟩, fun c hcm => ?_⟩
      rw [upd_ne (Nat.ne_of_lt (low c hcm))]
      exact (hf c hcm).1
    have gx : its.toArray[i]? = some u := by simpa using hu
    have gy : its2.toArray[i]? = some u2 := by simpa using hu2
    by_cases fr : FreeAt s z f0
    · exact next_pair D q fr qI qO t1 t2 m1.isList m2.isList gx gy fun g a1 a2 a3 a4 a5 _ a7 => last g _ _ a1 (.inr ⟨_, rfl⟩) ⟨_, _, a2⟩ a3 a4 a5 a7
    · rcases hq with ⟨rfl, rfl⟩ | ⟨T, rfl⟩
      · exact absurd (.inl rfl) fr
      · cases hT : s.heap.get? T with
        | none => exact absurd (.inr ⟨T, rfl, hT⟩) fr
        | some oT =>
          refine wpAny_pyNext_zip_item_held D q hT qI t1 t2 m1.isList m2.isList gx gy fun g a1 a3 a4 a5 _ a7 => ?_
          exact last g _ _ a1 (.inr ⟨T, rfl⟩) ⟨_, _, a7 _ _ D.TOz D.TOi1 D.TOi2 qO⟩ a3 a4 a5 fun c o hc e => a7 c o hc.1 hc.2.2.1 hc.2.2.2 e
  done := by
    intro X hP hw hK hc i pins s σ H E I hf ⟨⟨f0, fl, q, hq⟩, qI, ⟨u0, v0, qO⟩, t1, t2⟩ ⟨xs, ys, hqx, hqy, hend⟩
    subst hP hw hK
    obtain ⟨its, rv, m1, _⟩ := I.list hqx
    obtain ⟨its2, rv2, m2, _⟩ := I.list hqy
    have l1 := rv.length
    have l2 := rv2.length
    have no : its.toArray[i]? = none ∨ its2.toArray[i]? = none := hend.elim (fun h => .inl (by simp; omega)) fun h => .inr (by simp; omega)
    have out : ∀ c, c ∉ [z, TI, TO, i1, i2] → c ≠ z ∧ c ≠ TO ∧ c ≠ i1 ∧ c ≠ i2 := fun c hc => ⟨fun e => hc (five.mpr (.inl e)), fun e => hc (five.mpr (.inr (.inr (.inl e)))), fun e => hc (five.mpr (.inr (.inr (.inr (.inl e))))), fun e => hc (five.mpr (.inr (.inr (.inr (.inr e)))))⟩
    have last : ∀ (g : Heap), (∀ c o, c ≠ z ∧ c ≠ TO ∧ c ≠ i1 ∧ c ≠ i2 → s.heap.get? c = some o → g.get? c = some o) → (none : Option Value) = none ∧ Inv X pins σ H { s with heap := g } := fun g hk =>
      ⟨rfl, I.turnedL (t' := s.toks) (ch := [z, TI, TO, i1, i2]) (fun c o hb e => hk c o (out c hb) e) hf⟩
    by_cases fr : FreeAt s z f0
    · exact next_over (I.ok.hd hc) D q fr qI qO t1 t2 m1.isList m2.isList no fun g hk => last g hk
    · rcases hq with ⟨rfl, rfl⟩ | ⟨T, rfl⟩
      · exact absurd (.inl rfl) fr
      · cases hT : s.heap.get? T with
        | none => exact absurd (.inr ⟨T, rfl, hT⟩) fr
        | some oT => exact wpAny_pyNext_zip_end_held (I.ok.hd hc) D q hT qI t1 t2 m1.isList m2.isList no fun g hk => last g fun c o hc e => hk c o hc.1 hc.2.2.1 hc.2.2.2 e
  self := fun A i s Q E ⟨⟨f0, fl, q, hq⟩, _⟩ h => by
    have ty : s.TypeIs (.ref z) "zip" := ⟨_, q, rfl⟩
    refine wpAny_pyIter_slot ty F.slot_zip_iter (wpAny_call_entry F.slot_zip_iter ty F.entry_zip_iter ?_ (F.args_zip_iter_1 _))
    show wpAny (model _ _) _ (ret (.ref z)) _ _ s
    exact wpAny_pure ⟨_, rfl, "zip", _, ty, F.slot_zip_next.lookup, h⟩
section
variable {X : Cx} {K : PySem.W.Frag} {a b : Expr} {ta tb : TE} {ma mb : ET} {pos p p' : Pos} {nm : Str}
theorem pi_zipN {e e2 : Expr} {t : TA} (hg : Gl X "zip") (hm : X.mg "zip" = none) (ha : PA X [e, e2] t) (hs : starEach [e, e2] X.env = (false, eval e X.env) :: starEach [e2] X.env := by rfl) (hpl : (backTo pos (starEach [e2] X.env)).any (·.1) = false := by rfl) :
    PI X (.Name nm p') (.Call (.Name "zip" p) [e, e2] [] pos) (L2.iZip X.K t) := by
  refine ⟨fun pins s σ H R I h => ?_⟩
  refine Call_ (ld_blt I hg hm PyProof.Rows.boot_zip (PyProof.Rows.callWith_type1 (thn (ha.run pos pins s σ H _ I h) fun us s1 ⟨vs, H1, I1, r1, q1⟩ => ?_) hs hpl))
  obtain ⟨c, d, xs, ys, ex, hqx, hqy, k⟩ := q1
  subst ex
  cases r1 with
  | cons r rr =>
    cases rr with
    | cons r' rr =>
      cases rr
      cases r
      cases r'
      obtain ⟨its, rv, m1, _⟩ := I1.list hqx
      obtain ⟨its2, rv2, m2, _⟩ := I1.list hqy
      have la : c < s1.heap.objs.size := m1.lt
      have lb : d < s1.heap.objs.size := m2.lt
      refine call_zip_2 m1.isList m2.isList fun g hz hTI hTO h1 h2 hsz hk => wpAny_pyIter_zip hz ?_
      have I2 : Inv X pins σ H1 { s1 with heap := g } := I1.kept (t' := s1.toks) hk
      refine ⟨s1.heap.objs.size + 4, [s1.heap.objs.size + 4, s1.heap.objs.size + 2, s1.heap.objs.size + 3, s1.heap.objs.size, s1.heap.objs.size + 1], _, _, H1, rfl, I2, turn_zipN (PySem.W.ktu_apart s1.heap.objs.size c d la lb), ⟨⟨.none, false, hz, .inl ⟨rfl, rfl⟩⟩, hTI, ⟨_, _, hTO⟩, h1, h2⟩, fun u hu => ?_, k⟩
      have low : s1.heap.objs.size ≤ u := by
        rcases five.mp hu with z | z | z | z | z
        · rw [z]; exact Nat.le_add_right _ _
        · rw [z]; exact Nat.le_add_right _ _
        · rw [z]; exact Nat.le_add_right _ _
        · rw [z]; exact Nat.le_refl _
        · rw [z]; exact Nat.le_add_right _ _
      exact I1.fpOk low (I1.hok.fresh low)
theorem jk_zipN (hg : Gl X "zip") (hm : X.mg "zip" = none) (ha : JE K X a ta ma) (hb : JE K X b tb mb) (hs : starEach [a, b] X.env = [(false, eval a X.env), (false, eval b X.env)] := by rfl) (hs2 : starEach [b] X.env = [(false, eval b X.env)] := by rfl)
    (hs3 : starEach [a, b] X.env = (false, eval a X.env) :: starEach [b] X.env := by rfl) (hpl : (backTo pos (starEach [b] X.env)).any (·.1) = false := by rfl) (hK : X.K = K := by rfl) : JI K X (.Name nm p') (.Call (.Name "zip" p) [a, b] [] pos) (L2.iZip K (tCons ta (tCons tb tNil))) (iZip ma mb) := by
  subst hK
  have pa := pa_cons ha.pe (pa_cons hb.pe pa_nil (hs := hs2)) (hs := hs3)
  exact ⟨pi_zipN hg hm pa hs3 hpl, (ji_zip (p := p) (elts := []) (kk := 0) (tpos := p) hg hm ha hb hs hs2 (pi_zip hg hm pa hs3 hpl)).se⟩
end
end DL
end
section
/-! bits: sums over two, masks, spans -/
namespace BB
def xs : Nat → (Nat → Bool) → Bool
  | 0, _ => false
  | n + 1, f => xor (xs n f) (f n)
theorem xs_congr {f g : Nat → Bool} : ∀ {n : Nat}, (∀ i, i < n → f i = g i) → xs n f = xs n g
  | 0, _ => rfl
  | n + 1, h => by show xor (xs n f) (f n) = xor (xs n g) (g n); rw [xs_congr (fun i hi => h i (Nat.lt_succ_of_lt hi)), h n (Nat.lt_succ_self n)]
theorem xs_xor (f g : Nat → Bool) : ∀ n, xs n (fun i => xor (f i) (g i)) = xor (xs n f) (xs n g)
  | 0 => rfl
  | n + 1 => by show xor (xs n _) _ = xor (xor (xs n f) _) (xor (xs n g) _); rw [xs_xor f g n]; show xor (xor _ _) (xor (f n) (g n)) = _; generalize xs n f = a, xs n g = b, f n = c, g n = d; cases a <;> cases b <;> cases c <;> cases d <;> rfl
theorem xs_false : ∀ n, xs n (fun _ => false) = false
  | 0 => rfl
  | n + 1 => by show xor (xs n _) _ = _; rw [xs_false n]; rfl
theorem xs_zero {f : Nat → Bool} {n : Nat} (h : ∀ i, i < n → f i = false) : xs n f = false := by rw [xs_congr h, xs_false]
theorem xs_andl (b : Bool) (f : Nat → Bool) : ∀ n, xs n (fun i => b && f i) = (b && xs n f)
  | 0 => by cases b <;> rfl
  | n + 1 => by show xor (xs n _) _ = (b && xor _ _); rw [xs_andl b f n]; cases b <;> rfl
theorem xs_andr (b : Bool) (f : Nat → Bool) (n : Nat) : xs n (fun i => f i && b) = (xs n f && b) := by
  rw [Bool.and_comm, ← xs_andl]; exact xs_congr fun i _ => Bool.and_comm _ _
theorem xs_swap (f : Nat → Nat → Bool) (m : Nat) : ∀ n, xs n (fun i => xs m (fun j => f i j)) = xs m (fun j => xs n fun i => f i j)
  | 0 => (xs_false m).symm
  | n + 1 => by show xor (xs n _) _ = xs m (fun j => xor (xs n fun i => f i j) (f n j)); rw [xs_xor, xs_swap f m n]
theorem xs_one {f : Nat → Bool} {k : Nat} : ∀ {n : Nat}, k < n → (∀ i, i < n → i ≠ k → f i = false) → xs n f = f k
  | 0, h, _ => absurd h (Nat.not_lt_zero _)
  | n + 1, h, hf => by
    show xor (xs n f) (f n) = f k
    by_cases e : k = n
    · subst e; rw [xs_zero fun i hi => hf i (Nat.lt_succ_of_lt hi) (Nat.ne_of_lt hi)]; cases f k <;> rfl
    · rw [hf n (Nat.lt_succ_self n) (fun q => e q.symm), xs_one (by omega) fun i hi => hf i (Nat.lt_succ_of_lt hi)]; cases f k <;> rfl
theorem xs_add (f : Nat → Bool) (n : Nat) : ∀ m, xs (n + m) f = xor (xs n f) (xs m fun i => f (n + i))
  | 0 => by show xs n f = xor (xs n f) false; cases xs n f <;> rfl
  | m + 1 => by show xor (xs (n + m) f) (f (n + m)) = xor _ (xor _ _); rw [xs_add f n m]; show xor (xor _ _) (f (n + m)) = xor _ (xor _ (f (n + m))); rw [Bool.xor_assoc]
theorem xs_ex {f : Nat → Bool} : ∀ {n : Nat}, xs n f = true → ∃ i, i < n ∧ f i = true
  | n + 1, h => by
    have h' : xor (xs n f) (f n) = true := h
    cases e : f n with
    | true => exact ⟨n, Nat.lt_succ_self n, e⟩
    | false =>
      rw [e] at h'
      have : xs n f = true := by cases q : xs n f <;> rw [q] at h' <;> first | rfl | cases h'
      obtain ⟨i, hi, hf⟩ := xs_ex this
      exact ⟨i, Nat.lt_succ_of_lt hi, hf⟩
/-- the sum over a list -/
def xl (l : List Nat) (f : Nat → Bool) : Bool := l.foldr (fun x b => xor (f x) b) false
theorem xl_cons (x : Nat) (l : List Nat) (f : Nat → Bool) : xl (x :: l) f = xor (f x) (xl l f) := rfl
theorem xl_app (k : List Nat) (f : Nat → Bool) : ∀ l : List Nat, xl (l ++ k) f = xor (xl l f) (xl k f)
  | [] => by show xl k f = xor false _; cases xl k f <;> rfl
  | x :: l => by show xor _ (xl (l ++ k) f) = xor (xor _ _) _; rw [xl_app k f l]; exact (Bool.xor_assoc ..).symm
theorem xl_congr {f g : Nat → Bool} : ∀ {l : List Nat}, (∀ x, x ∈ l → f x = g x) → xl l f = xl l g
  | [], _ => rfl
  | x :: l, h => by rw [xl_cons, xl_cons, h x (List.mem_cons_self ..), xl_congr fun y hy => h y (List.mem_cons_of_mem _ hy)]
theorem xl_xor (f g : Nat → Bool) : ∀ l : List Nat, xl l (fun x => xor (f x) (g x)) = xor (xl l f) (xl l g)
  | [] => rfl
  | x :: l => by rw [xl_cons, xl_cons, xl_cons, xl_xor f g l]; cases f x <;> cases g x <;> cases xl l f <;> cases xl l g <;> rfl
theorem xl_ex {f : Nat → Bool} : ∀ {l : List Nat}, xl l f = true → ∃ x, x ∈ l ∧ f x = true
  | x :: l, h => by
    rw [xl_cons] at h
    cases e : f x with
    | true => exact ⟨x, List.mem_cons_self .., e⟩
    | false =>
      rw [e] at h
      have : xl l f = true := by cases q : xl l f <;> rw [q] at h <;> first | rfl | cases h
      obtain ⟨y, hy, hf⟩ := xl_ex this
      exact ⟨y, List.mem_cons_of_mem _ hy, hf⟩
theorem xl_false (l : List Nat) : xl l (fun _ => false) = false := by
  cases e : xl l (fun _ => false) with
  | false => rfl
  | true => obtain ⟨_, _, h⟩ := xl_ex e; cases h
theorem xl_range (f : Nat → Bool) : ∀ n, xl (List.range n) f = xs n f
  | 0 => rfl
  | n + 1 => by rw [List.range_succ, xl_app, xl_range f n]; show xor (xs n f) (xor (f n) false) = xor _ _; cases f n <;> rfl
theorem xl_filter (p f : Nat → Bool) : ∀ l : List Nat, xl (l.filter p) f = xl l (fun x => p x && f x)
  | [] => rfl
  | x :: l => by
    rw [List.filter_cons, xl_cons]
    cases e : p x
    · simp only [Bool.false_eq_true, if_false]; rw [xl_filter p f l]; cases xl l _ <;> rfl
    · simp only [if_true]; rw [xl_cons, xl_filter p f l]; rfl
theorem xl_map (g : Nat → Nat) (f : Nat → Bool) : ∀ l : List Nat, xl (l.map g) f = xl l (fun x => f (g x))
  | [] => rfl
  | x :: l => by rw [List.map_cons, xl_cons, xl_cons, xl_map g f l]
/-- a list as its counts over two -/
theorem xl_xs (f : Nat → Bool) (n : Nat) : ∀ l : List Nat, (∀ x, x ∈ l → x < n) → xl l f = xs n fun j => xl l (fun x => x == j) && f j
  | [], _ => (xs_zero fun i _ => rfl).symm
  | x :: l, h => by
    rw [xl_cons, xl_xs f n l fun y hy => h y (List.mem_cons_of_mem _ hy)]
    have h1 : f x = xs n fun j => (x == j) && f j := by
      rw [xs_one (h x (List.mem_cons_self ..)) fun i _ hi => by rw [beq_false_of_ne fun e => hi e.symm]; rfl]; simp
    rw [h1, ← xs_xor]
    exact xs_congr fun j _ => by rw [xl_cons]; cases (x == j) <;> cases f j <;> cases xl l _ <;> rfl

/-! ### masks -/
theorem tb_one (k : Nat) : (1 : Nat).testBit k = decide (k = 0) := by
  rw [Bool.eq_iff_iff, Nat.testBit_one_eq_true_iff_self_eq_zero]; simp
theorem lt_of_tb {x y : Nat} (i : Nat) (hx : x.testBit i = false) (hy : y.testBit i = true) (h : ∀ j, i < j → x.testBit j = y.testBit j) : x < y := by
  have e : x / 2 ^ i / 2 = y / 2 ^ i / 2 := Nat.eq_of_testBit_eq fun j => by
    rw [← Nat.testBit_add_one, ← Nat.testBit_add_one, Nat.testBit_div_two_pow, Nat.testBit_div_two_pow]; exact h _ (by omega)
  rw [Nat.testBit_eq_decide_div_mod_eq] at hx hy
  have h1 : x / 2 ^ i % 2 = 0 := by simp at hx; omega
  have h2 : y / 2 ^ i % 2 = 1 := by simpa using hy
  have : x / 2 ^ i < y / 2 ^ i := by omega
  exact Nat.lt_of_div_lt_div this
def mk : Nat → (Nat → Bool) → Nat
  | 0, _ => 0
  | n + 1, f => mk n f + (f n).toNat * 2 ^ n
theorem mk_lt (f : Nat → Bool) : ∀ n, mk n f < 2 ^ n
  | 0 => Nat.zero_lt_one
  | n + 1 => by
    have h := mk_lt f n
    show mk n f + (f n).toNat * 2 ^ n < 2 ^ (n + 1)
    have : (f n).toNat ≤ 1 := Bool.toNat_le _
    have : (f n).toNat * 2 ^ n ≤ 1 * 2 ^ n := Nat.mul_le_mul_right _ this
    rw [Nat.pow_succ]; omega
theorem tb_mk (f : Nat → Bool) (k : Nat) : ∀ n, (mk n f).testBit k = (decide (k < n) && f k)
  | 0 => by show (0 : Nat).testBit k = _; simp
  | n + 1 => by
    show (mk n f + (f n).toNat * 2 ^ n).testBit k = _
    rw [Nat.add_comm, Nat.mul_comm, Nat.testBit_two_pow_mul_add _ (mk_lt f n)]
    by_cases h : k < n
    · rw [if_pos h, tb_mk f k n]; simp [h, Nat.lt_succ_of_lt h]
    · rw [if_neg h]
      by_cases e : k = n
      · subst e; simp; cases f k <;> rfl
      · have : ¬ k < n + 1 := by omega
        simp [this]
        cases f n
        · simp
        · have q : k - n ≠ 0 := by omega
          show (1 : Nat).testBit (k - n) = false
          rw [tb_one]; simp [q]
theorem mk_ext {n : Nat} {f : Nat → Bool} {x : Nat} (h : ∀ k, x.testBit k = (decide (k < n) && f k)) : mk n f = x :=
  Nat.eq_of_testBit_eq fun k => by rw [tb_mk, h]
theorem mk_congr {f g : Nat → Bool} {n : Nat} (h : ∀ i, i < n → f i = g i) : mk n f = mk n g :=
  mk_ext fun k => by
    rw [tb_mk]
    by_cases e : k < n
    · rw [h k e]
    · simp [e]
theorem mk_self {n x : Nat} (h : x < 2 ^ n) : mk n x.testBit = x := mk_ext fun k => by
  by_cases e : k < n
  · simp [e]
  · simp [e]; exact Nat.testBit_lt_two_pow (Nat.lt_of_lt_of_le h (Nat.pow_le_pow_right (by decide) (by omega)))
theorem tb_ge {n x k : Nat} (h : x < 2 ^ n) (e : n ≤ k) : x.testBit k = false := Nat.testBit_lt_two_pow (Nat.lt_of_lt_of_le h (Nat.pow_le_pow_right (by decide) e))
theorem mk_and (f g : Nat → Bool) (n : Nat) : mk n f &&& mk n g = mk n fun i => f i && g i :=
  (mk_ext fun k => by rw [Nat.testBit_and, tb_mk, tb_mk]; cases decide (k < n) <;> cases f k <;> cases g k <;> rfl).symm
theorem mk_xor (f g : Nat → Bool) (n : Nat) : mk n f ^^^ mk n g = mk n fun i => xor (f i) (g i) :=
  (mk_ext fun k => by rw [Nat.testBit_xor, tb_mk, tb_mk]; cases decide (k < n) <;> cases f k <;> cases g k <;> rfl).symm
theorem mk_zero (n : Nat) : mk n (fun _ => false) = 0 := mk_ext fun k => by simp
theorem mk_eq_zero {n : Nat} {f : Nat → Bool} : mk n f = 0 ↔ ∀ i, i < n → f i = false := by
  constructor
  · intro h i hi
    have := tb_mk f i n
    rw [h] at this; simpa [hi] using this.symm
  · intro h; rw [mk_congr h]; exact mk_zero n
theorem mk_one {n k : Nat} (h : k < n) : mk n (fun i => decide (i = k)) = 1 <<< k := mk_ext fun j => by
  rw [Nat.testBit_shiftLeft, tb_one]
  by_cases e : j = k
  · subst e; simp [h]
  · simp [e]; intro q; omega
theorem tb_shl_one (k j : Nat) : (1 <<< k).testBit j = decide (j = k) := by
  rw [Nat.testBit_shiftLeft, tb_one]
  by_cases e : j = k
  · subst e; simp
  · simp [e]; intro q; omega
/-- one mask behind another -/
theorem mk_cat (f g : Nat → Bool) (n m : Nat) : mk n f ||| (mk m g <<< n) = mk (n + m) fun i => if i < n then f i else g (i - n) :=
  (mk_ext fun k => by
    rw [Nat.testBit_or, Nat.testBit_shiftLeft, tb_mk, tb_mk]
    by_cases h : k < n
    · have : ¬ k ≥ n := by omega
      have h2 : k < n + m := by omega
      simp [h, this, h2]
    · have : k ≥ n := by omega
      have e : (k - n < m) = (k < n + m) := by apply propext; omega
      simp [h, this, e]).symm

/-! ### parity -/
def par (x : Nat) : Bool := xs x.log2.succ x.testBit
theorem par_eq {x : Nat} (n : Nat) (h : x < 2 ^ n) : par x = xs n x.testBit := by
  have h0 : x < 2 ^ x.log2.succ := Nat.lt_log2_self
  rcases Nat.le_total n x.log2.succ with q | q
  · obtain ⟨m, e⟩ := Nat.exists_eq_add_of_le q
    unfold par; rw [e, xs_add, xs_zero (f := fun i => x.testBit (n + i)) fun i _ => tb_ge h (by omega)]; cases xs n _ <;> rfl
  · obtain ⟨m, e⟩ := Nat.exists_eq_add_of_le q
    unfold par; rw [e, xs_add, xs_zero (f := fun i => x.testBit (x.log2.succ + i)) fun i _ => tb_ge h0 (by omega)]; cases xs x.log2.succ _ <;> rfl
theorem par_mk (f : Nat → Bool) (n : Nat) : par (mk n f) = xs n f := by
  rw [par_eq n (mk_lt f n)]; exact xs_congr fun i hi => by rw [tb_mk]; simp [hi]
theorem par_zero : par 0 = false := by rw [par_eq 0 (by decide)]; rfl
theorem xs_cons (f : Nat → Bool) (n : Nat) : xs (n + 1) f = xor (f 0) (xs n fun i => f (i + 1)) := by
  rw [Nat.add_comm, xs_add]; show xor (xor false (f 0)) _ = _
  rw [xs_congr (f := fun i => f (1 + i)) (g := fun i => f (i + 1)) fun i _ => by rw [Nat.add_comm]]; cases f 0 <;> rfl
theorem par_step (x : Nat) : par x = xor (x.testBit 0) (par (x / 2)) := by
  have h0 : x < 2 ^ x.log2.succ := Nat.lt_log2_self
  have h1 : x < 2 ^ (x.log2.succ + 1) := Nat.lt_of_lt_of_le h0 (Nat.pow_le_pow_right (by decide) (by omega))
  rw [par_eq _ h1, xs_cons, par_eq (x := x / 2) x.log2.succ (by rw [Nat.pow_succ] at h1; omega)]
  rw [xs_congr (f := fun i => x.testBit (i + 1)) (g := (x / 2).testBit) fun i _ => by rw [Nat.testBit_add_one]]
/-- the lowest bit falls -/
theorem par_drop : ∀ (x : Nat), 0 < x → par (x &&& (x - 1)) = !par x := by
  intro x
  induction x using Nat.strongRecOn with
  | ind x ih =>
    intro hx
    rcases Nat.mod_two_eq_zero_or_one x with e | e
    · have h2 : 0 < x / 2 := by omega
      have := ih (x / 2) (by omega) h2
      rw [par_step x, par_step (x &&& (x - 1))]
      have a1 : (x &&& (x - 1)) / 2 = (x / 2) &&& (x / 2 - 1) := by
        have q : (x - 1) / 2 = x / 2 - 1 := by omega
        apply Nat.eq_of_testBit_eq; intro i
        rw [← Nat.testBit_add_one, Nat.testBit_and, Nat.testBit_and, Nat.testBit_add_one, Nat.testBit_add_one, q]
      have a2 : (x &&& (x - 1)).testBit 0 = false := by
        rw [Nat.testBit_and]; have : x.testBit 0 = false := by rw [Nat.testBit_zero]; simp [e]
        rw [this]; rfl
      have a3 : x.testBit 0 = false := by rw [Nat.testBit_zero]; simp [e]
      rw [a1, a2, a3, this]; cases par (x / 2) <;> rfl
    · rw [par_step x, par_step (x &&& (x - 1))]
      have a1 : (x &&& (x - 1)) / 2 = x / 2 := by
        have q : (x - 1) / 2 = x / 2 := by omega
        apply Nat.eq_of_testBit_eq; intro i
        rw [← Nat.testBit_add_one, Nat.testBit_and, Nat.testBit_add_one, Nat.testBit_add_one, q]; cases (x / 2).testBit i <;> rfl
      have a2 : (x &&& (x - 1)).testBit 0 = false := by
        rw [Nat.testBit_and]; have : (x - 1).testBit 0 = false := by rw [Nat.testBit_zero]; simp; omega
        rw [this]; simp
      have a3 : x.testBit 0 = true := by rw [Nat.testBit_zero]; simp [e]
      rw [a1, a2, a3]; cases par (x / 2) <;> rfl
theorem drop_lt {x : Nat} (h : 0 < x) : x &&& (x - 1) < x := Nat.lt_of_le_of_lt Nat.and_le_right (by omega)

/-! ### combinations of rows -/
def cmb : Nat → (Nat → Nat) → (Nat → Bool) → Nat
  | 0, _, _ => 0
  | n + 1, r, f => cmb n r f ^^^ (if f n then r n else 0)
theorem tb_cmb (r : Nat → Nat) (f : Nat → Bool) (j : Nat) : ∀ n, (cmb n r f).testBit j = xs n fun i => f i && (r i).testBit j
  | 0 => by show (0 : Nat).testBit j = false; simp
  | n + 1 => by
    show (cmb n r f ^^^ _).testBit j = xor _ _
    rw [Nat.testBit_xor, tb_cmb r f j n]
    show xor _ _ = xor _ (f n && (r n).testBit j)
    congr 1; cases f n
    · exact Nat.zero_testBit j
    · rfl
theorem cmb_congr {r r' : Nat → Nat} {f g : Nat → Bool} {n : Nat} (h : ∀ i, i < n → f i = g i) (hr : ∀ i, i < n → r i = r' i) : cmb n r f = cmb n r' g :=
  Nat.eq_of_testBit_eq fun j => by rw [tb_cmb, tb_cmb]; exact xs_congr fun i hi => by rw [h i hi, hr i hi]
theorem cmb_xor (r : Nat → Nat) (f g : Nat → Bool) (n : Nat) : cmb n r (fun i => xor (f i) (g i)) = cmb n r f ^^^ cmb n r g :=
  Nat.eq_of_testBit_eq fun j => by
    rw [Nat.testBit_xor, tb_cmb, tb_cmb, tb_cmb, ← xs_xor]
    exact xs_congr fun i _ => by cases f i <;> cases g i <;> simp
def Sp : List Nat → Nat → Prop
  | [], v => v = 0
  | k :: ks, v => Sp ks v ∨ Sp ks (v ^^^ k)
theorem Sp.zero : ∀ ks, Sp ks 0
  | [] => rfl
  | _ :: ks => .inl (Sp.zero ks)
theorem xor_help (a b c : Nat) : a ^^^ b ^^^ c = a ^^^ c ^^^ b := by rw [Nat.xor_assoc, Nat.xor_comm b c, ← Nat.xor_assoc]
theorem xor_can (a b : Nat) : a ^^^ b ^^^ b = a := by rw [Nat.xor_assoc, Nat.xor_self, Nat.xor_zero]
theorem Sp.xor : ∀ {ks : List Nat} {u v : Nat}, Sp ks u → Sp ks v → Sp ks (u ^^^ v)
  | [], u, v, h, k => by cases h; cases k; rfl
  | k :: ks, u, v, h, q => by
    rcases h with h | h <;> rcases q with q | q
    · exact .inl (h.xor q)
    · refine .inr ?_; rw [Nat.xor_assoc]; exact h.xor q
    · refine .inr ?_; rw [xor_help]; exact h.xor q
    · refine .inl ?_
      have := h.xor q
      rwa [Nat.xor_assoc, Nat.xor_comm v k, ← Nat.xor_assoc k k v, Nat.xor_self, Nat.zero_xor] at this
theorem Sp.of_mem : ∀ {ks : List Nat} {v : Nat}, v ∈ ks → Sp ks v
  | k :: ks, v, h => by
    rcases List.mem_cons.mp h with e | h
    · subst e; refine .inr ?_; rw [Nat.xor_self]; exact Sp.zero ks
    · exact .inl (Sp.of_mem h)
theorem Sp.sub {ks : List Nat} (P : Nat → Prop) (h0 : P 0) (hx : ∀ u v, P u → P v → P (u ^^^ v)) (h : ∀ k, k ∈ ks → P k) : ∀ {v : Nat}, Sp ks v → P v := by
  induction ks with
  | nil => intro v e; cases e; exact h0
  | cons k ks ih =>
    intro v e
    rcases e with e | e
    · exact ih (fun x hx => h x (List.mem_cons_of_mem _ hx)) e
    · have := hx _ _ (ih (fun x hx => h x (List.mem_cons_of_mem _ hx)) e) (h k (List.mem_cons_self ..))
      rwa [xor_can] at this
def Good : List Nat → Prop
  | [] => True
  | k :: ks => k ≠ 0 ∧ (∀ o, o ∈ ks → o.testBit k.log2 = false) ∧ Good ks
theorem tb_log2 {k : Nat} (h : k ≠ 0) : k.testBit k.log2 = true := by
  rw [Nat.testBit_eq_decide_div_mod_eq]
  have h1 : 2 ^ k.log2 ≤ k := Nat.log2_self_le h
  have h2 : k < 2 ^ (k.log2 + 1) := Nat.lt_log2_self
  have : k / 2 ^ k.log2 = 1 := by
    rw [Nat.pow_succ] at h2
    apply Nat.le_antisymm
    · exact Nat.lt_succ_iff.mp ((Nat.div_lt_iff_lt_mul (Nat.pow_pos (by decide))).mpr (by omega))
    · exact (Nat.le_div_iff_mul_le (Nat.pow_pos (by decide))).mpr (by omega)
  rw [this]; rfl
theorem tb_above {k j : Nat} (h : k.log2 < j) : k.testBit j = false := tb_ge (n := k.log2 + 1) Nat.lt_log2_self h
theorem lt_iff {r k : Nat} (h : k ≠ 0) : r ^^^ k < r ↔ r.testBit k.log2 = true := by
  constructor
  · intro q
    cases e : r.testBit k.log2 with
    | true => rfl
    | false =>
      exfalso
      refine Nat.lt_asymm q (lt_of_tb k.log2 e ?_ ?_)
      · rw [Nat.testBit_xor, e, tb_log2 h]; rfl
      · intro j hj; rw [Nat.testBit_xor, tb_above hj]; simp
  · intro e
    refine lt_of_tb k.log2 ?_ e ?_
    · rw [Nat.testBit_xor, e, tb_log2 h]; rfl
    · intro j hj; rw [Nat.testBit_xor, tb_above hj]; simp
def red : List (Nat × Nat) → Nat → Nat → Nat × Nat
  | [], r, m => (r, m)
  | (o, q) :: ks, r, m => if r ^^^ o < r then red ks (r ^^^ o) (m ^^^ q) else red ks r m
theorem red_app (o q : Nat) : ∀ (ks : List (Nat × Nat)) (r m : Nat), red (ks ++ [(o, q)]) r m = (let p := red ks r m; if p.1 ^^^ o < p.1 then (p.1 ^^^ o, p.2 ^^^ q) else p)
  | [], r, m => by show (if _ then _ else _) = _; rfl
  | (o', q') :: ks, r, m => by
    show (if _ then _ else _) = _
    simp only [red]
    by_cases h : r ^^^ o' < r
    · simp only [h, if_true]; exact red_app o q ks _ _
    · simp only [h, if_false]; exact red_app o q ks _ _
theorem Sp.bit : ∀ {ks : List Nat} {v p : Nat}, (∀ o, o ∈ ks → o.testBit p = false) → Sp ks v → v.testBit p = false := fun {ks v p} h s =>
  s.sub (fun v => v.testBit p = false) (by simp) (fun u v a b => by show (u ^^^ v).testBit p = false; rw [Nat.testBit_xor, a, b]; rfl) h
theorem red_zero : ∀ {ks : List (Nat × Nat)} {r : Nat} (m : Nat), Good (ks.map (·.1)) → Sp (ks.map (·.1)) r → (red ks r m).1 = 0
  | [], r, m, _, h => h
  | (o, q) :: ks, r, m, g, h => by
    show (if r ^^^ o < r then red ks (r ^^^ o) (m ^^^ q) else red ks r m).1 = 0
    rcases h with h | h
    · have : r.testBit o.log2 = false := h.bit g.2.1
      rw [if_neg (by rw [lt_iff g.1, this]; exact Bool.false_ne_true)]
      exact red_zero m g.2.2 h
    · have h1 : (r ^^^ o).testBit o.log2 = false := h.bit g.2.1
      have : r.testBit o.log2 = true := by rw [Nat.testBit_xor, tb_log2 g.1] at h1; cases e : r.testBit o.log2 <;> rw [e] at h1 <;> first | rfl | cases h1
      rw [if_pos ((lt_iff g.1).mpr this)]
      exact red_zero _ g.2.2 h
theorem red_keep {p : Nat} : ∀ {ks : List (Nat × Nat)} {r : Nat} (m : Nat), (∀ o, o ∈ ks.map (·.1) → o.testBit p = false) → r.testBit p = false → (red ks r m).1.testBit p = false
  | [], r, m, _, h => h
  | (o, q) :: ks, r, m, g, h => by
    show (if r ^^^ o < r then red ks (r ^^^ o) (m ^^^ q) else red ks r m).1.testBit p = false
    by_cases e : r ^^^ o < r
    · rw [if_pos e]; exact red_keep _ (fun o ho => g o (List.mem_cons_of_mem _ ho)) (by rw [Nat.testBit_xor, h, g o (List.mem_cons_self ..)]; rfl)
    · rw [if_neg e]; exact red_keep _ (fun o ho => g o (List.mem_cons_of_mem _ ho)) h
theorem Good.snoc : ∀ {ks : List Nat} {l : Nat}, Good ks → l ≠ 0 → (∀ o, o ∈ ks → l.testBit o.log2 = false) → Good (ks ++ [l])
  | [], l, _, h, _ => ⟨h, fun _ h => (by cases h), trivial⟩
  | k :: ks, l, g, h, c => ⟨g.1, fun o ho => by
      rcases List.mem_append.mp ho with ho | ho
      · exact g.2.1 o ho
      · cases List.mem_singleton.mp ho; exact c k (List.mem_cons_self ..), g.2.2.snoc h fun o ho => c o (List.mem_cons_of_mem _ ho)⟩
theorem red_clear : ∀ {ks : List (Nat × Nat)} {r : Nat} (m : Nat), Good (ks.map (·.1)) → ∀ o, o ∈ ks.map (·.1) → (red ks r m).1.testBit o.log2 = false
  | (o, q) :: ks, r, m, g, o', h => by
    show (if r ^^^ o < r then red ks (r ^^^ o) (m ^^^ q) else red ks r m).1.testBit o'.log2 = false
    rcases List.mem_cons.mp h with e | h
    · have e' : o' = o := e
      subst e'
      by_cases e : r ^^^ o' < r
      · rw [if_pos e]
        refine red_keep _ g.2.1 ?_
        rw [Nat.testBit_xor, (lt_iff g.1).mp e, tb_log2 g.1]; rfl
      · rw [if_neg e]
        refine red_keep _ g.2.1 ?_
        cases q : r.testBit o'.log2 with
        | false => rfl
        | true => exact absurd ((lt_iff g.1).mpr q) e
    · by_cases e : r ^^^ o < r
      · rw [if_pos e]; exact red_clear _ g.2.2 o' h
      · rw [if_neg e]; exact red_clear _ g.2.2 o' h
/-- the kept rows of a span, of n rows r -/
structure SpanOk (n : Nat) (r : Nat → Nat) (kept : List (Nat × Nat)) : Prop where
  good : Good (kept.map (·.1))
  made : ∀ k, k ∈ kept → k.2 < 2 ^ n ∧ cmb n r k.2.testBit = k.1
  all : ∀ i, i < n → Sp (kept.map (·.1)) (r i)
theorem SpanOk.nil (r : Nat → Nat) : SpanOk 0 r [] := ⟨trivial, fun _ h => (by cases h), fun _ h => absurd h (Nat.not_lt_zero _)⟩
theorem cmb_sp {ks : List Nat} {r : Nat → Nat} (f : Nat → Bool) : ∀ {n : Nat}, (∀ i, i < n → Sp ks (r i)) → Sp ks (cmb n r f)
  | 0, _ => Sp.zero ks
  | n + 1, h => by
    show Sp ks (cmb n r f ^^^ _)
    refine (cmb_sp f fun i hi => h i (Nat.lt_succ_of_lt hi)).xor ?_
    cases f n
    · exact Sp.zero ks
    · exact h n (Nat.lt_succ_self n)
theorem red_made {n : Nat} {r : Nat → Nat} : ∀ {kept : List (Nat × Nat)} (row m : Nat), (∀ k, k ∈ kept → k.2 < 2 ^ n ∧ cmb n r k.2.testBit = k.1) → ∃ x, x < 2 ^ n ∧ red kept row m = (row ^^^ cmb n r x.testBit, m ^^^ x)
  | [], row, m, _ => ⟨0, Nat.pow_pos (by decide), by
      show (row, m) = _
      rw [cmb_congr (r' := r) (g := fun _ => false) (fun i _ => by simp) fun _ _ => rfl]
      have : cmb n r (fun _ => false) = 0 := Nat.eq_of_testBit_eq fun j => by rw [tb_cmb, xs_zero (f := fun i => false && (r i).testBit j) fun i _ => rfl]; simp
      rw [this, Nat.xor_zero, Nat.xor_zero]⟩
  | (o, q) :: ks, row, m, h => by
    have hk := fun k hk => h k (List.mem_cons_of_mem _ hk)
    show ∃ x, x < 2 ^ n ∧ (if row ^^^ o < row then red ks (row ^^^ o) (m ^^^ q) else red ks row m) = _
    by_cases e : row ^^^ o < row
    · rw [if_pos e]
      obtain ⟨x, hx, ex⟩ := red_made (row ^^^ o) (m ^^^ q) hk
      obtain ⟨hq, eq⟩ := h (o, q) (List.mem_cons_self ..)
      refine ⟨q ^^^ x, Nat.xor_lt_two_pow hq hx, ?_⟩
      rw [ex, cmb_congr (r' := r) (g := fun i => xor (q.testBit i) (x.testBit i)) (fun i _ => Nat.testBit_xor ..) fun _ _ => rfl, cmb_xor, eq, Nat.xor_assoc, Nat.xor_assoc]
    · rw [if_neg e]; exact red_made row m hk
theorem SpanOk.mem {n : Nat} {r : Nat → Nat} {kept : List (Nat × Nat)} (s : SpanOk n r kept) (row : Nat) :
    ((red kept row 0).1 = 0 → (red kept row 0).2 < 2 ^ n ∧ cmb n r (red kept row 0).2.testBit = row) ∧ ((red kept row 0).1 ≠ 0 → ¬ ∃ f, cmb n r f = row) := by
  obtain ⟨x, hx, ex⟩ := red_made row 0 s.made
  constructor
  · intro h
    rw [ex] at h ⊢
    have h' : row ^^^ cmb n r x.testBit = 0 := h
    have : cmb n r x.testBit = row := by
      have := xor_can row (cmb n r x.testBit); rwa [h', Nat.zero_xor] at this
    show 0 ^^^ x < 2 ^ n ∧ cmb n r (0 ^^^ x).testBit = row
    rw [Nat.zero_xor]; exact ⟨hx, this⟩
  · rintro h ⟨f, e⟩
    exact h (red_zero 0 s.good (e ▸ cmb_sp f s.all))
theorem SpanOk.put0 {n : Nat} {r : Nat → Nat} {kept : List (Nat × Nat)} (s : SpanOk n r kept) {row : Nat} (h : (red kept row 0).1 = 0) (e : r n = row) : SpanOk (n + 1) r kept where
  good := s.good
  made := fun k hk => by
    obtain ⟨a, b⟩ := s.made k hk
    refine ⟨Nat.lt_of_lt_of_le a (Nat.pow_le_pow_right (by decide) (by omega)), ?_⟩
    show cmb n r _ ^^^ (if k.2.testBit n then _ else _) = _
    rw [b, tb_ge a (Nat.le_refl _)]; simp
  all := fun i hi => by
    by_cases q : i < n
    · exact s.all i q
    · have : i = n := by omega
      subst this
      obtain ⟨f, g⟩ := (s.mem row).1 h
      rw [e, ← g]; exact cmb_sp _ s.all
theorem SpanOk.put1 {n : Nat} {r : Nat → Nat} {kept : List (Nat × Nat)} (s : SpanOk n r kept) {row : Nat} (h : (red kept row 0).1 ≠ 0) (e : r n = row) :
    SpanOk (n + 1) r (kept ++ [((red kept row 0).1, (red kept row 0).2 ||| 1 <<< n)]) where
  good := by
    rw [List.map_append]
    exact s.good.snoc h (red_clear 0 s.good)
  made := fun k hk => by
    rcases List.mem_append.mp hk with hk | hk
    · obtain ⟨a, b⟩ := s.made k hk
      refine ⟨Nat.lt_of_lt_of_le a (Nat.pow_le_pow_right (by decide) (by omega)), ?_⟩
      show cmb n r _ ^^^ (if k.2.testBit n then _ else _) = _
      rw [b, tb_ge a (Nat.le_refl _)]; simp
    · cases List.mem_singleton.mp hk
      obtain ⟨x, hx, ex⟩ := red_made row 0 s.made
      rw [ex]
      show (0 ^^^ x) ||| 1 <<< n < 2 ^ (n + 1) ∧ cmb (n + 1) r ((0 ^^^ x) ||| 1 <<< n).testBit = row ^^^ _
      rw [Nat.zero_xor]
      constructor
      · refine Nat.or_lt_two_pow (Nat.lt_of_lt_of_le hx (Nat.pow_le_pow_right (by decide) (by omega))) ?_
        rw [Nat.one_shiftLeft]; exact Nat.pow_lt_pow_right (by decide) (by omega)
      · show cmb n r _ ^^^ (if _ then _ else _) = _
        have : (x ||| 1 <<< n).testBit n = true := by rw [Nat.testBit_or, tb_shl_one]; simp
        rw [this, cmb_congr (r' := r) (g := x.testBit) (fun i hi => by rw [Nat.testBit_or, tb_shl_one]; have : i ≠ n := by omega
                                                                       simp [this]) fun _ _ => rfl]
        simp only [if_true]; rw [e, Nat.xor_comm]
  all := fun i hi => by
    have mono : ∀ {v}, Sp (kept.map (·.1)) v → Sp ((kept ++ [((red kept row 0).1, (red kept row 0).2 ||| 1 <<< n)]).map (·.1)) v := fun {v} hv =>
      hv.sub _ (Sp.zero _) (fun _ _ => Sp.xor) fun k hk => Sp.of_mem (by rw [List.map_append]; exact List.mem_append_left _ hk)
    by_cases q : i < n
    · exact mono (s.all i q)
    · have : i = n := by omega
      subst this
      obtain ⟨x, hx, ex⟩ := red_made row 0 s.made
      have h1 : Sp (kept.map (·.1)) (cmb i r x.testBit) := cmb_sp _ s.all
      have h2 : Sp ((kept ++ [((red kept row 0).1, (red kept row 0).2 ||| 1 <<< i)]).map (·.1)) ((red kept row 0).1) := Sp.of_mem (by rw [List.map_append]; exact List.mem_append_right _ (List.mem_cons_self ..))
      have := h2.xor (mono h1)
      rw [show (red kept row 0).1 = row ^^^ cmb i r x.testBit by rw [ex], xor_can] at this
      rw [e]
      rw [show (red kept row 0).1 = row ^^^ cmb i r x.testBit by rw [ex]] at *
      exact this
/-- either a combination, or a test that tells -/
theorem apart (r : Nat → Nat) (L : Nat) : ∀ (n : Nat) (v : Nat), (∀ i, i < n → r i < 2 ^ L) → v < 2 ^ L → (¬ ∃ f, cmb n r f = v) → ∃ y : Nat → Bool, (∀ i, i < n → xs L (fun j => y j && (r i).testBit j) = false) ∧ xs L (fun j => y j && v.testBit j) = true
  | 0, v, _, hv, h => by
    have : v ≠ 0 := fun e => h ⟨fun _ => false, e.symm⟩
    have hl : v.log2 < L := by
      rcases Nat.lt_or_ge v.log2 L with q | q
      · exact q
      · have := tb_log2 this; rw [tb_ge hv q] at this; cases this
    refine ⟨fun j => decide (j = v.log2), fun i hi => absurd hi (Nat.not_lt_zero _), ?_⟩
    rw [xs_one hl fun i _ hi => by simp [hi]]; simp [tb_log2 this]
  | n + 1, v, hr, hv, h => by
    have hr' := fun i hi => hr i (Nat.lt_succ_of_lt hi)
    have hn := hr n (Nat.lt_succ_self n)
    have up : ∀ (f : Nat → Bool) (b : Bool), cmb (n + 1) r (fun i => if i = n then b else f i) = cmb n r f ^^^ (if b then r n else 0) := fun f b => by
      show cmb n r _ ^^^ _ = _
      rw [cmb_congr (r' := r) (g := f) (fun i hi => if_neg (Nat.ne_of_lt hi)) fun _ _ => rfl]; simp
    obtain ⟨y, hy, yv⟩ := apart r L n v hr' hv fun ⟨f, e⟩ => h ⟨fun i => if i = n then false else f i, by rw [up, e]; simp⟩
    cases e : xs L (fun j => y j && (r n).testBit j) with
    | false => exact ⟨y, fun i hi => by
        by_cases q : i < n
        · exact hy i q
        · have : i = n := by omega
          subst this; exact e, yv⟩
    | true =>
      obtain ⟨z, hz, zv⟩ := apart r L n (v ^^^ r n) hr' (Nat.xor_lt_two_pow hv hn) fun ⟨f, e⟩ => h ⟨fun i => if i = n then true else f i, by rw [up, e]; simp; rw [xor_can]⟩
      have zv' : xor (xs L fun j => z j && v.testBit j) (xs L fun j => z j && (r n).testBit j) = true := by
        rw [← xs_xor, ← zv]; exact xs_congr fun j _ => by rw [Nat.testBit_xor]; cases z j <;> simp
      cases q : xs L (fun j => z j && (r n).testBit j) with
      | false =>
        rw [q] at zv'
        refine ⟨z, fun i hi => ?_, by cases w : xs L (fun j => z j && v.testBit j) <;> rw [w] at zv' <;> first | rfl | cases zv'⟩
        by_cases q' : i < n
        · exact hz i q'
        · have : i = n := by omega
          subst this; exact q
      | true =>
        rw [q] at zv'
        have zv0 : xs L (fun j => z j && v.testBit j) = false := by cases w : xs L (fun j => z j && v.testBit j) <;> rw [w] at zv' <;> first | rfl | cases zv'
        have both : ∀ u : Nat, xs L (fun j => xor (y j) (z j) && u.testBit j) = xor (xs L fun j => y j && u.testBit j) (xs L fun j => z j && u.testBit j) := fun u => by
          rw [← xs_xor]; exact xs_congr fun j _ => by cases y j <;> cases z j <;> simp
        refine ⟨fun j => xor (y j) (z j), fun i hi => ?_, by rw [both, yv, zv0]; rfl⟩
        rw [both]
        by_cases q' : i < n
        · rw [hy i q', hz i q']; rfl
        · have : i = n := by omega
          subst this; rw [e, q]; rfl
/-- one-to-one on the first 2^n masks is onto -/
theorem len_le : ∀ (n : Nat) (l : List Nat), l.Nodup → (∀ x, x ∈ l → x < n) → l.length ≤ n
  | 0, [], _, _ => Nat.le_refl _
  | 0, x :: _, _, h => absurd (h x (List.mem_cons_self ..)) (Nat.not_lt_zero _)
  | n + 1, l, d, h => by
    have h1 := len_le n (l.erase n) (d.erase n) fun x hx => by
      have a := (d.mem_erase_iff.mp hx); have := h x a.2; omega
    have : l.length ≤ (l.erase n).length + 1 := by rw [List.length_erase]; split <;> omega
    omega
theorem onto {N : Nat} {f : Nat → Nat} (hf : ∀ x, x < N → f x < N) (inj : ∀ x y, x < N → y < N → f x = f y → x = y) {z : Nat} (hz : z < N) : ∃ x, x < N ∧ f x = z := by
  refine Classical.byContradiction fun no => ?_
  have d : (z :: (List.range N).map f).Nodup := by
    refine List.nodup_cons.mpr ⟨fun h => ?_, ?_⟩
    · obtain ⟨x, hx, e⟩ := List.mem_map.mp h; exact no ⟨x, List.mem_range.mp hx, e⟩
    · rw [List.Nodup, List.pairwise_map]
      exact List.Pairwise.imp_of_mem (fun {a b} ha hb hab e => hab (inj a b (List.mem_range.mp ha) (List.mem_range.mp hb) e)) List.nodup_range
  have tooLong := len_le N _ d fun x hx => by
    rcases List.mem_cons.mp hx with e | hx
    · rw [e]; exact hz
    · obtain ⟨y, hy, e⟩ := List.mem_map.mp hx; rw [← e]; exact hf y (List.mem_range.mp hy)
  rw [List.length_cons, List.length_map, List.length_range] at tooLong; omega
end BB
end
section
/-! plain data and loops -/
namespace BB
open PySem DL
abbrev nI (n : Nat) : D := .int (n : Int)
abbrev bN (b : Bool) : D := nI b.toNat
abbrev bitL (n : Nat) (f : Nat → Bool) : List D := (List.range n).map fun i => bN (f i)
abbrev mkL (r n : Nat) (a : Nat → Nat → Bool) : List D := (List.range r).map fun i => nI (mk n (a i))
abbrev gridL (r n : Nat) (a : Nat → Nat → Bool) : List D := (List.range r).map fun i => .lst (bitL n (a i))
abbrev gridT (r n : Nat) (a : Nat → Nat → Bool) : List D := (List.range r).map fun i => .tup (bitL n (a i))
theorem rng_get {α : Type} {f : Nat → α} {n i : Nat} {x : α} (h : ((List.range n).map f)[i]? = some x) : i < n ∧ x = f i := by
  rw [List.getElem?_map] at h
  by_cases q : i < n
  · rw [List.getElem?_range q] at h; cases h; exact ⟨q, rfl⟩
  · rw [List.getElem?_eq_none (by rw [List.length_range]; omega)] at h; cases h
theorem rng_at {α : Type} {f : Nat → α} {n i : Nat} (h : i < n) : ((List.range n).map f)[i]? = some (f i) := by
  rw [List.getElem?_map, List.getElem?_range h]; rfl
theorem rangeD_nat (n : Nat) : rangeD (n : Int) = (List.range n).map nI := rfl
theorem enum_get {ys : List D} {i : Nat} {x : D} (h : (enumD ys)[i]? = some x) : ∃ y, ys[i]? = some y ∧ x = .tup [nI i, y] := by
  unfold enumD at h
  rw [List.getElem?_mapIdx] at h
  cases e : ys[i]? with
  | none => rw [e] at h; cases h
  | some y => rw [e] at h; cases h; exact ⟨y, rfl, rfl⟩
theorem zip_get {xs ys : List D} {i : Nat} {z : D} (h : (zipD xs ys)[i]? = some z) : ∃ x y, xs[i]? = some x ∧ ys[i]? = some y ∧ z = .tup [x, y] := by
  unfold zipD at h
  rw [List.getElem?_zipWith] at h
  cases ex : xs[i]? with
  | none => rw [ex] at h; cases h
  | some x =>
    cases ey : ys[i]? with
    | none => rw [ex, ey] at h; cases h
    | some y => rw [ex, ey] at h; cases h; exact ⟨x, y, rfl, rfl, rfl⟩
theorem enum_len (ys : List D) : (enumD ys).length = ys.length := List.length_mapIdx ..
theorem rng_len {α : Type} (f : Nat → α) (n : Nat) : ((List.range n).map f).length = n := by rw [List.length_map, List.length_range]
/-- an index within -/
theorem ix_nat {α : Type} (xs : List α) (i : Nat) : L2.atI xs (i : Int) = xs[i]? := by
  unfold L2.atI L2.ixN
  rw [if_pos (Int.natCast_nonneg i)]
  by_cases h : i < xs.length
  · rw [if_pos (by omega)]; rfl
  · rw [if_neg (by omega), List.getElem?_eq_none (by omega)]; rfl
theorem at_zero {α : Type} (x : α) (l : List α) : L2.atI (x :: l) 0 = some x := ix_nat (x :: l) 0
theorem bIx_l {xs : List D} {i : Nat} {d : D} {M : MM} {P : PQ} (h : xs[i]? = some d) (hp : P d M) : bIx (.lst xs) (nI i) M P := by
  show (match L2.atI xs (i : Int) with
    | some d => P d M
    | none => False)
  rw [ix_nat, h]; exact hp
theorem ixm {xs : List D} {i : Nat} {d : D} {M : MM} {P : D → MM → Prop} (h : xs[i]? = some d) (hp : P d M) : (match L2.atI xs (i : Int) with
    | some d => P d M
    | none => False) := by
  rw [ix_nat, h]; exact hp
theorem eqP {Q : D → MM → Prop} {d d' : D} {M : MM} (h : Q d M) (e : d' = d) : Q d' M := e ▸ h
theorem eqPM {Q : D → MM → Prop} {d d' : D} {M M' : MM} (h : Q d M) (e : d' = d) (f : M' = M) : Q d' M' := e ▸ f ▸ h
/-! ### ints that are naturals -/
theorem i_and (a b : Nat) : Builtin.bitAnd (a : Int) (b : Int) = ((a &&& b : Nat) : Int) := by
  rw [PyProof.Rows.bitAnd_pp (Int.natCast_nonneg _) (Int.natCast_nonneg _), Int.toNat_natCast, Int.toNat_natCast]
theorem i_or (a b : Nat) : Builtin.bitOr (a : Int) (b : Int) = ((a ||| b : Nat) : Int) := by
  rw [Bits.bitOr_pp (Int.natCast_nonneg _) (Int.natCast_nonneg _), Int.toNat_natCast, Int.toNat_natCast]
theorem i_xor (a b : Nat) : Builtin.bitXor (a : Int) (b : Int) = ((a ^^^ b : Nat) : Int) := by
  rw [Bits.bitXor_pp (Int.natCast_nonneg _) (Int.natCast_nonneg _), Int.toNat_natCast, Int.toNat_natCast]
theorem i_shl (a b : Nat) : (a : Int) * (2 : Int) ^ ((b : Int)).toNat = ((a <<< b : Nat) : Int) := by
  rw [Int.toNat_natCast, Nat.shiftLeft_eq, Int.natCast_mul]; congr 1
theorem i_shr (a b : Nat) : (a : Int) / (2 : Int) ^ ((b : Int)).toNat = ((a >>> b : Nat) : Int) := by
  rw [Int.toNat_natCast, Nat.shiftRight_eq_div_pow, Int.natCast_ediv]; congr 1
theorem i_bit (x i : Nat) : Builtin.bitAnd ((x : Int) / (2 : Int) ^ ((i : Int)).toNat) 1 = ((x.testBit i).toNat : Int) := by
  rw [i_shr, show (1 : Int) = ((1 : Nat) : Int) from rfl, i_and]
  congr 1
  rw [Nat.and_one_is_mod, Nat.shiftRight_eq_div_pow, Nat.toNat_testBit]
theorem i_bits (x : Nat) : x < 2 ^ Builtin.Int.intBits (x : Int) := by
  unfold Builtin.Int.intBits
  split
  · rename_i h; have : (x : Int) = 0 := by simpa using h
    have : x = 0 := by omega
    subst this; decide
  · exact Nat.lt_log2_self
theorem one_shl (k : Nat) : (1 : Int) * (2 : Int) ^ ((k : Int)).toNat = ((1 <<< k : Nat) : Int) := i_shl 1 k
/-! ### comprehensions that leave the store -/
theorem lcI_fil {ds : List D} {g : GT} {t : TT} {e : ET} {ρ : DL.Env} {M : MM} {P : List D → MM → Prop} (N : Nat) (p : Nat → Bool) (f : Nat → D) (hl : ds.length = N)
    (h : ∀ i x (Qt : D → MM → Prop) (Qf : MM → Prop), ds[i]? = some x → (p i = true → Qt (f i) M) → (p i = false → Qf M) → g x ρ M fun ρ1 M1 => t ρ1 M1 fun b M2 => match b with
      | true => e ρ1 M2 Qt
      | false => Qf M2)
    (hp : P (((List.range N).filter p).map f) M) : lcI ds g t e ρ M P := by
  refine ⟨fun i acc M' => M' = M ∧ acc = ((List.range i).filter p).map f, ⟨rfl, rfl⟩, ?_, ?_⟩
  · rintro i x acc M' hx ⟨rfl, rfl⟩
    refine h i x (fun y M3 => M3 = M' ∧ ((List.range i).filter p).map f ++ [y] = ((List.range (i + 1)).filter p).map f) (fun M3 => M3 = M' ∧ ((List.range i).filter p).map f = ((List.range (i + 1)).filter p).map f) hx (fun q => ⟨rfl, ?_⟩) fun q => ⟨rfl, ?_⟩
    · rw [List.range_succ, List.filter_append, List.map_append]; simp [q]
    · rw [List.range_succ, List.filter_append, List.map_append]; simp [q]
  · rintro acc M' ⟨rfl, rfl⟩; rw [hl]; exact hp
theorem lcI_map {ds : List D} {g : GT} {e : ET} {ρ : DL.Env} {M : MM} {P : List D → MM → Prop} (N : Nat) (f : Nat → D) (hl : ds.length = N)
    (h : ∀ i x (Qt : D → MM → Prop), ds[i]? = some x → i < N → Qt (f i) M → g x ρ M fun ρ1 M1 => e ρ1 M1 Qt)
    (hp : P ((List.range N).map f) M) : lcI ds g tYes e ρ M P := by
  refine ⟨fun i acc M' => M' = M ∧ acc = (List.range i).map f, ⟨rfl, rfl⟩, ?_, ?_⟩
  · rintro i x acc M' hx ⟨rfl, rfl⟩
    have hi : i < N := by rw [← hl]; exact (List.getElem?_eq_some_iff.mp hx).1
    refine h i x (fun y M3 => M3 = M' ∧ (List.range i).map f ++ [y] = (List.range (i + 1)).map f) hx hi ⟨rfl, ?_⟩
    rw [List.range_succ, List.map_append]; rfl
  · rintro acc M' ⟨rfl, rfl⟩; rw [hl]; exact hp
/-- over a list as such -/
theorem lcI_lst {ds : List D} {g : GT} {e : ET} {ρ : DL.Env} {M : MM} {P : List D → MM → Prop} (f : D → D)
    (h : ∀ x (Qt : D → MM → Prop), x ∈ ds → Qt (f x) M → g x ρ M fun ρ1 M1 => e ρ1 M1 Qt)
    (hp : P (ds.map f) M) : lcI ds g tYes e ρ M P := by
  refine ⟨fun i acc M' => M' = M ∧ acc = (ds.take i).map f, ⟨rfl, rfl⟩, ?_, ?_⟩
  · rintro i x acc M' hx ⟨rfl, rfl⟩
    refine h x (fun y M3 => M3 = M' ∧ (ds.take i).map f ++ [y] = (ds.take (i + 1)).map f) (List.mem_of_getElem? hx) ⟨rfl, ?_⟩
    rw [List.take_add_one, hx, List.map_append]; rfl
  · rintro acc M' ⟨rfl, rfl⟩; rw [List.take_length]; exact hp
theorem lcI_lfil {ds : List D} {g : GT} {t : TT} {e : ET} {ρ : DL.Env} {M : MM} {P : List D → MM → Prop} (p : D → Bool) (f : D → D)
    (h : ∀ x (Qt : D → MM → Prop) (Qf : MM → Prop), x ∈ ds → (p x = true → Qt (f x) M) → (p x = false → Qf M) → g x ρ M fun ρ1 M1 => t ρ1 M1 fun b M2 => match b with
      | true => e ρ1 M2 Qt
      | false => Qf M2)
    (hp : P ((ds.filter p).map f) M) : lcI ds g t e ρ M P := by
  refine ⟨fun i acc M' => M' = M ∧ acc = ((ds.take i).filter p).map f, ⟨rfl, rfl⟩, ?_, ?_⟩
  · rintro i x acc M' hx ⟨rfl, rfl⟩
    refine h x (fun y M3 => M3 = M' ∧ ((ds.take i).filter p).map f ++ [y] = ((ds.take (i + 1)).filter p).map f) (fun M3 => M3 = M' ∧ ((ds.take i).filter p).map f = ((ds.take (i + 1)).filter p).map f) (List.mem_of_getElem? hx) (fun q => ⟨rfl, ?_⟩) fun q => ⟨rfl, ?_⟩
    · rw [List.take_add_one, hx, List.filter_append, List.map_append]; simp [q]
    · rw [List.take_add_one, hx, List.filter_append, List.map_append]; simp [q]
  · rintro acc M' ⟨rfl, rfl⟩; rw [List.take_length]; exact hp
theorem fin_ok {P : PQ} {d : D} {M : MM} (h : P d M) : (finD P).rt d M := ⟨M, M.le_refl, h⟩
theorem fin_nx {P : PQ} {ρ : DL.Env} {M : MM} (h : P .non M) : (finD P).nx ρ M := ⟨M, M.le_refl, h⟩
end BB
end
section
/-! contracts: bit rows -/
namespace BB
open PySem DL
def c_number_of : CT := fun ds M P => ∃ n f, (ds = [.lst (bitL n f)] ∨ ds = [.tup (bitL n f)]) ∧ n ≤ 1000 ∧ P (nI (mk n f)) M
theorem l_number_of (ds : List D) (M : MM) (Q : PQ) (h : c_number_of ds M Q) : ds.length = 1 := by
  obtain ⟨n, f, rfl | rfl, _⟩ := h <;> rfl
theorem mk_or (f : Nat → Bool) (n : Nat) : mk n f ||| ((f n).toNat <<< n) = mk (n + 1) f := (mk_ext fun k => by
  rw [Nat.testBit_or, tb_mk, Nat.testBit_shiftLeft]
  by_cases h : k < n
  · have : ¬ k ≥ n := by omega
    simp [h, this, Nat.lt_succ_of_lt h]
  · by_cases e : k = n
    · subst e; simp; cases f k <;> rfl
    · have : ¬ k < n + 1 := by omega
      simp [h, this]; intro q
      cases f n
      · simp
      · show (1 : Nat).testBit (k - n) = false
        rw [tb_one]; simp; omega).symm
theorem k_number_of : Keeps 4 b_number_of c_number_of := by
  intro ds M P h
  obtain ⟨n, f, h, hn, hp⟩ := h
  have : ∀ x, (x = D.lst (bitL n f) ∨ x = .tup (bitL n f)) → b_number_of (finD P) (startD 4 [x]) M := by
    rintro x hx
    suffices b_number_of (finD P) (startD 4 [x]) M = ∃ I : Nat → DL.Env → MM → Prop, I 0 [some x, some (.int 0), none, none] M ∧
        (∀ i y ρ M, (enumD (bitL n f))[i]? = some y → I i ρ M → gTp [2, 3] y ρ M fun ρ1 M2 => sAug 1 bOr (mBin bShl (mVar 3) (mVar 2)) { nx := I (i + 1), ct := I (i + 1), bk := sRet (mVar 1) (finD P), rt := (finD P).rt } ρ1 M2) ∧
        ∀ ρ M, I (enumD (bitL n f)).length ρ M → sRet (mVar 1) (finD P) ρ M by
      rw [this]
      refine ⟨fun i ρ M' => M' = M ∧ ∃ u v, ρ = [some x, some (nI (mk i f)), u, v], ⟨rfl, none, none, rfl⟩, ?_, ?_⟩
      · rintro i y ρ M' hy ⟨rfl, u, v, rfl⟩
        obtain ⟨z, hz, rfl⟩ := enum_get hy
        obtain ⟨hi, rfl⟩ := rng_get hz
        conv => whnf
        refine ⟨rfl, ?_⟩
        conv => whnf
        refine ⟨?_, rfl, some (nI i), some (bN (f i)), ?_⟩
        · refine ⟨Int.natCast_nonneg _, ?_, ?_⟩
          · show (i : Int) ≤ 1000000; omega
          · cases f i <;> decide
        · show [some x, some (D.int (Builtin.bitOr (mk i f : Nat) (((f i).toNat : Int) * 2 ^ ((i : Int)).toNat))), some (nI i), some (bN (f i))] = _
          rw [i_shl, i_or, mk_or]
      · rintro ρ M' ⟨rfl, u, v, rfl⟩
        rw [enum_len, rng_len]
        exact fin_ok hp
    rcases hx with rfl | rfl <;> rfl
  rcases h with rfl | rfl
  · exact this _ (.inl rfl)
  · exact this _ (.inr rfl)

def c_bits_of : CT := fun ds M P => ∃ x n : Nat, ds = [nI x, nI n] ∧ n ≤ 1000 ∧ P (.tup (bitL n x.testBit)) M
theorem l_bits_of (ds : List D) (M : MM) (Q : PQ) (h : c_bits_of ds M Q) : ds.length = 2 := by
  obtain ⟨n, f, rfl, _⟩ := h; rfl
theorem k_bits_of : Keeps 3 b_bits_of c_bits_of := by
  rintro ds M P ⟨x, n, rfl, hn, hp⟩
  unfold b_bits_of
  conv => whnf
  refine ⟨by omega, ?_⟩
  refine lcI_map n (fun i => bN (x.testBit i)) (by rw [rangeD_nat, rng_len]) ?_ (fin_ok hp)
  intro i y Qt hy hi ht
  obtain ⟨hi, rfl⟩ := rng_get (rangeD_nat n ▸ hy)
  conv => whnf
  refine ⟨Int.natCast_nonneg _, ?_⟩
  exact eqP ht (congrArg D.int (i_bit x i))

def c_places_of : CT := fun ds M P => ∃ n f, ds = [nI (mk n f)] ∧ n ≤ 1000 ∧ P (.lst (((List.range n).filter f).map nI)) M
theorem l_places_of (ds : List D) (M : MM) (Q : PQ) (h : c_places_of ds M Q) : ds.length = 1 := by
  obtain ⟨n, f, rfl, _⟩ := h; rfl
theorem fil_le (f : Nat → Bool) : ∀ (n m : Nat), (∀ i, n ≤ i → i < n + m → f i = false) → (List.range (n + m)).filter f = (List.range n).filter f
  | n, 0, _ => rfl
  | n, m + 1, h => by
    rw [← Nat.add_assoc, List.range_succ, List.filter_append, fil_le f n m fun i a b => h i a (by omega)]
    simp [h (n + m) (by omega) (by omega)]
theorem fil_eq {f g : Nat → Bool} {n m : Nat} (hf : ∀ i, n ≤ i → f i = false) (hg : ∀ i, m ≤ i → g i = false) (h : ∀ i, f i = g i) : (List.range n).filter f = (List.range m).filter g := by
  have e : f = g := funext h
  subst e
  rcases Nat.le_total n m with q | q
  · obtain ⟨k, rfl⟩ := Nat.exists_eq_add_of_le q
    exact (fil_le f n k fun i a _ => hf i a).symm
  · obtain ⟨k, rfl⟩ := Nat.exists_eq_add_of_le q
    exact fil_le f m k fun i a _ => hg i a
theorem fil_congr {f g : Nat → Bool} {n : Nat} (h : ∀ i, i < n → f i = g i) : (List.range n).filter f = (List.range n).filter g :=
  List.filter_congr fun i hi => h i (List.mem_range.mp hi)
theorem bits_lt {x n : Nat} (h : x < 2 ^ n) : Builtin.Int.intBits (x : Int) ≤ n := by
  unfold Builtin.Int.intBits
  split
  · exact Nat.zero_le _
  · rename_i q
    have hx : x ≠ 0 := by simpa using q
    have : x.log2 < n := (Nat.log2_lt hx).mpr h
    show (x : Int).natAbs.log2 + 1 ≤ n
    rw [Int.natAbs_natCast]; omega
theorem k_places_of : Keeps 2 b_places_of c_places_of := by
  rintro ds M P ⟨n, f, rfl, hn, hp⟩
  unfold b_places_of
  conv => whnf
  have hb := bits_lt (mk_lt f n)
  refine ⟨by omega, ?_⟩
  refine lcI_fil (Builtin.Int.intBits (mk n f : Nat)) (mk n f).testBit nI (by rw [rangeD_nat, rng_len]) ?_ ?_
  · intro i y Qt Qf hy ht hf
    obtain ⟨hi, rfl⟩ := rng_get (rangeD_nat _ ▸ hy)
    conv => whnf
    refine ⟨Int.natCast_nonneg _, ?_⟩
    show (match (Builtin.bitAnd ((mk n f : Nat) / 2 ^ ((i : Int)).toNat) 1 != 0) with
      | true => Qt (nI i) M
      | false => Qf M)
    rw [i_bit]
    cases e : (mk n f).testBit i
    · exact hf e
    · exact ht e
  · have : (List.range (Builtin.Int.intBits (mk n f : Nat))).filter (mk n f).testBit = (List.range n).filter f := by
      rw [fil_congr (n := n) (f := f) (g := (mk n f).testBit) fun i hi => by rw [tb_mk]; simp [hi]]
      exact fil_eq (fun i hi => tb_ge (i_bits _) hi) (fun i hi => tb_ge (mk_lt f n) hi) fun _ => rfl
    exact fin_ok (this ▸ hp)

def c_parity : CT := fun ds M P => ∃ x : Nat, ds = [nI x] ∧ P (bN (par x)) M
theorem l_parity (ds : List D) (M : MM) (Q : PQ) (h : c_parity ds M Q) : ds.length = 1 := by
  obtain ⟨n, rfl, _⟩ := h; rfl
theorem k_parity : Keeps 2 b_parity c_parity := by
  rintro ds M P ⟨x, rfl, hp⟩
  unfold b_parity
  conv => whnf
  refine ⟨fun m ρ M' => M' = M ∧ ∃ b : Bool, ρ = [some (nI m), some (bN b)] ∧ xor b (par m) = par x, ⟨x, rfl, false, rfl, by simp⟩, ?_⟩
  rintro m ρ M' ⟨rfl, b, rfl, hb⟩
  conv => whnf
  rcases Nat.eq_zero_or_pos m with rfl | hm
  · have : b = par x := by rw [← hb, par_zero]; simp
    subst this
    exact fin_ok hp
  · have h1 : ((m : Int) != 0) = true := by rw [bne_iff_ne]; omega
    rw [h1]
    refine ⟨fun ρ' M2 => M2 = M' ∧ ρ' = [some (nI (m &&& (m - 1))), some (bN (!b))], ?_, ?_⟩
    · rintro ρ' M2 ⟨rfl, rfl⟩
      exact ⟨_, drop_lt hm, rfl, !b, rfl, by rw [par_drop m hm, ← hb]; cases b <;> cases par m <;> rfl⟩
    · conv => whnf
      refine ⟨rfl, ?_⟩
      show [some (D.int (Builtin.bitAnd (m : Int) ((m : Int) - 1))), some (D.int (Builtin.bitXor (b.toNat : Int) 1))] = _
      have e1 : (m : Int) - 1 = ((m - 1 : Nat) : Int) := by omega
      have e2 : Builtin.bitXor (b.toNat : Int) 1 = ((!b).toNat : Int) := by cases b <;> rfl
      rw [e1, i_and, e2]

/-- times, of rows that are masks -/
def c_times : CT := fun ds M P => ∃ (s r n : Nat) (a : Nat → Nat → Bool), ds = [nI s, .lst (mkL r n a)] ∧ P (nI (mk n fun j => xs r fun i => s.testBit i && a i j)) M
theorem l_times (ds : List D) (M : MM) (Q : PQ) (h : c_times ds M Q) : ds.length = 2 := by
  obtain ⟨_, _, _, _, rfl, _⟩ := h; rfl
theorem k_times : Keeps 5 b_times c_times := by
  rintro ds M P ⟨s, r, n, a, rfl, hp⟩
  unfold b_times
  conv => whnf
  refine ⟨fun i ρ M' => M' = M ∧ ∃ u v, ρ = [some (nI s), some (.lst (mkL r n a)), some (nI (mk n fun j => xs i fun i => s.testBit i && a i j)), u, v], ⟨rfl, none, none, ?_⟩, ?_, ?_⟩
  · show [some (nI s), some (.lst (mkL r n a)), some (nI 0), none, none] = _
    rw [show (mk n fun j => xs 0 fun i => s.testBit i && a i j) = 0 from mk_zero n]
  · rintro i y ρ M' hy ⟨rfl, u, v, rfl⟩
    obtain ⟨z, hz, rfl⟩ := enum_get hy
    obtain ⟨hi, rfl⟩ := rng_get hz
    conv => whnf
    refine ⟨rfl, ?_⟩
    conv => whnf
    refine ⟨Int.natCast_nonneg _, ?_⟩
    show (match (Builtin.bitAnd ((s : Int) / 2 ^ ((i : Int)).toNat) 1 != 0) with
      | true => _
      | false => _)
    rw [i_bit]
    cases e : s.testBit i
    · refine ⟨rfl, some (nI i), some (nI (mk n (a i))), ?_⟩
      rw [show (mk n fun j => xs (i + 1) fun i => s.testBit i && a i j) = (mk n fun j => xs i fun i => s.testBit i && a i j) from mk_congr fun j _ => by
        show xor _ (s.testBit i && a i j) = _; rw [e]; exact Bool.xor_false _]
      rfl
    · refine ⟨rfl, some (nI i), some (nI (mk n (a i))), ?_⟩
      have : (mk n fun j => xs (i + 1) fun i => s.testBit i && a i j) = (mk n fun j => xs i fun i => s.testBit i && a i j) ^^^ mk n (a i) := by
        rw [mk_xor]; exact mk_congr fun j _ => by
          show xor _ (s.testBit i && a i j) = _; rw [e]; rfl
      rw [this]
      show [some (nI s), some (.lst (mkL r n a)), some (.int (Builtin.bitXor _ _)), _, _] = _
      rw [i_xor]
  · rintro ρ M' ⟨rfl, u, v, rfl⟩
    rw [enum_len, rng_len]
    exact fin_ok hp

def c_behind : CT := fun ds M P => ∃ (n r : Nat) (v : Nat → Bool) (a : Nat → Nat → Bool), ds = [nI (mk n v), .lst (mkL r n a)] ∧ r ≤ 1000 ∧ P (nI (mk r fun i => xs n fun j => a i j && v j)) M
theorem l_behind (ds : List D) (M : MM) (Q : PQ) (h : c_behind ds M Q) : ds.length = 2 := by
  obtain ⟨_, _, _, _, rfl, _⟩ := h; rfl
theorem k_behind : Keeps 5 (b_behind c_parity) c_behind := by
  rintro ds M P ⟨n, r, v, a, rfl, hr, hp⟩
  unfold b_behind
  conv => whnf
  refine ⟨fun i ρ M' => M' = M ∧ ∃ u w, ρ = [some (nI (mk n v)), some (.lst (mkL r n a)), some (nI (mk i fun i => xs n fun j => a i j && v j)), u, w], ⟨rfl, none, none, rfl⟩, ?_, ?_⟩
  · rintro i y ρ M' hy ⟨rfl, u, w, rfl⟩
    obtain ⟨z, hz, rfl⟩ := enum_get hy
    obtain ⟨hi, rfl⟩ := rng_get hz
    conv => whnf
    refine ⟨rfl, ?_⟩
    conv => whnf
    refine ⟨mk n fun j => a i j && v j, ?_, ?_⟩
    · show [D.int (Builtin.bitAnd _ _)] = _
      rw [i_and, mk_and]
    conv => whnf
    refine ⟨⟨Int.natCast_nonneg _, ?_, ?_⟩, ?_⟩
    · show (i : Int) ≤ 1000000; omega
    · cases par (mk n fun j => a i j && v j) <;> decide
    · conv => whnf
      refine ⟨rfl, some (nI i), some (nI (mk n (a i))), ?_⟩
      show [some (nI (mk n v)), some (.lst (mkL r n a)), some (D.int (Builtin.bitOr _ (((par (mk n fun j => a i j && v j)).toNat : Int) * 2 ^ ((i : Int)).toNat))), some (nI i), some (nI (mk n (a i)))] = _
      rw [par_mk, i_shl, i_or]
      rw [← mk_or (fun i => xs n fun j => a i j && v j)]
  · rintro ρ M' ⟨rfl, u, v, rfl⟩
    rw [enum_len, rng_len]
    exact fin_ok hp
end BB
end
section
/-! contracts: spans -/
namespace BB
open PySem DL
abbrev keptD (k : Nat × Nat) : D := .tup [nI k.1, nI k.2]
theorem isIns_ref {M : MM} {p C : Nat} {m : Str} {fs : List (Str × D)} (h : M p = some (.ins C fs)) (hm : fs.lookup m = none) : isIns M C m (.ref p) := by
  show (match M p with
    | some (.ins C' fs) => C' = C ∧ fs.lookup m = none
    | _ => False)
  rw [h]; exact ⟨rfl, hm⟩
theorem fld_ref {M : MM} {p C : Nat} {m : Str} {fs : List (Str × D)} (h : M p = some (.ins C fs)) : fldOf M C m (.ref p) = fs.lookup m := by
  show (match M p with
    | some (.ins C' fs) => if C' = C then fs.lookup m else none
    | _ => none) = _
  rw [h]; exact if_pos rfl
/-- the object of a span at p, its list at q -/
structure SpanAt (M : MM) (p q : Nat) (n : Nat) (kept : List (Nat × Nat)) : Prop where
  obj : M p = some (.ins 99 [("kept", .ref q), ("count", nI n)])
  lst : M q = some (.lst (kept.map keptD))
  ne : p ≠ q
def c_Span_reduced : CT := fun ds M P => ∃ p q n kept r, ds = [.ref p, nI r] ∧ SpanAt M p q n kept ∧ P (.tup [nI (red kept r 0).1, nI (red kept r 0).2]) M
theorem l_Span_reduced (ds : List D) (M : MM) (Q : PQ) (h : c_Span_reduced ds M Q) : ds.length = 2 := by
  obtain ⟨_, _, _, _, _, rfl, _⟩ := h; rfl
theorem red_take (kept : List (Nat × Nat)) (r m : Nat) {i : Nat} {k : Nat × Nat} (h : kept[i]? = some k) :
    red (kept.take (i + 1)) r m = (let p := red (kept.take i) r m; if p.1 ^^^ k.1 < p.1 then (p.1 ^^^ k.1, p.2 ^^^ k.2) else p) := by
  rw [List.take_add_one, h]; exact red_app k.1 k.2 _ r m
theorem k_Span_reduced : Keeps 5 b_Span_reduced c_Span_reduced := by
  rintro ds M P ⟨p, q, n, kept, r, rfl, s, hp⟩
  unfold b_Span_reduced
  conv => whnf; rw [fld_ref s.obj]; conv => whnf; rw [s.lst]
  refine ⟨fun i ρ M' => M' = M.del q ∧ ∃ u v, ρ = [some (.ref p), some (nI (red (kept.take i) r 0).1), some (nI (red (kept.take i) r 0).2), u, v], ⟨rfl, none, none, rfl⟩, ?_, ?_⟩
  · rintro i y ρ M' hy ⟨rfl, u, v, rfl⟩
    rw [List.getElem?_map] at hy
    cases e : kept[i]? with
    | none => rw [e] at hy; cases hy
    | some k =>
      rw [e] at hy; cases hy
      conv => whnf
      refine ⟨rfl, ?_⟩
      conv => whnf
      have ex : Builtin.bitXor ((red (kept.take i) r 0).1 : Int) (k.1 : Int) = (((red (kept.take i) r 0).1 ^^^ k.1 : Nat) : Int) := i_xor _ _
      have em : Builtin.bitXor ((red (kept.take i) r 0).2 : Int) (k.2 : Int) = (((red (kept.take i) r 0).2 ^^^ k.2 : Nat) : Int) := i_xor _ _
      have et := red_take kept r 0 e
      show (match decide (Builtin.bitXor ((red (kept.take i) r 0).1 : Int) (k.1 : Int) < ((red (kept.take i) r 0).1 : Int)) with
        | true => _
        | false => _)
      rw [ex]
      by_cases c : (red (kept.take i) r 0).1 ^^^ k.1 < (red (kept.take i) r 0).1
      · rw [decide_eq_true (Int.ofNat_lt.mpr c)]
        conv => whnf
        refine ⟨rfl, some (nI k.1), some (nI k.2), ?_⟩
        show [some (D.ref p), some (D.int (Builtin.bitXor _ _)), some (D.int (Builtin.bitXor _ _)), some (nI k.1), some (nI k.2)] = _
        rw [et]; simp only [c, if_true]
        rw [ex, em]
      · rw [decide_eq_false fun h => c (Int.ofNat_lt.mp h)]
        conv => whnf
        refine ⟨rfl, some (nI k.1), some (nI k.2), ?_⟩
        rw [et]; simp only [c, if_false]; rfl
  · rintro ρ M' ⟨rfl, u, v, rfl⟩
    rw [List.length_map, List.take_length]
    rw [MM.del_upd s.lst]
    refine ⟨?_, fin_ok hp⟩
    show (2 : Nat) ≤ 100000
    decide
/-- put: what comes is None, or the row was a sum of the rows before -/
def c_Span_put : CT := fun ds M P => ∃ p q n kept row r, ds = [.ref p, nI row] ∧ SpanAt M p q n kept ∧ n ≤ 1000 ∧ kept.length ≤ n ∧ SpanOk n r kept ∧ r n = row ∧
  ∀ kept' d, kept'.length ≤ n + 1 → SpanOk (n + 1) r kept' → ((¬ ∃ f, cmb n r f = row) → d = .non) → P d ((M.upd p (.ins 99 [("kept", .ref q), ("count", nI (n + 1))])).upd q (.lst (kept'.map keptD)))
theorem l_Span_put (ds : List D) (M : MM) (Q : PQ) (h : c_Span_put ds M Q) : ds.length = 2 := by
  obtain ⟨_, _, _, _, _, _, rfl, _⟩ := h; rfl
theorem k_Span_put : Keeps 5 (b_Span_put c_Span_reduced) c_Span_put := by
  rintro ds M P ⟨p, q, n, kept, row, r, rfl, s, hn, hl, ok, hr, hp⟩
  unfold b_Span_put
  conv => whnf
  refine ⟨isIns_ref s.obj rfl, ?_⟩
  conv => whnf
  refine ⟨p, q, n, kept, row, rfl, s, ?_⟩
  conv => whnf
  refine ⟨rfl, ?_⟩
  conv => whnf
  rw [fld_ref s.obj]
  conv => whnf
  refine ⟨⟨Int.natCast_nonneg _, by show (n : Int) ≤ _; omega, by decide⟩, ?_⟩
  conv => whnf
  rw [fld_ref s.obj]
  conv => whnf
  rw [s.obj]
  refine ⟨rfl, by show (2 : Nat) < 900; decide, ?_⟩
  have eN : (MO.ins 99 (putD "count" (D.int ((n : Int) + 1)) [("kept", D.ref q), ("count", nI n)])) = .ins 99 [("kept", .ref q), ("count", nI (n + 1))] := rfl
  have h1 : (M.upd p (MO.ins 99 [("kept", .ref q), ("count", nI (n + 1))])) p = some (MO.ins 99 [("kept", .ref q), ("count", nI (n + 1))]) := MM.upd_same
  have h2 : (M.upd p (MO.ins 99 [("kept", .ref q), ("count", nI (n + 1))])) q = some (.lst (kept.map keptD)) := by rw [MM.upd_ne s.ne.symm]; exact s.lst
  by_cases c : (red kept row 0).1 = 0
  · conv => whnf
    have e : (!(((red kept row 0).1 : Nat) : Int) != 0) = true := by rw [c]; rfl
    rw [e]
    have := hp kept (nI (red kept row 0).2) (by omega) (ok.put0 c hr) (fun no => absurd ⟨_, ((ok.mem row).1 c).2⟩ no)
    refine fin_ok (eqPM this rfl ?_)
    funext b
    by_cases e : b = q
    · subst e; rw [MM.upd_same]; exact h2
    · rw [MM.upd_ne e]; rfl
  · conv => whnf
    have e : (!(((red kept row 0).1 : Nat) : Int) != 0) = false := by
      have : (((red kept row 0).1 : Nat) : Int) ≠ 0 := by omega
      simpa using this
    rw [e]
    conv => whnf
    generalize hM : M.upd p _ = M1
    have hM' : M.upd p (MO.ins 99 [("kept", .ref q), ("count", nI (n + 1))]) = M1 := hM
    rw [hM'] at h1 h2 hp
    rw [fld_ref h1]
    conv => whnf
    refine ⟨by show (match M1 q with
      | some (.lst xs) => some xs
      | _ => none).isSome = true
               rw [h2]; rfl, ?_⟩
    conv => whnf
    refine ⟨by show (2 : Nat) ≤ 100000; decide, ?_⟩
    conv => whnf
    rw [h2]
    refine ⟨by rw [List.length_map]; show _ < 100000; omega, ?_⟩
    refine fin_ok (eqPM (hp (kept ++ [((red kept row 0).1, (red kept row 0).2 ||| 1 <<< n)]) .non (by rw [List.length_append]; simpa using hl) (ok.put1 c hr) fun _ => rfl) rfl ?_)
    rw [List.map_append]
    have : D.tup [D.int ((red kept row 0).1 : Nat), D.int (Builtin.bitOr ((red kept row 0).2 : Nat) ((1 : Int) * 2 ^ ((n : Int)).toNat))] = keptD ((red kept row 0).1, (red kept row 0).2 ||| 1 <<< n) := by
      rw [one_shl, i_or]
    exact congrArg (fun d => M1.upd q (.lst (kept.map keptD ++ [d]))) this
def c_Span___init__ : CT := fun ds M P => ∃ p n r s, ds = [.ref p, s] ∧ (s = .lst ((List.range n).map fun i => nI (r i)) ∨ (n = 0 ∧ s = .tup [])) ∧ M p = some (.ins 99 []) ∧ n ≤ 1000 ∧
  ∀ q kept, M q = none → kept.length ≤ n → SpanOk n r kept → P .non ((M.upd p (.ins 99 [("kept", .ref q), ("count", nI n)])).upd q (.lst (kept.map keptD)))
theorem l_Span___init__ (ds : List D) (M : MM) (Q : PQ) (h : c_Span___init__ ds M Q) : ds.length = 2 := by
  obtain ⟨_, _, _, _, rfl, _⟩ := h; rfl
theorem SpanAt.of {M : MM} {p q n : Nat} {kept : List (Nat × Nat)} (h : p ≠ q) : SpanAt ((M.upd p (.ins 99 [("kept", .ref q), ("count", nI n)])).upd q (.lst (kept.map keptD))) p q n kept :=
  ⟨by rw [MM.upd_ne h, MM.upd_same], MM.upd_same, h⟩
theorem MM.upd_comm {M : MM} {a b : Nat} {x y : MO} (h : a ≠ b) : (M.upd a x).upd b y = (M.upd b y).upd a x := by
  funext c; unfold MM.upd; by_cases e : c = a <;> by_cases f : c = b <;> simp [e, f]
  · omega
  · intro q; exact absurd q h
  · intro q; exact absurd q.symm h
theorem k_Span___init__ : Keeps 3 (b_Span___init__ c_Span_put) c_Span___init__ := by
  rintro ds M P ⟨p, n, r, sq, rfl, hs, hm, hn, hp⟩
  unfold b_Span___init__
  conv => whnf
  refine ⟨by show (0 : Nat) ≤ 100000; decide, ?_⟩
  intro q hq
  have hne : p ≠ q := fun e => by subst e; rw [hm] at hq; cases hq
  conv => whnf
  rw [MM.upd_ne hne, hm]
  refine ⟨rfl, by show (0 : Nat) < 900; decide, ?_⟩
  conv => whnf
  rw [MM.upd_same]
  refine ⟨rfl, by show (1 : Nat) < 900; decide, ?_⟩
  have key : ∃ I : Nat → DL.Env → MM → Prop, I 0 [some (.ref p), some sq, none] ((M.upd p (.ins 99 [("kept", .ref q), ("count", nI 0)])).upd q (.lst [])) ∧
      (∀ i y ρ M', ((List.range n).map fun i => nI (r i))[i]? = some y → I i ρ M' → gNm 2 y ρ M' fun ρ1 M2 => (sExpr (mMeth 99 "put" c_Span_put [] (mVar 0) (aCons (mVar 2) aNil))) { nx := I (i + 1), ct := I (i + 1), bk := (finD P).nx, rt := (finD P).rt } ρ1 M2) ∧
      ∀ ρ M', I n ρ M' → (finD P).nx ρ M' := by
    refine ⟨fun i ρ M' => ∃ kept u, ρ = [some (.ref p), some sq, u] ∧ kept.length ≤ i ∧ SpanOk i r kept ∧ M' = (M.upd p (.ins 99 [("kept", .ref q), ("count", nI i)])).upd q (.lst (kept.map keptD)), ⟨[], none, rfl, Nat.le_refl _, SpanOk.nil r, rfl⟩, ?_, ?_⟩
    · rintro i y ρ M' hy ⟨kept, u, rfl, hl, ok, rfl⟩
      obtain ⟨hi, rfl⟩ := rng_get hy
      have sa : SpanAt ((M.upd p (.ins 99 [("kept", .ref q), ("count", nI i)])).upd q (.lst (kept.map keptD))) p q i kept := SpanAt.of hne
      conv => whnf
      refine ⟨isIns_ref sa.obj rfl, ?_⟩
      conv => whnf
      refine ⟨p, q, i, kept, r i, r, rfl, sa, by omega, hl, ok, rfl, ?_⟩
      intro kept' d hl' ok' _
      refine ⟨kept', some (nI (r i)), rfl, hl', ok', ?_⟩
      funext b
      by_cases h1 : b = p <;> by_cases h2 : b = q <;> simp [MM.upd, h1, h2]
    · rintro ρ M' ⟨kept, u, rfl, hl, ok, rfl⟩
      exact fin_nx (hp q kept hq hl ok)
  generalize hM : MM.upd _ p _ = M1
  have hM' : M1 = (M.upd p (.ins 99 [("kept", .ref q), ("count", nI 0)])).upd q (.lst []) := by
    rw [← hM]; funext b
    unfold MM.upd
    by_cases h1 : b = p
    · subst h1; rw [if_pos rfl, if_neg hne, if_pos rfl]; rfl
    · by_cases h2 : b = q
      · subst h2; rw [if_neg h1, if_neg h1, if_pos rfl, if_pos rfl]
      · rw [if_neg h1, if_neg h1, if_neg h2, if_neg h2, if_neg h1]
  subst hM'
  obtain ⟨I, k0, k1, k2⟩ := key
  rcases hs with rfl | ⟨rfl, rfl⟩
  · exact ⟨I, k0, k1, by rw [rng_len]; exact k2⟩
  · exact ⟨I, k0, k1, k2⟩
def c_Span_made_of : CT := fun ds M P => ∃ p q n kept row r, ds = [.ref p, nI row] ∧ SpanAt M p q n kept ∧ SpanOk n r kept ∧
  (∀ x, x < 2 ^ n → cmb n r x.testBit = row → P (nI x) M) ∧ ((¬ ∃ f, cmb n r f = row) → P .non M)
theorem l_Span_made_of (ds : List D) (M : MM) (Q : PQ) (h : c_Span_made_of ds M Q) : ds.length = 2 := by
  obtain ⟨_, _, _, _, _, _, rfl, _⟩ := h; rfl
theorem k_Span_made_of : Keeps 4 (b_Span_made_of c_Span_reduced) c_Span_made_of := by
  rintro ds M P ⟨p, q, n, kept, row, r, rfl, s, ok, h1, h2⟩
  unfold b_Span_made_of
  conv => whnf
  refine ⟨isIns_ref s.obj rfl, ?_⟩
  conv => whnf
  refine ⟨p, q, n, kept, row, rfl, s, ?_⟩
  conv => whnf
  refine ⟨rfl, ?_⟩
  conv => whnf
  by_cases c : (red kept row 0).1 = 0
  · have e : ((((red kept row 0).1 : Nat) : Int) != 0) = false := by rw [c]; rfl
    rw [e]
    exact fin_ok (h1 _ ((ok.mem row).1 c).1 ((ok.mem row).1 c).2)
  · have e : ((((red kept row 0).1 : Nat) : Int) != 0) = true := by
      have : (((red kept row 0).1 : Nat) : Int) ≠ 0 := by omega
      simpa using this
    rw [e]
    exact fin_ok (h2 ((ok.mem row).2 c))
end BB
end
section
/-! contracts: combined -/
namespace BB
open PySem DL
theorem le_span {M : MM} {p q : Nat} {X Y Z : MO} (hp : M p = none) (hq : (M.upd p X) q = none) : M.le (((M.upd p X).upd p Y).upd q Z) := fun a o e => by
  have h1 : a ≠ p := fun h => by rw [h, hp] at e; cases e
  have h2 : a ≠ q := fun h => by rw [← h, MM.upd_ne h1, e] at hq; cases hq
  rw [MM.upd_ne h2, MM.upd_ne h1, MM.upd_ne h1]; exact e
theorem fin_le {P : PQ} {d : D} {M M' : MM} (l : M'.le M) (h : P d M') : (finD P).rt d M := ⟨M', l, h⟩
theorem fin_lenx {P : PQ} {ρ : DL.Env} {M M' : MM} (l : M'.le M) (h : P .non M') : (finD P).nx ρ M := ⟨M', l, h⟩
theorem ne_of_fresh {M : MM} {p q : Nat} {X : MO} (hq : (M.upd p X) q = none) : p ≠ q := fun e => by subst e; rw [MM.upd_same] at hq; cases hq
/-- the bit of a number in a row -/
theorem col_bit (n : Nat) (f : Nat → Bool) {j : Nat} (h : j < n) : Builtin.bitAnd ((mk n f : Nat) / (2 : Int) ^ ((j : Int)).toNat) 1 = ((f j).toNat : Int) := by
  rw [i_bit, tb_mk]; simp [h]
theorem cmb_mk {N n : Nat} {c : Nat → Nat → Bool} {g : Nat → Bool} {f : Nat → Bool} : cmb n (fun j => mk N fun i => c i j) f = mk N g ↔ ∀ i, i < N → xs n (fun j => f j && c i j) = g i := by
  constructor
  · intro h i hi
    have := congrArg (fun x => x.testBit i) h
    simp only [tb_cmb, tb_mk, hi, decide_true, Bool.true_and] at this
    exact this
  · intro h
    refine (mk_ext fun k => ?_).symm
    rw [tb_cmb]
    by_cases hk : k < N
    · rw [← h k hk]; simp only [hk, decide_true, Bool.true_and]; exact xs_congr fun j _ => by rw [tb_mk]; simp [hk]
    · simp only [hk, decide_false, Bool.false_and]; exact xs_zero fun j _ => by rw [tb_mk]; simp [hk]
def c_combined : CT := fun ds M P => ∃ N n col g, ds = [.lst (mkL N n col), .lst (bitL N g), nI n] ∧ n ≤ 1000 ∧ N ≤ 1000 ∧
  (∀ x, x < 2 ^ n → (∀ i, i < N → xs n (fun j => x.testBit j && col i j) = g i) → P (.tup [nI x, .non]) M) ∧
  ∀ y, y < 2 ^ N → (∀ j, j < n → xs N (fun i => y.testBit i && col i j) = false) → xs N (fun i => y.testBit i && g i) = true → P (.tup [.non, nI y]) M
theorem l_combined (ds : List D) (M : MM) (Q : PQ) (h : c_combined ds M Q) : ds.length = 3 := by
  obtain ⟨_, _, _, _, rfl, _⟩ := h; rfl
theorem longer_eq (n : Nat) (f : Nat → Bool) (b : Bool) : mk n f ||| (b.toNat <<< n) = mk (n + 1) fun j => if j < n then f j else b := by
  have := mk_cat f (fun _ => b) n 1
  rw [← this]; congr 2; show _ = 0 + b.toNat * 2 ^ 0; omega
theorem k_combined : Keeps 9 (b_combined c_Span___init__ c_Span_made_of c_number_of) c_combined := by
  rintro ds M P ⟨N, n, col, g, rfl, hn, hN, h1, h2⟩
  unfold b_combined
  (conv => whnf)
  refine ⟨by omega, ?_⟩
  refine lcI_map n (fun j => nI (mk N fun i => col i j)) (by rw [rangeD_nat, rng_len]) ?_ ?_
  · intro j y Qt hy hj ht
    obtain ⟨_, rfl⟩ := rng_get (rangeD_nat n ▸ hy)
    (conv => whnf)
    refine lcI_map N (fun i => bN (col i j)) (rng_len _ _) ?_ ?_
    · intro i y Qt hy hi ht
      obtain ⟨_, rfl⟩ := rng_get hy
      (conv => whnf)
      exact ⟨Int.natCast_nonneg _, eqP ht (congrArg D.int (col_bit n (col i) hj))⟩
    · (conv => whnf)
      exact ⟨N, fun i => col i j, .inl rfl, hN, ht⟩
  · (conv => whnf)
    intro p hp
    (conv => whnf)
    refine ⟨p, n, fun j => mk N fun i => col i j, _, rfl, .inl rfl, MM.upd_same, hn, ?_⟩
    intro q kept hq hl ok
    have hne := ne_of_fresh hq
    have sa := SpanAt.of (M := M.upd p (.ins 99 [])) (n := n) (kept := kept) hne
    (conv => whnf)
    refine ⟨isIns_ref sa.obj rfl, ?_⟩
    (conv => whnf)
    refine ⟨N, g, .inl rfl, hN, ?_⟩
    (conv => whnf)
    refine ⟨p, q, n, kept, mk N g, _, rfl, sa, ok, ?_, ?_⟩
    · intro x hx e
      (conv => whnf)
      refine ⟨by show (2 : Nat) ≤ 100000; decide, ?_⟩
      exact fin_le (le_span hp hq) (h1 x hx (cmb_mk.mp e))
    · intro no
      (conv => whnf)
      refine lcI_map N (fun i => nI (mk (n + 1) fun j => if j < n then col i j else g i)) ?_ ?_ ?_
      · show (List.zipWith _ _ _).length = N
        rw [List.length_zipWith, rng_len, rng_len]; omega
      · intro i y Qt hy hi ht
        obtain ⟨u, v, hu, hv, rfl⟩ := zip_get hy
        obtain ⟨_, rfl⟩ := rng_get hu
        obtain ⟨_, rfl⟩ := rng_get hv
        (conv => whnf)
        refine ⟨rfl, ?_⟩
        (conv => whnf)
        refine ⟨⟨Int.natCast_nonneg _, by show (n : Int) ≤ _; omega, by cases g i <;> decide⟩, ?_⟩
        refine eqP ht (congrArg D.int ?_)
        show Builtin.bitOr (mk n (col i) : Nat) (((g i).toNat : Int) * (2 : Int) ^ ((n : Int)).toNat) = _
        rw [i_shl, i_or, longer_eq]
      · have le1 := le_span (Y := .ins 99 [("kept", .ref q), ("count", nI n)]) (Z := .lst (kept.map keptD)) hp hq
        generalize (((M.upd p (.ins 99 [])).upd p (.ins 99 [("kept", .ref q), ("count", nI n)])).upd q (.lst (kept.map keptD))) = M2 at le1 sa ⊢
        (conv => whnf)
        intro p' hp'
        (conv => whnf)
        refine ⟨p', N, fun i => mk (n + 1) fun j => if j < n then col i j else g i, _, rfl, .inl rfl, MM.upd_same, hN, ?_⟩
        intro q' kept' hq' hl' ok'
        have hne' := ne_of_fresh hq'
        have sa' := SpanAt.of (M := M2.upd p' (.ins 99 [])) (n := N) (kept := kept') hne'
        (conv => whnf)
        refine ⟨isIns_ref sa'.obj rfl, ?_⟩
        (conv => whnf)
        refine ⟨⟨Int.natCast_nonneg _, by show (n : Int) ≤ _; omega, by decide⟩, ?_⟩
        have ev : (1 <<< n : Nat) = mk (n + 1) fun j => decide (j = n) := (mk_one (Nat.lt_succ_self n)).symm
        have tell : ∀ f : Nat → Bool, cmb N (fun i => mk (n + 1) fun j => if j < n then col i j else g i) f = (1 <<< n : Nat) ↔ (∀ j, j < n → xs N (fun i => f i && col i j) = false) ∧ xs N (fun i => f i && g i) = true := by
          intro f
          rw [ev, cmb_mk (c := fun j i => if j < n then col i j else g i)]
          constructor
          · intro h
            refine ⟨fun j hj => ?_, ?_⟩
            · have := h j (by omega)
              simp only [hj, if_true] at this
              rw [this]; simp; omega
            · have := h n (by omega)
              simp only [Nat.lt_irrefl, if_false] at this
              rw [this]; simp
          · rintro ⟨a, b⟩ j hj
            by_cases e : j < n
            · simp only [e, if_true]; rw [a j e]; simp; omega
            · have : j = n := by omega
              subst this; simp only [Nat.lt_irrefl, if_false]; rw [b]; simp
        refine ⟨p', q', N, kept', 1 <<< n, _, ?_, sa', ok', ?_, ?_⟩
        · show [D.ref p', D.int ((1 : Int) * (2 : Int) ^ ((n : Int)).toNat)] = _
          rw [one_shl]
        · intro y hy e
          (conv => whnf)
          refine ⟨by show (2 : Nat) ≤ 100000; decide, ?_⟩
          exact fin_le (MM.le_trans le1 (le_span hp' hq')) (h2 y hy ((tell _).mp e).1 ((tell _).mp e).2)
        · intro no'
          exfalso
          obtain ⟨y, hy, yv⟩ := apart (fun j => mk N fun i => col i j) N n (mk N g) (fun j _ => mk_lt _ _) (mk_lt _ _) no
          refine no' ⟨y, (tell y).mpr ⟨fun j hj => ?_, ?_⟩⟩
          · rw [← hy j hj]; exact xs_congr fun i hi => by rw [tb_mk]; simp [hi]
          · rw [← yv]; exact xs_congr fun i hi => by rw [tb_mk]; simp [hi]
end BB
end
section
/-! nets -/
namespace BB
open PySem DL
theorem dec_beq (j x : Nat) : decide (j = x) = (x == j) := by
  by_cases q : j = x
  · subst q; simp
  · rw [decide_eq_false q, beq_false_of_ne fun h => q h.symm]
inductive Wire where
  | inp | cell (s b : Nat) | sum (l : List Nat)
def Wire.srcs : Wire → List Nat
  | .inp => [] | .cell s _ => [s] | .sum l => l
def wireD : Wire → D
  | .inp => .tup [.str "in"] | .cell s b => .tup [.str "cell", nI s, nI b] | .sum l => .tup (.str "sum" :: l.map nI)
def isSum (W : List Wire) (v : Nat) : Bool := match W[v]? with
  | some (.sum _) => true
  | _ => false
def isCell (W : List Wire) (v : Nat) : Bool := match W[v]? with
  | some (.cell _ _) => true
  | _ => false
def isInp (W : List Wire) (v : Nat) : Bool := match W[v]? with
  | some .inp => true
  | _ => false
/-- the sources of a sum -/
def src (W : List Wire) (v : Nat) : List Nat := match W[v]? with
  | some (.sum l) => l
  | _ => []
structure WF (W : List Wire) : Prop where
  src : ∀ w, w ∈ W → ∀ x, x ∈ w.srcs → x < W.length
  bit : ∀ s b, Wire.cell s b ∈ W → b ≤ 1
  len : W.length ≤ 16
  wide : ∀ l, Wire.sum l ∈ W → l.length ≤ 1000
theorem isSum_lt {W : List Wire} {v : Nat} (h : isSum W v = true) : v < W.length := by
  unfold isSum at h
  rcases Nat.lt_or_ge v W.length with q | q
  · exact q
  · rw [List.getElem?_eq_none q] at h; cases h
theorem isSum_at {W : List Wire} {v : Nat} (h : isSum W v = true) : W[v]? = some (.sum (src W v)) := by
  unfold isSum at h; unfold src
  cases e : W[v]? with
  | none => rw [e] at h; cases h
  | some w => cases w <;> rw [e] at h <;> first | rfl | cases h
theorem isSum_of {W : List Wire} {v : Nat} {l : List Nat} (h : W[v]? = some (.sum l)) : isSum W v = true ∧ src W v = l := by
  unfold isSum src; rw [h]; exact ⟨rfl, rfl⟩
theorem WF.src_lt {W : List Wire} (h : WF W) {v x : Nat} (hx : x ∈ BB.src W v) : x < W.length := by
  unfold BB.src at hx
  cases e : W[v]? with
  | none => rw [e] at hx; cases hx
  | some w =>
    rw [e] at hx
    cases w with
    | inp => cases hx
    | cell s b => cases hx
    | sum l => exact h.src _ (List.mem_of_getElem? e) x hx
/-- every sum is the sum of its sources -/
def Sol (W : List Wire) (x : Nat → Bool) : Prop := ∀ v, isSum W v = true → x v = xl (src W v) x
structure Flip (W : List Wire) (p : Nat → Bool) : Prop where
  some : ∃ v, p v = true
  sums : ∀ v, p v = true → isSum W v = true
  sol : Sol W p
def NoFlip (W : List Wire) : Prop := ¬ ∃ p, Flip W p
theorem sol_one {W : List Wire} (hw : WF W) (nf : NoFlip W) {x y : Nat → Bool} (hx : Sol W x) (hy : Sol W y) (h : ∀ v, v < W.length → isSum W v = false → x v = y v) : ∀ v, v < W.length → x v = y v := by
  intro v hv
  refine Classical.byContradiction fun no => nf ⟨fun u => decide (u < W.length) && xor (x u) (y u), ⟨v, ?_⟩, ?_, ?_⟩
  · simp only [hv, decide_true, Bool.true_and]; revert no; generalize x v = a, y v = b; cases a <;> cases b <;> simp
  · intro u hu
    have h1 : u < W.length := by simp at hu; exact hu.1
    cases e : isSum W u with
    | true => rfl
    | false => simp [h1, h u h1 e] at hu
  · intro u hu
    show (decide (u < W.length) && xor (x u) (y u)) = _
    rw [xl_congr (l := src W u) (g := fun z => xor (x z) (y z)) fun z hz => by simp [hw.src_lt hz], xl_xor, ← hx u hu, ← hy u hu]
    simp [isSum_lt hu]
theorem sol_ex {W : List Wire} (hw : WF W) (nf : NoFlip W) (known : Nat → Bool) : ∃ y, Sol W y ∧ ∀ v, v < W.length → isSum W v = false → y v = known v := by
  let F : Nat → Nat := fun x => mk W.length fun v => if isSum W v then xor (x.testBit v) (xl (src W v) x.testBit) else x.testBit v
  have hF : ∀ x v, v < W.length → (F x).testBit v = if isSum W v then xor (x.testBit v) (xl (src W v) x.testBit) else x.testBit v := fun x v hv => by
    show (mk _ _).testBit v = _; rw [tb_mk]; simp [hv]
  obtain ⟨x, hx, ex⟩ := onto (N := 2 ^ W.length) (f := F) (fun x _ => mk_lt _ _) (fun x y hx hy e => by
    refine Nat.eq_of_testBit_eq fun v => ?_
    rcases Nat.lt_or_ge v W.length with hv | hv
    case inr => rw [tb_ge hx (by omega), tb_ge hy (by omega)]
    refine Classical.byContradiction fun no => nf ⟨fun u => decide (u < W.length) && xor (x.testBit u) (y.testBit u), ⟨v, ?_⟩, ?_, ?_⟩
    · simp only [hv, decide_true, Bool.true_and]; revert no; generalize x.testBit v = a, y.testBit v = b; cases a <;> cases b <;> simp
    · intro u hu
      have h1 : u < W.length := by simp at hu; exact hu.1
      cases q : isSum W u with
      | true => rfl
      | false =>
        have a := hF x u h1; have b := hF y u h1
        rw [e, q] at a; rw [q] at b; rw [a] at b
        have b' : x.testBit u = y.testBit u := b
        simp [h1, b'] at hu
    · intro u hu
      have h1 := isSum_lt hu
      have a := hF x u h1; have b := hF y u h1
      rw [e, hu] at a; rw [hu] at b; rw [a] at b
      have b' : xor (x.testBit u) (xl (src W u) x.testBit) = xor (y.testBit u) (xl (src W u) y.testBit) := b
      show (decide (u < W.length) && xor (x.testBit u) (y.testBit u)) = _
      rw [xl_congr (l := src W u) (g := fun z => xor (x.testBit z) (y.testBit z)) fun z hz => by simp [hw.src_lt hz], xl_xor]
      simp only [h1, decide_true, Bool.true_and]
      revert b'; generalize xl (src W u) x.testBit = s, xl (src W u) y.testBit = t, x.testBit u = c, y.testBit u = d
      cases s <;> cases t <;> cases c <;> cases d <;> simp) (z := mk W.length fun v => if isSum W v then false else known v) (mk_lt _ _)
  refine ⟨x.testBit, fun v hv => ?_, fun v hv h => ?_⟩
  · have h1 := isSum_lt hv
    have a := hF x v h1
    rw [ex, tb_mk, hv] at a
    simp only [h1, decide_true, Bool.true_and, if_true] at a
    revert a; generalize xl (src W v) x.testBit = s, x.testBit v = c
    cases s <;> cases c <;> simp
  · have a := hF x v hv
    rw [ex, tb_mk, h] at a
    simpa [hv] using a.symm
/-- filtered sums leave no flips -/
theorem noflip_cut {W W' : List Wire} (hs : ∀ v, isSum W' v = true → ∀ x, x ∈ src W' v → isSum W' x = true → x < v) : NoFlip W' := by
  rintro ⟨p, ⟨v, hv⟩, hsum, hsol⟩
  have : ∀ v, p v = false := by
    intro v
    induction v using Nat.strongRecOn with
    | ind v ih =>
      cases e : p v with
      | false => rfl
      | true =>
        have := hsol v (hsum v e)
        rw [e] at this
        obtain ⟨x, hx, px⟩ := xl_ex this.symm
        have := ih x (hs v (hsum v e) x hx (hsum x px))
        rw [px] at this; cases this
  rw [this v] at hv; cases hv
/-! ### the equations -/
def eqn (W : List Wire) (v : Nat) : Nat := mk W.length fun j => xor (j == v) (xl (src W v) fun x => x == j)
def sumsOf (W : List Wire) : List Nat := (List.range W.length).filter (isSum W)
theorem xs_xl (f : Nat → Nat → Bool) (n : Nat) : ∀ l : List Nat, xs n (fun i => xl l fun x => f i x) = xl l fun x => xs n fun i => f i x
  | [] => xs_zero fun _ _ => rfl
  | x :: l => by rw [xl_cons, ← xs_xl f n l, ← xs_xor]; exact xs_congr fun i _ => rfl
theorem mem_sums {W : List Wire} {v : Nat} : v ∈ sumsOf W ↔ isSum W v = true := by
  unfold sumsOf; rw [List.mem_filter, List.mem_range]; exact ⟨fun h => h.2, fun h => ⟨isSum_lt h, h⟩⟩
theorem sums_nodup (W : List Wire) : (sumsOf W).Nodup := List.nodup_range.filter _
theorem getD_at {l : List Nat} {k : Nat} (h : k < l.length) : l[k]? = some (l.getD k 0) := by
  rw [List.getD_eq_getElem?_getD, List.getElem?_eq_getElem h]; rfl
theorem getD_mem {l : List Nat} {k : Nat} (h : k < l.length) : l.getD k 0 ∈ l := List.mem_of_getElem? (getD_at h)
theorem getD_inj {l : List Nat} (d : l.Nodup) {i k : Nat} (hi : i < l.length) (hk : k < l.length) (e : l.getD i 0 = l.getD k 0) : i = k := by
  have := getD_at hi; rw [e, ← getD_at hk] at this
  exact (List.getElem?_inj hi d).mp this
theorem mem_getD {l : List Nat} {v : Nat} (h : v ∈ l) : ∃ k, k < l.length ∧ l.getD k 0 = v := by
  obtain ⟨k, hk⟩ := List.getElem?_of_mem h
  have hl := (List.getElem?_eq_some_iff.mp hk).1
  exact ⟨k, hl, by have := getD_at hl; rw [hk] at this; exact (Option.some.inj this).symm⟩
theorem lst_rng (l : List Nat) : l = (List.range l.length).map fun k => l.getD k 0 := by
  apply List.ext_getElem?; intro k
  by_cases h : k < l.length
  · rw [rng_at h]; exact getD_at h
  · rw [List.getElem?_eq_none (by omega), List.getElem?_eq_none (by rw [rng_len]; omega)]
theorem eqn_sol {W : List Wire} (hw : WF W) {v : Nat} (hv : v < W.length) (x : Nat → Bool) : xs W.length (fun j => x j && (eqn W v).testBit j) = xor (x v) (xl (src W v) x) := by
  rw [xs_congr (g := fun j => xor (x j && (j == v)) (x j && xl (src W v) fun z => z == j)) fun j hj => by unfold eqn; rw [tb_mk]; simp only [hj, decide_true, Bool.true_and]; cases x j <;> simp]
  rw [xs_xor, xs_one hv fun i _ hi => by rw [beq_false_of_ne hi]; simp]
  congr 1
  · simp
  · rw [xl_xs x W.length (src W v) fun z hz => hw.src_lt hz]; exact xs_congr fun j _ => Bool.and_comm _ _
/-- no flips: the columns of the sums stand apart -/
theorem cols_apart {W : List Wire} (hw : WF W) (nf : NoFlip W) {k : Nat} (hk : k < (sumsOf W).length) :
    ¬ ∃ f, cmb k (fun k => mk (sumsOf W).length fun e => (eqn W ((sumsOf W).getD e 0)).testBit ((sumsOf W).getD k 0)) f = mk (sumsOf W).length fun e => (eqn W ((sumsOf W).getD e 0)).testBit ((sumsOf W).getD k 0) := by
  rintro ⟨f, hf⟩
  have d := sums_nodup W
  generalize hS : sumsOf W = S at *
  let g : Nat → Bool := fun i => if i = k then true else f i
  let p : Nat → Bool := fun v => xs (k + 1) fun i => g i && (S.getD i 0 == v)
  have pS : ∀ i, i < k + 1 → p (S.getD i 0) = g i := fun i hi => by
    show xs (k + 1) _ = _
    rw [xs_one hi fun j hj hne => by
      rw [beq_false_of_ne fun e => hne (getD_inj d (by omega) (by omega) e)]; simp]
    simp
  refine nf ⟨p, ⟨S.getD k 0, by rw [pS k (by omega)]; exact if_pos rfl⟩, ?_, ?_⟩
  · intro v hv
    obtain ⟨i, hi, e⟩ := xs_ex hv
    have : S.getD i 0 = v := by simp at e; exact e.2
    rw [← mem_sums, hS, ← this]; exact getD_mem (by omega)
  · intro v hv
    rw [← mem_sums, hS] at hv
    obtain ⟨e, he, rfl⟩ := mem_getD hv
    have h1 : xs (k + 1) (fun i => g i && (eqn W (S.getD e 0)).testBit (S.getD i 0)) = false := by
      show xor (xs k _) (g k && (eqn W (S.getD e 0)).testBit (S.getD k 0)) = false
      have h2 := congrArg (fun x => x.testBit e) hf
      simp only [tb_cmb, tb_mk, he, decide_true, Bool.true_and] at h2
      rw [xs_congr (g := fun i => f i && (eqn W (S.getD e 0)).testBit (S.getD i 0)) fun i hi => by show (g i && _) = _; rw [show g i = f i from if_neg (by omega)]]
      rw [h2, show g k = true from if_pos rfl]; simp
    have hl : ∀ i, i < k + 1 → S.getD i 0 < W.length := fun i hi => isSum_lt (mem_sums.mp (by rw [hS]; exact getD_mem (by omega)))
    rw [xs_congr (g := fun i => xor (g i && (S.getD i 0 == S.getD e 0)) (g i && xl (src W (S.getD e 0)) fun x => x == S.getD i 0)) fun i hi => by
      unfold eqn; rw [tb_mk]; simp only [hl i hi, decide_true, Bool.true_and]; cases g i <;> simp, xs_xor] at h1
    have h2 : xs (k + 1) (fun i => g i && xl (src W (S.getD e 0)) fun x => x == S.getD i 0) = xl (src W (S.getD e 0)) p := by
      rw [← xs_xl]
      refine xs_congr fun i _ => ?_
      cases g i
      · simp only [Bool.false_and]; exact (xl_false _).symm
      · simp only [Bool.true_and]; exact xl_congr fun x _ => by
          generalize S.getD i 0 = z
          by_cases q : x = z
          · subst q; rfl
          · rw [beq_false_of_ne q, beq_false_of_ne fun h => q h.symm]
    rw [h2] at h1
    show xs (k + 1) _ = _
    revert h1
    generalize xs (k + 1) (fun i => g i && (S.getD i 0 == S.getD e 0)) = a, xl (src W (S.getD e 0)) p = b
    cases a <;> cases b <;> simp
/-- no flips: each sum alone is a combination of the inner parts -/
theorem rows_all {W : List Wire} (hw : WF W) (nf : NoFlip W) {v : Nat} (hv : isSum W v = true) :
    ∃ f, cmb (sumsOf W).length (fun e => eqn W ((sumsOf W).getD e 0) &&& mk W.length (isSum W)) f = 1 <<< v := by
  refine Classical.byContradiction fun no => ?_
  have hl := isSum_lt hv
  obtain ⟨y, hy, yv⟩ := apart (fun e => eqn W ((sumsOf W).getD e 0) &&& mk W.length (isSum W)) W.length _ _ (fun i _ => Nat.lt_of_le_of_lt Nat.and_le_left (mk_lt _ _)) (by rw [Nat.one_shiftLeft]; exact Nat.pow_lt_pow_right (by decide) hl) no
  refine nf ⟨fun j => isSum W j && y j, ⟨v, ?_⟩, fun u hu => by simp at hu; exact hu.1, ?_⟩
  · rw [xs_one hl fun i _ hi => by rw [tb_shl_one]; simp [hi], tb_shl_one] at yv
    simp at yv; simp [hv, yv]
  · intro u hu
    obtain ⟨e, he, rfl⟩ := mem_getD (mem_sums.mpr hu)
    have h1 := hy e he
    rw [xs_congr (g := fun j => (isSum W j && y j) && (eqn W ((sumsOf W).getD e 0)).testBit j) fun j hj => by
      rw [Nat.testBit_and, tb_mk (isSum W)]; simp only [hj, decide_true, Bool.true_and]; cases y j <;> cases isSum W j <;> simp only [Bool.false_and, Bool.true_and, Bool.and_false, Bool.and_true], eqn_sol hw (isSum_lt hu)] at h1
    revert h1
    generalize xl (src W ((sumsOf W).getD e 0)) (fun j => isSum W j && y j) = b
    show xor ((fun j => isSum W j && y j) ((sumsOf W).getD e 0)) b = false → (fun j => isSum W j && y j) ((sumsOf W).getD e 0) = b
    generalize (fun j => isSum W j && y j) ((sumsOf W).getD e 0) = a
    cases a <;> cases b <;> simp
/-- what `settled` answers: each wire by the wires that are no sums -/
structure Solved (W : List Wire) (fnd : Nat → Nat → Bool) : Prop where
  out : ∀ v j, v < W.length → fnd v j = true → isSum W j = false
  eq : ∀ v, v < W.length → ∀ x, Sol W x → x v = xs W.length fun j => fnd v j && x j
theorem solved_sum {W : List Wire} (hw : WF W) {v m : Nat} (hv : isSum W v = true) (h : cmb (sumsOf W).length (fun e => eqn W ((sumsOf W).getD e 0) &&& mk W.length (isSum W)) m.testBit = 1 <<< v)
    {x : Nat → Bool} (hx : Sol W x) : x v = xs W.length fun j => ((xs (sumsOf W).length fun e => m.testBit e && (eqn W ((sumsOf W).getD e 0)).testBit j) && !isSum W j) && x j := by
  have hl := isSum_lt hv
  have h0 : xs W.length (fun j => (xs (sumsOf W).length fun e => m.testBit e && (eqn W ((sumsOf W).getD e 0)).testBit j) && x j) = false := by
    rw [xs_congr (g := fun j => xs (sumsOf W).length fun e => m.testBit e && (x j && (eqn W ((sumsOf W).getD e 0)).testBit j)) fun j _ => by
      rw [← xs_andr]; exact xs_congr fun e _ => by rw [Bool.and_assoc, Bool.and_comm (Nat.testBit _ j)]]
    rw [xs_swap]
    refine xs_zero fun e he => ?_
    have hs := mem_sums.mp (getD_mem he)
    rw [xs_andl, eqn_sol hw (isSum_lt hs), ← hx _ hs]; simp
  have h1 : ∀ j, j < W.length → isSum W j = true → (xs (sumsOf W).length fun e => m.testBit e && (eqn W ((sumsOf W).getD e 0)).testBit j) = decide (j = v) := fun j hj hs => by
    have := congrArg (fun z => z.testBit j) h
    simp only [tb_cmb, tb_shl_one, Nat.testBit_and, tb_mk, hj, hs, decide_true, Bool.and_true] at this
    exact this
  rw [xs_congr (g := fun j => xor (((xs (sumsOf W).length fun e => m.testBit e && (eqn W ((sumsOf W).getD e 0)).testBit j) && !isSum W j) && x j) (decide (j = v) && x j)) fun j hj => by
    cases hs : isSum W j with
    | true => rw [h1 j hj hs]; simp
    | false =>
      have : decide (j = v) = false := by simp; intro e; subst e; rw [hv] at hs; cases hs
      rw [this]; simp, xs_xor, xs_one (k := v) (f := fun j => decide (j = v) && x j) hl fun i _ hi => by simp [hi]] at h0
  revert h0
  generalize xs W.length _ = a
  simp only [decide_true, Bool.true_and]
  generalize x v = b
  cases a <;> cases b <;> simp
end BB
end
section
/-! contracts: settling -/
namespace BB
open PySem DL
theorem map_get {α : Type} {f : α → D} {l : List α} {i : Nat} {y : D} (h : (l.map f)[i]? = some y) : ∃ w, l[i]? = some w ∧ y = f w := by
  rw [List.getElem?_map] at h
  cases e : l[i]? with
  | none => rw [e] at h; cases h
  | some w => rw [e] at h; cases h; exact ⟨w, rfl, rfl⟩
theorem six1 (n d : Nat) : HT.sIx n d (some 1) = min 1 n := HT.sIx_nat n d 1
theorem cut_ne (n : Nat) (o : Option Int) : ¬ (HT.sIx (n + 1) 0 (some 1) = 0 ∧ HT.sIx (n + 1) (n + 1) o = n + 1) := fun h => by
  have := h.1
  rw [six1] at this; omega
theorem cut_tail (x : D) (l : List D) : cutD (x :: l) (some 1) none = l := by
  have f : min 1 (x :: l).length = 1 := by rw [List.length_cons]; omega
  unfold cutD
  rw [six1, f, HT.sIx_none, List.length_cons]
  show l.take (l.length + 1 - 1) = l
  rw [Nat.add_sub_cancel, List.take_length]
def c_check_wires : CT := fun ds M P => ∃ (W : List Wire) (outs : List Nat), ds = [.tup (W.map wireD), .tup (outs.map nI)] ∧ WF W ∧ (∀ o, o ∈ outs → o < W.length) ∧ P .non M
theorem l_check_wires (ds : List D) (M : MM) (Q : PQ) (h : c_check_wires ds M Q) : ds.length = 2 := by
  obtain ⟨_, _, rfl, _⟩ := h; rfl
theorem k_check_wires : Keeps 6 b_check_wires c_check_wires := by
  rintro ds M P ⟨W, outs, rfl, hw, ho, hp⟩
  unfold b_check_wires
  (conv => whnf)
  refine ⟨fun i ρ M' => M' = M ∧ ∃ u v w x, ρ = [some (.tup (W.map wireD)), some (.tup (outs.map nI)), u, v, w, x], ⟨rfl, none, none, none, none, rfl⟩, ?_, ?_⟩
  · rintro i y ρ M' hy ⟨rfl, u, v, w, x, rfl⟩
    obtain ⟨c, hc, rfl⟩ := map_get hy
    have hc' := List.mem_of_getElem? hc
    have inner : ∀ (sd : List D) (F : DL.Fin) (ρ0 : DL.Env) (b : ST) (cd : D), ρ0 = [some (.tup (W.map wireD)), some (.tup (outs.map nI)), some cd, some (.tup sd), w, x] → (∀ d, d ∈ sd → ∃ s, s < W.length ∧ d = nI s) →
        (∀ w, F.nx [some (.tup (W.map wireD)), some (.tup (outs.map nI)), some cd, some (.tup sd), w, x] M') →
        sFor (iSeq (mVar 3)) (gNm 4) (sIf (tNot (tVal (mChain bLe bLt (mC (.int 0)) (mVar 4) (mCB fLen (aCons (mVar 0) aNil))))) sNever sNx) F ρ0 M' := by
      rintro sd F ρ0 b cd rfl hsd hF
      (conv => whnf)
      refine ⟨fun i ρ M2 => M2 = M' ∧ ∃ w, ρ = [some (.tup (W.map wireD)), some (.tup (outs.map nI)), some cd, some (.tup sd), w, x], ⟨rfl, w, rfl⟩, ?_, ?_⟩
      · rintro j y ρ M2 hy ⟨rfl, w, rfl⟩
        obtain ⟨s, hs, rfl⟩ := hsd y (List.mem_of_getElem? hy)
        (conv => whnf); try dsimp only
        have e2 : decide ((s : Int) < ((W.map wireD).length : Int)) = true := decide_eq_true (by rw [List.length_map]; omega)
        rw [e2]
        exact ⟨rfl, _, rfl⟩
      · rintro ρ M2 ⟨rfl, w, rfl⟩
        exact hF w
    cases c with
    | inp =>
      (conv => whnf)
      refine ⟨cut_ne 0 _, ?_⟩
      refine inner [] _ _ sNx (wireD .inp) rfl (fun d hd => by cases hd) ?_
      intro w'
      (conv => whnf)
      exact ⟨rfl, _, _, _, _, rfl⟩
    | cell s b =>
      (conv => whnf)
      refine ⟨cut_ne 2 _, ?_⟩
      refine inner [nI s] _ _ sNx (wireD (.cell s b)) rfl (fun d hd => ⟨s, hw.src _ hc' s (List.mem_cons_self ..), List.mem_singleton.mp hd⟩) ?_
      intro w'
      have hb := hw.bit s b hc'
      have hb' : b = 0 ∨ b = 1 := by omega
      rcases hb' with rfl | rfl
      · (conv => whnf)
        refine ⟨by show (2 : Nat) ≤ 100000; decide, ?_⟩
        exact ⟨rfl, _, _, _, _, rfl⟩
      · (conv => whnf)
        refine ⟨by show (2 : Nat) ≤ 100000; decide, ?_⟩
        exact ⟨rfl, _, _, _, _, rfl⟩
    | sum l =>
      (conv => whnf)
      rw [at_zero]
      (conv => whnf)
      refine ⟨by rw [List.length_cons]; exact cut_ne _ _, ?_⟩
      rw [cut_tail]
      refine inner (l.map nI) _ _ sNx (wireD (.sum l)) rfl (fun d hd => ?_) ?_
      · obtain ⟨s, hs, rfl⟩ := List.mem_map.mp hd
        exact ⟨s, hw.src _ hc' s hs, rfl⟩
      intro w'
      (conv => whnf)
      rw [at_zero]
      (conv => whnf)
      exact ⟨rfl, _, _, _, _, rfl⟩
  · rintro ρ M' ⟨rfl, u, v, w, x, rfl⟩
    (conv => whnf)
    refine ⟨fun i ρ M2 => M2 = M' ∧ ∃ x, ρ = [some (.tup (W.map wireD)), some (.tup (outs.map nI)), u, v, w, x], ⟨rfl, x, rfl⟩, ?_, ?_⟩
    · rintro j y ρ M2 hy ⟨rfl, x, rfl⟩
      obtain ⟨s, hs, rfl⟩ := map_get hy
      have hs := ho s (List.mem_of_getElem? hs)
      (conv => whnf); try dsimp only
      have e2 : decide ((s : Int) < ((W.map wireD).length : Int)) = true := decide_eq_true (by rw [List.length_map]; omega)
      rw [e2]
      exact ⟨rfl, _, rfl⟩
    · rintro ρ M2 ⟨rfl, x, rfl⟩
      exact fin_nx hp
def c_equation_of : CT := fun ds M P => ∃ (W : List Wire) (v : Nat), ds = [nI v, wireD (.sum (src W v))] ∧ WF W ∧ v < W.length ∧ P (nI (eqn W v)) M
theorem l_equation_of (ds : List D) (M : MM) (Q : PQ) (h : c_equation_of ds M Q) : ds.length = 2 := by
  obtain ⟨_, _, rfl, _⟩ := h; rfl
theorem xl_take {l : List Nat} {i x : Nat} (h : l[i]? = some x) (f : Nat → Bool) : xl (l.take (i + 1)) f = xor (xl (l.take i) f) (f x) := by
  rw [List.take_add_one, h, xl_app]; show xor _ (xor (f x) false) = _; rw [Bool.xor_false]
theorem k_equation_of : Keeps 4 b_equation_of c_equation_of := by
  rintro ds M P ⟨W, v, rfl, hw, hv, hp⟩
  have hL := hw.len
  unfold b_equation_of
  (conv => whnf)
  refine ⟨⟨Int.natCast_nonneg _, by show (v : Int) ≤ _; omega, by decide⟩, ?_⟩
  (conv => whnf)
  refine ⟨by rw [List.length_cons]; exact cut_ne _ _, ?_⟩
  rw [cut_tail]
  refine ⟨fun i ρ M' => M' = M ∧ ∃ u, ρ = [some (nI v), some (wireD (.sum (src W v))), some (nI (mk W.length fun j => xor (j == v) (xl ((src W v).take i) fun x => x == j))), u], ⟨rfl, none, ?_⟩, ?_, ?_⟩
  · show [some (nI v), some (wireD (.sum (src W v))), some (D.int ((1 : Int) * (2 : Int) ^ ((v : Int)).toNat)), none] = _
    rw [one_shl, ← mk_one hv, mk_congr (g := fun j => xor (j == v) (xl ((src W v).take 0) fun x => x == j)) fun j _ => by
      show decide (j = v) = xor (j == v) false; rw [Bool.xor_false]; rfl]
  · rintro i y ρ M' hy ⟨rfl, u, rfl⟩
    obtain ⟨x, hx, rfl⟩ := map_get hy
    have hxl := hw.src_lt (List.mem_of_getElem? hx)
    (conv => whnf)
    refine ⟨⟨Int.natCast_nonneg _, by show (x : Int) ≤ _; omega, by decide⟩, ?_⟩
    refine ⟨rfl, some (nI x), ?_⟩
    show [some (nI v), some (wireD (.sum (src W v))), some (D.int (Builtin.bitXor _ ((1 : Int) * (2 : Int) ^ ((x : Int)).toNat))), some (nI x)] = _
    rw [one_shl, i_xor, ← mk_one hxl, mk_xor]
    refine congrArg (fun z : Nat => [some (nI v), some (wireD (.sum (src W v))), some (nI z), some (nI x)]) (mk_congr fun j _ => ?_)
    rw [xl_take hx fun x => x == j, dec_beq, Bool.xor_assoc]
  · rintro ρ M' ⟨rfl, u, rfl⟩
    rw [List.length_map, List.take_length]
    exact fin_ok hp
def c_check_settled : CT := fun ds M P => ∃ (σ : Nat) (S r : Nat → Nat), ds = [.lst ((List.range σ).map fun k => nI (S k)), .lst ((List.range σ).map fun k => nI (r k))] ∧ σ ≤ 1000 ∧
  (∀ k, k < σ → ¬ ∃ f, cmb k (fun k => mk σ fun e => (r e).testBit (S k)) f = mk σ fun e => (r e).testBit (S k)) ∧ P .non M
theorem l_check_settled (ds : List D) (M : MM) (Q : PQ) (h : c_check_settled ds M Q) : ds.length = 2 := by
  obtain ⟨_, _, _, rfl, _⟩ := h; rfl
theorem k_check_settled : Keeps 8 (b_check_settled c_Span_put c_number_of c_Span___init__) c_check_settled := by
  rintro ds M P ⟨σ, S, r, rfl, hσ, hc, hp⟩
  unfold b_check_settled
  (conv => whnf)
  intro p hp0
  (conv => whnf)
  refine ⟨p, 0, fun k => mk σ fun e => (r e).testBit (S k), _, rfl, .inr ⟨rfl, rfl⟩, MM.upd_same, by omega, ?_⟩
  intro q kept hq hl ok
  have hne := ne_of_fresh hq
  (conv => whnf)
  refine ⟨fun i ρ M' => ∃ kept u v w x y, kept.length ≤ i ∧ SpanOk i (fun k => mk σ fun e => (r e).testBit (S k)) kept ∧ M' = ((M.upd p (.ins 99 [])).upd p (.ins 99 [("kept", .ref q), ("count", nI i)])).upd q (.lst (kept.map keptD)) ∧
    ρ = [some (.lst ((List.range σ).map fun k => nI (S k))), some (.lst ((List.range σ).map fun k => nI (r k))), some (.ref p), u, v, w, x, y], ⟨kept, none, none, none, none, none, hl, ok, rfl, rfl⟩, ?_, ?_⟩
  · rintro i y ρ M' hy ⟨kept, u, v, w, x, z, hl, ok, rfl, rfl⟩
    obtain ⟨yy, hyy, rfl⟩ := enum_get hy
    obtain ⟨hi, rfl⟩ := rng_get hyy
    have sa := SpanAt.of (M := M.upd p (.ins 99 [])) (n := i) (kept := kept) hne
    (conv => whnf)
    refine ⟨rfl, ?_⟩
    (conv => whnf)
    refine ⟨isIns_ref sa.obj rfl, ?_⟩
    (conv => whnf)
    refine lcI_map σ (fun e => bN ((r e).testBit (S i))) (rng_len _ _) ?_ ?_
    · intro e y Qt hy he ht
      obtain ⟨_, rfl⟩ := rng_get hy
      (conv => whnf)
      exact ⟨Int.natCast_nonneg _, eqP ht (congrArg D.int (i_bit _ _))⟩
    · (conv => whnf)
      refine ⟨σ, fun e => (r e).testBit (S i), .inl rfl, hσ, ?_⟩
      (conv => whnf)
      refine ⟨p, q, i, kept, _, _, rfl, sa, by omega, hl, ok, rfl, ?_⟩
      intro kept' d hl' ok' hd
      cases hd (hc i hi)
      (conv => whnf)
      refine ⟨kept', some (nI i), some (nI (S i)), some .non, x, z, hl', ok', ?_, rfl⟩
      funext b
      by_cases h1 : b = p <;> by_cases h2 : b = q <;> simp [MM.upd, h1, h2]
  · rintro ρ M' ⟨kept, u, v, w, x, y, hl, ok, rfl, rfl⟩
    exact fin_lenx (le_span hp0 hq) hp
end BB
end
section
/-! contracts: settled -/
namespace BB
open PySem DL
theorem rng_set {α : Type} (f : Nat → α) (n v : Nat) (z : α) : ((List.range n).map f).set v z = (List.range n).map fun u => if u = v then z else f u := by
  apply List.ext_getElem?; intro k
  rw [List.getElem?_set, rng_len]
  by_cases h : k < n
  · rw [rng_at h, rng_at h]
    by_cases e : v = k
    · subst e; simp [h]
    · simp [e]; intro q; exact absurd q.symm e
  · rw [List.getElem?_eq_none (by rw [rng_len]; omega), List.getElem?_eq_none (by rw [rng_len]; omega)]
    split <;> simp; omega
theorem ixn {n j : Nat} (h : j < n) : L2.ixN n (j : Int) = some j := by
  unfold L2.ixN
  rw [if_pos (Int.natCast_nonneg j), if_pos (by omega)]; rfl
theorem i_andn (f g : Nat → Bool) (n : Nat) : Builtin.bitAnd (mk n f : Nat) (Builtin.bitNot (mk n g : Nat)) = ((mk n fun j => f j && !g j : Nat) : Int) := by
  have hneg : ¬ (0 : Int) ≤ Builtin.bitNot (mk n g : Nat) := by show ¬ (0 : Int) ≤ -((mk n g : Nat) : Int) - 1; omega
  rw [PyProof.Rows.bitAnd_pn (Int.natCast_nonneg _) hneg]
  have e : (Builtin.bitNot (Builtin.bitNot ((mk n g : Nat) : Int))).toNat = mk n g := by
    show (-(-((mk n g : Nat) : Int) - 1) - 1).toNat = _; omega
  rw [e, Int.toNat_natCast, mk_and]
  have s : ∀ n, mk n (fun i => f i && g i) + mk n (fun i => f i && !g i) = mk n f := by
    intro n
    induction n with
    | zero => rfl
    | succ n ih =>
      show (mk n _ + (f n && g n).toNat * 2 ^ n) + (mk n _ + (f n && !g n).toNat * 2 ^ n) = mk n f + (f n).toNat * 2 ^ n
      have : (f n && g n).toNat + (f n && !g n).toNat = (f n).toNat := by cases f n <;> cases g n <;> rfl
      rw [← ih, ← this, Nat.add_mul]; omega
  have := s n
  omega
theorem mk_sum (f : Nat → Bool) : ∀ n, (((List.range n).filter f).map fun v => ((1 <<< v : Nat) : Int)).sum = (mk n f : Nat)
  | 0 => rfl
  | n + 1 => by
    rw [List.range_succ, List.filter_append, List.map_append, List.sum_append, mk_sum f n]
    show _ = ((mk n f + (f n).toNat * 2 ^ n : Nat) : Int)
    cases e : f n
    · simp [e]
    · simp only [List.filter_cons, e, if_true, List.filter_nil, List.map_cons, List.map_nil, List.sum_cons, List.sum_nil]
      rw [Nat.one_shiftLeft]; simp
def Wire.sm : Wire → Bool
  | .sum _ => true
  | _ => false
theorem isSum_w {W : List Wire} {i : Nat} {w : Wire} (h : W[i]? = some w) : isSum W i = w.sm := by unfold isSum; rw [h]; cases w <;> rfl
theorem sums_rng (W : List Wire) : (sumsOf W).map nI = (List.range (sumsOf W).length).map fun k => nI ((sumsOf W).getD k 0) := by
  conv => lhs; rw [lst_rng (sumsOf W)]
  rw [List.map_map]; rfl
theorem sums_len {W : List Wire} (hw : WF W) : (sumsOf W).length ≤ 16 := by
  have := List.length_filter_le (isSum W) (List.range W.length)
  rw [List.length_range] at this
  exact Nat.le_trans this hw.len
theorem sum_at {W : List Wire} {v : Nat} (h : isSum W v = true) : (W.map wireD)[v]? = some (wireD (.sum (src W v))) := by
  rw [List.getElem?_map, isSum_at h]; rfl
def c_settled : CT := fun ds M P => ∃ W : List Wire, ds = [.tup (W.map wireD)] ∧ WF W ∧ NoFlip W ∧ ∀ fnd, Solved W fnd → P (.lst (mkL W.length W.length fnd)) M
theorem l_settled (ds : List D) (M : MM) (Q : PQ) (h : c_settled ds M Q) : ds.length = 1 := by
  obtain ⟨_, rfl, _⟩ := h; rfl
theorem k_settled : Keeps 12 (b_settled c_places_of c_Span_made_of c_Span___init__ c_check_settled c_equation_of) c_settled := by
  rintro ds M P ⟨W, rfl, hw, nf, hp⟩
  have hL := hw.len
  have hσ := sums_len hw
  unfold b_settled
  (conv => whnf)
  refine lcI_fil W.length (isSum W) nI (by rw [enum_len, List.length_map]) ?_ ?_
  · intro i y Qt Qf hy ht hf
    obtain ⟨z, hz, rfl⟩ := enum_get hy
    obtain ⟨w, hw', rfl⟩ := map_get hz
    rw [isSum_w hw'] at ht hf
    cases w with
    | inp => (conv => whnf); refine ⟨rfl, ?_⟩; (conv => whnf); exact hf rfl
    | cell s b => (conv => whnf); refine ⟨rfl, ?_⟩; (conv => whnf); exact hf rfl
    | sum l => (conv => whnf); refine ⟨rfl, ?_⟩; (conv => whnf); rw [at_zero]; (conv => whnf); exact ht rfl
  · change sSeq _ _ _ (List.set _ 1 (some (.lst ((sumsOf W).map nI)))) M
    (conv => whnf)
    refine lcI_map (sumsOf W).length (fun e => nI (eqn W ((sumsOf W).getD e 0))) (by rw [List.length_map]) ?_ ?_
    · intro i y Qt hy hi ht
      obtain ⟨v, hv, rfl⟩ := map_get hy
      have hs := mem_sums.mp (List.mem_of_getElem? hv)
      (conv => whnf)
      rw [ix_nat, sum_at hs]
      (conv => whnf)
      refine ⟨W, v, rfl, hw, isSum_lt hs, ?_⟩
      have : v = (sumsOf W).getD i 0 := by have := getD_at hi; rw [hv] at this; exact Option.some.inj this
      rw [this]; exact ht
    · (conv => whnf)
      refine ⟨(sumsOf W).length, fun k => (sumsOf W).getD k 0, fun e => eqn W ((sumsOf W).getD e 0), by rw [sums_rng]; rfl, by omega, fun k hk => cols_apart hw nf hk, ?_⟩
      (conv => whnf)
      refine lcI_map (sumsOf W).length (fun e => nI (1 <<< ((sumsOf W).getD e 0))) (by rw [List.length_map]) ?_ ?_
      · intro i y Qt hy hi ht
        obtain ⟨v, hv, rfl⟩ := map_get hy
        have hl := isSum_lt (mem_sums.mp (List.mem_of_getElem? hv))
        have : v = (sumsOf W).getD i 0 := by have := getD_at hi; rw [hv] at this; exact Option.some.inj this
        (conv => whnf)
        refine ⟨⟨Int.natCast_nonneg _, by show (v : Int) ≤ _; omega, by decide⟩, ?_⟩
        exact eqP ht (congrArg D.int ((one_shl v).trans (by rw [this])))
      · (conv => whnf); try dsimp only
        have e1 : (asL M (.lst ((List.range (sumsOf W).length).map fun e => nI (1 <<< ((sumsOf W).getD e 0))))).bind intsOf = some ((sumsOf W).map fun v => ((1 <<< v : Nat) : Int)) := by
          show intsOf _ = _
          rw [show ((List.range (sumsOf W).length).map fun e => nI (1 <<< ((sumsOf W).getD e 0))) = ((sumsOf W).map fun v => ((1 <<< v : Nat) : Int)).map D.int by
            conv => rhs; rw [lst_rng (sumsOf W)]
            rw [List.map_map, List.map_map]; rfl]
          exact intsOf_map _
        rw [e1]
        dsimp only
        rw [show ((sumsOf W).map fun v => ((1 <<< v : Nat) : Int)).sum = (mk W.length (isSum W) : Nat) from mk_sum _ _]
        (conv => whnf)
        refine lcI_map (sumsOf W).length (fun e => nI (eqn W ((sumsOf W).getD e 0) &&& mk W.length (isSum W))) (rng_len _ _) ?_ ?_
        · intro i y Qt hy hi ht
          obtain ⟨_, rfl⟩ := rng_get hy
          (conv => whnf)
          exact eqP ht (congrArg D.int (i_and _ _))
        · (conv => whnf)
          intro p hp0
          (conv => whnf)
          refine ⟨p, (sumsOf W).length, fun e => eqn W ((sumsOf W).getD e 0) &&& mk W.length (isSum W), _, rfl, .inl rfl, MM.upd_same, by omega, ?_⟩
          intro q kept hq hl ok
          have hne := ne_of_fresh hq
          have sa := SpanAt.of (M := M.upd p (.ins 99 [])) (n := (sumsOf W).length) (kept := kept) hne
          have le1 := le_span (Y := .ins 99 [("kept", .ref q), ("count", nI (sumsOf W).length)]) (Z := .lst (kept.map keptD)) hp0 hq
          generalize (((M.upd p (.ins 99 [])).upd p (.ins 99 [("kept", .ref q), ("count", nI (sumsOf W).length)])).upd q (.lst (kept.map keptD))) = M2 at le1 sa ⊢
          (conv => whnf)
          refine ⟨by rw [List.length_map]; omega, ?_⟩
          refine lcI_map W.length (fun v => nI (mk W.length fun j => decide (j = v))) (by rw [rangeD_nat, rng_len, List.length_map]) ?_ ?_
          · intro i y Qt hy hi ht
            obtain ⟨_, rfl⟩ := rng_get (rangeD_nat _ ▸ hy)
            (conv => whnf)
            refine ⟨⟨Int.natCast_nonneg _, by show (i : Int) ≤ _; omega, by decide⟩, ?_⟩
            exact eqP ht (congrArg D.int ((one_shl i).trans (by rw [mk_one hi])))
          · (conv => whnf)
            intro f hf
            have fp : f ≠ p := fun e => by rw [e, sa.obj] at hf; cases hf
            have fq : f ≠ q := fun e => by rw [e, sa.lst] at hf; cases hf
            have saf : ∀ o, SpanAt (M2.upd f o) p q (sumsOf W).length kept := fun o => ⟨by rw [MM.upd_ne fp.symm]; exact sa.obj, by rw [MM.upd_ne fq.symm]; exact sa.lst, hne⟩
            (conv => whnf)
            refine ⟨fun i ρ M' => ∃ fnd u v w x, M' = M2.upd f (.lst (mkL W.length W.length fnd)) ∧ (∀ v, v < W.length → isSum W v = false → fnd v = fun j => decide (j = v)) ∧
              (∀ k, k < i → k < (sumsOf W).length → (∀ j, fnd ((sumsOf W).getD k 0) j = true → isSum W j = false) ∧ ∀ x, Sol W x → x ((sumsOf W).getD k 0) = xs W.length fun j => fnd ((sumsOf W).getD k 0) j && x j) ∧
              ρ = [some (.tup (W.map wireD)), some (.lst ((sumsOf W).map nI)), u, none, some (.lst ((List.range (sumsOf W).length).map fun e => nI (eqn W ((sumsOf W).getD e 0)))), some (nI (mk W.length (isSum W))), some (.ref p), none, some (.ref f), v, w, x],
              ⟨fun v j => decide (j = v), none, none, none, none, rfl, fun v _ _ => rfl, fun k hk => absurd hk (Nat.not_lt_zero _), rfl⟩, ?_, ?_⟩
            · rintro i y ρ M' hy ⟨fnd, u, v, w, x, rfl, h1, h2, rfl⟩
              obtain ⟨here, hh, rfl⟩ := map_get hy
              have hs := mem_sums.mp (List.mem_of_getElem? hh)
              have hl := isSum_lt hs
              (conv => whnf)
              refine ⟨isIns_ref (saf _).obj rfl, ?_⟩
              (conv => whnf)
              refine ⟨⟨Int.natCast_nonneg _, by show (here : Int) ≤ _; omega, by decide⟩, ?_⟩
              (conv => whnf)
              refine ⟨p, q, (sumsOf W).length, kept, 1 <<< here, _, ?_, saf _, ok, ?_, fun no => absurd (rows_all hw nf hs) no⟩
              · show [D.ref p, D.int ((1 : Int) * (2 : Int) ^ ((here : Int)).toNat)] = _
                rw [one_shl]
              intro m hm hc
              (conv => whnf)
              refine ⟨(sumsOf W).length, m.testBit, by rw [mk_self hm]; rfl, by omega, ?_⟩
              (conv => whnf)
              refine ⟨fun j ρ M3 => M3 = M2.upd f (.lst (mkL W.length W.length fnd)) ∧ ∃ x, ρ = [some (.tup (W.map wireD)), some (.lst ((sumsOf W).map nI)), u, none, some (.lst ((List.range (sumsOf W).length).map fun e => nI (eqn W ((sumsOf W).getD e 0)))), some (nI (mk W.length (isSum W))), some (.ref p), none, some (.ref f), some (nI here),
                some (nI (mk W.length fun b => (xl (((List.range (sumsOf W).length).filter m.testBit).take j) fun e => (eqn W ((sumsOf W).getD e 0)).testBit b) && !isSum W b)), x], ⟨rfl, x, ?_⟩, ?_, ?_⟩
              · rw [show (mk W.length fun b => (xl (((List.range (sumsOf W).length).filter m.testBit).take 0) fun e => (eqn W ((sumsOf W).getD e 0)).testBit b) && !isSum W b) = 0 from mk_zero _]; rfl
              · rintro j y ρ M3 hy ⟨rfl, x, rfl⟩
                obtain ⟨e, he, rfl⟩ := map_get hy
                have hel : e < (sumsOf W).length := List.mem_range.mp (List.mem_filter.mp (List.mem_of_getElem? he)).1
                (conv => whnf)
                rw [ix_nat, rng_at hel]
                (conv => whnf)
                refine ⟨rfl, some (nI e), ?_⟩
                refine congrArg (fun z : D => [some (.tup (W.map wireD)), some (.lst ((sumsOf W).map nI)), u, none, some (.lst ((List.range (sumsOf W).length).map fun e => nI (eqn W ((sumsOf W).getD e 0)))), some (nI (mk W.length (isSum W))), some (.ref p), none, some (.ref f), some (nI here), some z, some (nI e)]) ?_
                show D.int (Builtin.bitXor _ (Builtin.bitAnd ((eqn W ((sumsOf W).getD e 0) : Nat) : Int) (Builtin.bitNot (mk W.length (isSum W) : Nat)))) = _
                have ee : eqn W ((sumsOf W).getD e 0) = mk W.length (eqn W ((sumsOf W).getD e 0)).testBit := (mk_self (mk_lt _ _)).symm
                rw [ee, i_andn, i_xor, mk_xor]
                refine congrArg (fun z : Nat => nI z) (mk_congr fun b hb => ?_)
                rw [xl_take he fun e => (eqn W ((sumsOf W).getD e 0)).testBit b]
                generalize xl _ (fun e => (eqn W ((sumsOf W).getD e 0)).testBit b) = a, Nat.testBit _ b = c, isSum W b = d
                cases a <;> cases c <;> cases d <;> rfl
              · rintro ρ M3 ⟨rfl, x, rfl⟩
                rw [List.length_map, List.take_length]
                (conv => whnf); try dsimp only
                rw [MM.upd_same]
                (conv => whnf); try dsimp only
                rw [rng_len, ixn hl]
                (conv => whnf)
                rw [MM.upd_upd, rng_set]
                refine ⟨fun v => if v = here then (fun b => (xl ((List.range (sumsOf W).length).filter m.testBit) fun e => (eqn W ((sumsOf W).getD e 0)).testBit b) && !isSum W b) else fnd v, u, some (nI here), _, x, ?_, ?_, ?_, rfl⟩
                · congr 2
                  refine List.map_congr_left fun v _ => ?_
                  by_cases e : v = here
                  · subst e; simp only [if_true]
                  · simp only [e, if_false]
                · intro v hv hn
                  have : v ≠ here := fun e => by rw [e, hs] at hn; cases hn
                  simp only [this, if_false]; exact h1 v hv hn
                · intro k hk hk'
                  by_cases e : (sumsOf W).getD k 0 = here
                  · rw [e]; simp only [if_true]
                    constructor
                    · intro j hj; revert hj; cases isSum W j <;> simp
                    · intro x hx
                      rw [solved_sum hw hs hc hx]
                      refine xs_congr fun j _ => ?_
                      rw [xl_filter, xl_range]
                  · simp only [e, if_false]
                    have hi : (sumsOf W).getD i 0 = here := by
                      have hil := (List.getElem?_eq_some_iff.mp hh).1
                      have := getD_at hil; rw [hh] at this; exact (Option.some.inj this).symm
                    exact h2 k (by
                      have : k ≠ i := fun q => e (q ▸ hi)
                      omega) hk'
            · rintro ρ M' ⟨fnd, u, v, w, x, rfl, h1, h2, rfl⟩
              rw [List.length_map] at h2
              (conv => whnf); try dsimp only
              rw [MM.upd_same]
              have sol : Solved W fnd := ⟨fun v j hv hj => by
                  cases hs : isSum W v with
                  | true =>
                    obtain ⟨k, hk, rfl⟩ := mem_getD (mem_sums.mpr hs)
                    exact (h2 k hk hk).1 j hj
                  | false =>
                    rw [h1 v hv hs] at hj
                    have : j = v := by simpa using hj
                    rw [this]; exact hs, fun v hv x hx => by
                  cases hs : isSum W v with
                  | true =>
                    obtain ⟨k, hk, rfl⟩ := mem_getD (mem_sums.mpr hs)
                    exact (h2 k hk hk).2 x hx
                  | false =>
                    rw [h1 v hv hs, xs_one hv fun i _ hi => by simp [hi]]; simp⟩
              refine fin_le ?_ (hp fnd sol)
              rw [MM.upd_del hf]; exact le1
end BB
end
section
/-! tables -/
namespace BB
open PySem DL
structure Tb where
  n : Nat
  k : Nat
  m : Nat
  a : Nat → Nat → Bool
  b : Nat → Nat → Bool
  c : Nat → Nat → Bool
  d : Nat → Nat → Bool
abbrev tableF (T : Tb) : List (Str × D) := [("a", .tup (gridT T.n T.n T.a)), ("b", .tup (gridT T.k T.n T.b)), ("c", .tup (gridT T.n T.m T.c)), ("d", .tup (gridT T.k T.m T.d)), ("width", nI T.m)]
abbrev tableD (T : Tb) : D := .obj 800 (tableF T)
abbrev showL (n m : Nat) (c : Nat → Nat → Bool) : List D := (List.range m).map fun j => nI (mk n fun i => c i j)
abbrev motionF (T : Tb) : List (Str × D) := [("moves", .lst (mkL T.n T.n T.a)), ("drives", .lst (mkL T.k T.n T.b)), ("shows", .lst (showL T.n T.m T.c)), ("direct", .lst (mkL T.k T.m T.d))]
abbrev motionD (T : Tb) : D := .obj 840 (motionF T)
def cellsOf (W : List Wire) : List Nat := (List.range W.length).filter (isCell W)
def insOf (W : List Wire) : List Nat := (List.range W.length).filter (isInp W)
def cellSrc (W : List Wire) (v : Nat) : Nat := match W[v]? with
  | some (.cell s _) => s
  | _ => 0
def cellBit (W : List Wire) (v : Nat) : Nat := match W[v]? with
  | some (.cell _ b) => b
  | _ => 0
theorem isCell_at {W : List Wire} {v : Nat} (h : isCell W v = true) : W[v]? = some (.cell (cellSrc W v) (cellBit W v)) := by
  unfold isCell at h; unfold cellSrc cellBit
  cases e : W[v]? with
  | none => rw [e] at h; cases h
  | some w => cases w <;> rw [e] at h <;> first | rfl | cases h
theorem isInp_at {W : List Wire} {v : Nat} (h : isInp W v = true) : W[v]? = some .inp := by
  unfold isInp at h
  cases e : W[v]? with
  | none => rw [e] at h; cases h
  | some w => cases w <;> rw [e] at h <;> first | rfl | cases h
theorem cell_sum {W : List Wire} {v : Nat} (h : isCell W v = true) : isSum W v = false := by unfold isSum; rw [isCell_at h]
theorem inp_sum {W : List Wire} {v : Nat} (h : isInp W v = true) : isSum W v = false := by unfold isSum; rw [isInp_at h]
theorem mem_cells {W : List Wire} {v : Nat} (h : v ∈ cellsOf W) : v < W.length ∧ isCell W v = true := by
  unfold cellsOf at h; rw [List.mem_filter, List.mem_range] at h; exact h
theorem mem_ins {W : List Wire} {v : Nat} (h : v ∈ insOf W) : v < W.length ∧ isInp W v = true := by
  unfold insOf at h; rw [List.mem_filter, List.mem_range] at h; exact h
theorem WF.cell_lt {W : List Wire} (h : WF W) {v : Nat} (hv : isCell W v = true) : cellSrc W v < W.length :=
  h.src _ (List.mem_of_getElem? (isCell_at hv)) _ (List.mem_cons_self ..)
theorem WF.cell_bit {W : List Wire} (h : WF W) {v : Nat} (hv : isCell W v = true) : cellBit W v ≤ 1 :=
  h.bit _ _ (List.mem_of_getElem? (isCell_at hv))
/-- the wires when only wire v is 1 among those that are no sums -/
noncomputable def U (W : List Wire) (v : Nat) : Nat → Bool := open Classical in
  if h : ∃ y, Sol W y ∧ ∀ u, u < W.length → isSum W u = false → y u = decide (u = v) then Classical.choose h else fun _ => false
theorem U_spec {W : List Wire} (hw : WF W) (nf : NoFlip W) (v : Nat) : Sol W (U W v) ∧ ∀ u, u < W.length → isSum W u = false → U W v u = decide (u = v) := by
  have h := sol_ex hw nf fun u => decide (u = v)
  unfold U; rw [dif_pos h]; exact Classical.choose_spec h
theorem U_one {W : List Wire} (hw : WF W) (nf : NoFlip W) {v : Nat} {y : Nat → Bool} (hy : Sol W y) (h : ∀ u, u < W.length → isSum W u = false → y u = decide (u = v)) : ∀ u, u < W.length → y u = U W v u :=
  sol_one hw nf hy (U_spec hw nf v).1 fun u hu hs => by rw [h u hu hs, (U_spec hw nf v).2 u hu hs]
theorem solved_unit {W : List Wire} (hw : WF W) (nf : NoFlip W) {fnd : Nat → Nat → Bool} (s : Solved W fnd) {u v : Nat} (hu : u < W.length) (hv : v < W.length) (hs : isSum W v = false) : fnd u v = U W v u := by
  rw [s.eq u hu (U W v) (U_spec hw nf v).1, xs_one hv fun j hj hne => ?_]
  · rw [(U_spec hw nf v).2 v hv hs]; simp
  · cases e : fnd u j with
    | false => rfl
    | true => rw [(U_spec hw nf v).2 j hj (s.out u j hu e)]; simp [hne]
noncomputable def tabOf (W : List Wire) (outs : List Nat) : Tb where
  n := (cellsOf W).length
  k := (insOf W).length
  m := outs.length
  a i j := U W ((cellsOf W).getD i 0) (cellSrc W ((cellsOf W).getD j 0))
  b i j := U W ((insOf W).getD i 0) (cellSrc W ((cellsOf W).getD j 0))
  c i j := U W ((cellsOf W).getD i 0) (outs.getD j 0)
  d i j := U W ((insOf W).getD i 0) (outs.getD j 0)
abbrev netF (W : List Wire) (outs : List Nat) (fnd : Nat → Nat → Bool) : List (Str × D) :=
  [("wires", .tup (W.map wireD)), ("outs", .tup (outs.map nI)), ("solved", .lst (mkL W.length W.length fnd)), ("ins", .tup ((insOf W).map nI)), ("cells", .tup ((cellsOf W).map nI)), ("first", .tup ((cellsOf W).map fun v => nI (cellBit W v)))]
abbrev netD (W : List Wire) (outs : List Nat) (fnd : Nat → Nat → Bool) : D := .obj 952 (netF W outs fnd)
/-- a net that the law draws -/
structure NetOk (W : List Wire) (outs : List Nat) : Prop where
  wf : WF W
  nf : NoFlip W
  out : ∀ o, o ∈ outs → o < W.length
  cells : (cellsOf W).length ≤ 5
  outs : outs.length ≤ 3
/-! ### what a table shows -/
/-- the columns of looks -/
def Tb.look (T : Tb) : Nat → Nat → Nat → Bool
  | 0, j, i => T.c i j
  | t + 1, j, i => xs T.n fun l => T.a i l && T.look t j l
/-- the state after t beats -/
def Tb.st (T : Tb) (s : Nat → Bool) : Nat → Nat → Bool
  | 0, j => s j
  | t + 1, j => xs T.n fun i => T.st s t i && T.a i j
def Tb.out (T : Tb) (s : Nat → Bool) (t j : Nat) : Bool := xs T.n fun i => T.st s t i && T.c i j
theorem st_congr (T : Tb) {s s' : Nat → Bool} (h : ∀ i, i < T.n → s i = s' i) : ∀ t j, j < T.n → T.st s t j = T.st s' t j
  | 0, j, hj => h j hj
  | t + 1, j, _ => xs_congr fun i hi => by rw [st_congr T h t i hi]
theorem out_congr (T : Tb) {s s' : Nat → Bool} (h : ∀ i, i < T.n → s i = s' i) (t j : Nat) : T.out s t j = T.out s' t j :=
  xs_congr fun i hi => by rw [st_congr T h t i hi]
theorem st_look (T : Tb) (s : Nat → Bool) (j : Nat) : ∀ t u, xs T.n (fun i => T.st s u i && T.look t j i) = T.out s (u + t) j
  | 0, u => rfl
  | t + 1, u => by
    have : ∀ i, (T.st s u i && T.look (t + 1) j i) = xs T.n fun l => (T.st s u i && T.a i l) && T.look t j l := fun i => by
      show (T.st s u i && xs T.n _) = _
      rw [← xs_andl]; exact xs_congr fun l _ => (Bool.and_assoc ..).symm
    rw [xs_congr fun i _ => this i, xs_swap, show u + (t + 1) = (u + 1) + t by omega, ← st_look T s j t (u + 1)]
    exact xs_congr fun l _ => by rw [xs_andr]; rfl
theorem out_look (T : Tb) (s : Nat → Bool) (t j : Nat) : T.out s t j = xs T.n fun i => s i && T.look t j i := by
  have := st_look T s j t 0
  rw [Nat.zero_add] at this; exact this.symm
/-- the outs t beats after put p is 1 -/
def Tb.E (T : Tb) (t p j : Nat) : Bool := match t with
  | 0 => T.d p j
  | t + 1 => T.out (T.b p) t j
/-- the first difference, as it is told -/
inductive FD (E : Nat → Nat → Nat → Bool) (N k m : Nat) : D → Prop
  | non : (∀ t p j, t ≤ N → p < k → j < m → E t p j = false) → FD E N k m .non
  | som (t p j : Nat) : t ≤ N → p < k → j < m → E t p j = true → (∀ t' p' j', t' < t → p' < k → j' < m → E t' p' j' = false) → (∀ p' j', p' < p → j' < m → E t p' j' = false) → (∀ j', j' < j → E t p j' = false) → FD E N k m (.tup [nI t, nI p, nI j])
theorem FD.one {E : Nat → Nat → Nat → Bool} {N k m : Nat} {d d' : D} (h : FD E N k m d) (h' : FD E N k m d') : d = d' := by
  cases h with
  | non a =>
    cases h' with
    | non _ => rfl
    | som t p j x y z e _ _ _ => rw [a t p j x y z] at e; cases e
  | som t p j x y z e f g i =>
    cases h' with
    | non a => rw [a t p j x y z] at e; cases e
    | som t' p' j' x' y' z' e' f' g' i' =>
      have h1 : t = t' := by
        rcases Nat.lt_trichotomy t t' with q | q | q
        · rw [f' t p j q y z] at e; cases e
        · exact q
        · rw [f t' p' j' q y' z'] at e'; cases e'
      subst h1
      have h2 : p = p' := by
        rcases Nat.lt_trichotomy p p' with q | q | q
        · rw [g' p j q z] at e; cases e
        · exact q
        · rw [g p' j' q z'] at e'; cases e'
      subst h2
      have h3 : j = j' := by
        rcases Nat.lt_trichotomy j j' with q | q | q
        · rw [i' j q] at e; cases e
        · exact q
        · rw [i j' q] at e'; cases e'
      subst h3; rfl
/-- two tables side by side -/
def pairT (S T : Tb) : Tb where
  n := S.n + T.n
  k := S.k
  m := S.m
  a i j := if i < S.n then decide (j < S.n) && S.a i j else decide (S.n ≤ j) && T.a (i - S.n) (j - S.n)
  b p j := if j < S.n then S.b p j else T.b p (j - S.n)
  c i j := if i < S.n then S.c i j else T.c (i - S.n) j
  d p j := xor (S.d p j) (T.d p j)
theorem pair_st (S T : Tb) (p : Nat) : ∀ t j, j < S.n + T.n → (pairT S T).st ((pairT S T).b p) t j = if j < S.n then S.st (S.b p) t j else T.st (T.b p) t (j - S.n)
  | 0, j, _ => rfl
  | t + 1, j, hj => by
    show xs (S.n + T.n) _ = _
    rw [xs_add]
    have e1 : ∀ i, i < S.n → ((pairT S T).st ((pairT S T).b p) t i && (pairT S T).a i j) = (S.st (S.b p) t i && (decide (j < S.n) && S.a i j)) := fun i hi => by
      rw [pair_st S T p t i (by omega)]; show ((if i < S.n then _ else _) && if i < S.n then _ else _) = _
      rw [if_pos hi, if_pos hi]
    have e2 : ∀ i, i < T.n → ((pairT S T).st ((pairT S T).b p) t (S.n + i) && (pairT S T).a (S.n + i) j) = (T.st (T.b p) t i && (decide (S.n ≤ j) && T.a i (j - S.n))) := fun i hi => by
      rw [pair_st S T p t (S.n + i) (by omega)]; show ((if S.n + i < S.n then _ else _) && if S.n + i < S.n then _ else _) = _
      rw [if_neg (by omega), if_neg (by omega), Nat.add_sub_cancel_left]
    rw [xs_congr e1, xs_congr e2]
    by_cases h : j < S.n
    · have h' : ¬ S.n ≤ j := by omega
      simp only [h, h', decide_true, decide_false, Bool.true_and, Bool.false_and, Bool.and_false, if_true, xs_false, Bool.xor_false]; rfl
    · have h' : S.n ≤ j := by omega
      simp only [h, h', decide_true, decide_false, Bool.true_and, Bool.false_and, Bool.and_false, if_false, xs_false, Bool.false_xor]; rfl
theorem pair_E (S T : Tb) (t p j : Nat) : (pairT S T).E t p j = xor (S.E t p j) (T.E t p j) := by
  cases t with
  | zero => rfl
  | succ t =>
    show xs (S.n + T.n) _ = xor (xs S.n _) (xs T.n _)
    rw [xs_add]
    congr 1
    · exact xs_congr fun i hi => by
        rw [pair_st S T p t i (by omega)]; show ((if i < S.n then _ else _) && if i < S.n then _ else _) = _
        rw [if_pos hi, if_pos hi]
    · exact xs_congr fun i hi => by
        rw [pair_st S T p t (S.n + i) (by omega)]; show ((if S.n + i < S.n then _ else _) && if S.n + i < S.n then _ else _) = _
        rw [if_neg (by omega), if_neg (by omega), Nat.add_sub_cancel_left]
end BB
end
section
/-! contracts: tables, motions, nets -/
namespace BB
open PySem DL
def c_Table___init__ : CT := fun ds M P => ∃ (p : Nat) (T : Tb), ds = [.ref p, .lst (gridL T.n T.n T.a), .lst (gridL T.k T.n T.b), .lst (gridL T.n T.m T.c), .lst (gridL T.k T.m T.d), nI T.m] ∧ M p = some (.ins 800 []) ∧ P .non (M.upd p (.ins 800 (tableF T)))
theorem l_Table___init__ (ds : List D) (M : MM) (Q : PQ) (h : c_Table___init__ ds M Q) : ds.length = 6 := by
  obtain ⟨_, _, rfl, _⟩ := h; rfl
theorem tupled {ρ : DL.Env} {M : MM} {P : List D → MM → Prop} (r n : Nat) (a : Nat → Nat → Bool) (i : Nat) (hi : i < ρ.length) (hp : P (gridT r n a) M) :
    lcI (gridL r n a) (gNm i) tYes (mCB fTup (aCons (mVar i) aNil)) ρ M P := by
  refine lcI_map r (fun k => .tup (bitL n (a k))) (rng_len _ _) ?_ hp
  intro k y Qt hy hk ht
  obtain ⟨_, rfl⟩ := rng_get hy
  show mVar i (ρ.set i (some _)) M _
  unfold mVar
  rw [List.getElem?_set_self hi]
  exact ht
theorem k_Table___init__ : Keeps 7 b_Table___init__ c_Table___init__ := by
  rintro ds M P ⟨p, T, rfl, hm, hp⟩
  unfold b_Table___init__
  (conv => whnf)
  refine tupled _ _ _ 6 (by show 6 < 7; decide) ?_
  (conv => whnf)
  rw [hm]
  refine ⟨rfl, by show 0 < 900; decide, ?_⟩
  (conv => whnf)
  refine tupled _ _ _ 6 (by show 6 < 7; decide) ?_
  (conv => whnf)
  rw [MM.upd_same]
  refine ⟨rfl, by show 1 < 900; decide, ?_⟩
  (conv => whnf)
  refine tupled _ _ _ 6 (by show 6 < 7; decide) ?_
  (conv => whnf)
  rw [MM.upd_same]
  refine ⟨rfl, by show 2 < 900; decide, ?_⟩
  (conv => whnf)
  refine tupled _ _ _ 6 (by show 6 < 7; decide) ?_
  (conv => whnf)
  rw [MM.upd_same]
  refine ⟨rfl, by show 3 < 900; decide, ?_⟩
  (conv => whnf)
  rw [MM.upd_same]
  refine ⟨rfl, by show 4 < 900; decide, ?_⟩
  rw [MM.upd_upd, MM.upd_upd, MM.upd_upd, MM.upd_upd]
  exact fin_nx hp
def c_Motion___init__ : CT := fun ds M P => ∃ (p : Nat) (a b c d : D), ds = [.ref p, a, b, c, d] ∧ M p = some (.ins 840 []) ∧ P .non (M.upd p (.ins 840 [("moves", a), ("drives", b), ("shows", c), ("direct", d)]))
theorem l_Motion___init__ (ds : List D) (M : MM) (Q : PQ) (h : c_Motion___init__ ds M Q) : ds.length = 5 := by
  obtain ⟨_, _, _, _, _, rfl, _⟩ := h; rfl
theorem k_Motion___init__ : Keeps 5 b_Motion___init__ c_Motion___init__ := by
  rintro ds M P ⟨p, a, b, c, d, rfl, hm, hp⟩
  unfold b_Motion___init__
  (conv => whnf)
  rw [hm]
  refine ⟨rfl, by show 0 < 900; decide, ?_⟩
  (conv => whnf)
  rw [MM.upd_same]
  refine ⟨rfl, by show 1 < 900; decide, ?_⟩
  (conv => whnf)
  rw [MM.upd_same]
  refine ⟨rfl, by show 2 < 900; decide, ?_⟩
  (conv => whnf)
  rw [MM.upd_same]
  refine ⟨rfl, by show 3 < 900; decide, ?_⟩
  rw [MM.upd_upd, MM.upd_upd, MM.upd_upd]
  exact fin_nx hp
def c_Net___init__ : CT := fun ds M P => ∃ (p : Nat) (W : List Wire) (outs : List Nat), ds = [.ref p, .lst (W.map wireD), .lst (outs.map nI)] ∧ NetOk W outs ∧ M p = some (.ins 952 []) ∧
  ∀ fnd, Solved W fnd → P .non (M.upd p (.ins 952 (netF W outs fnd)))
theorem l_Net___init__ (ds : List D) (M : MM) (Q : PQ) (h : c_Net___init__ ds M Q) : ds.length = 3 := by
  obtain ⟨_, _, _, rfl, _⟩ := h; rfl
theorem isInp_w {W : List Wire} {i : Nat} {w : Wire} (h : W[i]? = some w) : isInp W i = (match (motive := Wire → Bool) w with
    | .inp => true
    | _ => false) := by unfold isInp; simp only [h]; cases w <;> rfl
theorem isCell_w {W : List Wire} {i : Nat} {w : Wire} (h : W[i]? = some w) : isCell W i = (match (motive := Wire → Bool) w with
    | .cell _ _ => true
    | _ => false) := by unfold isCell; simp only [h]; cases w <;> rfl
theorem k_Net___init__ : Keeps 5 (b_Net___init__ c_settled c_check_wires) c_Net___init__ := by
  rintro ds M P ⟨p, W, outs, rfl, ok, hm, hp⟩
  unfold b_Net___init__
  (conv => whnf)
  refine lcI_lst id ?_ ?_
  · intro y Qt hy ht
    obtain ⟨w, _, rfl⟩ := List.mem_map.mp hy
    cases w <;> exact ht
  rw [List.map_id]
  (conv => whnf)
  rw [hm]
  refine ⟨rfl, by show 0 < 900; decide, ?_⟩
  (conv => whnf)
  rw [MM.upd_same]
  refine ⟨rfl, by show 1 < 900; decide, ?_⟩
  rw [MM.upd_upd]
  (conv => whnf)
  rw [fld_ref MM.upd_same]
  (conv => whnf)
  rw [fld_ref MM.upd_same]
  (conv => whnf)
  refine ⟨W, outs, rfl, ok.wf, ok.out, ?_⟩
  (conv => whnf)
  rw [fld_ref MM.upd_same]
  (conv => whnf)
  refine ⟨W, rfl, ok.wf, ok.nf, ?_⟩
  intro fnd sol
  (conv => whnf)
  rw [MM.upd_same]
  refine ⟨rfl, by show 2 < 900; decide, ?_⟩
  rw [MM.upd_upd]
  (conv => whnf)
  rw [fld_ref MM.upd_same]
  (conv => whnf)
  refine lcI_fil W.length (isInp W) nI (by rw [enum_len, List.length_map]) ?_ ?_
  · intro i y Qt Qf hy ht hf
    obtain ⟨z, hz, rfl⟩ := enum_get hy
    obtain ⟨w, hw', rfl⟩ := map_get hz
    rw [isInp_w hw'] at ht hf
    cases w with
    | inp => (conv => whnf); refine ⟨rfl, ?_⟩; (conv => whnf); exact ht rfl
    | cell s b => (conv => whnf); refine ⟨rfl, ?_⟩; (conv => whnf); exact hf rfl
    | sum l => (conv => whnf); refine ⟨rfl, ?_⟩; (conv => whnf); rw [at_zero]; (conv => whnf); exact hf rfl
  (conv => whnf)
  rw [MM.upd_same]
  refine ⟨rfl, by show 3 < 900; decide, ?_⟩
  rw [MM.upd_upd]
  (conv => whnf)
  rw [fld_ref MM.upd_same]
  (conv => whnf)
  refine lcI_fil W.length (isCell W) nI (by rw [enum_len, List.length_map]) ?_ ?_
  · intro i y Qt Qf hy ht hf
    obtain ⟨z, hz, rfl⟩ := enum_get hy
    obtain ⟨w, hw', rfl⟩ := map_get hz
    rw [isCell_w hw'] at ht hf
    cases w with
    | inp => (conv => whnf); refine ⟨rfl, ?_⟩; (conv => whnf); exact hf rfl
    | cell s b => (conv => whnf); refine ⟨rfl, ?_⟩; (conv => whnf); exact ht rfl
    | sum l => (conv => whnf); refine ⟨rfl, ?_⟩; (conv => whnf); rw [at_zero]; (conv => whnf); exact hf rfl
  (conv => whnf)
  rw [MM.upd_same]
  refine ⟨rfl, by show 4 < 900; decide, ?_⟩
  rw [MM.upd_upd]
  change (sSet (mCB fTup (aCons (mLc (iSeq (mFld 952 "cells" (mVar 0))) (gNm 4) [4] tYes (mBin bIx (mBin bIx (mFld 952 "wires" (mVar 0)) (mVar 4)) (mC (.int 2)))) aNil)) (gFld 952 "first" (mVar 0))) (finD P) (startD 5 [.ref p, .lst (W.map wireD), .lst (outs.map nI)])
    (M.upd p (.ins 952 [("wires", .tup (W.map wireD)), ("outs", .tup (outs.map nI)), ("solved", .lst (mkL W.length W.length fnd)), ("ins", .tup ((insOf W).map nI)), ("cells", .tup ((cellsOf W).map nI))]))
  (conv => whnf)
  rw [fld_ref MM.upd_same]
  (conv => whnf)
  refine lcI_map (cellsOf W).length (fun k => nI (cellBit W ((cellsOf W).getD k 0))) (by rw [List.length_map]) ?_ ?_
  · intro i y Qt hy hi ht
    obtain ⟨v, hv, rfl⟩ := map_get hy
    have hc := mem_cells (List.mem_of_getElem? hv)
    have : v = (cellsOf W).getD i 0 := by have := getD_at hi; rw [hv] at this; exact Option.some.inj this
    (conv => whnf)
    rw [fld_ref MM.upd_same]
    (conv => whnf)
    rw [ix_nat, List.getElem?_map, isCell_at hc.2]
    (conv => whnf)
    rw [← this] at ht
    exact ht
  (conv => whnf)
  rw [MM.upd_same]
  refine ⟨rfl, by show 5 < 900; decide, ?_⟩
  rw [MM.upd_upd]
  have e : ((List.range (cellsOf W).length).map fun k => nI (cellBit W ((cellsOf W).getD k 0))) = (cellsOf W).map fun v => nI (cellBit W v) := by
    conv => rhs; rw [lst_rng (cellsOf W)]
    rw [List.map_map]; rfl
  rw [e]
  exact fin_nx (hp fnd sol)
def bumpD (g : Nat → Nat) : D → D
  | .int v => nI (g v.toNat)
  | d => d
theorem bump_map (g : Nat → Nat) (l : List Nat) : (l.map nI).map (bumpD g) = l.map fun v => nI (g v) := by
  rw [List.map_map]; rfl
theorem getD_val {l : List Nat} {i v : Nat} (h : l[i]? = some v) : l.getD i 0 = v := by rw [List.getD_eq_getElem?_getD, h]; rfl
def c_Net_table : CT := fun ds M P => ∃ (W : List Wire) (outs : List Nat) (fnd : Nat → Nat → Bool), ds = [netD W outs fnd] ∧ NetOk W outs ∧ Solved W fnd ∧ P (tableD (tabOf W outs)) M
theorem l_Net_table (ds : List D) (M : MM) (Q : PQ) (h : c_Net_table ds M Q) : ds.length = 1 := by
  obtain ⟨_, _, _, rfl, _⟩ := h; rfl
/-- a grid of the bits of known wires at wires that are no sums -/
theorem grid_of {W : List Wire} {outs : List Nat} {fnd : Nat → Nat → Bool} (ok : NetOk W outs) (sol : Solved W fnd) (vs us : List Nat) (slot : Nat) {M : MM} {o0 o1 o3 o4 o6 o7 o8 : Option D} {P : List D → MM → Prop}
    (hv : ∀ v, v ∈ vs → v < W.length ∧ isSum W v = false) (hu : ∀ u, u ∈ us → u < W.length)
    (hs : (slot = 1 ∧ o1 = some (.lst (us.map fun u => nI (mk W.length (fnd u))))) ∨ (slot = 3 ∧ o3 = some (.lst (us.map fun u => nI (mk W.length (fnd u))))))
    (hp : P ((List.range vs.length).map fun i => .lst (bitL us.length fun j => U W (vs.getD i 0) (us.getD j 0))) M) :
    lcI (vs.map nI) (gNm 2) tYes (mLc (iSeq (mVar slot)) (gNm 5) [5] tYes (mBin bAnd (mBin bShr (mVar 5) (mVar 2)) (mC (.int 1)))) [o0, o1, none, o3, o4, none, o6, o7, o8] M P := by
  refine lcI_map vs.length (fun i => .lst (bitL us.length fun j => U W (vs.getD i 0) (us.getD j 0))) (by rw [List.length_map]) ?_ hp
  intro i y Qt hy hi ht
  obtain ⟨v, hvv, rfl⟩ := map_get hy
  have hvm := hv v (List.mem_of_getElem? hvv)
  have item : ∀ (o1 o3 : Option D), lcI (us.map fun u => nI (mk W.length (fnd u))) (gNm 5) tYes (mBin bAnd (mBin bShr (mVar 5) (mVar 2)) (mC (.int 1))) [o0, o1, some (nI v), o3, o4, none, o6, o7, o8] M fun acc M2 => Qt (.lst acc) M2 := by
    intro o1 o3
    refine lcI_map us.length (fun j => bN (U W (vs.getD i 0) (us.getD j 0))) (by rw [List.length_map]) ?_ ht
    intro j y Qt hy hj ht
    obtain ⟨u, huu, rfl⟩ := map_get hy
    have hum := hu u (List.mem_of_getElem? huu)
    rw [getD_val hvv, getD_val huu, ← solved_unit ok.wf ok.nf sol hum hvm.1 hvm.2] at ht
    (conv => whnf)
    exact ⟨Int.natCast_nonneg _, eqP ht (congrArg D.int ((i_bit _ _).trans (by rw [tb_mk]; simp [hvm.1])))⟩
  rcases hs with ⟨rfl, rfl⟩ | ⟨rfl, rfl⟩
  · exact item _ _
  · exact item _ _
theorem k_Net_table : Keeps 9 (b_Net_table c_Table___init__) c_Net_table := by
  rintro ds M P ⟨W, outs, fnd, rfl, ok, sol, hp⟩
  have hcs : ∀ v, v ∈ cellsOf W → v < W.length ∧ isSum W v = false := fun v hv => ⟨(mem_cells hv).1, cell_sum (mem_cells hv).2⟩
  have his : ∀ v, v ∈ insOf W → v < W.length ∧ isSum W v = false := fun v hv => ⟨(mem_ins hv).1, inp_sum (mem_ins hv).2⟩
  have hus : ∀ u, u ∈ (cellsOf W).map (cellSrc W) → u < W.length := fun u hu => by
    obtain ⟨v, hv, rfl⟩ := List.mem_map.mp hu; exact ok.wf.cell_lt (mem_cells hv).2
  unfold b_Net_table
  (conv => whnf)
  refine lcI_lst (bumpD fun v => mk W.length (fnd (cellSrc W v))) ?_ ?_
  · intro y Qt hy ht
    obtain ⟨v, hv, rfl⟩ := List.mem_map.mp hy
    have hc := mem_cells hv
    (conv => whnf)
    rw [ix_nat, List.getElem?_map, isCell_at hc.2]
    (conv => whnf)
    rw [ix_nat, rng_at (ok.wf.cell_lt hc.2)]
    exact ht
  rw [bump_map, show ((cellsOf W).map fun v => nI (mk W.length (fnd (cellSrc W v)))) = ((cellsOf W).map (cellSrc W)).map fun u => nI (mk W.length (fnd u)) by rw [List.map_map]; rfl]
  (conv => whnf)
  refine lcI_lst (bumpD fun v => mk W.length (fnd v)) ?_ ?_
  · intro y Qt hy ht
    obtain ⟨v, hv, rfl⟩ := List.mem_map.mp hy
    (conv => whnf)
    rw [ix_nat, rng_at (ok.out v hv)]
    exact ht
  rw [bump_map]
  (conv => whnf)
  refine grid_of ok sol (cellsOf W) ((cellsOf W).map (cellSrc W)) 1 hcs hus (.inl ⟨rfl, rfl⟩) ?_
  (conv => whnf)
  refine grid_of ok sol (insOf W) ((cellsOf W).map (cellSrc W)) 1 his hus (.inl ⟨rfl, rfl⟩) ?_
  (conv => whnf)
  refine grid_of ok sol (cellsOf W) outs 3 hcs ok.out (.inr ⟨rfl, rfl⟩) ?_
  (conv => whnf)
  refine grid_of ok sol (insOf W) outs 3 his ok.out (.inr ⟨rfl, rfl⟩) ?_
  have es : ∀ (vs : List Nat), ((List.range vs.length).map fun i => D.lst (bitL ((cellsOf W).map (cellSrc W)).length fun j => U W (vs.getD i 0) (((cellsOf W).map (cellSrc W)).getD j 0))) = gridL vs.length (cellsOf W).length fun i j => U W (vs.getD i 0) (cellSrc W ((cellsOf W).getD j 0)) := fun vs => by
    rw [List.length_map]
    refine List.map_congr_left fun i _ => congrArg D.lst (List.map_congr_left fun j hj => ?_)
    have hj := List.mem_range.mp hj
    show bN (U W (vs.getD i 0) (((cellsOf W).map (cellSrc W)).getD j 0)) = bN (U W (vs.getD i 0) (cellSrc W ((cellsOf W).getD j 0)))
    rw [getD_val (l := (cellsOf W).map (cellSrc W)) (v := cellSrc W ((cellsOf W).getD j 0)) (by rw [List.getElem?_map, getD_at hj]; rfl)]
  rw [es, es]
  (conv => whnf)
  intro p hp0
  (conv => whnf)
  refine ⟨p, tabOf W outs, ?_, MM.upd_same, ?_⟩
  · show [D.ref p, _, _, _, _, D.int ((outs.map nI).length : Nat)] = _
    rw [List.length_map]; rfl
  (conv => whnf); try dsimp only
  rw [MM.upd_same, MM.upd_upd, MM.upd_del hp0]
  exact fin_ok hp
end BB
end
section
/-! contracts: motions -/
namespace BB
open PySem DL
structure Small (T : Tb) : Prop where
  n : T.n ≤ 12
  k : T.k ≤ 16
  m : T.m ≤ 3
def c_motion_of : CT := fun ds M P => ∃ T : Tb, ds = [tableD T] ∧ Small T ∧ P (motionD T) M
theorem l_motion_of (ds : List D) (M : MM) (Q : PQ) (h : c_motion_of ds M Q) : ds.length = 1 := by
  obtain ⟨_, rfl, _⟩ := h; rfl
theorem k_motion_of : Keeps 5 (b_motion_of c_Motion___init__ c_number_of) c_motion_of := by
  rintro ds M P ⟨T, rfl, sm, hp⟩
  have s1 := sm.n; have s2 := sm.k; have s3 := sm.m
  unfold b_motion_of
  (conv => whnf)
  refine ⟨by omega, ?_⟩
  refine lcI_map T.m (fun j => nI (mk T.n fun i => T.c i j)) (by rw [rangeD_nat, rng_len]) ?_ ?_
  · intro j y Qt hy hj ht
    obtain ⟨_, rfl⟩ := rng_get (rangeD_nat _ ▸ hy)
    (conv => whnf)
    refine lcI_map T.n (fun i => bN (T.c i j)) (rng_len _ _) ?_ ?_
    · intro i y Qt hy hi ht
      obtain ⟨_, rfl⟩ := rng_get hy
      (conv => whnf)
      rw [ix_nat, rng_at hj]
      exact ht
    · (conv => whnf)
      exact ⟨T.n, fun i => T.c i j, .inl rfl, by omega, ht⟩
  (conv => whnf)
  refine lcI_map T.n (fun i => nI (mk T.n (T.a i))) (rng_len _ _) ?_ ?_
  · intro i y Qt hy hi ht
    obtain ⟨_, rfl⟩ := rng_get hy
    (conv => whnf)
    exact ⟨T.n, T.a i, .inr rfl, by omega, ht⟩
  (conv => whnf)
  refine lcI_map T.k (fun i => nI (mk T.n (T.b i))) (rng_len _ _) ?_ ?_
  · intro i y Qt hy hi ht
    obtain ⟨_, rfl⟩ := rng_get hy
    (conv => whnf)
    exact ⟨T.n, T.b i, .inr rfl, by omega, ht⟩
  (conv => whnf)
  refine lcI_map T.k (fun i => nI (mk T.m (T.d i))) (rng_len _ _) ?_ ?_
  · intro i y Qt hy hi ht
    obtain ⟨_, rfl⟩ := rng_get hy
    (conv => whnf)
    exact ⟨T.m, T.d i, .inr rfl, by omega, ht⟩
  (conv => whnf)
  intro p hp0
  (conv => whnf)
  refine ⟨p, _, _, _, _, rfl, MM.upd_same, ?_⟩
  (conv => whnf); try dsimp only
  rw [MM.upd_same, MM.upd_upd, MM.upd_del hp0]
  exact fin_ok hp
abbrev lookL (T : Tb) (t : Nat) : D := .lst ((List.range T.m).map fun j => nI (mk T.n (T.look t j)))
def c_Motion_looks_until : CT := fun ds M P => ∃ (T : Tb) (N : Nat), ds = [motionD T, nI N] ∧ Small T ∧ N ≤ 1000 ∧ P (.lst ((List.range N).map (lookL T))) M
theorem l_Motion_looks_until (ds : List D) (M : MM) (Q : PQ) (h : c_Motion_looks_until ds M Q) : ds.length = 2 := by
  obtain ⟨_, _, rfl, _⟩ := h; rfl
theorem isl_ref {M : MM} {a : Nat} {ys : List D} (h : M a = some (.lst ys)) : (asL M (.ref a)).isSome = true := by
  show (match M a with
    | some (.lst xs) => some xs
    | _ => none).isSome = true
  rw [h]; rfl
theorem k_Motion_looks_until : Keeps 6 (b_Motion_looks_until c_behind) c_Motion_looks_until := by
  rintro ds M P ⟨T, N, rfl, sm, hN, hp⟩
  have s1 := sm.n; have s2 := sm.k; have s3 := sm.m
  unfold b_Motion_looks_until
  (conv => whnf)
  refine ⟨by show 0 ≤ 100000; decide, ?_⟩
  intro f hf
  (conv => whnf)
  refine ⟨by omega, ?_⟩
  refine ⟨fun t ρ M' => M' = M.upd f (.lst ((List.range t).map (lookL T))) ∧ ∃ u v, ρ = [some (motionD T), some (nI N), some (.ref f), some (lookL T t), u, v], ⟨rfl, none, none, rfl⟩, ?_, ?_⟩
  · rintro t y ρ M' hy ⟨rfl, u, v, rfl⟩
    obtain ⟨ht, rfl⟩ := rng_get (rangeD_nat _ ▸ hy)
    (conv => whnf)
    refine ⟨isl_ref MM.upd_same, ?_⟩
    (conv => whnf)
    rw [MM.upd_same]
    refine ⟨by rw [rng_len]; show _ < 100000; omega, ?_⟩
    (conv => whnf)
    refine lcI_map T.m (fun j => nI (mk T.n (T.look (t + 1) j))) (rng_len _ _) ?_ ?_
    · intro j y Qt hy hj ht
      obtain ⟨_, rfl⟩ := rng_get hy
      (conv => whnf)
      exact ⟨T.n, T.n, T.look t j, T.a, rfl, by omega, ht⟩
    refine ⟨?_, some (nI t), v, rfl⟩
    rw [MM.upd_upd, List.range_succ, List.map_append]; rfl
  · rintro ρ M' ⟨rfl, u, v, rfl⟩
    rw [rangeD_nat, rng_len]
    (conv => whnf); try dsimp only
    rw [MM.upd_same]
    refine fin_ok ?_
    rw [MM.upd_del hf]; exact hp
def c_paired : CT := fun ds M P => ∃ S T : Tb, ds = [motionD S, motionD T] ∧ Small S ∧ Small T ∧ S.k = T.k ∧ S.m = T.m ∧ P (motionD (pairT S T)) M
theorem l_paired (ds : List D) (M : MM) (Q : PQ) (h : c_paired ds M Q) : ds.length = 2 := by
  obtain ⟨_, _, rfl, _⟩ := h; rfl
theorem mk_wide (f : Nat → Bool) (n m : Nat) : mk n f = mk (n + m) fun j => decide (j < n) && f j := (mk_ext fun j => by
  rw [tb_mk]
  by_cases h : j < n
  · have : j < n + m := by omega
    simp [h, this]
  · simp [h]).symm
theorem mk_high (f : Nat → Bool) (n m : Nat) : mk m f <<< n = mk (n + m) fun j => decide (n ≤ j) && f (j - n) := (mk_ext fun j => by
  rw [Nat.testBit_shiftLeft, tb_mk]
  by_cases h : n ≤ j
  · have e : (j - n < m) = (j < n + m) := by apply propext; omega
    simp [h, e]
  · simp [h]).symm
theorem mk_cast {n m : Nat} {f : Nat → Bool} (h : ∀ j, n ≤ j → f j = false) (h' : ∀ j, m ≤ j → f j = false) : mk n f = mk m f := mk_ext fun k => by
  rw [tb_mk]
  by_cases a : k < n <;> by_cases b : k < m
  · simp [a, b]
  · simp [a, b, h' k (by omega)]
  · simp [a, b, h k (by omega)]
  · simp [a, b]
theorem lt64 {n : Nat} {f : Nat → Bool} (h : n ≤ 60) : (((mk n f : Nat) : Int)).natAbs < 2 ^ 64 := by
  rw [Int.natAbs_natCast]
  exact Nat.lt_of_lt_of_le (mk_lt f n) (Nat.pow_le_pow_right (by decide) (by omega))
theorem k_paired : Keeps 9 (b_paired c_Motion___init__) c_paired := by
  rintro ds M P ⟨S, T, rfl, sS, sT, ek, em, hp⟩
  have s1 := sS.n; have s2 := sS.k; have s3 := sS.m; have t1 := sT.n; have t2 := sT.k; have t3 := sT.m
  unfold b_paired
  (conv => whnf)
  refine lcI_map T.n (fun i => nI (mk T.n (T.a i) <<< S.n)) (rng_len _ _) ?_ ?_
  · intro i y Qt hy hi ht
    obtain ⟨_, rfl⟩ := rng_get hy
    (conv => whnf)
    refine ⟨⟨Int.natCast_nonneg _, by rw [rng_len]; omega, lt64 (by omega)⟩, ?_⟩
    exact eqP ht (congrArg D.int (by rw [rng_len]; exact i_shl _ _))
  (conv => whnf)
  refine ⟨by rw [rng_len, rng_len]; show _ ≤ 100000; omega, ?_⟩
  (conv => whnf)
  refine lcI_map S.k (fun i => nI (mk (S.n + T.n) ((pairT S T).b i))) (by show (List.zipWith _ _ _).length = _; rw [List.length_zipWith, rng_len, rng_len]; omega) ?_ ?_
  · intro i y Qt hy hi ht
    obtain ⟨u, v, hu, hv, rfl⟩ := zip_get hy
    obtain ⟨_, rfl⟩ := rng_get hu
    obtain ⟨_, rfl⟩ := rng_get hv
    (conv => whnf)
    refine ⟨rfl, ?_⟩
    (conv => whnf)
    refine ⟨⟨Int.natCast_nonneg _, by rw [rng_len]; omega, lt64 (by omega)⟩, ?_⟩
    refine eqP ht (congrArg D.int ?_)
    show Builtin.bitOr _ (((mk T.n (T.b i) : Nat) : Int) * (2 : Int) ^ ((((List.range S.n).map fun i => nI (mk S.n (S.a i))).length : Nat) : Int).toNat) = _
    rw [rng_len, i_shl, i_or, mk_cat]; rfl
  (conv => whnf)
  refine lcI_map S.m (fun j => nI (mk (S.n + T.n) fun i => (pairT S T).c i j)) (by show (List.zipWith _ _ _).length = _; rw [List.length_zipWith, rng_len, rng_len]; omega) ?_ ?_
  · intro i y Qt hy hi ht
    obtain ⟨u, v, hu, hv, rfl⟩ := zip_get hy
    obtain ⟨_, rfl⟩ := rng_get hu
    obtain ⟨_, rfl⟩ := rng_get hv
    (conv => whnf)
    refine ⟨rfl, ?_⟩
    (conv => whnf)
    refine ⟨⟨Int.natCast_nonneg _, by rw [rng_len]; omega, lt64 (by omega)⟩, ?_⟩
    refine eqP ht (congrArg D.int ?_)
    show Builtin.bitOr _ (((mk T.n (fun l => T.c l i) : Nat) : Int) * (2 : Int) ^ ((((List.range S.n).map fun i => nI (mk S.n (S.a i))).length : Nat) : Int).toNat) = _
    rw [rng_len, i_shl, i_or, mk_cat]; rfl
  (conv => whnf)
  refine lcI_map S.k (fun i => nI (mk S.m ((pairT S T).d i))) (by show (List.zipWith _ _ _).length = _; rw [List.length_zipWith, rng_len, rng_len]; omega) ?_ ?_
  · intro i y Qt hy hi ht
    obtain ⟨u, v, hu, hv, rfl⟩ := zip_get hy
    obtain ⟨_, rfl⟩ := rng_get hu
    obtain ⟨_, rfl⟩ := rng_get hv
    (conv => whnf)
    refine ⟨rfl, ?_⟩
    (conv => whnf)
    refine eqP ht (congrArg D.int ?_)
    show Builtin.bitXor _ _ = _
    rw [i_xor, ← em, mk_xor]; rfl
  (conv => whnf)
  intro p hp0
  (conv => whnf)
  refine ⟨p, _, _, _, _, rfl, MM.upd_same, ?_⟩
  (conv => whnf); try dsimp only
  rw [MM.upd_same, MM.upd_upd, MM.upd_del hp0]
  have e : ((List.range S.n).map fun i => nI (mk S.n (S.a i))) ++ ((List.range T.n).map fun i => nI (mk T.n (T.a i) <<< S.n)) = mkL (S.n + T.n) (S.n + T.n) (pairT S T).a := by
    show _ = (List.range (S.n + T.n)).map fun i => nI (mk (S.n + T.n) ((pairT S T).a i))
    rw [List.range_add, List.map_append, List.map_map]
    congr 1
    · refine List.map_congr_left fun i hi => congrArg (fun z : Nat => nI z) ?_
      have hi := List.mem_range.mp hi
      rw [mk_wide _ _ T.n]; exact mk_congr fun j _ => by show _ = if i < S.n then _ else _; rw [if_pos hi]
    · refine List.map_congr_left fun i hi => congrArg (fun z : Nat => nI z) ?_
      rw [mk_high]; exact mk_congr fun j _ => by show _ = if S.n + i < S.n then _ else _; rw [if_neg (by omega), Nat.add_sub_cancel_left]
  rw [e]
  exact fin_ok hp
def c_shown : CT := fun ds M P => ∃ (T : Tb) (s : Nat → Bool), ds = [motionD T, nI (mk T.n s)] ∧ T.m ≤ 1000 ∧ P (nI (mk T.m fun j => xs T.n fun i => s i && T.c i j)) M
theorem l_shown (ds : List D) (M : MM) (Q : PQ) (h : c_shown ds M Q) : ds.length = 2 := by
  obtain ⟨_, _, rfl, _⟩ := h; rfl
theorem k_shown : Keeps 3 (b_shown c_number_of c_parity) c_shown := by
  rintro ds M P ⟨T, s, rfl, hm, hp⟩
  unfold b_shown
  (conv => whnf)
  refine lcI_map T.m (fun j => bN (xs T.n fun i => s i && T.c i j)) (rng_len _ _) ?_ ?_
  · intro j y Qt hy hj ht
    obtain ⟨_, rfl⟩ := rng_get hy
    (conv => whnf)
    refine ⟨mk T.n fun i => s i && T.c i j, ?_, ?_⟩
    · show [D.int (Builtin.bitAnd _ _)] = _
      rw [i_and, mk_and]
    · rw [par_mk]; exact ht
  (conv => whnf)
  exact ⟨T.m, _, .inl rfl, hm, fin_ok hp⟩
end BB
end
section
/-! contracts: looks, likeness -/
namespace BB
open PySem DL
theorem as_ref {M : MM} {a : Nat} {ys : List D} (h : M a = some (.lst ys)) : asS M (.ref a) = some ys := by
  show (match M a with
    | some (.lst xs) => some xs
    | _ => none) = _
  rw [h]
theorem rng_step {α : Type} (f : Nat → α) (t m : Nat) : (List.range (t * m)).map f ++ (List.range m).map (fun j => f (t * m + j)) = (List.range ((t + 1) * m)).map f := by
  rw [Nat.succ_mul, List.range_add, List.map_append, List.map_map]; rfl
theorem div_at {t m j : Nat} (h : j < m) : (t * m + j) / m = t := by
  rw [Nat.mul_comm, Nat.mul_add_div (by omega), Nat.div_eq_of_lt h, Nat.add_zero]
theorem mod_at {t m j : Nat} (h : j < m) : (t * m + j) % m = j := by
  rw [Nat.mul_comm, Nat.mul_add_mod, Nat.mod_eq_of_lt h]
theorem lt_at {t N m j : Nat} (ht : t < N) (h : j < m) : t * m + j < N * m := by
  have : (t + 1) * m ≤ N * m := Nat.mul_le_mul_right _ ht
  rw [Nat.succ_mul] at this; omega
abbrev looksL (N m : Nat) (y : Nat → Bool) : List D := ((List.range (N * m)).filter y).map fun q => .tup [nI (q % m), nI (q / m)]
def c_state_for : CT := fun ds M P => ∃ (T : Tb) (N : Nat) (g : Nat → Bool), ds = [motionD T, nI N, .lst (bitL (N * T.m) g)] ∧ Small T ∧ N ≤ 30 ∧
  (∀ s : Nat → Bool, (∀ q, q < N * T.m → T.out s (q / T.m) (q % T.m) = g q) → P (.tup [.tup (bitL T.n s), .non]) M) ∧
  ∀ y : Nat → Bool, (∀ i, i < T.n → xs (N * T.m) (fun q => y q && T.look (q / T.m) (q % T.m) i) = false) → xs (N * T.m) (fun q => y q && g q) = true → P (.tup [.non, .tup (looksL N T.m y)]) M
theorem l_state_for (ds : List D) (M : MM) (Q : PQ) (h : c_state_for ds M Q) : ds.length = 3 := by
  obtain ⟨_, _, _, rfl, _⟩ := h; rfl
theorem k_state_for : Keeps 12 (b_state_for c_bits_of c_places_of c_combined c_Motion_looks_until) c_state_for := by
  rintro ds M P ⟨T, N, g, rfl, sm, hN, h1, h2⟩
  have s1 := sm.n; have s3 := sm.m
  have hNm : N * T.m ≤ 90 := Nat.le_trans (Nat.mul_le_mul hN s3) (by decide)
  unfold b_state_for
  (conv => whnf)
  refine ⟨by show 0 ≤ 100000; decide, ?_⟩
  intro f hf
  (conv => whnf)
  refine ⟨by show 0 ≤ 100000; decide, ?_⟩
  intro g' hg'
  have hfg : g' ≠ f := fun e => by subst e; rw [MM.upd_same] at hg'; cases hg'
  have hg0 : M g' = none := by rw [MM.upd_ne hfg] at hg'; exact hg'
  (conv => whnf)
  refine ⟨⟨rfl, rfl⟩, ?_⟩
  (conv => whnf)
  refine ⟨T, N, rfl, sm, by omega, ?_⟩
  (conv => whnf)
  refine ⟨fun t ρ M' => M' = (M.upd f (.lst ((List.range (t * T.m)).map fun q => nI (mk T.n (T.look (q / T.m) (q % T.m)))))).upd g' (.lst ((List.range (t * T.m)).map fun q => .tup [nI (q % T.m), nI (q / T.m)])) ∧
    ∃ u v w, ρ = [some (motionD T), some (nI N), some (.lst (bitL (N * T.m) g)), some (nI T.n), some (.ref f), some (.ref g'), u, v, w, none, none, none], ⟨?_, none, none, none, ?_⟩, ?_, ?_⟩
  · rw [Nat.zero_mul]; rfl
  · show [_, _, _, some (D.int (((List.range T.n).map fun i => nI (mk T.n (T.a i))).length : Nat)), _, _, _, _, _, _, _, _] = _
    rw [rng_len]
  · rintro t y ρ M' hy ⟨rfl, u, v, w, rfl⟩
    obtain ⟨z, hz, rfl⟩ := enum_get hy
    obtain ⟨ht, rfl⟩ := rng_get hz
    (conv => whnf)
    refine ⟨rfl, ?_⟩
    (conv => whnf)
    refine ⟨isl_ref (by rw [MM.upd_ne hfg.symm, MM.upd_same]), ?_⟩
    (conv => whnf); try dsimp only
    rw [MM.upd_ne hfg.symm, MM.upd_same]
    refine ⟨by rw [rng_len, rng_len]; show _ ≤ 100000; have := Nat.mul_le_mul_right T.m (Nat.le_of_lt ht); omega, ?_⟩
    (conv => whnf)
    refine ⟨isl_ref (by rw [MM.upd_ne hfg, MM.upd_same]), ?_⟩
    (conv => whnf)
    refine ⟨by rw [rng_len]; omega, ?_⟩
    refine lcI_map T.m (fun j => .tup [nI j, nI t]) (by rw [rangeD_nat, rng_len, rng_len]) ?_ ?_
    · intro j y Qt hy hj ht
      obtain ⟨_, rfl⟩ := rng_get (rangeD_nat _ ▸ hy)
      (conv => whnf)
      exact ⟨by show 2 ≤ 100000; decide, ht⟩
    (conv => whnf); try dsimp only
    rw [MM.upd_ne hfg, MM.upd_same]
    refine ⟨by rw [rng_len, rng_len]; show _ ≤ 100000; have := Nat.mul_le_mul_right T.m (Nat.le_of_lt ht); omega, ?_⟩
    refine ⟨?_, some (nI t), _, w, rfl⟩
    have e1 : ((List.range (t * T.m)).map fun q => nI (mk T.n (T.look (q / T.m) (q % T.m)))) ++ ((List.range T.m).map fun j => nI (mk T.n (T.look t j))) = (List.range ((t + 1) * T.m)).map fun q => nI (mk T.n (T.look (q / T.m) (q % T.m))) := by
      rw [← rng_step]; congr 1
      refine List.map_congr_left fun j hj => ?_
      have hj := List.mem_range.mp hj
      rw [div_at hj, mod_at hj]
    have e2 : ((List.range (t * T.m)).map fun q => D.tup [nI (q % T.m), nI (q / T.m)]) ++ ((List.range T.m).map fun j => D.tup [nI j, nI t]) = (List.range ((t + 1) * T.m)).map fun q => D.tup [nI (q % T.m), nI (q / T.m)] := by
      rw [← rng_step]; congr 1
      refine List.map_congr_left fun j hj => ?_
      have hj := List.mem_range.mp hj
      rw [div_at hj, mod_at hj]
    rw [← e1, ← e2]
    funext b
    by_cases h1 : b = f <;> by_cases h2 : b = g' <;> simp [MM.upd, h1, h2]
  · rintro ρ M' ⟨rfl, u, v, w, rfl⟩
    rw [enum_len, rng_len]
    (conv => whnf); try dsimp only
    rw [MM.upd_ne hfg.symm, MM.upd_same]
    have eM : ((M.upd f (.lst ((List.range (N * T.m)).map fun q => nI (mk T.n (T.look (q / T.m) (q % T.m)))))).upd g' (.lst ((List.range (N * T.m)).map fun q => .tup [nI (q % T.m), nI (q / T.m)]))).del f = M.upd g' (.lst ((List.range (N * T.m)).map fun q => .tup [nI (q % T.m), nI (q / T.m)])) := by
      funext b
      unfold MM.del MM.upd
      by_cases h1 : b = f
      · subst h1; rw [if_pos rfl, if_neg (fun h => hfg h.symm)]; exact hf.symm
      · rw [if_neg h1]
        by_cases h2 : b = g'
        · rw [if_pos h2, if_pos h2]
        · rw [if_neg h2, if_neg h2, if_neg h1]
    (conv => whnf); try dsimp only
    rw [eM]
    refine ⟨N * T.m, T.n, fun q => T.look (q / T.m) (q % T.m), g, rfl, by omega, by omega, ?_, ?_⟩
    · intro x hx e
      (conv => whnf)
      refine ⟨rfl, ?_⟩
      (conv => whnf)
      refine ⟨x, T.n, rfl, by omega, ?_⟩
      (conv => whnf)
      refine ⟨by show 2 ≤ 100000; decide, ?_⟩
      exact fin_le (MM.le_upd hg0) (h1 x.testBit fun q hq => by rw [out_look]; exact e q hq)
    · intro y hy e1 e2
      (conv => whnf)
      refine ⟨rfl, ?_⟩
      (conv => whnf)
      refine ⟨N * T.m, y.testBit, by rw [mk_self hy]; rfl, by omega, ?_⟩
      refine lcI_lst (fun d => match d with
        | .int q => .tup [nI (q.toNat % T.m), nI (q.toNat / T.m)]
        | d => d) ?_ ?_
      · intro z Qt hz ht
        obtain ⟨q, hq, rfl⟩ := List.mem_map.mp hz
        have hq' := List.mem_range.mp (List.mem_filter.mp hq).1
        (conv => whnf)
        rw [as_ref MM.upd_same]
        (conv => whnf)
        rw [ix_nat, rng_at hq']
        exact ht
      rw [List.map_map]
      (conv => whnf)
      refine ⟨by show 2 ≤ 100000; decide, ?_⟩
      exact fin_le (MM.le_upd hg0) (h2 y.testBit e1 e2)
def c_check_frame : CT := fun ds M P => ∃ (W W' : List Wire) (o o' : List Nat) (f f' : Nat → Nat → Bool), ds = [netD W o f, netD W' o' f'] ∧ (insOf W).length = (insOf W').length ∧ o.length = o'.length ∧ P .non M
theorem l_check_frame (ds : List D) (M : MM) (Q : PQ) (h : c_check_frame ds M Q) : ds.length = 2 := by
  obtain ⟨_, _, _, _, _, _, rfl, _⟩ := h; rfl
theorem ne_same {n m : Nat} (h : n = m) : (if (true : Bool) then !decide ((n : Int) = (m : Int)) else decide ((n : Int) = (m : Int))) = false := by subst h; simp
theorem k_check_frame : Keeps 2 b_check_frame c_check_frame := by
  rintro ds M P ⟨W, W', o, o', f, f', rfl, h1, h2, hp⟩
  have q1 : decide ((((insOf W).map nI).length : Int) = (((insOf W').map nI).length : Int)) = true := decide_eq_true (by rw [List.length_map, List.length_map, h1])
  have q2 : decide (((o.map nI).length : Int) = ((o'.map nI).length : Int)) = true := decide_eq_true (by rw [List.length_map, List.length_map, h2])
  unfold b_check_frame
  (conv => whnf); try dsimp only
  rw [q1]
  (conv => whnf); try dsimp only
  rw [q2]
  exact fin_nx hp
theorem fil_first {f : Nat → Bool} : ∀ {n : Nat}, (∃ i, i < n ∧ f i = true) → ∃ j l, (List.range n).filter f = j :: l ∧ j < n ∧ f j = true ∧ ∀ j', j' < j → f j' = false
  | 0, h => by obtain ⟨_, h, _⟩ := h; exact absurd h (Nat.not_lt_zero _)
  | n + 1, h => by
    by_cases q : ∃ i, i < n ∧ f i = true
    · obtain ⟨j, l, e, hj, fj, hm⟩ := fil_first q
      refine ⟨j, l ++ [n].filter f, ?_, by omega, fj, hm⟩
      rw [List.range_succ, List.filter_append, e]; rfl
    · have all : ∀ j, j < n → f j = false := fun j hj => by
        cases e : f j with
        | false => rfl
        | true => exact absurd ⟨j, hj, e⟩ q
      obtain ⟨i, hi, fi⟩ := h
      have : i = n := by
        rcases Nat.lt_or_ge i n with z | z
        · rw [all i z] at fi; cases fi
        · omega
      subst this
      refine ⟨i, [], ?_, by omega, fi, all⟩
      rw [List.range_succ, List.filter_append, List.filter_eq_nil_iff.mpr fun j hj => by rw [all j (List.mem_range.mp hj)]; exact Bool.false_ne_true]
      simp [fi]
def c_first_difference : CT := fun ds M P => ∃ T : Tb, ds = [motionD T] ∧ Small T ∧ ∀ d, FD T.E T.n T.k T.m d → P d M
theorem l_first_difference (ds : List D) (M : MM) (Q : PQ) (h : c_first_difference ds M Q) : ds.length = 1 := by
  obtain ⟨_, rfl, _⟩ := h; rfl
theorem mk_tru (n : Nat) (f : Nat → Bool) : (((mk n f : Nat) : Int) != 0) = true ↔ ∃ i, i < n ∧ f i = true := by
  rw [bne_iff_ne]
  constructor
  · intro h
    refine Classical.byContradiction fun no => h ?_
    have : mk n f = 0 := mk_eq_zero.mpr fun i hi => by
      cases e : f i with
      | false => rfl
      | true => exact absurd ⟨i, hi, e⟩ no
    rw [this]; rfl
  · rintro ⟨i, hi, e⟩ h
    have : mk n f = 0 := by omega
    rw [mk_eq_zero.mp this i hi] at e; cases e
theorem k_first_difference : Keeps 7 (b_first_difference c_times c_places_of c_shown) c_first_difference := by
  rintro ds M P ⟨T, rfl, sm, hp⟩
  have s1 := sm.n; have s2 := sm.k; have s3 := sm.m
  unfold b_first_difference
  (conv => whnf)
  refine ⟨fun i ρ M' => M' = M ∧ (∀ p j, p < i → j < T.m → T.d p j = false) ∧ ∃ u v, ρ = [some (motionD T), u, v, none, none, none, none], ⟨rfl, fun p j h => absurd h (Nat.not_lt_zero _), none, none, rfl⟩, ?_, ?_⟩
  · rintro i y ρ M' hy ⟨rfl, h0, u, v, rfl⟩
    obtain ⟨z, hz, rfl⟩ := enum_get hy
    obtain ⟨hi, rfl⟩ := rng_get hz
    (conv => whnf)
    refine ⟨rfl, ?_⟩
    (conv => whnf)
    cases e : (((mk T.m (T.d i) : Nat) : Int) != 0) with
    | false =>
      have no : ∀ j, j < T.m → T.d i j = false := fun j hj => by
        cases q : T.d i j with
        | false => rfl
        | true => rw [(mk_tru _ _).mpr ⟨j, hj, q⟩] at e; cases e
      refine ⟨rfl, fun p j hp hj => ?_, some (nI i), some (nI (mk T.m (T.d i))), rfl⟩
      by_cases q : p < i
      · exact h0 p j q hj
      · have : p = i := by omega
        subst this; exact no j hj
    | true =>
      obtain ⟨j, l, el, hj, fj, hm⟩ := fil_first ((mk_tru _ _).mp e)
      (conv => whnf)
      refine ⟨T.m, T.d i, rfl, by omega, ?_⟩
      rw [el]
      (conv => whnf)
      rw [List.map_cons, at_zero]
      (conv => whnf)
      refine ⟨by show 3 ≤ 100000; decide, ?_⟩
      exact fin_ok (hp _ (.som 0 i j (Nat.zero_le _) hi hj fj (fun t' p' j' h => absurd h (Nat.not_lt_zero _)) h0 hm))
  · rintro ρ M' ⟨rfl, h0, u, v, rfl⟩
    rw [enum_len, rng_len] at h0
    (conv => whnf)
    refine ⟨by rw [rng_len]; omega, ?_⟩
    refine ⟨fun t ρ M2 => M2 = M' ∧ (∀ t' p j, t' < t → p < T.k → j < T.m → T.E (t' + 1) p j = false) ∧ ∃ u v w x y, ρ = [some (motionD T), u, v, some (.lst (mkL T.k T.n fun p => T.st (T.b p) t)), w, x, y], ⟨rfl, fun t' p j h => absurd h (Nat.not_lt_zero _), u, v, none, none, none, rfl⟩, ?_, ?_⟩
    · rintro t y ρ M2 hy ⟨rfl, h1, u, v, w, x, z, rfl⟩
      obtain ⟨ht, rfl⟩ := rng_get (rangeD_nat _ ▸ hy)
      rw [rng_len] at ht
      (conv => whnf)
      refine ⟨fun i ρ M3 => M3 = M2 ∧ (∀ p j, p < i → j < T.m → T.E (t + 1) p j = false) ∧ ∃ u x y, ρ = [some (motionD T), u, v, some (.lst (mkL T.k T.n fun p => T.st (T.b p) t)), some (nI t), x, y], ⟨rfl, fun p j h => absurd h (Nat.not_lt_zero _), u, x, z, rfl⟩, ?_, ?_⟩
      · rintro i y ρ M3 hy ⟨rfl, h2, u, x, z, rfl⟩
        obtain ⟨zz, hz, rfl⟩ := enum_get hy
        obtain ⟨hi, rfl⟩ := rng_get hz
        (conv => whnf)
        refine ⟨rfl, ?_⟩
        (conv => whnf)
        refine ⟨T, T.st (T.b i) t, rfl, by omega, ?_⟩
        (conv => whnf)
        cases e : (((mk T.m (fun j => xs T.n fun l => T.st (T.b i) t l && T.c l j) : Nat) : Int) != 0) with
        | false =>
          have no : ∀ j, j < T.m → T.E (t + 1) i j = false := fun j hj => by
            cases q : T.E (t + 1) i j with
            | false => rfl
            | true => rw [(mk_tru T.m (fun j => xs T.n fun l => T.st (T.b i) t l && T.c l j)).mpr ⟨j, hj, q⟩] at e; cases e
          refine ⟨rfl, fun p j hp hj => ?_, some (nI i), _, _, rfl⟩
          by_cases q : p < i
          · exact h2 p j q hj
          · have : p = i := by omega
            subst this; exact no j hj
        | true =>
          obtain ⟨j, l, el, hj, fj, hm⟩ := fil_first ((mk_tru _ _).mp e)
          (conv => whnf)
          refine ⟨T.m, (fun j => xs T.n fun l => T.st (T.b i) t l && T.c l j), rfl, by omega, ?_⟩
          rw [el]
          (conv => whnf)
          rw [List.map_cons, at_zero]
          (conv => whnf)
          refine ⟨by show 3 ≤ 100000; decide, ?_⟩
          refine fin_ok (hp _ (.som (t + 1) i j (by omega) hi hj fj (fun t' p' j' h hp' hj' => ?_) h2 hm))
          cases t' with
          | zero => exact h0 p' j' hp' hj'
          | succ t' => exact h1 t' p' j' (by omega) hp' hj'
      · rintro ρ M3 ⟨rfl, h2, u, x, z, rfl⟩
        rw [enum_len, rng_len] at h2
        (conv => whnf)
        refine lcI_map T.k (fun p => nI (mk T.n (T.st (T.b p) (t + 1)))) (rng_len _ _) ?_ ?_
        · intro p y Qt hy hp ht
          obtain ⟨_, rfl⟩ := rng_get hy
          (conv => whnf)
          refine ⟨mk T.n (T.st (T.b p) t), T.n, T.n, T.a, rfl, ?_⟩
          rw [mk_congr (g := T.st (T.b p) (t + 1)) fun j hj => xs_congr fun i hi => by rw [tb_mk]; simp only [hi, decide_true, Bool.true_and]]
          exact ht
        refine ⟨rfl, fun t' p j ht' hp' hj' => ?_, u, v, some (nI t), x, z, rfl⟩
        by_cases q : t' < t
        · exact h1 t' p j q hp' hj'
        · have : t' = t := by omega
          subst this; exact h2 p j hp' hj'
    · rintro ρ M2 ⟨rfl, h1, u, v, w, x, y, rfl⟩
      rw [rangeD_nat, rng_len, rng_len] at h1
      refine fin_ok (hp _ (.non fun t p j ht hp' hj' => ?_))
      cases t with
      | zero => exact h0 p j hp' hj'
      | succ t => exact h1 t p j (by omega) hp' hj'
end BB
end
section
/-! contracts: twins, from_all -/
namespace BB
open PySem DL
theorem tabOf_small {W : List Wire} {outs : List Nat} (ok : NetOk W outs) : Small (tabOf W outs) := ⟨Nat.le_trans ok.cells (by decide), by
  have := List.length_filter_le (isInp W) (List.range W.length)
  rw [List.length_range] at this
  exact Nat.le_trans this ok.wf.len, ok.outs⟩
def c_both : CT := fun ds M P => ∃ (W W' : List Wire) (o o' : List Nat) (f f' : Nat → Nat → Bool), ds = [netD W o f, netD W' o' f'] ∧ NetOk W o ∧ NetOk W' o' ∧ Solved W f ∧ Solved W' f' ∧ (insOf W).length = (insOf W').length ∧ o.length = o'.length ∧
  P (motionD (pairT (tabOf W o) (tabOf W' o'))) M
theorem l_both (ds : List D) (M : MM) (Q : PQ) (h : c_both ds M Q) : ds.length = 2 := by
  obtain ⟨_, _, _, _, _, _, rfl, _⟩ := h; rfl
theorem k_both : Keeps 2 (b_both c_paired c_motion_of c_Net_table c_check_frame) c_both := by
  rintro ds M P ⟨W, W', o, o', f, f', rfl, ok, ok', s, s', e1, e2, hp⟩
  unfold b_both
  (conv => whnf)
  refine ⟨W, W', o, o', f, f', rfl, e1, e2, ?_⟩
  (conv => whnf)
  refine ⟨⟨rfl, rfl⟩, ?_⟩
  (conv => whnf)
  refine ⟨W, o, f, rfl, ok, s, ?_⟩
  (conv => whnf)
  refine ⟨tabOf W o, rfl, tabOf_small ok, ?_⟩
  (conv => whnf)
  refine ⟨⟨rfl, rfl⟩, ?_⟩
  (conv => whnf)
  refine ⟨W', o', f', rfl, ok', s', ?_⟩
  (conv => whnf)
  refine ⟨tabOf W' o', rfl, tabOf_small ok', ?_⟩
  (conv => whnf)
  exact ⟨tabOf W o, tabOf W' o', rfl, tabOf_small ok, tabOf_small ok', e1, e2, fin_ok hp⟩
def unit (at_ : Nat) : Nat → Bool := fun j => decide (j = at_)
/-- the same bits from two states, as far as N beats tell -/
def Twin (S T : Tb) (N : Nat) (s s' : Nat → Bool) : Prop := ∀ q, q < N * T.m → T.out s' (q / T.m) (q % T.m) = S.out s (q / T.m) (q % T.m)
/-- looks that tell a state of S from every state of T -/
def Apart (S T : Tb) (N : Nat) (s y : Nat → Bool) : Prop := (∀ i, i < T.n → xs (N * T.m) (fun q => y q && T.look (q / T.m) (q % T.m) i) = false) ∧ xs (N * T.m) (fun q => y q && S.out s (q / T.m) (q % T.m)) = true
def c_twin_of : CT := fun ds M P => ∃ (S T : Tb) (s : Nat → Bool), ds = [motionD S, nI (mk S.n s), motionD T] ∧ Small S ∧ Small T ∧ S.m = T.m ∧
  (∀ s', Twin S T (S.n + T.n) s s' → P (.tup [.tup (bitL T.n s'), .non]) M) ∧
  ∀ y, Apart S T (S.n + T.n) s y → P (.tup [.non, .tup (looksL (S.n + T.n) T.m y)]) M
theorem l_twin_of (ds : List D) (M : MM) (Q : PQ) (h : c_twin_of ds M Q) : ds.length = 3 := by
  obtain ⟨_, _, _, rfl, _⟩ := h; rfl
theorem k_twin_of : Keeps 7 (b_twin_of c_state_for c_Motion_looks_until c_parity) c_twin_of := by
  rintro ds M P ⟨S, T, s, rfl, sS, sT, em, h1, h2⟩
  have s1 := sS.n; have s3 := sS.m; have t1 := sT.n; have t3 := sT.m
  have eN : (((List.range S.n).map fun i => nI (mk S.n (S.a i))).length : Int) + (((List.range T.n).map fun i => nI (mk T.n (T.a i))).length : Int) = ((S.n + T.n : Nat) : Int) := by
    rw [rng_len, rng_len]; omega
  unfold b_twin_of
  (conv => whnf)
  refine ⟨⟨rfl, rfl⟩, ?_⟩
  (conv => whnf)
  refine ⟨S, S.n + T.n, ?_, sS, by omega, ?_⟩
  · exact congrArg (fun z : Int => [motionD S, D.int z]) eN
  (conv => whnf)
  refine ⟨fun t acc M' => M' = M ∧ acc = (List.range (t * T.m)).map fun q => bN (S.out s (q / T.m) (q % T.m)), ⟨rfl, by rw [Nat.zero_mul]; rfl⟩, ?_, ?_⟩
  · rintro t y acc M' hy ⟨rfl, rfl⟩
    obtain ⟨ht, rfl⟩ := rng_get hy
    (conv => whnf)
    refine ⟨fun j acc M2 => M2 = M' ∧ acc = (List.range (t * T.m + j)).map fun q => bN (S.out s (q / T.m) (q % T.m)), ⟨rfl, rfl⟩, ?_, ?_⟩
    · rintro j y acc M' hy ⟨rfl, rfl⟩
      obtain ⟨hj, rfl⟩ := rng_get hy
      rw [em] at hj
      (conv => whnf)
      refine ⟨mk S.n fun i => s i && S.look t j i, ?_, ?_⟩
      · show [D.int (Builtin.bitAnd _ _)] = _
        rw [i_and, mk_and]
      refine ⟨?_, rfl, ?_⟩
      · rw [rng_len]
        have : t * T.m ≤ 24 * 3 := Nat.mul_le_mul (by omega) t3
        show _ < 100000; omega
      · rw [par_mk, ← Nat.add_assoc, List.range_succ, List.map_append]
        show _ = _ ++ [bN (S.out s ((t * T.m + j) / T.m) ((t * T.m + j) % T.m))]
        rw [div_at hj, mod_at hj, out_look]
    · rintro acc M' ⟨rfl, rfl⟩
      refine ⟨rfl, ?_⟩
      rw [rng_len, em, Nat.succ_mul]
  · rintro acc M' ⟨rfl, rfl⟩
    rw [rng_len]
    (conv => whnf)
    refine ⟨T, S.n + T.n, fun q => S.out s (q / T.m) (q % T.m), ?_, sT, by omega, fun s' h => fin_ok (h1 s' h), fun y a b => fin_ok (h2 y ⟨a, b⟩)⟩
    exact congrArg (fun z : Int => [motionD T, D.int z, D.lst (bitL ((S.n + T.n) * T.m) fun q => S.out s (q / T.m) (q % T.m))]) eN
def c_FromAll___init__ : CT := fun ds M P => ∃ (p : Nat) (t b d s x l : D), ds = [.ref p, .tup [t, b], d, s, .tup [x, l]] ∧ M p = some (.ins 1004 []) ∧
  P .non (M.upd p (.ins 1004 [("there", t), ("back", b), ("difference", d), ("side", s), ("state", x), ("looks", l)]))
theorem l_FromAll___init__ (ds : List D) (M : MM) (Q : PQ) (h : c_FromAll___init__ ds M Q) : ds.length = 5 := by
  obtain ⟨_, _, _, _, _, _, _, rfl, _⟩ := h; rfl
theorem k_FromAll___init__ : Keeps 5 b_FromAll___init__ c_FromAll___init__ := by
  rintro ds M P ⟨p, t, b, d, s, x, l, rfl, hm, hp⟩
  unfold b_FromAll___init__
  (conv => whnf)
  rw [hm]
  refine ⟨rfl, by show 0 < 900; decide, ?_⟩
  (conv => whnf)
  rw [MM.upd_same]
  refine ⟨rfl, by show 1 < 900; decide, ?_⟩
  (conv => whnf)
  rw [MM.upd_same]
  refine ⟨rfl, by show 2 < 900; decide, ?_⟩
  (conv => whnf)
  rw [MM.upd_same]
  refine ⟨rfl, by show 3 < 900; decide, ?_⟩
  (conv => whnf)
  rw [MM.upd_same]
  refine ⟨rfl, by show 4 < 900; decide, ?_⟩
  (conv => whnf)
  rw [MM.upd_same]
  refine ⟨rfl, by show 5 < 900; decide, ?_⟩
  rw [MM.upd_upd, MM.upd_upd, MM.upd_upd, MM.upd_upd, MM.upd_upd]
  exact fin_nx hp
abbrev fromD (t b d s x l : D) : D := .obj 1004 [("there", t), ("back", b), ("difference", d), ("side", s), ("state", x), ("looks", l)]
/-- every unit of S has a twin in T -/
def Twins (S T : Tb) (tw : Nat → Nat → Bool) : Prop := ∀ at_, at_ < S.n → Twin S T (S.n + T.n) (unit at_) (tw at_)
abbrev twL (S T : Tb) (tw : Nat → Nat → Bool) : D := .tup ((List.range S.n).map fun at_ => .tup (bitL T.n (tw at_)))
def c_from_all : CT := fun ds M P => ∃ (W W' : List Wire) (o o' : List Nat) (f f' : Nat → Nat → Bool) (S T : Tb), ds = [netD W o f, netD W' o' f'] ∧ NetOk W o ∧ NetOk W' o' ∧ Solved W f ∧ Solved W' f' ∧ (insOf W).length = (insOf W').length ∧ o.length = o'.length ∧
  S = tabOf W o ∧ T = tabOf W' o' ∧
  (∀ d, FD (fun t p j => xor (S.E t p j) (T.E t p j)) (S.n + T.n) S.k S.m d → d ≠ .non → P (fromD .non .non d .non .non .non) M) ∧
  (FD (fun t p j => xor (S.E t p j) (T.E t p j)) (S.n + T.n) S.k S.m .non →
    (∀ tw tw', Twins S T tw → Twins T S tw' → P (fromD (twL S T tw) (twL T S tw') .non .non .non .non) M) ∧
    (∀ at_ y, at_ < S.n → Apart S T (S.n + T.n) (unit at_) y → P (fromD .non .non .non (nI 0) (.tup (bitL S.n (unit at_))) (.tup (looksL (S.n + T.n) T.m y))) M) ∧
    ∀ tw at_ y, Twins S T tw → at_ < T.n → Apart T S (T.n + S.n) (unit at_) y → P (fromD .non .non .non (nI 1) (.tup (bitL T.n (unit at_))) (.tup (looksL (T.n + S.n) S.m y))) M)
theorem l_from_all (ds : List D) (M : MM) (Q : PQ) (h : c_from_all ds M Q) : ds.length = 2 := by
  obtain ⟨_, _, _, _, _, _, _, _, rfl, _⟩ := h; rfl
theorem isN_some {α : Type} (d : D) (h : d ≠ .non) (b : Bool) (M : MM) (P : PQ) : uIsN b d M P = P (.bl b) M := by
  cases d <;> first | exact absurd rfl h | rfl
theorem k_from_all : Keeps 12 (b_from_all c_FromAll___init__ c_bits_of c_twin_of c_motion_of c_Net_table c_first_difference c_both) c_from_all := by
  rintro ds M P ⟨W, W', o, o', f, f', S, T, rfl, ok, ok', sv, sv', e1, e2, eS, eT, hA, hB⟩
  have sS : Small S := eS ▸ tabOf_small ok
  have sT : Small T := eT ▸ tabOf_small ok'
  have ek : S.k = T.k := by rw [eS, eT]; exact e1
  have em : S.m = T.m := by rw [eS, eT]; exact e2
  have s1 : S.n ≤ 5 := by rw [eS]; exact ok.cells
  have t1 : T.n ≤ 5 := by rw [eT]; exact ok'.cells
  have s2 := sS.k; have s3 := sS.m
  unfold b_from_all
  (conv => whnf)
  refine ⟨W, W', o, o', f, f', rfl, ok, ok', sv, sv', e1, e2, ?_⟩
  rw [← eS, ← eT]
  (conv => whnf)
  refine ⟨pairT S T, rfl, ⟨by show S.n + T.n ≤ 12; omega, sS.k, sS.m⟩, ?_⟩
  intro d hd
  have hd' : FD (fun t p j => xor (S.E t p j) (T.E t p j)) (S.n + T.n) S.k S.m d := by
    rw [show (fun t p j => xor (S.E t p j) (T.E t p j)) = (pairT S T).E from funext fun t => funext fun p => funext fun j => (pair_E S T t p j).symm]; exact hd
  cases hd with
  | som t p j x1 x2 x3 x4 x5 x6 x7 =>
    (conv => whnf)
    refine ⟨by show 2 ≤ 100000; decide, ?_⟩
    intro q hq
    (conv => whnf)
    refine ⟨q, _, _, _, _, _, _, rfl, MM.upd_same, ?_⟩
    (conv => whnf); try dsimp only
    rw [MM.upd_same, MM.upd_upd, MM.upd_del hq]
    exact fin_ok (hA _ hd' (fun h => nomatch h))
  | non x0 =>
    obtain ⟨hB1, hB2, hB3⟩ := hB hd'
    (conv => whnf)
    refine ⟨⟨rfl, rfl⟩, ?_⟩
    (conv => whnf)
    refine ⟨W, o, f, rfl, ok, sv, ?_⟩
    rw [← eS]
    (conv => whnf)
    refine ⟨S, rfl, sS, ?_⟩
    (conv => whnf)
    refine ⟨⟨rfl, rfl⟩, ?_⟩
    (conv => whnf)
    refine ⟨W', o', f', rfl, ok', sv', ?_⟩
    rw [← eT]
    (conv => whnf)
    refine ⟨T, rfl, sT, ?_⟩
    (conv => whnf)
    refine ⟨by show 2 ≤ 100000; decide, ?_⟩
    (conv => whnf)
    refine ⟨by show 0 ≤ 100000; decide, ?_⟩
    intro g hg
    (conv => whnf)
    refine ⟨by decide, ?_⟩
    have le0 : M.le (M.upd g (.lst [])) := MM.le_upd hg
    have inner : ∀ (A B : Tb) (i : Nat) (F : DL.Fin) (M' : MM) (w0 w1 u9 u10 u11 : Option D) (r : Nat), Small A → Small B → A.n ≤ 5 → B.n ≤ 5 → A.m = B.m → L2.atI [motionD S, motionD T] (1 - (i : Int)) = some (motionD B) → M' r = some (.lst []) → M r = none → M.le M' →
        (∀ at_ y M2, at_ < A.n → Apart A B (A.n + B.n) (unit at_) y → M.le M2 → F.rt (fromD .non .non .non (nI i) (.tup (bitL A.n (unit at_))) (.tup (looksL (A.n + B.n) B.m y))) M2) →
        (∀ tw u9 u10 u11, Twins A B tw → F.nx [w0, w1, some .non, some (.tup [motionD S, motionD T]), some (.ref g), some (nI i), some (motionD A), some (nI A.n), some (.ref r), u9, u10, u11] (M'.upd r (.lst ((List.range A.n).map fun at_ => .tup (bitL B.n (tw at_)))))) →
        sFor (iRange (mVar 7)) (gNm 9) (sSeq (sSet (mCall c_twin_of [] (aCons (mVar 6) (aCons (mBin bShl (mC (.int 1)) (mVar 9)) (aCons (mBin bIx (mVar 3) (mBin bSub (mC (.int 1)) (mVar 5))) aNil)))) (gTp [10, 11]))
          (sSeq (sIf (tVal (mUn (uIsN false) (mVar 10))) (sRet (mMake 1004 c_FromAll___init__ [] (aCons (mTup (aCons (mC .non) (aCons (mC .non) aNil))) (aCons (mC .non) (aCons (mVar 5) (aCons (mTup (aCons (mCall c_bits_of [] (aCons (mBin bShl (mC (.int 1)) (mVar 9)) (aCons (mVar 7) aNil))) (aCons (mVar 11) aNil))) aNil)))))) sNx)
          (sExpr (mBL mAppend (mVar 8) (aCons (mVar 10) aNil))))) F [w0, w1, some .non, some (.tup [motionD S, motionD T]), some (.ref g), some (nI i), some (motionD A), some (nI A.n), some (.ref r), u9, u10, u11] M' := by
      intro A B i F M' w0 w1 u9 u10 u11 r sA sB a1 b1 em hix hr hr0 le hrt hnx
      (conv => whnf)
      refine ⟨by omega, ?_⟩
      refine ⟨fun k ρ M2 => ∃ tw u9 u10 u11, M2 = M'.upd r (.lst ((List.range k).map fun at_ => .tup (bitL B.n (tw at_)))) ∧ (∀ at_, at_ < k → Twin A B (A.n + B.n) (unit at_) (tw at_)) ∧
        ρ = [w0, w1, some .non, some (.tup [motionD S, motionD T]), some (.ref g), some (nI i), some (motionD A), some (nI A.n), some (.ref r), u9, u10, u11], ⟨fun _ _ => false, u9, u10, u11, ?_, fun a h => absurd h (Nat.not_lt_zero _), rfl⟩, ?_, ?_⟩
      · funext b
        by_cases h : b = r
        · subst h; rw [MM.upd_same, hr]; rfl
        · rw [MM.upd_ne h]
      · rintro k y ρ M2 hy ⟨tw, u9, u10, u11, rfl, htw, rfl⟩
        obtain ⟨hk, rfl⟩ := rng_get (rangeD_nat _ ▸ hy)
        have le2 : M.le (M'.upd r (.lst ((List.range k).map fun at_ => .tup (bitL B.n (tw at_))))) := fun a o e => by
          have : a ≠ r := fun h => by rw [h, hr0] at e; cases e
          rw [MM.upd_ne this]; exact le a o e
        (conv => whnf)
        refine ⟨⟨Int.natCast_nonneg _, by show (k : Int) ≤ _; omega, by decide⟩, ?_⟩
        (conv => whnf); try dsimp only
        rw [hix]
        (conv => whnf)
        refine ⟨A, B, unit k, ?_, sA, sB, em, ?_, ?_⟩
        · show [motionD A, D.int ((1 : Int) * (2 : Int) ^ ((k : Int)).toNat), motionD B] = _
          rw [one_shl, ← mk_one hk]; rfl
        · intro s' hs'
          (conv => whnf)
          refine ⟨rfl, ?_⟩
          (conv => whnf)
          refine ⟨isl_ref MM.upd_same, ?_⟩
          (conv => whnf); try dsimp only
          rw [MM.upd_same]
          refine ⟨by rw [rng_len]; show _ < 100000; omega, ?_⟩
          refine ⟨fun a => if a = k then s' else tw a, _, _, _, ?_, ?_, rfl⟩
          · rw [MM.upd_upd, List.range_succ, List.map_append]
            have : ((List.range k).map fun at_ => D.tup (bitL B.n ((fun a => if a = k then s' else tw a) at_))) = (List.range k).map fun at_ => D.tup (bitL B.n (tw at_)) := by
              refine List.map_congr_left fun a ha => ?_
              have : a ≠ k := fun e => by subst e; exact absurd (List.mem_range.mp ha) (Nat.lt_irrefl _)
              simp only [this, if_false]
            rw [this]
            simp only [List.map_cons, List.map_nil, if_true]
          · intro a ha
            by_cases e : a = k
            · simp only [e, if_true]; exact hs'
            · simp only [e, if_false]; exact htw a (by omega)
        · intro y hy
          (conv => whnf)
          refine ⟨rfl, ?_⟩
          (conv => whnf)
          refine ⟨by show 2 ≤ 100000; decide, ?_⟩
          (conv => whnf)
          refine ⟨⟨Int.natCast_nonneg _, by show (k : Int) ≤ _; omega, by decide⟩, ?_⟩
          (conv => whnf)
          refine ⟨1 <<< k, A.n, ?_, by omega, ?_⟩
          · show [D.int ((1 : Int) * (2 : Int) ^ ((k : Int)).toNat), nI A.n] = _
            rw [one_shl]
          (conv => whnf)
          refine ⟨by show 2 ≤ 100000; decide, ?_⟩
          intro q hq
          (conv => whnf)
          refine ⟨q, _, _, _, _, _, _, rfl, MM.upd_same, ?_⟩
          (conv => whnf); try dsimp only
          rw [MM.upd_same, MM.upd_upd, MM.upd_del hq]
          have := hrt k y _ hk hy le2
          have eb : bitL A.n (1 <<< k).testBit = bitL A.n (unit k) := List.map_congr_left fun j _ => by rw [tb_shl_one]; rfl
          rw [← eb] at this
          exact this
      · rintro ρ M2 ⟨tw, u9, u10, u11, rfl, htw, rfl⟩
        rw [rangeD_nat, rng_len] at htw ⊢
        exact hnx tw u9 u10 u11 htw
    refine ⟨fun i ρ M' => M.le M' ∧ ∃ tw tw' rows u5 u6 u7 u8 u9 u10 u11, M' g = some (.lst rows) ∧ ((i = 0 ∧ rows = []) ∨ (i = 1 ∧ rows = [twL S T tw] ∧ Twins S T tw) ∨ (i = 2 ∧ rows = [twL S T tw, twL T S tw'] ∧ Twins S T tw ∧ Twins T S tw')) ∧
      ρ = [some (netD W o f), some (netD W' o' f'), some .non, some (.tup [motionD S, motionD T]), some (.ref g), u5, u6, u7, u8, u9, u10, u11], ⟨le0, fun _ _ => false, fun _ _ => false, [], none, none, none, none, none, none, none, MM.upd_same, .inl ⟨rfl, rfl⟩, rfl⟩, ?_, ?_⟩
    · rintro i y ρ M' hy ⟨le, tw, tw', rows, u5, u6, u7, u8, u9, u10, u11, hgm, hr, rfl⟩
      obtain ⟨hi, rfl⟩ := rng_get (f := nI) (n := 2) hy
      rcases hr with ⟨rfl, rfl⟩ | ⟨rfl, rfl, htw⟩ | ⟨rfl, _⟩
      · (conv => whnf)
        refine ⟨by show 0 ≤ 100000; decide, ?_⟩
        intro r hr
        have hrg : g ≠ r := fun e => by subst e; rw [hgm] at hr; cases hr
        have hr0 : M r = none := by
          cases e : M r with
          | none => rfl
          | some o => rw [le r o e] at hr; cases hr
        have lr : M.le (M'.upd r (.lst [])) := MM.le_trans le (MM.le_upd hr)
        have eA : (((List.range S.n).map fun i => nI (mk S.n (S.a i))).length) = S.n := rng_len _ _
        rw [show D.int ((((List.range S.n).map fun i => nI (mk S.n (S.a i))).length : Nat) : Int) = nI S.n by rw [eA]]
        refine inner S T 0 _ _ _ _ _ _ _ r sS sT s1 t1 em rfl MM.upd_same hr0 lr ?_ ?_
        · intro at_ y M2 ha hy le2
          exact fin_le le2 (hB2 at_ y ha hy)
        · intro tw u9 u10 u11 htw
          rw [MM.upd_upd]
          (conv => whnf)
          refine ⟨isl_ref (by rw [MM.upd_ne hrg]; exact hgm), ?_⟩
          (conv => whnf); try dsimp only
          rw [as_ref MM.upd_same]
          (conv => whnf); try dsimp only
          rw [MM.upd_ne hrg, hgm]
          refine ⟨by decide, fun a o e => ?_, tw, tw', [twL S T tw], _, _, _, _, _, _, _, MM.upd_same, .inr (.inl ⟨rfl, rfl, htw⟩), rfl⟩
          have h1 : a ≠ g := fun h => by rw [h, hg] at e; cases e
          have h2 : a ≠ r := fun h => by rw [h, hr0] at e; cases e
          rw [MM.upd_ne h1, MM.upd_ne h2]; exact le a o e
      · (conv => whnf)
        refine ⟨by show 0 ≤ 100000; decide, ?_⟩
        intro r hr
        have hrg : g ≠ r := fun e => by subst e; rw [hgm] at hr; cases hr
        have hr0 : M r = none := by
          cases e : M r with
          | none => rfl
          | some o => rw [le r o e] at hr; cases hr
        have lr : M.le (M'.upd r (.lst [])) := MM.le_trans le (MM.le_upd hr)
        have eA : (((List.range T.n).map fun i => nI (mk T.n (T.a i))).length) = T.n := rng_len _ _
        rw [show D.int ((((List.range T.n).map fun i => nI (mk T.n (T.a i))).length : Nat) : Int) = nI T.n by rw [eA]]
        refine inner T S 1 _ _ _ _ _ _ _ r sT sS t1 s1 em.symm rfl MM.upd_same hr0 lr ?_ ?_
        · intro at_ y M2 ha hy le2
          exact fin_le le2 (hB3 tw at_ y htw ha hy)
        · intro tw'' u9 u10 u11 htw''
          rw [MM.upd_upd]
          (conv => whnf)
          refine ⟨isl_ref (by rw [MM.upd_ne hrg]; exact hgm), ?_⟩
          (conv => whnf); try dsimp only
          rw [as_ref MM.upd_same]
          (conv => whnf); try dsimp only
          rw [MM.upd_ne hrg, hgm]
          refine ⟨by show 1 < 100000; decide, fun a o e => ?_, tw, tw'', [twL S T tw, twL T S tw''], _, _, _, _, _, _, _, MM.upd_same, .inr (.inr ⟨rfl, rfl, htw, htw''⟩), rfl⟩
          have h1 : a ≠ g := fun h => by rw [h, hg] at e; cases e
          have h2 : a ≠ r := fun h => by rw [h, hr0] at e; cases e
          rw [MM.upd_ne h1, MM.upd_ne h2]; exact le a o e
      · omega
    · rintro ρ M' ⟨le, tw, tw', rows, u5, u6, u7, u8, u9, u10, u11, hgm, hr, rfl⟩
      rcases hr with ⟨h, _⟩ | ⟨h, _⟩ | ⟨_, rfl, htw, htw'⟩
      · cases h
      · cases h
      (conv => whnf); try dsimp only
      rw [as_ref hgm]
      (conv => whnf)
      intro q hq
      (conv => whnf)
      refine ⟨q, _, _, _, _, _, _, rfl, MM.upd_same, ?_⟩
      (conv => whnf); try dsimp only
      rw [MM.upd_same, MM.upd_upd, MM.upd_del hq]
      exact fin_le le (hB1 tw tw' htw htw')
end BB
end
section
/-! contracts: the pen, places, wires -/
namespace BB
open PySem DL
/-- the pen at p, its cells at q, at most n spots drawn -/
def Pen (M : MM) (p q n : Nat) : Prop := p ≠ q ∧ ∃ (ns : List Int) (s : Nat), M p = some (.lst [.ref q, nI s]) ∧ M q = some (.lst (ns.map D.int)) ∧ 0 < ns.length ∧ ns.length ≤ 63 ∧ s ≤ n
def Same (M M' : MM) (p q : Nat) : Prop := ∀ a, a ≠ p → a ≠ q → M' a = M a
theorem Same.rfl' {M : MM} {p q : Nat} : Same M M p q := fun _ _ _ => rfl
theorem Same.trans {A B C : MM} {p q : Nat} (h : Same A B p q) (k : Same B C p q) : Same A C p q := fun a x y => (k a x y).trans (h a x y)
theorem Pen.mono {M : MM} {p q n n' : Nat} (h : Pen M p q n) (l : n ≤ n') : Pen M p q n' := by
  obtain ⟨a, ns, s, b, c, d, e, f⟩ := h; exact ⟨a, ns, s, b, c, d, e, Nat.le_trans f l⟩
theorem Pen.upd {M : MM} {p q n a : Nat} {o : MO} (h : Pen M p q n) (hp : a ≠ p) (hq : a ≠ q) : Pen (M.upd a o) p q n := by
  obtain ⟨x, ns, s, b, c, d⟩ := h; exact ⟨x, ns, s, by rw [MM.upd_ne hp.symm]; exact b, by rw [MM.upd_ne hq.symm]; exact c, d⟩
theorem Pen.ne {M : MM} {p q n a : Nat} (h : Pen M p q n) (ha : M a = none) : a ≠ p ∧ a ≠ q := by
  obtain ⟨x, ns, s, b, c, d⟩ := h
  exact ⟨fun e => (by rw [e, b] at ha; cases ha), fun e => (by rw [e, c] at ha; cases ha)⟩
def c__law_draw : CT := fun ds M P => ∃ (p q n many : Nat), ds = [.ref p, nI many] ∧ Pen M p q n ∧ n ≤ 100000 ∧ 0 < many ∧ many ≤ 100000 ∧ ∀ r M', r < many → Pen M' p q (n + 1) → Same M M' p q → P (nI r) M'
theorem l__law_draw (ds : List D) (M : MM) (Q : PQ) (h : c__law_draw ds M Q) : ds.length = 2 := by
  obtain ⟨_, _, _, _, rfl, _⟩ := h; rfl
theorem k__law_draw : Keeps 6 b__law_draw c__law_draw := by
  rintro ds M P ⟨p, q, n, many, rfl, ⟨hne, ns, s, hp, hq, h0, h1, hs⟩, hn, hm, hm', hP⟩
  unfold b__law_draw
  (conv => whnf)
  rw [as_ref hp]
  (conv => whnf)
  rw [hp]
  (conv => whnf)
  have hqp : q ≠ p := hne.symm
  let M1 : MM := M.upd p (.lst [.ref q, nI (s + 1)])
  have g1 : M1 p = some (.lst [.ref q, nI (s + 1)]) := MM.upd_same
  have g2 : M1 q = some (.lst (ns.map D.int)) := by show (M.upd p _) q = _; rw [MM.upd_ne hqp]; exact hq
  change (sSeq (sSet (mBin bMod (mCB fInt (aCons (mVar 2) aNil)) (mCB fLen (aCons (mBin bIx (mVar 0) (mC (.int 0))) aNil))) (gNm 3)) _) (finD P) [some (.ref p), some (nI many), some (nI s), none, none, none] M1
  (conv => whnf)
  rw [as_ref g1]
  (conv => whnf)
  rw [as_ref g2]
  (conv => whnf)
  have hl : 0 < ((ns.map D.int).length : Int) := by rw [List.length_map]; omega
  refine ⟨hl, ?_⟩
  obtain ⟨c, hc, hcl⟩ : ∃ c : Nat, (s : Int) % ((ns.map D.int).length : Int) = (c : Int) ∧ c < ns.length := by
    rw [List.length_map] at hl ⊢
    refine ⟨((s : Int) % (ns.length : Int)).toNat, ?_, ?_⟩
    · rw [Int.toNat_of_nonneg (Int.emod_nonneg _ (by omega))]
    · have := Int.emod_lt_of_pos (s : Int) hl
      have h2 := Int.emod_nonneg (s : Int) (show (ns.length : Int) ≠ 0 by omega)
      omega
  change (sSeq (sSet (mCB fInt (aCons (mBin bIx (mBin bIx (mVar 0) (mC (.int 0))) (mVar 3)) aNil)) (gNm 4)) _) (finD P) [some (.ref p), some (nI many), some (nI s), some (.int ((s : Int) % ((ns.map D.int).length : Int))), none, none] M1
  rw [hc]
  (conv => whnf)
  rw [as_ref g1]
  (conv => whnf)
  rw [as_ref g2]
  (conv => whnf)
  obtain ⟨v, hv⟩ : ∃ v, ns[c]? = some v := ⟨_, List.getElem?_eq_getElem hcl⟩
  rw [ix_nat, List.getElem?_map, hv]
  have pen1 : ∀ ms : List Int, ms.length = ns.length → Pen (M1.upd q (.lst (ms.map D.int))) p q (n + 1) := fun ms hms =>
    ⟨hne, ms, s + 1, by rw [MM.upd_ne hne]; exact g1, MM.upd_same, by omega, by omega, by omega⟩
  have same1 : ∀ o, Same M (M1.upd q o) p q := fun o a x y => by
    rw [MM.upd_ne y]; show (M.upd p _) a = _; rw [MM.upd_ne x]
  have fit : ∀ z : Int, ∃ r : Nat, z % (many : Int) = (r : Int) ∧ r < many := fun z => by
    have a := Int.emod_nonneg z (show (many : Int) ≠ 0 by omega)
    have b := Int.emod_lt_of_pos z (show (0 : Int) < many by omega)
    exact ⟨(z % (many : Int)).toNat, by omega, by omega⟩
  have hm2 : (0 : Int) < (many : Int) := by omega
  (conv => whnf)
  refine ⟨⟨by decide, by decide, by decide⟩, ?_⟩
  (conv => whnf); try dsimp only
  cases e : decide ((10 : Int) ^ (18 : Int).toNat ≤ v) with
  | true =>
    (conv => whnf)
    refine ⟨⟨hm2, by show (many : Int) < 1073741824; omega⟩, ?_⟩
    (conv => whnf)
    rw [as_ref g1]
    (conv => whnf)
    rw [g2]
    (conv => whnf)
    rw [List.length_map, ixn hcl]
    (conv => whnf)
    refine ⟨hm2, ?_⟩
    obtain ⟨r, hr, hrl⟩ := fit v
    refine fin_ok (eqPM (hP r (M1.upd q (.lst ((ns.set c (v / (many : Int))).map D.int))) hrl (pen1 _ (by rw [List.length_set])) (same1 _)) (congrArg D.int hr) ?_)
    rw [List.map_set]
  | false =>
    (conv => whnf)
    refine ⟨by show (0 : Int) < 1000003; decide, ?_⟩
    (conv => whnf)
    refine ⟨.inr (by decide), ?_⟩
    (conv => whnf)
    refine ⟨.inr (by decide), ?_⟩
    (conv => whnf)
    refine ⟨⟨by decide, by decide, ?_⟩, ?_⟩
    · have a := Int.emod_nonneg v (show (1000003 : Int) ≠ 0 by decide)
      have b := Int.emod_lt_of_pos v (show (0 : Int) < 1000003 by decide)
      show (v % 1000003 * 48271 + (s : Int) * 7919 + 104729).natAbs < 18446744073709551616
      omega
    (conv => whnf)
    refine ⟨by show (0 : Int) < 2147483647; decide, ?_⟩
    (conv => whnf)
    refine ⟨⟨by show (0 : Int) < 8; decide, by show (8 : Int) < 1073741824; decide⟩, ?_⟩
    (conv => whnf)
    refine ⟨hm2, ?_⟩
    obtain ⟨r, hr, hrl⟩ := fit ((v % 1000003 * 48271 + (s : Int) * 7919 + 104729) ^ (5 : Int).toNat % 2147483647 / 8)
    refine fin_ok (eqPM (hP r (M1.upd q (.lst (ns.map D.int))) hrl (pen1 _ rfl) (same1 _)) (congrArg D.int hr) ?_)
    funext b
    by_cases e : b = q
    · subst e; rw [MM.upd_same]; exact g2
    · rw [MM.upd_ne e]
def c__law_places : CT := fun ds M P => ∃ (W : List Wire) (k : Str) (sel : List Wire → Nat → Bool), ds = [.lst (W.map wireD), .str k] ∧ ((k = "in" ∧ sel = isInp) ∨ (k = "cell" ∧ sel = isCell) ∨ (k = "sum" ∧ sel = isSum)) ∧ W.length ≤ 1000 ∧
  P (.lst (((List.range W.length).filter (sel W)).map nI)) M
theorem l__law_places (ds : List D) (M : MM) (Q : PQ) (h : c__law_places ds M Q) : ds.length = 2 := by
  obtain ⟨_, _, _, rfl, _⟩ := h; rfl
theorem k__law_places : Keeps 3 b__law_places c__law_places := by
  rintro ds M P ⟨W, k, sel, rfl, hk, hW, hp⟩
  unfold b__law_places
  (conv => whnf)
  refine ⟨by rw [List.length_map]; omega, ?_⟩
  refine lcI_fil W.length (sel W) nI (by rw [rangeD_nat, rng_len, List.length_map]) ?_ (fin_ok hp)
  intro i y Qt Qf hy ht hf
  obtain ⟨hi, rfl⟩ := rng_get (rangeD_nat _ ▸ hy)
  rw [List.length_map] at hi
  obtain ⟨w, hw⟩ : ∃ w, W[i]? = some w := ⟨_, List.getElem?_eq_getElem hi⟩
  (conv => whnf)
  rw [ix_nat, List.getElem?_map, hw]
  rcases hk with ⟨rfl, rfl⟩ | ⟨rfl, rfl⟩ | ⟨rfl, rfl⟩
  · rw [isInp_w hw] at ht hf
    cases w with
    | inp => (conv => whnf); exact ht rfl
    | cell s b => (conv => whnf); exact hf rfl
    | sum l => (conv => whnf); rw [at_zero]; (conv => whnf); exact hf rfl
  · rw [isCell_w hw] at ht hf
    cases w with
    | inp => (conv => whnf); exact hf rfl
    | cell s b => (conv => whnf); exact ht rfl
    | sum l => (conv => whnf); rw [at_zero]; (conv => whnf); exact hf rfl
  · rw [isSum_w hw] at ht hf
    cases w with
    | inp => (conv => whnf); exact hf rfl
    | cell s b => (conv => whnf); exact hf rfl
    | sum l => (conv => whnf); rw [at_zero]; (conv => whnf); exact ht rfl
end BB
end
section
/-! contracts: drawn nets -/
namespace BB
open PySem DL
/-- kinds as they are drawn -/
def kD : Nat → D
  | 0 => .str "in"
  | 1 => .str "cell"
  | _ => .str "sum"
def kOf : Wire → Nat
  | .inp => 0
  | .cell _ _ => 1
  | .sum _ => 2
theorem cnt_ins (l : List Nat) (i x y : Nat) : (l.take i ++ [x] ++ l.drop i).count y = l.count y + (if x = y then 1 else 0) := by
  rw [List.count_append, List.count_append]
  conv => rhs; rw [← List.take_append_drop i l, List.count_append]
  have : [x].count y = if x = y then 1 else 0 := by
    rw [List.count_cons]; simp
  rw [this]; omega
theorem ins_len (l : List Nat) (i x : Nat) : (l.take i ++ [x] ++ l.drop i).length = l.length + 1 := by
  rw [List.length_append, List.length_append]
  conv => rhs; rw [← List.take_append_drop i l, List.length_append]
  simp; omega
theorem sel_len (p : List Wire → Nat → Bool) (t : Wire → Bool) (hp : ∀ W v w, W[v]? = some w → p W v = t w) : ∀ W : List Wire, ((List.range W.length).filter (p W)).length = (W.map t).count true := by
  intro W
  have : ∀ n, n ≤ W.length → ((List.range n).filter (p W)).length = ((W.take n).map t).count true := by
    intro n
    induction n with
    | zero => intro _; rfl
    | succ n ih =>
      intro hn
      have hw : W[n]? = some (W[n]'(by omega)) := List.getElem?_eq_getElem (by omega)
      rw [List.range_succ, List.filter_append, List.length_append, ih (by omega), List.take_add_one, hw, List.map_append, List.count_append]
      congr 1
      rw [List.filter_cons, hp W n _ hw]
      show _ = [t W[n]].count true
      cases t W[n] <;> rfl
  have := this W.length (Nat.le_refl _)
  rwa [List.take_length] at this
theorem cnt_map (l : List Nat) (x : Nat) : (l.map fun y => decide (y = x)).count true = l.count x := by
  induction l with
  | nil => rfl
  | cons y l ih =>
    rw [List.map_cons, List.count_cons, List.count_cons, ih]
    by_cases h : y = x
    · subst h; simp
    · simp [h]
theorem ins_len_of (W : List Wire) : (insOf W).length = (W.map kOf).count 0 := by
  rw [← cnt_map, List.map_map]
  exact sel_len isInp _ (fun W v w h => by rw [isInp_w h]; cases w <;> rfl) W
theorem cells_len_of (W : List Wire) : (cellsOf W).length = (W.map kOf).count 1 := by
  rw [← cnt_map, List.map_map]
  exact sel_len isCell _ (fun W v w h => by rw [isCell_w h]; cases w <;> rfl) W
def c__law_wires : CT := fun ds M P => ∃ (p q n c0 c1 c2 : Nat), ds = [.ref p, .lst [.tup [.str "in", nI c0], .tup [.str "cell", nI c1], .tup [.str "sum", nI c2]]] ∧ Pen M p q n ∧ n ≤ 1000 ∧ c0 + c1 + c2 ≤ 16 ∧
  ∀ (W : List Wire) M', WF W → W.length = c0 + c1 + c2 → (insOf W).length = c0 → (cellsOf W).length = c1 → Pen M' p q (n + 200) → Same M M' p q → P (.lst (W.map wireD)) M'
theorem l__law_wires (ds : List D) (M : MM) (Q : PQ) (h : c__law_wires ds M Q) : ds.length = 2 := by
  obtain ⟨_, _, _, _, _, _, rfl, _⟩ := h; rfl
theorem Same.upd {M M' : MM} {p q a : Nat} {o : MO} (h : Same (M.upd a o) M' p q) (hp : a ≠ p) (hq : a ≠ q) : M' a = some o := by rw [h a hp hq, MM.upd_same]
theorem k__law_wires : Keeps 8 (b__law_wires c__law_draw) c__law_wires := by
  rintro ds M P ⟨p, q, n, c0, c1, c2, rfl, pen, hn, hc, hP⟩
  have kcases : ∀ i y, ([D.tup [.str "in", nI c0], .tup [.str "cell", nI c1], .tup [.str "sum", nI c2]])[i]? = some y → ∃ c, (y = .tup [kD i, nI c]) ∧ ((i = 0 ∧ c = c0) ∨ (i = 1 ∧ c = c1) ∨ (i = 2 ∧ c = c2)) := by
    intro i y h
    rcases i with _ | _ | _ | i
    · cases h; exact ⟨c0, rfl, .inl ⟨rfl, rfl⟩⟩
    · cases h; exact ⟨c1, rfl, .inr (.inl ⟨rfl, rfl⟩)⟩
    · cases h; exact ⟨c2, rfl, .inr (.inr ⟨rfl, rfl⟩)⟩
    · exact absurd h (by show ([] : List D)[i]? ≠ _; simp)
  unfold b__law_wires
  (conv => whnf)
  refine ⟨by show 0 ≤ 100000; decide, ?_⟩
  intro a ha
  obtain ⟨ap, aq⟩ := pen.ne ha
  let cnt : Nat → Nat := fun i => if i = 0 then c0 else if i = 1 then c1 else if i = 2 then c2 else 0
  let tot : Nat → Nat := fun i => (if 0 < i then c0 else 0) + (if 1 < i then c1 else 0) + (if 2 < i then c2 else 0)
  (conv => whnf)
  refine ⟨fun i ρ M' => ∃ row : List Nat, row.length = tot i ∧ (∀ k, row.count k = if k < i then cnt k else 0) ∧ M' a = some (.lst (row.map kD)) ∧ Pen M' p q (n + tot i) ∧ (∀ b, b ≠ a → b ≠ p → b ≠ q → M' b = M b) ∧ (∀ x, x ∈ row → x < 3) ∧
    ∃ u3 u4 u5, ρ = [some (.ref p), some (.lst [.tup [.str "in", nI c0], .tup [.str "cell", nI c1], .tup [.str "sum", nI c2]]), some (.ref a), u3, u4, u5, none, none], ?_, ?_, ?_⟩
  · exact ⟨[], rfl, fun k => by simp, MM.upd_same, (pen.upd ap aq).mono (by omega), fun b h _ _ => MM.upd_ne h, fun x h => (by cases h), none, none, none, rfl⟩
  · rintro i y ρ M' hy ⟨row, hl, hcnt, hm, pen', same, hk3, u3, u4, u5, rfl⟩
    obtain ⟨c, rfl, hic⟩ := kcases i y hy
    have hcc : c = cnt i := by rcases hic with ⟨rfl, rfl⟩ | ⟨rfl, rfl⟩ | ⟨rfl, rfl⟩ <;> rfl
    have hi3 : i < 3 := by omega
    have htot : tot i + c = tot (i + 1) := by rcases hic with ⟨rfl, rfl⟩ | ⟨rfl, rfl⟩ | ⟨rfl, rfl⟩ <;> simp [tot]
    have htl : tot (i + 1) ≤ 16 := by show (_ + _ + _ : Nat) ≤ 16; split <;> split <;> split <;> omega
    (conv => whnf)
    refine ⟨rfl, ?_⟩
    (conv => whnf)
    refine ⟨by omega, ?_⟩
    refine ⟨fun t ρ M2 => ∃ row : List Nat, row.length = tot i + t ∧ (∀ k, row.count k = (if k < i then cnt k else 0) + if i = k then t else 0) ∧ M2 a = some (.lst (row.map kD)) ∧ Pen M2 p q (n + tot i + t) ∧ (∀ b, b ≠ a → b ≠ p → b ≠ q → M2 b = M b) ∧ (∀ x, x ∈ row → x < 3) ∧
      ∃ u5, ρ = [some (.ref p), some (.lst [.tup [.str "in", nI c0], .tup [.str "cell", nI c1], .tup [.str "sum", nI c2]]), some (.ref a), some (kD i), some (nI c), u5, none, none], ⟨row, hl, fun k => by rw [hcnt k]; split <;> split <;> omega, hm, pen', same, hk3, u5, rfl⟩, ?_, ?_⟩
    · rintro t y ρ M2 hy ⟨row, hl, hcnt, hm, pen', same, hk3, u5, rfl⟩
      obtain ⟨ht, rfl⟩ := rng_get (rangeD_nat _ ▸ hy)
      (conv => whnf)
      refine ⟨isl_ref hm, ?_⟩
      (conv => whnf)
      rw [as_ref hm]
      (conv => whnf)
      refine ⟨p, q, n + tot i + t, row.length + 1, ?_, pen', by omega, by omega, by omega, ?_⟩
      · show [D.ref p, D.int (((row.map kD).length : Int) + 1)] = _
        rw [List.length_map]; rfl
      intro r M3 hr pen3 same3
      have hm3 : M3 a = some (.lst (row.map kD)) := by rw [same3 a ap aq]; exact hm
      (conv => whnf)
      rw [hm3]
      refine ⟨by rw [List.length_map]; show _ < 100000; omega, Int.natCast_nonneg _, by show (r : Int) < 100000; omega, ?_⟩
      refine ⟨row.take r ++ [i] ++ row.drop r, by rw [ins_len]; omega, fun k => ?_, ?_, (pen3.upd ap aq).mono (by omega), fun b h1 h2 h3 => by rw [MM.upd_ne h1, same3 b h2 h3, same b h1 h2 h3], fun x hx => ?_, some (nI t), rfl⟩
      · rw [cnt_ins, hcnt k]; split <;> split <;> omega
      · rw [MM.upd_same, List.map_append, List.map_append, List.map_take, List.map_drop]; rfl
      · rcases List.mem_append.mp hx with hx | hx
        · rcases List.mem_append.mp hx with hx | hx
          · exact hk3 x (List.mem_of_mem_take hx)
          · cases List.mem_singleton.mp hx; exact hi3
        · exact hk3 x (List.mem_of_mem_drop hx)
    · rintro ρ M2 ⟨row, hl, hcnt, hm, pen', same, hk3, u5, rfl⟩
      rw [rangeD_nat, rng_len] at hl hcnt pen'
      refine ⟨row, by omega, fun k => ?_, hm, pen'.mono (by omega), same, hk3, _, _, _, rfl⟩
      rw [hcnt k]
      by_cases e : i = k
      · subst e; simp [hcc]
      · have : (k < i) = (k < i + 1) := by apply propext; omega
        simp [e, this]
  · rintro ρ M' ⟨row, hl, hcnt, hm, pen', same, hk3, u3, u4, u5, rfl⟩
    have hl : row.length = c0 + c1 + c2 := hl
    have pen' : Pen M' p q (n + (c0 + c1 + c2)) := pen'
    have hL : row.length ≤ 16 := by omega
    (conv => whnf)
    refine ⟨by show 0 ≤ 100000; decide, ?_⟩
    intro b hb
    obtain ⟨bp, bq⟩ := pen'.ne hb
    have ba : b ≠ a := fun e => by rw [e, hm] at hb; cases hb
    (conv => whnf)
    rw [MM.upd_ne ba.symm, hm]
    (conv => whnf)
    have ea : (M'.upd b (.lst [])).del a b = some (.lst []) := by rw [MM.del_ne ba, MM.upd_same]
    refine ⟨fun i ρ M2 => ∃ W : List Wire, W.map kOf = row.take i ∧ (∀ w, w ∈ W → ∀ x, x ∈ w.srcs → x < row.length) ∧ (∀ s t, Wire.cell s t ∈ W → t ≤ 1) ∧ (∀ l, Wire.sum l ∈ W → l.length ≤ 1000) ∧ M2 b = some (.lst (W.map wireD)) ∧ Pen M2 p q (n + (c0 + c1 + c2) + 5 * i) ∧ (∀ c, c ≠ a → c ≠ b → c ≠ p → c ≠ q → M2 c = M c) ∧ M2 a = none ∧
      ∃ u3 u4 u5 u7, ρ = [some (.ref p), some (.lst [.tup [.str "in", nI c0], .tup [.str "cell", nI c1], .tup [.str "sum", nI c2]]), some (.lst (row.map kD)), u3, u4, u5, some (.ref b), u7], ⟨[], rfl, fun w h => (by cases h), fun s t h => (by cases h), fun l h => (by cases h), ea, ?_, ?_, MM.del_same, u3, u4, u5, none, rfl⟩, ?_, ?_⟩
    · obtain ⟨x, ns, s, h1, h2, h3⟩ := pen'
      exact Pen.mono ⟨x, ns, s, by rw [MM.del_ne ap.symm, MM.upd_ne bp.symm]; exact h1, by rw [MM.del_ne aq.symm, MM.upd_ne bq.symm]; exact h2, h3⟩ (by omega)
    · intro c h1 h2 h3 h4; rw [MM.del_ne h1, MM.upd_ne h2, same c h1 h3 h4]
    · rintro i y ρ M2 hy ⟨W, hW, hsrc, hbit, hwide, hm2, pen2, same2, ha2, u3, u4, u5, u7, rfl⟩
      obtain ⟨k, hk, rfl⟩ := map_get hy
      have hil : i < row.length := (List.getElem?_eq_some_iff.mp hk).1
      have hWl : W.length = i := by
        have := congrArg List.length hW; rw [List.length_map, List.length_take] at this; omega
      have hWk : ∀ w, kOf w = k → (W ++ [w]).map kOf = row.take (i + 1) := fun w hw => by
        rw [List.map_append, hW, List.take_add_one, hk]; show _ ++ [kOf w] = _; rw [hw]; rfl
      have hbig : (W.map wireD).length < 100000 := by rw [List.length_map]; omega
      have fin : ∀ (w : Wire) (M3 : MM) (ρ' : DL.Env), kOf w = k → (∀ x, x ∈ w.srcs → x < row.length) → (∀ s t, w = .cell s t → t ≤ 1) → (∀ l, w = .sum l → l.length ≤ 1000) → M3 b = some (.lst (W.map wireD)) → Pen M3 p q (n + (c0 + c1 + c2) + 5 * i + 5) → (∀ c, c ≠ a → c ≠ b → c ≠ p → c ≠ q → M3 c = M c) → M3 a = none →
          (∃ u3 u4 u5 u7, ρ' = [some (.ref p), some (.lst [.tup [.str "in", nI c0], .tup [.str "cell", nI c1], .tup [.str "sum", nI c2]]), some (.lst (row.map kD)), u3, u4, u5, some (.ref b), u7]) →
          ∃ W' : List Wire, W'.map kOf = row.take (i + 1) ∧ (∀ w, w ∈ W' → ∀ x, x ∈ w.srcs → x < row.length) ∧ (∀ s t, Wire.cell s t ∈ W' → t ≤ 1) ∧ (∀ l, Wire.sum l ∈ W' → l.length ≤ 1000) ∧ (M3.upd b (.lst (W.map wireD ++ [wireD w]))) b = some (.lst (W'.map wireD)) ∧ Pen (M3.upd b (.lst (W.map wireD ++ [wireD w]))) p q (n + (c0 + c1 + c2) + 5 * (i + 1)) ∧ (∀ c, c ≠ a → c ≠ b → c ≠ p → c ≠ q → (M3.upd b (.lst (W.map wireD ++ [wireD w]))) c = M c) ∧ (M3.upd b (.lst (W.map wireD ++ [wireD w]))) a = none ∧
            ∃ u3 u4 u5 u7, ρ' = [some (.ref p), some (.lst [.tup [.str "in", nI c0], .tup [.str "cell", nI c1], .tup [.str "sum", nI c2]]), some (.lst (row.map kD)), u3, u4, u5, some (.ref b), u7] := by
        intro w M3 ρ' hwk hs hb' hl' h1 h2 h3 h4 h5
        refine ⟨W ++ [w], hWk w hwk, fun v hv => ?_, fun s t h => ?_, fun l h => ?_, by rw [MM.upd_same, List.map_append]; rfl, (h2.upd bp bq).mono (by omega), fun c x y z v => by rw [MM.upd_ne y, h3 c x y z v], by rw [MM.upd_ne ba.symm]; exact h4, h5⟩
        · rcases List.mem_append.mp hv with hv | hv
          · exact hsrc v hv
          · cases List.mem_singleton.mp hv; exact hs
        · rcases List.mem_append.mp h with h | h
          · exact hbit s t h
          · exact hb' s t (List.mem_singleton.mp h).symm
        · rcases List.mem_append.mp h with h | h
          · exact hwide l h
          · exact hl' l (List.mem_singleton.mp h).symm
      have hk3' : k < 3 := hk3 k (List.mem_of_getElem? hk)
      have hrl : ((row.map kD).length : Int) = ((row.length : Nat) : Int) := by rw [List.length_map]
      rcases k with _ | _ | k
      · (conv => whnf)
        refine ⟨isl_ref hm2, ?_⟩
        (conv => whnf)
        refine ⟨by show 1 ≤ 100000; decide, ?_⟩
        (conv => whnf)
        rw [hm2]
        refine ⟨hbig, ?_⟩
        exact fin .inp M2 _ rfl (fun x h => (by cases h)) (fun s t h => nomatch h) (fun l h => nomatch h) hm2 (pen2.mono (by omega)) same2 ha2 ⟨_, _, _, _, rfl⟩
      · (conv => whnf)
        refine ⟨isl_ref hm2, ?_⟩
        (conv => whnf)
        refine ⟨p, q, _, row.length, congrArg (fun z : Int => [D.ref p, D.int z]) hrl, pen2, by omega, by omega, by omega, ?_⟩
        intro r M3 hr pen3 same3
        (conv => whnf)
        refine ⟨p, q, _, 2, rfl, pen3, by omega, by omega, by omega, ?_⟩
        intro r' M4 hr' pen4 same4
        have s4 := same3.trans same4
        (conv => whnf)
        refine ⟨by show 3 ≤ 100000; decide, ?_⟩
        (conv => whnf)
        rw [s4 b bp bq, hm2]
        refine ⟨hbig, ?_⟩
        refine fin (.cell r r') M4 _ rfl (fun x h => by cases List.mem_singleton.mp h; exact hr) (fun s t h => by cases h; omega) (fun l h => nomatch h) (by rw [s4 b bp bq]; exact hm2) (pen4.mono (by omega)) (fun c x y z v => by rw [s4 c z v, same2 c x y z v]) (by rw [s4 a ap aq]; exact ha2) ⟨_, _, _, _, rfl⟩
      · have : k = 0 := by omega
        subst this
        (conv => whnf)
        refine ⟨p, q, _, 4, rfl, pen2, by omega, by omega, by omega, ?_⟩
        intro r M3 hr pen3 same3
        (conv => whnf)
        refine ⟨by omega, ?_⟩
        refine ⟨fun t acc M4 => ∃ xs : List Nat, xs.length = t ∧ acc = xs.map nI ∧ (∀ x, x ∈ xs → x < row.length) ∧ Pen M4 p q (n + (c0 + c1 + c2) + 5 * i + 1 + t) ∧ Same M3 M4 p q, ⟨[], rfl, rfl, fun x h => (by cases h), pen3.mono (by omega), Same.rfl'⟩, ?_, ?_⟩
        · rintro t y acc M4 hy ⟨xs, hxl, rfl, hx, pen4, same4⟩
          obtain ⟨ht, rfl⟩ := rng_get (rangeD_nat _ ▸ hy)
          (conv => whnf)
          refine ⟨p, q, _, row.length, congrArg (fun z : Int => [D.ref p, D.int z]) hrl, pen4, by omega, by omega, by omega, ?_⟩
          intro v M5 hv pen5 same5
          refine ⟨xs ++ [v], by rw [List.length_append, hxl]; rfl, by rw [List.map_append]; rfl, fun x h => ?_, pen5.mono (by omega), same4.trans same5⟩
          rcases List.mem_append.mp h with h | h
          · exact hx x h
          · cases List.mem_singleton.mp h; exact hv
        · rintro acc M4 ⟨xs, hxl, rfl, hx, pen4, same4⟩
          rw [rangeD_nat, rng_len] at hxl
          have s4 := same3.trans same4
          (conv => whnf)
          refine ⟨isl_ref (by rw [s4 b bp bq]; exact hm2), ?_⟩
          (conv => whnf)
          refine ⟨by show 1 ≤ 100000; decide, ?_⟩
          (conv => whnf)
          refine ⟨by rw [List.length_map]; show 1 + _ ≤ 100000; omega, ?_⟩
          (conv => whnf)
          rw [s4 b bp bq, hm2]
          refine ⟨hbig, ?_⟩
          refine fin (.sum xs) M4 _ rfl hx (fun s t h => nomatch h) (fun l h => by cases h; omega) (by rw [s4 b bp bq]; exact hm2) (pen4.mono (by rw [rangeD_nat, rng_len]; omega)) (fun c x y z v => by rw [s4 c z v, same2 c x y z v]) (by rw [s4 a ap aq]; exact ha2) ⟨_, _, _, _, rfl⟩
    · rintro ρ M2 ⟨W, hW, hsrc, hbit, hwide, hm2, pen2, same2, ha2, u3, u4, u5, u7, rfl⟩
      rw [List.length_map, List.take_length] at hW
      have hWl : W.length = row.length := by have := congrArg List.length hW; rwa [List.length_map] at this
      (conv => whnf)
      rw [hm2]
      have pd : Pen (M2.del b) p q (n + 200) := by
        obtain ⟨x, ns, s, h1, h2, h3⟩ := pen2
        exact Pen.mono ⟨x, ns, s, by rw [MM.del_ne bp.symm]; exact h1, by rw [MM.del_ne bq.symm]; exact h2, h3⟩ (by rw [List.length_map]; omega)
      have wf : WF W := ⟨fun w hw x hx => by rw [hWl]; exact hsrc w hw x hx, hbit, by omega, hwide⟩
      refine fin_ok (hP W _ wf (by omega) ?_ ?_ pd ?_)
      · rw [ins_len_of, hW, hcnt 0]; rfl
      · rw [cells_len_of, hW, hcnt 1]; rfl
      · intro c h1 h2
        by_cases e1 : c = b
        · subst e1; rw [MM.del_same]
          have hMb : M' c = none := hb
          rw [same c ba h1 h2] at hMb; exact hMb.symm
        · rw [MM.del_ne e1]
          by_cases e2 : c = a
          · subst e2; rw [ha2, ha]
          · exact same2 c e2 e1 h1 h2
end BB
end
section
/-! data that is compared -/
namespace BB
open PySem DL
def SD : Nat → D → Prop
  | 0, .non => True
  | 0, .int _ => True
  | 0, .str x => PyData.strOk x = true
  | 0, _ => False
  | _ + 1, .non => True
  | _ + 1, .int _ => True
  | _ + 1, .str x => PyData.strOk x = true
  | k + 1, .lst xs => ∀ x, x ∈ xs → SD k x
  | k + 1, .tup xs => ∀ x, x ∈ xs → SD k x
  | _ + 1, _ => False
theorem sd_all {M : MM} {k : Nat} (ih : ∀ d, SD k d → ∃ p, Py M d p ∧ p.canLay0 = true ∧ p.depth ≤ k) : ∀ xs : List D, (∀ x, x ∈ xs → SD k x) → ∃ ps, PyAll M xs ps ∧ PyData.canLayAll0 ps = true ∧ PyData.depthAll ps ≤ k
  | [], _ => ⟨[], .nil, rfl, Nat.zero_le _⟩
  | x :: xs, h => by
    obtain ⟨p, h1, h2, h3⟩ := ih x (h x (List.mem_cons_self ..))
    obtain ⟨ps, k1, k2, k3⟩ := sd_all ih xs fun y hy => h y (List.mem_cons_of_mem _ hy)
    exact ⟨p :: ps, .cons h1 k1, by simp only [PyData.canLayAll0, h2, k2, Bool.and_self], by simp only [PyData.depthAll]; omega⟩
theorem sd_py (M : MM) : ∀ (k : Nat) (d : D), SD k d → ∃ p, Py M d p ∧ p.canLay0 = true ∧ p.depth ≤ k
  | 0, d, h => by
    cases d <;> first | exact absurd h (fun h => h.elim) | skip
    · exact ⟨.none, .non, rfl, by simp only [PyData.depth]; omega⟩
    · exact ⟨.int _, .int _, rfl, by simp only [PyData.depth]; omega⟩
    · exact ⟨.str _, .str _, by simp only [PyData.canLay0]; exact h, by simp only [PyData.depth]; omega⟩
  | k + 1, d, h => by
    cases d <;> first | exact absurd h (fun h => h.elim) | skip
    · exact ⟨.none, .non, rfl, by simp only [PyData.depth]; omega⟩
    · exact ⟨.int _, .int _, rfl, by simp only [PyData.depth]; omega⟩
    · exact ⟨.str _, .str _, by simp only [PyData.canLay0]; exact h, by simp only [PyData.depth]; omega⟩
    · obtain ⟨ps, a, b, c⟩ := sd_all (sd_py M k) _ h
      exact ⟨.list ps, .lst a, by simp only [PyData.canLay0]; exact b, by simp only [PyData.depth]; omega⟩
    · obtain ⟨ps, a, b, c⟩ := sd_all (sd_py M k) _ h
      exact ⟨.tuple ps, .tup a, by simp only [PyData.canLay0]; exact b, by simp only [PyData.depth]; omega⟩
theorem sd_eqAll {M : MM} {k : Nat} (ih : ∀ d d' p p', SD k d → SD k d' → Py M d p → Py M d' p' → (PyData.eqv p p' = true ↔ d = d')) :
    ∀ (xs ys : List D) (ps qs : List PyData), (∀ x, x ∈ xs → SD k x) → (∀ x, x ∈ ys → SD k x) → PyAll M xs ps → PyAll M ys qs → (PyData.eqvAll ps qs = true ↔ xs = ys)
  | [], [], _, _, _, _, .nil, .nil => by simp only [PyData.eqvAll]
  | [], y :: ys, _, _, _, _, .nil, .cons _ _ => by simp [PyData.eqvAll]
  | x :: xs, [], _, _, _, _, .cons _ _, .nil => by simp [PyData.eqvAll]
  | x :: xs, y :: ys, _, _, h, h', .cons a b, .cons c d => by
    have e1 := ih x y _ _ (h x (List.mem_cons_self ..)) (h' y (List.mem_cons_self ..)) a c
    have e2 := sd_eqAll ih xs ys _ _ (fun z hz => h z (List.mem_cons_of_mem _ hz)) (fun z hz => h' z (List.mem_cons_of_mem _ hz)) b d
    simp only [PyData.eqvAll, Bool.and_eq_true]
    rw [e1, e2, List.cons.injEq]
theorem sd_eq (M : MM) : ∀ (k : Nat) (d d' : D) (p p' : PyData), SD k d → SD k d' → Py M d p → Py M d' p' → (PyData.eqv p p' = true ↔ d = d')
  | 0, d, d', p, p', h, h', a, b => by
    cases d <;> first | exact absurd h (fun h => h.elim) | skip
    all_goals cases d' <;> first | exact absurd h' (fun h => h.elim) | skip
    all_goals cases a; cases b; simp [PyData.eqv]
  | k + 1, d, d', p, p', h, h', a, b => by
    cases d <;> first | exact absurd h (fun h => h.elim) | skip
    all_goals cases d' <;> first | exact absurd h' (fun h => h.elim) | skip
    all_goals cases a; cases b
    all_goals first
      | (simp only [PyData.eqv, D.lst.injEq, D.tup.injEq]; exact sd_eqAll (sd_eq M k) _ _ _ _ h h' (by assumption) (by assumption))
      | simp [PyData.eqv]
theorem shaped_of {p : PyData} {k : Nat} (h : p.canLay0 = true) (hd : p.depth ≤ k) (hk : k ≤ 64) : SeqAt.shaped p = true := by
  show (p.canLay0 && decide (p.depth ≤ 64)) = true
  rw [h, decide_eq_true (by omega)]; rfl
theorem bEqD_i {neg : Bool} {x y : D} {M : MM} {P : PQ} (k : Nat) (hk : k ≤ 60) (hx : SD k x) (hy : SD k y) (h : ∀ b : Bool, (b = true ↔ x = y) → P (.bl (if neg then !b else b)) M) : bEqD neg x y M P := by
  obtain ⟨p, a1, a2, a3⟩ := sd_py M k x hx
  obtain ⟨q, b1, b2, b3⟩ := sd_py M k y hy
  exact ⟨p, q, a1, b1, shaped_of a2 a3 (by omega), shaped_of b2 b3 (by omega), h _ (sd_eq M k x y p q hx hy a1 b1)⟩
theorem eqD_ex (M : MM) {x y : D} (k : Nat) (hk : k ≤ 60) (hx : SD k x) (hy : SD k y) : ∃ p q, Py M x p ∧ Py M y q ∧ SeqAt.shaped p = true ∧ SeqAt.shaped q = true ∧ (PyData.eqv p q = true ↔ x = y) := by
  obtain ⟨p, a1, a2, a3⟩ := sd_py M k x hx
  obtain ⟨q, b1, b2, b3⟩ := sd_py M k y hy
  exact ⟨p, q, a1, b1, shaped_of a2 a3 (by omega), shaped_of b2 b3 (by omega), sd_eq M k x y p q hx hy a1 b1⟩
theorem inD_ex (M : MM) {x : D} {ys : List D} (k : Nat) (hk : k ≤ 60) (hx : SD k x) (hy : ∀ y, y ∈ ys → SD k y) :
    ∃ p qs, Py M x p ∧ Py M (.lst ys) (.list qs) ∧ SeqAt.shaped p = true ∧ SeqAt.shaped (.list qs) = true ∧ ((qs.any fun z => PyData.eqv z p) = true ↔ x ∈ ys) := by
  obtain ⟨p, a1, a2, a3⟩ := sd_py M k x hx
  obtain ⟨qs, b1, b2, b3⟩ := sd_all (M := M) (sd_py M k) ys hy
  refine ⟨p, qs, a1, .lst b1, shaped_of a2 a3 (by omega), shaped_of (k := k + 1) (by simp only [PyData.canLay0]; exact b2) (by simp only [PyData.depth]; omega) (by omega), ?_⟩
  have key : ∀ (ys : List D) (qs : List PyData), (∀ y, y ∈ ys → SD k y) → PyAll M ys qs → ((qs.any fun z => PyData.eqv z p) = true ↔ x ∈ ys) := by
    intro ys
    induction ys with
    | nil => intro qs _ h; cases h; simp
    | cons y ys ih =>
      intro qs hy h
      cases h with
      | cons a b =>
        rw [List.any_cons, Bool.or_eq_true, ih _ (fun z hz => hy z (List.mem_cons_of_mem _ hz)) b, sd_eq M k y x _ p (hy y (List.mem_cons_self ..)) hx a a1, List.mem_cons, eq_comm]
  exact key ys qs hy b1
/-- a list against the empty one -/
theorem bEqD_nil {neg : Bool} {x : D} {xs : List D} {M : MM} {P : PQ} {p : List PyData} (h0 : Py M x (.list p)) (hl : p.length = xs.length) (hs : SeqAt.shaped (.list p) = true) (h : P (.bl (if neg then !xs.isEmpty else xs.isEmpty)) M) : bEqD neg x (.lst []) M P := by
  refine ⟨.list p, .list [], h0, .lst .nil, hs, by rfl, ?_⟩
  have e : PyData.eqv (.list p) (.list []) = xs.isEmpty := by
    cases p with
    | nil => cases xs with
      | nil => rfl
      | cons x xs => cases hl
    | cons y ps => cases xs with
      | nil => cases hl
      | cons x xs => simp only [PyData.eqv, PyData.eqvAll]; rfl
  rw [e]; exact h
theorem SD.int (k : Nat) (i : Int) : SD k (.int i) := by cases k <;> trivial
theorem SD.non (k : Nat) : SD k .non := by cases k <;> trivial
theorem SD.ints (k : Nat) (l : List Nat) : SD (k + 1) (.lst (l.map nI)) := fun x hx => by
  obtain ⟨_, _, rfl⟩ := List.mem_map.mp hx; exact SD.int _ _
theorem SD.tints (k : Nat) (l : List Nat) : SD (k + 1) (.tup (l.map nI)) := fun x hx => by
  obtain ⟨_, _, rfl⟩ := List.mem_map.mp hx; exact SD.int _ _
theorem SD.bits (k n : Nat) (f : Nat → Bool) : SD (k + 1) (.lst (bitL n f)) := fun x hx => by
  obtain ⟨_, _, rfl⟩ := List.mem_map.mp hx; exact SD.int _ _
end BB
end
section
/-! contracts: flips, settled nets -/
namespace BB
open PySem DL
theorem lcI_nat {l : List Nat} {g : GT} {t : TT} {e : ET} {ρ : DL.Env} {M : MM} {P : List D → MM → Prop} (p : Nat → Bool) (f : Nat → D)
    (h : ∀ x (Qt : D → MM → Prop) (Qf : MM → Prop), x ∈ l → (p x = true → Qt (f x) M) → (p x = false → Qf M) → g (nI x) ρ M fun ρ1 M1 => t ρ1 M1 fun b M2 => match b with
      | true => e ρ1 M2 Qt
      | false => Qf M2)
    (hp : P ((l.filter p).map f) M) : lcI (l.map nI) g t e ρ M P := by
  refine ⟨fun i acc M' => M' = M ∧ acc = ((l.take i).filter p).map f, ⟨rfl, rfl⟩, ?_, ?_⟩
  · rintro i x acc M' hx ⟨rfl, rfl⟩
    obtain ⟨v, hv, rfl⟩ := map_get hx
    refine h v (fun y M3 => M3 = M' ∧ ((l.take i).filter p).map f ++ [y] = ((l.take (i + 1)).filter p).map f) (fun M3 => M3 = M' ∧ ((l.take i).filter p).map f = ((l.take (i + 1)).filter p).map f) (List.mem_of_getElem? hv) (fun q => ⟨rfl, ?_⟩) fun q => ⟨rfl, ?_⟩
    · rw [List.take_add_one, hv, List.filter_append, List.map_append]; simp [q]
    · rw [List.take_add_one, hv, List.filter_append, List.map_append]; simp [q]
  · rintro acc M' ⟨rfl, rfl⟩; rw [List.length_map, List.take_length]; exact hp
theorem lcI_natm {l : List Nat} {g : GT} {e : ET} {ρ : DL.Env} {M : MM} {P : List D → MM → Prop} (f : Nat → D)
    (h : ∀ x (Qt : D → MM → Prop), x ∈ l → Qt (f x) M → g (nI x) ρ M fun ρ1 M1 => e ρ1 M1 Qt)
    (hp : P (l.map f) M) : lcI (l.map nI) g tYes e ρ M P := by
  refine lcI_nat (fun _ => true) f (fun x Qt Qf hx ht _ => h x Qt hx (ht rfl)) ?_
  rw [List.filter_eq_self.mpr fun _ _ => rfl]; exact hp
theorem contains_nI (l : List Nat) (x : Nat) : (l.map fun i : Nat => (i : Int)).contains (x : Int) = l.contains x := by
  induction l with
  | nil => rfl
  | cons y l ih =>
    rw [List.map_cons, List.contains_cons, List.contains_cons, ih]
    congr 1
    rw [Bool.eq_iff_iff]; simp; omega
theorem intsOf_nI (l : List Nat) : intsOf (l.map nI) = some (l.map fun i : Nat => (i : Int)) := by
  rw [show l.map nI = (l.map fun i : Nat => (i : Int)).map D.int by rw [List.map_map]; rfl]; exact intsOf_map _
theorem odd_cnt (p : Nat → Bool) : ∀ l : List Nat, decide ((l.filter p).length % 2 = 1) = xl l p
  | [] => rfl
  | x :: l => by
    rw [xl_cons, ← odd_cnt p l, List.filter_cons]
    cases p x
    · simp
    · simp only [if_true, List.length_cons]
      by_cases h : (l.filter p).length % 2 = 1
      · rw [decide_eq_true h, decide_eq_false (by omega)]; rfl
      · rw [decide_eq_false h, decide_eq_true (by omega)]; rfl
theorem and_one (n : Nat) : decide (Builtin.bitAnd (n : Int) 1 = 1) = decide (n % 2 = 1) := by
  rw [show (1 : Int) = ((1 : Nat) : Int) from rfl, i_and, Nat.and_one_is_mod]
  exact decide_eq_decide.mpr (by omega)
theorem nI_inj {l k : List Nat} (h : l.map nI = k.map nI) : l = k := by
  have := congrArg intsOf h
  rw [intsOf_nI, intsOf_nI] at this
  have e := Option.some.inj this
  exact List.map_inj_right (f := fun i : Nat => (i : Int)) (fun a b h => Int.ofNat.inj h) |>.mp e
/-- the part of the sums that a number picks -/
def pp (S : List Nat) (m v : Nat) : Bool := xs S.length fun k => m.testBit k && (S.getD k 0 == v)
theorem pp_at {S : List Nat} (d : S.Nodup) (m : Nat) {k : Nat} (hk : k < S.length) : pp S m (S.getD k 0) = m.testBit k := by
  unfold pp
  rw [xs_one hk fun j hj hne => by rw [beq_false_of_ne fun e => hne (getD_inj d hj hk e)]; simp]
  simp
theorem pp_mem {S : List Nat} {m v : Nat} (h : pp S m v = true) : v ∈ S := by
  obtain ⟨k, hk, e⟩ := xs_ex h
  have : S.getD k 0 = v := by simp at e; exact e.2
  rw [← this]; exact getD_mem hk
theorem pp_part {S : List Nat} (d : S.Nodup) (m : Nat) : ((List.range S.length).filter m.testBit).map (fun k => S.getD k 0) = S.filter (pp S m) := by
  conv => rhs; rw [lst_rng S]
  rw [List.filter_map, ← lst_rng]
  congr 1
  exact List.filter_congr fun k hk => (pp_at d m (List.mem_range.mp hk)).symm
def c__law_flips : CT := fun ds M P => ∃ W : List Wire, ds = [.lst (W.map wireD)] ∧ WF W ∧ (NoFlip W → P .non M) ∧ ∀ xs, P (.tup xs) M
theorem l__law_flips (ds : List D) (M : MM) (Q : PQ) (h : c__law_flips ds M Q) : ds.length = 1 := by
  obtain ⟨_, rfl, _⟩ := h; rfl
theorem k__law_flips : Keeps 8 (b__law_flips c__law_places) c__law_flips := by
  rintro ds M P ⟨W, rfl, hw, h1, h2⟩
  have hσ := sums_len hw
  have hσ2 : 2 ^ (sumsOf W).length ≤ 65536 := Nat.le_trans (Nat.pow_le_pow_right (by decide) hσ) (by decide)
  have eS : ((List.range W.length).filter (isSum W)) = sumsOf W := rfl
  have d := sums_nodup W
  unfold b__law_flips
  (conv => whnf)
  refine ⟨W, "sum", isSum, rfl, .inr (.inr ⟨rfl, rfl⟩), by have := hw.len; omega, ?_⟩
  rw [eS]
  (conv => whnf)
  refine ⟨⟨Int.natCast_nonneg _, by rw [List.length_map]; omega, by decide⟩, ?_⟩
  have eP : (1 : Int) * (2 : Int) ^ ((((sumsOf W).map nI).length : Nat) : Int).toNat = ((2 ^ (sumsOf W).length : Nat) : Int) := by
    rw [one_shl, List.length_map, Nat.one_shiftLeft]
  (conv => whnf)
  refine ⟨⟨by decide, by decide, ?_, ?_⟩, ?_⟩
  · show (-100000 : Int) ≤ (1 : Int) * (2 : Int) ^ ((((sumsOf W).map nI).length : Nat) : Int).toNat; rw [eP]; exact Int.le_trans (by decide) (Int.natCast_nonneg _)
  · show (1 : Int) * (2 : Int) ^ ((((sumsOf W).map nI).length : Nat) : Int).toNat ≤ 100000; rw [eP]; exact Int.le_trans (Int.ofNat_le.mpr hσ2) (by decide)
  have eR : rangeD2 1 ((1 : Int) * (2 : Int) ^ ((((sumsOf W).map nI).length : Nat) : Int).toNat) = (List.range (2 ^ (sumsOf W).length - 1)).map fun i => nI (i + 1) := by
    rw [eP]; unfold rangeD2
    rw [show (((2 ^ (sumsOf W).length : Nat) : Int) - 1).toNat = 2 ^ (sumsOf W).length - 1 by omega]
    exact List.map_congr_left fun i _ => congrArg D.int (by omega)
  refine ⟨fun i ρ M' => M' = M ∧ (∀ m, 0 < m → m < i + 1 → ¬ ∀ v, v ∈ sumsOf W → xl (src W v) (pp (sumsOf W) m) = pp (sumsOf W) m v) ∧ ∃ u2 u3 u4 u5 u6 u7, ρ = [some (.lst (W.map wireD)), some (.lst ((sumsOf W).map nI)), u2, u3, u4, u5, u6, u7], ⟨rfl, fun m a b => by omega, none, none, none, none, none, none, rfl⟩, ?_, ?_⟩
  · rintro i y ρ M' hy ⟨rfl, hno, u2, u3, u4, u5, u6, u7, rfl⟩
    have hy : ((List.range (2 ^ (sumsOf W).length - 1)).map fun i => nI (i + 1))[i]? = some y := by rw [← eR]; exact hy
    obtain ⟨hi, rfl⟩ := rng_get hy
    (conv => whnf)
    refine ⟨by rw [List.length_map]; omega, ?_⟩
    refine lcI_fil (sumsOf W).length (i + 1).testBit (fun k => nI ((sumsOf W).getD k 0)) (by rw [rangeD_nat, rng_len, List.length_map]) ?_ ?_
    · intro k y Qt Qf hy ht hf
      obtain ⟨hk, rfl⟩ := rng_get (rangeD_nat _ ▸ hy)
      rw [List.length_map] at hk
      (conv => whnf)
      refine ⟨Int.natCast_nonneg _, ?_⟩
      have eb : decide (Builtin.bitAnd (((i + 1 : Nat) : Int) / (2 : Int) ^ ((k : Int)).toNat) 1 = 1) = (i + 1).testBit k := by
        rw [i_bit]; cases (i + 1).testBit k <;> rfl
      (conv => whnf); try dsimp only
      rw [eb]
      cases e : (i + 1).testBit k
      · exact hf e
      · (conv => whnf); try dsimp only
        rw [ix_nat, List.getElem?_map, getD_at hk]
        exact ht e
    have part : (((List.range (sumsOf W).length).filter (i + 1).testBit).map fun k => nI ((sumsOf W).getD k 0)) = ((sumsOf W).filter (pp (sumsOf W) (i + 1))).map nI := by
      rw [← pp_part d, List.map_map]; rfl
    rw [part]
    have cont : ∀ x, ((sumsOf W).filter (pp (sumsOf W) (i + 1))).contains x = pp (sumsOf W) (i + 1) x := fun x => by
      rw [Bool.eq_iff_iff, List.contains_iff_mem, List.mem_filter]
      exact ⟨fun h => h.2, fun h => ⟨pp_mem h, h⟩⟩
    (conv => whnf)
    refine lcI_nat (fun v => xl (src W v) (pp (sumsOf W) (i + 1))) nI ?_ ?_
    · intro v Qt Qf hv ht hf
      have hs := mem_sums.mp hv
      (conv => whnf)
      rw [ix_nat, sum_at hs]
      (conv => whnf)
      refine ⟨by rw [List.length_cons]; exact cut_ne _ _, ?_⟩
      rw [cut_tail]
      refine lcI_nat (pp (sumsOf W) (i + 1)) nI ?_ ?_
      · intro x Qt Qf hx ht hf
        (conv => whnf)
        rw [show (asS M' (.lst (((sumsOf W).filter (pp (sumsOf W) (i + 1))).map nI))).bind intsOf = some (((sumsOf W).filter (pp (sumsOf W) (i + 1))).map fun i : Nat => (i : Int)) from intsOf_nI _]
        (conv => whnf); try dsimp only
        rw [contains_nI, cont]
        cases e : pp (sumsOf W) (i + 1) x
        · exact hf e
        · exact ht e
      · (conv => whnf); try dsimp only
        rw [List.length_map, and_one, odd_cnt]
        cases e : xl (src W v) (pp (sumsOf W) (i + 1))
        · exact hf e
        · exact ht e
    have key : ((sumsOf W).filter fun v => xl (src W v) (pp (sumsOf W) (i + 1))) = (sumsOf W).filter (pp (sumsOf W) (i + 1)) ↔ ∀ v, v ∈ sumsOf W → xl (src W v) (pp (sumsOf W) (i + 1)) = pp (sumsOf W) (i + 1) v := by
      constructor
      · intro h v hv
        rw [Bool.eq_iff_iff]
        have : v ∈ ((sumsOf W).filter fun v => xl (src W v) (pp (sumsOf W) (i + 1))) ↔ v ∈ (sumsOf W).filter (pp (sumsOf W) (i + 1)) := by rw [h]
        rw [List.mem_filter, List.mem_filter] at this
        exact ⟨fun a => (this.mp ⟨hv, a⟩).2, fun a => (this.mpr ⟨hv, a⟩).2⟩
      · exact fun h => List.filter_congr h
    (conv => whnf)
    obtain ⟨p, q, q1, q2, q3, q4, hb⟩ := eqD_ex M' 1 (by decide) (SD.ints 0 ((sumsOf W).filter fun v => xl (src W v) (pp (sumsOf W) (i + 1)))) (SD.ints 0 ((sumsOf W).filter (pp (sumsOf W) (i + 1))))
    refine ⟨p, q, q1, q2, q3, q4, ?_⟩
    cases eb : PyData.eqv p q with
    | true =>
      exact fin_ok (h2 _)
    | false =>
      rw [eb] at hb
      refine ⟨rfl, fun m hm0 hm => ?_, _, _, _, _, _, _, rfl⟩
      by_cases e : m < i + 1
      · exact hno m hm0 e
      · have : m = i + 1 := by omega
        subst this
        intro all
        have := hb.mpr (congrArg (fun l : List Nat => D.lst (l.map nI)) (key.mpr all))
        cases this
  · rintro ρ M' ⟨rfl, hno, u2, u3, u4, u5, u6, u7, rfl⟩
    refine fin_ok (h1 ?_)
    rintro ⟨p, ⟨v, hv⟩, hsum, hsol⟩
    obtain ⟨k, hk, hkv⟩ := mem_getD (mem_sums.mpr (hsum v hv))
    have tb : ∀ k, k < (sumsOf W).length → (mk (sumsOf W).length fun k => p ((sumsOf W).getD k 0)).testBit k = p ((sumsOf W).getD k 0) := fun k hk => by rw [tb_mk]; simp only [hk, decide_true, Bool.true_and]
    have hpp : ∀ u, pp (sumsOf W) (mk (sumsOf W).length fun k => p ((sumsOf W).getD k 0)) u = p u := by
      intro u
      by_cases hu : u ∈ sumsOf W
      · obtain ⟨j, hj, rfl⟩ := mem_getD hu
        rw [pp_at d _ hj, tb j hj]
      · cases e : pp (sumsOf W) (mk (sumsOf W).length fun k => p ((sumsOf W).getD k 0)) u with
        | true => exact absurd (pp_mem e) hu
        | false =>
          cases e' : p u with
          | false => rfl
          | true => exact absurd (mem_sums.mpr (hsum u e')) hu
    have hpos : 0 < mk (sumsOf W).length fun k => p ((sumsOf W).getD k 0) := by
      rcases Nat.eq_zero_or_pos (mk (sumsOf W).length fun k => p ((sumsOf W).getD k 0)) with z | z
      · have := mk_eq_zero.mp z k hk
        rw [hkv, hv] at this; cases this
      · exact z
    refine hno (mk (sumsOf W).length fun k => p ((sumsOf W).getD k 0)) hpos ?_ ?_
    · have := mk_lt (fun k => p ((sumsOf W).getD k 0)) (sumsOf W).length
      have e : (rangeD2 1 ((1 : Int) * (2 : Int) ^ ((((sumsOf W).map nI).length : Nat) : Int).toNat)).length = 2 ^ (sumsOf W).length - 1 := by rw [eR, rng_len]
      have e2 : 0 < 2 ^ (sumsOf W).length := Nat.pow_pos (by decide)
      show _ < (rangeD2 1 ((1 : Int) * (2 : Int) ^ ((((sumsOf W).map nI).length : Nat) : Int).toNat)).length + 1
      rw [e]; omega
    · intro u hu
      rw [hpp, xl_congr fun x _ => hpp x]
      exact (hsol u (mem_sums.mp hu)).symm
def c__law_settled : CT := fun ds M P => ∃ W : List Wire, ds = [.lst (W.map wireD)] ∧ WF W ∧ ∀ W', WF W' → NoFlip W' → W'.map kOf = W.map kOf → P (.lst (W'.map wireD)) M
theorem l__law_settled (ds : List D) (M : MM) (Q : PQ) (h : c__law_settled ds M Q) : ds.length = 1 := by
  obtain ⟨_, rfl, _⟩ := h; rfl
/-- a wire whose list keeps what is no sum or comes earlier -/
def cutW (W : List Wire) (i : Nat) : Wire → Wire
  | .sum l => .sum (l.filter fun x => !isSum W x || decide (x < i))
  | w => w
theorem k__law_settled : Keeps 5 (b__law_settled c__law_flips) c__law_settled := by
  rintro ds M P ⟨W, rfl, hw, hp⟩
  have hL := hw.len
  unfold b__law_settled
  (conv => whnf)
  refine ⟨W, rfl, hw, ?_, ?_⟩
  · intro nf
    (conv => whnf)
    exact fin_ok (hp W hw nf rfl)
  intro xs
  (conv => whnf)
  refine ⟨by show 0 ≤ 100000; decide, ?_⟩
  intro a ha
  (conv => whnf)
  refine ⟨by rw [List.length_map]; omega, ?_⟩
  refine ⟨fun i ρ M' => M' = M.upd a (.lst (((W.take i).mapIdx (cutW W)).map wireD)) ∧ ∃ u2 u3 u4, ρ = [some (.lst (W.map wireD)), some (.ref a), u2, u3, u4], ⟨rfl, none, none, none, rfl⟩, ?_, ?_⟩
  · rintro i y ρ M' hy ⟨rfl, u2, u3, u4, rfl⟩
    obtain ⟨hi, rfl⟩ := rng_get (rangeD_nat _ ▸ hy)
    rw [List.length_map] at hi
    obtain ⟨w, hwi⟩ : ∃ w, W[i]? = some w := ⟨_, List.getElem?_eq_getElem hi⟩
    have hmem := List.mem_of_getElem? hwi
    have step : ((W.take i).mapIdx (cutW W)).map wireD ++ [wireD (cutW W i w)] = ((W.take (i + 1)).mapIdx (cutW W)).map wireD := by
      rw [List.take_add_one, hwi]
      show _ = (((W.take i) ++ [w]).mapIdx (cutW W)).map wireD
      rw [List.mapIdx_append, List.map_append]
      have : (W.take i).length = i := by rw [List.length_take]; omega
      rw [this]; simp
    have app : ∀ w', w' = cutW W i w → ∀ (ρ' : DL.Env), (∃ u2 u3 u4, ρ' = [some (.lst (W.map wireD)), some (.ref a), u2, u3, u4]) →
        ((M.upd a (.lst (((W.take i).mapIdx (cutW W)).map wireD))).upd a (.lst (((W.take i).mapIdx (cutW W)).map wireD ++ [wireD w']))) = M.upd a (.lst (((W.take (i + 1)).mapIdx (cutW W)).map wireD)) ∧ ∃ u2 u3 u4, ρ' = [some (.lst (W.map wireD)), some (.ref a), u2, u3, u4] := by
      rintro w' rfl ρ' h
      exact ⟨by rw [MM.upd_upd, step], h⟩
    have hlen : (((W.take i).mapIdx (cutW W)).map wireD).length < 100000 := by
      rw [List.length_map, List.length_mapIdx, List.length_take]; omega
    (conv => whnf)
    rw [ix_nat, List.getElem?_map, hwi]
    cases w with
    | inp =>
      (conv => whnf)
      refine ⟨isl_ref MM.upd_same, ?_⟩
      (conv => whnf); try dsimp only
      rw [MM.upd_same]
      exact ⟨hlen, app .inp rfl _ ⟨_, _, _, rfl⟩⟩
    | cell s b =>
      (conv => whnf)
      refine ⟨isl_ref MM.upd_same, ?_⟩
      (conv => whnf); try dsimp only
      rw [MM.upd_same]
      exact ⟨hlen, app (.cell s b) rfl _ ⟨_, _, _, rfl⟩⟩
    | sum l =>
      (conv => whnf)
      rw [at_zero]
      (conv => whnf)
      refine ⟨by show 1 ≤ 100000; decide, ?_⟩
      (conv => whnf)
      refine ⟨by rw [List.length_cons]; exact cut_ne _ _, ?_⟩
      rw [cut_tail]
      refine lcI_nat (fun x => !isSum W x || decide (x < i)) nI ?_ ?_
      · intro x Qt Qf hx ht hf
        have hxl := hw.src _ hmem x hx
        obtain ⟨wx, hwx⟩ : ∃ w, W[x]? = some w := ⟨_, List.getElem?_eq_getElem hxl⟩
        have hs := isSum_w hwx
        (conv => whnf)
        rw [ix_nat, List.getElem?_map, hwx]
        cases wx with
        | inp =>
          rw [hs] at ht
          exact ht rfl
        | cell s b =>
          rw [hs] at ht
          exact ht rfl
        | sum l' =>
          rw [hs] at ht hf
          (conv => whnf)
          rw [at_zero]
          (conv => whnf); try dsimp only
          have ei : decide ((x : Int) < (i : Int)) = decide (x < i) := decide_eq_decide.mpr (by omega)
          rw [ei]
          cases e : decide (x < i)
          · exact hf (by rw [e]; rfl)
          · exact ht (by rw [e]; rfl)
      (conv => whnf)
      refine ⟨?_, ?_⟩
      · rw [List.length_map]
        have h1 := hw.wide l hmem
        have h2 := List.length_filter_le (fun x => !isSum W x || decide (x < i)) l
        show 1 + _ ≤ 100000
        omega
      (conv => whnf)
      refine ⟨isl_ref MM.upd_same, ?_⟩
      (conv => whnf); try dsimp only
      rw [MM.upd_same]
      exact ⟨hlen, app (.sum (l.filter fun x => !isSum W x || decide (x < i))) rfl _ ⟨_, _, _, rfl⟩⟩
  · rintro ρ M' ⟨rfl, u2, u3, u4, rfl⟩
    rw [rangeD_nat, rng_len, List.length_map, List.take_length]
    (conv => whnf); try dsimp only
    rw [MM.upd_same, MM.upd_del ha]
    have at_ : ∀ v : Nat, (W.mapIdx (cutW W))[v]? = W[v]?.map (cutW W v) := fun v => List.getElem?_mapIdx
    have kk : ∀ v w, kOf (cutW W v w) = kOf w := fun v w => by cases w <;> rfl
    have hk : (W.mapIdx (cutW W)).map kOf = W.map kOf := by
      apply List.ext_getElem?; intro v
      rw [List.getElem?_map, at_, List.getElem?_map]
      cases W[v]? with
      | none => rfl
      | some w => show some (kOf _) = some (kOf w); rw [kk]
    have mem : ∀ w, w ∈ W.mapIdx (cutW W) → ∃ v u, W[v]? = some u ∧ u ∈ W ∧ w = cutW W v u := fun w hw' => by
      obtain ⟨v, hv⟩ := List.getElem?_of_mem hw'
      rw [at_] at hv
      cases e : W[v]? with
      | none => rw [e] at hv; cases hv
      | some u => rw [e] at hv; exact ⟨v, u, e, List.mem_of_getElem? e, (Option.some.inj hv).symm⟩
    refine fin_ok (hp (W.mapIdx (cutW W)) ⟨?_, ?_, ?_, ?_⟩ ?_ hk)
    · intro w hw' x hx
      rw [List.length_mapIdx]
      obtain ⟨v, u, e, hu, rfl⟩ := mem w hw'
      cases u with
      | inp => cases hx
      | cell s b => exact hw.src _ hu x hx
      | sum l => exact hw.src _ hu x (List.mem_filter.mp hx).1
    · intro s b hw'
      obtain ⟨v, u, e, hu, q⟩ := mem _ hw'
      cases u with
      | inp => cases q
      | cell s' b' => cases q; exact hw.bit _ _ hu
      | sum l => cases q
    · rw [List.length_mapIdx]; exact hL
    · intro l hw'
      obtain ⟨v, u, e, hu, q⟩ := mem _ hw'
      cases u with
      | inp => cases q
      | cell s' b' => cases q
      | sum l' => cases q; exact Nat.le_trans (List.length_filter_le _ _) (hw.wide _ hu)
    · refine noflip_cut (W := W) fun v hv x hx hxs => ?_
      have e := isSum_at hv
      rw [at_] at e
      cases e' : W[v]? with
      | none => rw [e'] at e; cases e
      | some u =>
        rw [e'] at e
        have e2 : cutW W v u = .sum (src (W.mapIdx (cutW W)) v) := Option.some.inj e
        cases u with
        | inp => cases e2
        | cell s b => cases e2
        | sum l =>
          have e3 : (l.filter fun x => !isSum W x || decide (x < v)) = src (W.mapIdx (cutW W)) v := Wire.sum.inj e2
          rw [← e3] at hx
          have h2 := (List.mem_filter.mp hx).2
          have hs : isSum W x = true := by
            have e4 := isSum_at hxs
            rw [at_] at e4
            cases e5 : W[x]? with
            | none => rw [e5] at e4; cases e4
            | some u' =>
              rw [e5] at e4
              have e6 : cutW W x u' = _ := Option.some.inj e4
              cases u' with
              | inp => cases e6
              | cell s b => cases e6
              | sum l' => exact (isSum_of e5).1
          rw [hs] at h2
          simpa using h2
/-- a net as the law hands it on -/
abbrev netP (W : List Wire) (outs : List Nat) : D := .tup [.lst (W.map wireD), .lst (outs.map nI)]
def c__law_net : CT := fun ds M P => ∃ (p q n c0 c1 c2 many : Nat), ds = [.ref p, .lst [nI c0, nI c1, nI c2], nI many] ∧ Pen M p q n ∧ n ≤ 1000 ∧ c0 + c1 + c2 ≤ 16 ∧ c1 ≤ 5 ∧ many ≤ 3 ∧
  ∀ (W : List Wire) (outs : List Nat) M', NetOk W outs → (insOf W).length = c0 → (cellsOf W).length = c1 → (0 < c0 + c1 + c2 → outs.length = many) → Pen M' p q (n + 300) → Same M M' p q → P (netP W outs) M'
theorem l__law_net (ds : List D) (M : MM) (Q : PQ) (h : c__law_net ds M Q) : ds.length = 3 := by
  obtain ⟨_, _, _, _, _, _, _, rfl, _⟩ := h; rfl
theorem wire_sd (w : Wire) : SD 1 (wireD w) := by
  cases w with
  | inp => intro x hx; cases List.mem_singleton.mp hx; show PyData.strOk "in" = true; decide +kernel
  | cell s b =>
    intro x hx
    rcases List.mem_cons.mp hx with rfl | hx
    · show PyData.strOk "cell" = true; decide +kernel
    rcases List.mem_cons.mp hx with rfl | hx
    · exact SD.int 0 _
    cases List.mem_singleton.mp hx; exact SD.int 0 _
  | sum l =>
    intro x hx
    rcases List.mem_cons.mp hx with rfl | hx
    · show PyData.strOk "sum" = true; decide +kernel
    obtain ⟨_, _, rfl⟩ := List.mem_map.mp hx; exact SD.int 0 _
theorem k__law_net : Keeps 6 (b__law_net c__law_draw c__law_settled c__law_wires) c__law_net := by
  rintro ds M P ⟨p, q, n, c0, c1, c2, many, rfl, pen, hn, hc, hc1, hm, hP⟩
  unfold b__law_net
  (conv => whnf)
  refine ⟨by show 3 ≤ 100000; decide, ?_⟩
  (conv => whnf)
  refine ⟨by decide, ?_⟩
  refine lcI_map 3 (fun i => .tup [kD i, nI (if i = 0 then c0 else if i = 1 then c1 else c2)]) rfl ?_ ?_
  · intro i y Qt hy hi ht
    obtain ⟨_, rfl⟩ := rng_get (f := nI) (n := 3) hy
    rcases i with _ | _ | _ | i
    · (conv => whnf); exact ⟨by show 2 ≤ 100000; decide, ht⟩
    · (conv => whnf); exact ⟨by show 2 ≤ 100000; decide, ht⟩
    · (conv => whnf); exact ⟨by show 2 ≤ 100000; decide, ht⟩
    · omega
  (conv => whnf)
  refine ⟨p, q, n, c0, c1, c2, rfl, pen, hn, hc, ?_⟩
  intro W0 M1 wf0 hl0 hi0 hc0 pen1 same1
  (conv => whnf)
  refine ⟨W0, rfl, wf0, ?_⟩
  intro W wf nf hk
  have hl : W.length = W0.length := by have := congrArg List.length hk; rwa [List.length_map, List.length_map] at this
  have hi : (insOf W).length = c0 := by rw [ins_len_of, hk, ← ins_len_of]; exact hi0
  have hcc : (cellsOf W).length = c1 := by rw [cells_len_of, hk, ← cells_len_of]; exact hc0
  (conv => whnf)
  refine ⟨by omega, ?_⟩
  refine ⟨fun i acc M2 => ∃ xs : List Nat, acc = xs.map nI ∧ (∀ x, x ∈ xs → x < W.length) ∧ (0 < W.length → xs.length = i) ∧ xs.length ≤ i ∧ Pen M2 p q (n + 200 + i) ∧ Same M M2 p q, ⟨[], rfl, fun x h => (by cases h), fun _ => rfl, Nat.le_refl _, pen1, same1⟩, ?_, ?_⟩
  · rintro i y acc M2 hy ⟨xs, rfl, hx, hlen, hle, pen2, same2⟩
    obtain ⟨hi', rfl⟩ := rng_get (rangeD_nat _ ▸ hy)
    (conv => whnf)
    obtain ⟨r, s, q1, q2, q3, q4, hb⟩ := eqD_ex M2 (x := .lst (W.map wireD)) (y := .lst []) 2 (by decide) (fun x hx => by obtain ⟨w, _, rfl⟩ := List.mem_map.mp hx; exact wire_sd w) (fun x hx => by cases hx)
    refine ⟨by show 0 ≤ 100000; decide, ?_⟩
    (conv => whnf)
    refine ⟨r, s, q1, q2, q3, q4, ?_⟩
    cases eb : PyData.eqv r s with
    | true =>
      have e := hb.mp eb
      have hW : W = [] := by
        have := D.lst.inj e
        exact List.map_eq_nil_iff.mp this
      refine ⟨xs, rfl, hx, fun h => by rw [hW] at h; exact absurd h (Nat.lt_irrefl _), by omega, pen2.mono (by omega), same2⟩
    | false =>
      have hpos : 0 < W.length := by
        cases hW : W with
        | nil => rw [eb] at hb; have := hb.mpr (by rw [hW]; rfl); cases this
        | cons _ _ => simp
      (conv => whnf)
      refine ⟨p, q, _, W.length, ?_, pen2, by omega, hpos, by omega, ?_⟩
      · show [D.ref p, D.int (((W.map wireD).length : Nat) : Int)] = _
        rw [List.length_map]
      intro v M3 hv pen3 same3
      refine ⟨xs ++ [v], by rw [List.map_append]; rfl, fun x h => ?_, fun _ => by rw [List.length_append, hlen hpos]; rfl, by rw [List.length_append]; show xs.length + 1 ≤ _; omega, pen3.mono (by omega), same2.trans same3⟩
      rcases List.mem_append.mp h with h | h
      · exact hx x h
      · cases List.mem_singleton.mp h; exact hv
  · rintro acc M2 ⟨xs, rfl, hx, hlen, hle, pen2, same2⟩
    rw [rangeD_nat, rng_len] at hlen hle pen2
    (conv => whnf)
    refine ⟨by show 2 ≤ 100000; decide, ?_⟩
    exact fin_ok (hP W xs M2 ⟨wf, nf, hx, by omega, by omega⟩ hi hcc (fun h => hlen (by omega)) (pen2.mono (by omega)) same2)
end BB
end
section
/-! contracts: bits of a net -/
namespace BB
open PySem DL
theorem sum_par (f : Nat → Bool) (l : List Nat) : Builtin.bitAnd (l.map fun x => ((f x).toNat : Int)).sum 1 = ((xl l f).toNat : Int) := by
  have h : ∃ n : Nat, (l.map fun x => ((f x).toNat : Int)).sum = (n : Int) ∧ (n % 2 = (xl l f).toNat) := by
    induction l with
    | nil => exact ⟨0, rfl, rfl⟩
    | cons x l ih =>
      obtain ⟨n, e, h⟩ := ih
      refine ⟨(f x).toNat + n, by rw [List.map_cons, List.sum_cons, e]; omega, ?_⟩
      rw [xl_cons]
      cases f x <;> cases q : xl l f <;> rw [q] at h <;> simp at h ⊢ <;> omega
  obtain ⟨n, e, h⟩ := h
  rw [e, show (1 : Int) = ((1 : Nat) : Int) from rfl, i_and, Nat.and_one_is_mod, h]
theorem ints_bits (f : Nat → Bool) (l : List Nat) : intsOf (l.map fun x => bN (f x)) = some (l.map fun x => ((f x).toNat : Int)) := by
  rw [show (l.map fun x => bN (f x)) = (l.map fun x => ((f x).toNat : Int)).map D.int by rw [List.map_map]; rfl]; exact intsOf_map _
theorem bools_map (f : Nat → Bool) (l : List Nat) : boolsOf (l.map fun x => D.bl (f x)) = some (l.map f) := by
  rw [show (l.map fun x => D.bl (f x)) = (l.map f).map D.bl by rw [List.map_map]; rfl]; exact boolsOf_map _
theorem bitL_set (L v : Nat) (x : Nat → Bool) (b : Bool) : (bitL L x).set v (bN b) = bitL L fun u => if u = v then b else x u := by
  rw [rng_set]
  exact List.map_congr_left fun u _ => by by_cases h : u = v <;> simp [h]
theorem bitL_congr {n : Nat} {f g : Nat → Bool} (h : ∀ i, i < n → f i = g i) : bitL n f = bitL n g :=
  List.map_congr_left fun i hi => by rw [h i (List.mem_range.mp hi)]
def c__law_bits : CT := fun ds M P => ∃ (W : List Wire) (kd : D) (kn : Nat → Bool), ds = [.lst (W.map wireD), kd] ∧ WF W ∧ NoFlip W ∧ asS M kd = some (bitL W.length kn) ∧
  ∀ y, Sol W y → (∀ v, v < W.length → isSum W v = false → y v = kn v) → P (.lst (bitL W.length y)) M
theorem l__law_bits (ds : List D) (M : MM) (Q : PQ) (h : c__law_bits ds M Q) : ds.length = 2 := by
  obtain ⟨_, _, _, rfl, _⟩ := h; rfl
theorem any_contains (k l : List Nat) : ((k.map fun x => l.contains x).any id) = k.any fun x => l.contains x := by
  rw [List.any_map]; rfl
theorem k__law_bits : Keeps 9 (b__law_bits c__law_places) c__law_bits := by
  rintro ds M P ⟨W, kd, kn, rfl, hw, nf, hkn, hp⟩
  have hL := hw.len
  have hσ := sums_len hw
  obtain ⟨y, hy, hyk⟩ := sol_ex hw nf kn
  have eS : ((List.range W.length).filter (isSum W)) = sumsOf W := rfl
  unfold b__law_bits
  (conv => whnf); try dsimp only
  rw [hkn]
  (conv => whnf)
  intro a ha
  (conv => whnf)
  refine ⟨W, "sum", isSum, rfl, .inr (.inr ⟨rfl, rfl⟩), by omega, ?_⟩
  rw [eS]
  (conv => whnf)
  -- one round of reading the sources of v
  have rd : ∀ (v : Nat) (x : Nat → Bool) (o3 o4 o7 o8 : Option D) (Qt : D → MM → Prop), isSum W v = true → (∀ (o3 o4 : Option D), Qt (.int (Builtin.bitAnd ((src W v).map fun u => ((x u).toNat : Int)).sum 1)) (M.upd a (.lst (bitL W.length x)))) →
      (mBin bAnd (mCB fSum (aCons (mLc (iSeq (mSl slT (mBin bIx (mVar 0) (mVar 5)) (oSome (mC (.int 1))) oNone)) (gNm 6) [6] tYes (mBin bIx (mVar 2) (mVar 6))) aNil)) (mC (.int 1))) [some (.lst (W.map wireD)), some kd, some (.ref a), o3, o4, some (nI v), none, o7, o8] (M.upd a (.lst (bitL W.length x))) Qt := by
    intro v x o3 o4 o7 o8 Qt hs hQ
    (conv => whnf)
    rw [ix_nat, sum_at hs]
    (conv => whnf)
    refine ⟨by rw [List.length_cons]; exact cut_ne _ _, ?_⟩
    rw [cut_tail]
    refine lcI_natm (fun u => bN (x u)) ?_ ?_
    · intro u Qt hu ht
      (conv => whnf)
      rw [as_ref MM.upd_same]
      (conv => whnf)
      rw [ix_nat, rng_at (hw.src_lt hu)]
      exact ht
    · (conv => whnf); try dsimp only
      rw [show (asL (M.upd a (.lst (bitL W.length x))) (.lst ((src W v).map fun u => bN (x u)))).bind intsOf = some ((src W v).map fun u => ((x u).toNat : Int)) from ints_bits _ _]
      exact hQ o3 o4
  have rd6 : ∀ (v : Nat) (x : Nat → Bool) (o3 o4 o6 o7 o8 : Option D) (Qt : D → MM → Prop), isSum W v = true → Qt (.int (Builtin.bitAnd ((src W v).map fun u => ((x u).toNat : Int)).sum 1)) (M.upd a (.lst (bitL W.length x))) →
      (mBin bAnd (mCB fSum (aCons (mLc (iSeq (mSl slT (mBin bIx (mVar 0) (mVar 5)) (oSome (mC (.int 1))) oNone)) (gNm 6) [6] tYes (mBin bIx (mVar 2) (mVar 6))) aNil)) (mC (.int 1))) [some (.lst (W.map wireD)), some kd, some (.ref a), o3, o4, some (nI v), o6, o7, o8] (M.upd a (.lst (bitL W.length x))) Qt := by
    intro v x o3 o4 o6 o7 o8 Qt hs hQ
    (conv => whnf)
    rw [ix_nat, sum_at hs]
    (conv => whnf)
    refine ⟨by rw [List.length_cons]; exact cut_ne _ _, ?_⟩
    rw [cut_tail]
    refine lcI_natm (fun u => bN (x u)) ?_ ?_
    · intro u Qt hu ht
      (conv => whnf)
      rw [as_ref MM.upd_same]
      (conv => whnf)
      rw [ix_nat, rng_at (hw.src_lt hu)]
      exact ht
    · (conv => whnf); try dsimp only
      rw [show (asL (M.upd a (.lst (bitL W.length x))) (.lst ((src W v).map fun u => bN (x u)))).bind intsOf = some ((src W v).map fun u => ((x u).toNat : Int)) from ints_bits _ _]
      exact hQ
  refine ⟨fun m ρ M' => ∃ (left ready : List Nat) (x : Nat → Bool) (o5 o6 : Option D), m = 2 * left.length + (if ready = [] then 0 else 1) ∧ M' = M.upd a (.lst (bitL W.length x)) ∧ left.Nodup ∧ (∀ v, v ∈ left → isSum W v = true) ∧ left.length ≤ 16 ∧ (∀ v, v < W.length → v ∉ left → x v = y v) ∧
    (∀ v, isSum W v = true → v ∉ left → ∀ u, u ∈ src W v → u ∉ left) ∧ ρ = [some (.lst (W.map wireD)), some kd, some (.ref a), some (.lst (left.map nI)), some (.lst (ready.map nI)), o5, o6, none, none], ⟨_, sumsOf W, sumsOf W, kn, none, none, rfl, rfl, sums_nodup W, fun v h => mem_sums.mp h, hσ, fun v hv hn => ?_, fun v hs hn => absurd (mem_sums.mpr hs) hn, rfl⟩, ?_⟩
  · refine (hyk v hv ?_).symm
    cases e : isSum W v with
    | false => rfl
    | true => exact absurd (mem_sums.mpr e) hn
  rintro m ρ M' ⟨left, ready, x, o5, o6, rfl, rfl, hnd, hls, hll, hx, hcl, rfl⟩
  (conv => whnf)
  refine ⟨by show 0 ≤ 100000; decide, ?_⟩
  (conv => whnf)
  obtain ⟨r, s, q1, q2, q3, q4, hb⟩ := eqD_ex (M.upd a (.lst (bitL W.length x))) 1 (by decide) (SD.ints 0 ready) (SD.ints 0 [])
  refine ⟨r, s, q1, q2, q3, q4, ?_⟩
  cases eb : PyData.eqv r s with
  | false =>
    rw [eb] at hb
    have hr : ready ≠ [] := fun e => by have := hb.mpr (by rw [e]); cases this
    let R : List Nat := left.filter fun v => !((src W v).any fun u => left.contains u)
    let left' : List Nat := left.filter fun v => !(R.contains v)
    refine ⟨fun ρ' M2 => ∃ (x' : Nat → Bool) (o5 o6 : Option D), M2 = M.upd a (.lst (bitL W.length x')) ∧ (∀ v, v < W.length → v ∉ left' → x' v = y v) ∧ ρ' = [some (.lst (W.map wireD)), some kd, some (.ref a), some (.lst (left'.map nI)), some (.lst (R.map nI)), o5, o6, none, none], ?_, ?_⟩
    · rintro ρ' M2 ⟨x', o5, o6, rfl, hx', rfl⟩
      refine ⟨_, ?_, left', R, x', o5, o6, rfl, rfl, hnd.filter _, fun v hv => hls v (List.mem_filter.mp hv).1, Nat.le_trans (List.length_filter_le _ _) hll, hx', ?_, rfl⟩
      · by_cases hR : R = []
        · have : left' = left := List.filter_eq_self.mpr fun v _ => by rw [hR]; rfl
          rw [this, if_pos hR, if_neg hr]; omega
        · have hlt : left'.length < left.length := by
            rcases Nat.lt_or_ge left'.length left.length with h | h
            · exact h
            · exfalso
              have e := (List.filter_sublist (l := left) (p := fun v => !(R.contains v))).eq_of_length_le h
              obtain ⟨v, hv⟩ := List.exists_mem_of_ne_nil R hR
              have hvl : v ∈ left := (List.mem_filter.mp hv).1
              rw [← e] at hvl
              have := (List.mem_filter.mp hvl).2
              rw [List.contains_iff_mem.mpr hv] at this
              cases this
          rw [if_neg hR, if_neg hr]; omega
      · intro v hs hn u hu hul
        have hul' := (List.mem_filter.mp hul).1
        by_cases hv : v ∈ left
        · have hvR : v ∈ R := by
            refine Classical.byContradiction fun no => hn (List.mem_filter.mpr ⟨hv, ?_⟩)
            cases e : R.contains v with
            | false => rfl
            | true => exact absurd (List.contains_iff_mem.mp e) no
          have := (List.mem_filter.mp hvR).2
          have q : (src W v).any (fun u => left.contains u) = true := List.any_eq_true.mpr ⟨u, hu, List.contains_iff_mem.mpr hul'⟩
          rw [q] at this; cases this
        · exact hcl v hs hv u hu hul'
    · (conv => whnf)
      refine lcI_nat (fun v => !((src W v).any fun u => left.contains u)) nI ?_ ?_
      · intro v Qt Qf hv ht hf
        have hs := hls v hv
        (conv => whnf)
        rw [ix_nat, sum_at hs]
        (conv => whnf)
        refine ⟨by rw [List.length_cons]; exact cut_ne _ _, ?_⟩
        rw [cut_tail]
        refine lcI_natm (fun u => .bl (left.contains u)) ?_ ?_
        · intro u Qt hu ht
          (conv => whnf)
          rw [show (asS (M.upd a (.lst (bitL W.length x))) (.lst (left.map nI))).bind intsOf = some (left.map fun i : Nat => (i : Int)) from intsOf_nI _]
          (conv => whnf); try dsimp only
          rw [contains_nI]
          exact ht
        · (conv => whnf); try dsimp only
          rw [show (asL (M.upd a (.lst (bitL W.length x))) (.lst ((src W v).map fun u => D.bl (left.contains u)))).bind boolsOf = some ((src W v).map fun u => left.contains u) from bools_map _ _]
          (conv => whnf); try dsimp only
          rw [any_contains]
          cases e : (src W v).any fun u => left.contains u
          · rw [e] at ht; exact ht rfl
          · rw [e] at hf; exact hf rfl
      (conv => whnf)
      refine ⟨fun i ρ' M2 => ∃ (x' : Nat → Bool) (o5 o6 : Option D), M2 = M.upd a (.lst (bitL W.length x')) ∧ (∀ v, v < W.length → v ∉ left → x' v = y v) ∧ (∀ v, v ∈ R.take i → x' v = y v) ∧ ρ' = [some (.lst (W.map wireD)), some kd, some (.ref a), some (.lst (left.map nI)), some (.lst (R.map nI)), o5, o6, none, none],
        ⟨x, _, _, rfl, hx, fun v h => (by cases h), rfl⟩, ?_, ?_⟩
      · rintro i z ρ' M2 hz ⟨x', o5, o6, rfl, hx', hxr, rfl⟩
        obtain ⟨v, hv, rfl⟩ := map_get hz
        have hvR := List.mem_of_getElem? hv
        have hvl : v ∈ left := (List.mem_filter.mp hvR).1
        have hs := hls v hvl
        have hvL := isSum_lt hs
        have eq : xl (src W v) x' = y v := by
          rw [hy v hs]
          refine xl_congr fun u hu => hx' u (hw.src_lt hu) fun hul => ?_
          have := (List.mem_filter.mp hvR).2
          have q : (src W v).any (fun u => left.contains u) = true := List.any_eq_true.mpr ⟨u, hu, List.contains_iff_mem.mpr hul⟩
          rw [q] at this; cases this
        refine rd6 v x' _ _ _ _ _ _ hs ?_
        (conv => whnf); try dsimp only
        rw [MM.upd_same]
        (conv => whnf); try dsimp only
        rw [rng_len, ixn hvL]
        (conv => whnf); try dsimp only
        rw [sum_par, eq]
        refine ⟨fun u => if u = v then y v else x' u, some (nI v), o6, ?_, fun u hu hn => ?_, fun u hu => ?_, rfl⟩
        · rw [MM.upd_upd, bitL_set]
        · by_cases e : u = v
          · subst e; simp
          · simp only [e, if_false]; exact hx' u hu hn
        · by_cases e : u = v
          · subst e; simp
          · simp only [e, if_false]
            rw [List.take_add_one, hv] at hu
            rcases List.mem_append.mp hu with hu | hu
            · exact hxr u hu
            · exact absurd (List.mem_singleton.mp hu) e
      · rintro ρ' M2 ⟨x', o5, o6, rfl, hx', hxr, rfl⟩
        rw [List.length_map, List.take_length] at hxr
        (conv => whnf)
        refine lcI_nat (fun v => !(R.contains v)) nI ?_ ?_
        · intro v Qt Qf hv ht hf
          (conv => whnf)
          rw [show (asS (M.upd a (.lst (bitL W.length x'))) (.lst (R.map nI))).bind intsOf = some (R.map fun i : Nat => (i : Int)) from intsOf_nI _]
          (conv => whnf); try dsimp only
          rw [contains_nI]
          cases e : R.contains v
          · rw [e] at ht; exact ht rfl
          · rw [e] at hf; exact hf rfl
        refine ⟨x', o5, o6, rfl, fun v hv hn => ?_, rfl⟩
        by_cases hvl : v ∈ left
        · refine hxr v (Classical.byContradiction fun no => hn (List.mem_filter.mpr ⟨hvl, ?_⟩))
          cases e : R.contains v with
          | false => rfl
          | true => exact absurd (List.contains_iff_mem.mp e) no
        · exact hx' v hv hvl
  | true =>
    (conv => whnf)
    have hl2 : 2 ^ left.length ≤ 65536 := Nat.le_trans (Nat.pow_le_pow_right (by decide) hll) (by decide)
    have eP : (1 : Int) * (2 : Int) ^ (((left.map nI).length : Nat) : Int).toNat = ((2 ^ left.length : Nat) : Int) := by
      rw [one_shl, List.length_map, Nat.one_shiftLeft]
    refine ⟨⟨Int.natCast_nonneg _, by rw [List.length_map]; omega, by decide⟩, ?_⟩
    (conv => whnf)
    refine ⟨⟨?_, ?_⟩, ?_⟩
    · show (-100000 : Int) ≤ (1 : Int) * (2 : Int) ^ (((left.map nI).length : Nat) : Int).toNat; rw [eP]; exact Int.le_trans (by decide) (Int.natCast_nonneg _)
    · show (1 : Int) * (2 : Int) ^ (((left.map nI).length : Nat) : Int).toNat ≤ 100000; rw [eP]; exact Int.le_trans (Int.ofNat_le.mpr hl2) (by decide)
    have eR : rangeD ((1 : Int) * (2 : Int) ^ (((left.map nI).length : Nat) : Int).toNat) = (List.range (2 ^ left.length)).map nI := by rw [eP]; rfl
    have tb : ∀ k, k < left.length → (mk left.length fun k => y (left.getD k 0)).testBit k = y (left.getD k 0) := fun k hk => by rw [tb_mk]; simp only [hk, decide_true, Bool.true_and]
    refine ⟨fun i ρ' M2 => ∃ (x' : Nat → Bool) (o5 o6 o7 o8 : Option D), i ≤ (mk left.length fun k => y (left.getD k 0)) ∧ M2 = M.upd a (.lst (bitL W.length x')) ∧ (∀ v, v < W.length → v ∉ left → x' v = y v) ∧ ρ' = [some (.lst (W.map wireD)), some kd, some (.ref a), some (.lst (left.map nI)), some (.lst (ready.map nI)), o5, o6, o7, o8],
      ⟨x, _, _, _, _, Nat.zero_le _, rfl, hx, rfl⟩, ?_, ?_⟩
    · rintro i z ρ' M2 hz ⟨x', o5, o6, o7, o8, hi, rfl, hx', rfl⟩
      have hz : ((List.range (2 ^ left.length)).map nI)[i]? = some z := by rw [← eR]; exact hz
      obtain ⟨hi2, rfl⟩ := rng_get hz
      (conv => whnf)
      refine ⟨by rw [List.length_map]; omega, ?_⟩
      refine ⟨fun k ρ' M2 => ∃ (x' : Nat → Bool) (o8 : Option D), M2 = M.upd a (.lst (bitL W.length x')) ∧ (∀ v, v < W.length → v ∉ left → x' v = y v) ∧ (∀ j, j < k → j < left.length → x' (left.getD j 0) = i.testBit j) ∧ ρ' = [some (.lst (W.map wireD)), some kd, some (.ref a), some (.lst (left.map nI)), some (.lst (ready.map nI)), o5, o6, some (nI i), o8],
        ⟨x', _, rfl, hx', fun j h => absurd h (Nat.not_lt_zero _), rfl⟩, ?_, ?_⟩
      · rintro k z ρ' M2 hz ⟨x', o8, rfl, hx', hxk, rfl⟩
        obtain ⟨hk, rfl⟩ := rng_get (rangeD_nat _ ▸ hz)
        rw [List.length_map] at hk
        have hvl := getD_mem hk
        have hvL := isSum_lt (hls _ hvl)
        (conv => whnf)
        refine ⟨Int.natCast_nonneg _, ?_⟩
        (conv => whnf); try dsimp only
        rw [ix_nat, List.getElem?_map, getD_at hk]
        (conv => whnf); try dsimp only
        rw [MM.upd_same]
        (conv => whnf); try dsimp only
        rw [rng_len, ixn hvL]
        (conv => whnf); try dsimp only
        rw [i_bit]
        refine ⟨fun u => if u = left.getD k 0 then i.testBit k else x' u, some (nI k), ?_, fun u hu hn => ?_, fun j hj hjl => ?_, rfl⟩
        · rw [MM.upd_upd, bitL_set]
        · have : u ≠ left.getD k 0 := fun e => hn (e ▸ hvl)
          simp only [this, if_false]; exact hx' u hu hn
        · by_cases e : j = k
          · subst e; simp
          · have : left.getD j 0 ≠ left.getD k 0 := fun q => e (getD_inj hnd hjl hk q)
            simp only [this, if_false]; exact hxk j (by omega) hjl
      · rintro ρ' M2 ⟨x', o8, rfl, hx', hxk, rfl⟩
        rw [rangeD_nat, rng_len, List.length_map] at hxk
        (conv => whnf)
        refine lcI_natm (fun v => .bl (decide (xl (src W v) x' = x' v))) ?_ ?_
        · intro v Qt hv ht
          have hs := hls v hv
          have hvL := isSum_lt hs
          refine rd6 v x' _ _ _ _ _ _ hs ?_
          (conv => whnf)
          rw [as_ref MM.upd_same]
          (conv => whnf)
          rw [ix_nat, rng_at hvL]
          (conv => whnf); try dsimp only
          rw [sum_par]
          have : decide (((xl (src W v) x').toNat : Int) = ((x' v).toNat : Int)) = decide (xl (src W v) x' = x' v) := decide_eq_decide.mpr (by cases xl (src W v) x' <;> cases x' v <;> simp)
          rw [this]
          exact ht
        (conv => whnf); try dsimp only
        rw [show (asL (M.upd a (.lst (bitL W.length x'))) (.lst (left.map fun v => D.bl (decide (xl (src W v) x' = x' v))))).bind boolsOf = some (left.map fun v => decide (xl (src W v) x' = x' v)) from bools_map _ _]
        (conv => whnf); try dsimp only
        cases e : (left.map fun v => decide (xl (src W v) x' = x' v)).all id with
        | true =>
          (conv => whnf); try dsimp only
          rw [MM.upd_same, MM.upd_del ha]
          rw [List.all_map, List.all_eq_true] at e
          refine fin_ok (hp x' (fun v hs => ?_) fun v hv hs => ?_)
          · by_cases hv : v ∈ left
            · exact (of_decide_eq_true (e v hv)).symm
            · rw [hx' v (isSum_lt hs) hv, hy v hs]
              exact (xl_congr fun u hu => hx' u (hw.src_lt hu) (hcl v hs hv u hu)).symm
          · rw [hx' v hv fun h => by rw [hls v h] at hs; cases hs]
            exact hyk v hv hs
        | false =>
          refine ⟨x', o5, o6, some (nI i), o8, ?_, rfl, hx', rfl⟩
          refine Nat.lt_of_le_of_ne hi fun ei => ?_
          have all : ∀ v, v < W.length → x' v = y v := fun v hv => by
            by_cases hvl : v ∈ left
            · obtain ⟨k, hk, rfl⟩ := mem_getD hvl
              rw [hxk k hk hk, ei, tb k hk]
            · exact hx' v hv hvl
          have : (left.map fun v => decide (xl (src W v) x' = x' v)).all id = true := by
            rw [List.all_map, List.all_eq_true]
            intro v hv
            have hs := hls v hv
            exact decide_eq_true (by rw [all v (isSum_lt hs), hy v hs]; exact xl_congr fun u hu => all u (hw.src_lt hu))
          rw [this] at e; cases e
    · rintro ρ' M2 ⟨x', o5, o6, o7, o8, hi, rfl, hx', rfl⟩
      exfalso
      have h1 := mk_lt (fun k => y (left.getD k 0)) left.length
      have h2 : (rangeD ((1 : Int) * (2 : Int) ^ (((left.map nI).length : Nat) : Int).toNat)).length = 2 ^ left.length := by rw [eR, rng_len]
      have h3 : (rangeD ((1 : Int) * (2 : Int) ^ (((left.map nI).length : Nat) : Int).toNat)).length ≤ (mk left.length fun k => y (left.getD k 0)) := hi
      rw [h2] at h3; omega
end BB
end
section
/-! contracts: tables and runs as the law has them -/
namespace BB
open PySem DL
abbrev lawT (T : Tb) : D := .lst [.lst (gridL T.n T.n T.a), .lst (gridL T.k T.n T.b), .lst (gridL T.n T.m T.c), .lst (gridL T.k T.m T.d), nI T.m]
def c__law_units : CT := fun ds M P => ∃ (W : List Wire) (outs : List Nat) (k : Str) (sel : List Wire → Nat → Bool), ds = [.lst (W.map wireD), .lst (outs.map nI), .str k] ∧ ((k = "in" ∧ sel = isInp) ∨ (k = "cell" ∧ sel = isCell)) ∧ NetOk W outs ∧
  P (.tup [.lst (gridL ((List.range W.length).filter (sel W)).length (cellsOf W).length fun i j => U W (((List.range W.length).filter (sel W)).getD i 0) (cellSrc W ((cellsOf W).getD j 0))), .lst (gridL ((List.range W.length).filter (sel W)).length outs.length fun i j => U W (((List.range W.length).filter (sel W)).getD i 0) (outs.getD j 0))]) M
theorem l__law_units (ds : List D) (M : MM) (Q : PQ) (h : c__law_units ds M Q) : ds.length = 3 := by
  obtain ⟨_, _, _, _, rfl, _⟩ := h; rfl
theorem map_rng (l : List Nat) (f : Nat → D) : l.map f = (List.range l.length).map fun i => f (l.getD i 0) := by
  conv => lhs; rw [lst_rng l]
  rw [List.map_map]; rfl
theorem rep_bits (k : Nat) : (List.replicate k [D.int 0]).flatten = bitL k fun _ => false := by
  induction k with
  | zero => rfl
  | succ k ih =>
    rw [List.replicate_succ', List.flatten_append, ih]
    show _ = (List.range (k + 1)).map _
    rw [List.range_succ, List.map_append]; rfl
theorem k__law_units : Keeps 9 (b__law_units c__law_places c__law_bits) c__law_units := by
  rintro ds M P ⟨W, outs, k, sel, rfl, hk, ok, hp⟩
  have hw := ok.wf; have hL := ok.wf.len
  have hsel : (k = "in" ∧ sel = isInp) ∨ (k = "cell" ∧ sel = isCell) ∨ (k = "sum" ∧ sel = isSum) := by
    rcases hk with h | h
    · exact .inl h
    · exact .inr (.inl h)
  have hns : ∀ v, sel W v = true → isSum W v = false := by
    rcases hk with ⟨_, rfl⟩ | ⟨_, rfl⟩
    · exact fun v h => inp_sum h
    · exact fun v h => cell_sum h
  generalize hvs : (List.range W.length).filter (sel W) = vs at hp
  have hvm : ∀ v, v ∈ vs → v < W.length ∧ isSum W v = false := fun v h => by
    rw [← hvs, List.mem_filter, List.mem_range] at h; exact ⟨h.1, hns v h.2⟩
  have hvl : vs.length ≤ 16 := by
    have := List.length_filter_le (sel W) (List.range W.length)
    rw [hvs, List.length_range] at this; omega
  unfold b__law_units
  (conv => whnf)
  refine ⟨by show 0 ≤ 100000; decide, ?_⟩
  intro a ha
  (conv => whnf)
  refine ⟨by show 0 ≤ 100000; decide, ?_⟩
  intro b hb
  have hba : b ≠ a := fun e => by subst e; rw [MM.upd_same] at hb; cases hb
  have hb0 : M b = none := by rw [MM.upd_ne hba] at hb; exact hb
  (conv => whnf)
  refine ⟨W, k, sel, rfl, hsel, by omega, ?_⟩
  rw [hvs]
  (conv => whnf)
  refine ⟨fun i ρ M' => M.le M' ∧ M' a = some (.lst ((vs.take i).map fun v => .lst ((cellsOf W).map fun c => bN (U W v (cellSrc W c))))) ∧ M' b = some (.lst ((vs.take i).map fun v => .lst (outs.map fun o => bN (U W v o)))) ∧
    (∀ c, c ≠ a → c ≠ b → ∀ x, M c = some x → M' c = some x) ∧ ∃ o5 o6 o7, ρ = [some (.lst (W.map wireD)), some (.lst (outs.map nI)), some (.str k), some (.ref a), some (.ref b), o5, o6, o7, none], ⟨fun c x e => ?_, ?_, ?_, fun c h1 h2 x e => ?_, none, none, none, rfl⟩, ?_, ?_⟩
  · have h1 : c ≠ a := fun h => by rw [h, ha] at e; cases e
    have h2 : c ≠ b := fun h => by rw [h, hb0] at e; cases e
    rw [MM.upd_ne h2, MM.upd_ne h1]; exact e
  · rw [MM.upd_ne hba.symm, MM.upd_same]; rfl
  · rw [MM.upd_same]; rfl
  · rw [MM.upd_ne h2, MM.upd_ne h1]; exact e
  · rintro i y ρ M' hy ⟨le, hma, hmb, hms, o5, o6, o7, rfl⟩
    obtain ⟨v, hv, rfl⟩ := map_get hy
    have hvv := hvm v (List.mem_of_getElem? hv)
    have hil := (List.getElem?_eq_some_iff.mp hv).1
    (conv => whnf)
    refine ⟨by show 1 ≤ 100000; decide, ?_⟩
    (conv => whnf)
    refine ⟨Int.natCast_nonneg _, by rw [List.length_map]; show (W.length : Int) ≤ 100000; omega, by rw [List.length_map]; show 1 * (W.length : Int).toNat ≤ 100000; omega, ?_⟩
    intro u hu
    have hua : u ≠ a := fun e => by rw [e, hma] at hu; cases hu
    have hub : u ≠ b := fun e => by rw [e, hmb] at hu; cases hu
    have eR : (List.replicate (((W.map wireD).length : Int)).toNat [D.int 0]).flatten = bitL W.length fun _ => false := by
      rw [List.length_map, Int.toNat_natCast, rep_bits]
    (conv => whnf); try dsimp only
    rw [MM.upd_same]
    (conv => whnf); try dsimp only
    rw [eR, rng_len, ixn hvv.1]
    (conv => whnf)
    rw [MM.upd_upd]
    have eU : (MO.lst ((bitL W.length fun _ => false).set v (D.int 1))) = .lst (bitL W.length fun w => if w = v then true else false) := by
      rw [show D.int 1 = bN true from rfl, bitL_set]
    rw [eU]
    generalize hM2 : M'.upd u (.lst (bitL W.length fun w => if w = v then true else false)) = M2
    have hmu : M2 u = some (.lst (bitL W.length fun w => if w = v then true else false)) := by rw [← hM2, MM.upd_same]
    have hm2a : M2 a = M' a := by rw [← hM2, MM.upd_ne hua.symm]
    have hm2b : M2 b = M' b := by rw [← hM2, MM.upd_ne hub.symm]
    refine ⟨W, .ref u, fun w => if w = v then true else false, rfl, hw, ok.nf, as_ref hmu, ?_⟩
    intro y hy hyk
    have hU : ∀ w, w < W.length → y w = U W v w := U_one hw ok.nf hy fun w hl hs => by rw [hyk w hl hs]; by_cases e : w = v <;> simp [e]
    rw [bitL_congr hU]
    (conv => whnf)
    refine ⟨isl_ref (by rw [hm2a]; exact hma), ?_⟩
    (conv => whnf)
    refine ⟨W, "cell", isCell, rfl, .inr (.inl ⟨rfl, rfl⟩), by omega, ?_⟩
    rw [show ((List.range W.length).filter (isCell W)) = cellsOf W from rfl]
    (conv => whnf)
    refine lcI_natm (fun c => bN (U W v (cellSrc W c))) ?_ ?_
    · intro c Qt hc ht
      have hcc := mem_cells hc
      (conv => whnf)
      rw [ix_nat, List.getElem?_map, isCell_at hcc.2]
      (conv => whnf)
      rw [ix_nat, rng_at (hw.cell_lt hcc.2)]
      exact ht
    (conv => whnf); try dsimp only
    rw [hm2a, hma]
    refine ⟨by rw [List.length_map, List.length_take]; show _ < 100000; omega, ?_⟩
    (conv => whnf)
    refine ⟨isl_ref (by rw [MM.upd_ne hba, hm2b]; exact hmb), ?_⟩
    (conv => whnf)
    refine lcI_natm (fun o => bN (U W v o)) ?_ ?_
    · intro o Qt ho ht
      (conv => whnf)
      rw [ix_nat, rng_at (ok.out o ho)]
      exact ht
    (conv => whnf); try dsimp only
    rw [MM.upd_ne hba, hm2b, hmb]
    refine ⟨by rw [List.length_map, List.length_take]; show _ < 100000; omega, ?_⟩
    refine ⟨fun c x e => ?_, ?_, ?_, fun c h1 h2 x e => ?_, _, _, _, rfl⟩
    · have h1 : c ≠ a := fun h => by rw [h, ha] at e; cases e
      have h2 : c ≠ b := fun h => by rw [h, hb0] at e; cases e
      have e' := le c x e
      have h3 : c ≠ u := fun h => by rw [h, hu] at e'; cases e'
      rw [MM.upd_ne h2, MM.upd_ne h1, ← hM2, MM.upd_ne h3]; exact e'
    · rw [MM.upd_ne hba.symm, MM.upd_same, List.take_add_one, hv, List.map_append]; rfl
    · rw [MM.upd_same, List.take_add_one, hv, List.map_append]; rfl
    · have e' := hms c h1 h2 x e
      have h3 : c ≠ u := fun h => by rw [h, hu] at e'; cases e'
      rw [MM.upd_ne h2, MM.upd_ne h1, ← hM2, MM.upd_ne h3]; exact e'
  · rintro ρ M' ⟨le, hma, hmb, hms, o5, o6, o7, rfl⟩
    rw [List.length_map, List.take_length] at hma hmb
    (conv => whnf); try dsimp only
    rw [hma]
    (conv => whnf); try dsimp only
    rw [MM.del_ne hba, hmb]
    refine ⟨by show 2 ≤ 100000; decide, ?_⟩
    refine fin_le (M' := M) (fun c x e => ?_) ?_
    · have h1 : c ≠ a := fun h => by rw [h, ha] at e; cases e
      have h2 : c ≠ b := fun h => by rw [h, hb0] at e; cases e
      rw [MM.del_ne h2, MM.del_ne h1]; exact le c x e
    · have e1 : (vs.map fun v => D.lst ((cellsOf W).map fun c => bN (U W v (cellSrc W c)))) = gridL vs.length (cellsOf W).length fun i j => U W (vs.getD i 0) (cellSrc W ((cellsOf W).getD j 0)) := by
        rw [map_rng vs]; exact List.map_congr_left fun i _ => by rw [map_rng (cellsOf W)]
      have e2 : (vs.map fun v => D.lst (outs.map fun o => bN (U W v o))) = gridL vs.length outs.length fun i j => U W (vs.getD i 0) (outs.getD j 0) := by
        rw [map_rng vs]; exact List.map_congr_left fun i _ => by rw [map_rng outs]
      rw [e1, e2]; exact hp
def c__law_tables : CT := fun ds M P => ∃ (W : List Wire) (outs : List Nat), ds = [.lst (W.map wireD), .lst (outs.map nI)] ∧ NetOk W outs ∧ P (lawT (tabOf W outs)) M
theorem l__law_tables (ds : List D) (M : MM) (Q : PQ) (h : c__law_tables ds M Q) : ds.length = 2 := by
  obtain ⟨_, _, rfl, _⟩ := h; rfl
theorem k__law_tables : Keeps 6 (b__law_tables c__law_units) c__law_tables := by
  rintro ds M P ⟨W, outs, rfl, ok, hp⟩
  unfold b__law_tables
  (conv => whnf)
  refine ⟨W, outs, "cell", isCell, rfl, .inr ⟨rfl, rfl⟩, ok, ?_⟩
  (conv => whnf)
  refine ⟨rfl, ?_⟩
  (conv => whnf)
  refine ⟨W, outs, "in", isInp, rfl, .inl ⟨rfl, rfl⟩, ok, ?_⟩
  (conv => whnf)
  refine ⟨rfl, ?_⟩
  (conv => whnf)
  refine ⟨by show 5 ≤ 100000; decide, ?_⟩
  rw [List.length_map]
  exact fin_ok hp
def c__law_first : CT := fun ds M P => ∃ (W : List Wire), ds = [.lst (W.map wireD)] ∧ WF W ∧ ∀ a f, M a = none → P (.ref a) (M.upd a (.lst (bitL (cellsOf W).length f)))
theorem l__law_first (ds : List D) (M : MM) (Q : PQ) (h : c__law_first ds M Q) : ds.length = 1 := by
  obtain ⟨_, rfl, _⟩ := h; rfl
theorem k__law_first : Keeps 2 (b__law_first c__law_places) c__law_first := by
  rintro ds M P ⟨W, rfl, hw, hp⟩
  have hL := hw.len
  unfold b__law_first
  (conv => whnf)
  refine ⟨W, "cell", isCell, rfl, .inr (.inl ⟨rfl, rfl⟩), by omega, ?_⟩
  rw [show ((List.range W.length).filter (isCell W)) = cellsOf W from rfl]
  (conv => whnf)
  refine lcI_natm (fun c => bN (decide (cellBit W c = 1))) ?_ ?_
  · intro c Qt hc ht
    have hcc := mem_cells hc
    have hb := hw.cell_bit hcc.2
    (conv => whnf)
    rw [ix_nat, List.getElem?_map, isCell_at hcc.2]
    refine eqP ht (congrArg D.int ?_)
    rcases Nat.lt_or_ge (cellBit W c) 1 with h | h
    · have : cellBit W c = 0 := by omega
      rw [this]; rfl
    · have : cellBit W c = 1 := by omega
      rw [this]; rfl
  intro a ha
  rw [map_rng]
  exact fin_ok (hp a _ ha)
/-- the sum over a list of anything -/
def xg {α : Type} (l : List α) (f : α → Bool) : Bool := l.foldr (fun x b => xor (f x) b) false
theorem xg_map {α β : Type} (g : α → β) (f : β → Bool) : ∀ l : List α, xg (l.map g) f = xg l fun x => f (g x)
  | [] => rfl
  | x :: l => by show xor _ (xg (l.map g) f) = xor _ _; rw [xg_map g f l]; rfl
theorem xg_app {α : Type} (k : List α) (f : α → Bool) : ∀ l : List α, xg (l ++ k) f = xor (xg l f) (xg k f)
  | [] => by show xg k f = xor false _; cases xg k f <;> rfl
  | x :: l => by show xor _ (xg (l ++ k) f) = xor (xor _ (xg l f)) _; rw [xg_app k f l]; exact (Bool.xor_assoc ..).symm
theorem sum_parg {α : Type} (f : α → Bool) (l : List α) : Builtin.bitAnd (l.map fun x => ((f x).toNat : Int)).sum 1 = ((xg l f).toNat : Int) := by
  have h : ∃ n : Nat, (l.map fun x => ((f x).toNat : Int)).sum = (n : Int) ∧ (n % 2 = (xg l f).toNat) := by
    induction l with
    | nil => exact ⟨0, rfl, rfl⟩
    | cons x l ih =>
      obtain ⟨n, e, h⟩ := ih
      refine ⟨(f x).toNat + n, by rw [List.map_cons, List.sum_cons, e]; omega, ?_⟩
      show _ = (xor (f x) (xg l f)).toNat
      cases f x <;> cases q : xg l f <;> rw [q] at h <;> simp at h ⊢ <;> omega
  obtain ⟨n, e, h⟩ := h
  rw [e, show (1 : Int) = ((1 : Nat) : Int) from rfl, i_and, Nat.and_one_is_mod, h]
theorem ints_bitsg {α : Type} (f : α → Bool) (l : List α) : intsOf (l.map fun x => bN (f x)) = some (l.map fun x => ((f x).toNat : Int)) := by
  rw [show (l.map fun x => bN (f x)) = (l.map fun x => ((f x).toNat : Int)).map D.int by rw [List.map_map]; rfl]; exact intsOf_map _
theorem lcI_any {α : Type} {l : List α} {d : α → D} {g : GT} {e : ET} {ρ : DL.Env} {M : MM} {P : List D → MM → Prop} (f : α → D)
    (h : ∀ x (Qt : D → MM → Prop), x ∈ l → Qt (f x) M → g (d x) ρ M fun ρ1 M1 => e ρ1 M1 Qt)
    (hp : P (l.map f) M) : lcI (l.map d) g tYes e ρ M P := by
  refine ⟨fun i acc M' => M' = M ∧ acc = (l.take i).map f, ⟨rfl, rfl⟩, ?_, ?_⟩
  · rintro i x acc M' hx ⟨rfl, rfl⟩
    obtain ⟨v, hv, rfl⟩ := map_get hx
    refine h v (fun y M3 => M3 = M' ∧ (l.take i).map f ++ [y] = (l.take (i + 1)).map f) (List.mem_of_getElem? hv) ⟨rfl, ?_⟩
    rw [List.take_add_one, hv, List.map_append]; rfl
  · rintro acc M' ⟨rfl, rfl⟩; rw [List.length_map, List.take_length]; exact hp
def c__law_added : CT := fun ds M P => ∃ (L : List (D × (Nat → Bool))) (n sz : Nat), (ds = [.lst (L.map (·.1)), nI sz] ∨ ds = [.tup (L.map (·.1)), nI sz]) ∧ (∀ p, p ∈ L → asS M p.1 = some (bitL n p.2)) ∧ sz ≤ n ∧ sz ≤ 1000 ∧
  ∀ a, M a = none → P (.ref a) (M.upd a (.lst (bitL sz fun j => xg L fun p => p.2 j)))
theorem l__law_added (ds : List D) (M : MM) (Q : PQ) (h : c__law_added ds M Q) : ds.length = 2 := by
  obtain ⟨_, _, _, rfl | rfl, _⟩ := h <;> rfl
theorem k__law_added : Keeps 4 b__law_added c__law_added := by
  rintro ds M P ⟨L, n, sz, hds, hL, hsz, hsz2, hp⟩
  have main : ∀ (rd : D), (rd = .lst (L.map (·.1)) ∨ rd = .tup (L.map (·.1))) → b__law_added (finD P) (startD 4 [rd, nI sz]) M := by
    intro rd hrd
    unfold b__law_added
    (conv => whnf)
    refine ⟨by omega, ?_⟩
    refine lcI_map sz (fun j => bN (xg L fun p => p.2 j)) (by rw [rangeD_nat, rng_len]) ?_ ?_
    · intro j y Qt hy hj ht
      obtain ⟨_, rfl⟩ := rng_get (rangeD_nat _ ▸ hy)
      have inner : ∀ (Q : List D → MM → Prop), Q (L.map fun p => bN (p.2 j)) M → lcI (L.map (·.1)) (gNm 2) tYes (mBin bIx (mVar 2) (mVar 3)) [some rd, some (nI sz), none, some (nI j)] M Q := fun Q hQ => by
        refine lcI_any (fun p => bN (p.2 j)) ?_ hQ
        intro p Qt hpL ht
        (conv => whnf); try dsimp only
        rw [hL p hpL]
        (conv => whnf); try dsimp only
        rw [ix_nat, rng_at (by omega)]
        exact ht
      rcases hrd with rfl | rfl
      · (conv => whnf)
        refine inner _ ?_
        (conv => whnf); try dsimp only
        rw [show (asL M (.lst (L.map fun p => bN (p.2 j)))).bind intsOf = some (L.map fun p => ((p.2 j).toNat : Int)) from ints_bitsg (fun p : D × (Nat → Bool) => p.2 j) L]
        (conv => whnf); try dsimp only
        exact eqP ht (congrArg D.int (sum_parg (fun p : D × (Nat → Bool) => p.2 j) L))
      · (conv => whnf)
        refine inner _ ?_
        (conv => whnf); try dsimp only
        rw [show (asL M (.lst (L.map fun p => bN (p.2 j)))).bind intsOf = some (L.map fun p => ((p.2 j).toNat : Int)) from ints_bitsg (fun p : D × (Nat → Bool) => p.2 j) L]
        (conv => whnf); try dsimp only
        exact eqP ht (congrArg D.int (sum_parg (fun p : D × (Nat → Bool) => p.2 j) L))
    · intro a ha
      exact fin_ok (hp a ha)
  rcases hds with rfl | rfl
  · exact main _ (.inl rfl)
  · exact main _ (.inr rfl)
end BB
end
section
/-! contracts: runs -/
namespace BB
open PySem DL
theorem xl_xg (l : List Nat) (f : Nat → Bool) : xg l f = xl l f := rfl
def rowOr (d : D) (l : List D) : Prop := d = .lst l ∨ d = .tup l
theorem rowOr.as {d : D} {l : List D} (h : rowOr d l) (M : MM) : asS M d = some l := by rcases h with rfl | rfl <;> rfl
def c__law_step : CT := fun ds M P => ∃ (T : Tb) (hd ud : D) (s u : Nat → Bool), ds = [lawT T, hd, ud] ∧ rowOr hd (bitL T.n s) ∧ rowOr ud (bitL T.k u) ∧ Small T ∧
  P (.tup [.lst (bitL T.m fun j => xor (xs T.n fun i => s i && T.c i j) (xs T.k fun i => u i && T.d i j)), .lst (bitL T.n fun j => xor (xs T.n fun i => s i && T.a i j) (xs T.k fun i => u i && T.b i j))]) M
theorem l__law_step (ds : List D) (M : MM) (Q : PQ) (h : c__law_step ds M Q) : ds.length = 3 := by
  obtain ⟨_, _, _, _, _, rfl, _⟩ := h; rfl
theorem one_eq (b : Bool) : decide (((b.toNat : Nat) : Int) = 1) = b := by cases b <;> rfl
/-- the chosen rows of two grids -/
abbrev pick (n k m : Nat) (s u : Nat → Bool) (c d : Nat → Nat → Bool) : List (D × (Nat → Bool)) :=
  ((List.range n).filter s).map (fun q => (D.lst (bitL m (c q)), c q)) ++ ((List.range k).filter u).map fun i => (D.lst (bitL m (d i)), d i)
theorem pick_as (n k m : Nat) (s u : Nat → Bool) (c d : Nat → Nat → Bool) (M : MM) : ∀ p, p ∈ pick n k m s u c d → asS M p.1 = some (bitL m p.2) := by
  intro p hp
  rcases List.mem_append.mp hp with hp | hp
  · obtain ⟨q, _, rfl⟩ := List.mem_map.mp hp; rfl
  · obtain ⟨q, _, rfl⟩ := List.mem_map.mp hp; rfl
theorem pick_fst (n k m : Nat) (s u : Nat → Bool) (c d : Nat → Nat → Bool) : (pick n k m s u c d).map (·.1) = ((List.range n).filter s).map (fun q => D.lst (bitL m (c q))) ++ ((List.range k).filter u).map fun i => D.lst (bitL m (d i)) := by
  rw [List.map_append, List.map_map, List.map_map]; rfl
theorem pick_sum (n k m : Nat) (s u : Nat → Bool) (c d : Nat → Nat → Bool) (j : Nat) : xg (pick n k m s u c d) (fun p => p.2 j) = xor (xs n fun i => s i && c i j) (xs k fun i => u i && d i j) := by
  rw [xg_app, xg_map, xg_map]
  congr 1
  · exact (xl_filter s (fun i => c i j) _).trans (xl_range _ n)
  · exact (xl_filter u (fun i => d i j) _).trans (xl_range _ k)
theorem k__law_step : Keeps 13 (b__law_step c__law_added) c__law_step := by
  rintro ds M P ⟨T, hd, ud, s, u, rfl, hh, hu, sm, hp⟩
  have s1 := sm.n; have s2 := sm.k; have s3 := sm.m
  unfold b__law_step
  (conv => whnf)
  refine ⟨rfl, ?_⟩
  (conv => whnf)
  refine ⟨by rw [rng_len]; omega, ?_⟩
  refine lcI_fil T.n s nI (by rw [rangeD_nat, rng_len, rng_len]) ?_ ?_
  · intro i y Qt Qf hy ht hf
    obtain ⟨hi, rfl⟩ := rng_get (rangeD_nat _ ▸ hy)
    rw [rng_len] at hi
    (conv => whnf); try dsimp only
    rw [hh.as]
    (conv => whnf); try dsimp only
    rw [ix_nat, rng_at hi]
    (conv => whnf); try dsimp only
    rw [one_eq]
    cases e : s i
    · exact hf e
    · exact ht e
  (conv => whnf)
  refine ⟨by rw [rng_len]; omega, ?_⟩
  refine lcI_fil T.k u nI (by rw [rangeD_nat, rng_len, rng_len]) ?_ ?_
  · intro i y Qt Qf hy ht hf
    obtain ⟨hi, rfl⟩ := rng_get (rangeD_nat _ ▸ hy)
    rw [rng_len] at hi
    (conv => whnf); try dsimp only
    rw [hu.as]
    (conv => whnf); try dsimp only
    rw [ix_nat, rng_at hi]
    (conv => whnf); try dsimp only
    rw [one_eq]
    cases e : u i
    · exact hf e
    · exact ht e
  have len : ∀ (m : Nat) (c d : Nat → Nat → Bool), (((List.range T.n).filter s).map (fun q => D.lst (bitL m (c q)))).length + (((List.range T.k).filter u).map fun i => D.lst (bitL m (d i))).length ≤ big := fun m c d => by
    have h1 := List.length_filter_le s (List.range T.n)
    have h2 := List.length_filter_le u (List.range T.k)
    rw [List.length_range] at h1 h2
    rw [List.length_map, List.length_map]
    show _ ≤ 100000; omega
  (conv => whnf)
  refine lcI_natm (fun q => .lst (bitL T.m (T.c q))) ?_ ?_
  · intro q Qt hq ht
    have := List.mem_range.mp (List.mem_filter.mp hq).1
    (conv => whnf)
    rw [ix_nat, rng_at this]
    exact ht
  (conv => whnf)
  refine lcI_natm (fun i => .lst (bitL T.m (T.d i))) ?_ ?_
  · intro q Qt hq ht
    have := List.mem_range.mp (List.mem_filter.mp hq).1
    (conv => whnf)
    rw [ix_nat, rng_at this]
    exact ht
  (conv => whnf)
  refine ⟨len _ _ _, ?_⟩
  (conv => whnf)
  refine ⟨pick T.n T.k T.m s u T.c T.d, T.m, T.m, .inl ?_, pick_as _ _ _ _ _ _ _ _, Nat.le_refl _, by omega, ?_⟩
  · rw [pick_fst]; rfl
  intro a ha
  (conv => whnf); try dsimp only
  rw [MM.upd_same, MM.upd_del ha]
  (conv => whnf)
  refine lcI_natm (fun q => .lst (bitL T.n (T.a q))) ?_ ?_
  · intro q Qt hq ht
    have := List.mem_range.mp (List.mem_filter.mp hq).1
    (conv => whnf)
    rw [ix_nat, rng_at this]
    exact ht
  (conv => whnf)
  refine lcI_natm (fun i => .lst (bitL T.n (T.b i))) ?_ ?_
  · intro q Qt hq ht
    have := List.mem_range.mp (List.mem_filter.mp hq).1
    (conv => whnf)
    rw [ix_nat, rng_at this]
    exact ht
  (conv => whnf)
  refine ⟨len _ _ _, ?_⟩
  (conv => whnf)
  refine ⟨pick T.n T.k T.n s u T.a T.b, T.n, T.n, .inl ?_, pick_as _ _ _ _ _ _ _ _, Nat.le_refl _, by omega, ?_⟩
  · rw [pick_fst]
    show [_, D.int (((List.range T.n).map _).length : Nat)] = _
    rw [rng_len]
  intro b hb
  (conv => whnf); try dsimp only
  rw [MM.upd_same, MM.upd_del hb]
  refine ⟨by show 2 ≤ 100000; decide, ?_⟩
  rw [bitL_congr (fun j _ => pick_sum T.n T.k T.m s u T.c T.d j), bitL_congr (fun j _ => pick_sum T.n T.k T.n s u T.a T.b j)]
  exact fin_ok hp
abbrev runL (T : Tb) (s : Nat → Bool) (N : Nat) : List D := (List.range N).map fun t => .lst (bitL T.m (T.out s t))
def c__law_run : CT := fun ds M P => ∃ (T : Tb) (hd : D) (s : Nat → Bool) (N : Nat), ds = [lawT T, hd, .lst ((List.range N).map fun _ => .lst (bitL T.k fun _ => false))] ∧ rowOr hd (bitL T.n s) ∧ Small T ∧ N ≤ 1000 ∧
  ∀ d, P (.tup [.lst (runL T s N), d]) M
theorem l__law_run (ds : List D) (M : MM) (Q : PQ) (h : c__law_run ds M Q) : ds.length = 3 := by
  obtain ⟨_, _, _, _, rfl, _⟩ := h; rfl
theorem xor_zero' (b : Bool) (n : Nat) (f : Nat → Bool) : xor b (xs n fun i => false && f i) = b := by
  rw [xs_zero (f := fun i => false && f i) fun _ _ => rfl, Bool.xor_false]
theorem k__law_run : Keeps 6 (b__law_run c__law_step) c__law_run := by
  rintro ds M P ⟨T, hd, s, N, rfl, hh, sm, hN, hp⟩
  unfold b__law_run
  (conv => whnf)
  refine ⟨by show 0 ≤ 100000; decide, ?_⟩
  intro a ha
  (conv => whnf)
  refine ⟨fun t ρ M' => ∃ (hd : D) (o4 o5 : Option D), M' = M.upd a (.lst (runL T s t)) ∧ rowOr hd (bitL T.n (T.st s t)) ∧ ρ = [some (lawT T), some hd, some (.lst ((List.range N).map fun _ => .lst (bitL T.k fun _ => false))), some (.ref a), o4, o5], ⟨hd, none, none, rfl, hh, rfl⟩, ?_, ?_⟩
  · rintro t y ρ M' hy ⟨hd, o4, o5, rfl, hh, rfl⟩
    obtain ⟨ht, rfl⟩ := rng_get hy
    (conv => whnf)
    refine ⟨T, hd, _, T.st s t, fun _ => false, rfl, hh, .inl rfl, sm, ?_⟩
    (conv => whnf)
    refine ⟨rfl, ?_⟩
    (conv => whnf)
    refine ⟨isl_ref MM.upd_same, ?_⟩
    (conv => whnf); try dsimp only
    rw [MM.upd_same]
    refine ⟨by rw [rng_len]; show _ < 100000; omega, ?_⟩
    have e1 : (bitL T.m fun j => xor (xs T.n fun i => T.st s t i && T.c i j) (xs T.k fun i => (fun _ => false) i && T.d i j)) = bitL T.m (T.out s t) := bitL_congr fun j _ => xor_zero' _ _ _
    have e2 : (bitL T.n fun j => xor (xs T.n fun i => T.st s t i && T.a i j) (xs T.k fun i => (fun _ => false) i && T.b i j)) = bitL T.n (T.st s (t + 1)) := bitL_congr fun j _ => xor_zero' _ _ _
    rw [e1, e2]
    refine ⟨.lst (bitL T.n (T.st s (t + 1))), some (.lst (bitL T.k fun _ => false)), some (.lst (bitL T.m (T.out s t))), ?_, .inl rfl, rfl⟩
    rw [MM.upd_upd]
    show M.upd a (.lst (runL T s t ++ [_])) = M.upd a (.lst (runL T s (t + 1)))
    unfold runL
    rw [List.range_succ, List.map_append]; rfl
  · rintro ρ M' ⟨hd, o4, o5, rfl, hh, rfl⟩
    rw [rng_len]
    (conv => whnf); try dsimp only
    rw [MM.upd_same]
    refine ⟨by show 2 ≤ 100000; decide, ?_⟩
    rw [MM.upd_del ha]
    exact fin_ok (hp hd)
def c__law_bare : CT := fun ds M P => ∃ (T : Tb) (hd : D) (s : Nat → Bool) (N : Nat), ds = [lawT T, hd, nI N] ∧ rowOr hd (bitL T.n s) ∧ Small T ∧ N ≤ 1000 ∧ P (.lst (runL T s N)) M
theorem l__law_bare (ds : List D) (M : MM) (Q : PQ) (h : c__law_bare ds M Q) : ds.length = 3 := by
  obtain ⟨_, _, _, _, rfl, _⟩ := h; rfl
theorem rep_rows (x : D) : ∀ N : Nat, (List.replicate N [x]).flatten = (List.range N).map fun _ => x
  | 0 => rfl
  | N + 1 => by rw [List.replicate_succ', List.flatten_append, rep_rows x N, List.range_succ, List.map_append]; rfl
theorem k__law_bare : Keeps 3 (b__law_bare c__law_run) c__law_bare := by
  rintro ds M P ⟨T, hd, s, N, rfl, hh, sm, hN, hp⟩
  have s2 := sm.k
  unfold b__law_bare
  (conv => whnf)
  refine ⟨by show 1 ≤ 100000; decide, ?_⟩
  (conv => whnf)
  refine ⟨Int.natCast_nonneg _, by rw [rng_len]; show (T.k : Int) ≤ 100000; omega, by rw [rng_len]; show 1 * (T.k : Int).toNat ≤ 100000; omega, ?_⟩
  (conv => whnf)
  refine ⟨by show 1 ≤ 100000; decide, ?_⟩
  (conv => whnf)
  refine ⟨Int.natCast_nonneg _, by show (N : Int) ≤ 100000; omega, by show 1 * (N : Int).toNat ≤ 100000; omega, ?_⟩
  (conv => whnf)
  refine ⟨T, hd, s, N, ?_, hh, sm, hN, ?_⟩
  · rw [rng_len, Int.toNat_natCast, Int.toNat_natCast, rep_bits, rep_rows]; rfl
  intro d
  exact fin_ok hp
def c__law_answer : CT := fun ds M P => ∃ (T : Tb) (p N : Nat), ds = [lawT T, nI p, nI N] ∧ p < T.k ∧ Small T ∧ N ≤ 1000 ∧ P (.lst ((List.range (N + 1)).map fun t => .lst (bitL T.m (T.E t p)))) M
theorem l__law_answer (ds : List D) (M : MM) (Q : PQ) (h : c__law_answer ds M Q) : ds.length = 3 := by
  obtain ⟨_, _, _, rfl, _⟩ := h; rfl
theorem k__law_answer : Keeps 4 (b__law_answer c__law_bare) c__law_answer := by
  rintro ds M P ⟨T, p, N, rfl, hpk, sm, hN, hp⟩
  unfold b__law_answer
  (conv => whnf); try dsimp only
  rw [ix_nat, rng_at hpk]
  (conv => whnf)
  refine ⟨T, _, T.b p, N, rfl, .inl rfl, sm, hN, ?_⟩
  (conv => whnf); try dsimp only
  rw [ix_nat, rng_at hpk]
  (conv => whnf)
  refine ⟨by show 1 ≤ 100000; decide, ?_⟩
  (conv => whnf)
  refine ⟨by rw [rng_len]; show 1 + _ ≤ 100000; omega, ?_⟩
  refine fin_ok ?_
  have : [D.lst (bitL T.m (T.d p))] ++ runL T (T.b p) N = (List.range (N + 1)).map fun t => D.lst (bitL T.m (T.E t p)) := by
    rw [List.range_succ_eq_map, List.map_cons, List.map_map]; rfl
  rw [this]; exact hp
def c__law_all : CT := fun ds M P => ∃ n : Nat, ds = [nI n] ∧ n ≤ 12 ∧ P (.lst ((List.range (2 ^ n)).map fun x => .lst (bitL n x.testBit))) M
theorem l__law_all (ds : List D) (M : MM) (Q : PQ) (h : c__law_all ds M Q) : ds.length = 1 := by
  obtain ⟨_, rfl, _⟩ := h; rfl
theorem k__law_all : Keeps 3 b__law_all c__law_all := by
  rintro ds M P ⟨n, rfl, hn, hp⟩
  have hl2 : 2 ^ n ≤ 4096 := Nat.le_trans (Nat.pow_le_pow_right (by decide) hn) (by decide)
  have eP : (1 : Int) * (2 : Int) ^ ((n : Int)).toNat = ((2 ^ n : Nat) : Int) := by
    rw [one_shl, Nat.one_shiftLeft]
  unfold b__law_all
  (conv => whnf)
  refine ⟨⟨Int.natCast_nonneg _, by omega, by decide⟩, ?_⟩
  (conv => whnf)
  refine ⟨⟨?_, ?_⟩, ?_⟩
  · show (-100000 : Int) ≤ (1 : Int) * (2 : Int) ^ ((n : Int)).toNat; rw [eP]; exact Int.le_trans (by decide) (Int.natCast_nonneg _)
  · show (1 : Int) * (2 : Int) ^ ((n : Int)).toNat ≤ 100000; rw [eP]; exact Int.le_trans (Int.ofNat_le.mpr hl2) (by decide)
  have eR : rangeD ((1 : Int) * (2 : Int) ^ ((n : Int)).toNat) = (List.range (2 ^ n)).map nI := by rw [eP]; rfl
  refine lcI_map (2 ^ n) (fun x => .lst (bitL n x.testBit)) ?_ ?_ (fin_ok hp)
  · show (rangeD ((1 : Int) * (2 : Int) ^ ((n : Int)).toNat)).length = _
    rw [eR, rng_len]
  · intro x y Qt hy hx ht
    have hy : ((List.range (2 ^ n)).map nI)[x]? = some y := by rw [← eR]; exact hy
    obtain ⟨_, rfl⟩ := rng_get hy
    (conv => whnf)
    refine ⟨by omega, ?_⟩
    refine lcI_map n (fun i => bN (x.testBit i)) (by rw [rangeD_nat, rng_len]) ?_ ht
    intro i y Qt hy hi ht
    obtain ⟨_, rfl⟩ := rng_get (rangeD_nat _ ▸ hy)
    (conv => whnf)
    exact ⟨Int.natCast_nonneg _, eqP ht (congrArg D.int (i_bit x i))⟩
abbrev runsL (T : Tb) (N : Nat) : List D := (List.range (2 ^ T.n)).map fun x => .lst (runL T x.testBit N)
def c__law_runs : CT := fun ds M P => ∃ (T : Tb) (N : Nat), ds = [lawT T, nI N] ∧ Small T ∧ N ≤ 1000 ∧ P (.lst (runsL T N)) M
theorem l__law_runs (ds : List D) (M : MM) (Q : PQ) (h : c__law_runs ds M Q) : ds.length = 2 := by
  obtain ⟨_, _, rfl, _⟩ := h; rfl
theorem k__law_runs : Keeps 3 (b__law_runs c__law_all c__law_bare) c__law_runs := by
  rintro ds M P ⟨T, N, rfl, sm, hN, hp⟩
  unfold b__law_runs
  (conv => whnf)
  refine ⟨T.n, ?_, sm.n, ?_⟩
  · show [D.int (((List.range T.n).map _).length : Nat)] = _
    rw [rng_len]
  (conv => whnf)
  refine lcI_map (2 ^ T.n) (fun x => .lst (runL T x.testBit N)) (rng_len _ _) ?_ (fin_ok hp)
  intro x y Qt hy hx ht
  obtain ⟨_, rfl⟩ := rng_get hy
  (conv => whnf)
  exact ⟨T, _, x.testBit, N, rfl, .inl rfl, sm, hN, ht⟩
end BB
end
section
/-! contracts: the law's checks -/
namespace BB
open PySem DL
abbrev XE (S T : Tb) (t p j : Nat) : Bool := xor (S.E t p j) (T.E t p j)
def c__law_difference : CT := fun ds M P => ∃ S T : Tb, ds = [lawT S, lawT T] ∧ Small S ∧ Small T ∧ S.k = T.k ∧ S.m = T.m ∧ ∀ d, FD (XE S T) (S.n + T.n) S.k S.m d → P d M
theorem l__law_difference (ds : List D) (M : MM) (Q : PQ) (h : c__law_difference ds M Q) : ds.length = 2 := by
  obtain ⟨_, _, rfl, _⟩ := h; rfl
abbrev difL (S T : Tb) (p : Nat) : D := .lst ((List.range (S.n + T.n + 1)).map fun t => .lst (bitL S.m (XE S T t p)))
theorem bits_one (m : Nat) (f : Nat → Bool) : ((List.range m).map fun j => (((f j).toNat : Nat) : Int)).contains 1 = true ↔ ∃ j, j < m ∧ f j = true := by
  rw [List.contains_iff_mem, List.mem_map]
  constructor
  · rintro ⟨j, hj, e⟩
    refine ⟨j, List.mem_range.mp hj, ?_⟩
    cases q : f j with
    | true => rfl
    | false => rw [q] at e; cases e
  · rintro ⟨j, hj, e⟩
    exact ⟨j, List.mem_range.mpr hj, by rw [e]; rfl⟩
theorem ints_bitL (m : Nat) (f : Nat → Bool) : intsOf (bitL m f) = some ((List.range m).map fun j => (((f j).toNat : Nat) : Int)) := ints_bits f _
theorem least_bit {f : Nat → Bool} {m : Nat} (h : ∃ j, j < m ∧ f j = true) : ∃ j, j < m ∧ f j = true ∧ ∀ j', j' < j → f j' = false := by
  obtain ⟨j, l, _, a, b, c⟩ := fil_first h
  exact ⟨j, a, b, c⟩
theorem k__law_difference : Keeps 9 (b__law_difference c__law_added c__law_answer) c__law_difference := by
  rintro ds M P ⟨S, T, rfl, sS, sT, ek, em, hp⟩
  have s1 := sS.n; have s2 := sS.k; have s3 := sS.m; have t1 := sT.n
  have eN : ((gridL S.n S.n S.a).length : Int) + ((gridL T.n T.n T.a).length : Int) = ((S.n + T.n : Nat) : Int) := by
    rw [rng_len, rng_len]; omega
  unfold b__law_difference
  (conv => whnf)
  refine ⟨by show 0 ≤ 100000; decide, ?_⟩
  intro a ha
  change (sSeq _ _) (finD P) [some (lawT S), some (lawT T), some (D.int (((gridL S.n S.n S.a).length : Int) + ((gridL T.n T.n T.a).length : Int))), some (.ref a), none, none, none, none, none] _
  rw [eN]
  (conv => whnf)
  refine ⟨by rw [rng_len]; omega, ?_⟩
  refine ⟨fun p ρ M' => M' = M.upd a (.lst ((List.range p).map (difL S T))) ∧ ∃ o4 o5 o6, ρ = [some (lawT S), some (lawT T), some (nI (S.n + T.n)), some (.ref a), o4, o5, o6, none, none], ⟨rfl, none, none, none, rfl⟩, ?_, ?_⟩
  · rintro p y ρ M' hy ⟨rfl, o4, o5, o6, rfl⟩
    obtain ⟨hpk, rfl⟩ := rng_get (rangeD_nat _ ▸ hy)
    rw [rng_len] at hpk
    (conv => whnf)
    refine ⟨S, p, S.n + T.n, rfl, hpk, sS, by omega, ?_⟩
    (conv => whnf)
    refine ⟨T, p, S.n + T.n, rfl, by omega, sT, by omega, ?_⟩
    (conv => whnf)
    refine ⟨isl_ref MM.upd_same, ?_⟩
    (conv => whnf)
    refine lcI_map (S.n + T.n + 1) (fun t => .lst (bitL S.m (XE S T t p))) (by show (List.zipWith _ _ _).length = _; rw [List.length_zipWith, rng_len, rng_len]; omega) ?_ ?_
    · intro t y Qt hy ht ht'
      obtain ⟨u, v, hu, hv, rfl⟩ := zip_get hy
      obtain ⟨_, rfl⟩ := rng_get hu
      obtain ⟨_, rfl⟩ := rng_get hv
      (conv => whnf)
      refine ⟨[(.lst (bitL S.m (S.E t p)), S.E t p), (.lst (bitL T.m (T.E t p)), T.E t p)], S.m, S.m, .inr rfl, ?_, Nat.le_refl _, by omega, ?_⟩
      · intro q hq
        rcases List.mem_cons.mp hq with rfl | hq
        · rfl
        · cases List.mem_singleton.mp hq; rw [em]; rfl
      intro b hb
      (conv => whnf); try dsimp only
      rw [MM.upd_same, MM.upd_del hb]
      rw [bitL_congr (f := fun j => xg [(D.lst (bitL S.m (S.E t p)), S.E t p), (.lst (bitL T.m (T.E t p)), T.E t p)] fun q => q.2 j) (g := XE S T t p) fun j _ => by show xor _ (xor _ false) = _; rw [Bool.xor_false]]
      exact ht'
    (conv => whnf); try dsimp only
    rw [MM.upd_same]
    refine ⟨by rw [rng_len]; show _ < 100000; omega, ?_⟩
    refine ⟨?_, _, _, _, rfl⟩
    rw [MM.upd_upd, List.range_succ (n := p), List.map_append (f := difL S T)]; rfl
  · rintro ρ M' ⟨rfl, o4, o5, o6, rfl⟩
    rw [rangeD_nat, rng_len, rng_len]
    generalize hM : M.upd a (.lst ((List.range S.k).map (difL S T))) = M1
    have hm : M1 a = some (.lst ((List.range S.k).map (difL S T))) := by rw [← hM, MM.upd_same]
    have le1 : M.le M1 := by rw [← hM]; exact MM.le_upd ha
    (conv => whnf)
    refine ⟨⟨by show (-100000 : Int) ≤ ((S.n + T.n : Nat) : Int) + 1; omega, by show ((S.n + T.n : Nat) : Int) + 1 ≤ 100000; omega⟩, ?_⟩
    have eR : rangeD (((S.n + T.n : Nat) : Int) + 1) = (List.range (S.n + T.n + 1)).map nI := rangeD_nat (S.n + T.n + 1)
    refine ⟨fun t ρ M' => M' = M1 ∧ (∀ t' p j, t' < t → p < S.k → j < S.m → XE S T t' p j = false) ∧ ∃ o4 o8, ρ = [some (lawT S), some (lawT T), some (nI (S.n + T.n)), some (.ref a), o4, o5, o6, none, o8], ⟨rfl, fun t' p j h => absurd h (Nat.not_lt_zero _), o4, none, rfl⟩, ?_, ?_⟩
    · rintro t y ρ M' hy ⟨rfl, h1, o4, o8, rfl⟩
      have hy : ((List.range (S.n + T.n + 1)).map nI)[t]? = some y := by rw [← eR]; exact hy
      obtain ⟨ht, rfl⟩ := rng_get hy
      (conv => whnf); try dsimp only
      rw [as_ref hm]
      (conv => whnf)
      refine ⟨by rw [rng_len]; omega, ?_⟩
      refine ⟨fun i ρ M2 => M2 = M' ∧ (∀ p j, p < i → j < S.m → XE S T t p j = false) ∧ ∃ o4, ρ = [some (lawT S), some (lawT T), some (nI (S.n + T.n)), some (.ref a), o4, o5, o6, none, some (nI t)], ⟨rfl, fun p j h => absurd h (Nat.not_lt_zero _), o4, rfl⟩, ?_, ?_⟩
      · rintro p y ρ M2 hy ⟨rfl, h2, o4, rfl⟩
        obtain ⟨hpk, rfl⟩ := rng_get (rangeD_nat _ ▸ hy)
        rw [rng_len] at hpk
        (conv => whnf); try dsimp only
        rw [as_ref hm]
        (conv => whnf); try dsimp only
        rw [ix_nat, rng_at hpk]
        (conv => whnf); try dsimp only
        rw [show L2.atI ((List.range (S.n + T.n + 1)).map fun t => D.lst (bitL S.m (XE S T t p))) (t : Int) = some (.lst (bitL S.m (XE S T t p))) by rw [ix_nat, rng_at ht]]
        (conv => whnf); try dsimp only
        rw [show (asS M2 (.lst (bitL S.m (XE S T t p)))).bind intsOf = some ((List.range S.m).map fun j => (((XE S T t p j).toNat : Nat) : Int)) from ints_bitL _ _]
        (conv => whnf); try dsimp only
        cases e : ((List.range S.m).map fun j => (((XE S T t p j).toNat : Nat) : Int)).contains 1 with
        | false =>
          refine ⟨rfl, fun p' j hp' hj => ?_, some (nI p), rfl⟩
          by_cases q : p' < p
          · exact h2 p' j q hj
          · have : p' = p := by omega
            subst this
            cases q : XE S T t p' j with
            | false => rfl
            | true => rw [(bits_one S.m (XE S T t p')).mpr ⟨j, hj, q⟩] at e; cases e
        | true =>
          obtain ⟨j, hj, fj, hmin⟩ := least_bit ((bits_one S.m (XE S T t p)).mp e)
          (conv => whnf); try dsimp only
          rw [as_ref hm]
          (conv => whnf); try dsimp only
          rw [ix_nat, rng_at hpk]
          (conv => whnf); try dsimp only
          rw [show L2.atI ((List.range (S.n + T.n + 1)).map fun t => D.lst (bitL S.m (XE S T t p))) (t : Int) = some (.lst (bitL S.m (XE S T t p))) by rw [ix_nat, rng_at ht]]
          (conv => whnf)
          refine ⟨rfl, ?_⟩
          (conv => whnf); try dsimp only
          rw [show (asL M2 (.lst (bitL S.m (XE S T t p)))).bind intsOf = some ((List.range S.m).map fun j => (((XE S T t p j).toNat : Nat) : Int)) from ints_bitL _ _]
          refine ⟨j, by rw [rng_at hj, fj]; rfl, fun j' hj' => ?_, ?_⟩
          · rw [rng_at (by omega), hmin j' hj']; intro q; cases q
          (conv => whnf)
          refine ⟨by show 3 ≤ 100000; decide, ?_⟩
          refine fin_le le1 (hp _ (.som t p j (by omega) hpk hj fj h1 h2 hmin))
      · rintro ρ M2 ⟨rfl, h2, o4, rfl⟩
        rw [rangeD_nat, rng_len, rng_len] at h2
        refine ⟨rfl, fun t' p j ht' hp' hj => ?_, _, _, rfl⟩
        by_cases q : t' < t
        · exact h1 t' p j q hp' hj
        · have : t' = t := by omega
          subst this; exact h2 p j hp' hj
    · rintro ρ M' ⟨rfl, h1, o4, o8, rfl⟩
      have h1 : ∀ t' p j, t' < (rangeD (((S.n + T.n : Nat) : Int) + 1)).length → p < S.k → j < S.m → XE S T t' p j = false := h1
      rw [eR, rng_len] at h1
      exact fin_le le1 (hp _ (.non fun t p j ht hp' hj => h1 t p j (by omega) hp' hj))
/-! ### outs are sums -/
theorem out_lin (T : Tb) (n : Nat) (f : Nat → Bool) (tw : Nat → Nat → Bool) (t j : Nat) : T.out (fun i => xs n fun k => f k && tw k i) t j = xs n fun k => f k && T.out (tw k) t j := by
  rw [out_look]
  rw [xs_congr (g := fun i => xs n fun k => f k && (tw k i && T.look t j i)) fun i _ => by
    rw [← xs_andr]; exact xs_congr fun k _ => Bool.and_assoc ..]
  rw [xs_swap]
  exact xs_congr fun k _ => by rw [xs_andl, out_look]
theorem out_unit (T : Tb) {k : Nat} (hk : k < T.n) (t j : Nat) : T.out (unit k) t j = T.look t j k := by
  rw [out_look, xs_one hk fun i _ hi => by unfold unit; simp [hi]]
  unfold unit; simp
theorem out_units (T : Tb) (f : Nat → Bool) (t j : Nat) : T.out f t j = xs T.n fun k => f k && T.out (unit k) t j := by
  rw [out_look]; exact xs_congr fun k hk => by rw [out_unit T hk]
/-- a state's twin is the sum of the twins of its units -/
theorem twin_sum {S T : Tb} {N : Nat} {tw : Nat → Nat → Bool} (h : ∀ k, k < S.n → Twin S T N (unit k) (tw k)) (f : Nat → Bool) : Twin S T N f (fun i => xs S.n fun k => f k && tw k i) := fun q hq => by
  rw [out_lin, out_units S f]
  exact xs_congr fun k hk => by rw [h k hk q hq]
theorem twin_run {S T : Tb} {N : Nat} (em : S.m = T.m) {f s' : Nat → Bool} (h : Twin S T N f s') : runL T s' N = runL S f N := by
  refine List.map_congr_left fun t ht => ?_
  rw [em]
  refine congrArg D.lst (bitL_congr fun j hj => ?_)
  have := h (t * T.m + j) (lt_at (List.mem_range.mp ht) hj)
  rwa [div_at hj, mod_at hj] at this
theorem run_twin {S T : Tb} {N : Nat} (em : S.m = T.m) {f s' : Nat → Bool} (h : runL T s' N = runL S f N) : Twin S T N f s' := fun q hq => by
  have hm : 0 < T.m := by
    rcases Nat.eq_zero_or_pos T.m with e | e
    · rw [e, Nat.mul_zero] at hq; exact absurd hq (Nat.not_lt_zero _)
    · exact e
  have ht : q / T.m < N := (Nat.div_lt_iff_lt_mul hm).mpr hq
  have hj : q % T.m < T.m := Nat.mod_lt _ hm
  have a := congrArg (fun l : List D => l[q / T.m]?) h
  try dsimp only at a
  rw [rng_at ht, rng_at ht, em] at a
  have b := D.lst.inj (Option.some.inj a)
  have c := congrArg (fun l : List D => l[q % T.m]?) b
  try dsimp only at c
  rw [rng_at hj, rng_at hj] at c
  have d := D.int.inj (Option.some.inj c)
  revert d
  cases T.out s' (q / T.m) (q % T.m) <;> cases S.out f (q / T.m) (q % T.m) <;> simp
theorem run_sd (T : Tb) (s : Nat → Bool) (N k : Nat) : SD (k + 2) (.lst (runL T s N)) := fun x hx => by
  obtain ⟨t, _, rfl⟩ := List.mem_map.mp hx; exact SD.bits k _ _
def c__law_twins : CT := fun ds M P => ∃ (S T : Tb) (tw : Nat → Nat → Bool) (N : Nat), ds = [twL S T tw, .lst (runsL S N), lawT T, nI N] ∧ Small S ∧ Small T ∧ S.m = T.m ∧ N ≤ 1000 ∧ (∀ k, k < S.n → Twin S T N (unit k) (tw k)) ∧ P (.bl true) M
theorem l__law_twins (ds : List D) (M : MM) (Q : PQ) (h : c__law_twins ds M Q) : ds.length = 4 := by
  obtain ⟨_, _, _, _, rfl, _⟩ := h; rfl
theorem rep_int (n : Nat) (i : Int) (k : Nat) : (List.replicate k [D.int i]).flatten = (List.range k).map fun _ => D.int i := rep_rows _ _
theorem k__law_twins : Keeps 10 (b__law_twins c__law_bare c__law_added c__law_all) c__law_twins := by
  rintro ds M P ⟨S, T, tw, N, rfl, sS, sT, em, hN, htw, hp⟩
  have s1 := sS.n; have t1 := sT.n
  have hl2 : 2 ^ S.n ≤ 4096 := Nat.le_trans (Nat.pow_le_pow_right (by decide) s1) (by decide)
  unfold b__law_twins
  (conv => whnf)
  refine ⟨⟨Int.natCast_nonneg _, by rw [rng_len]; omega, by decide⟩, ?_⟩
  have e0 : decide ((1 : Int) * (2 : Int) ^ ((((List.range S.n).map fun at_ => D.tup (bitL T.n (tw at_))).length : Nat) : Int).toNat = (((runsL S N).length : Nat) : Int)) = true := by
    rw [one_shl, rng_len, rng_len, Nat.one_shiftLeft]; simp
  (conv => whnf); try dsimp only
  rw [e0]
  (conv => whnf)
  refine ⟨S.n, congrArg (fun z : Nat => [D.int (z : Int)]) (rng_len _ _), s1, ?_⟩
  (conv => whnf)
  refine ⟨by rw [rng_len]; exact ⟨Int.le_trans (by decide) (Int.natCast_nonneg _), Int.le_trans (Int.ofNat_le.mpr hl2) (by decide)⟩, ?_⟩
  refine ⟨fun i ρ M' => M' = M ∧ ∃ o4 o6 o7, ρ = [some (twL S T tw), some (.lst (runsL S N)), some (lawT T), some (nI N), o4, some (.lst ((List.range (2 ^ S.n)).map fun x => .lst (bitL S.n x.testBit))), o6, o7, none, none] ∧ o4 = some (nI T.n), ⟨rfl, _, none, none, rfl, congrArg (fun z : Nat => some (D.int (z : Int))) (rng_len _ _)⟩, ?_, ?_⟩
  · rintro x y ρ M' hy ⟨rfl, o4, o6, o7, rfl, rfl⟩
    obtain ⟨hx, rfl⟩ := rng_get (rangeD_nat _ ▸ hy)
    rw [rng_len] at hx
    (conv => whnf)
    refine ⟨by rw [rng_len]; omega, ?_⟩
    refine lcI_fil S.n x.testBit (fun k => .tup (bitL T.n (tw k))) (by rw [rangeD_nat, rng_len, rng_len]) ?_ ?_
    · intro k y Qt Qf hy ht hf
      obtain ⟨hk, rfl⟩ := rng_get (rangeD_nat _ ▸ hy)
      rw [rng_len] at hk
      (conv => whnf); try dsimp only
      rw [ix_nat, rng_at hx]
      (conv => whnf); try dsimp only
      rw [ix_nat, rng_at hk]
      (conv => whnf); try dsimp only
      rw [one_eq]
      cases e : x.testBit k
      · exact hf e
      · (conv => whnf); try dsimp only
        rw [ix_nat, rng_at hk]
        exact ht e
    (conv => whnf)
    refine lcI_map S.n (fun _ => nI T.n) (rng_len _ _) ?_ ?_
    · intro k y Qt hy hk ht
      obtain ⟨_, rfl⟩ := rng_get hy
      (conv => whnf)
      exact eqP ht (congrArg (fun z : Nat => D.int (z : Int)) (rng_len _ _))
    (conv => whnf)
    refine ⟨by show 1 ≤ 100000; decide, ?_⟩
    (conv => whnf)
    refine ⟨Int.natCast_nonneg _, by rw [rng_len]; show (S.n : Int) ≤ 100000; omega, by rw [rng_len]; show 1 * (S.n : Int).toNat ≤ 100000; omega, ?_⟩
    (conv => whnf)
    rw [rng_len, Int.toNat_natCast, rep_int T.n]
    obtain ⟨r, s, q1, q2, q3, q4, hb⟩ := eqD_ex M' (x := .lst ((List.range S.n).map fun _ => nI T.n)) (y := .lst ((List.range S.n).map fun _ => D.int (T.n : Int))) 1 (by decide) (fun x hx => by obtain ⟨_, _, rfl⟩ := List.mem_map.mp hx; exact SD.int _ _) (fun x hx => by obtain ⟨_, _, rfl⟩ := List.mem_map.mp hx; exact SD.int _ _)
    refine ⟨r, s, q1, q2, q3, q4, ?_⟩
    rw [hb.mpr rfl]
    (conv => whnf)
    refine ⟨((List.range S.n).filter x.testBit).map (fun k => (.tup (bitL T.n (tw k)), tw k)), T.n, T.n, .inl (by rw [List.map_map]; rfl), ?_, Nat.le_refl _, by omega, ?_⟩
    · intro p hp
      obtain ⟨k, _, rfl⟩ := List.mem_map.mp hp; rfl
    intro b hb'
    (conv => whnf); try dsimp only
    rw [MM.upd_same, MM.upd_del hb']
    have eX : (bitL T.n fun j => xg (((List.range S.n).filter x.testBit).map fun k => (D.tup (bitL T.n (tw k)), tw k)) fun p => p.2 j) = bitL T.n fun j => xs S.n fun k => x.testBit k && tw k j := bitL_congr fun j _ => by
      rw [xg_map]; exact (xl_filter x.testBit (fun k => tw k j) _).trans (xl_range _ _)
    rw [eX]
    refine ⟨T, _, fun j => xs S.n fun k => x.testBit k && tw k j, N, rfl, .inl rfl, sT, hN, ?_⟩
    rw [twin_run em (twin_sum htw x.testBit)]
    (conv => whnf); try dsimp only
    rw [ix_nat, rng_at hx]
    (conv => whnf)
    obtain ⟨r', s', q1', q2', q3', q4', hb'⟩ := eqD_ex M' (x := .lst (runL S x.testBit N)) (y := .lst (runL S x.testBit N)) 2 (by decide) (run_sd _ _ _ 0) (run_sd _ _ _ 0)
    refine ⟨r', s', q1', q2', q3', q4', ?_⟩
    rw [hb'.mpr rfl]
    exact ⟨rfl, _, _, _, rfl, rfl⟩
  · rintro ρ M' ⟨rfl, o4, o6, o7, rfl, rfl⟩
    exact fin_ok hp
end BB
end
section
/-! contracts: looks against a run -/
namespace BB
open PySem DL
def c__law_against : CT := fun ds M P => ∃ (S T : Tb) (s y : Nat → Bool) (N : Nat), ds = [.tup (looksL N T.m y), .lst (runL S s N), lawT T, nI N] ∧ Small S ∧ Small T ∧ S.m = T.m ∧ N ≤ 20 ∧
  (∀ i, i < T.n → xs (N * T.m) (fun q => y q && T.look (q / T.m) (q % T.m) i) = false) ∧ xs (N * T.m) (fun q => y q && S.out s (q / T.m) (q % T.m)) = true ∧ P (.bl true) M
theorem l__law_against (ds : List D) (M : MM) (Q : PQ) (h : c__law_against ds M Q) : ds.length = 4 := by
  obtain ⟨_, _, _, _, _, rfl, _⟩ := h; rfl
theorem filter_nil {α : Type} (l : List α) : l.filter (fun _ => false) = [] := List.filter_eq_nil_iff.mpr fun _ _ => Bool.false_ne_true
/-- the sum of the looked-at outs of a run -/
theorem look_sum {l : List Nat} {m N : Nat} (o : Nat → Nat → Bool) (hm : 0 < m) (h : ∀ q, q ∈ l → q < N * m) (slot : Nat) (hs : slot = 1 ∨ slot = 11) {o0 o1 o2 o3 o4 o7 o8 o9 o10 o11 : Option D} {M : MM} {P : List D → MM → Prop}
    (hsl : (slot = 1 ∧ o1 = some (.lst ((List.range N).map fun t => .lst (bitL m (o t))))) ∨ (slot = 11 ∧ o11 = some (.lst ((List.range N).map fun t => .lst (bitL m (o t))))))
    (hp : P (l.map fun q => bN (o (q / m) (q % m))) M) :
    lcI (l.map fun q => D.tup [nI (q % m), nI (q / m)]) (gTp [5, 6]) tYes (mBin bIx (mBin bIx (mVar slot) (mVar 6)) (mVar 5)) [o0, o1, o2, o3, o4, none, none, o7, o8, o9, o10, o11] M P := by
  refine lcI_any (fun q => bN (o (q / m) (q % m))) ?_ hp
  intro q Qt hq ht
  have hqN := h q hq
  have h1 : q / m < N := (Nat.div_lt_iff_lt_mul hm).mpr hqN
  have h2 : q % m < m := Nat.mod_lt _ hm
  rcases hsl with ⟨rfl, rfl⟩ | ⟨rfl, rfl⟩
  · (conv => whnf)
    refine ⟨rfl, ?_⟩
    (conv => whnf); try dsimp only
    rw [ix_nat, rng_at h1]
    (conv => whnf); try dsimp only
    rw [ix_nat, rng_at h2]
    exact ht
  · (conv => whnf)
    refine ⟨rfl, ?_⟩
    (conv => whnf); try dsimp only
    rw [ix_nat, rng_at h1]
    (conv => whnf); try dsimp only
    rw [ix_nat, rng_at h2]
    exact ht
theorem k__law_against : Keeps 12 (b__law_against c__law_bare) c__law_against := by
  rintro ds M P ⟨S, T, s, y, N, rfl, sS, sT, em, hN, hy, hys, hp⟩
  have s1 := sS.n; have t1 := sT.n; have t3 := sT.m
  have hm : 0 < T.m := by
    rcases Nat.eq_zero_or_pos T.m with e | e
    · rw [e, Nat.mul_zero] at hys; cases hys
    · exact e
  have hNm : N * T.m ≤ 60 := Nat.le_trans (Nat.mul_le_mul hN t3) (by decide)
  generalize hl : (List.range (N * T.m)).filter y = l at *
  have hlq : ∀ q, q ∈ l → q < N * T.m := fun q hq => by rw [← hl, List.mem_filter, List.mem_range] at hq; exact hq.1
  have hll : l.length ≤ 60 := by
    have := List.length_filter_le y (List.range (N * T.m))
    rw [hl, List.length_range] at this; omega
  have hpw : l.Pairwise (· < ·) := by rw [← hl]; exact List.pairwise_lt_range.filter _
  have eL : looksL N T.m y = l.map fun q => D.tup [nI (q % T.m), nI (q / T.m)] := by unfold looksL; rw [hl]
  have xlq : ∀ f : Nat → Bool, xg l f = xs (N * T.m) fun q => y q && f q := fun f => by
    rw [← hl]; exact (xl_filter y f _).trans (xl_range _ _)
  rw [eL]
  unfold b__law_against
  (conv => whnf)
  refine lcI_any (fun q => .tup [nI (q / T.m), nI (q % T.m)]) ?_ ?_
  · intro q Qt hq ht
    (conv => whnf)
    refine ⟨rfl, ?_⟩
    (conv => whnf)
    exact ⟨by show 2 ≤ 100000; decide, ht⟩
  (conv => whnf)
  have eO : (l.map fun q => D.tup [nI (q / T.m), nI (q % T.m)]) = (l.map fun q => (((q / T.m : Nat) : Int), ((q % T.m : Nat) : Int))).map pairD := by rw [List.map_map]; rfl
  refine ⟨l.map fun q => (((q / T.m : Nat) : Int), ((q % T.m : Nat) : Int)), by rw [eO], by rw [List.length_map]; omega, ⟨fun p hp => ?_, ?_⟩, ?_⟩
  · obtain ⟨q, hq, rfl⟩ := List.mem_map.mp hp
    have h0 := hlq q hq
    have h1 : q / T.m < N := (Nat.div_lt_iff_lt_mul hm).mpr h0
    have h2 : q % T.m < T.m := Nat.mod_lt _ hm
    have h3 : q / T.m < 64 := by omega
    have h4 : q % T.m < 64 := by omega
    exact ⟨⟨Int.natCast_nonneg _, Int.ofNat_lt.mpr h3⟩, Int.natCast_nonneg _, Int.ofNat_lt.mpr h4⟩
  · rw [List.pairwise_map]
    refine hpw.imp fun {a b} hab => ?_
    dsimp only
    have h1 : a / T.m ≤ b / T.m := Nat.div_le_div_right (Nat.le_of_lt hab)
    rcases Nat.lt_or_ge (a / T.m) (b / T.m) with h | h
    · exact .inl (Int.ofNat_lt.mpr h)
    · refine .inr ?_
      have e : a / T.m = b / T.m := by omega
      have ea := Nat.div_add_mod a T.m
      have eb := Nat.div_add_mod b T.m
      rw [e] at ea
      rw [e]
      exact ⟨rfl, Int.ofNat_lt.mpr (by omega)⟩
  rw [← eO]
  (conv => whnf)
  have sdO : SD 2 (.lst (l.map fun q => D.tup [nI (q / T.m), nI (q % T.m)])) := fun x hx => by
    obtain ⟨q, _, rfl⟩ := List.mem_map.mp hx
    intro z hz
    rcases List.mem_cons.mp hz with rfl | hz
    · exact SD.int 0 _
    · cases List.mem_singleton.mp hz; exact SD.int 0 _
  obtain ⟨r, s', q1, q2, q3, q4, hb⟩ := eqD_ex M 2 (by decide) sdO sdO
  refine ⟨r, s', q1, q2, q3, q4, ?_⟩
  rw [hb.mpr rfl]
  (conv => whnf)
  have cmp : ∀ (a n : Nat), a < n → (!(decide ((0 : Int) ≤ (a : Int) ∧ (a : Int) < (n : Int)))) = false := fun a n h => by
    rw [decide_eq_true ⟨Int.natCast_nonneg _, by omega⟩]; rfl
  refine ⟨fun i acc M' => M' = M ∧ acc = [], ⟨rfl, rfl⟩, ?_, ?_⟩
  · rintro i z acc M' hz ⟨rfl, rfl⟩
    obtain ⟨q, hq, rfl⟩ := map_get hz
    have h0 := hlq q (List.mem_of_getElem? hq)
    have h1 : q / T.m < N := (Nat.div_lt_iff_lt_mul hm).mpr h0
    have h2 : q % T.m < T.m := Nat.mod_lt _ hm
    (conv => whnf); try dsimp only
    rw [cmp _ _ h1]
    (conv => whnf); try dsimp only
    rw [cmp _ _ h2]
    exact ⟨rfl, rfl⟩
  rintro acc M' ⟨rfl, rfl⟩
  (conv => whnf)
  refine ⟨by show 0 ≤ 100000; decide, ?_⟩
  (conv => whnf)
  obtain ⟨r, s', q1, q2, q3, q4, hb⟩ := eqD_ex M' (x := .lst []) (y := .lst []) 1 (by decide) (SD.ints 0 []) (SD.ints 0 [])
  refine ⟨r, s', q1, q2, q3, q4, ?_⟩
  rw [hb.mpr rfl]
  (conv => whnf)
  refine ⟨by rw [rng_len]; omega, ?_⟩
  refine ⟨fun i ρ M2 => M2 = M' ∧ ∃ o7 o8 o9 o10 o11, ρ = [some (.tup (l.map fun q => D.tup [nI (q % T.m), nI (q / T.m)])), some (.lst (runL S s N)), some (lawT T), some (nI N), some (.lst (l.map fun q => D.tup [nI (q / T.m), nI (q % T.m)])), none, none, o7, o8, o9, o10, o11], ⟨rfl, none, none, none, none, none, rfl⟩, ?_, ?_⟩
  · rintro i z ρ M2 hz ⟨rfl, o7, o8, o9, o10, o11, rfl⟩
    obtain ⟨hi, rfl⟩ := rng_get (rangeD_nat _ ▸ hz)
    rw [rng_len] at hi
    (conv => whnf)
    refine ⟨by rw [rng_len]; omega, ?_⟩
    refine lcI_map T.n (fun k => bN (unit i k)) (by rw [rangeD_nat, rng_len, rng_len]) ?_ ?_
    · intro k z Qt hz hk ht
      obtain ⟨_, rfl⟩ := rng_get (rangeD_nat _ ▸ hz)
      (conv => whnf); try dsimp only
      have e : decide ((k : Int) = (i : Int)) = decide (k = i) := decide_eq_decide.mpr (by omega)
      refine eqP ht (congrArg D.int ?_)
      show (if decide ((k : Int) = (i : Int)) = true then (1 : Int) else 0) = (((unit i k).toNat : Nat) : Int)
      rw [e]; unfold unit
      cases decide (k = i) <;> rfl
    (conv => whnf)
    refine ⟨T, _, unit i, N, rfl, .inl rfl, sT, by omega, ?_⟩
    (conv => whnf)
    refine look_sum (T.out (unit i)) hm hlq 11 (.inr rfl) (.inr ⟨rfl, rfl⟩) ?_
    (conv => whnf); try dsimp only
    rw [show (asL M2 (.lst (l.map fun q => bN (T.out (unit i) (q / T.m) (q % T.m))))).bind intsOf = some (l.map fun q => ((T.out (unit i) (q / T.m) (q % T.m)).toNat : Int)) from ints_bitsg (fun q => T.out (unit i) (q / T.m) (q % T.m)) l]
    (conv => whnf); try dsimp only
    rw [sum_parg (fun q => T.out (unit i) (q / T.m) (q % T.m)) l, xlq, xs_congr fun q _ => by rw [out_unit T hi], hy i hi]
    exact ⟨rfl, _, _, _, _, _, rfl⟩
  · rintro ρ M2 ⟨rfl, o7, o8, o9, o10, o11, rfl⟩
    (conv => whnf)
    refine look_sum (S.out s) hm hlq 1 (.inl rfl) (.inl ⟨rfl, by unfold runL; rw [em]⟩) ?_
    (conv => whnf); try dsimp only
    rw [show (asL M2 (.lst (l.map fun q => bN (S.out s (q / T.m) (q % T.m))))).bind intsOf = some (l.map fun q => ((S.out s (q / T.m) (q % T.m)).toNat : Int)) from ints_bitsg (fun q => S.out s (q / T.m) (q % T.m)) l]
    (conv => whnf); try dsimp only
    rw [sum_parg (fun q => S.out s (q / T.m) (q % T.m)) l, xlq, hys]
    exact fin_ok hp
end BB
end
section
/-! contracts: the law -/
namespace BB
open PySem DL
def c__law_pair : CT := fun ds M P => ∃ (p q n : Nat), ds = [.ref p] ∧ Pen M p q n ∧ n ≤ 100 ∧ ∀ (W W' : List Wire) (o o' : List Nat) M', NetOk W o → NetOk W' o' → (insOf W).length = (insOf W').length → o.length = o'.length → P (.tup [netP W o, netP W' o']) M'
theorem l__law_pair (ds : List D) (M : MM) (Q : PQ) (h : c__law_pair ds M Q) : ds.length = 1 := by
  obtain ⟨_, _, _, rfl, _⟩ := h; rfl
def c_law : CT := fun ds M P => ∃ ns : List Int, ds = [.scr ns] ∧ ns.length ≤ 63 ∧ ∀ M', P (.bl true) M'
theorem l_law (ds : List D) (M : MM) (Q : PQ) (h : c_law ds M Q) : ds.length = 1 := by
  obtain ⟨_, rfl, _⟩ := h; rfl
/-- some run of S is no run of T -/
def Lost (S T : Tb) (N : Nat) : Prop := ∃ x, x < 2 ^ S.n ∧ D.lst (runL S x.testBit N) ∉ runsL T N
theorem runL_congr {T : Tb} {N : Nat} {s s' : Nat → Bool} (h : ∀ i, i < T.n → s i = s' i) : runL T s N = runL T s' N :=
  List.map_congr_left fun t _ => congrArg D.lst (bitL_congr fun j _ => out_congr T h t j)
theorem not_lost {S T : Tb} {N : Nat} {tw : Nat → Nat → Bool} (em : S.m = T.m) (h : ∀ k, k < S.n → Twin S T N (unit k) (tw k)) : ¬ Lost S T N := by
  rintro ⟨x, hx, no⟩
  refine no (List.mem_map.mpr ⟨mk T.n fun i => xs S.n fun k => x.testBit k && tw k i, List.mem_range.mpr (mk_lt _ _), ?_⟩)
  refine congrArg D.lst ?_
  rw [← twin_run em (twin_sum h x.testBit)]
  exact runL_congr fun i hi => by rw [tb_mk]; simp only [hi, decide_true, Bool.true_and]
theorem lost_of {S T : Tb} {N at_ : Nat} {y : Nat → Bool} (em : S.m = T.m) (ha : at_ < S.n) (h : Apart S T N (unit at_) y) : Lost S T N := by
  refine ⟨1 <<< at_, by rw [Nat.one_shiftLeft]; exact Nat.pow_lt_pow_right (by decide) ha, fun hmem => ?_⟩
  obtain ⟨x, hx, e⟩ := List.mem_map.mp hmem
  have e1 : runL T x.testBit N = runL S (unit at_) N := (D.lst.inj e).trans (runL_congr fun i _ => by rw [tb_shl_one]; rfl)
  have tw := run_twin em e1
  obtain ⟨h1, h2⟩ := h
  rw [xs_congr (g := fun q => xs T.n fun i => x.testBit i && (y q && T.look (q / T.m) (q % T.m) i)) fun q hq => by
    rw [← tw q hq, out_look, ← xs_andl]
    exact xs_congr fun i _ => by cases y q <;> cases x.testBit i <;> simp] at h2
  rw [xs_swap, xs_zero fun i hi => by rw [xs_andl, h1 i hi, Bool.and_false]] at h2
  cases h2
theorem fd_sd {E : Nat → Nat → Nat → Bool} {N k m : Nat} {d : D} (h : FD E N k m d) : SD 1 d := by
  cases h with
  | non _ => exact SD.non 1
  | som t p j _ _ _ _ _ _ _ =>
    intro x hx
    rcases List.mem_cons.mp hx with rfl | hx
    · exact SD.int 0 _
    rcases List.mem_cons.mp hx with rfl | hx
    · exact SD.int 0 _
    cases List.mem_singleton.mp hx; exact SD.int 0 _
/-- the law behind from_all -/
def law_rest3 (c__law_against c__law_bare c__law_twins : CT) : ST := (sSeq (sIf (tVal (mBin (bEqD false) (mVar 9) (mLst aNil))) (sSeq (sIf (tOr (tVal (mUn (uIsN true) (mFld 1004 "side" (mVar 5)))) (tOr (tVal (mUn (uIsN true) (mFld 1004 "looks" (mVar 5)))) (tVal (mUn (uIsN true) (mFld 1004 "state" (mVar 5)))))) (sRet (mC (.bl false))) sNx)
  (sSeq (sIf (tNot (tVal (mCall c__law_twins [] (aCons (mFld 1004 "there" (mVar 5)) (aCons (mBin bIx (mVar 8) (mC (.int 0))) (aCons (mBin bIx (mVar 4) (mC (.int 1))) (aCons (mVar 7) aNil))))))) (sRet (mC (.bl false))) sNx)
  (sRet (mCall c__law_twins [] (aCons (mFld 1004 "back" (mVar 5)) (aCons (mBin bIx (mVar 8) (mC (.int 1))) (aCons (mBin bIx (mVar 4) (mC (.int 0))) (aCons (mVar 7) aNil)))))))) sNx)
  (sSeq (sIf (tOr (tVal (mBin (bEqS true) (mFld 1004 "side" (mVar 5)) (mBin bIx (mVar 9) (mC (.int 0))))) (tOr (tVal (mUn (uIsN true) (mFld 1004 "there" (mVar 5)))) (tVal (mUn (uIsN true) (mFld 1004 "back" (mVar 5)))))) (sRet (mC (.bl false))) sNx)
  (sSeq (sSet (mFld 1004 "state" (mVar 5)) (gNm 12))
  (sSeq (sIf (tOr (tNot (tVal (mCB fIsTup (aCons (mVar 12) aNil)))) (tVal (mBin (bEqS true) (mCB fLen (aCons (mVar 12) aNil)) (mCB fLen (aCons (mBin bIx (mBin bIx (mVar 4) (mBin bIx (mVar 9) (mC (.int 0)))) (mC (.int 0))) aNil))))) (sRet (mC (.bl false))) sNx)
  (sSeq (sSet (mCall c__law_bare [] (aCons (mBin bIx (mVar 4) (mBin bIx (mVar 9) (mC (.int 0)))) (aCons (mVar 12) (aCons (mVar 7) aNil)))) (gNm 11))
  (sRet (mCall c__law_against [] (aCons (mFld 1004 "looks" (mVar 5)) (aCons (mVar 11) (aCons (mBin bIx (mVar 4) (mBin bSub (mC (.int 1)) (mBin bIx (mVar 9) (mC (.int 0))))) (aCons (mVar 7) aNil)))))))))))
def law_rest2 (c__law_against c__law_bare c__law_twins c__law_runs : CT) : ST := (sSeq (sSet (mBin bAdd (mCB fLen (aCons (mBin bIx (mBin bIx (mVar 4) (mC (.int 0))) (mC (.int 0))) aNil)) (mCB fLen (aCons (mBin bIx (mBin bIx (mVar 4) (mC (.int 1))) (mC (.int 0))) aNil))) (gNm 7))
  (sSeq (sSet (mLst (aCons (mCall c__law_runs [] (aCons (mBin bIx (mVar 4) (mC (.int 0))) (aCons (mVar 7) aNil))) (aCons (mCall c__law_runs [] (aCons (mBin bIx (mVar 4) (mC (.int 1))) (aCons (mVar 7) aNil))) aNil))) (gNm 8))
  (sSeq (sSet (mLc (iRange (mC (.int 2))) (gNm 10) [10] (tVal (mBin (bEqD true) (mLc (iSeq (mBin bIx (mVar 8) (mVar 10))) (gNm 11) [11] (tVal (mBin (bInD true) (mVar 11) (mBin bIx (mVar 8) (mBin bSub (mC (.int 1)) (mVar 10))))) (mVar 11)) (mLst aNil))) (mVar 10)) (gNm 9))
  (law_rest3 c__law_against c__law_bare c__law_twins))))
def law_rest (c__law_against c__law_bare c__law_twins c__law_runs c__law_difference : CT) : ST := (sSeq (sSet (mCall c__law_difference [] (aCons (mBin bIx (mVar 4) (mC (.int 0))) (aCons (mBin bIx (mVar 4) (mC (.int 1))) aNil))) (gNm 6))
  (sSeq (sIf (tVal (mBin (bEqD true) (mFld 1004 "difference" (mVar 5)) (mVar 6))) (sRet (mC (.bl false))) sNx)
  (sSeq (sIf (tVal (mUn (uIsN true) (mVar 6))) (sRet (mAndV (mBin (bEqD false) (mLst (aCons (mFld 1004 "there" (mVar 5)) (aCons (mFld 1004 "back" (mVar 5)) (aCons (mFld 1004 "side" (mVar 5)) (aCons (mFld 1004 "looks" (mVar 5)) aNil))))) (mBin bRep (mLst (aCons (mC .non) aNil)) (mC (.int 4)))) (mUn (uIsN false) (mFld 1004 "state" (mVar 5))))) sNx)
  (law_rest2 c__law_against c__law_bare c__law_twins c__law_runs))))
/-- what from_all told -/
inductive Told (S T : Tb) : D → Prop
  | dif (d : D) : FD (XE S T) (S.n + T.n) S.k S.m d → d ≠ .non → Told S T (fromD .non .non d .non .non .non)
  | same (tw tw' : Nat → Nat → Bool) : FD (XE S T) (S.n + T.n) S.k S.m .non → Twins S T tw → Twins T S tw' → Told S T (fromD (twL S T tw) (twL T S tw') .non .non .non .non)
  | one (at_ : Nat) (y : Nat → Bool) : FD (XE S T) (S.n + T.n) S.k S.m .non → at_ < S.n → Apart S T (S.n + T.n) (unit at_) y → Told S T (fromD .non .non .non (nI 0) (.tup (bitL S.n (unit at_))) (.tup (looksL (S.n + T.n) T.m y)))
  | two (tw : Nat → Nat → Bool) (at_ : Nat) (y : Nat → Bool) : FD (XE S T) (S.n + T.n) S.k S.m .non → Twins S T tw → at_ < T.n → Apart T S (T.n + S.n) (unit at_) y → Told S T (fromD .non .non .non (nI 1) (.tup (bitL T.n (unit at_))) (.tup (looksL (T.n + S.n) S.m y)))
open Classical in
theorem lost_step {S T : Tb} (sS : Small S) (sT : Small T) (s1 : S.n ≤ 5) (t1 : T.n ≤ 5) {told : D} {o0 o1 o2 o3 : Option D} {M : MM} {P : PQ}
    (h : law_rest3 c__law_against c__law_bare c__law_twins (finD P) [o0, o1, o2, o3, some (.lst [lawT S, lawT T]), some told, some .non, some (nI (S.n + T.n)), some (.lst [.lst (runsL S (S.n + T.n)), .lst (runsL T (S.n + T.n))]),
      some (.lst (((List.range 2).filter fun i => if i = 0 then decide (Lost S T (S.n + T.n)) else decide (Lost T S (S.n + T.n))).map nI)), none, none, none] M) :
    law_rest2 c__law_against c__law_bare c__law_twins c__law_runs (finD P) [o0, o1, o2, o3, some (.lst [lawT S, lawT T]), some told, some .non, none, none, none, none, none, none] M := by
  have eN : ((gridL S.n S.n S.a).length : Int) + ((gridL T.n T.n T.a).length : Int) = ((S.n + T.n : Nat) : Int) := by
    rw [rng_len, rng_len]; omega
  unfold law_rest2
  (conv => whnf)
  refine ⟨S, S.n + T.n, congrArg (fun z : Int => [lawT S, D.int z]) eN, sS, by omega, ?_⟩
  (conv => whnf)
  refine ⟨T, S.n + T.n, congrArg (fun z : Int => [lawT T, D.int z]) eN, sT, by omega, ?_⟩
  (conv => whnf)
  refine ⟨by show 2 ≤ 100000; decide, ?_⟩
  (conv => whnf)
  refine ⟨by decide, ?_⟩
  have side : ∀ (A B : Tb) (Q : List D → MM → Prop) (ρ : DL.Env) (i10 : Option D) (o7 : Option D) (told : D) (ri rj : D) (i : Nat), L2.atI [D.lst (runsL S (S.n + T.n)), .lst (runsL T (S.n + T.n))] (1 - (i : Int)) = some (.lst (runsL B (S.n + T.n))) →
      Q (((List.range (2 ^ A.n)).filter fun x => decide (D.lst (runL A x.testBit (S.n + T.n)) ∉ runsL B (S.n + T.n))).map fun x => D.lst (runL A x.testBit (S.n + T.n))) M →
      lcI (runsL A (S.n + T.n)) (gNm 11) (tVal (mBin (bInD true) (mVar 11) (mBin bIx (mVar 8) (mBin bSub (mC (.int 1)) (mVar 10))))) (mVar 11) [o0, o1, o2, o3, some (.lst [lawT S, lawT T]), some told, some .non, o7, some (.lst [.lst (runsL S (S.n + T.n)), .lst (runsL T (S.n + T.n))]), none, some (nI i), none, none] M Q := by
    intro A B Q ρ i10 o7 told ri rj i hix hQ
    refine lcI_fil (2 ^ A.n) (fun x => decide (D.lst (runL A x.testBit (S.n + T.n)) ∉ runsL B (S.n + T.n))) (fun x => D.lst (runL A x.testBit (S.n + T.n))) (rng_len _ _) ?_ hQ
    intro x y Qt Qf hy ht hf
    obtain ⟨hx, rfl⟩ := rng_get hy
    (conv => whnf); try dsimp only
    rw [hix]
    (conv => whnf)
    obtain ⟨p, qs, q1, q2, q3, q4, hb⟩ := inD_ex M (x := .lst (runL A x.testBit (S.n + T.n))) (ys := runsL B (S.n + T.n)) 2 (by decide) (run_sd _ _ _ 0) (fun y hy => by obtain ⟨_, _, rfl⟩ := List.mem_map.mp hy; exact run_sd _ _ _ 0)
    refine ⟨p, qs, q1, q2, q3, q4, ?_⟩
    cases e : qs.any fun z => PyData.eqv z p with
    | true =>
      exact hf (decide_eq_false fun no => no (hb.mp e))
    | false =>
      exact ht (decide_eq_true fun yes => by rw [hb.mpr yes] at e; cases e)
  have lostn : ∀ A B : Tb, (((List.range (2 ^ A.n)).filter fun x => decide (D.lst (runL A x.testBit (S.n + T.n)) ∉ runsL B (S.n + T.n))).map fun x => D.lst (runL A x.testBit (S.n + T.n))) = [] ↔ ¬ Lost A B (S.n + T.n) := fun A B => by
    rw [List.map_eq_nil_iff, List.filter_eq_nil_iff]
    constructor
    · rintro h ⟨x, hx, no⟩; exact h x (List.mem_range.mpr hx) (decide_eq_true no)
    · intro h x hx no; exact h ⟨x, List.mem_range.mp hx, of_decide_eq_true no⟩
  have sdr : ∀ A B : Tb, SD 3 (.lst (((List.range (2 ^ A.n)).filter fun x => decide (D.lst (runL A x.testBit (S.n + T.n)) ∉ runsL B (S.n + T.n))).map fun x => D.lst (runL A x.testBit (S.n + T.n)))) := fun A B x hx => by
    obtain ⟨_, _, rfl⟩ := List.mem_map.mp hx; exact run_sd _ _ _ 0
  refine lcI_fil 2 (fun i => if i = 0 then decide (Lost S T (S.n + T.n)) else decide (Lost T S (S.n + T.n))) nI rfl ?_ ?_
  · intro i y Qt Qf hy ht hf
    obtain ⟨hi, rfl⟩ := rng_get (f := nI) (n := 2) hy
    rcases i with _ | _ | i
    · (conv => whnf)
      refine side S T _ [] none _ _ .non .non 0 rfl ?_
      (conv => whnf)
      refine ⟨by show 0 ≤ 100000; decide, ?_⟩
      (conv => whnf)
      obtain ⟨p, q, q1, q2, q3, q4, hb⟩ := eqD_ex M 3 (by decide) (sdr S T) (SD.ints 2 [])
      refine ⟨p, q, q1, q2, q3, q4, ?_⟩
      cases e : PyData.eqv p q with
      | true =>
        have := (lostn S T).mp (D.lst.inj (hb.mp e))
        exact hf (by simp [this])
      | false =>
        have : Lost S T (S.n + T.n) := Classical.byContradiction fun no => by
          rw [hb.mpr (congrArg D.lst ((lostn S T).mpr no))] at e; cases e
        exact ht (by simp [this])
    · (conv => whnf)
      refine side T S _ [] none _ _ .non .non 1 rfl ?_
      (conv => whnf)
      refine ⟨by show 0 ≤ 100000; decide, ?_⟩
      (conv => whnf)
      obtain ⟨p, q, q1, q2, q3, q4, hb⟩ := eqD_ex M 3 (by decide) (sdr T S) (SD.ints 2 [])
      refine ⟨p, q, q1, q2, q3, q4, ?_⟩
      cases e : PyData.eqv p q with
      | true =>
        have := (lostn T S).mp (D.lst.inj (hb.mp e))
        exact hf (by simp [this])
      | false =>
        have : Lost T S (S.n + T.n) := Classical.byContradiction fun no => by
          rw [hb.mpr (congrArg D.lst ((lostn T S).mpr no))] at e; cases e
        exact ht (by simp [this])
    · omega
  · have e7 : nI (S.n + T.n) = D.int (((gridL S.n S.n S.a).length : Int) + ((gridL T.n T.n T.a).length : Int)) := congrArg D.int eN.symm
    rw [e7] at h
    exact h
open Classical in
theorem rest_ok {S T : Tb} (sS : Small S) (sT : Small T) (s1 : S.n ≤ 5) (t1 : T.n ≤ 5) (ek : S.k = T.k) (em : S.m = T.m) {told o0 o1 o2 o3 : D} {M : MM} {P : PQ} (ht : Told S T told) (hP : ∀ M', P (.bl true) M') :
    law_rest c__law_against c__law_bare c__law_twins c__law_runs c__law_difference (finD P) [some o0, some o1, some o2, some o3, some (.lst [lawT S, lawT T]), some told, none, none, none, none, none, none, none] M := by
  have b1 : 2 ^ S.n ≤ 32 := Nat.le_trans (Nat.pow_le_pow_right (by decide) s1) (by decide)
  have b2 : 2 ^ T.n ≤ 32 := Nat.le_trans (Nat.pow_le_pow_right (by decide) t1) (by decide)
  unfold law_rest
  (conv => whnf)
  refine ⟨S, T, rfl, sS, sT, ek, em, ?_⟩
  intro d' hd'
  cases ht with
  | dif d hd hne =>
    have : d' = d := hd'.one hd
    subst this
    (conv => whnf)
    obtain ⟨r, s, q1, q2, q3, q4, hb⟩ := eqD_ex M 1 (by decide) (fd_sd hd) (fd_sd hd)
    refine ⟨r, s, q1, q2, q3, q4, ?_⟩
    rw [hb.mpr rfl]
    cases hd with
    | non _ => exact absurd rfl hne
    | som t p j _ _ _ _ _ _ _ =>
      (conv => whnf)
      refine ⟨by show 4 ≤ 100000; decide, ?_⟩
      (conv => whnf)
      refine ⟨by show 1 ≤ 100000; decide, ?_⟩
      (conv => whnf)
      refine ⟨by decide, by decide, by decide, ?_⟩
      (conv => whnf)
      have sd4 : SD 1 (.lst [D.non, .non, .non, .non]) := fun x hx => by
        rcases List.mem_cons.mp hx with rfl | hx
        · exact SD.non 0
        rcases List.mem_cons.mp hx with rfl | hx
        · exact SD.non 0
        rcases List.mem_cons.mp hx with rfl | hx
        · exact SD.non 0
        cases List.mem_singleton.mp hx; exact SD.non 0
      obtain ⟨r, s, q1, q2, q3, q4, hb⟩ := eqD_ex M 1 (by decide) sd4 sd4
      refine ⟨r, s, q1, q2, q3, q4, ?_⟩
      rw [hb.mpr rfl]
      exact fin_ok (hP _)
  | same tw tw' hd h1 h2 =>
    have : d' = .non := hd'.one hd
    subst this
    (conv => whnf)
    obtain ⟨r, s, q1, q2, q3, q4, hb⟩ := eqD_ex M 1 (by decide) (SD.non 1) (SD.non 1)
    refine ⟨r, s, q1, q2, q3, q4, ?_⟩
    rw [hb.mpr rfl]
    refine lost_step sS sT s1 t1 ?_
    have h2' : ∀ k, k < T.n → Twin T S (S.n + T.n) (unit k) (tw' k) := fun k hk => by rw [Nat.add_comm]; exact h2 k hk
    have n1 : ¬ Lost S T (S.n + T.n) := not_lost em h1
    have n2 : ¬ Lost T S (S.n + T.n) := not_lost em.symm h2'
    have e : ((List.range 2).filter fun i => if i = 0 then decide (Lost S T (S.n + T.n)) else decide (Lost T S (S.n + T.n))) = [] := by
      rw [List.filter_eq_nil_iff]; intro i _; simp [n1, n2]
    rw [e]
    unfold law_rest3
    (conv => whnf)
    refine ⟨by show 0 ≤ 100000; decide, ?_⟩
    (conv => whnf)
    obtain ⟨r, s, q1, q2, q3, q4, hb⟩ := eqD_ex M 1 (by decide) (SD.ints 0 []) (SD.ints 0 [])
    refine ⟨r, s, q1, q2, q3, q4, ?_⟩
    rw [hb.mpr rfl]
    (conv => whnf)
    refine ⟨S, T, tw, S.n + T.n, rfl, sS, sT, em, by omega, h1, ?_⟩
    (conv => whnf)
    exact ⟨T, S, tw', S.n + T.n, rfl, sT, sS, em.symm, by omega, h2', fin_ok (hP _)⟩
  | one at_ y hd ha hy =>
    have : d' = .non := hd'.one hd
    subst this
    (conv => whnf)
    obtain ⟨r, s, q1, q2, q3, q4, hb⟩ := eqD_ex M 1 (by decide) (SD.non 1) (SD.non 1)
    refine ⟨r, s, q1, q2, q3, q4, ?_⟩
    rw [hb.mpr rfl]
    refine lost_step sS sT s1 t1 ?_
    have n1 : Lost S T (S.n + T.n) := lost_of em ha hy
    obtain ⟨tl, e⟩ : ∃ tl, ((List.range 2).filter fun i => if i = 0 then decide (Lost S T (S.n + T.n)) else decide (Lost T S (S.n + T.n))) = 0 :: tl := by
      refine ⟨[1].filter fun i => if i = 0 then decide (Lost S T (S.n + T.n)) else decide (Lost T S (S.n + T.n)), ?_⟩
      show ([0, 1] : List Nat).filter _ = _
      rw [List.filter_cons]; simp [n1]
    rw [e]
    unfold law_rest3
    (conv => whnf)
    refine ⟨by show 0 ≤ 100000; decide, ?_⟩
    (conv => whnf)
    obtain ⟨r, s, q1, q2, q3, q4, hb⟩ := eqD_ex M 1 (by decide) (SD.ints 0 (0 :: tl)) (SD.ints 0 [])
    refine ⟨r, s, q1, q2, q3, q4, ?_⟩
    have eb : PyData.eqv r s = false := by
      cases q : PyData.eqv r s with
      | false => rfl
      | true => have := D.lst.inj (hb.mp q); cases this
    rw [eb]
    (conv => whnf)
    rw [List.map_cons, at_zero]
    (conv => whnf)
    rw [at_zero]
    have el : decide (((bitL S.n (unit at_)).length : Int) = ((gridL S.n S.n S.a).length : Int)) = true := decide_eq_true (by rw [rng_len, rng_len])
    (conv => whnf); try dsimp only
    rw [el]
    (conv => whnf)
    rw [at_zero]
    (conv => whnf)
    refine ⟨S, _, unit at_, S.n + T.n, rfl, .inr rfl, sS, by omega, ?_⟩
    (conv => whnf)
    rw [at_zero]
    (conv => whnf)
    exact ⟨S, T, unit at_, y, S.n + T.n, rfl, sS, sT, em, by omega, hy.1, hy.2, fin_ok (hP _)⟩
  | two tw at_ y hd h1 ha hy =>
    have : d' = .non := hd'.one hd
    subst this
    (conv => whnf)
    obtain ⟨r, s, q1, q2, q3, q4, hb⟩ := eqD_ex M 1 (by decide) (SD.non 1) (SD.non 1)
    refine ⟨r, s, q1, q2, q3, q4, ?_⟩
    rw [hb.mpr rfl]
    refine lost_step sS sT s1 t1 ?_
    rw [Nat.add_comm T.n S.n] at hy
    rw [Nat.add_comm T.n S.n]
    have n1 : ¬ Lost S T (S.n + T.n) := not_lost em h1
    have n2 : Lost T S (S.n + T.n) := lost_of em.symm ha hy
    have e : ((List.range 2).filter fun i => if i = 0 then decide (Lost S T (S.n + T.n)) else decide (Lost T S (S.n + T.n))) = [1] := by
      show ([0, 1] : List Nat).filter _ = _
      rw [List.filter_cons]; simp [n1, n2]
    rw [e]
    unfold law_rest3
    (conv => whnf)
    refine ⟨by show 0 ≤ 100000; decide, ?_⟩
    (conv => whnf)
    obtain ⟨r, s, q1, q2, q3, q4, hb⟩ := eqD_ex M 1 (by decide) (SD.ints 0 [1]) (SD.ints 0 [])
    refine ⟨r, s, q1, q2, q3, q4, ?_⟩
    have eb : PyData.eqv r s = false := by
      cases q : PyData.eqv r s with
      | false => rfl
      | true => have := D.lst.inj (hb.mp q); cases this
    rw [eb]
    have el : decide (((bitL T.n (unit at_)).length : Int) = ((gridL T.n T.n T.a).length : Int)) = true := decide_eq_true (by rw [rng_len, rng_len])
    (conv => whnf); try dsimp only
    rw [el]
    (conv => whnf)
    refine ⟨T, _, unit at_, S.n + T.n, rfl, .inr rfl, sT, by omega, ?_⟩
    (conv => whnf)
    exact ⟨T, S, unit at_, y, S.n + T.n, rfl, sT, sS, em.symm, by omega, hy.1, hy.2, fin_ok (hP _)⟩
theorem k_law : Keeps 13 (b_law c__law_against c__law_bare c__law_twins c__law_runs c__law_difference c_from_all c_Net___init__ c__law_tables c__law_pair) c_law := by
  rintro ds M P ⟨ns, rfl, hn, hP⟩
  unfold b_law
  (conv => whnf)
  intro a ha
  have go : ∀ (b c : Nat) (ms : List Int) (M1 : MM), M1 b = some (.lst (ms.map D.int)) → 0 < ms.length → ms.length ≤ 63 → M1 c = none → Pen (M1.upd c (.lst [.ref b, .int 0])) c b 0 := fun b c ms M1 h1 h2 h3 h4 =>
    have hne : b ≠ c := fun e => by rw [e, h4] at h1; cases h1
    ⟨hne.symm, ms, 0, MM.upd_same, by rw [MM.upd_ne hne]; exact h1, h2, h3, Nat.le_refl _⟩
  have rest : ∀ (c b : Nat) (M2 : MM), Pen M2 c b 0 → (sSeq (sSet (mCall c__law_pair [] (aCons (mVar 1) aNil)) (gTp [2, 3]))
      (sSeq (sSet (mLst (aCons (mCall c__law_tables [] (aCons (mBin bIx (mVar 2) (mC (.int 0))) (aCons (mBin bIx (mVar 2) (mC (.int 1))) aNil))) (aCons (mCall c__law_tables [] (aCons (mBin bIx (mVar 3) (mC (.int 0))) (aCons (mBin bIx (mVar 3) (mC (.int 1))) aNil))) aNil))) (gNm 4))
      (sSeq (sSet (mCall c_from_all [] (aCons (mMake 952 c_Net___init__ [] (aCons (mBin bIx (mVar 2) (mC (.int 0))) (aCons (mBin bIx (mVar 2) (mC (.int 1))) aNil))) (aCons (mMake 952 c_Net___init__ [] (aCons (mBin bIx (mVar 3) (mC (.int 0))) (aCons (mBin bIx (mVar 3) (mC (.int 1))) aNil))) aNil))) (gNm 5))
      (law_rest c__law_against c__law_bare c__law_twins c__law_runs c__law_difference)))) (finD P) [some (.scr ns), some (.ref c), none, none, none, none, none, none, none, none, none, none, none] M2 := by
    intro c b M2 pen
    (conv => whnf)
    refine ⟨c, b, 0, rfl, pen, by omega, ?_⟩
    intro W W' o o' M3 ok ok' e1 e2
    (conv => whnf)
    refine ⟨rfl, ?_⟩
    (conv => whnf)
    refine ⟨W, o, rfl, ok, ?_⟩
    (conv => whnf)
    refine ⟨W', o', rfl, ok', ?_⟩
    (conv => whnf)
    refine ⟨by show 2 ≤ 100000; decide, ?_⟩
    (conv => whnf)
    intro p hp
    (conv => whnf)
    refine ⟨p, W, o, rfl, ok, MM.upd_same, ?_⟩
    intro fnd sol
    (conv => whnf); try dsimp only
    rw [MM.upd_same, MM.upd_upd, MM.upd_del hp]
    (conv => whnf)
    intro p' hp'
    (conv => whnf)
    refine ⟨p', W', o', rfl, ok', MM.upd_same, ?_⟩
    intro fnd' sol'
    (conv => whnf); try dsimp only
    rw [MM.upd_same, MM.upd_upd, MM.upd_del hp']
    (conv => whnf)
    have fin : ∀ told, Told (tabOf W o) (tabOf W' o') told → law_rest c__law_against c__law_bare c__law_twins c__law_runs c__law_difference (finD P) [some (.scr ns), some (.ref c), some (netP W o), some (netP W' o'), some (.lst [lawT (tabOf W o), lawT (tabOf W' o')]), some told, none, none, none, none, none, none, none] M3 := fun told ht =>
      rest_ok (tabOf_small ok) (tabOf_small ok') ok.cells ok'.cells e1 e2 ht hP
    refine ⟨W, W', o, o', fnd, fnd', tabOf W o, tabOf W' o', rfl, ok, ok', sol, sol', e1, e2, rfl, rfl, fun d hd hne => fin _ (.dif d hd hne), fun hd => ⟨fun tw tw' a b => fin _ (.same tw tw' hd a b), fun at_ y a b => fin _ (.one at_ y hd a b), fun tw at_ y a b c => fin _ (.two tw at_ y hd a b c)⟩⟩
  (conv => whnf); try dsimp only
  rw [show asL (M.upd a (.lst (ns.map D.int))) (.ref a) = some (ns.map D.int) from as_ref MM.upd_same]
  cases ns with
  | nil =>
    (conv => whnf)
    refine ⟨by show 1 ≤ 100000; decide, ?_⟩
    intro b hb
    (conv => whnf)
    refine ⟨by show 2 ≤ 100000; decide, ?_⟩
    intro c hc
    exact rest c b _ (go b c [0] _ MM.upd_same (by decide) (by decide) hc)
  | cons x xs =>
    (conv => whnf)
    refine ⟨by show 2 ≤ 100000; decide, ?_⟩
    intro c hc
    exact rest c a _ (go a c (x :: xs) _ MM.upd_same (by simp) hn hc)
end BB
end
section
/-! contracts: rings and companions -/
namespace BB
open PySem DL
theorem noflip_lt {W : List Wire} (h : ∀ (v : Nat) (l : List Nat), W[v]? = some (Wire.sum l) → ∀ x, x ∈ l → x < v) : NoFlip W :=
  noflip_cut (W := W) fun v hv x hx _ => h v _ (isSum_at hv) x hx
def c__law_times : CT := fun ds M P => ∃ a b : Nat, ds = [nI a, nI b] ∧ a < 2 ^ 60 ∧ b < 2 ^ 60 ∧ ∀ r : Int, P (.int r) M
theorem l__law_times (ds : List D) (M : MM) (Q : PQ) (h : c__law_times ds M Q) : ds.length = 2 := by
  obtain ⟨_, _, rfl, _⟩ := h; rfl
theorem k__law_times : Keeps 4 b__law_times c__law_times := by
  rintro ds M P ⟨a, b, rfl, ha, hb, hp⟩
  have hbl := bits_lt hb
  unfold b__law_times
  (conv => whnf)
  refine ⟨by omega, ?_⟩
  refine ⟨fun i ρ M' => M' = M ∧ ∃ (r : Int) (o : Option D), ρ = [some (nI a), some (nI b), some (.int r), o], ⟨rfl, 0, none, rfl⟩, ?_, ?_⟩
  · rintro i y ρ M' hy ⟨rfl, r, o, rfl⟩
    obtain ⟨hi, rfl⟩ := rng_get (rangeD_nat _ ▸ hy)
    (conv => whnf)
    refine ⟨⟨Int.natCast_nonneg _, by show (i : Int) ≤ _; omega, by rw [Int.natAbs_natCast]; exact Nat.lt_of_lt_of_le ha (by decide)⟩, ?_⟩
    (conv => whnf)
    refine ⟨Int.natCast_nonneg _, ?_⟩
    (conv => whnf)
    refine ⟨.inr ?_, ?_⟩
    · show -(2 ^ 64) < Builtin.bitAnd ((b : Int) / (2 : Int) ^ ((i : Int)).toNat) 1 ∧ Builtin.bitAnd ((b : Int) / (2 : Int) ^ ((i : Int)).toNat) 1 < 2 ^ 64
      rw [i_bit]; cases b.testBit i <;> decide
    exact ⟨rfl, _, _, rfl⟩
  · rintro ρ M' ⟨rfl, r, o, rfl⟩
    exact fin_ok (hp r)
theorem bit_dec (x k : Nat) : decide (Builtin.bitAnd ((x : Int) / (2 : Int) ^ ((k : Int)).toNat) 1 = 1) = x.testBit k := by
  rw [i_bit]; exact one_eq _
theorem rangeD2_one (n : Nat) : rangeD2 1 ((n : Int) + 1) = (List.range n).map fun i => nI (i + 1) := by
  unfold rangeD2
  rw [show ((n : Int) + 1 - 1).toNat = n by omega]
  exact List.map_congr_left fun i _ => congrArg D.int (by omega)
/-- the numbers from 1 to n that a number's bits pick -/
abbrev taps (b n : Nat) : List Nat := ((List.range n).filter fun i => b.testBit (i + 1)).map (· + 1)
theorem mem_taps {b n x : Nat} (h : x ∈ taps b n) : 1 ≤ x ∧ x ≤ n := by
  obtain ⟨i, hi, rfl⟩ := List.mem_map.mp h
  have := List.mem_range.mp (List.mem_filter.mp hi).1
  omega
theorem taps_len (b n : Nat) : (taps b n).length ≤ n := by
  rw [List.length_map]
  have := List.length_filter_le (fun i => b.testBit (i + 1)) (List.range n)
  rwa [List.length_range] at this
def c__law_ring : CT := fun ds M P => ∃ a b n : Nat, ds = [nI a, nI b, nI n] ∧ (n = 1 ∨ n = 2) ∧ ∀ W o, NetOk W o → (insOf W).length = 1 → o.length = 1 → P (netP W o) M
theorem l__law_ring (ds : List D) (M : MM) (Q : PQ) (h : c__law_ring ds M Q) : ds.length = 3 := by
  obtain ⟨_, _, _, rfl, _⟩ := h; rfl
abbrev ringC (n k : Nat) : Nat := if k = 0 then n + 1 else k
theorem ring_at (n k : Nat) : L2.atI [nI k, D.int ((n : Int) + 1)] (if (if false = true then !decide ((k : Int) = 0) else decide ((k : Int) = 0)) = true then (1 : Int) else 0) = some (nI (ringC n k)) := by
  by_cases h : k = 0
  · subst h; rfl
  · have : decide ((k : Int) = 0) = false := decide_eq_false (by omega)
    rw [this]
    show L2.atI [nI k, D.int ((n : Int) + 1)] 0 = some (nI (if k = 0 then n + 1 else k))
    rw [at_zero, if_neg h]
theorem ring_ok {n : Nat} (hn : n = 1 ∨ n = 2) (ts ss : List Nat) (ht : ∀ x, x ∈ ts → 1 ≤ x ∧ x ≤ n) (hs : ∀ x, x ∈ ss → x ≤ n + 1) (lt : ts.length ≤ 10) (ls : ss.length ≤ 10) :
    let W := [Wire.inp] ++ (List.range n).map (fun k => Wire.cell (ringC n k) 0) ++ [.sum (0 :: ts)] ++ [.sum ss]
    NetOk W [n + 2] ∧ (insOf W).length = 1 := by
  intro W
  have hW : (n = 1 ∧ W = [.inp, .cell 2 0, .sum (0 :: ts), .sum ss]) ∨ (n = 2 ∧ W = [.inp, .cell 3 0, .cell 1 0, .sum (0 :: ts), .sum ss]) := by
    rcases hn with rfl | rfl
    · exact .inl ⟨rfl, rfl⟩
    · exact .inr ⟨rfl, rfl⟩
  clear_value W
  rcases hW with ⟨rfl, rfl⟩ | ⟨rfl, rfl⟩
  · refine ⟨⟨⟨?_, ?_, by show 4 ≤ 16; decide, ?_⟩, ?_, ?_, ?_, by show 1 ≤ 3; decide⟩, by rw [ins_len_of]; rfl⟩
    · intro w hw x hx
      show x < 4
      simp only [List.mem_cons, List.mem_nil_iff, or_false] at hw
      rcases hw with rfl | rfl | rfl | rfl
      · cases hx
      · cases List.mem_singleton.mp hx; omega
      · rcases List.mem_cons.mp hx with rfl | hx
        · omega
        · have := ht x hx; omega
      · have := hs x hx; omega
    · intro s b hw
      simp only [List.mem_cons, List.mem_nil_iff, or_false] at hw
      rcases hw with h | h | h | h <;> cases h; omega
    · intro l hw
      simp only [List.mem_cons, List.mem_nil_iff, or_false] at hw
      rcases hw with h | h | h | h <;> cases h
      · rw [List.length_cons]; omega
      · omega
    · refine noflip_lt fun v l hv x hx => ?_
      rcases v with _ | _ | _ | _ | v
      · cases hv
      · cases hv
      · cases hv
        rcases List.mem_cons.mp hx with rfl | hx
        · omega
        · have := ht x hx; omega
      · cases hv; have := hs x hx; omega
      · exact absurd hv (by simp)
    · intro o ho; cases List.mem_singleton.mp ho; show 3 < 4; omega
    · rw [cells_len_of]; show 1 ≤ 5; decide
  · refine ⟨⟨⟨?_, ?_, by show 5 ≤ 16; decide, ?_⟩, ?_, ?_, ?_, by show 1 ≤ 3; decide⟩, by rw [ins_len_of]; rfl⟩
    · intro w hw x hx
      show x < 5
      simp only [List.mem_cons, List.mem_nil_iff, or_false] at hw
      rcases hw with rfl | rfl | rfl | rfl | rfl
      · cases hx
      · cases List.mem_singleton.mp hx; omega
      · cases List.mem_singleton.mp hx; omega
      · rcases List.mem_cons.mp hx with rfl | hx
        · omega
        · have := ht x hx; omega
      · have := hs x hx; omega
    · intro s b hw
      simp only [List.mem_cons, List.mem_nil_iff, or_false] at hw
      rcases hw with h | h | h | h | h <;> cases h <;> omega
    · intro l hw
      simp only [List.mem_cons, List.mem_nil_iff, or_false] at hw
      rcases hw with h | h | h | h | h <;> cases h
      · rw [List.length_cons]; omega
      · omega
    · refine noflip_lt fun v l hv x hx => ?_
      rcases v with _ | _ | _ | _ | _ | v
      · cases hv
      · cases hv
      · cases hv
      · cases hv
        rcases List.mem_cons.mp hx with rfl | hx
        · omega
        · have := ht x hx; omega
      · cases hv; have := hs x hx; omega
      · exact absurd hv (by simp)
    · intro o ho; cases List.mem_singleton.mp ho; show 4 < 5; omega
    · rw [cells_len_of]; show 2 ≤ 5; decide
theorem k__law_ring : Keeps 7 b__law_ring c__law_ring := by
  rintro ds M P ⟨a, b, n, rfl, hn, hp⟩
  have hn2 : n ≤ 2 := by omega
  unfold b__law_ring
  (conv => whnf)
  refine ⟨by show 1 ≤ 100000; decide, ?_⟩
  (conv => whnf)
  refine ⟨by show 1 ≤ 100000; decide, ?_⟩
  intro f hf
  (conv => whnf)
  refine ⟨by omega, ?_⟩
  refine ⟨fun k ρ M' => M' = M.upd f (.lst (([Wire.inp] ++ (List.range k).map fun k => Wire.cell (ringC n k) 0).map wireD)) ∧ ∃ o, ρ = [some (nI a), some (nI b), some (nI n), some (.ref f), o, none, none], ⟨rfl, none, rfl⟩, ?_, ?_⟩
  · rintro k y ρ M' hy ⟨rfl, o, rfl⟩
    obtain ⟨hk, rfl⟩ := rng_get (rangeD_nat _ ▸ hy)
    (conv => whnf)
    refine ⟨isl_ref MM.upd_same, ?_⟩
    (conv => whnf)
    refine ⟨by show 2 ≤ 100000; decide, ?_⟩
    (conv => whnf); try dsimp only
    rw [ring_at]
    (conv => whnf)
    refine ⟨by show 3 ≤ 100000; decide, ?_⟩
    (conv => whnf); try dsimp only
    rw [MM.upd_same]
    refine ⟨by rw [List.length_map, List.length_append, rng_len]; show 1 + _ < 100000; omega, ?_⟩
    refine ⟨?_, some (nI k), rfl⟩
    rw [MM.upd_upd, List.range_succ, List.map_append (l₁ := List.range k), ← List.append_assoc, List.map_append (l₂ := List.map _ [k])]; rfl
  · rintro ρ M' ⟨rfl, o, rfl⟩
    rw [rangeD_nat, rng_len]
    generalize hM : M.upd f (.lst (([Wire.inp] ++ (List.range n).map fun k => Wire.cell (ringC n k) 0).map wireD)) = M1
    have hm : M1 f = some (.lst (([Wire.inp] ++ (List.range n).map fun k => Wire.cell (ringC n k) 0).map wireD)) := by rw [← hM, MM.upd_same]
    have hd : M1.del f = M := by rw [← hM, MM.upd_del hf]
    have hlen : (([Wire.inp] ++ (List.range n).map fun k => Wire.cell (ringC n k) 0).map wireD).length ≤ 3 := by
      rw [List.length_map, List.length_append, rng_len]; show 1 + n ≤ 3; omega
    (conv => whnf)
    refine ⟨⟨by decide, by decide, by show (-100000 : Int) ≤ (n : Int) + 1; omega, by show (n : Int) + 1 ≤ 100000; omega⟩, ?_⟩
    have eR : rangeD2 1 ((n : Int) + 1) = (List.range n).map fun i => nI (i + 1) := rangeD2_one n
    refine lcI_fil n (fun i => b.testBit (i + 1)) (fun i => nI (i + 1)) ?_ ?_ ?_
    · show (rangeD2 1 ((n : Int) + 1)).length = n
      rw [eR, rng_len]
    · intro i y Qt Qf hy ht hf
      have hy : ((List.range n).map fun i => nI (i + 1))[i]? = some y := by rw [← eR]; exact hy
      obtain ⟨hi, rfl⟩ := rng_get hy
      (conv => whnf)
      refine ⟨Int.natCast_nonneg _, ?_⟩
      (conv => whnf); try dsimp only
      rw [bit_dec]
      cases e : b.testBit (i + 1)
      · exact hf e
      · exact ht e
    rw [show (((List.range n).filter fun i => b.testBit (i + 1)).map fun i => nI (i + 1)) = (taps b n).map nI by rw [List.map_map]; rfl]
    (conv => whnf)
    refine ⟨isl_ref hm, ?_⟩
    (conv => whnf)
    refine ⟨by show 2 ≤ 100000; decide, ?_⟩
    (conv => whnf)
    refine ⟨by rw [List.length_map]; have := taps_len b n; show 2 + _ ≤ 100000; omega, ?_⟩
    (conv => whnf); try dsimp only
    rw [hm]
    refine ⟨by show _ < 100000; omega, ?_⟩
    (conv => whnf)
    refine ⟨⟨by show (-100000 : Int) ≤ (n : Int) + 1; omega, by show (n : Int) + 1 ≤ 100000; omega⟩, ?_⟩
    have eR2 : rangeD ((n : Int) + 1) = (List.range (n + 1)).map nI := rangeD_nat (n + 1)
    refine lcI_fil (n + 1) a.testBit (fun k => nI (ringC n k)) ?_ ?_ ?_
    · show (rangeD ((n : Int) + 1)).length = _
      rw [eR2, rng_len]
    · intro i y Qt Qf hy ht hf
      have hy : ((List.range (n + 1)).map nI)[i]? = some y := by rw [← eR2]; exact hy
      obtain ⟨hi, rfl⟩ := rng_get hy
      (conv => whnf)
      refine ⟨Int.natCast_nonneg _, ?_⟩
      (conv => whnf); try dsimp only
      rw [bit_dec]
      cases e : a.testBit i
      · exact hf e
      · (conv => whnf)
        refine ⟨by show 2 ≤ 100000; decide, ?_⟩
        (conv => whnf); try dsimp only
        rw [ring_at]
        exact ht e
    rw [show (((List.range (n + 1)).filter a.testBit).map fun k => nI (ringC n k)) = (((List.range (n + 1)).filter a.testBit).map (ringC n)).map nI by rw [List.map_map]; rfl]
    have hsl : (((List.range (n + 1)).filter a.testBit).map (ringC n)).length ≤ n + 1 := by
      rw [List.length_map]
      have := List.length_filter_le a.testBit (List.range (n + 1))
      rwa [List.length_range] at this
    (conv => whnf)
    refine ⟨isl_ref MM.upd_same, ?_⟩
    (conv => whnf)
    refine ⟨by show 1 ≤ 100000; decide, ?_⟩
    (conv => whnf)
    refine ⟨by rw [List.length_map]; show 1 + _ ≤ 100000; omega, ?_⟩
    (conv => whnf); try dsimp only
    rw [MM.upd_same]
    refine ⟨by rw [List.length_append]; show _ + 1 < 100000; omega, ?_⟩
    (conv => whnf); try dsimp only
    rw [MM.upd_same]
    (conv => whnf)
    refine ⟨by show 1 ≤ 100000; decide, ?_⟩
    (conv => whnf)
    refine ⟨by show 2 ≤ 100000; decide, ?_⟩
    obtain ⟨ok, hi⟩ := ring_ok hn (taps b n) (((List.range (n + 1)).filter a.testBit).map (ringC n)) (fun x hx => mem_taps hx) (fun x hx => by
      obtain ⟨k, hk, rfl⟩ := List.mem_map.mp hx
      have := List.mem_range.mp (List.mem_filter.mp hk).1
      show (if k = 0 then n + 1 else k) ≤ n + 1
      split <;> omega) (by have := taps_len b n; omega) (by omega)
    have hM2 : ((M1.upd f (.lst (([Wire.inp] ++ (List.range n).map fun k => Wire.cell (ringC n k) 0).map wireD ++ [wireD (.sum (0 :: taps b n))]))).upd f (.lst (([Wire.inp] ++ (List.range n).map fun k => Wire.cell (ringC n k) 0).map wireD ++ [wireD (.sum (0 :: taps b n))] ++ [wireD (.sum (((List.range (n + 1)).filter a.testBit).map (ringC n)))]))).del f = M := by
      rw [MM.upd_upd, ← hd]; funext c
      by_cases e : c = f
      · subst e; rw [MM.del_same, MM.del_same]
      · rw [MM.del_ne e, MM.del_ne e, MM.upd_ne e]
    refine fin_ok (eqPM (hp _ _ ok hi rfl) ?_ hM2)
    show _ = D.tup [.lst (List.map wireD _), _]
    simp only [List.map_append]; rfl
end BB
end
section
/-! contracts: companions, flows, pairs -/
namespace BB
open PySem DL
def c__law_companion : CT := fun ds M P => ∃ (b n : Nat) (f : Nat → Bool), ds = [nI b, nI n, .lst (bitL n f)] ∧ (n = 1 ∨ n = 2) ∧ ∀ W o, NetOk W o → (insOf W).length = 0 → o.length = 1 → P (netP W o) M
theorem l__law_companion (ds : List D) (M : MM) (Q : PQ) (h : c__law_companion ds M Q) : ds.length = 3 := by
  obtain ⟨_, _, _, rfl, _⟩ := h; rfl
theorem comp_ok {n : Nat} (hn : n = 1 ∨ n = 2) (f : Nat → Bool) (ts : List Nat) (ht : ∀ x, x ∈ ts → x < n) (lt : ts.length ≤ 10) :
    let W := (List.range n).map (fun k => Wire.cell (k + 1) (f k).toNat) ++ [.sum ts]
    NetOk W [0] ∧ (insOf W).length = 0 := by
  intro W
  have hf : ∀ k, (f k).toNat ≤ 1 := fun k => Bool.toNat_le _
  have hW : (n = 1 ∧ W = [.cell 1 (f 0).toNat, .sum ts]) ∨ (n = 2 ∧ W = [.cell 1 (f 0).toNat, .cell 2 (f 1).toNat, .sum ts]) := by
    rcases hn with rfl | rfl
    · exact .inl ⟨rfl, rfl⟩
    · exact .inr ⟨rfl, rfl⟩
  clear_value W
  rcases hW with ⟨rfl, rfl⟩ | ⟨rfl, rfl⟩
  · refine ⟨⟨⟨?_, ?_, by show 2 ≤ 16; decide, ?_⟩, ?_, ?_, ?_, by show 1 ≤ 3; decide⟩, by rw [ins_len_of]; rfl⟩
    · intro w hw x hx
      show x < 2
      simp only [List.mem_cons, List.mem_nil_iff, or_false] at hw
      rcases hw with rfl | rfl
      · cases List.mem_singleton.mp hx; omega
      · have := ht x hx; omega
    · intro s b hw
      simp only [List.mem_cons, List.mem_nil_iff, or_false] at hw
      rcases hw with h | h <;> cases h; exact hf 0
    · intro l hw
      simp only [List.mem_cons, List.mem_nil_iff, or_false] at hw
      rcases hw with h | h <;> cases h; omega
    · refine noflip_lt fun v l hv x hx => ?_
      rcases v with _ | _ | v
      · cases hv
      · cases hv; have := ht x hx; omega
      · exact absurd hv (by simp)
    · intro o ho; cases List.mem_singleton.mp ho; show 0 < 2; omega
    · rw [cells_len_of]; show 1 ≤ 5; decide
  · refine ⟨⟨⟨?_, ?_, by show 3 ≤ 16; decide, ?_⟩, ?_, ?_, ?_, by show 1 ≤ 3; decide⟩, by rw [ins_len_of]; rfl⟩
    · intro w hw x hx
      show x < 3
      simp only [List.mem_cons, List.mem_nil_iff, or_false] at hw
      rcases hw with rfl | rfl | rfl
      · cases List.mem_singleton.mp hx; omega
      · cases List.mem_singleton.mp hx; omega
      · have := ht x hx; omega
    · intro s b hw
      simp only [List.mem_cons, List.mem_nil_iff, or_false] at hw
      rcases hw with h | h | h <;> cases h
      · exact hf 0
      · exact hf 1
    · intro l hw
      simp only [List.mem_cons, List.mem_nil_iff, or_false] at hw
      rcases hw with h | h | h <;> cases h; omega
    · refine noflip_lt fun v l hv x hx => ?_
      rcases v with _ | _ | _ | v
      · cases hv
      · cases hv
      · cases hv; have := ht x hx; omega
      · exact absurd hv (by simp)
    · intro o ho; cases List.mem_singleton.mp ho; show 0 < 3; omega
    · rw [cells_len_of]; show 2 ≤ 5; decide
theorem k__law_companion : Keeps 5 b__law_companion c__law_companion := by
  rintro ds M P ⟨b, n, g, rfl, hn, hp⟩
  have hn2 : n ≤ 2 := by omega
  unfold b__law_companion
  (conv => whnf)
  refine ⟨by show 0 ≤ 100000; decide, ?_⟩
  intro f hf
  (conv => whnf)
  refine ⟨by omega, ?_⟩
  refine ⟨fun k ρ M' => M' = M.upd f (.lst (((List.range k).map fun k => Wire.cell (k + 1) (g k).toNat).map wireD)) ∧ ∃ o, ρ = [some (nI b), some (nI n), some (.lst (bitL n g)), some (.ref f), o], ⟨rfl, none, rfl⟩, ?_, ?_⟩
  · rintro k y ρ M' hy ⟨rfl, o, rfl⟩
    obtain ⟨hk, rfl⟩ := rng_get (rangeD_nat _ ▸ hy)
    (conv => whnf)
    refine ⟨isl_ref MM.upd_same, ?_⟩
    (conv => whnf); try dsimp only
    rw [ix_nat, rng_at hk]
    (conv => whnf)
    refine ⟨by show 3 ≤ 100000; decide, ?_⟩
    (conv => whnf); try dsimp only
    rw [MM.upd_same]
    refine ⟨by rw [List.length_map, rng_len]; show _ < 100000; omega, ?_⟩
    refine ⟨?_, some (nI k), rfl⟩
    rw [MM.upd_upd, List.range_succ, List.map_append (l₁ := List.range k), List.map_append (f := wireD)]; rfl
  · rintro ρ M' ⟨rfl, o, rfl⟩
    rw [rangeD_nat, rng_len]
    generalize hM : M.upd f (.lst (((List.range n).map fun k => Wire.cell (k + 1) (g k).toNat).map wireD)) = M1
    have hm : M1 f = some (.lst (((List.range n).map fun k => Wire.cell (k + 1) (g k).toNat).map wireD)) := by rw [← hM, MM.upd_same]
    have hd : M1.del f = M := by rw [← hM, MM.upd_del hf]
    (conv => whnf)
    refine ⟨isl_ref hm, ?_⟩
    (conv => whnf)
    refine ⟨by show 1 ≤ 100000; decide, ?_⟩
    (conv => whnf)
    refine ⟨⟨by decide, by decide, by show (-100000 : Int) ≤ (n : Int) + 1; omega, by show (n : Int) + 1 ≤ 100000; omega⟩, ?_⟩
    have eR : rangeD2 1 ((n : Int) + 1) = (List.range n).map fun i => nI (i + 1) := rangeD2_one n
    refine lcI_fil n (fun i => b.testBit (i + 1)) (fun i => .int ((n : Int) - ((i + 1 : Nat) : Int))) ?_ ?_ ?_
    · show (rangeD2 1 ((n : Int) + 1)).length = n
      rw [eR, rng_len]
    · intro i y Qt Qf hy ht hf
      have hy : ((List.range n).map fun i => nI (i + 1))[i]? = some y := by rw [← eR]; exact hy
      obtain ⟨hi, rfl⟩ := rng_get hy
      (conv => whnf)
      refine ⟨Int.natCast_nonneg _, ?_⟩
      (conv => whnf); try dsimp only
      rw [bit_dec]
      cases e : b.testBit (i + 1)
      · exact hf e
      · exact ht e
    have eT : (((List.range n).filter fun i => b.testBit (i + 1)).map fun i => D.int ((n : Int) - ((i + 1 : Nat) : Int))) = ((taps b n).map fun x => n - x).map nI := by
      rw [List.map_map, List.map_map]
      refine List.map_congr_left fun i hi => ?_
      have := List.mem_range.mp (List.mem_filter.mp hi).1
      show D.int ((n : Int) - ((i + 1 : Nat) : Int)) = D.int ((n - (i + 1) : Nat) : Int)
      exact congrArg D.int (by omega)
    rw [eT]
    (conv => whnf)
    refine ⟨by rw [List.length_map, List.length_map]; have := taps_len b n; show 1 + _ ≤ 100000; omega, ?_⟩
    (conv => whnf); try dsimp only
    rw [hm]
    refine ⟨by rw [List.length_map, rng_len]; show _ < 100000; omega, ?_⟩
    (conv => whnf); try dsimp only
    rw [MM.upd_same]
    (conv => whnf)
    refine ⟨by show 1 ≤ 100000; decide, ?_⟩
    (conv => whnf)
    refine ⟨by show 2 ≤ 100000; decide, ?_⟩
    obtain ⟨ok, hi⟩ := comp_ok hn g ((taps b n).map fun x => n - x) (fun x hx => by
      obtain ⟨k, hk, rfl⟩ := List.mem_map.mp hx
      have := mem_taps hk; omega) (by rw [List.length_map]; have := taps_len b n; omega)
    have hM2 : ((M1.upd f (.lst (((List.range n).map fun k => Wire.cell (k + 1) (g k).toNat).map wireD ++ [wireD (.sum ((taps b n).map fun x => n - x))])))).del f = M := by
      rw [← hd]; funext c
      by_cases e : c = f
      · subst e; rw [MM.del_same, MM.del_same]
      · rw [MM.del_ne e, MM.del_ne e, MM.upd_ne e]
    refine fin_ok (eqPM (hp _ _ ok hi rfl) ?_ hM2)
    show _ = D.tup [.lst (List.map wireD _), _]
    simp only [List.map_append]; rfl
def c__law_flow : CT := fun ds M P => ∃ (b n N : Nat) (f : Nat → Bool), ds = [nI b, .lst (bitL n f), nI N] ∧ n ≤ N ∧ N ≤ 20 ∧ ∀ g, P (.lst (bitL N g)) M
theorem l__law_flow (ds : List D) (M : MM) (Q : PQ) (h : c__law_flow ds M Q) : ds.length = 3 := by
  obtain ⟨_, _, _, _, rfl, _⟩ := h; rfl
theorem ix_neg {α : Type} (xs : List α) (k : Nat) (h1 : 1 ≤ k) (h2 : k ≤ xs.length) : L2.atI xs (-(k : Int)) = xs[xs.length - k]? := by
  unfold L2.atI L2.ixN
  rw [if_neg (by omega), if_pos (by omega)]
  show xs[(-(k : Int) + (xs.length : Int)).toNat]? = _
  rw [show (-(k : Int) + (xs.length : Int)).toNat = xs.length - k by omega]
theorem k__law_flow : Keeps 5 b__law_flow c__law_flow := by
  rintro ds M P ⟨b, n, N, f, rfl, hn, hN, hp⟩
  unfold b__law_flow
  (conv => whnf)
  intro a ha
  (conv => whnf)
  refine ⟨fun m ρ M' => ∃ (l : Nat) (g : Nat → Bool), m = N - l ∧ n ≤ l ∧ l ≤ N ∧ M' = M.upd a (.lst (bitL l g)) ∧ ρ = [some (nI b), some (.lst (bitL n f)), some (nI N), some (.ref a), none], ⟨_, n, f, rfl, Nat.le_refl _, hn, rfl, rfl⟩, ?_⟩
  rintro m ρ M' ⟨l, g, rfl, h1, h2, rfl, rfl⟩
  (conv => whnf); try dsimp only
  rw [as_ref MM.upd_same]
  (conv => whnf); try dsimp only
  rw [rng_len]
  by_cases hl : l < N
  · rw [decide_eq_true (show (l : Int) < (N : Int) by omega)]
    refine ⟨fun ρ' M2 => ∃ g, M2 = M.upd a (.lst (bitL (l + 1) g)) ∧ ρ' = [some (nI b), some (.lst (bitL n f)), some (nI N), some (.ref a), none], ?_, ?_⟩
    · rintro ρ' M2 ⟨g, rfl, rfl⟩
      exact ⟨N - (l + 1), by omega, l + 1, g, rfl, by omega, by omega, rfl, rfl⟩
    · (conv => whnf)
      refine ⟨isl_ref MM.upd_same, ?_⟩
      (conv => whnf)
      refine ⟨⟨by decide, by decide, ?_, ?_⟩, ?_⟩
      · show (-100000 : Int) ≤ ((bitL n f).length : Int) + 1; omega
      · show ((bitL n f).length : Int) + 1 ≤ 100000; rw [rng_len]; omega
      have eR : rangeD2 1 (((bitL n f).length : Int) + 1) = (List.range n).map fun i => nI (i + 1) := by rw [rng_len]; exact rangeD2_one n
      refine lcI_fil n (fun i => b.testBit (i + 1)) (fun i => bN (g (l - (i + 1)))) ?_ ?_ ?_
      · show (rangeD2 1 (((bitL n f).length : Int) + 1)).length = n
        rw [eR, rng_len]
      · intro i y Qt Qf hy ht hf
        have hy : ((List.range n).map fun i => nI (i + 1))[i]? = some y := by rw [← eR]; exact hy
        obtain ⟨hi, rfl⟩ := rng_get hy
        (conv => whnf)
        refine ⟨Int.natCast_nonneg _, ?_⟩
        (conv => whnf); try dsimp only
        rw [bit_dec]
        cases e : b.testBit (i + 1)
        · exact hf e
        · (conv => whnf); try dsimp only
          rw [as_ref MM.upd_same]
          (conv => whnf); try dsimp only
          rw [ix_neg _ _ (by omega) (by rw [rng_len]; omega), rng_len, rng_at (by omega)]
          exact ht e
      (conv => whnf); try dsimp only
      rw [show (asL (M.upd a (.lst (bitL l g))) (.lst (((List.range n).filter fun i => b.testBit (i + 1)).map fun i => bN (g (l - (i + 1)))))).bind intsOf = some (((List.range n).filter fun i => b.testBit (i + 1)).map fun i => ((g (l - (i + 1))).toNat : Int)) from ints_bits (fun i => g (l - (i + 1))) _]
      (conv => whnf); try dsimp only
      rw [sum_par (fun i => g (l - (i + 1)))]
      rw [MM.upd_same]
      refine ⟨by rw [rng_len]; show _ < 100000; omega, ?_⟩
      refine ⟨fun u => if u = l then xl ((List.range n).filter fun i => b.testBit (i + 1)) (fun i => g (l - (i + 1))) else g u, ?_, rfl⟩
      rw [MM.upd_upd]
      congr 2
      show _ = (List.range (l + 1)).map _
      rw [List.range_succ, List.map_append]
      congr 1
      · refine List.map_congr_left fun u hu => ?_
        have : u ≠ l := fun e => by subst e; exact absurd (List.mem_range.mp hu) (Nat.lt_irrefl _)
        simp only [this, if_false]
      · simp
  · rw [decide_eq_false (show ¬ (l : Int) < (N : Int) by omega)]
    have : l = N := by omega
    subst this
    (conv => whnf); try dsimp only
    rw [MM.upd_same, MM.upd_del ha]
    exact fin_ok (hp g)
end BB
end
section
/-! contracts: quiet and late pairs -/
namespace BB
open PySem DL
theorem take_range (n N : Nat) (h : n ≤ N) : (List.range N).take n = List.range n := by
  rw [List.take_range]; congr 1; omega
theorem cut_bits (n N : Nat) (g : Nat → Bool) (h : n ≤ N) : cutD (bitL N g) none (some (n : Int)) = bitL n g := by
  unfold cutD
  rw [HT.sIx_none, HT.sIx_nat, List.drop_zero, rng_len, Nat.sub_zero, Nat.min_eq_left h]
  show ((List.range N).map _).take n = _
  rw [← List.map_take, take_range n N h]
theorem rep_one (k : Nat) : (List.replicate k [D.int 1]).flatten = bitL k fun _ => true := rep_rows _ _
def c__law_quiet_pair : CT := fun ds M P => ∃ a n b m : Nat, ds = [nI a, nI n, nI b, nI m] ∧ (n = 1 ∨ n = 2) ∧ (m = 1 ∨ m = 2) ∧
  ∀ (W W' : List Wire) (o o' : List Nat), NetOk W o → NetOk W' o' → (insOf W).length = (insOf W').length → o.length = o'.length → P (.tup [netP W o, netP W' o']) M
theorem l__law_quiet_pair (ds : List D) (M : MM) (Q : PQ) (h : c__law_quiet_pair ds M Q) : ds.length = 4 := by
  obtain ⟨_, _, _, _, rfl, _⟩ := h; rfl
theorem last_int (L : List D) (h : ∀ d, d ∈ L → ∃ z : Int, d = .int z) : ∃ z : Int, L2.atI (L ++ [D.int (-1)]) 0 = some (.int z) := by
  cases L with
  | nil => exact ⟨-1, at_zero _ _⟩
  | cons d L =>
    obtain ⟨z, rfl⟩ := h d (List.mem_cons_self ..)
    exact ⟨z, at_zero _ _⟩
theorem k__law_quiet_pair : Keeps 12 (b__law_quiet_pair c__law_companion c__law_flow) c__law_quiet_pair := by
  rintro ds M P ⟨a, n, b, m, rfl, hn, hm, hp⟩
  have hn2 : n ≤ 2 := by omega
  have hm2 : m ≤ 2 := by omega
  unfold b__law_quiet_pair
  (conv => whnf)
  refine ⟨by show 1 ≤ 100000; decide, ?_⟩
  (conv => whnf)
  refine ⟨Int.natCast_nonneg _, by show (n : Int) ≤ 100000; omega, by show 1 * (n : Int).toNat ≤ 100000; omega, ?_⟩
  (conv => whnf)
  refine ⟨by show 1 ≤ 100000; decide, ?_⟩
  (conv => whnf)
  refine ⟨Int.natCast_nonneg _, by show (m : Int) ≤ 100000; omega, by show 1 * (m : Int).toNat ≤ 100000; omega, ?_⟩
  (conv => whnf)
  refine ⟨by show 3 ≤ 100000; decide, ?_⟩
  rw [Int.toNat_natCast, Int.toNat_natCast, rep_one, rep_one]
  (conv => whnf)
  refine ⟨⟨Int.natCast_nonneg _, by show (n : Int) ≤ _; omega, by decide⟩, ?_⟩
  have h4 : 2 ^ n ≤ 4 := Nat.le_trans (Nat.pow_le_pow_right (by decide) hn2) (by decide)
  have eP : (1 : Int) * (2 : Int) ^ ((n : Int)).toNat = ((2 ^ n : Nat) : Int) := by rw [one_shl, Nat.one_shiftLeft]
  (conv => whnf)
  refine ⟨⟨by decide, by decide, ?_, ?_⟩, ?_⟩
  · show (-100000 : Int) ≤ (1 : Int) * (2 : Int) ^ ((n : Int)).toNat; rw [eP]; exact Int.le_trans (by decide) (Int.natCast_nonneg _)
  · show (1 : Int) * (2 : Int) ^ ((n : Int)).toNat ≤ 100000; rw [eP]; exact Int.le_trans (Int.ofNat_le.mpr h4) (by decide)
  have eR : rangeD2 1 ((1 : Int) * (2 : Int) ^ ((n : Int)).toNat) = (List.range (2 ^ n - 1)).map fun i => nI (i + 1) := by
    rw [eP]; unfold rangeD2
    rw [show (((2 ^ n : Nat) : Int) - 1).toNat = 2 ^ n - 1 by omega]
    exact List.map_congr_left fun i _ => congrArg D.int (by omega)
  refine ⟨fun i ρ M' => M' = M ∧ ∃ (z : Int) (f g : Nat → Bool) (o5 o6 o8 o9 o10 : Option D), ρ = [some (nI a), some (nI n), some (nI b), some (nI m), some (.lst [.int z, .lst (bitL n f), .lst (bitL m g)]), o5, o6, none, o8, o9, o10, none], ⟨rfl, -1, fun _ => true, fun _ => true, none, none, none, none, none, rfl⟩, ?_, ?_⟩
  · rintro i y ρ M' hy ⟨rfl, z, f, g, o5, o6, o8, o9, o10, rfl⟩
    have hy : ((List.range (2 ^ n - 1)).map fun i => nI (i + 1))[i]? = some y := by rw [← eR]; exact hy
    obtain ⟨hi, rfl⟩ := rng_get hy
    (conv => whnf)
    refine ⟨by omega, ?_⟩
    refine lcI_map n (fun k => bN ((i + 1).testBit k)) (by rw [rangeD_nat, rng_len]) ?_ ?_
    · intro k y Qt hy hk ht
      obtain ⟨_, rfl⟩ := rng_get (rangeD_nat _ ▸ hy)
      (conv => whnf)
      exact ⟨Int.natCast_nonneg _, eqP ht (congrArg D.int (i_bit _ _))⟩
    (conv => whnf)
    refine ⟨a, n, n + m, (i + 1).testBit, rfl, by omega, by omega, ?_⟩
    intro g1
    (conv => whnf); try dsimp only
    rw [cut_bits m (n + m) g1 (by omega)]
    (conv => whnf)
    refine ⟨b, m, n + m, g1, rfl, by omega, by omega, ?_⟩
    intro g2
    (conv => whnf)
    refine ⟨by show (-100000 : Int) ≤ (n : Int) + (m : Int) ∧ (n : Int) + (m : Int) ≤ 100000; omega, ?_⟩
    have eR2 : rangeD ((n : Int) + (m : Int)) = (List.range (n + m)).map nI := by
      rw [show (n : Int) + (m : Int) = ((n + m : Nat) : Int) by omega]; exact rangeD_nat _
    refine lcI_fil (n + m) (fun t => !decide (((g1 t).toNat : Int) = ((g2 t).toNat : Int))) nI ?_ ?_ ?_
    · show (rangeD ((n : Int) + (m : Int))).length = _
      rw [eR2, rng_len]
    · intro t y Qt Qf hy ht hf
      have hy : ((List.range (n + m)).map nI)[t]? = some y := by rw [← eR2]; exact hy
      obtain ⟨htl, rfl⟩ := rng_get hy
      (conv => whnf); try dsimp only
      rw [ix_nat, rng_at htl]
      (conv => whnf); try dsimp only
      rw [ix_nat, rng_at htl]
      (conv => whnf); try dsimp only
      cases e : decide (((g1 t).toNat : Int) = ((g2 t).toNat : Int))
      · exact ht (by rw [e]; rfl)
      · exact hf (by rw [e]; rfl)
    have hfl : (((List.range (n + m)).filter fun t => !decide (((g1 t).toNat : Int) = ((g2 t).toNat : Int))).map nI).length ≤ 4 := by
      rw [List.length_map]
      have := List.length_filter_le (fun t => !decide (((g1 t).toNat : Int) = ((g2 t).toNat : Int))) (List.range (n + m))
      rw [List.length_range] at this; omega
    obtain ⟨z2, hz2⟩ := last_int (((List.range (n + m)).filter fun t => !decide (((g1 t).toNat : Int) = ((g2 t).toNat : Int))).map nI) (fun d hd => by
      obtain ⟨x, _, rfl⟩ := List.mem_map.mp hd; exact ⟨_, rfl⟩)
    (conv => whnf)
    refine ⟨by show 1 ≤ 100000; decide, ?_⟩
    (conv => whnf)
    refine ⟨by show _ + 1 ≤ 100000; omega, ?_⟩
    (conv => whnf); try dsimp only
    rw [hz2]
    (conv => whnf); try dsimp only
    cases e : decide (z < z2) with
    | false => exact ⟨rfl, z, f, g, _, _, _, _, _, rfl⟩
    | true =>
      (conv => whnf); try dsimp only
      rw [hz2]
      (conv => whnf); try dsimp only
      rw [cut_bits m (n + m) g1 (by omega)]
      refine ⟨by show 3 ≤ 100000; decide, ?_⟩
      exact ⟨rfl, z2, (i + 1).testBit, g1, _, _, _, _, _, rfl⟩
  · rintro ρ M' ⟨rfl, z, f, g, o5, o6, o8, o9, o10, rfl⟩
    (conv => whnf)
    refine ⟨a, n, f, rfl, hn, ?_⟩
    intro W o ok hi ho
    (conv => whnf)
    refine ⟨b, m, g, rfl, hm, ?_⟩
    intro W' o' ok' hi' ho'
    (conv => whnf)
    refine ⟨by show 2 ≤ 100000; decide, ?_⟩
    exact fin_ok (hp W W' o o' ok ok' (by omega) (by omega))
def c__law_late_pair : CT := fun ds M P => ∃ (p q n : Nat), ds = [.ref p] ∧ Pen M p q n ∧ n ≤ 200 ∧ ∀ (W W' : List Wire) (o o' : List Nat) M', NetOk W o → NetOk W' o' → (insOf W).length = (insOf W').length → o.length = o'.length → P (.tup [netP W o, netP W' o']) M'
theorem l__law_late_pair (ds : List D) (M : MM) (Q : PQ) (h : c__law_late_pair ds M Q) : ds.length = 1 := by
  obtain ⟨_, _, _, rfl, _⟩ := h; rfl
theorem k__law_late_pair : Keeps 7 (b__law_late_pair c__law_quiet_pair c__law_times c__law_ring c__law_draw) c__law_late_pair := by
  rintro ds M P ⟨p, q, n, rfl, pen, hn, hp⟩
  unfold b__law_late_pair
  (conv => whnf)
  refine ⟨p, q, n, 2, rfl, pen, by omega, by omega, by omega, ?_⟩
  intro r1 M1 h1 pen1 _
  (conv => whnf)
  refine ⟨p, q, _, 2, rfl, pen1, by omega, by omega, by omega, ?_⟩
  intro r2 M2 h2 pen2 _
  have e1 : (1 : Int) + (r1 : Int) = ((1 + r1 : Nat) : Int) := by omega
  have e2 : (1 : Int) + (r2 : Int) = ((1 + r2 : Nat) : Int) := by omega
  (conv => whnf); try dsimp only
  rw [e1, e2]
  generalize hsz : 1 + r1 = sz
  generalize hwd : 1 + r2 = wd
  have hs1 : sz = 1 ∨ sz = 2 := by omega
  have hw1 : wd = 1 ∨ wd = 2 := by omega
  have pw : ∀ k : Nat, k ≤ 5 → 2 ^ k ≤ 32 := fun k hk => Nat.le_trans (Nat.pow_le_pow_right (by decide) hk) (by decide)
  have p0 : ∀ k : Nat, 0 < 2 ^ k := fun k => Nat.pow_pos (by decide)
  have shl : ∀ k : Nat, (1 : Int) * (2 : Int) ^ ((k : Int)).toNat = ((2 ^ k : Nat) : Int) := fun k => by rw [one_shl, Nat.one_shiftLeft]
  refine ⟨⟨Int.natCast_nonneg _, by show (sz : Int) ≤ _; omega, by decide⟩, ?_⟩
  (conv => whnf)
  refine ⟨p, q, _, 2 ^ sz, congrArg (fun z : Int => [D.ref p, D.int z]) (shl sz), pen2, by omega, p0 _, by have := pw sz (by omega); omega, ?_⟩
  intro r3 M3 h3 pen3 _
  have h3' := pw sz (by omega)
  (conv => whnf)
  refine ⟨.inl ⟨by decide, by decide⟩, ?_⟩
  (conv => whnf)
  refine ⟨⟨Int.natCast_nonneg _, by show (wd : Int) ≤ _; omega, by decide⟩, ?_⟩
  (conv => whnf)
  refine ⟨p, q, _, 2 ^ wd, congrArg (fun z : Int => [D.ref p, D.int z]) (shl wd), pen3, by omega, p0 _, by have := pw wd (by omega); omega, ?_⟩
  intro r4 M4 h4 pen4 _
  have h4' := pw wd (by omega)
  (conv => whnf)
  refine ⟨.inl ⟨by decide, by decide⟩, ?_⟩
  have e3 : (1 : Int) + 2 * (r3 : Int) = ((1 + 2 * r3 : Nat) : Int) := by omega
  have e4 : (1 : Int) + 2 * (r4 : Int) = ((1 + 2 * r4 : Nat) : Int) := by omega
  (conv => whnf); try dsimp only
  rw [e3, e4]
  generalize hbl : 1 + 2 * r3 = bl
  generalize hmo : 1 + 2 * r4 = mo
  have hbl2 : bl < 2 ^ 60 := Nat.lt_of_lt_of_le (show bl < 100 by omega) (by decide)
  have hmo2 : mo < 2 ^ 60 := Nat.lt_of_lt_of_le (show mo < 100 by omega) (by decide)
  refine ⟨p, q, _, 2, rfl, pen4, by omega, by omega, by omega, ?_⟩
  intro r5 M5 h5 pen5 _
  (conv => whnf); try dsimp only
  have quiet : ∀ (M : MM), c__law_quiet_pair [nI bl, nI sz, nI mo, nI wd] M5 (finD P).rt := fun _ => ⟨bl, sz, mo, wd, rfl, hs1, hw1, fun W W' o o' a b c d => fin_ok (hp W W' o o' M5 a b c d)⟩
  cases e : decide ((r5 : Int) = 0) with
  | true => exact quiet M5
  | false =>
    have bnd : ∀ k : Nat, k ≤ 4 → (-100000 : Int) ≤ (1 : Int) * (2 : Int) ^ ((k : Int)).toNat ∧ (1 : Int) * (2 : Int) ^ ((k : Int)).toNat ≤ 100000 := fun k hk => by
      rw [shl]
      exact ⟨Int.le_trans (by decide) (Int.natCast_nonneg _), Int.le_trans (Int.ofNat_le.mpr (pw k (by omega))) (by decide)⟩
    (conv => whnf)
    refine ⟨⟨by show (0 : Int) ≤ (sz : Int) + 1; omega, by show (sz : Int) + 1 ≤ _; omega, by decide⟩, ?_⟩
    (conv => whnf)
    refine ⟨bnd (sz + 1) (by omega), ?_⟩
    have eRa : ∀ k : Nat, rangeD ((1 : Int) * (2 : Int) ^ (((k : Int) + 1)).toNat) = (List.range (2 ^ (k + 1))).map nI := fun k => by
      rw [show (1 : Int) * (2 : Int) ^ (((k : Int) + 1)).toNat = ((2 ^ (k + 1) : Nat) : Int) from shl (k + 1)]; rfl
    refine ⟨fun i ρ M' => M' = M5 ∧ ∃ o5 o6, ρ = [some (.ref p), some (nI sz), some (nI wd), some (nI bl), some (nI mo), o5, o6], ⟨rfl, none, none, rfl⟩, ?_, ?_⟩
    · rintro i y ρ M' hy ⟨rfl, o5, o6, rfl⟩
      have hy : ((List.range (2 ^ (sz + 1))).map nI)[i]? = some y := by rw [← eRa]; exact hy
      obtain ⟨hi, rfl⟩ := rng_get hy
      have hi2 : i < 2 ^ 60 := Nat.lt_of_lt_of_le hi (Nat.pow_le_pow_right (by decide) (by omega))
      (conv => whnf)
      refine ⟨⟨by show (0 : Int) ≤ (wd : Int) + 1; omega, by show (wd : Int) + 1 ≤ _; omega, by decide⟩, ?_⟩
      (conv => whnf)
      refine ⟨bnd (wd + 1) (by omega), ?_⟩
      refine ⟨fun j ρ M2 => M2 = M' ∧ ∃ o6, ρ = [some (.ref p), some (nI sz), some (nI wd), some (nI bl), some (nI mo), some (nI i), o6], ⟨rfl, o6, rfl⟩, ?_, ?_⟩
      · rintro j y ρ M2 hy ⟨rfl, o6, rfl⟩
        have hy : ((List.range (2 ^ (wd + 1))).map nI)[j]? = some y := by rw [← eRa]; exact hy
        obtain ⟨hj, rfl⟩ := rng_get hy
        have hj2 : j < 2 ^ 60 := Nat.lt_of_lt_of_le hj (Nat.pow_le_pow_right (by decide) (by omega))
        (conv => whnf)
        refine ⟨i, mo, rfl, hi2, hmo2, ?_⟩
        intro t1
        (conv => whnf)
        refine ⟨j, bl, rfl, hj2, hbl2, ?_⟩
        intro t2
        (conv => whnf)
        refine ⟨⟨by show (0 : Int) ≤ (sz : Int) + (wd : Int); omega, by show (sz : Int) + (wd : Int) ≤ _; omega, by decide⟩, ?_⟩
        (conv => whnf); try dsimp only
        cases e : decide (Builtin.bitXor t1 t2 = (1 : Int) * (2 : Int) ^ ((sz : Int) + (wd : Int)).toNat) with
        | false => exact ⟨rfl, _, rfl⟩
        | true =>
          (conv => whnf)
          refine ⟨i, bl, sz, rfl, hs1, ?_⟩
          intro W o ok hi ho
          (conv => whnf)
          refine ⟨j, mo, wd, rfl, hw1, ?_⟩
          intro W' o' ok' hi' ho'
          (conv => whnf)
          refine ⟨by show 2 ≤ 100000; decide, ?_⟩
          exact fin_ok (hp W W' o o' _ ok ok' (by omega) (by omega))
      · rintro ρ M2 ⟨rfl, o6, rfl⟩
        exact ⟨rfl, _, _, rfl⟩
    · rintro ρ M' ⟨rfl, o5, o6, rfl⟩
      exact quiet M'
end BB
end
section
/-! contracts: rows that change -/
namespace BB
open PySem DL
inductive Ty where
  | row (n : Nat)
  | grid (r n : Nat)
abbrev TyMap := Nat → Option Ty
def RowOk (M : MM) (n a : Nat) : Prop := ∃ f, M a = some (.lst (bitL n f))
structure TyOk (Z : TyMap) (M : MM) : Prop where
  row : ∀ a n, Z a = some (.row n) → RowOk M n a
  grid : ∀ a r n, Z a = some (.grid r n) → ∃ l : List Nat, l.length = r ∧ M a = some (.lst (l.map D.ref)) ∧ ∀ x, x ∈ l → Z x = some (.row n)
theorem TyOk.live {Z : TyMap} {M : MM} (h : TyOk Z M) {a : Nat} (ha : M a = none) : Z a = none := by
  cases e : Z a with
  | none => rfl
  | some t =>
    cases t with
    | row n => obtain ⟨f, hf⟩ := h.row a n e; rw [ha] at hf; cases hf
    | grid r n => obtain ⟨l, _, hl, _⟩ := h.grid a r n e; rw [ha] at hl; cases hl
theorem TyOk.updRow {Z : TyMap} {M : MM} (h : TyOk Z M) {x n : Nat} (hx : Z x = some (.row n)) (f : Nat → Bool) : TyOk Z (M.upd x (.lst (bitL n f))) where
  row := fun a n' ha => by
    by_cases e : a = x
    · subst e; rw [hx] at ha; cases ha; exact ⟨f, MM.upd_same⟩
    · obtain ⟨g, hg⟩ := h.row a n' ha; exact ⟨g, by rw [MM.upd_ne e]; exact hg⟩
  grid := fun a r n' ha => by
    have e : a ≠ x := fun e => by rw [e, hx] at ha; cases ha
    obtain ⟨l, h1, h2, h3⟩ := h.grid a r n' ha
    exact ⟨l, h1, by rw [MM.upd_ne e]; exact h2, h3⟩
theorem TyOk.updGrid {Z : TyMap} {M : MM} (h : TyOk Z M) {x r n : Nat} (hx : Z x = some (.grid r n)) (l : List Nat) (hl : l.length = r) (hr : ∀ y, y ∈ l → Z y = some (.row n)) : TyOk Z (M.upd x (.lst (l.map D.ref))) where
  row := fun a n' ha => by
    have e : a ≠ x := fun e => by rw [e, hx] at ha; cases ha
    obtain ⟨g, hg⟩ := h.row a n' ha; exact ⟨g, by rw [MM.upd_ne e]; exact hg⟩
  grid := fun a r' n' ha => by
    by_cases e : a = x
    · subst e; rw [hx] at ha; cases ha; exact ⟨l, hl, MM.upd_same, hr⟩
    · obtain ⟨l, h1, h2, h3⟩ := h.grid a r' n' ha
      exact ⟨l, h1, by rw [MM.upd_ne e]; exact h2, h3⟩
theorem TyOk.new {Z : TyMap} {M : MM} (h : TyOk Z M) {x : Nat} (hx : M x = none) (n : Nat) (f : Nat → Bool) : TyOk (fun a => if a = x then some (.row n) else Z a) (M.upd x (.lst (bitL n f))) where
  row := fun a n' ha => by
    by_cases e : a = x
    · simp only [e, if_true] at ha; cases ha; exact ⟨f, by rw [e]; exact MM.upd_same⟩
    · simp only [e, if_false] at ha; obtain ⟨g, hg⟩ := h.row a n' ha; exact ⟨g, by rw [MM.upd_ne e]; exact hg⟩
  grid := fun a r n' ha => by
    by_cases e : a = x
    · simp only [e, if_true] at ha; cases ha
    · simp only [e, if_false] at ha
      obtain ⟨l, h1, h2, h3⟩ := h.grid a r n' ha
      refine ⟨l, h1, by rw [MM.upd_ne e]; exact h2, fun y hy => ?_⟩
      have : y ≠ x := fun q => by have := h3 y hy; rw [q, h.live hx] at this; cases this
      simp only [this, if_false]; exact h3 y hy
theorem TyOk.same {Z : TyMap} {M M' : MM} {p q : Nat} (h : TyOk Z M) (hp : Z p = none) (hq : Z q = none) (s : Same M M' p q) : TyOk Z M' where
  row := fun a n ha => by
    obtain ⟨g, hg⟩ := h.row a n ha
    exact ⟨g, by rw [s a (fun e => by rw [e, hp] at ha; cases ha) (fun e => by rw [e, hq] at ha; cases ha)]; exact hg⟩
  grid := fun a r n ha => by
    obtain ⟨l, h1, h2, h3⟩ := h.grid a r n ha
    exact ⟨l, h1, by rw [s a (fun e => by rw [e, hp] at ha; cases ha) (fun e => by rw [e, hq] at ha; cases ha)]; exact h2, h3⟩
/-- the four grids and the first bits -/
structure Box (Z : TyMap) (M : MM) (p q A B C E F n k m : Nat) : Prop where
  ok : TyOk Z M
  p : Z p = none
  q : Z q = none
  a : Z A = some (.grid n n)
  b : Z B = some (.grid k n)
  c : Z C = some (.grid n m)
  e : Z E = some (.grid k m)
  f : Z F = some (.row n)
theorem TyOk.ref {Z : TyMap} {M : MM} (h : TyOk Z M) {a n : Nat} (ha : Z a = some (.row n)) {M' : MM} {d : D} (he : d = .ref a) : ∃ f, asS M d = some (bitL n f) ∧ M a = some (.lst (bitL n f)) := by
  obtain ⟨f, hf⟩ := h.row a n ha
  exact ⟨f, by rw [he]; exact as_ref hf, hf⟩
def c__law_turned : CT := fun ds M P => ∃ (Z : TyMap) (p q N A B C E F n k m : Nat), ds = [.ref p, .lst [.ref A, .ref B, .ref C, .ref F]] ∧ Box Z M p q A B C E F n k m ∧ Pen M p q N ∧ N ≤ 1000 ∧ n ≤ 10 ∧ k ≤ 10 ∧ m ≤ 10 ∧
  ∀ Z' M', Box Z' M' p q A B C E F n k m → Pen M' p q (N + 20) → P .non M'
theorem l__law_turned (ds : List D) (M : MM) (Q : PQ) (h : c__law_turned ds M Q) : ds.length = 2 := by
  obtain ⟨_, _, _, _, _, _, _, _, _, _, _, _, rfl, _⟩ := h; rfl
theorem k__law_turned : Keeps 10 (b__law_turned c__law_draw c__law_added) c__law_turned := by
  rintro ds M P ⟨Z, p, q, N, A, B, C, E, F, n, k, m, rfl, box, pen, hN, hn, hk, hm, hp⟩
  unfold b__law_turned
  (conv => whnf)
  refine ⟨rfl, ?_⟩
  (conv => whnf)
  refine ⟨p, q, N, 6, rfl, pen, by omega, by omega, by omega, ?_⟩
  intro r M1 hr pen1 same1
  (conv => whnf)
  refine ⟨by omega, ?_⟩
  refine ⟨fun i ρ M' => ∃ Z' o6 o7 o8 o9, Box Z' M' p q A B C E F n k m ∧ Pen M' p q (N + 1 + 2 * i) ∧ ρ = [some (.ref p), some (.lst [.ref A, .ref B, .ref C, .ref F]), some (.ref A), some (.ref B), some (.ref C), some (.ref F), o6, o7, o8, o9], ⟨Z, none, none, none, none, ⟨box.ok.same box.p box.q same1, box.p, box.q, box.a, box.b, box.c, box.e, box.f⟩, pen1, rfl⟩, ?_, ?_⟩
  · rintro i y ρ M' hy ⟨Z, o6, o7, o8, o9, box, pen, rfl⟩
    obtain ⟨hi, rfl⟩ := rng_get (rangeD_nat _ ▸ hy)
    obtain ⟨as, hla, hma, hra⟩ := box.ok.grid A n n box.a
    (conv => whnf); try dsimp only
    rw [as_ref hma]
    (conv => whnf)
    refine ⟨p, q, _, n + 1, ?_, pen, by omega, by omega, by omega, ?_⟩
    · show [D.ref p, D.int (((as.map D.ref).length : Int) + 1)] = _
      rw [List.length_map, hla]; rfl
    intro x M2 hx pen2 same2
    have box2 : Box Z M2 p q A B C E F n k m := ⟨box.ok.same box.p box.q same2, box.p, box.q, box.a, box.b, box.c, box.e, box.f⟩
    have hma2 : M2 A = some (.lst (as.map D.ref)) := by rw [same2 A (fun e => by have := box.a; rw [e, box.p] at this; cases this) (fun e => by have := box.a; rw [e, box.q] at this; cases this)]; exact hma
    (conv => whnf); try dsimp only
    rw [as_ref hma2]
    (conv => whnf)
    refine ⟨p, q, _, n + 1, ?_, pen2, by omega, by omega, by omega, ?_⟩
    · show [D.ref p, D.int (((as.map D.ref).length : Int) + 1)] = _
      rw [List.length_map, hla]; rfl
    intro z M3 hz pen3 same3
    have box3 : Box Z M3 p q A B C E F n k m := ⟨box2.ok.same box.p box.q same3, box.p, box.q, box.a, box.b, box.c, box.e, box.f⟩
    have pen3' : Pen M3 p q (N + 1 + 2 * (i + 1)) := pen3.mono (by omega)
    clear pen2 pen
    have pz : Z p = none := box.p
    have qz : Z q = none := box.q
    obtain ⟨as, hla, hma, hra⟩ := box3.ok.grid A n n box3.a
    obtain ⟨bs, hlb, hmb, hrb⟩ := box3.ok.grid B k n box3.b
    (conv => whnf); try dsimp only
    cases e1 : decide ((x : Int) = (z : Int)) with
    | true =>
      exact ⟨Z, _, _, _, _, box3, pen3', rfl⟩
    | false =>
      (conv => whnf); try dsimp only
      rw [as_ref hma]
      (conv => whnf); try dsimp only
      cases e2 : decide ((if (z : Int) > (x : Int) then (z : Int) else (x : Int)) < ((as.map D.ref).length : Int)) with
      | false => exact ⟨Z, _, _, _, _, box3, pen3', rfl⟩
      | true =>
        have hxz : x < n ∧ z < n := by
          have := of_decide_eq_true e2
          rw [List.length_map, hla] at this
          split at this <;> omega
        obtain ⟨hxn, hzn⟩ := hxz
        clear same2 same3 pen3 box2 box hma2
        (conv => whnf); try dsimp only
        rw [show asL M3 (.ref A) = some (as.map D.ref) from as_ref hma]
        (conv => whnf); try dsimp only
        rw [show asL M3 (.ref B) = some (bs.map D.ref) from as_ref hmb]
        (conv => whnf)
        refine ⟨by rw [List.length_map, List.length_map]; show _ ≤ 100000; omega, ?_⟩
        (conv => whnf)
        refine ⟨by show 1 ≤ 100000; decide, ?_⟩
        (conv => whnf)
        refine ⟨by rw [List.length_append, List.length_map, List.length_map]; show _ + 1 ≤ 100000; omega, ?_⟩
        have rows : ∀ d, d ∈ as.map D.ref ++ bs.map D.ref ++ [D.ref F] → ∃ w, d = .ref w ∧ Z w = some (.row n) := by
          intro d hd
          rcases List.mem_append.mp hd with hd | hd
          · rcases List.mem_append.mp hd with hd | hd
            · obtain ⟨w, hw, rfl⟩ := List.mem_map.mp hd; exact ⟨w, rfl, hra w hw⟩
            · obtain ⟨w, hw, rfl⟩ := List.mem_map.mp hd; exact ⟨w, rfl, hrb w hw⟩
          · cases List.mem_singleton.mp hd; exact ⟨F, rfl, box3.f⟩
        refine ⟨fun t ρ M' => ∃ o9, Box Z M' p q A B C E F n k m ∧ Pen M' p q (N + 1 + 2 * (i + 1)) ∧ ρ = [some (.ref p), some (.lst [.ref A, .ref B, .ref C, .ref F]), some (.ref A), some (.ref B), some (.ref C), some (.ref F), some (nI i), some (nI x), some (nI z), o9], ⟨_, box3, pen3', rfl⟩, ?_, ?_⟩
        · rintro t y ρ M' hy ⟨o9, bx, pn, rfl⟩
          obtain ⟨w, rfl, hw⟩ := rows y (List.mem_of_getElem? hy)
          obtain ⟨g, hg⟩ := bx.ok.row w n hw
          have wp : w ≠ p := fun e => by rw [e, pz] at hw; cases hw
          have wq : w ≠ q := fun e => by rw [e, qz] at hw; cases hw
          (conv => whnf); try dsimp only
          rw [as_ref hg]
          (conv => whnf); try dsimp only
          rw [ix_nat, rng_at hzn]
          (conv => whnf); try dsimp only
          rw [as_ref hg]
          (conv => whnf); try dsimp only
          rw [ix_nat, rng_at hxn]
          (conv => whnf); try dsimp only
          rw [hg]
          (conv => whnf); try dsimp only
          rw [rng_len, ixn hzn]
          have ex : D.int (Builtin.bitXor (((g z).toNat : Nat) : Int) (((g x).toNat : Nat) : Int)) = bN (xor (g z) (g x)) := by
            rw [i_xor]; cases g z <;> cases g x <;> rfl
          (conv => whnf); try dsimp only
          rw [ex, bitL_set]
          exact ⟨_, ⟨bx.ok.updRow hw _, pz, qz, bx.a, bx.b, bx.c, bx.e, bx.f⟩, pn.upd wp wq, rfl⟩
        · rintro ρ M' ⟨o9, bx, pn, rfl⟩
          obtain ⟨as, hla, hma, hra⟩ := bx.ok.grid A n n bx.a
          have hax : as[x]? = some (as.getD x 0) := getD_at (by omega)
          have haz : as[z]? = some (as.getD z 0) := getD_at (by omega)
          have hzx := hra _ (getD_mem (l := as) (k := x) (by omega))
          have hzz := hra _ (getD_mem (l := as) (k := z) (by omega))
          obtain ⟨g1, hg1⟩ := bx.ok.row _ n hzx
          obtain ⟨g2, hg2⟩ := bx.ok.row _ n hzz
          (conv => whnf); try dsimp only
          rw [as_ref hma]
          (conv => whnf); try dsimp only
          rw [ix_nat, List.getElem?_map, hax]
          (conv => whnf); try dsimp only
          rw [as_ref hma]
          (conv => whnf); try dsimp only
          rw [ix_nat, List.getElem?_map, haz]
          (conv => whnf)
          refine ⟨by show 2 ≤ 100000; decide, ?_⟩
          (conv => whnf); try dsimp only
          rw [as_ref hma]
          (conv => whnf)
          refine ⟨[(.ref (as.getD x 0), g1), (.ref (as.getD z 0), g2)], n, n, .inl ?_, ?_, Nat.le_refl _, by omega, ?_⟩
          · show [_, D.int (((as.map D.ref).length : Nat) : Int)] = _
            rw [List.length_map, hla]; rfl
          · intro pr hpr
            rcases List.mem_cons.mp hpr with rfl | hpr
            · exact as_ref hg1
            · cases List.mem_singleton.mp hpr; exact as_ref hg2
          intro u hu
          have uA : A ≠ u := fun e => by rw [← e, hma] at hu; cases hu
          have up := pn.ne hu
          (conv => whnf); try dsimp only
          rw [MM.upd_ne uA, hma]
          (conv => whnf); try dsimp only
          rw [List.length_map, hla, ixn hxn]
          dsimp only
          have zu := bx.ok.live hu
          have ok1 := bx.ok.new hu n (fun j => xg [(D.ref (as.getD x 0), g1), (.ref (as.getD z 0), g2)] fun pr => pr.2 j)
          have keep : ∀ {h : Nat} {t : Ty}, Z h = some t → (if h = u then some (Ty.row n) else Z h) = some t := fun {h t} hh => by
            have : h ≠ u := fun e => by rw [e, zu] at hh; cases hh
            rw [if_neg this]; exact hh
          have ok2 := ok1.updGrid (x := A) (r := n) (n := n) (keep bx.a) (as.set x u) (by rw [List.length_set]; exact hla) (fun y hy => by
            rcases List.mem_or_eq_of_mem_set hy with hy | rfl
            · exact keep (hra y hy)
            · exact if_pos rfl)
          have pn2 := (pn.upd (a := u) (o := .lst (bitL n fun j => xg [(D.ref (as.getD x 0), g1), (.ref (as.getD z 0), g2)] fun pr => pr.2 j)) up.1 up.2).upd (a := A) (o := .lst ((as.set x u).map D.ref)) (fun e => by have := bx.a; rw [e, pz] at this; cases this) (fun e => by have := bx.a; rw [e, qz] at this; cases this)
          rw [show ((as.map D.ref).set x (D.ref u)) = (as.set x u).map D.ref from (List.map_set ..).symm]
          generalize hM4 : (M'.upd u (.lst (bitL n fun j => xg [(D.ref (as.getD x 0), g1), (.ref (as.getD z 0), g2)] fun pr => pr.2 j))).upd A (.lst ((as.set x u).map D.ref)) = M4 at ok2 pn2 ⊢
          generalize hZ1 : (fun a => if a = u then some (Ty.row n) else Z a) = Z1 at ok2
          have k1 : ∀ {h : Nat} {t : Ty}, Z h = some t → Z1 h = some t := fun {h t} hh => by rw [← hZ1]; exact keep hh
          have pz1 : Z1 p = none := by rw [← hZ1]; show (if p = u then _ else Z p) = none; rw [if_neg fun e => up.1 e.symm]; exact pz
          have qz1 : Z1 q = none := by rw [← hZ1]; show (if q = u then _ else Z q) = none; rw [if_neg fun e => up.2 e.symm]; exact qz
          obtain ⟨cs, hlc, hmc, hrc⟩ := ok2.grid C n m (k1 bx.c)
          have hcx : cs[x]? = some (cs.getD x 0) := getD_at (by omega)
          have hcz : cs[z]? = some (cs.getD z 0) := getD_at (by omega)
          have hzx := hrc _ (getD_mem (l := cs) (k := x) (by omega))
          have hzz := hrc _ (getD_mem (l := cs) (k := z) (by omega))
          obtain ⟨g3, hg3⟩ := ok2.row _ m hzx
          obtain ⟨g4, hg4⟩ := ok2.row _ m hzz
          (conv => whnf); try dsimp only
          rw [as_ref hmc]
          (conv => whnf); try dsimp only
          rw [ix_nat, List.getElem?_map, hcx]
          (conv => whnf); try dsimp only
          rw [as_ref hmc]
          (conv => whnf); try dsimp only
          rw [ix_nat, List.getElem?_map, hcz]
          (conv => whnf)
          refine ⟨by show 2 ≤ 100000; decide, ?_⟩
          (conv => whnf); try dsimp only
          rw [as_ref hmc]
          (conv => whnf); try dsimp only
          rw [ix_nat, List.getElem?_map, hcx]
          (conv => whnf); try dsimp only
          rw [as_ref hg3]
          (conv => whnf)
          refine ⟨[(.ref (cs.getD x 0), g3), (.ref (cs.getD z 0), g4)], m, m, .inl ?_, ?_, Nat.le_refl _, by omega, ?_⟩
          · show [_, D.int (((bitL m g3).length : Nat) : Int)] = _
            rw [rng_len]; rfl
          · intro pr hpr
            rcases List.mem_cons.mp hpr with rfl | hpr
            · exact as_ref hg3
            · cases List.mem_singleton.mp hpr; exact as_ref hg4
          intro v hv
          have vC : C ≠ v := fun e => by rw [← e, hmc] at hv; cases hv
          have vp := pn2.ne hv
          (conv => whnf); try dsimp only
          rw [MM.upd_ne vC, hmc]
          (conv => whnf); try dsimp only
          rw [List.length_map, hlc, ixn hxn]
          dsimp only
          have zv := ok2.live hv
          have ok3 := ok2.new hv m (fun j => xg [(D.ref (cs.getD x 0), g3), (.ref (cs.getD z 0), g4)] fun pr => pr.2 j)
          have keep2 : ∀ {h : Nat} {t : Ty}, Z1 h = some t → (if h = v then some (Ty.row m) else Z1 h) = some t := fun {h t} hh => by
            have : h ≠ v := fun e => by rw [e, zv] at hh; cases hh
            rw [if_neg this]; exact hh
          have ok4 := ok3.updGrid (x := C) (r := n) (n := m) (keep2 (k1 bx.c)) (cs.set x v) (by rw [List.length_set]; exact hlc) (fun y hy => by
            rcases List.mem_or_eq_of_mem_set hy with hy | rfl
            · exact keep2 (hrc y hy)
            · exact if_pos rfl)
          have pn3 := (pn2.upd (a := v) (o := .lst (bitL m fun j => xg [(D.ref (cs.getD x 0), g3), (.ref (cs.getD z 0), g4)] fun pr => pr.2 j)) vp.1 vp.2).upd (a := C) (o := .lst ((cs.set x v).map D.ref)) (fun e => by have := k1 bx.c; rw [e, pz1] at this; cases this) (fun e => by have := k1 bx.c; rw [e, qz1] at this; cases this)
          rw [show ((cs.map D.ref).set x (D.ref v)) = (cs.set x v).map D.ref from (List.map_set ..).symm]
          refine ⟨_, _, _, _, _, ⟨ok4, ?_, ?_, keep2 (k1 bx.a), keep2 (k1 bx.b), keep2 (k1 bx.c), keep2 (k1 bx.e), keep2 (k1 bx.f)⟩, pn3, rfl⟩
          · show (if p = v then _ else Z1 p) = none; rw [if_neg fun e => vp.1 e.symm]; exact pz1
          · show (if q = v then _ else Z1 q) = none; rw [if_neg fun e => vp.2 e.symm]; exact qz1
  · rintro ρ M' ⟨Z', o6, o7, o8, o9, box', pen', rfl⟩
    refine fin_nx (hp Z' M' box' (pen'.mono ?_))
    rw [rangeD_nat, rng_len]; omega
end BB
end
section
/-! contracts: wired -/
namespace BB
open PySem DL
theorem TyOk.fn {Z : TyMap} {M : MM} (h : TyOk Z M) {a r n : Nat} (ha : Z a = some (.grid r n)) : ∃ (l : List Nat) (f : Nat → Nat → Bool), l.length = r ∧ M a = some (.lst (l.map D.ref)) ∧ ∀ i, i < r → M (l.getD i 0) = some (.lst (bitL n (f i))) := by
  obtain ⟨l, h1, h2, h3⟩ := h.grid a r n ha
  have : ∀ i : Nat, ∃ f : Nat → Bool, i < r → M (l.getD i 0) = some (.lst (bitL n f)) := fun i => by
    by_cases hi : i < r
    · obtain ⟨f, hf⟩ := h.row _ n (h3 _ (getD_mem (l := l) (k := i) (by omega))); exact ⟨f, fun _ => hf⟩
    · exact ⟨fun _ => false, fun q => absurd q hi⟩
  exact ⟨l, fun i => Classical.choose (this i), h1, h2, fun i hi => Classical.choose_spec (this i) hi⟩
/-- wires as they are laid: sums list none but the first kn -/
structure Laid (Lt kn : Nat) (W : List Wire) : Prop where
  src : ∀ w, w ∈ W → ∀ x, x ∈ w.srcs → x < Lt
  bit : ∀ s b, Wire.cell s b ∈ W → b ≤ 1
  sums : ∀ l, Wire.sum l ∈ W → (∀ x, x ∈ l → x < kn) ∧ l.length ≤ 20
theorem Laid.snoc {Lt kn : Nat} {W : List Wire} (h : Laid Lt kn W) {w : Wire} (h1 : ∀ x, x ∈ w.srcs → x < Lt) (h2 : ∀ s b, w = .cell s b → b ≤ 1) (h3 : ∀ l, w = .sum l → (∀ x, x ∈ l → x < kn) ∧ l.length ≤ 20) : Laid Lt kn (W ++ [w]) where
  src := fun v hv => by
    rcases List.mem_append.mp hv with hv | hv
    · exact h.src v hv
    · cases List.mem_singleton.mp hv; exact h1
  bit := fun s b hv => by
    rcases List.mem_append.mp hv with hv | hv
    · exact h.bit s b hv
    · exact h2 s b (List.mem_singleton.mp hv).symm
  sums := fun l hv => by
    rcases List.mem_append.mp hv with hv | hv
    · exact h.sums l hv
    · exact h3 l (List.mem_singleton.mp hv).symm
theorem laid_ok {k n sp s m : Nat} {W : List Wire} {o : List Nat} (h : Laid (k + n + sp + s) (k + n) W) (hk : W.map kOf = List.replicate k 0 ++ List.replicate (n + sp) 1 ++ List.replicate s 2) (hL : k + n + sp + s ≤ 16) (hc : n + sp ≤ 5) (ho : ∀ x, x ∈ o → x < k + n + sp + s) (hm : o.length ≤ 3) :
    NetOk W o ∧ (insOf W).length = k := by
  have hl : W.length = k + n + sp + s := by
    have := congrArg List.length hk
    rw [List.length_map, List.length_append, List.length_append, List.length_replicate, List.length_replicate, List.length_replicate] at this; omega
  have c0 : (insOf W).length = k := by
    rw [ins_len_of, hk, List.count_append, List.count_append, List.count_replicate, List.count_replicate, List.count_replicate]; simp
  have c1 : (cellsOf W).length = n + sp := by
    rw [cells_len_of, hk, List.count_append, List.count_append, List.count_replicate, List.count_replicate, List.count_replicate]; simp
  refine ⟨⟨⟨fun w hw x hx => by rw [hl]; exact h.src w hw x hx, h.bit, by omega, fun l hl' => by have := (h.sums l hl').2; omega⟩, noflip_lt fun v l hv x hx => ?_, fun x hx => by rw [hl]; exact ho x hx, by omega, hm⟩, c0⟩
  have hx' := (h.sums l (List.mem_of_getElem? hv)).1 x hx
  have hkv : (W.map kOf)[v]? = some 2 := by rw [List.getElem?_map, hv]; rfl
  rcases Nat.lt_or_ge v (k + n + sp) with q | q
  · rw [hk, List.getElem?_append_left (by rw [List.length_append, List.length_replicate, List.length_replicate]; omega)] at hkv
    rcases Nat.lt_or_ge v k with z | z
    · rw [List.getElem?_append_left (by rw [List.length_replicate]; omega), List.getElem?_replicate] at hkv; simp [z] at hkv
    · rw [List.getElem?_append_right (by rw [List.length_replicate]; omega), List.getElem?_replicate, List.length_replicate] at hkv
      rw [if_pos (by omega)] at hkv; cases hkv
  · omega
def c__law_wired : CT := fun ds M P => ∃ (Z : TyMap) (p q A B C E F n k m sp : Nat), ds = [.lst [.ref A, .ref B, .ref C, .ref E, nI m], .ref F, nI sp] ∧ Box Z M p q A B C E F n k m ∧ k ≤ 2 ∧ n ≤ 4 ∧ sp ≤ 1 ∧ m ≤ 3 ∧
  ∀ W o, NetOk W o → (insOf W).length = k → o.length = m → P (netP W o) M
theorem l__law_wired (ds : List D) (M : MM) (Q : PQ) (h : c__law_wired ds M Q) : ds.length = 3 := by
  obtain ⟨_, _, _, _, _, _, _, _, _, _, _, _, rfl, _⟩ := h; rfl
theorem rep_inp (k : Nat) : (List.replicate k [D.tup [D.str "in"]]).flatten = (List.replicate k Wire.inp).map wireD := by
  rw [rep_rows, List.map_replicate]
  induction k with
  | zero => rfl
  | succ k ih => rw [List.range_succ, List.map_append, ih, List.replicate_succ']; rfl
theorem k__law_wired : Keeps 17 b__law_wired c__law_wired := by
  rintro ds M P ⟨Z, p, q, A, B, C, E, F, n, k, m, sp, rfl, box, hk, hn, hsp, hm, hp⟩
  obtain ⟨as, fa, hla, hma, hra⟩ := box.ok.fn box.a
  obtain ⟨bs, fb, hlb, hmb, hrb⟩ := box.ok.fn box.b
  obtain ⟨cs, fc, hlc, hmc, hrc⟩ := box.ok.fn box.c
  obtain ⟨es, fe, hle, hme, hre⟩ := box.ok.fn box.e
  obtain ⟨ff, hmf⟩ := box.ok.row F n box.f
  unfold b__law_wired
  (conv => whnf)
  refine ⟨rfl, ?_⟩
  (conv => whnf); try dsimp only
  rw [as_ref hma]
  (conv => whnf); try dsimp only
  rw [as_ref hmb]
  have e1 : (k : Int) + (n : Int) + (sp : Int) = ((k + n + sp : Nat) : Int) := by omega
  (conv => whnf); try dsimp only
  rw [List.length_map, List.length_map, hla, hlb, e1]
  refine ⟨by show 1 ≤ 100000; decide, ?_⟩
  (conv => whnf)
  refine ⟨by show 1 ≤ 100000; decide, ?_⟩
  (conv => whnf); try dsimp only
  rw [as_ref hmb]
  (conv => whnf); try dsimp only
  rw [List.length_map, hlb]
  refine ⟨Int.natCast_nonneg _, by show (k : Int) ≤ 100000; omega, by show 1 * (k : Int).toNat ≤ 100000; omega, ?_⟩
  intro w hw
  rw [Int.toNat_natCast, rep_inp]
  have live : ∀ {x : Nat} {o : MO}, M x = some o → ∀ o', (M.upd w o') x = some o := fun {x o} hx o' => by
    have : x ≠ w := fun e => by rw [e, hw] at hx; cases hx
    rw [MM.upd_ne this]; exact hx
  have l0 : Laid (k + n + sp + (n + m)) (k + n) (List.replicate k Wire.inp) := ⟨fun v hv x hx => (by rw [(List.mem_replicate.mp hv).2] at hx; cases hx), fun s b hv => (by have h := (List.mem_replicate.mp hv).2; cases h), fun l hv => (by have h := (List.mem_replicate.mp hv).2; cases h)⟩
  have k0 : (List.replicate k Wire.inp).map kOf = List.replicate k 0 := List.map_replicate ..
  (conv => whnf)
  refine ⟨by omega, ?_⟩
  refine ⟨fun i ρ M' => ∃ W o11, Laid (k + n + sp + (n + m)) (k + n) W ∧ W.map kOf = List.replicate k 0 ++ List.replicate i 1 ∧ M' = M.upd w (.lst (W.map wireD)) ∧ ρ = [some (.lst [.ref A, .ref B, .ref C, .ref E, nI m]), some (.ref F), some (nI sp), some (.ref A), some (.ref B), some (.ref C), some (.ref E), some (nI m), some (nI n), some (nI (k + n + sp)), some (.ref w), o11, none, none, none, none, none], ⟨_, none, l0, by rw [k0]; simp, rfl, rfl⟩, ?_, ?_⟩
  · rintro i y ρ M' hy ⟨W, o11, hW, hkW, rfl, rfl⟩
    obtain ⟨hi, rfl⟩ := rng_get (rangeD_nat _ ▸ hy)
    have hWl : W.length = k + i := by have := congrArg List.length hkW; rw [List.length_map, List.length_append, List.length_replicate, List.length_replicate] at this; exact this
    (conv => whnf)
    refine ⟨isl_ref MM.upd_same, ?_⟩
    (conv => whnf); try dsimp only
    rw [as_ref (live hmf _)]
    (conv => whnf); try dsimp only
    rw [ix_nat, rng_at hi]
    (conv => whnf)
    refine ⟨by show 3 ≤ 100000; decide, ?_⟩
    (conv => whnf); try dsimp only
    rw [MM.upd_same]
    refine ⟨by rw [List.length_map]; show _ < 100000; omega, ?_⟩
    refine ⟨W ++ [.cell (k + n + sp + i) (ff i).toNat], _, hW.snoc (fun x hx => by cases List.mem_singleton.mp hx; omega) (fun s b h => by cases h; exact Bool.toNat_le _) (fun l h => nomatch h), ?_, ?_, rfl⟩
    · rw [List.map_append, hkW, List.append_assoc, List.replicate_succ' (n := i)]; rfl
    · rw [MM.upd_upd, List.map_append]; rfl
  · rintro ρ M' ⟨W, o11, hW, hkW, rfl, rfl⟩
    rw [rangeD_nat, rng_len] at hkW
    (conv => whnf)
    refine ⟨by omega, ?_⟩
    refine ⟨fun i ρ M' => ∃ W o12, Laid (k + n + sp + (n + m)) (k + n) W ∧ W.map kOf = List.replicate k 0 ++ List.replicate (n + i) 1 ∧ M' = M.upd w (.lst (W.map wireD)) ∧ ρ = [some (.lst [.ref A, .ref B, .ref C, .ref E, nI m]), some (.ref F), some (nI sp), some (.ref A), some (.ref B), some (.ref C), some (.ref E), some (nI m), some (nI n), some (nI (k + n + sp)), some (.ref w), o11, o12, none, none, none, none], ⟨_, none, hW, hkW, rfl, rfl⟩, ?_, ?_⟩
    · rintro i y ρ M' hy ⟨W, o12, hW, hkW, rfl, rfl⟩
      obtain ⟨hi, rfl⟩ := rng_get (rangeD_nat _ ▸ hy)
      have hi0 : i = 0 := by omega
      subst hi0
      have hWl : W.length = k + (n + 0) := by have := congrArg List.length hkW; rw [List.length_map, List.length_append, List.length_replicate, List.length_replicate] at this; exact this
      (conv => whnf)
      refine ⟨isl_ref MM.upd_same, ?_⟩
      (conv => whnf)
      refine ⟨by show 2 ≤ 100000; decide, ?_⟩
      (conv => whnf)
      refine ⟨by show 3 ≤ 100000; decide, ?_⟩
      (conv => whnf); try dsimp only
      rw [MM.upd_same]
      refine ⟨by rw [List.length_map]; show _ < 100000; omega, ?_⟩
      refine ⟨W ++ [.cell 0 0], _, hW.snoc (fun x hx => by cases List.mem_singleton.mp hx; omega) (fun s b h => by cases h; omega) (fun l h => nomatch h), ?_, ?_, rfl⟩
      · rw [List.map_append, hkW, List.append_assoc, show n + (0 + 1) = (n + 0) + 1 from rfl, List.replicate_succ' (n := n + 0)]; rfl
      · rw [MM.upd_upd, List.map_append]; rfl
    · rintro ρ M' ⟨W, o12, hW, hkW, rfl, rfl⟩
      rw [rangeD_nat, rng_len] at hkW
      (conv => whnf)
      refine ⟨by omega, ?_⟩
      refine ⟨fun i ρ M' => ∃ W o13 o14, Laid (k + n + sp + (n + m)) (k + n) W ∧ W.map kOf = List.replicate k 0 ++ List.replicate (n + sp) 1 ++ List.replicate (0 + i) 2 ∧ M' = M.upd w (.lst (W.map wireD)) ∧ ρ = [some (.lst [.ref A, .ref B, .ref C, .ref E, nI m]), some (.ref F), some (nI sp), some (.ref A), some (.ref B), some (.ref C), some (.ref E), some (nI m), some (nI n), some (nI (k + n + sp)), some (.ref w), o11, o12, o13, o14, none, none], ⟨W, none, none, hW, by rw [hkW]; simp, rfl, rfl⟩, ?_, ?_⟩
      · rintro i y ρ M' hy ⟨W, o13, o14, hW, hkW, rfl, rfl⟩
        obtain ⟨hi, rfl⟩ := rng_get (rangeD_nat _ ▸ hy)
        have hWl : W.length = k + (n + sp) + (0 + i) := by have := congrArg List.length hkW; rw [List.length_map, List.length_append, List.length_append, List.length_replicate, List.length_replicate, List.length_replicate] at this; exact this
        (conv => whnf); try dsimp only
        rw [as_ref (live hmb _)]
        (conv => whnf)
        refine ⟨by rw [List.length_map]; omega, ?_⟩
        refine lcI_fil k (fun t => fb t i) nI (by rw [rangeD_nat, rng_len, List.length_map, hlb]) ?_ ?_
        · intro t y Qt Qf hy ht hf
          obtain ⟨ht', rfl⟩ := rng_get (rangeD_nat _ ▸ hy)
          rw [List.length_map, hlb] at ht'
          (conv => whnf); try dsimp only
          rw [as_ref (live hmb _)]
          (conv => whnf); try dsimp only
          rw [ix_nat, List.getElem?_map, getD_at (by omega)]
          (conv => whnf); try dsimp only
          rw [as_ref (live (hrb t ht') _)]
          (conv => whnf); try dsimp only
          rw [ix_nat, rng_at hi]
          (conv => whnf); try dsimp only
          rw [one_eq]
          cases e : fb t i
          · exact hf e
          · exact ht e
        (conv => whnf)
        refine ⟨by omega, ?_⟩
        refine lcI_fil n (fun t => fa t i) (fun t => nI (k + t)) (by rw [rangeD_nat, rng_len]) ?_ ?_
        · intro t y Qt Qf hy ht hf
          obtain ⟨ht', rfl⟩ := rng_get (rangeD_nat _ ▸ hy)
          (conv => whnf); try dsimp only
          rw [as_ref (live hma _)]
          (conv => whnf); try dsimp only
          rw [ix_nat, List.getElem?_map, getD_at (by omega)]
          (conv => whnf); try dsimp only
          rw [as_ref (live (hra t ht') _)]
          (conv => whnf); try dsimp only
          rw [ix_nat, rng_at hi]
          (conv => whnf); try dsimp only
          rw [one_eq]
          cases e : fa t i
          · exact hf e
          · (conv => whnf); try dsimp only
            rw [as_ref (live hmb _)]
            (conv => whnf); try dsimp only
            rw [List.length_map, hlb]
            exact ht e
        rw [show (((List.range n).filter fun t => fa t i).map fun t => nI (k + t)) = (((List.range n).filter fun t => fa t i).map fun t => k + t).map nI by rw [List.map_map]; rfl]
        have q1 : ((List.range k).filter fun t => fb t i).length ≤ k := by
          have := List.length_filter_le (fun t => fb t i) (List.range k); rwa [List.length_range] at this
        have q2 : (((List.range n).filter fun t => fa t i).map fun t => k + t).length ≤ n := by
          rw [List.length_map]
          have := List.length_filter_le (fun t => fa t i) (List.range n); rwa [List.length_range] at this
        (conv => whnf)
        refine ⟨by rw [List.length_map, List.length_map (f := nI)]; show _ ≤ 100000; omega, ?_⟩
        rw [← List.map_append]
        (conv => whnf)
        refine ⟨isl_ref MM.upd_same, ?_⟩
        (conv => whnf)
        refine ⟨by show 1 ≤ 100000; decide, ?_⟩
        (conv => whnf)
        refine ⟨by rw [List.length_map, List.length_append]; show 1 + _ ≤ 100000; omega, ?_⟩
        (conv => whnf); try dsimp only
        rw [MM.upd_same]
        refine ⟨by rw [List.length_map]; show _ < 100000; omega, ?_⟩
        have mem : ∀ x, x ∈ ((List.range k).filter fun t => fb t i) ++ (((List.range n).filter fun t => fa t i).map fun t => k + t) → x < k + n := fun x hx => by
          rcases List.mem_append.mp hx with hx | hx
          · have := List.mem_range.mp (List.mem_filter.mp hx).1; omega
          · obtain ⟨t, ht, rfl⟩ := List.mem_map.mp hx
            have := List.mem_range.mp (List.mem_filter.mp ht).1; omega
        refine ⟨W ++ [.sum (((List.range k).filter fun t => fb t i) ++ (((List.range n).filter fun t => fa t i).map fun t => k + t))], _, _, hW.snoc (fun x hx => by have := mem x hx; omega) (fun s b h => nomatch h) (fun l h => by cases h; exact ⟨mem, by rw [List.length_append]; omega⟩), ?_, ?_, rfl⟩
        · rw [List.map_append, hkW, List.append_assoc, ← Nat.add_assoc, List.replicate_succ' (n := 0 + i)]; rfl
        · rw [MM.upd_upd, List.map_append (f := wireD)]; rfl
      · rintro ρ M' ⟨W, o13, o14, hW, hkW, rfl, rfl⟩
        rw [rangeD_nat, rng_len] at hkW
        (conv => whnf)
        refine ⟨by omega, ?_⟩
        refine ⟨fun i ρ M' => ∃ W o14 o16, Laid (k + n + sp + (n + m)) (k + n) W ∧ W.map kOf = List.replicate k 0 ++ List.replicate (n + sp) 1 ++ List.replicate (n + i) 2 ∧ M' = M.upd w (.lst (W.map wireD)) ∧ ρ = [some (.lst [.ref A, .ref B, .ref C, .ref E, nI m]), some (.ref F), some (nI sp), some (.ref A), some (.ref B), some (.ref C), some (.ref E), some (nI m), some (nI n), some (nI (k + n + sp)), some (.ref w), o11, o12, o13, o14, none, o16], ⟨W, o14, none, hW, by rw [hkW]; simp, rfl, rfl⟩, ?_, ?_⟩
        · rintro i y ρ M' hy ⟨W, o14, o16, hW, hkW, rfl, rfl⟩
          obtain ⟨hi, rfl⟩ := rng_get (rangeD_nat _ ▸ hy)
          have hWl : W.length = k + (n + sp) + (n + i) := by have := congrArg List.length hkW; rw [List.length_map, List.length_append, List.length_append, List.length_replicate, List.length_replicate, List.length_replicate] at this; exact this
          (conv => whnf); try dsimp only
          rw [as_ref (live hmb _)]
          (conv => whnf)
          refine ⟨by rw [List.length_map]; omega, ?_⟩
          refine lcI_fil k (fun t => fe t i) nI (by rw [rangeD_nat, rng_len, List.length_map, hlb]) ?_ ?_
          · intro t y Qt Qf hy ht hf
            obtain ⟨ht', rfl⟩ := rng_get (rangeD_nat _ ▸ hy)
            rw [List.length_map, hlb] at ht'
            (conv => whnf); try dsimp only
            rw [as_ref (live hme _)]
            (conv => whnf); try dsimp only
            rw [ix_nat, List.getElem?_map, getD_at (by omega)]
            (conv => whnf); try dsimp only
            rw [as_ref (live (hre t ht') _)]
            (conv => whnf); try dsimp only
            rw [ix_nat, rng_at hi]
            (conv => whnf); try dsimp only
            rw [one_eq]
            cases e : fe t i
            · exact hf e
            · exact ht e
          (conv => whnf)
          refine ⟨by omega, ?_⟩
          refine lcI_fil n (fun t => fc t i) (fun t => nI (k + t)) (by rw [rangeD_nat, rng_len]) ?_ ?_
          · intro t y Qt Qf hy ht hf
            obtain ⟨ht', rfl⟩ := rng_get (rangeD_nat _ ▸ hy)
            (conv => whnf); try dsimp only
            rw [as_ref (live hmc _)]
            (conv => whnf); try dsimp only
            rw [ix_nat, List.getElem?_map, getD_at (by omega)]
            (conv => whnf); try dsimp only
            rw [as_ref (live (hrc t ht') _)]
            (conv => whnf); try dsimp only
            rw [ix_nat, rng_at hi]
            (conv => whnf); try dsimp only
            rw [one_eq]
            cases e : fc t i
            · exact hf e
            · (conv => whnf); try dsimp only
              rw [as_ref (live hmb _)]
              (conv => whnf); try dsimp only
              rw [List.length_map, hlb]
              exact ht e
          rw [show (((List.range n).filter fun t => fc t i).map fun t => nI (k + t)) = (((List.range n).filter fun t => fc t i).map fun t => k + t).map nI by rw [List.map_map]; rfl]
          have q1 : ((List.range k).filter fun t => fe t i).length ≤ k := by
            have := List.length_filter_le (fun t => fe t i) (List.range k); rwa [List.length_range] at this
          have q2 : (((List.range n).filter fun t => fc t i).map fun t => k + t).length ≤ n := by
            rw [List.length_map]
            have := List.length_filter_le (fun t => fc t i) (List.range n); rwa [List.length_range] at this
          (conv => whnf)
          refine ⟨by rw [List.length_map, List.length_map (f := nI)]; show _ ≤ 100000; omega, ?_⟩
          rw [← List.map_append]
          (conv => whnf)
          refine ⟨isl_ref MM.upd_same, ?_⟩
          (conv => whnf)
          refine ⟨by show 1 ≤ 100000; decide, ?_⟩
          (conv => whnf)
          refine ⟨by rw [List.length_map, List.length_append]; show 1 + _ ≤ 100000; omega, ?_⟩
          (conv => whnf); try dsimp only
          rw [MM.upd_same]
          refine ⟨by rw [List.length_map]; show _ < 100000; omega, ?_⟩
          have mem : ∀ x, x ∈ ((List.range k).filter fun t => fe t i) ++ (((List.range n).filter fun t => fc t i).map fun t => k + t) → x < k + n := fun x hx => by
            rcases List.mem_append.mp hx with hx | hx
            · have := List.mem_range.mp (List.mem_filter.mp hx).1; omega
            · obtain ⟨t, ht, rfl⟩ := List.mem_map.mp hx
              have := List.mem_range.mp (List.mem_filter.mp ht).1; omega
          refine ⟨W ++ [.sum (((List.range k).filter fun t => fe t i) ++ (((List.range n).filter fun t => fc t i).map fun t => k + t))], _, _, hW.snoc (fun x hx => by have := mem x hx; omega) (fun s b h => nomatch h) (fun l h => by cases h; exact ⟨mem, by rw [List.length_append]; omega⟩), ?_, ?_, rfl⟩
          · rw [List.map_append, hkW, List.append_assoc, ← Nat.add_assoc, List.replicate_succ' (n := n + i)]; rfl
          · rw [MM.upd_upd, List.map_append (f := wireD)]; rfl
        · rintro ρ M' ⟨W, o14, o16, hW, hkW, rfl, rfl⟩
          rw [rangeD_nat, rng_len] at hkW
          (conv => whnf); try dsimp only
          rw [MM.upd_same, MM.upd_del hw]
          (conv => whnf)
          refine ⟨⟨?_, ?_, ?_, ?_⟩, ?_⟩
          · show (0 : Int) ≤ ((k + n + sp : Nat) : Int) + (n : Int); omega
          · show ((k + n + sp : Nat) : Int) + (n : Int) ≤ 100000; omega
          · show (0 : Int) ≤ ((k + n + sp : Nat) : Int) + (n : Int) + (m : Int); omega
          · show ((k + n + sp : Nat) : Int) + (n : Int) + (m : Int) ≤ 100000; omega
          (conv => whnf)
          refine ⟨by show 2 ≤ 100000; decide, ?_⟩
          obtain ⟨ok, hi⟩ := laid_ok (m := m) (o := (List.range m).map fun i => k + n + sp + n + i) hW hkW (by omega) (by omega) (fun x hx => by
            obtain ⟨t, ht, rfl⟩ := List.mem_map.mp hx
            have := List.mem_range.mp ht; omega) (by rw [rng_len]; exact hm)
          refine fin_ok (eqP (hp W _ ok hi (rng_len _ _)) ?_)
          have eR : rangeD2 (((k + n + sp : Nat) : Int) + (n : Int)) (((k + n + sp : Nat) : Int) + (n : Int) + (m : Int)) = ((List.range m).map fun i => k + n + sp + n + i).map nI := by
            unfold rangeD2
            rw [show (((k + n + sp : Nat) : Int) + (n : Int) + (m : Int) - (((k + n + sp : Nat) : Int) + (n : Int))).toNat = m by omega, List.map_map]
            exact List.map_congr_left fun t _ => congrArg D.int (by show _ = ((k + n + sp + n + t : Nat) : Int); omega)
          exact congrArg (fun l : List D => D.tup [.lst (W.map wireD), .lst l]) eR
end BB
end
section
/-! contracts: ghosts -/
namespace BB
open PySem DL
/-- the grids, address by address -/
structure Ex (M : MM) (p q A B C E F : Nat) (as bs cs es : List Nat) (n m : Nat) : Prop where
  nd : (A :: B :: C :: E :: F :: (as ++ bs ++ cs ++ es)).Nodup
  np : p ∉ A :: B :: C :: E :: F :: (as ++ bs ++ cs ++ es)
  nq : q ∉ A :: B :: C :: E :: F :: (as ++ bs ++ cs ++ es)
  a : M A = some (.lst (as.map D.ref))
  b : M B = some (.lst (bs.map D.ref))
  c : M C = some (.lst (cs.map D.ref))
  e : M E = some (.lst (es.map D.ref))
  f : RowOk M n F
  ra : ∀ x, x ∈ as → RowOk M n x
  rb : ∀ x, x ∈ bs → RowOk M n x
  rc : ∀ x, x ∈ cs → RowOk M m x
  re : ∀ x, x ∈ es → RowOk M m x
open Classical in
theorem Ex.box {M : MM} {p q A B C E F : Nat} {as bs cs es : List Nat} {n m : Nat} (h : Ex M p q A B C E F as bs cs es n m) (la : as.length = n) (lc : cs.length = n) (lk : es.length = bs.length) :
    ∃ Z, Box Z M p q A B C E F n bs.length m := by
  have nd := h.nd; have np := h.np; have nq := h.nq
  simp only [List.nodup_cons, List.mem_cons, List.mem_append, not_or] at nd np nq
  obtain ⟨⟨hAB, hAC, hAE, hAF, ⟨⟨hAa, hAb⟩, hAc⟩, hAe⟩, ⟨hBC, hBE, hBF, ⟨⟨hBa, hBb⟩, hBc⟩, hBe⟩, ⟨hCE, hCF, ⟨⟨hCa, hCb⟩, hCc⟩, hCe⟩, ⟨hEF, ⟨⟨hEa, hEb⟩, hEc⟩, hEe⟩, ⟨⟨⟨hFa, hFb⟩, hFc⟩, hFe⟩, nr⟩ := nd
  obtain ⟨pA, pB, pC, pE, pF, ⟨⟨pa, pb⟩, pc⟩, pe⟩ := np
  obtain ⟨qA, qB, qC, qE, qF, ⟨⟨qa, qb⟩, qc⟩, qe⟩ := nq
  rw [List.nodup_append, List.nodup_append, List.nodup_append] at nr
  obtain ⟨⟨⟨na, nb, dab⟩, nc, dabc⟩, ne, dabce⟩ := nr
  let Z : TyMap := fun x => if x = A then some (.grid n n) else if x = B then some (.grid bs.length n) else if x = C then some (.grid n m) else if x = E then some (.grid bs.length m) else if x = F then some (.row n) else
    if x ∈ as then some (.row n) else if x ∈ bs then some (.row n) else if x ∈ cs then some (.row m) else if x ∈ es then some (.row m) else none
  have za : ∀ x, x ∈ as → Z x = some (.row n) := fun x hx => by
    have e1 : x ≠ A := fun e => hAa (e ▸ hx)
    have e2 : x ≠ B := fun e => hBa (e ▸ hx)
    have e3 : x ≠ C := fun e => hCa (e ▸ hx)
    have e4 : x ≠ E := fun e => hEa (e ▸ hx)
    have e5 : x ≠ F := fun e => hFa (e ▸ hx)
    simp only [Z, e1, e2, e3, e4, e5, hx, if_true, if_false]
  have zb : ∀ x, x ∈ bs → Z x = some (.row n) := fun x hx => by
    have e1 : x ≠ A := fun e => hAb (e ▸ hx)
    have e2 : x ≠ B := fun e => hBb (e ▸ hx)
    have e3 : x ≠ C := fun e => hCb (e ▸ hx)
    have e4 : x ≠ E := fun e => hEb (e ▸ hx)
    have e5 : x ≠ F := fun e => hFb (e ▸ hx)
    simp only [Z, e1, e2, e3, e4, e5, hx, if_true, if_false, ite_self]
  have zc : ∀ x, x ∈ cs → Z x = some (.row m) := fun x hx => by
    have e1 : x ≠ A := fun e => hAc (e ▸ hx)
    have e2 : x ≠ B := fun e => hBc (e ▸ hx)
    have e3 : x ≠ C := fun e => hCc (e ▸ hx)
    have e4 : x ≠ E := fun e => hEc (e ▸ hx)
    have e5 : x ≠ F := fun e => hFc (e ▸ hx)
    have e6 : x ∉ as := fun e => dabc x (List.mem_append_left _ e) x hx rfl
    have e7 : x ∉ bs := fun e => dabc x (List.mem_append_right _ e) x hx rfl
    simp only [Z, e1, e2, e3, e4, e5, e6, e7, hx, if_true, if_false]
  have ze : ∀ x, x ∈ es → Z x = some (.row m) := fun x hx => by
    have e1 : x ≠ A := fun e => hAe (e ▸ hx)
    have e2 : x ≠ B := fun e => hBe (e ▸ hx)
    have e3 : x ≠ C := fun e => hCe (e ▸ hx)
    have e4 : x ≠ E := fun e => hEe (e ▸ hx)
    have e5 : x ≠ F := fun e => hFe (e ▸ hx)
    have e6 : x ∉ as := fun e => dabce x (List.mem_append_left _ (List.mem_append_left _ e)) x hx rfl
    have e7 : x ∉ bs := fun e => dabce x (List.mem_append_left _ (List.mem_append_right _ e)) x hx rfl
    have e8 : x ∉ cs := fun e => dabce x (List.mem_append_right _ e) x hx rfl
    simp only [Z, e1, e2, e3, e4, e5, e6, e7, e8, hx, if_true, if_false]
  have zA : Z A = some (.grid n n) := if_pos rfl
  have zB : Z B = some (.grid bs.length n) := by show (if B = A then _ else _) = _; rw [if_neg (fun e => hAB e.symm), if_pos rfl]
  have zC : Z C = some (.grid n m) := by show (if C = A then _ else _) = _; rw [if_neg (fun e => hAC e.symm), if_neg (fun e => hBC e.symm), if_pos rfl]
  have zE : Z E = some (.grid bs.length m) := by show (if E = A then _ else _) = _; rw [if_neg (fun e => hAE e.symm), if_neg (fun e => hBE e.symm), if_neg (fun e => hCE e.symm), if_pos rfl]
  have zF : Z F = some (.row n) := by show (if F = A then _ else _) = _; rw [if_neg (fun e => hAF e.symm), if_neg (fun e => hBF e.symm), if_neg (fun e => hCF e.symm), if_neg (fun e => hEF e.symm), if_pos rfl]
  have zp : Z p = none := by simp only [Z, pA, pB, pC, pE, pF, pa, pb, pc, pe, if_false]
  have zq : Z q = none := by simp only [Z, qA, qB, qC, qE, qF, qa, qb, qc, qe, if_false]
  refine ⟨Z, ⟨⟨fun x k hx => ?_, fun x r k hx => ?_⟩, zp, zq, zA, zB, zC, zE, zF⟩⟩
  · by_cases h1 : x = A
    · subst h1; rw [zA] at hx; cases hx
    by_cases h2 : x = B
    · subst h2; rw [zB] at hx; cases hx
    by_cases h3 : x = C
    · subst h3; rw [zC] at hx; cases hx
    by_cases h4 : x = E
    · subst h4; rw [zE] at hx; cases hx
    by_cases h5 : x = F
    · subst h5; rw [zF] at hx; cases hx; exact h.f
    by_cases h6 : x ∈ as
    · rw [za x h6] at hx; cases hx; exact h.ra x h6
    by_cases h7 : x ∈ bs
    · rw [zb x h7] at hx; cases hx; exact h.rb x h7
    by_cases h8 : x ∈ cs
    · rw [zc x h8] at hx; cases hx; exact h.rc x h8
    by_cases h9 : x ∈ es
    · rw [ze x h9] at hx; cases hx; exact h.re x h9
    simp only [Z, h1, h2, h3, h4, h5, h6, h7, h8, h9, if_false] at hx
    cases hx
  · by_cases h1 : x = A
    · subst h1; rw [zA] at hx; cases hx; exact ⟨as, la, h.a, za⟩
    by_cases h2 : x = B
    · subst h2; rw [zB] at hx; cases hx; exact ⟨bs, rfl, h.b, zb⟩
    by_cases h3 : x = C
    · subst h3; rw [zC] at hx; cases hx; exact ⟨cs, lc, h.c, zc⟩
    by_cases h4 : x = E
    · subst h4; rw [zE] at hx; cases hx; exact ⟨es, lk, h.e, ze⟩
    by_cases h5 : x = F
    · subst h5; rw [zF] at hx; cases hx
    by_cases h6 : x ∈ as
    · rw [za x h6] at hx; cases hx
    by_cases h7 : x ∈ bs
    · rw [zb x h7] at hx; cases hx
    by_cases h8 : x ∈ cs
    · rw [zc x h8] at hx; cases hx
    by_cases h9 : x ∈ es
    · rw [ze x h9] at hx; cases hx
    simp only [Z, h1, h2, h3, h4, h5, h6, h7, h8, h9, if_false] at hx
    cases hx
end BB
end
section
/-! contracts: ghosts -/
namespace BB
open PySem DL
theorem bitL_snoc (n : Nat) (f : Nat → Bool) (b : Bool) : bitL n f ++ [bN b] = bitL (n + 1) fun j => if j = n then b else f j := by
  show _ = (List.range (n + 1)).map _
  rw [List.range_succ, List.map_append]
  congr 1
  · refine List.map_congr_left fun u hu => ?_
    have : u ≠ n := fun e => by subst e; exact absurd (List.mem_range.mp hu) (Nat.lt_irrefl _)
    simp only [this, if_false]
  · simp
theorem bit_of {r : Nat} (h : r < 2) : nI r = bN (decide (r = 1)) := by
  have : r = 0 ∨ r = 1 := by omega
  rcases this with rfl | rfl <;> rfl
def c__law_ghost : CT := fun ds M P => ∃ (p q N A B C E F : Nat) (as bs cs es : List Nat) (n m : Nat), ds = [.ref p, .ref A, .ref B, .ref C, .ref F, nI m] ∧ Ex M p q A B C E F as bs cs es n m ∧ as.length = n ∧ as.length + bs.length ≤ 10 ∧ cs.length ≤ 10 ∧ m ≤ 10 ∧ Pen M p q N ∧ N ≤ 1000 ∧
  ∀ u v M', Ex M' p q A B C E F (as ++ [u]) bs (cs ++ [v]) es (n + 1) m → Pen M' p q (N + 20) → P .non M'
theorem l__law_ghost (ds : List D) (M : MM) (Q : PQ) (h : c__law_ghost ds M Q) : ds.length = 6 := by
  obtain ⟨_, _, _, _, _, _, _, _, _, _, _, _, _, _, rfl, _⟩ := h; rfl
theorem k__law_ghost : Keeps 8 (b__law_ghost c__law_draw) c__law_ghost := by
  rintro ds M P ⟨p, q, N, A, B, C, E, F, as, bs, cs, es, n, m, rfl, h, hla, hab, hcl, hm, pen, hN, hp⟩
  have nd := h.nd; have np := h.np; have nq := h.nq
  simp only [List.nodup_cons, List.mem_cons, List.mem_append, not_or] at nd np nq
  obtain ⟨⟨hAB, hAC, hAE, hAF, ⟨⟨hAa, hAb⟩, hAc⟩, hAe⟩, ⟨hBC, hBE, hBF, ⟨⟨hBa, hBb⟩, hBc⟩, hBe⟩, ⟨hCE, hCF, ⟨⟨hCa, hCb⟩, hCc⟩, hCe⟩, ⟨hEF, ⟨⟨hEa, hEb⟩, hEc⟩, hEe⟩, ⟨⟨⟨hFa, hFb⟩, hFc⟩, hFe⟩, nr⟩ := nd
  obtain ⟨pA, pB, pC, pE, pF, ⟨⟨pa, pb⟩, pc⟩, pe⟩ := np
  obtain ⟨qA, qB, qC, qE, qF, ⟨⟨qa, qb⟩, qc⟩, qe⟩ := nq
  have nr0 := nr
  rw [List.nodup_append, List.nodup_append] at nr
  obtain ⟨⟨nab, nc, dabc⟩, ne, dabce⟩ := nr
  have notR : ∀ {x : Nat}, x ∉ as → x ∉ bs → x ∉ as ++ bs := fun h1 h2 h3 => (List.mem_append.mp h3).elim h1 h2
  unfold b__law_ghost
  (conv => whnf); try dsimp only
  rw [show asL M (.ref A) = some (as.map D.ref) from as_ref h.a]
  (conv => whnf); try dsimp only
  rw [show asL M (.ref B) = some (bs.map D.ref) from as_ref h.b]
  (conv => whnf)
  refine ⟨by rw [List.length_map, List.length_map]; show _ ≤ 100000; omega, ?_⟩
  rw [← List.map_append]
  refine ⟨fun t ρ M' => ∃ o6, (∀ x, x ∈ (as ++ bs).take t → RowOk M' (n + 1) x) ∧ (∀ x, x ∈ (as ++ bs).drop t → RowOk M' n x) ∧ (∀ x, x ∉ as ++ bs → M' x = M x) ∧ (∀ x, M x ≠ none → M' x ≠ none) ∧ ρ = [some (.ref p), some (.ref A), some (.ref B), some (.ref C), some (.ref F), some (nI m), o6, none], ⟨none, fun x hx => (by cases hx), fun x hx => ?_, fun _ _ => rfl, fun _ h => h, rfl⟩, ?_, ?_⟩
  · rcases List.mem_append.mp hx with hx | hx
    · exact h.ra x hx
    · exact h.rb x hx
  · rintro t y ρ M' hy ⟨o6, h1, h2, h3, h4, rfl⟩
    obtain ⟨w, hw, rfl⟩ := map_get hy
    have hwl := (List.getElem?_eq_some_iff.mp hw).1
    have hwd : w ∈ (as ++ bs).drop t := by
      rw [List.drop_eq_getElem_cons hwl]
      have : (as ++ bs)[t] = w := by have := List.getElem?_eq_getElem hwl; rw [hw] at this; exact (Option.some.inj this).symm
      rw [this]; exact List.mem_cons_self ..
    obtain ⟨f, hf⟩ := h2 w hwd
    have hns : n ≤ 10 := by omega
    (conv => whnf)
    refine ⟨isl_ref hf, ?_⟩
    (conv => whnf); try dsimp only
    rw [hf]
    refine ⟨by rw [rng_len]; show _ < 100000; omega, ?_⟩
    have nd2 := nab
    rw [← List.take_append_drop (t + 1) (as ++ bs)] at nd2
    rw [List.nodup_append] at nd2
    have hwt : w ∈ (as ++ bs).take (t + 1) := by rw [List.take_add_one, hw]; exact List.mem_append_right _ (List.mem_cons_self ..)
    have hwo : ∀ x, x ∈ (as ++ bs).drop (t + 1) → x ≠ w := fun x hx e => nd2.2.2 w hwt x hx e.symm
    have eb : bitL n f ++ [D.int 0] = bitL (n + 1) fun j => if j = n then false else f j := bitL_snoc n f false
    rw [eb]
    refine ⟨_, fun x hx => ?_, fun x hx => ?_, fun x hx => ?_, fun x hx => ?_, rfl⟩
    · by_cases e : x = w
      · exact ⟨_, by rw [e, MM.upd_same]⟩
      · rw [List.take_add_one, hw] at hx
        rcases List.mem_append.mp hx with hx | hx
        · obtain ⟨g, hg⟩ := h1 x hx; exact ⟨g, by rw [MM.upd_ne e]; exact hg⟩
        · exact absurd (List.mem_singleton.mp hx) e
    · obtain ⟨g, hg⟩ := h2 x (List.mem_of_mem_drop (i := 1) (by rw [List.drop_drop]; exact hx))
      exact ⟨g, by rw [MM.upd_ne (hwo x hx)]; exact hg⟩
    · have : x ≠ w := fun e => hx (e ▸ List.mem_of_getElem? hw)
      rw [MM.upd_ne this]; exact h3 x hx
    · by_cases e : x = w
      · rw [e, MM.upd_same]; exact fun h => nomatch h
      · rw [MM.upd_ne e]; exact h4 x hx
  · rintro ρ M1 ⟨o6, h1, _, h3, h4, rfl⟩
    rw [List.length_map, List.take_length] at h1
    have m1A : M1 A = some (.lst (as.map D.ref)) := by rw [h3 A (notR hAa hAb)]; exact h.a
    have m1C : M1 C = some (.lst (cs.map D.ref)) := by rw [h3 C (notR hCa hCb)]; exact h.c
    obtain ⟨ff, hff⟩ := h.f
    have m1F : M1 F = some (.lst (bitL n ff)) := by rw [h3 F (notR hFa hFb)]; exact hff
    have pen1 : Pen M1 p q N := by
      obtain ⟨x, ns, s, b, c, d⟩ := pen
      exact ⟨x, ns, s, by rw [h3 p (notR pa pb)]; exact b, by rw [h3 q (notR qa qb)]; exact c, d⟩
    (conv => whnf)
    refine ⟨isl_ref m1A, ?_⟩
    (conv => whnf)
    refine ⟨by show 1 ≤ 100000; decide, ?_⟩
    (conv => whnf); try dsimp only
    rw [as_ref m1A]
    (conv => whnf); try dsimp only
    rw [List.length_map]
    refine ⟨Int.natCast_nonneg _, by show (as.length : Int) ≤ 100000; omega, by show 1 * (as.length : Int).toNat ≤ 100000; omega, ?_⟩
    (conv => whnf)
    refine ⟨p, q, N, 2, rfl, pen1, by omega, by omega, by omega, ?_⟩
    intro r M2 hr pen2 same2
    (conv => whnf)
    refine ⟨by show 1 ≤ 100000; decide, ?_⟩
    rw [Int.toNat_natCast, rep_bits, hla]
    (conv => whnf)
    refine ⟨by rw [rng_len]; show _ + 1 ≤ 100000; omega, ?_⟩
    intro u hu
    have m2A : M2 A = some (.lst (as.map D.ref)) := by rw [same2 A (fun e => pA e.symm) (fun e => qA e.symm)]; exact m1A
    have uA : A ≠ u := fun e => by rw [← e, m2A] at hu; cases hu
    have up := pen2.ne hu
    rw [bit_of hr, bitL_snoc]
    (conv => whnf); try dsimp only
    rw [MM.upd_ne uA, m2A]
    refine ⟨by rw [List.length_map]; show _ < 100000; omega, ?_⟩
    generalize hM3 : (M2.upd u (.lst (bitL (n + 1) fun j => if j = n then decide (r = 1) else (fun _ => false) j))).upd A (.lst (as.map D.ref ++ [D.ref u])) = M3
    have pen3 : Pen M3 p q (N + 1) := by rw [← hM3]; exact (pen2.upd up.1 up.2).upd (fun e => pA e.symm) (fun e => qA e.symm)
    have m3A : M3 A = some (.lst ((as ++ [u]).map D.ref)) := by rw [← hM3, MM.upd_same, List.map_append]; rfl
    have m3u : RowOk M3 (n + 1) u := ⟨_, by rw [← hM3, MM.upd_ne (fun e => uA e.symm), MM.upd_same]⟩
    have fr3 : ∀ x, x ≠ A → x ≠ u → x ≠ p → x ≠ q → M3 x = M1 x := fun x a b c d => by rw [← hM3, MM.upd_ne a, MM.upd_ne b, same2 x c d]
    have liveu : ∀ x, x ≠ p → x ≠ q → M x ≠ none → x ≠ u := fun x a b c e => by
      subst e
      have := same2 x a b
      rw [hu] at this
      exact h4 x c this.symm
    have lv : ∀ {x k : Nat}, RowOk M k x → M x ≠ none := fun {x k} hx e => by obtain ⟨g, hg⟩ := hx; rw [hg] at e; cases e
    have uC : C ≠ u := liveu C (fun e => pC e.symm) (fun e => qC e.symm) (by rw [h.c]; exact fun h => nomatch h)
    have uF : F ≠ u := liveu F (fun e => pF e.symm) (fun e => qF e.symm) (lv h.f)
    have m3C : M3 C = some (.lst (cs.map D.ref)) := by rw [fr3 C (fun e => hAC e.symm) uC (fun e => pC e.symm) (fun e => qC e.symm)]; exact m1C
    have m3F : M3 F = some (.lst (bitL n ff)) := by rw [fr3 F (fun e => hAF e.symm) uF (fun e => pF e.symm) (fun e => qF e.symm)]; exact m1F
    (conv => whnf)
    refine ⟨isl_ref m3C, ?_⟩
    (conv => whnf)
    refine ⟨by omega, ?_⟩
    refine ⟨fun j acc M4 => ∃ g, acc = bitL j g ∧ Same M3 M4 p q ∧ Pen M4 p q (N + 1 + j), ⟨fun _ => false, rfl, Same.rfl', pen3⟩, ?_, ?_⟩
    · rintro j y acc M4 hy ⟨g, rfl, s4, pen4⟩
      obtain ⟨hj, rfl⟩ := rng_get (rangeD_nat _ ▸ hy)
      (conv => whnf)
      refine ⟨p, q, _, 2, rfl, pen4, by omega, by omega, by omega, ?_⟩
      intro r' M5 hr' pen5 s5
      exact ⟨_, by rw [bit_of hr', bitL_snoc], s4.trans s5, pen5.mono (by omega)⟩
    · rintro acc M4 ⟨g, rfl, s4, pen4⟩
      rw [rangeD_nat, rng_len] at *
      intro v hv
      have m4C : M4 C = some (.lst (cs.map D.ref)) := by rw [s4 C (fun e => pC e.symm) (fun e => qC e.symm)]; exact m3C
      have vC : C ≠ v := fun e => by rw [← e, m4C] at hv; cases hv
      have vp := pen4.ne hv
      (conv => whnf); try dsimp only
      rw [MM.upd_ne vC, m4C]
      refine ⟨by rw [List.length_map]; show _ < 100000; omega, ?_⟩
      generalize hM5 : (M4.upd v (.lst (bitL m g))).upd C (.lst (cs.map D.ref ++ [D.ref v])) = M5
      have pen5 : Pen M5 p q (N + 1 + m) := by rw [← hM5]; exact (pen4.upd vp.1 vp.2).upd (fun e => pC e.symm) (fun e => qC e.symm)
      have livev : ∀ x, x ≠ p → x ≠ q → M3 x ≠ none → x ≠ v := fun x a b c e => by
        subst e
        have := s4 x a b
        rw [hv] at this
        exact c this.symm
      have fr5 : ∀ x, x ≠ C → x ≠ v → x ≠ p → x ≠ q → M5 x = M3 x := fun x a b c d => by rw [← hM5, MM.upd_ne a, MM.upd_ne b, s4 x c d]
      have vF : F ≠ v := livev F (fun e => pF e.symm) (fun e => qF e.symm) (by rw [m3F]; exact fun h => nomatch h)
      have m5F : M5 F = some (.lst (bitL n ff)) := by rw [fr5 F (fun e => hCF e.symm) vF (fun e => pF e.symm) (fun e => qF e.symm)]; exact m3F
      (conv => whnf)
      refine ⟨isl_ref m5F, ?_⟩
      (conv => whnf)
      refine ⟨p, q, _, 2, rfl, pen5, by omega, by omega, by omega, ?_⟩
      intro r' M6 hr' pen6 s6
      have m6F : M6 F = some (.lst (bitL n ff)) := by rw [s6 F (fun e => pF e.symm) (fun e => qF e.symm)]; exact m5F
      (conv => whnf); try dsimp only
      rw [m6F]
      refine ⟨by rw [rng_len]; show _ < 100000; omega, ?_⟩
      rw [bit_of hr', bitL_snoc]
      -- what every address holds now
      have fr : ∀ x, x ≠ A → x ≠ C → x ≠ F → x ≠ p → x ≠ q → M x ≠ none → (M6.upd F (.lst (bitL (n + 1) fun j => if j = n then decide (r' = 1) else ff j))) x = M1 x := fun x a b c d e l => by
        have hxu := liveu x d e l
        have m3x : M3 x = M1 x := fr3 x a hxu d e
        have hxv := livev x d e (by rw [m3x]; exact h4 x l)
        rw [MM.upd_ne c, s6 x d e, fr5 x b hxv d e, m3x]
      have hne : ∀ {x : Nat} {o : MO}, M x = some o → M x ≠ none := fun hx e => by rw [hx] at e; cases e
      have vu : u ≠ v := livev u up.1 up.2 (by obtain ⟨g, hg⟩ := m3u; rw [hg]; exact fun h => nomatch h)
      have hvu : ∀ x, x ≠ p → x ≠ q → M x ≠ none → x ≠ v := fun x d e l => by
        by_cases hA : x = A
        · rw [hA]; exact livev A (fun e => pA e.symm) (fun e => qA e.symm) (by rw [m3A]; exact fun h => nomatch h)
        · exact livev x d e (by rw [fr3 x hA (liveu x d e l) d e]; exact h4 x l)
      have liveL : ∀ x, x ∈ A :: B :: C :: E :: F :: (as ++ bs ++ cs ++ es) → M x ≠ none := by
        intro x hx
        simp only [List.mem_cons, List.mem_append] at hx
        rcases hx with rfl | rfl | rfl | rfl | rfl | ((hx | hx) | hx) | hx
        · exact hne h.a
        · exact hne h.b
        · exact hne h.c
        · exact hne h.e
        · exact lv h.f
        · exact lv (h.ra x hx)
        · exact lv (h.rb x hx)
        · exact lv (h.rc x hx)
        · exact lv (h.re x hx)
      have perm : (A :: B :: C :: E :: F :: ((as ++ [u]) ++ bs ++ (cs ++ [v]) ++ es)).Perm (u :: v :: A :: B :: C :: E :: F :: (as ++ bs ++ cs ++ es)) := List.perm_iff_count.mpr fun x => by
        simp only [List.count_cons, List.count_append, List.count_nil]; omega
      have uL : u ∉ A :: B :: C :: E :: F :: (as ++ bs ++ cs ++ es) := fun hx => liveu u up.1 up.2 (liveL u hx) rfl
      have vL : v ∉ A :: B :: C :: E :: F :: (as ++ bs ++ cs ++ es) := fun hx => hvu v vp.1 vp.2 (liveL v hx) rfl
      have ndN := perm.nodup_iff.mpr (List.nodup_cons.mpr ⟨fun hx => (List.mem_cons.mp hx).elim vu uL, List.nodup_cons.mpr ⟨vL, h.nd⟩⟩)
      have npN : ∀ z, z ≠ u → z ≠ v → z ∉ A :: B :: C :: E :: F :: (as ++ bs ++ cs ++ es) → z ∉ A :: B :: C :: E :: F :: ((as ++ [u]) ++ bs ++ (cs ++ [v]) ++ es) := fun z a b c hz => by
        rcases List.mem_cons.mp (perm.mem_iff.mp hz) with e | hz
        · exact a e
        · rcases List.mem_cons.mp hz with e | hz
          · exact b e
          · exact c hz
      refine fin_nx (hp u v _ ⟨?_, ?_, ?_, ?_, ?_, ?_, ?_, ?_, ?_, ?_, ?_, ?_⟩ ((pen6.upd (fun e => pF e.symm) (fun e => qF e.symm)).mono (by omega)))
      · exact ndN
      · exact npN p (fun e => up.1 e.symm) (fun e => vp.1 e.symm) h.np
      · exact npN q (fun e => up.2 e.symm) (fun e => vp.2 e.symm) h.nq
      · rw [MM.upd_ne hAF, s6 A (fun e => pA e.symm) (fun e => qA e.symm), fr5 A hAC (hvu A (fun e => pA e.symm) (fun e => qA e.symm) (hne h.a)) (fun e => pA e.symm) (fun e => qA e.symm)]; exact m3A
      · rw [fr B (fun e => hAB e.symm) hBC hBF (fun e => pB e.symm) (fun e => qB e.symm) (hne h.b), h3 B (notR hBa hBb)]; exact h.b
      · rw [MM.upd_ne hCF, s6 C (fun e => pC e.symm) (fun e => qC e.symm), ← hM5, MM.upd_same, List.map_append]; rfl
      · rw [fr E (fun e => hAE e.symm) (fun e => hCE e.symm) hEF (fun e => pE e.symm) (fun e => qE e.symm) (hne h.e), h3 E (notR hEa hEb)]; exact h.e
      · exact ⟨_, MM.upd_same⟩
      · intro x hx
        rcases List.mem_append.mp hx with hx | hx
        · obtain ⟨g', hg'⟩ := h1 x (List.mem_append_left _ hx)
          exact ⟨g', by rw [fr x (fun e => hAa (e ▸ hx)) (fun e => hCa (e ▸ hx)) (fun e => hFa (e ▸ hx)) (fun e => pa (e ▸ hx)) (fun e => qa (e ▸ hx)) (lv (h.ra x hx))]; exact hg'⟩
        · cases List.mem_singleton.mp hx
          obtain ⟨g', hg'⟩ := m3u
          exact ⟨g', by rw [MM.upd_ne (fun e => uF e.symm), s6 u up.1 up.2, fr5 u (fun e => uC e.symm) vu up.1 up.2]; exact hg'⟩
      · intro x hx
        obtain ⟨g', hg'⟩ := h1 x (List.mem_append_right _ hx)
        exact ⟨g', by rw [fr x (fun e => hAb (e ▸ hx)) (fun e => hCb (e ▸ hx)) (fun e => hFb (e ▸ hx)) (fun e => pb (e ▸ hx)) (fun e => qb (e ▸ hx)) (lv (h.rb x hx))]; exact hg'⟩
      · intro x hx
        rcases List.mem_append.mp hx with hx | hx
        · obtain ⟨g', hg'⟩ := h.rc x hx
          exact ⟨g', by rw [fr x (fun e => hAc (e ▸ hx)) (fun e => hCc (e ▸ hx)) (fun e => hFc (e ▸ hx)) (fun e => pc (e ▸ hx)) (fun e => qc (e ▸ hx)) (lv (h.rc x hx)), h3 x fun e => dabc x e x hx rfl]; exact hg'⟩
        · cases List.mem_singleton.mp hx
          exact ⟨g, by rw [MM.upd_ne (fun e => vF e.symm), s6 v vp.1 vp.2, ← hM5, MM.upd_ne (fun e => vC e.symm), MM.upd_same]⟩
      · intro x hx
        obtain ⟨g', hg'⟩ := h.re x hx
        exact ⟨g', by rw [fr x (fun e => hAe (e ▸ hx)) (fun e => hCe (e ▸ hx)) (fun e => hFe (e ▸ hx)) (fun e => pe (e ▸ hx)) (fun e => qe (e ▸ hx)) (lv (h.re x hx)), h3 x fun e => dabce x (List.mem_append_left _ e) x hx rfl]; exact hg'⟩
end BB
end
section
/-! contracts: the other net -/
namespace BB
open PySem DL
def other_rest2 (c__law_wired c__law_draw : CT) : ST := (sSeq (sSet (mLc (iSeq (mBin bCat (mBin bCat (mBin bCat (mBin bCat (mVar 6) (mVar 7)) (mVar 8)) (mVar 9)) (mLst (aCons (mVar 12) aNil)))) (gNm 10) [10] (tVal (mBin (bEqD true) (mVar 10) (mLst aNil))) (mVar 10)) (gNm 13))
  (sSeq (sIf (tAnd (tVal (mBin (bEqS false) (mVar 3) (mC (.int 3)))) (tVal (mBin (bEqD true) (mVar 13) (mLst aNil)))) (sSeq (sSet (mBin bIx (mVar 13) (mCall c__law_draw [] (aCons (mVar 0) (aCons (mCB fLen (aCons (mVar 13) aNil)) aNil)))) (gNm 10))
  (sSeq (sSet (mCall c__law_draw [] (aCons (mVar 0) (aCons (mCB fLen (aCons (mVar 10) aNil)) aNil))) (gNm 14))
  (sSet (mBin bSub (mC (.int 1)) (mBin bIx (mVar 10) (mVar 14))) (gSub (mVar 10) (mVar 14))))) sNx)
  (sRet (mCall c__law_wired [] (aCons (mLst (aCons (mVar 6) (aCons (mVar 7) (aCons (mVar 8) (aCons (mVar 9) (aCons (mCB fLen (aCons (mVar 2) aNil)) aNil)))))) (aCons (mVar 12) (aCons (mCall c__law_draw [] (aCons (mVar 0) (aCons (mC (.int 2)) aNil))) aNil)))))))
def other_rest (c__law_wired c__law_draw c__law_turned : CT) : ST := (sSeq (sExpr (mCall c__law_turned [] (aCons (mVar 0) (aCons (mLst (aCons (mVar 6) (aCons (mVar 7) (aCons (mVar 8) (aCons (mVar 12) aNil))))) aNil))))
  (other_rest2 c__law_wired c__law_draw))

theorem lcI_anyf {α : Type} {l : List α} {d : α → D} {g : GT} {t : TT} {e : ET} {ρ : DL.Env} {M : MM} {P : List D → MM → Prop} (p : α → Bool) (f : α → D)
    (h : ∀ x (Qt : D → MM → Prop) (Qf : MM → Prop), x ∈ l → (p x = true → Qt (f x) M) → (p x = false → Qf M) → g (d x) ρ M fun ρ1 M1 => t ρ1 M1 fun b M2 => match b with
      | true => e ρ1 M2 Qt
      | false => Qf M2)
    (hp : P ((l.filter p).map f) M) : lcI (l.map d) g t e ρ M P := by
  refine ⟨fun i acc M' => M' = M ∧ acc = ((l.take i).filter p).map f, ⟨rfl, rfl⟩, ?_, ?_⟩
  · rintro i x acc M' hx ⟨rfl, rfl⟩
    obtain ⟨v, hv, rfl⟩ := map_get hx
    refine h v (fun y M3 => M3 = M' ∧ ((l.take i).filter p).map f ++ [y] = ((l.take (i + 1)).filter p).map f) (fun M3 => M3 = M' ∧ ((l.take i).filter p).map f = ((l.take (i + 1)).filter p).map f) (List.mem_of_getElem? hv) (fun q => ⟨rfl, ?_⟩) fun q => ⟨rfl, ?_⟩
    · rw [List.take_add_one, hv, List.filter_append, List.map_append]; simp [q]
    · rw [List.take_add_one, hv, List.filter_append, List.map_append]; simp [q]
  · rintro acc M' ⟨rfl, rfl⟩; rw [List.length_map, List.take_length]; exact hp
theorem nil_eqv : ∀ (ps : List PyData), PyData.eqv (.list ps) (.list []) = ps.isEmpty
  | [] => rfl
  | _ :: _ => by simp only [PyData.eqv, PyData.eqvAll]; rfl
theorem pyAll_len {M : MM} : ∀ {xs : List D} {ps : List PyData}, PyAll M xs ps → ps.length = xs.length
  | _, _, .nil => rfl
  | _, _, .cons _ h => by rw [List.length_cons, List.length_cons, pyAll_len h]
theorem row_py {M : MM} {a c : Nat} (h : RowOk M c a) : ∃ ps, Py M (.ref a) (.list ps) ∧ ps.length = c ∧ PyData.canLay0 (.list ps) = true ∧ PyData.depth (.list ps) ≤ 1 := by
  obtain ⟨f, hf⟩ := h
  obtain ⟨ps, h1, h2, h3⟩ := sd_all (M := M) (sd_py M 0) (bitL c f) (fun x hx => by obtain ⟨_, _, rfl⟩ := List.mem_map.mp hx; exact SD.int 0 _)
  refine ⟨ps, .ref hf h1, by rw [pyAll_len h1, rng_len], by simp only [PyData.canLay0]; exact h2, by simp only [PyData.depth]; omega⟩
theorem row_nil {M : MM} {a c : Nat} (h : RowOk M c a) : ∃ p q, Py M (.ref a) p ∧ Py M (.lst []) q ∧ SeqAt.shaped p = true ∧ SeqAt.shaped q = true ∧ PyData.eqv p q = decide (c = 0) := by
  obtain ⟨ps, h1, h2, h3, h4⟩ := row_py h
  refine ⟨_, .list [], h1, .lst .nil, shaped_of h3 h4 (by omega), by rfl, ?_⟩
  rw [nil_eqv]
  cases ps with
  | nil => have : c = 0 := h2.symm; subst this; rfl
  | cons p ps => have : c ≠ 0 := fun e => by rw [e] at h2; cases h2
                 rw [decide_eq_false this]; rfl
theorem rows_nil {M : MM} (l : List Nat) (h : ∀ x, x ∈ l → ∃ c, RowOk M c x) : ∃ p q, Py M (.lst (l.map D.ref)) p ∧ Py M (.lst []) q ∧ SeqAt.shaped p = true ∧ SeqAt.shaped q = true ∧ PyData.eqv p q = l.isEmpty := by
  have : ∃ ps, PyAll M (l.map D.ref) ps ∧ PyData.canLayAll0 ps = true ∧ PyData.depthAll ps ≤ 1 := by
    induction l with
    | nil => exact ⟨[], .nil, rfl, Nat.zero_le _⟩
    | cons x l ih =>
      obtain ⟨c, hc⟩ := h x (List.mem_cons_self ..)
      obtain ⟨ps, h1, h2, h3, h4⟩ := row_py hc
      obtain ⟨qs, k1, k2, k3⟩ := ih fun y hy => h y (List.mem_cons_of_mem _ hy)
      exact ⟨_ :: qs, .cons h1 k1, by simp only [PyData.canLayAll0, h3, k2, Bool.and_self], by simp only [PyData.depthAll]; omega⟩
  obtain ⟨ps, h1, h2, h3⟩ := this
  refine ⟨.list ps, .list [], .lst h1, .lst .nil, shaped_of (k := 2) (by simp only [PyData.canLay0]; exact h2) (by simp only [PyData.depth]; omega) (by omega), by rfl, ?_⟩
  rw [nil_eqv]
  have := pyAll_len h1
  rw [List.length_map] at this
  cases ps with
  | nil => cases l with
    | nil => rfl
    | cons _ _ => cases this
  | cons _ _ => cases l with
    | nil => cases this
    | cons _ _ => rfl
def c__law_other : CT := fun ds M P => ∃ (p q N : Nat) (W : List Wire) (o : List Nat), ds = [.ref p, .lst (W.map wireD), .lst (o.map nI)] ∧ NetOk W o ∧ (insOf W).length ≤ 2 ∧ (cellsOf W).length ≤ 3 ∧ Pen M p q N ∧ N ≤ 500 ∧
  ∀ (W' : List Wire) (o' : List Nat) M', NetOk W' o' → (insOf W').length = (insOf W).length → o'.length = o.length → Pen M' p q (N + 400) → P (netP W' o') M'
theorem l__law_other (ds : List D) (M : MM) (Q : PQ) (h : c__law_other ds M Q) : ds.length = 3 := by
  obtain ⟨_, _, _, _, _, rfl, _⟩ := h; rfl
theorem rest2_ok {Z : TyMap} {M : MM} {p q N A B C E F n k m way : Nat} {P : PQ} {o : List Nat} (hm : o.length = m) (box : Box Z M p q A B C E F n k m) (pen : Pen M p q N) (hN : N ≤ 800) (hk : k ≤ 2) (hn : n ≤ 4) (hm3 : m ≤ 3) {o1 o4 o5 : Option D}
    (hP : ∀ (W' : List Wire) (o' : List Nat) M', NetOk W' o' → (insOf W').length = k → o'.length = m → Pen M' p q (N + 10) → P (netP W' o') M') :
    other_rest2 c__law_wired c__law_draw (finD P) [some (.ref p), o1, some (.lst (o.map nI)), some (nI way), o4, o5, some (.ref A), some (.ref B), some (.ref C), some (.ref E), none, none, some (.ref F), none, none] M := by
  obtain ⟨as, hla, hma, hra⟩ := box.ok.grid A n n box.a
  obtain ⟨bs, hlb, hmb, hrb⟩ := box.ok.grid B k n box.b
  obtain ⟨cs, hlc, hmc, hrc⟩ := box.ok.grid C n m box.c
  obtain ⟨es, hle, hme, hre⟩ := box.ok.grid E k m box.e
  unfold other_rest2
  (conv => whnf); try dsimp only
  rw [show asL M (.ref A) = some (as.map D.ref) from as_ref hma]
  (conv => whnf); try dsimp only
  rw [show asL M (.ref B) = some (bs.map D.ref) from as_ref hmb]
  (conv => whnf)
  refine ⟨by rw [List.length_map, List.length_map]; show _ ≤ 100000; omega, ?_⟩
  (conv => whnf); try dsimp only
  rw [show asL M (.ref C) = some (cs.map D.ref) from as_ref hmc]
  (conv => whnf)
  refine ⟨by rw [List.length_append, List.length_map, List.length_map, List.length_map]; show _ ≤ 100000; omega, ?_⟩
  (conv => whnf); try dsimp only
  rw [show asL M (.ref E) = some (es.map D.ref) from as_ref hme]
  (conv => whnf)
  refine ⟨by rw [List.length_append, List.length_append, List.length_map, List.length_map, List.length_map, List.length_map]; show _ ≤ 100000; omega, ?_⟩
  (conv => whnf)
  refine ⟨by show 1 ≤ 100000; decide, ?_⟩
  (conv => whnf)
  refine ⟨by rw [List.length_append, List.length_append, List.length_append, List.length_map, List.length_map, List.length_map, List.length_map]; show _ + 1 ≤ 100000; omega, ?_⟩
  have eL : as.map D.ref ++ bs.map D.ref ++ cs.map D.ref ++ es.map D.ref ++ [D.ref F] = (as ++ bs ++ cs ++ es ++ [F]).map D.ref := by simp only [List.map_append]; rfl
  rw [eL]
  have rows : ∀ x, x ∈ as ++ bs ++ cs ++ es ++ [F] → ∃ c, Z x = some (.row c) ∧ c ≤ 4 := fun x hx => by
    simp only [List.mem_append, List.mem_singleton] at hx
    rcases hx with (((hx | hx) | hx) | hx) | rfl
    · exact ⟨n, hra x hx, hn⟩
    · exact ⟨n, hrb x hx, hn⟩
    · exact ⟨m, hrc x hx, by omega⟩
    · exact ⟨m, hre x hx, by omega⟩
    · exact ⟨n, box.f, hn⟩
  have hll : (as ++ bs ++ cs ++ es ++ [F]).length ≤ 20 := by
    simp only [List.length_append, List.length_cons, List.length_nil]; omega
  generalize as ++ bs ++ cs ++ es ++ [F] = l at rows hll ⊢
  refine lcI_anyf (fun x => match Z x with
    | some (.row c) => !decide (c = 0)
    | _ => false) D.ref ?_ ?_
  · intro x Qt Qf hx ht hf
    obtain ⟨c, hc, _⟩ := rows x hx
    rw [hc] at ht hf
    (conv => whnf)
    refine ⟨by show 0 ≤ 100000; decide, ?_⟩
    (conv => whnf)
    obtain ⟨r, s, q1, q2, q3, q4, hb⟩ := row_nil (box.ok.row x c hc)
    refine ⟨r, s, q1, q2, q3, q4, ?_⟩
    rw [hb]
    cases e : decide (c = 0)
    · exact ht (by dsimp only; rw [e]; rfl)
    · exact hf (by dsimp only; rw [e]; rfl)
  have rows2 : ∀ x, x ∈ l.filter (fun x => match Z x with
    | some (.row c) => !decide (c = 0)
    | _ => false) → ∃ c, Z x = some (.row c) ∧ c ≤ 4 ∧ 0 < c := fun x hx => by
    have hx' := List.mem_filter.mp hx
    obtain ⟨c, hc, h4⟩ := rows x hx'.1
    have := hx'.2
    rw [hc] at this
    dsimp only at this
    refine ⟨c, hc, h4, ?_⟩
    rcases Nat.eq_zero_or_pos c with e | e
    · rw [decide_eq_true e] at this; cases this
    · exact e
  have hl2 : (l.filter (fun x => match Z x with
    | some (.row c) => !decide (c = 0)
    | _ => false)).length ≤ 20 := Nat.le_trans (List.length_filter_le _ _) hll
  generalize l.filter (fun x => match Z x with
    | some (.row c) => !decide (c = 0)
    | _ => false) = sp at rows2 hl2 ⊢
  have fin : ∀ (M' : MM) (o10 o14 : Option D) (N' : Nat), Box Z M' p q A B C E F n k m → Pen M' p q N' → N' ≤ N + 5 →
      (sRet (mCall c__law_wired [] (aCons (mLst (aCons (mVar 6) (aCons (mVar 7) (aCons (mVar 8) (aCons (mVar 9) (aCons (mCB fLen (aCons (mVar 2) aNil)) aNil)))))) (aCons (mVar 12) (aCons (mCall c__law_draw [] (aCons (mVar 0) (aCons (mC (.int 2)) aNil))) aNil))))) (finD P) [some (.ref p), o1, some (.lst (o.map nI)), some (nI way), o4, o5, some (.ref A), some (.ref B), some (.ref C), some (.ref E), o10, none, some (.ref F), some (.lst (sp.map D.ref)), o14] M' := by
    intro M' o10 o14 N' bx pn hN'
    (conv => whnf)
    refine ⟨by show 5 ≤ 100000; decide, ?_⟩
    (conv => whnf)
    refine ⟨p, q, N', 2, rfl, pn, by omega, by omega, by omega, ?_⟩
    intro r M2 hr pn2 s2
    (conv => whnf)
    refine ⟨Z, p, q, A, B, C, E, F, n, k, m, r, ?_, ⟨bx.ok.same bx.p bx.q s2, bx.p, bx.q, bx.a, bx.b, bx.c, bx.e, bx.f⟩, hk, hn, by omega, hm3, ?_⟩
    · rw [List.length_map, hm]; rfl
    intro W' o' ok hi ho
    exact fin_ok (hP W' o' M2 ok hi ho (pn2.mono (by omega)))
  (conv => whnf); try dsimp only
  cases e : decide ((way : Int) = 3) with
  | false => exact fin M _ _ N box pen (by omega)
  | true =>
    (conv => whnf)
    refine ⟨by show 0 ≤ 100000; decide, ?_⟩
    (conv => whnf)
    obtain ⟨r, s, q1, q2, q3, q4, hb⟩ := rows_nil (M := M) sp (fun x hx => by obtain ⟨c, hc, _⟩ := rows2 x hx; exact ⟨c, box.ok.row x c hc⟩)
    refine ⟨r, s, q1, q2, q3, q4, ?_⟩
    rw [hb]
    cases hsp : sp.isEmpty with
    | true => exact fin M _ _ N box pen (by omega)
    | false =>
      have hpos : 0 < sp.length := by
        cases sp with
        | nil => cases hsp
        | cons _ _ => simp
      (conv => whnf)
      refine ⟨p, q, N, sp.length, by rw [List.length_map]; rfl, pen, by omega, hpos, by omega, ?_⟩
      intro r1 M1 hr1 pen1 same1
      have box1 : Box Z M1 p q A B C E F n k m := ⟨box.ok.same box.p box.q same1, box.p, box.q, box.a, box.b, box.c, box.e, box.f⟩
      (conv => whnf); try dsimp only
      rw [ix_nat, List.getElem?_map, getD_at hr1]
      obtain ⟨c, hc, hc4, hc0⟩ := rows2 _ (getD_mem hr1)
      generalize sp.getD r1 0 = y at hc ⊢
      obtain ⟨f, hf⟩ := box1.ok.row y c hc
      (conv => whnf); try dsimp only
      rw [as_ref hf]
      (conv => whnf)
      refine ⟨p, q, _, c, by rw [rng_len]; rfl, pen1, by omega, hc0, by omega, ?_⟩
      intro r2 M2 hr2 pen2 same2
      have box2 : Box Z M2 p q A B C E F n k m := ⟨box1.ok.same box.p box.q same2, box.p, box.q, box.a, box.b, box.c, box.e, box.f⟩
      obtain ⟨f, hf⟩ := box2.ok.row y c hc
      (conv => whnf); try dsimp only
      rw [as_ref hf]
      (conv => whnf); try dsimp only
      rw [ix_nat, rng_at hr2]
      (conv => whnf); try dsimp only
      rw [hf]
      (conv => whnf); try dsimp only
      rw [rng_len, ixn hr2]
      have ex : D.int ((1 : Int) - (((f r2).toNat : Nat) : Int)) = bN (!f r2) := by cases f r2 <;> rfl
      dsimp only
      rw [ex, bitL_set]
      have yp : y ≠ p := fun e => by rw [e, box.p] at hc; cases hc
      have yq : y ≠ q := fun e => by rw [e, box.q] at hc; cases hc
      exact fin _ _ _ _ ⟨box2.ok.updRow hc _, box.p, box.q, box.a, box.b, box.c, box.e, box.f⟩ (pen2.upd yp yq) (by omega)
end BB
end
section
/-! contracts: the other net, the pair -/
namespace BB
open PySem DL
theorem copy1 {r n : Nat} {a : Nat → Nat → Bool} {e0 e1 e2 e3 e4 e5 e6 e7 e8 e9 e11 e12 e13 e14 : Option D} {M : MM} {Q : List D → MM → Prop}
    (h : ∀ (xs : List Nat) M', xs.length = r → xs.Nodup → (∀ x, x ∈ xs → M x = none) → (∀ x, x ∈ xs → RowOk M' n x) → (∀ y, M y ≠ none → M' y = M y) → Q (xs.map D.ref) M') :
    lcI (gridL r n a) (gNm 10) tYes (mCB fListM (aCons (mVar 10) aNil)) [e0, e1, e2, e3, e4, e5, e6, e7, e8, e9, none, e11, e12, e13, e14] M Q := by
  refine ⟨fun i acc M' => ∃ xs : List Nat, acc = xs.map D.ref ∧ xs.length = i ∧ xs.Nodup ∧ (∀ x, x ∈ xs → M x = none) ∧ (∀ x, x ∈ xs → RowOk M' n x) ∧ ∀ y, M y ≠ none → M' y = M y, ⟨[], rfl, rfl, List.nodup_nil, fun x h => (by cases h), fun x h => (by cases h), fun _ _ => rfl⟩, ?_, ?_⟩
  · rintro i y acc M' hy ⟨xs, rfl, hl, hnd, hf, hr, hs⟩
    obtain ⟨hi, rfl⟩ := rng_get hy
    (conv => whnf)
    intro u hu
    have hux : u ∉ xs := fun hx => by obtain ⟨f, hf'⟩ := hr u hx; rw [hu] at hf'; cases hf'
    have hu0 : M u = none := by
      cases e : M u with
      | none => rfl
      | some o => have := hs u (by rw [e]; exact fun h => nomatch h); rw [hu, e] at this; cases this
    refine ⟨xs ++ [u], by rw [List.map_append]; rfl, by rw [List.length_append, hl]; rfl, ?_, fun x hx => ?_, fun x hx => ?_, fun y hy => ?_⟩
    · rw [List.nodup_append]
      exact ⟨hnd, by simp, fun x hx z hz e => by cases List.mem_singleton.mp hz; exact hux (e ▸ hx)⟩
    · rcases List.mem_append.mp hx with hx | hx
      · exact hf x hx
      · cases List.mem_singleton.mp hx; exact hu0
    · rcases List.mem_append.mp hx with hx | hx
      · obtain ⟨f, hf'⟩ := hr x hx
        exact ⟨f, by rw [MM.upd_ne (fun e : x = u => hux (e ▸ hx))]; exact hf'⟩
      · cases List.mem_singleton.mp hx; exact ⟨_, MM.upd_same⟩
    · have : y ≠ u := fun e => hy (e ▸ hu0)
      rw [MM.upd_ne this]; exact hs y hy
  · rintro acc M' ⟨xs, rfl, hl, hnd, hf, hr, hs⟩
    rw [rng_len] at hl
    exact h xs M' hl hnd hf hr hs
/-- what the copies hold -/
abbrev flat (gs : List (Nat × List Nat)) : List Nat := gs.flatMap fun g => g.1 :: g.2
structure Copied (M M' : MM) (rs : List (Nat × Nat)) (gs : List (Nat × List Nat)) : Prop where
  nd : (flat gs).Nodup
  fresh : ∀ x, x ∈ flat gs → M x = none
  ext : ∀ y, M y ≠ none → M' y = M y
  live : ∀ x, x ∈ flat gs → M' x ≠ none
  at_ : ∀ (j : Nat) (g : Nat × List Nat) (r : Nat × Nat), gs[j]? = some g → rs[j]? = some r → g.2.length = r.1 ∧ M' g.1 = some (.lst (g.2.map D.ref)) ∧ ∀ x, x ∈ g.2 → RowOk M' r.2 x
theorem k__law_other : Keeps 15 (b__law_other c__law_wired c__law_draw c__law_turned c__law_ghost c__law_first c__law_tables c__law_net c__law_places) c__law_other := by
  rintro ds M P ⟨p, q, N, W, o, rfl, ok, hi2, hc3, pen, hN, hP⟩
  have hL := ok.wf.len
  unfold b__law_other
  (conv => whnf)
  refine ⟨p, q, N, 5, rfl, pen, by omega, by omega, by omega, ?_⟩
  intro way M1 hway pen1 _
  (conv => whnf)
  refine ⟨W, "in", isInp, rfl, .inl ⟨rfl, rfl⟩, by omega, ?_⟩
  rw [show ((List.range W.length).filter (isInp W)) = insOf W from rfl]
  (conv => whnf)
  refine ⟨p, q, _, 4, rfl, pen1, by omega, by omega, by omega, ?_⟩
  intro c1 M2 hc1 pen2 _
  (conv => whnf)
  refine ⟨p, q, _, 3, rfl, pen2, by omega, by omega, by omega, ?_⟩
  intro c2 M3 hc2 pen3 _
  (conv => whnf)
  refine ⟨by show 3 ≤ 100000; decide, ?_⟩
  rw [List.length_map]
  (conv => whnf); try dsimp only
  cases e : decide ((way : Int) = 4) with
  | true =>
    (conv => whnf); try dsimp only
    refine ⟨p, q, _, (insOf W).length, c1, 1 + c2, o.length, ?_, pen3, by omega, by omega, by omega, ok.outs, ?_⟩
    · rw [List.length_map]
      have : D.int ((1 : Int) + (c2 : Int)) = nI (1 + c2) := congrArg D.int (by omega)
      rw [this]; rfl
    intro W' o' M' ok' hi' hc' ho' pen' _
    exact fin_ok (hP W' o' M' ok' hi' (ho' (by omega)) (pen'.mono (by omega)))
  | false =>
    (conv => whnf)
    refine ⟨W, o, rfl, ok, ?_⟩
    have sm := tabOf_small ok
    have tn : (tabOf W o).n ≤ 3 := hc3
    have hcT : (tabOf W o).n = (cellsOf W).length := rfl
    have tk : (tabOf W o).k = (insOf W).length := rfl
    have tm : (tabOf W o).m = o.length := rfl
    generalize tabOf W o = T at sm tn tk tm hcT ⊢
    (conv => whnf)
    refine ⟨fun i acc M' => ∃ gs : List (Nat × List Nat), acc = gs.map (fun g => D.ref g.1) ∧ gs.length = i ∧ Copied M3 M' [(T.n, T.n), (T.k, T.n), (T.n, T.m), (T.k, T.m)] gs, ⟨[], rfl, rfl, ⟨List.nodup_nil, fun x h => (by cases h), fun _ _ => rfl, fun x h => (by cases h), fun j g r h => (by simp at h)⟩⟩, ?_, ?_⟩
    · rintro i y acc M' hy ⟨gs, rfl, hgl, hg⟩
      have hy : ([D.lst (gridL T.n T.n T.a), .lst (gridL T.k T.n T.b), .lst (gridL T.n T.m T.c), .lst (gridL T.k T.m T.d)])[i]? = some y := hy
      obtain ⟨r, n, a, rfl, hrs⟩ : ∃ r n a, y = .lst (gridL r n a) ∧ ([(T.n, T.n), (T.k, T.n), (T.n, T.m), (T.k, T.m)] : List (Nat × Nat))[i]? = some (r, n) := by
        rcases i with _ | _ | _ | _ | i
        · cases hy; exact ⟨_, _, _, rfl, rfl⟩
        · cases hy; exact ⟨_, _, _, rfl, rfl⟩
        · cases hy; exact ⟨_, _, _, rfl, rfl⟩
        · cases hy; exact ⟨_, _, _, rfl, rfl⟩
        · exact absurd hy (by simp)
      (conv => whnf)
      refine copy1 ?_
      intro xs M4 hxl hxn hxf hxr hxs u hu
      have hxlive : ∀ x, x ∈ xs → M4 x ≠ none := fun x hx e => by obtain ⟨f, hf⟩ := hxr x hx; rw [e] at hf; cases hf
      have hu' : M' u = none := by
        cases e : M' u with
        | none => rfl
        | some o => have := hxs u (by rw [e]; exact fun h => nomatch h); rw [hu, e] at this; cases this
      have h30 : ∀ x, M' x = none → M3 x = none := fun x hx => by
        cases e : M3 x with
        | none => rfl
        | some o => have := hg.ext x (by rw [e]; exact fun h => nomatch h); rw [hx, e] at this; cases this
      have hux : u ∉ xs := fun h => hxlive u h hu
      have hfl : ∀ x, x ∈ flat gs → x ≠ u ∧ x ∉ xs := fun x hx => ⟨fun e => hg.live x hx (e ▸ hu'), fun h => hg.live x hx (hxf x h)⟩
      have ef : flat (gs ++ [(u, xs)]) = flat gs ++ (u :: xs) := by simp [flat]
      refine ⟨gs ++ [(u, xs)], by rw [List.map_append]; rfl, by rw [List.length_append, hgl]; rfl, ⟨?_, fun x hx => ?_, fun y hy => ?_, fun x hx => ?_, fun j g r' hj hr' => ?_⟩⟩
      · rw [ef, List.nodup_append]
        refine ⟨hg.nd, List.nodup_cons.mpr ⟨hux, hxn⟩, fun x hx z hz e => ?_⟩
        subst e
        rcases List.mem_cons.mp hz with hz | hz
        · exact (hfl x hx).1 hz
        · exact (hfl x hx).2 hz
      · rw [ef] at hx
        rcases List.mem_append.mp hx with hx | hx
        · exact hg.fresh x hx
        · rcases List.mem_cons.mp hx with rfl | hx
          · exact h30 _ hu'
          · exact h30 _ (hxf x hx)
      · have h1 : M' y ≠ none := by rw [hg.ext y hy]; exact hy
        have : y ≠ u := fun e => h1 (e ▸ hu')
        rw [MM.upd_ne this, hxs y h1, hg.ext y hy]
      · rw [ef] at hx
        rcases List.mem_append.mp hx with hx | hx
        · rw [MM.upd_ne (hfl x hx).1, hxs x (hg.live x hx)]; exact hg.live x hx
        · rcases List.mem_cons.mp hx with rfl | hx
          · rw [MM.upd_same]; exact fun h => nomatch h
          · rw [MM.upd_ne (fun e : x = u => hux (e ▸ hx))]; exact hxlive x hx
      · by_cases hjl : j < gs.length
        · rw [List.getElem?_append_left hjl] at hj
          obtain ⟨a1, a2, a3⟩ := hg.at_ j g r' hj hr'
          have gm : ∀ x, x ∈ g.1 :: g.2 → x ∈ flat gs := fun x hx => List.mem_flatMap.mpr ⟨g, List.mem_of_getElem? hj, hx⟩
          have keep : ∀ x, x ∈ g.1 :: g.2 → (M4.upd u (.lst (xs.map D.ref))) x = M' x := fun x hx => by
            rw [MM.upd_ne (hfl x (gm x hx)).1, hxs x (hg.live x (gm x hx))]
          refine ⟨a1, by rw [keep _ (List.mem_cons_self ..)]; exact a2, fun x hx => ?_⟩
          obtain ⟨f, hf⟩ := a3 x hx
          exact ⟨f, by rw [keep x (List.mem_cons_of_mem _ hx)]; exact hf⟩
        · rw [List.getElem?_append_right (by omega)] at hj
          have hj0 : j - gs.length = 0 := by
            have := (List.getElem?_eq_some_iff.mp hj).1
            simp at this; omega
          rw [hj0] at hj
          have : g = (u, xs) := (Option.some.inj hj).symm
          subst this
          have : j = i := by omega
          subst this
          rw [hrs] at hr'
          cases hr'
          refine ⟨hxl, MM.upd_same, fun x hx => ?_⟩
          obtain ⟨f, hf⟩ := hxr x hx
          exact ⟨f, by rw [MM.upd_ne (fun e : x = u => hux (e ▸ hx))]; exact hf⟩
    · rintro acc M4 ⟨gs, rfl, hgl, hg⟩
      have hgl : gs.length = 4 := hgl
      obtain ⟨⟨A, as⟩, ⟨B, bs⟩, ⟨C, cs⟩, ⟨E, es⟩, rfl⟩ : ∃ g0 g1 g2 g3, gs = [g0, g1, g2, g3] := by
        match gs, hgl with
        | [a, b, c, d], _ => exact ⟨a, b, c, d, rfl⟩
      obtain ⟨la, ma, ra⟩ := hg.at_ 0 _ _ rfl rfl
      obtain ⟨lb, mb, rb⟩ := hg.at_ 1 _ _ rfl rfl
      obtain ⟨lc, mc, rc⟩ := hg.at_ 2 _ _ rfl rfl
      obtain ⟨le, me, re⟩ := hg.at_ 3 _ _ rfl rfl
      (conv => whnf)
      refine ⟨rfl, ?_⟩
      (conv => whnf)
      refine ⟨W, rfl, ok.wf, ?_⟩
      intro F f1 hF
      have hcn : (cellsOf W).length = T.n := hcT.symm
      rw [hcn]
      generalize hM5 : M4.upd F (.lst (bitL T.n f1)) = M5
      have pen4 : Pen M4 p q (N + 3) := by
        obtain ⟨x, ns, s, b, c, d⟩ := pen3
        exact Pen.mono ⟨x, ns, s, by rw [hg.ext p (by rw [b]; exact fun h => nomatch h)]; exact b, by rw [hg.ext q (by rw [c]; exact fun h => nomatch h)]; exact c, d⟩ (by omega)
      have Fp := pen4.ne hF
      have pen5 : Pen M5 p q (N + 3) := by rw [← hM5]; exact pen4.upd Fp.1 Fp.2
      have Ffl : F ∉ flat [(A, as), (B, bs), (C, cs), (E, es)] := fun h => hg.live F h hF
      have perm : (A :: B :: C :: E :: F :: (as ++ bs ++ cs ++ es)).Perm (F :: flat [(A, as), (B, bs), (C, cs), (E, es)]) := List.perm_iff_count.mpr fun x => by
        simp only [flat, List.flatMap_cons, List.flatMap_nil, List.count_cons, List.count_append, List.count_nil]; omega
      have keep : ∀ x, x ∈ flat [(A, as), (B, bs), (C, cs), (E, es)] → M5 x = M4 x := fun x hx => by
        have : x ≠ F := fun e => Ffl (e ▸ hx)
        rw [← hM5, MM.upd_ne this]
      have inA : ∀ x, x ∈ A :: as → x ∈ flat [(A, as), (B, bs), (C, cs), (E, es)] := fun x hx => List.mem_flatMap.mpr ⟨(A, as), by simp, hx⟩
      have inB : ∀ x, x ∈ B :: bs → x ∈ flat [(A, as), (B, bs), (C, cs), (E, es)] := fun x hx => List.mem_flatMap.mpr ⟨(B, bs), by simp, hx⟩
      have inC : ∀ x, x ∈ C :: cs → x ∈ flat [(A, as), (B, bs), (C, cs), (E, es)] := fun x hx => List.mem_flatMap.mpr ⟨(C, cs), by simp, hx⟩
      have inE : ∀ x, x ∈ E :: es → x ∈ flat [(A, as), (B, bs), (C, cs), (E, es)] := fun x hx => List.mem_flatMap.mpr ⟨(E, es), by simp, hx⟩
      have hd := fun {x : Nat} {l : List Nat} => List.mem_cons_self (a := x) (l := l)
      have np : ∀ z, M3 z ≠ none → z ≠ F → z ∉ A :: B :: C :: E :: F :: (as ++ bs ++ cs ++ es) := fun z hz hzF h => by
        rcases List.mem_cons.mp (perm.mem_iff.mp h) with e | h
        · exact hzF e
        · exact hz (hg.fresh z h)
      have ex : Ex M5 p q A B C E F as bs cs es T.n T.m := by
        refine ⟨perm.nodup_iff.mpr (List.nodup_cons.mpr ⟨Ffl, hg.nd⟩), np p ?_ (fun e => Fp.1 e.symm), np q ?_ (fun e => Fp.2 e.symm), ?_, ?_, ?_, ?_, ?_, ?_, ?_, ?_, ?_⟩
        · obtain ⟨_, _, _, b, _⟩ := pen3; rw [b]; exact fun h => nomatch h
        · obtain ⟨_, _, _, _, c, _⟩ := pen3; rw [c]; exact fun h => nomatch h
        · rw [keep A (inA A hd)]; exact ma
        · rw [keep B (inB B hd)]; exact mb
        · rw [keep C (inC C hd)]; exact mc
        · rw [keep E (inE E hd)]; exact me
        · exact ⟨f1, by rw [← hM5, MM.upd_same]⟩
        · intro x hx; obtain ⟨f, hf⟩ := ra x hx; exact ⟨f, by rw [keep x (inA x (List.mem_cons_of_mem _ hx))]; exact hf⟩
        · intro x hx; obtain ⟨f, hf⟩ := rb x hx; exact ⟨f, by rw [keep x (inB x (List.mem_cons_of_mem _ hx))]; exact hf⟩
        · intro x hx; obtain ⟨f, hf⟩ := rc x hx; exact ⟨f, by rw [keep x (inC x (List.mem_cons_of_mem _ hx))]; exact hf⟩
        · intro x hx; obtain ⟨f, hf⟩ := re x hx; exact ⟨f, by rw [keep x (inE x (List.mem_cons_of_mem _ hx))]; exact hf⟩
      have rest : ∀ (as' cs' : List Nat) (n' N' : Nat) (M6 : MM) (o4 o5 : Option D), Ex M6 p q A B C E F as' bs cs' es n' T.m → as'.length = n' → cs'.length = n' → n' ≤ 4 → Pen M6 p q N' → N' ≤ N + 40 →
          other_rest c__law_wired c__law_draw c__law_turned (finD P) [some (.ref p), some (.lst (W.map wireD)), some (.lst (o.map nI)), some (nI way), o4, o5, some (.ref A), some (.ref B), some (.ref C), some (.ref E), none, none, some (.ref F), none, none] M6 := by
        intro as' cs' n' N' M6 o4 o5 ex' la' lc' hn' pen6 hN'
        obtain ⟨Z, bx⟩ := ex'.box la' lc' (by rw [le, lb])
        have lb' : bs.length = T.k := lb
        rw [lb'] at bx
        unfold other_rest
        (conv => whnf)
        refine ⟨by show 4 ≤ 100000; decide, ?_⟩
        (conv => whnf)
        refine ⟨Z, p, q, N', A, B, C, E, F, n', T.k, T.m, rfl, bx, pen6, by omega, by omega, by omega, by have := ok.outs; omega, ?_⟩
        intro Z' M7 bx' pen7
        refine rest2_ok (m := T.m) tm.symm bx' pen7 (by omega) (by omega) hn' (by have := ok.outs; omega) ?_
        intro W' o' M8 ok' hi' ho' pen8
        exact hP W' o' M8 ok' (by omega) (by omega) (pen8.mono (by omega))
      (conv => whnf); try dsimp only
      cases e : decide ((1 : Int) < (way : Int)) with
      | false => exact rest as cs T.n (N + 3) M5 _ _ ex la lc (by omega) pen5 (by omega)
      | true =>
        (conv => whnf)
        refine ⟨p, q, N + 3, A, B, C, E, F, as, bs, cs, es, T.n, T.m, ?_, ex, la, ?_, ?_, by have := ok.outs; omega, pen5, by omega, ?_⟩
        · rw [List.length_map, tm]; rfl
        · have a1 : as.length = T.n := la
          have a2 : bs.length = T.k := lb
          omega
        · have a1 : cs.length = T.n := lc
          omega
        intro u v M6 ex6 pen6
        refine rest (as ++ [u]) (cs ++ [v]) (T.n + 1) _ M6 _ _ ex6 ?_ ?_ (by omega) pen6 (by omega)
        · rw [List.length_append]; have a1 : as.length = T.n := la
          rw [a1]; rfl
        · rw [List.length_append]; have a1 : cs.length = T.n := lc
          rw [a1]; rfl
end BB
end
section
/-! contracts: the pair -/
namespace BB
open PySem DL
theorem k__law_pair : Keeps 4 (b__law_pair c__law_draw c__law_other c__law_net c__law_late_pair) c__law_pair := by
  rintro ds M P ⟨p, q, n, rfl, pen, hn, hp⟩
  unfold b__law_pair
  (conv => whnf)
  refine ⟨p, q, n, 4, rfl, pen, by omega, by omega, by omega, ?_⟩
  intro r M1 hr pen1 _
  (conv => whnf); try dsimp only
  cases e : decide ((r : Int) = 0) with
  | true => exact ⟨p, q, n + 1, rfl, pen1, by omega, fun W W' o o' M' a b c d => fin_ok (hp W W' o o' M' a b c d)⟩
  | false =>
    (conv => whnf)
    refine ⟨p, q, _, 3, rfl, pen1, by omega, by omega, by omega, ?_⟩
    intro c0 M2 h0 pen2 _
    (conv => whnf)
    refine ⟨p, q, _, 4, rfl, pen2, by omega, by omega, by omega, ?_⟩
    intro c1 M3 h1 pen3 _
    (conv => whnf)
    refine ⟨p, q, _, 4, rfl, pen3, by omega, by omega, by omega, ?_⟩
    intro c2 M4 h2 pen4 _
    (conv => whnf)
    refine ⟨by show 3 ≤ 100000; decide, ?_⟩
    (conv => whnf)
    refine ⟨p, q, _, 4, rfl, pen4, by omega, by omega, by omega, ?_⟩
    intro many M5 hm pen5 _
    (conv => whnf)
    refine ⟨p, q, _, c0, c1, c2, many, rfl, pen5, by omega, by omega, by omega, by omega, ?_⟩
    intro W o M6 ok hi hc _ pen6 _
    (conv => whnf)
    refine ⟨p, q, _, W, o, rfl, ok, by omega, by omega, pen6, by omega, ?_⟩
    intro W' o' M7 ok' hi' ho' pen7
    (conv => whnf)
    refine ⟨p, q, _, 2, rfl, pen7, by omega, by omega, by omega, ?_⟩
    intro r2 M8 hr2 pen8 _
    (conv => whnf); try dsimp only
    cases e : decide ((r2 : Int) = 0) with
    | true =>
      (conv => whnf)
      refine ⟨by show 2 ≤ 100000; decide, ?_⟩
      exact fin_ok (hp W W' o o' M8 ok ok' hi'.symm ho'.symm)
    | false =>
      (conv => whnf)
      refine ⟨by show 2 ≤ 100000; decide, ?_⟩
      exact fin_ok (hp W' W o' o M8 ok' ok hi' ho')
end BB
end
section
/-! the walks (printed by gen.py) -/
namespace BB
open PySem PySem.Spec PyProof.Rows L2 DL
section
variable {P : Program} {w : World} {K : PySem.W.Frag} {mg : Str → Option Value} {base : Heap}
theorem sc_number_of : FnScope ["bits", "number", "at", "bit"] ["bits"] (defScope s_number_of) := ⟨rfl, rfl, rfl, by decide +kernel, rfl, by decide +kernel, by decide +kernel⟩
theorem w_number_of {c_number_of : CT} {dvs : List V} {kws : List (Str × V)} {f : Addr} {fd : FuncData} (T : TX K mg) (F : FunD K "number_of" "number_of" (defArgs s_number_of) (defBody s_number_of) (defScope s_number_of) dvs kws f fd) (len : ∀ ds M Q, c_number_of ds M Q → ds.length = 1) (keeps : Keeps 4 (b_number_of) c_number_of) : FnOk P w K mg base CX0 1 f fd ["bits"] (spD K c_number_of) :=
  fn_ok F sc_number_of len keeps fun cdv A outer s H E hr => ⟨_, ((jb_cons (js_set (i := 1) sc_number_of.nd rfl (by first | exact Or.inl rfl | exact Or.inr rfl) je_int)
    (jb_cons (js_for PassesOwn.never rfl (ji_enum (by rfl) T.enumerate (je_var 0)) (jg_tup rfl (nms_cons (pg_name (i := 2) sc_number_of.nd rfl (by first | exact Or.inl rfl | exact Or.inr rfl)) (nms_cons (pg_name (i := 3) sc_number_of.nd rfl (by first | exact Or.inl rfl | exact Or.inr rfl)) .nil))) (jb_one (js_aug (i := 1) sc_number_of.nd rfl (by first | exact Or.inl rfl | exact Or.inr rfl) (je_shl (je_var 3) (je_var 2)) iop_or s2_I0)))
    (jb_one (js_ret (je_var 1))))) : JB K (cxOf CX0 P w K mg base ["bits", "number", "at", "bit"] "number_of" (defScope s_number_of) f cdv A outer s H E).nox (defBody s_number_of) _ (b_number_of))⟩
end
end BB
end
section
/-! the walks (printed by gen.py) -/
namespace BB
open PySem PySem.Spec PyProof.Rows L2 DL
section
variable {P : Program} {w : World} {K : PySem.W.Frag} {mg : Str → Option Value} {base : Heap}
theorem sc_bits_of : FnScope ["number", "size", "at"] ["number", "size"] (defScope s_bits_of) := ⟨rfl, rfl, rfl, by decide +kernel, rfl, by decide +kernel, by decide +kernel⟩
theorem w_bits_of {c_bits_of : CT} {dvs : List V} {kws : List (Str × V)} {f : Addr} {fd : FuncData} (T : TX K mg) (F : FunD K "bits_of" "bits_of" (defArgs s_bits_of) (defBody s_bits_of) (defScope s_bits_of) dvs kws f fd) (len : ∀ ds M Q, c_bits_of ds M Q → ds.length = 2) (keeps : Keeps 3 (b_bits_of) c_bits_of) : FnOk P w K mg base CX0 1 f fd ["number", "size"] (spD K c_bits_of) :=
  fn_ok F sc_bits_of len keeps fun cdv A outer s H E hr => ⟨_, ((jb_one (js_ret (je_tupOf (by rfl) T.tuple (ja_cons (je_lc (own := [("at", 2)]) rfl sc_bits_of.nd (ji_range (by rfl) T.range (je_var 1)) (blkOk_by (by kernel_rfl)) (fun _ _ _ _ _ => (jc_name (i := 2) sc_bits_of.nd rfl (by first | exact Or.inl rfl | exact Or.inr rfl))) (fun _ _ _ _ _ => jts_nil) (fun _ _ _ _ _ => (je_and (je_shr (je_var 0) (je_var 2)) je_int))) ja_nil)))) : JB K (cxOf CX0 P w K mg base ["number", "size", "at"] "bits_of" (defScope s_bits_of) f cdv A outer s H E).nox (defBody s_bits_of) _ (b_bits_of))⟩
end
end BB
end
section
/-! the walks (printed by gen.py) -/
namespace BB
open PySem PySem.Spec PyProof.Rows L2 DL
section
variable {P : Program} {w : World} {K : PySem.W.Frag} {mg : Str → Option Value} {base : Heap}
theorem sc_places_of : FnScope ["number", "at"] ["number"] (defScope s_places_of) := ⟨rfl, rfl, rfl, by decide +kernel, rfl, by decide +kernel, by decide +kernel⟩
theorem w_places_of {c_places_of : CT} {dvs : List V} {kws : List (Str × V)} {f : Addr} {fd : FuncData} (T : TX K mg) (F : FunD K "places_of" "places_of" (defArgs s_places_of) (defBody s_places_of) (defScope s_places_of) dvs kws f fd) (len : ∀ ds M Q, c_places_of ds M Q → ds.length = 1) (keeps : Keeps 2 (b_places_of) c_places_of) : FnOk P w K mg base CX0 1 f fd ["number"] (spD K c_places_of) :=
  fn_ok F sc_places_of len keeps fun cdv A outer s H E hr => ⟨_, ((jb_one (js_ret (je_lc (own := [("at", 1)]) rfl sc_places_of.nd (ji_range (by rfl) T.range (je_bits (je_var 0))) (blkOk_by (by kernel_rfl)) (fun _ _ _ _ _ => (jc_name (i := 1) sc_places_of.nd rfl (by first | exact Or.inl rfl | exact Or.inr rfl))) (fun _ _ _ _ _ => (jts_one (jt_tru (je_and (je_shr (je_var 0) (je_var 1)) je_int)))) (fun _ _ _ _ _ => (je_var 1))))) : JB K (cxOf CX0 P w K mg base ["number", "at"] "places_of" (defScope s_places_of) f cdv A outer s H E).nox (defBody s_places_of) _ (b_places_of))⟩
end
end BB
end
section
/-! the walks (printed by gen.py) -/
namespace BB
open PySem PySem.Spec PyProof.Rows L2 DL
section
variable {P : Program} {w : World} {K : PySem.W.Frag} {mg : Str → Option Value} {base : Heap}
theorem sc_parity : FnScope ["number", "found"] ["number"] (defScope s_parity) := ⟨rfl, rfl, rfl, by decide +kernel, rfl, by decide +kernel, by decide +kernel⟩
theorem w_parity {c_parity : CT} {dvs : List V} {kws : List (Str × V)} {f : Addr} {fd : FuncData} (T : TX K mg) (F : FunD K "parity" "parity" (defArgs s_parity) (defBody s_parity) (defScope s_parity) dvs kws f fd) (len : ∀ ds M Q, c_parity ds M Q → ds.length = 1) (keeps : Keeps 2 (b_parity) c_parity) : FnOk P w K mg base CX0 1 f fd ["number"] (spD K c_parity) :=
  fn_ok F sc_parity len keeps fun cdv A outer s H E hr => ⟨_, ((jb_cons (js_set (i := 1) sc_parity.nd rfl (by first | exact Or.inl rfl | exact Or.inr rfl) je_int)
    (jb_cons (js_while PassesOwn.never (jt_tru (je_var 0)) (jb_cons (js_aug (i := 1) sc_parity.nd rfl (by first | exact Or.inl rfl | exact Or.inr rfl) je_int iop_xor s2_I0)
    (jb_one (js_aug (i := 0) sc_parity.nd rfl (by first | exact Or.inl rfl | exact Or.inr rfl) (je_sub (je_var 0) je_int) iop_and s2_I0))))
    (jb_one (js_ret (je_var 1))))) : JB K (cxOf CX0 P w K mg base ["number", "found"] "parity" (defScope s_parity) f cdv A outer s H E).nox (defBody s_parity) _ (b_parity))⟩
end
end BB
end
section
/-! the walks (printed by gen.py) -/
namespace BB
open PySem PySem.Spec PyProof.Rows L2 DL
section
variable {P : Program} {w : World} {K : PySem.W.Frag} {mg : Str → Option Value} {base : Heap}
theorem sc_times : FnScope ["row", "rows", "found", "at", "other"] ["row", "rows"] (defScope s_times) := ⟨rfl, rfl, rfl, by decide +kernel, rfl, by decide +kernel, by decide +kernel⟩
theorem w_times {c_times : CT} {dvs : List V} {kws : List (Str × V)} {f : Addr} {fd : FuncData} (T : TX K mg) (F : FunD K "times" "times" (defArgs s_times) (defBody s_times) (defScope s_times) dvs kws f fd) (len : ∀ ds M Q, c_times ds M Q → ds.length = 2) (keeps : Keeps 5 (b_times) c_times) : FnOk P w K mg base CX0 1 f fd ["row", "rows"] (spD K c_times) :=
  fn_ok F sc_times len keeps fun cdv A outer s H E hr => ⟨_, ((jb_cons (js_set (i := 2) sc_times.nd rfl (by first | exact Or.inl rfl | exact Or.inr rfl) je_int)
    (jb_cons (js_for PassesOwn.never rfl (ji_enum (by rfl) T.enumerate (je_var 1)) (jg_tup rfl (nms_cons (pg_name (i := 3) sc_times.nd rfl (by first | exact Or.inl rfl | exact Or.inr rfl)) (nms_cons (pg_name (i := 4) sc_times.nd rfl (by first | exact Or.inl rfl | exact Or.inr rfl)) .nil))) (jb_one (js_if (jt_tru (je_and (je_shr (je_var 0) (je_var 3)) je_int)) (jb_one (js_aug (i := 2) sc_times.nd rfl (by first | exact Or.inl rfl | exact Or.inr rfl) (je_var 4) iop_xor s2_I0)) jb_nil)))
    (jb_one (js_ret (je_var 2))))) : JB K (cxOf CX0 P w K mg base ["row", "rows", "found", "at", "other"] "times" (defScope s_times) f cdv A outer s H E).nox (defBody s_times) _ (b_times))⟩
end
end BB
end
section
/-! the walks (printed by gen.py) -/
namespace BB
open PySem PySem.Spec PyProof.Rows L2 DL
section
variable {P : Program} {w : World} {K : PySem.W.Frag} {mg : Str → Option Value} {base : Heap}
theorem sc_behind : FnScope ["column", "rows", "found", "at", "row"] ["column", "rows"] (defScope s_behind) := ⟨rfl, rfl, rfl, by decide +kernel, rfl, by decide +kernel, by decide +kernel⟩
theorem w_behind {c_parity c_behind : CT} {dvs : List V} {kws : List (Str × V)} {f : Addr} {fd : FuncData} (T : TX K mg) (G_parity : FnK P w K mg base 1 "parity" ["number"] c_parity) (F : FunD K "behind" "behind" (defArgs s_behind) (defBody s_behind) (defScope s_behind) dvs kws f fd) (len : ∀ ds M Q, c_behind ds M Q → ds.length = 2) (keeps : Keeps 5 (b_behind c_parity) c_behind) : FnOk P w K mg base CX0 2 f fd ["column", "rows"] (spD K c_behind) :=
  fn_ok F sc_behind len keeps fun cdv A outer s H E hr => ⟨_, ((jb_cons (js_set (i := 2) sc_behind.nd rfl (by first | exact Or.inl rfl | exact Or.inr rfl) je_int)
    (jb_cons (js_for PassesOwn.never rfl (ji_enum (by rfl) T.enumerate (je_var 1)) (jg_tup rfl (nms_cons (pg_name (i := 3) sc_behind.nd rfl (by first | exact Or.inl rfl | exact Or.inr rfl)) (nms_cons (pg_name (i := 4) sc_behind.nd rfl (by first | exact Or.inl rfl | exact Or.inr rfl)) .nil))) (jb_one (js_aug (i := 2) sc_behind.nd rfl (by first | exact Or.inl rfl | exact Or.inr rfl) (je_shl (jk_call G_parity (hr.mono (by decide)) (by rfl) (ja_cons (je_and (je_var 4) (je_var 0)) ja_nil)) (je_var 3)) iop_or s2_I0)))
    (jb_one (js_ret (je_var 2))))) : JB K (cxOf CX0 P w K mg base ["column", "rows", "found", "at", "row"] "behind" (defScope s_behind) f cdv A outer s H E).nox (defBody s_behind) _ (b_behind c_parity))⟩
end
end BB
end
section
/-! the walks (printed by gen.py) -/
namespace BB
open PySem PySem.Spec PyProof.Rows L2 DL
section
variable {P : Program} {w : World} {K : PySem.W.Frag} {mg : Str → Option Value} {base : Heap}
theorem sc_Span_reduced : FnScope ["self", "row", "made", "other", "more"] ["self", "row"] (defScope s_Span_reduced) := ⟨rfl, rfl, rfl, by decide +kernel, rfl, by decide +kernel, by decide +kernel⟩
theorem w_Span_reduced {c_Span_reduced : CT} {dvs : List V} {kws : List (Str × V)} {f : Addr} {fd : FuncData} (T : TX K mg) (F : FunD K "reduced" "Span.reduced" (defArgs s_Span_reduced) (defBody s_Span_reduced) (defScope s_Span_reduced) dvs kws f fd) (len : ∀ ds M Q, c_Span_reduced ds M Q → ds.length = 2) (keeps : Keeps 5 (b_Span_reduced) c_Span_reduced) : FnOk P w K mg base CX0 1 f fd ["self", "row"] (spD K c_Span_reduced) :=
  fn_ok F sc_Span_reduced len keeps fun cdv A outer s H E hr => ⟨_, ((jb_cons (js_set (i := 2) sc_Span_reduced.nd rfl (by first | exact Or.inl rfl | exact Or.inr rfl) je_int)
    (jb_cons (js_forL PassesOwn.never rfl (je_fld T.cSpan (T.na (99, "kept") (by decide)) (je_var 0)) (jg_tup rfl (nms_cons (pg_name (i := 3) sc_Span_reduced.nd rfl (by first | exact Or.inl rfl | exact Or.inr rfl)) (nms_cons (pg_name (i := 4) sc_Span_reduced.nd rfl (by first | exact Or.inl rfl | exact Or.inr rfl)) .nil))) (jb_one (js_if (jt_lt (je_xor (je_var 1) (je_var 3)) (je_var 1)) (jb_cons (js_aug (i := 1) sc_Span_reduced.nd rfl (by first | exact Or.inl rfl | exact Or.inr rfl) (je_var 3) iop_xor s2_I0)
    (jb_one (js_aug (i := 2) sc_Span_reduced.nd rfl (by first | exact Or.inl rfl | exact Or.inr rfl) (je_var 4) iop_xor s2_I0))) jb_nil)))
    (jb_one (js_ret (je_tup (ja_cons (je_var 1) (ja_cons (je_var 2) ja_nil))))))) : JB K (cxOf CX0 P w K mg base ["self", "row", "made", "other", "more"] "Span.reduced" (defScope s_Span_reduced) f cdv A outer s H E).nox (defBody s_Span_reduced) _ (b_Span_reduced))⟩
end
end BB
end
section
/-! the walks (printed by gen.py) -/
namespace BB
open PySem PySem.Spec PyProof.Rows L2 DL
section
variable {P : Program} {w : World} {K : PySem.W.Frag} {mg : Str → Option Value} {base : Heap}
theorem sc_Span_put : FnScope ["self", "row", "left", "made", "place"] ["self", "row"] (defScope s_Span_put) := ⟨rfl, rfl, rfl, by decide +kernel, rfl, by decide +kernel, by decide +kernel⟩
theorem w_Span_put {c_Span_reduced c_Span_put : CT} {dvs : List V} {kws : List (Str × V)} {f : Addr} {fd : FuncData} (T : TX K mg) (M_Span_reduced : MtK P w K mg base 1 99 "reduced" ["self", "row"] c_Span_reduced) (F : FunD K "put" "Span.put" (defArgs s_Span_put) (defBody s_Span_put) (defScope s_Span_put) dvs kws f fd) (len : ∀ ds M Q, c_Span_put ds M Q → ds.length = 2) (keeps : Keeps 5 (b_Span_put c_Span_reduced) c_Span_put) : FnOk P w K mg base CX0 2 f fd ["self", "row"] (spD K c_Span_put) :=
  fn_ok F sc_Span_put len keeps fun cdv A outer s H E hr => ⟨_, ((jb_cons (js_asg (jk_meth M_Span_reduced (hr.mono (by decide)) (je_var 0) (ja_cons (je_var 1) ja_nil)) (jg_tup rfl (nms_cons (pg_name (i := 2) sc_Span_put.nd rfl (by first | exact Or.inl rfl | exact Or.inr rfl)) (nms_cons (pg_name (i := 3) sc_Span_put.nd rfl (by first | exact Or.inl rfl | exact Or.inr rfl)) .nil))))
    (jb_cons (js_set (i := 4) sc_Span_put.nd rfl (by first | exact Or.inl rfl | exact Or.inr rfl) (je_shl je_int (je_fld T.cSpan (T.na (99, "count") (by decide)) (je_var 0))))
    (jb_cons (js_fldaug T.cSpan (T.na (99, "count") (by decide)) (je_var 0) je_int in_add s2_addF)
    (jb_cons (js_if (jt_not (jt_tru (je_var 2))) (jb_one (js_ret (je_var 3))) jb_nil)
    (jb_cons (js_expr (jk_app (je_fld T.cSpan (T.na (99, "kept") (by decide)) (je_var 0)) (ja_cons (je_tup (ja_cons (je_var 2) (ja_cons (je_or (je_var 3) (je_var 4)) ja_nil))) ja_nil)))
    (jb_one (js_ret je_non))))))) : JB K (cxOf CX0 P w K mg base ["self", "row", "left", "made", "place"] "Span.put" (defScope s_Span_put) f cdv A outer s H E).nox (defBody s_Span_put) _ (b_Span_put c_Span_reduced))⟩
end
end BB
end
section
/-! the walks (printed by gen.py) -/
namespace BB
open PySem PySem.Spec PyProof.Rows L2 DL
section
variable {P : Program} {w : World} {K : PySem.W.Frag} {mg : Str → Option Value} {base : Heap}
theorem sc_Span___init__ : FnScope ["self", "rows", "row"] ["self", "rows"] (defScope s_Span___init__) := ⟨rfl, rfl, rfl, by decide +kernel, rfl, by decide +kernel, by decide +kernel⟩
theorem w_Span___init__ {c_Span_put c_Span___init__ : CT} {dvs : List V} {kws : List (Str × V)} {f : Addr} {fd : FuncData} (T : TX K mg) (M_Span_put : MtK P w K mg base 2 99 "put" ["self", "row"] c_Span_put) (F : FunD K "__init__" "Span.__init__" (defArgs s_Span___init__) (defBody s_Span___init__) (defScope s_Span___init__) dvs kws f fd) (len : ∀ ds M Q, c_Span___init__ ds M Q → ds.length = 2) (keeps : Keeps 3 (b_Span___init__ c_Span_put) c_Span___init__) : FnOk P w K mg base CX0 3 f fd ["self", "rows"] (spD K c_Span___init__) :=
  fn_ok F sc_Span___init__ len keeps fun cdv A outer s H E hr => ⟨_, ((jb_cons (js_fld T.cSpan (T.na (99, "kept") (by decide)) (je_var 0) (je_lstM ja_nil))
    (jb_cons (js_fld T.cSpan (T.na (99, "count") (by decide)) (je_var 0) je_int)
    (jb_one (js_for PassesOwn.never rfl (ji_seq (je_var 1)) (jg_name (i := 2) sc_Span___init__.nd rfl (by first | exact Or.inl rfl | exact Or.inr rfl)) (jb_one (js_expr (jk_meth M_Span_put (hr.mono (by decide)) (je_var 0) (ja_cons (je_var 2) ja_nil)))))))) : JB K (cxOf CX0 P w K mg base ["self", "rows", "row"] "Span.__init__" (defScope s_Span___init__) f cdv A outer s H E).nox (defBody s_Span___init__) _ (b_Span___init__ c_Span_put))⟩
end
end BB
end
section
/-! the walks (printed by gen.py) -/
namespace BB
open PySem PySem.Spec PyProof.Rows L2 DL
section
variable {P : Program} {w : World} {K : PySem.W.Frag} {mg : Str → Option Value} {base : Heap}
theorem sc_Span_made_of : FnScope ["self", "row", "left", "made"] ["self", "row"] (defScope s_Span_made_of) := ⟨rfl, rfl, rfl, by decide +kernel, rfl, by decide +kernel, by decide +kernel⟩
theorem w_Span_made_of {c_Span_reduced c_Span_made_of : CT} {dvs : List V} {kws : List (Str × V)} {f : Addr} {fd : FuncData} (T : TX K mg) (M_Span_reduced : MtK P w K mg base 1 99 "reduced" ["self", "row"] c_Span_reduced) (F : FunD K "made_of" "Span.made_of" (defArgs s_Span_made_of) (defBody s_Span_made_of) (defScope s_Span_made_of) dvs kws f fd) (len : ∀ ds M Q, c_Span_made_of ds M Q → ds.length = 2) (keeps : Keeps 4 (b_Span_made_of c_Span_reduced) c_Span_made_of) : FnOk P w K mg base CX0 2 f fd ["self", "row"] (spD K c_Span_made_of) :=
  fn_ok F sc_Span_made_of len keeps fun cdv A outer s H E hr => ⟨_, ((jb_cons (js_asg (jk_meth M_Span_reduced (hr.mono (by decide)) (je_var 0) (ja_cons (je_var 1) ja_nil)) (jg_tup rfl (nms_cons (pg_name (i := 2) sc_Span_made_of.nd rfl (by first | exact Or.inl rfl | exact Or.inr rfl)) (nms_cons (pg_name (i := 3) sc_Span_made_of.nd rfl (by first | exact Or.inl rfl | exact Or.inr rfl)) .nil))))
    (jb_one (js_ret (je_ifExp (jt_tru (je_var 2)) je_non (je_var 3))))) : JB K (cxOf CX0 P w K mg base ["self", "row", "left", "made"] "Span.made_of" (defScope s_Span_made_of) f cdv A outer s H E).nox (defBody s_Span_made_of) _ (b_Span_made_of c_Span_reduced))⟩
end
end BB
end
section
/-! the walks (printed by gen.py) -/
namespace BB
open PySem PySem.Spec PyProof.Rows L2 DL
section
variable {P : Program} {w : World} {K : PySem.W.Frag} {mg : Str → Option Value} {base : Heap}
theorem sc_combined : FnScope ["columns", "bits", "size", "rows", "column", "at", "found", "longer", "bit"] ["columns", "bits", "size"] (defScope s_combined) := ⟨rfl, rfl, rfl, by decide +kernel, rfl, by decide +kernel, by decide +kernel⟩
theorem w_combined {c_Span___init__ c_Span_made_of c_number_of c_combined : CT} {dvs : List V} {kws : List (Str × V)} {f : Addr} {fd : FuncData} (T : TX K mg) (F_Span1 : MkK P w K mg base 3 99 "Span" ["self", "rows"] c_Span___init__ [] []) (M_Span_made_of : MtK P w K mg base 2 99 "made_of" ["self", "row"] c_Span_made_of) (G_number_of : FnK P w K mg base 1 "number_of" ["bits"] c_number_of) (F : FunD K "combined" "combined" (defArgs s_combined) (defBody s_combined) (defScope s_combined) dvs kws f fd) (len : ∀ ds M Q, c_combined ds M Q → ds.length = 3) (keeps : Keeps 9 (b_combined c_Span___init__ c_Span_made_of c_number_of) c_combined) : FnOk P w K mg base CX0 5 f fd ["columns", "bits", "size"] (spD K c_combined) :=
  fn_ok F sc_combined len keeps fun cdv A outer s H E hr => ⟨_, ((jb_cons (js_setLc (i := 3) (own := [("at", 5)]) rfl sc_combined.nd rfl rfl (sw_true rfl rfl rfl (by kernel_rfl)) (ji_range (by rfl) T.range (je_var 2)) (blkOk_by (by kernel_rfl)) (fun _ _ _ _ _ => (jc_name (i := 5) sc_combined.nd rfl (by first | exact Or.inl rfl | exact Or.inr rfl))) (fun _ _ _ _ _ => jts_nil) (fun _ _ _ _ _ => (jk_call G_number_of (hr.mono (by decide)) (by rfl) (ja_cons (je_lc (own := [("column", 4)]) rfl sc_combined.nd (ji_seq (je_var 0)) (blkOk_by (by kernel_rfl)) (fun _ _ _ _ _ => (jc_name (i := 4) sc_combined.nd rfl (by first | exact Or.inl rfl | exact Or.inr rfl))) (fun _ _ _ _ _ => jts_nil) (fun _ _ _ _ _ => (je_and (je_shr (je_var 4) (je_var 5)) je_int))) ja_nil))))
    (jb_cons (js_set (i := 6) sc_combined.nd rfl (by first | exact Or.inl rfl | exact Or.inr rfl) (jk_meth M_Span_made_of (hr.mono (by decide)) (jk_makeM F_Span1 (hr.mono (by decide)) (by rfl) (ja_cons (je_var 3) ja_nil)) (ja_cons (jk_call G_number_of (hr.mono (by decide)) (by rfl) (ja_cons (je_var 1) ja_nil)) ja_nil)))
    (jb_cons (js_if (jt_notN (je_var 6)) (jb_one (js_ret (je_tup (ja_cons (je_var 6) (ja_cons je_non ja_nil))))) jb_nil)
    (jb_cons (js_setLc (i := 7) (own := [("column", 4), ("bit", 8)]) rfl sc_combined.nd rfl rfl (sw_true rfl rfl rfl (by kernel_rfl)) (jk_zip (by rfl) T.zip (je_var 0) (je_var 1)) (blkOk_by (by kernel_rfl)) (fun _ _ _ _ _ => (jc_tup rfl (nms_cons (pg_name (i := 4) sc_combined.nd rfl (by first | exact Or.inl rfl | exact Or.inr rfl)) (nms_cons (pg_name (i := 8) sc_combined.nd rfl (by first | exact Or.inl rfl | exact Or.inr rfl)) .nil)))) (fun _ _ _ _ _ => jts_nil) (fun _ _ _ _ _ => (je_or (je_var 4) (je_shl (je_var 8) (je_var 2)))))
    (jb_one (js_ret (je_tup (ja_cons je_non (ja_cons (jk_meth M_Span_made_of (hr.mono (by decide)) (jk_makeM F_Span1 (hr.mono (by decide)) (by rfl) (ja_cons (je_var 7) ja_nil)) (ja_cons (je_shl je_int (je_var 2)) ja_nil)) ja_nil))))))))) : JB K (cxOf CX0 P w K mg base ["columns", "bits", "size", "rows", "column", "at", "found", "longer", "bit"] "combined" (defScope s_combined) f cdv A outer s H E).nox (defBody s_combined) _ (b_combined c_Span___init__ c_Span_made_of c_number_of))⟩
end
end BB
end
section
/-! the walks (printed by gen.py) -/
namespace BB
open PySem PySem.Spec PyProof.Rows L2 DL
section
variable {P : Program} {w : World} {K : PySem.W.Frag} {mg : Str → Option Value} {base : Heap}
theorem sc_check_wires : FnScope ["wires", "outs", "wire", "sources", "source", "out"] ["wires", "outs"] (defScope s_check_wires) := ⟨rfl, rfl, rfl, by decide +kernel, rfl, by decide +kernel, by decide +kernel⟩
theorem w_check_wires {c_check_wires : CT} {dvs : List V} {kws : List (Str × V)} {f : Addr} {fd : FuncData} (T : TX K mg) (F : FunD K "check_wires" "check_wires" (defArgs s_check_wires) (defBody s_check_wires) (defScope s_check_wires) dvs kws f fd) (len : ∀ ds M Q, c_check_wires ds M Q → ds.length = 2) (keeps : Keeps 6 (b_check_wires) c_check_wires) : FnOk P w K mg base CX0 1 f fd ["wires", "outs"] (spD K c_check_wires) :=
  fn_ok F sc_check_wires len keeps fun cdv A outer s H E hr => ⟨_, ((jb_cons (js_for PassesOwn.never rfl (ji_seq (je_var 0)) (jg_name (i := 2) sc_check_wires.nd rfl (by first | exact Or.inl rfl | exact Or.inr rfl)) (jb_cons (js_set (i := 3) sc_check_wires.nd rfl (by first | exact Or.inl rfl | exact Or.inr rfl) (je_ifExp (jt_eq (je_ix (je_var 2) je_int) je_str) (je_slT (je_var 2) (jo_some je_int) (jo_some je_int)) (je_slT (je_var 2) (jo_some je_int) jo_none)))
    (jb_cons (js_for PassesOwn.never rfl (ji_seq (je_var 3)) (jg_name (i := 4) sc_check_wires.nd rfl (by first | exact Or.inl rfl | exact Or.inr rfl)) (jb_one (js_if (jt_not (jt_chain op_le op_lt s2_B s2_B je_int (je_var 4) (je_len (by rfl) T.len (ja_cons (je_var 0) ja_nil)))) jb_never jb_nil)))
    (jb_one (js_if (JW.jt (jw_and (jt_eq (je_ix (je_var 2) je_int) je_str) (jw_and1 (jt_notIn (je_ix (je_var 2) je_int) (je_tup (ja_cons je_int (ja_cons je_int ja_nil))))))) jb_never jb_nil)))))
    (jb_one (js_for PassesOwn.never rfl (ji_seq (je_var 1)) (jg_name (i := 5) sc_check_wires.nd rfl (by first | exact Or.inl rfl | exact Or.inr rfl)) (jb_one (js_if (jt_not (jt_chain op_le op_lt s2_B s2_B je_int (je_var 5) (je_len (by rfl) T.len (ja_cons (je_var 0) ja_nil)))) jb_never jb_nil))))) : JB K (cxOf CX0 P w K mg base ["wires", "outs", "wire", "sources", "source", "out"] "check_wires" (defScope s_check_wires) f cdv A outer s H E).nox (defBody s_check_wires) _ (b_check_wires))⟩
end
end BB
end
section
/-! the walks (printed by gen.py) -/
namespace BB
open PySem PySem.Spec PyProof.Rows L2 DL
section
variable {P : Program} {w : World} {K : PySem.W.Frag} {mg : Str → Option Value} {base : Heap}
theorem sc_equation_of : FnScope ["at", "wire", "found", "source"] ["at", "wire"] (defScope s_equation_of) := ⟨rfl, rfl, rfl, by decide +kernel, rfl, by decide +kernel, by decide +kernel⟩
theorem w_equation_of {c_equation_of : CT} {dvs : List V} {kws : List (Str × V)} {f : Addr} {fd : FuncData} (T : TX K mg) (F : FunD K "equation_of" "equation_of" (defArgs s_equation_of) (defBody s_equation_of) (defScope s_equation_of) dvs kws f fd) (len : ∀ ds M Q, c_equation_of ds M Q → ds.length = 2) (keeps : Keeps 4 (b_equation_of) c_equation_of) : FnOk P w K mg base CX0 1 f fd ["at", "wire"] (spD K c_equation_of) :=
  fn_ok F sc_equation_of len keeps fun cdv A outer s H E hr => ⟨_, ((jb_cons (js_set (i := 2) sc_equation_of.nd rfl (by first | exact Or.inl rfl | exact Or.inr rfl) (je_shl je_int (je_var 0)))
    (jb_cons (js_for PassesOwn.never rfl (ji_seq (je_slT (je_var 1) (jo_some je_int) jo_none)) (jg_name (i := 3) sc_equation_of.nd rfl (by first | exact Or.inl rfl | exact Or.inr rfl)) (jb_one (js_aug (i := 2) sc_equation_of.nd rfl (by first | exact Or.inl rfl | exact Or.inr rfl) (je_shl je_int (je_var 3)) iop_xor s2_I0)))
    (jb_one (js_ret (je_var 2))))) : JB K (cxOf CX0 P w K mg base ["at", "wire", "found", "source"] "equation_of" (defScope s_equation_of) f cdv A outer s H E).nox (defBody s_equation_of) _ (b_equation_of))⟩
end
end BB
end
section
/-! the walks (printed by gen.py) -/
namespace BB
open PySem PySem.Spec PyProof.Rows L2 DL
section
variable {P : Program} {w : World} {K : PySem.W.Frag} {mg : Str → Option Value} {base : Heap}
theorem sc_check_settled : FnScope ["sums", "equations", "span", "at", "here", "made", "equation", "place"] ["sums", "equations"] (defScope s_check_settled) := ⟨rfl, rfl, rfl, by decide +kernel, rfl, by decide +kernel, by decide +kernel⟩
theorem w_check_settled {c_Span_put c_number_of c_Span___init__ c_check_settled : CT} {dvs : List V} {kws : List (Str × V)} {f : Addr} {fd : FuncData} (T : TX K mg) (M_Span_put : MtK P w K mg base 2 99 "put" ["self", "row"] c_Span_put) (G_number_of : FnK P w K mg base 1 "number_of" ["bits"] c_number_of) (F_Span0 : MkK P w K mg base 3 99 "Span" ["self", "rows"] c_Span___init__ [V.ref 67] [D.tup []]) (F : FunD K "check_settled" "check_settled" (defArgs s_check_settled) (defBody s_check_settled) (defScope s_check_settled) dvs kws f fd) (len : ∀ ds M Q, c_check_settled ds M Q → ds.length = 2) (keeps : Keeps 8 (b_check_settled c_Span_put c_number_of c_Span___init__) c_check_settled) : FnOk P w K mg base CX0 5 f fd ["sums", "equations"] (spD K c_check_settled) :=
  fn_ok F sc_check_settled len keeps fun cdv A outer s H E hr => ⟨_, ((jb_cons (js_set (i := 2) sc_check_settled.nd rfl (by first | exact Or.inl rfl | exact Or.inr rfl) (jk_makeM0 F_Span0 (hr.mono (by decide)) (by rfl)))
    (jb_one (js_for PassesOwn.never rfl (ji_enum (by rfl) T.enumerate (je_var 0)) (jg_tup rfl (nms_cons (pg_name (i := 3) sc_check_settled.nd rfl (by first | exact Or.inl rfl | exact Or.inr rfl)) (nms_cons (pg_name (i := 4) sc_check_settled.nd rfl (by first | exact Or.inl rfl | exact Or.inr rfl)) .nil))) (jb_cons (js_set (i := 5) sc_check_settled.nd rfl (by first | exact Or.inl rfl | exact Or.inr rfl) (jk_meth M_Span_put (hr.mono (by decide)) (je_var 2) (ja_cons (jk_call G_number_of (hr.mono (by decide)) (by rfl) (ja_cons (je_lc (own := [("equation", 6)]) rfl sc_check_settled.nd (ji_seq (je_var 1)) (blkOk_by (by kernel_rfl)) (fun _ _ _ _ _ => (jc_name (i := 6) sc_check_settled.nd rfl (by first | exact Or.inl rfl | exact Or.inr rfl))) (fun _ _ _ _ _ => jts_nil) (fun _ _ _ _ _ => (je_and (je_shr (je_var 6) (je_var 4)) je_int))) ja_nil)) ja_nil)))
    (jb_one (js_if (jt_notN (je_var 5)) jb_never jb_nil)))))) : JB K (cxOf CX0 P w K mg base ["sums", "equations", "span", "at", "here", "made", "equation", "place"] "check_settled" (defScope s_check_settled) f cdv A outer s H E).nox (defBody s_check_settled) _ (b_check_settled c_Span_put c_number_of c_Span___init__))⟩
end
end BB
end
section
/-! the walks (printed by gen.py) -/
namespace BB
open PySem PySem.Spec PyProof.Rows L2 DL
section
variable {P : Program} {w : World} {K : PySem.W.Frag} {mg : Str → Option Value} {base : Heap}
theorem sc_settled : FnScope ["wires", "sums", "at", "wire", "equations", "inner", "span", "equation", "found", "here", "known", "place"] ["wires"] (defScope s_settled) := ⟨rfl, rfl, rfl, by decide +kernel, rfl, by decide +kernel, by decide +kernel⟩
theorem w_settled {c_places_of c_Span_made_of c_Span___init__ c_check_settled c_equation_of c_settled : CT} {dvs : List V} {kws : List (Str × V)} {f : Addr} {fd : FuncData} (T : TX K mg) (G_places_of : FnK P w K mg base 1 "places_of" ["number"] c_places_of) (M_Span_made_of : MtK P w K mg base 2 99 "made_of" ["self", "row"] c_Span_made_of) (F_Span1 : MkK P w K mg base 3 99 "Span" ["self", "rows"] c_Span___init__ [] []) (G_check_settled : FnK P w K mg base 5 "check_settled" ["sums", "equations"] c_check_settled) (G_equation_of : FnK P w K mg base 1 "equation_of" ["at", "wire"] c_equation_of) (F : FunD K "settled" "settled" (defArgs s_settled) (defBody s_settled) (defScope s_settled) dvs kws f fd) (len : ∀ ds M Q, c_settled ds M Q → ds.length = 1) (keeps : Keeps 12 (b_settled c_places_of c_Span_made_of c_Span___init__ c_check_settled c_equation_of) c_settled) : FnOk P w K mg base CX0 6 f fd ["wires"] (spD K c_settled) :=
  fn_ok F sc_settled len keeps fun cdv A outer s H E hr => ⟨_, ((jb_cons (js_setLc (i := 1) (own := [("at", 2), ("wire", 3)]) rfl sc_settled.nd rfl rfl (sw_true rfl rfl rfl (by kernel_rfl)) (ji_enum (by rfl) T.enumerate (je_var 0)) (blkOk_by (by kernel_rfl)) (fun _ _ _ _ _ => (jc_tup rfl (nms_cons (pg_name (i := 2) sc_settled.nd rfl (by first | exact Or.inl rfl | exact Or.inr rfl)) (nms_cons (pg_name (i := 3) sc_settled.nd rfl (by first | exact Or.inl rfl | exact Or.inr rfl)) .nil)))) (fun _ _ _ _ _ => (jts_one (jt_eq (je_ix (je_var 3) je_int) je_str))) (fun _ _ _ _ _ => (je_var 2)))
    (jb_cons (js_setLc (i := 4) (own := [("at", 2)]) rfl sc_settled.nd rfl rfl (sw_true rfl rfl rfl (by kernel_rfl)) (ji_seq (je_var 1)) (blkOk_by (by kernel_rfl)) (fun _ _ _ _ _ => (jc_name (i := 2) sc_settled.nd rfl (by first | exact Or.inl rfl | exact Or.inr rfl))) (fun _ _ _ _ _ => jts_nil) (fun _ _ _ _ _ => (jk_call G_equation_of (hr.mono (by decide)) (by rfl) (ja_cons (je_var 2) (ja_cons (je_ix (je_var 0) (je_var 2)) ja_nil)))))
    (jb_cons (js_expr (jk_call G_check_settled (hr.mono (by decide)) (by rfl) (ja_cons (je_var 1) (ja_cons (je_var 4) ja_nil))))
    (jb_cons (js_set (i := 5) sc_settled.nd rfl (by first | exact Or.inl rfl | exact Or.inr rfl) (je_sum rfl (by rfl) T.sum (ja_cons (je_lc (own := [("at", 2)]) rfl sc_settled.nd (ji_seq (je_var 1)) (blkOk_by (by kernel_rfl)) (fun _ _ _ _ _ => (jc_name (i := 2) sc_settled.nd rfl (by first | exact Or.inl rfl | exact Or.inr rfl))) (fun _ _ _ _ _ => jts_nil) (fun _ _ _ _ _ => (je_shl je_int (je_var 2)))) ja_nil)))
    (jb_cons (js_set (i := 6) sc_settled.nd rfl (by first | exact Or.inl rfl | exact Or.inr rfl) (jk_makeM F_Span1 (hr.mono (by decide)) (by rfl) (ja_cons (je_lc (own := [("equation", 7)]) rfl sc_settled.nd (ji_seq (je_var 4)) (blkOk_by (by kernel_rfl)) (fun _ _ _ _ _ => (jc_name (i := 7) sc_settled.nd rfl (by first | exact Or.inl rfl | exact Or.inr rfl))) (fun _ _ _ _ _ => jts_nil) (fun _ _ _ _ _ => (je_and (je_var 7) (je_var 5)))) ja_nil)))
    (jb_cons (js_setLcM (i := 8) (own := [("at", 2)]) rfl sc_settled.nd rfl rfl (sw_true rfl rfl rfl (by kernel_rfl)) (ji_range (by rfl) T.range (je_len (by rfl) T.len (ja_cons (je_var 0) ja_nil))) (blkOk_by (by kernel_rfl)) (fun _ _ _ _ _ => (jc_name (i := 2) sc_settled.nd rfl (by first | exact Or.inl rfl | exact Or.inr rfl))) (fun _ _ _ _ _ => jts_nil) (fun _ _ _ _ _ => (je_shl je_int (je_var 2))))
    (jb_cons (js_for PassesOwn.never rfl (ji_seq (je_var 1)) (jg_name (i := 9) sc_settled.nd rfl (by first | exact Or.inl rfl | exact Or.inr rfl)) (jb_cons (js_set (i := 10) sc_settled.nd rfl (by first | exact Or.inl rfl | exact Or.inr rfl) je_int)
    (jb_cons (js_for PassesOwn.never rfl (ji_seq (jk_call G_places_of (hr.mono (by decide)) (by rfl) (ja_cons (jk_meth M_Span_made_of (hr.mono (by decide)) (je_var 6) (ja_cons (je_shl je_int (je_var 9)) ja_nil)) ja_nil))) (jg_name (i := 11) sc_settled.nd rfl (by first | exact Or.inl rfl | exact Or.inr rfl)) (jb_one (js_aug (i := 10) sc_settled.nd rfl (by first | exact Or.inl rfl | exact Or.inr rfl) (je_and (je_ix (je_var 4) (je_var 11)) (je_inv (je_var 5))) iop_xor s2_I0)))
    (jb_one (js_asg (je_var 10) (jg_sub (je_var 8) (je_var 9)))))))
    (jb_one (js_ret (je_frz (je_var 8))))))))))) : JB K (cxOf CX0 P w K mg base ["wires", "sums", "at", "wire", "equations", "inner", "span", "equation", "found", "here", "known", "place"] "settled" (defScope s_settled) f cdv A outer s H E).nox (defBody s_settled) _ (b_settled c_places_of c_Span_made_of c_Span___init__ c_check_settled c_equation_of))⟩
end
end BB
end
section
/-! the walks (printed by gen.py) -/
namespace BB
open PySem PySem.Spec PyProof.Rows L2 DL
section
variable {P : Program} {w : World} {K : PySem.W.Frag} {mg : Str → Option Value} {base : Heap}
theorem sc_Table___init__ : FnScope ["self", "a", "b", "c", "d", "width", "row"] ["self", "a", "b", "c", "d", "width"] (defScope s_Table___init__) := ⟨rfl, rfl, rfl, by decide +kernel, rfl, by decide +kernel, by decide +kernel⟩
theorem w_Table___init__ {c_Table___init__ : CT} {dvs : List V} {kws : List (Str × V)} {f : Addr} {fd : FuncData} (T : TX K mg) (F : FunD K "__init__" "Table.__init__" (defArgs s_Table___init__) (defBody s_Table___init__) (defScope s_Table___init__) dvs kws f fd) (len : ∀ ds M Q, c_Table___init__ ds M Q → ds.length = 6) (keeps : Keeps 7 (b_Table___init__) c_Table___init__) : FnOk P w K mg base CX0 1 f fd ["self", "a", "b", "c", "d", "width"] (spD K c_Table___init__) :=
  fn_ok F sc_Table___init__ len keeps fun cdv A outer s H E hr => ⟨_, ((jb_cons (js_fld T.cTable (T.na (800, "a") (by decide)) (je_var 0) (je_tupOf (by rfl) T.tuple (ja_cons (je_lc (own := [("row", 6)]) rfl sc_Table___init__.nd (ji_seq (je_var 1)) (blkOk_by (by kernel_rfl)) (fun _ _ _ _ _ => (jc_name (i := 6) sc_Table___init__.nd rfl (by first | exact Or.inl rfl | exact Or.inr rfl))) (fun _ _ _ _ _ => jts_nil) (fun _ _ _ _ _ => (je_tupOf (by rfl) T.tuple (ja_cons (je_var 6) ja_nil)))) ja_nil)))
    (jb_cons (js_fld T.cTable (T.na (800, "b") (by decide)) (je_var 0) (je_tupOf (by rfl) T.tuple (ja_cons (je_lc (own := [("row", 6)]) rfl sc_Table___init__.nd (ji_seq (je_var 2)) (blkOk_by (by kernel_rfl)) (fun _ _ _ _ _ => (jc_name (i := 6) sc_Table___init__.nd rfl (by first | exact Or.inl rfl | exact Or.inr rfl))) (fun _ _ _ _ _ => jts_nil) (fun _ _ _ _ _ => (je_tupOf (by rfl) T.tuple (ja_cons (je_var 6) ja_nil)))) ja_nil)))
    (jb_cons (js_fld T.cTable (T.na (800, "c") (by decide)) (je_var 0) (je_tupOf (by rfl) T.tuple (ja_cons (je_lc (own := [("row", 6)]) rfl sc_Table___init__.nd (ji_seq (je_var 3)) (blkOk_by (by kernel_rfl)) (fun _ _ _ _ _ => (jc_name (i := 6) sc_Table___init__.nd rfl (by first | exact Or.inl rfl | exact Or.inr rfl))) (fun _ _ _ _ _ => jts_nil) (fun _ _ _ _ _ => (je_tupOf (by rfl) T.tuple (ja_cons (je_var 6) ja_nil)))) ja_nil)))
    (jb_cons (js_fld T.cTable (T.na (800, "d") (by decide)) (je_var 0) (je_tupOf (by rfl) T.tuple (ja_cons (je_lc (own := [("row", 6)]) rfl sc_Table___init__.nd (ji_seq (je_var 4)) (blkOk_by (by kernel_rfl)) (fun _ _ _ _ _ => (jc_name (i := 6) sc_Table___init__.nd rfl (by first | exact Or.inl rfl | exact Or.inr rfl))) (fun _ _ _ _ _ => jts_nil) (fun _ _ _ _ _ => (je_tupOf (by rfl) T.tuple (ja_cons (je_var 6) ja_nil)))) ja_nil)))
    (jb_one (js_fld T.cTable (T.na (800, "width") (by decide)) (je_var 0) (je_var 5))))))) : JB K (cxOf CX0 P w K mg base ["self", "a", "b", "c", "d", "width", "row"] "Table.__init__" (defScope s_Table___init__) f cdv A outer s H E).nox (defBody s_Table___init__) _ (b_Table___init__))⟩
end
end BB
end
section
/-! the walks (printed by gen.py) -/
namespace BB
open PySem PySem.Spec PyProof.Rows L2 DL
section
variable {P : Program} {w : World} {K : PySem.W.Frag} {mg : Str → Option Value} {base : Heap}
theorem sc_Motion___init__ : FnScope ["self", "moves", "drives", "shows", "direct"] ["self", "moves", "drives", "shows", "direct"] (defScope s_Motion___init__) := ⟨rfl, rfl, rfl, by decide +kernel, rfl, by decide +kernel, by decide +kernel⟩
theorem w_Motion___init__ {c_Motion___init__ : CT} {dvs : List V} {kws : List (Str × V)} {f : Addr} {fd : FuncData} (T : TX K mg) (F : FunD K "__init__" "Motion.__init__" (defArgs s_Motion___init__) (defBody s_Motion___init__) (defScope s_Motion___init__) dvs kws f fd) (len : ∀ ds M Q, c_Motion___init__ ds M Q → ds.length = 5) (keeps : Keeps 5 (b_Motion___init__) c_Motion___init__) : FnOk P w K mg base CX0 1 f fd ["self", "moves", "drives", "shows", "direct"] (spD K c_Motion___init__) :=
  fn_ok F sc_Motion___init__ len keeps fun cdv A outer s H E hr => ⟨_, ((jb_cons (js_fld T.cMotion (T.na (840, "moves") (by decide)) (je_var 0) (je_var 1))
    (jb_cons (js_fld T.cMotion (T.na (840, "drives") (by decide)) (je_var 0) (je_var 2))
    (jb_cons (js_fld T.cMotion (T.na (840, "shows") (by decide)) (je_var 0) (je_var 3))
    (jb_one (js_fld T.cMotion (T.na (840, "direct") (by decide)) (je_var 0) (je_var 4)))))) : JB K (cxOf CX0 P w K mg base ["self", "moves", "drives", "shows", "direct"] "Motion.__init__" (defScope s_Motion___init__) f cdv A outer s H E).nox (defBody s_Motion___init__) _ (b_Motion___init__))⟩
end
end BB
end
section
/-! the walks (printed by gen.py) -/
namespace BB
open PySem PySem.Spec PyProof.Rows L2 DL
section
variable {P : Program} {w : World} {K : PySem.W.Frag} {mg : Str → Option Value} {base : Heap}
theorem sc_Motion_looks_until : FnScope ["self", "beats", "found", "here", "beat", "column"] ["self", "beats"] (defScope s_Motion_looks_until) := ⟨rfl, rfl, rfl, by decide +kernel, rfl, by decide +kernel, by decide +kernel⟩
theorem w_Motion_looks_until {c_behind c_Motion_looks_until : CT} {dvs : List V} {kws : List (Str × V)} {f : Addr} {fd : FuncData} (T : TX K mg) (G_behind : FnK P w K mg base 2 "behind" ["column", "rows"] c_behind) (F : FunD K "looks_until" "Motion.looks_until" (defArgs s_Motion_looks_until) (defBody s_Motion_looks_until) (defScope s_Motion_looks_until) dvs kws f fd) (len : ∀ ds M Q, c_Motion_looks_until ds M Q → ds.length = 2) (keeps : Keeps 6 (b_Motion_looks_until c_behind) c_Motion_looks_until) : FnOk P w K mg base CX0 3 f fd ["self", "beats"] (spD K c_Motion_looks_until) :=
  fn_ok F sc_Motion_looks_until len keeps fun cdv A outer s H E hr => ⟨_, ((jb_cons (js_set (i := 2) sc_Motion_looks_until.nd rfl (by first | exact Or.inl rfl | exact Or.inr rfl) (je_lstM ja_nil))
    (jb_cons (js_set (i := 3) sc_Motion_looks_until.nd rfl (by first | exact Or.inl rfl | exact Or.inr rfl) (je_listOf (by rfl) T.list (ja_cons (je_fld T.cMotion (T.na (840, "shows") (by decide)) (je_var 0)) ja_nil)))
    (jb_cons (js_for PassesOwn.never rfl (ji_range (by rfl) T.range (je_var 1)) (jg_name (i := 4) sc_Motion_looks_until.nd rfl (by first | exact Or.inl rfl | exact Or.inr rfl)) (jb_cons (js_expr (jk_app (je_var 2) (ja_cons (je_var 3) ja_nil)))
    (jb_one (js_setLc (i := 3) (own := [("column", 5)]) rfl sc_Motion_looks_until.nd rfl rfl (sw_true rfl rfl rfl (by kernel_rfl)) (ji_seq (je_var 3)) (blkOk_by (by kernel_rfl)) (fun _ _ _ _ _ => (jc_name (i := 5) sc_Motion_looks_until.nd rfl (by first | exact Or.inl rfl | exact Or.inr rfl))) (fun _ _ _ _ _ => jts_nil) (fun _ _ _ _ _ => (jk_call G_behind (hr.mono (by decide)) (by rfl) (ja_cons (je_var 5) (ja_cons (je_fld T.cMotion (T.na (840, "moves") (by decide)) (je_var 0)) ja_nil))))))))
    (jb_one (js_ret (je_frz (je_var 2))))))) : JB K (cxOf CX0 P w K mg base ["self", "beats", "found", "here", "beat", "column"] "Motion.looks_until" (defScope s_Motion_looks_until) f cdv A outer s H E).nox (defBody s_Motion_looks_until) _ (b_Motion_looks_until c_behind))⟩
end
end BB
end
section
/-! the walks (printed by gen.py) -/
namespace BB
open PySem PySem.Spec PyProof.Rows L2 DL
section
variable {P : Program} {w : World} {K : PySem.W.Frag} {mg : Str → Option Value} {base : Heap}
theorem sc_motion_of : FnScope ["table", "shows", "row", "output", "moves"] ["table"] (defScope s_motion_of) := ⟨rfl, rfl, rfl, by decide +kernel, rfl, by decide +kernel, by decide +kernel⟩
theorem w_motion_of {c_Motion___init__ c_number_of c_motion_of : CT} {dvs : List V} {kws : List (Str × V)} {f : Addr} {fd : FuncData} (T : TX K mg) (F_Motion4 : MkK P w K mg base 1 840 "Motion" ["self", "moves", "drives", "shows", "direct"] c_Motion___init__ [] []) (G_number_of : FnK P w K mg base 1 "number_of" ["bits"] c_number_of) (F : FunD K "motion_of" "motion_of" (defArgs s_motion_of) (defBody s_motion_of) (defScope s_motion_of) dvs kws f fd) (len : ∀ ds M Q, c_motion_of ds M Q → ds.length = 1) (keeps : Keeps 5 (b_motion_of c_Motion___init__ c_number_of) c_motion_of) : FnOk P w K mg base CX0 3 f fd ["table"] (spD K c_motion_of) :=
  fn_ok F sc_motion_of len keeps fun cdv A outer s H E hr => ⟨_, ((jb_cons (js_setLc (i := 1) (own := [("output", 3)]) rfl sc_motion_of.nd rfl rfl (sw_true rfl rfl rfl (by kernel_rfl)) (ji_range (by rfl) T.range (je_fld T.cTable (T.na (800, "width") (by decide)) (je_var 0))) (blkOk_by (by kernel_rfl)) (fun _ _ _ _ _ => (jc_name (i := 3) sc_motion_of.nd rfl (by first | exact Or.inl rfl | exact Or.inr rfl))) (fun _ _ _ _ _ => jts_nil) (fun _ _ _ _ _ => (jk_call G_number_of (hr.mono (by decide)) (by rfl) (ja_cons (je_lc (own := [("row", 2)]) rfl sc_motion_of.nd (ji_seq (je_fld T.cTable (T.na (800, "c") (by decide)) (je_var 0))) (blkOk_by (by kernel_rfl)) (fun _ _ _ _ _ => (jc_name (i := 2) sc_motion_of.nd rfl (by first | exact Or.inl rfl | exact Or.inr rfl))) (fun _ _ _ _ _ => jts_nil) (fun _ _ _ _ _ => (je_ix (je_var 2) (je_var 3)))) ja_nil))))
    (jb_cons (js_setLc (i := 4) (own := [("row", 2)]) rfl sc_motion_of.nd rfl rfl (sw_true rfl rfl rfl (by kernel_rfl)) (ji_seq (je_fld T.cTable (T.na (800, "a") (by decide)) (je_var 0))) (blkOk_by (by kernel_rfl)) (fun _ _ _ _ _ => (jc_name (i := 2) sc_motion_of.nd rfl (by first | exact Or.inl rfl | exact Or.inr rfl))) (fun _ _ _ _ _ => jts_nil) (fun _ _ _ _ _ => (jk_call G_number_of (hr.mono (by decide)) (by rfl) (ja_cons (je_var 2) ja_nil))))
    (jb_one (js_ret (jk_make F_Motion4 (hr.mono (by decide)) (by rfl) (ja_cons (je_var 4) (ja_cons (je_lc (own := [("row", 2)]) rfl sc_motion_of.nd (ji_seq (je_fld T.cTable (T.na (800, "b") (by decide)) (je_var 0))) (blkOk_by (by kernel_rfl)) (fun _ _ _ _ _ => (jc_name (i := 2) sc_motion_of.nd rfl (by first | exact Or.inl rfl | exact Or.inr rfl))) (fun _ _ _ _ _ => jts_nil) (fun _ _ _ _ _ => (jk_call G_number_of (hr.mono (by decide)) (by rfl) (ja_cons (je_var 2) ja_nil)))) (ja_cons (je_var 1) (ja_cons (je_lc (own := [("row", 2)]) rfl sc_motion_of.nd (ji_seq (je_fld T.cTable (T.na (800, "d") (by decide)) (je_var 0))) (blkOk_by (by kernel_rfl)) (fun _ _ _ _ _ => (jc_name (i := 2) sc_motion_of.nd rfl (by first | exact Or.inl rfl | exact Or.inr rfl))) (fun _ _ _ _ _ => jts_nil) (fun _ _ _ _ _ => (jk_call G_number_of (hr.mono (by decide)) (by rfl) (ja_cons (je_var 2) ja_nil)))) ja_nil))))))))) : JB K (cxOf CX0 P w K mg base ["table", "shows", "row", "output", "moves"] "motion_of" (defScope s_motion_of) f cdv A outer s H E).nox (defBody s_motion_of) _ (b_motion_of c_Motion___init__ c_number_of))⟩
end
end BB
end
section
/-! the walks (printed by gen.py) -/
namespace BB
open PySem PySem.Spec PyProof.Rows L2 DL
section
variable {P : Program} {w : World} {K : PySem.W.Frag} {mg : Str → Option Value} {base : Heap}
theorem sc_paired : FnScope ["one", "other", "size", "moves", "row", "drives", "first", "second", "shows"] ["one", "other"] (defScope s_paired) := ⟨rfl, rfl, rfl, by decide +kernel, rfl, by decide +kernel, by decide +kernel⟩
theorem w_paired {c_Motion___init__ c_paired : CT} {dvs : List V} {kws : List (Str × V)} {f : Addr} {fd : FuncData} (T : TX K mg) (F_Motion4 : MkK P w K mg base 1 840 "Motion" ["self", "moves", "drives", "shows", "direct"] c_Motion___init__ [] []) (F : FunD K "paired" "paired" (defArgs s_paired) (defBody s_paired) (defScope s_paired) dvs kws f fd) (len : ∀ ds M Q, c_paired ds M Q → ds.length = 2) (keeps : Keeps 9 (b_paired c_Motion___init__) c_paired) : FnOk P w K mg base CX0 3 f fd ["one", "other"] (spD K c_paired) :=
  fn_ok F sc_paired len keeps fun cdv A outer s H E hr => ⟨_, ((jb_cons (js_set (i := 2) sc_paired.nd rfl (by first | exact Or.inl rfl | exact Or.inr rfl) (je_len (by rfl) T.len (ja_cons (je_fld T.cMotion (T.na (840, "moves") (by decide)) (je_var 0)) ja_nil)))
    (jb_cons (js_set (i := 3) sc_paired.nd rfl (by first | exact Or.inl rfl | exact Or.inr rfl) (je_cat (je_listOf (by rfl) T.list (ja_cons (je_fld T.cMotion (T.na (840, "moves") (by decide)) (je_var 0)) ja_nil)) (je_lc (own := [("row", 4)]) rfl sc_paired.nd (ji_seq (je_fld T.cMotion (T.na (840, "moves") (by decide)) (je_var 1))) (blkOk_by (by kernel_rfl)) (fun _ _ _ _ _ => (jc_name (i := 4) sc_paired.nd rfl (by first | exact Or.inl rfl | exact Or.inr rfl))) (fun _ _ _ _ _ => jts_nil) (fun _ _ _ _ _ => (je_shl (je_var 4) (je_var 2))))))
    (jb_cons (js_setLc (i := 5) (own := [("first", 6), ("second", 7)]) rfl sc_paired.nd rfl rfl (sw_true rfl rfl rfl (by kernel_rfl)) (jk_zip (by rfl) T.zip (je_fld T.cMotion (T.na (840, "drives") (by decide)) (je_var 0)) (je_fld T.cMotion (T.na (840, "drives") (by decide)) (je_var 1))) (blkOk_by (by kernel_rfl)) (fun _ _ _ _ _ => (jc_tup rfl (nms_cons (pg_name (i := 6) sc_paired.nd rfl (by first | exact Or.inl rfl | exact Or.inr rfl)) (nms_cons (pg_name (i := 7) sc_paired.nd rfl (by first | exact Or.inl rfl | exact Or.inr rfl)) .nil)))) (fun _ _ _ _ _ => jts_nil) (fun _ _ _ _ _ => (je_or (je_var 6) (je_shl (je_var 7) (je_var 2)))))
    (jb_cons (js_setLc (i := 8) (own := [("first", 6), ("second", 7)]) rfl sc_paired.nd rfl rfl (sw_true rfl rfl rfl (by kernel_rfl)) (jk_zip (by rfl) T.zip (je_fld T.cMotion (T.na (840, "shows") (by decide)) (je_var 0)) (je_fld T.cMotion (T.na (840, "shows") (by decide)) (je_var 1))) (blkOk_by (by kernel_rfl)) (fun _ _ _ _ _ => (jc_tup rfl (nms_cons (pg_name (i := 6) sc_paired.nd rfl (by first | exact Or.inl rfl | exact Or.inr rfl)) (nms_cons (pg_name (i := 7) sc_paired.nd rfl (by first | exact Or.inl rfl | exact Or.inr rfl)) .nil)))) (fun _ _ _ _ _ => jts_nil) (fun _ _ _ _ _ => (je_or (je_var 6) (je_shl (je_var 7) (je_var 2)))))
    (jb_one (js_ret (jk_make F_Motion4 (hr.mono (by decide)) (by rfl) (ja_cons (je_var 3) (ja_cons (je_var 5) (ja_cons (je_var 8) (ja_cons (je_lc (own := [("first", 6), ("second", 7)]) rfl sc_paired.nd (jk_zip (by rfl) T.zip (je_fld T.cMotion (T.na (840, "direct") (by decide)) (je_var 0)) (je_fld T.cMotion (T.na (840, "direct") (by decide)) (je_var 1))) (blkOk_by (by kernel_rfl)) (fun _ _ _ _ _ => (jc_tup rfl (nms_cons (pg_name (i := 6) sc_paired.nd rfl (by first | exact Or.inl rfl | exact Or.inr rfl)) (nms_cons (pg_name (i := 7) sc_paired.nd rfl (by first | exact Or.inl rfl | exact Or.inr rfl)) .nil)))) (fun _ _ _ _ _ => jts_nil) (fun _ _ _ _ _ => (je_xor (je_var 6) (je_var 7)))) ja_nil))))))))))) : JB K (cxOf CX0 P w K mg base ["one", "other", "size", "moves", "row", "drives", "first", "second", "shows"] "paired" (defScope s_paired) f cdv A outer s H E).nox (defBody s_paired) _ (b_paired c_Motion___init__))⟩
end
end BB
end
section
/-! the walks (printed by gen.py) -/
namespace BB
open PySem PySem.Spec PyProof.Rows L2 DL
section
variable {P : Program} {w : World} {K : PySem.W.Frag} {mg : Str → Option Value} {base : Heap}
theorem sc_shown : FnScope ["motion", "state", "column"] ["motion", "state"] (defScope s_shown) := ⟨rfl, rfl, rfl, by decide +kernel, rfl, by decide +kernel, by decide +kernel⟩
theorem w_shown {c_number_of c_parity c_shown : CT} {dvs : List V} {kws : List (Str × V)} {f : Addr} {fd : FuncData} (T : TX K mg) (G_number_of : FnK P w K mg base 1 "number_of" ["bits"] c_number_of) (G_parity : FnK P w K mg base 1 "parity" ["number"] c_parity) (F : FunD K "shown" "shown" (defArgs s_shown) (defBody s_shown) (defScope s_shown) dvs kws f fd) (len : ∀ ds M Q, c_shown ds M Q → ds.length = 2) (keeps : Keeps 3 (b_shown c_number_of c_parity) c_shown) : FnOk P w K mg base CX0 2 f fd ["motion", "state"] (spD K c_shown) :=
  fn_ok F sc_shown len keeps fun cdv A outer s H E hr => ⟨_, ((jb_one (js_ret (jk_call G_number_of (hr.mono (by decide)) (by rfl) (ja_cons (je_lc (own := [("column", 2)]) rfl sc_shown.nd (ji_seq (je_fld T.cMotion (T.na (840, "shows") (by decide)) (je_var 0))) (blkOk_by (by kernel_rfl)) (fun _ _ _ _ _ => (jc_name (i := 2) sc_shown.nd rfl (by first | exact Or.inl rfl | exact Or.inr rfl))) (fun _ _ _ _ _ => jts_nil) (fun _ _ _ _ _ => (jk_call G_parity (hr.mono (by decide)) (by rfl) (ja_cons (je_and (je_var 1) (je_var 2)) ja_nil)))) ja_nil)))) : JB K (cxOf CX0 P w K mg base ["motion", "state", "column"] "shown" (defScope s_shown) f cdv A outer s H E).nox (defBody s_shown) _ (b_shown c_number_of c_parity))⟩
end
end BB
end
section
/-! the walks (printed by gen.py) -/
namespace BB
open PySem PySem.Spec PyProof.Rows L2 DL
section
variable {P : Program} {w : World} {K : PySem.W.Frag} {mg : Str → Option Value} {base : Heap}
theorem sc_Net___init__ : FnScope ["self", "wires", "outs", "wire", "at"] ["self", "wires", "outs"] (defScope s_Net___init__) := ⟨rfl, rfl, rfl, by decide +kernel, rfl, by decide +kernel, by decide +kernel⟩
theorem w_Net___init__ {c_settled c_check_wires c_Net___init__ : CT} {dvs : List V} {kws : List (Str × V)} {f : Addr} {fd : FuncData} (T : TX K mg) (G_settled : FnK P w K mg base 6 "settled" ["wires"] c_settled) (G_check_wires : FnK P w K mg base 1 "check_wires" ["wires", "outs"] c_check_wires) (F : FunD K "__init__" "Net.__init__" (defArgs s_Net___init__) (defBody s_Net___init__) (defScope s_Net___init__) dvs kws f fd) (len : ∀ ds M Q, c_Net___init__ ds M Q → ds.length = 3) (keeps : Keeps 5 (b_Net___init__ c_settled c_check_wires) c_Net___init__) : FnOk P w K mg base CX0 7 f fd ["self", "wires", "outs"] (spD K c_Net___init__) :=
  fn_ok F sc_Net___init__ len keeps fun cdv A outer s H E hr => ⟨_, ((jb_cons (js_fld T.cNet (T.na (952, "wires") (by decide)) (je_var 0) (je_tupOf (by rfl) T.tuple (ja_cons (je_lc (own := [("wire", 3)]) rfl sc_Net___init__.nd (ji_seq (je_var 1)) (blkOk_by (by kernel_rfl)) (fun _ _ _ _ _ => (jc_name (i := 3) sc_Net___init__.nd rfl (by first | exact Or.inl rfl | exact Or.inr rfl))) (fun _ _ _ _ _ => jts_nil) (fun _ _ _ _ _ => (je_tupOf (by rfl) T.tuple (ja_cons (je_var 3) ja_nil)))) ja_nil)))
    (jb_cons (js_fld T.cNet (T.na (952, "outs") (by decide)) (je_var 0) (je_tupOf (by rfl) T.tuple (ja_cons (je_var 2) ja_nil)))
    (jb_cons (js_expr (jk_call G_check_wires (hr.mono (by decide)) (by rfl) (ja_cons (je_fld T.cNet (T.na (952, "wires") (by decide)) (je_var 0)) (ja_cons (je_fld T.cNet (T.na (952, "outs") (by decide)) (je_var 0)) ja_nil))))
    (jb_cons (js_fld T.cNet (T.na (952, "solved") (by decide)) (je_var 0) (jk_call G_settled (hr.mono (by decide)) (by rfl) (ja_cons (je_fld T.cNet (T.na (952, "wires") (by decide)) (je_var 0)) ja_nil)))
    (jb_cons (js_fld T.cNet (T.na (952, "ins") (by decide)) (je_var 0) (je_tupOf (by rfl) T.tuple (ja_cons (je_lc (own := [("at", 4), ("wire", 3)]) rfl sc_Net___init__.nd (ji_enum (by rfl) T.enumerate (je_fld T.cNet (T.na (952, "wires") (by decide)) (je_var 0))) (blkOk_by (by kernel_rfl)) (fun _ _ _ _ _ => (jc_tup rfl (nms_cons (pg_name (i := 4) sc_Net___init__.nd rfl (by first | exact Or.inl rfl | exact Or.inr rfl)) (nms_cons (pg_name (i := 3) sc_Net___init__.nd rfl (by first | exact Or.inl rfl | exact Or.inr rfl)) .nil)))) (fun _ _ _ _ _ => (jts_one (jt_eq (je_ix (je_var 3) je_int) je_str))) (fun _ _ _ _ _ => (je_var 4))) ja_nil)))
    (jb_cons (js_fld T.cNet (T.na (952, "cells") (by decide)) (je_var 0) (je_tupOf (by rfl) T.tuple (ja_cons (je_lc (own := [("at", 4), ("wire", 3)]) rfl sc_Net___init__.nd (ji_enum (by rfl) T.enumerate (je_fld T.cNet (T.na (952, "wires") (by decide)) (je_var 0))) (blkOk_by (by kernel_rfl)) (fun _ _ _ _ _ => (jc_tup rfl (nms_cons (pg_name (i := 4) sc_Net___init__.nd rfl (by first | exact Or.inl rfl | exact Or.inr rfl)) (nms_cons (pg_name (i := 3) sc_Net___init__.nd rfl (by first | exact Or.inl rfl | exact Or.inr rfl)) .nil)))) (fun _ _ _ _ _ => (jts_one (jt_eq (je_ix (je_var 3) je_int) je_str))) (fun _ _ _ _ _ => (je_var 4))) ja_nil)))
    (jb_one (js_fld T.cNet (T.na (952, "first") (by decide)) (je_var 0) (je_tupOf (by rfl) T.tuple (ja_cons (je_lc (own := [("at", 4)]) rfl sc_Net___init__.nd (ji_seq (je_fld T.cNet (T.na (952, "cells") (by decide)) (je_var 0))) (blkOk_by (by kernel_rfl)) (fun _ _ _ _ _ => (jc_name (i := 4) sc_Net___init__.nd rfl (by first | exact Or.inl rfl | exact Or.inr rfl))) (fun _ _ _ _ _ => jts_nil) (fun _ _ _ _ _ => (je_ix (je_ix (je_fld T.cNet (T.na (952, "wires") (by decide)) (je_var 0)) (je_var 4)) je_int))) ja_nil)))))))))) : JB K (cxOf CX0 P w K mg base ["self", "wires", "outs", "wire", "at"] "Net.__init__" (defScope s_Net___init__) f cdv A outer s H E).nox (defBody s_Net___init__) _ (b_Net___init__ c_settled c_check_wires))⟩
end
end BB
end
section
/-! the walks (printed by gen.py) -/
namespace BB
open PySem PySem.Spec PyProof.Rows L2 DL
section
variable {P : Program} {w : World} {K : PySem.W.Frag} {mg : Str → Option Value} {base : Heap}
theorem sc_Net_table : FnScope ["self", "sources", "at", "shown", "a", "known", "b", "c", "d"] ["self"] (defScope s_Net_table) := ⟨rfl, rfl, rfl, by decide +kernel, rfl, by decide +kernel, by decide +kernel⟩
theorem w_Net_table {c_Table___init__ c_Net_table : CT} {dvs : List V} {kws : List (Str × V)} {f : Addr} {fd : FuncData} (T : TX K mg) (F_Table5 : MkK P w K mg base 1 800 "Table" ["self", "a", "b", "c", "d", "width"] c_Table___init__ [] []) (F : FunD K "table" "Net.table" (defArgs s_Net_table) (defBody s_Net_table) (defScope s_Net_table) dvs kws f fd) (len : ∀ ds M Q, c_Net_table ds M Q → ds.length = 1) (keeps : Keeps 9 (b_Net_table c_Table___init__) c_Net_table) : FnOk P w K mg base CX0 3 f fd ["self"] (spD K c_Net_table) :=
  fn_ok F sc_Net_table len keeps fun cdv A outer s H E hr => ⟨_, ((jb_cons (js_set (i := 1) sc_Net_table.nd rfl (by first | exact Or.inl rfl | exact Or.inr rfl) (je_lc (own := [("at", 2)]) rfl sc_Net_table.nd (ji_seq (je_fld T.cNet (T.na (952, "cells") (by decide)) (je_var 0))) (blkOk_by (by kernel_rfl)) (fun _ _ _ _ _ => (jc_name (i := 2) sc_Net_table.nd rfl (by first | exact Or.inl rfl | exact Or.inr rfl))) (fun _ _ _ _ _ => jts_nil) (fun _ _ _ _ _ => (je_ix (je_fld T.cNet (T.na (952, "solved") (by decide)) (je_var 0)) (je_ix (je_ix (je_fld T.cNet (T.na (952, "wires") (by decide)) (je_var 0)) (je_var 2)) je_int)))))
    (jb_cons (js_set (i := 3) sc_Net_table.nd rfl (by first | exact Or.inl rfl | exact Or.inr rfl) (je_lc (own := [("at", 2)]) rfl sc_Net_table.nd (ji_seq (je_fld T.cNet (T.na (952, "outs") (by decide)) (je_var 0))) (blkOk_by (by kernel_rfl)) (fun _ _ _ _ _ => (jc_name (i := 2) sc_Net_table.nd rfl (by first | exact Or.inl rfl | exact Or.inr rfl))) (fun _ _ _ _ _ => jts_nil) (fun _ _ _ _ _ => (je_ix (je_fld T.cNet (T.na (952, "solved") (by decide)) (je_var 0)) (je_var 2)))))
    (jb_cons (js_setLc (i := 4) (own := [("at", 2)]) rfl sc_Net_table.nd rfl rfl (sw_true rfl rfl rfl (by kernel_rfl)) (ji_seq (je_fld T.cNet (T.na (952, "cells") (by decide)) (je_var 0))) (blkOk_by (by kernel_rfl)) (fun _ _ _ _ _ => (jc_name (i := 2) sc_Net_table.nd rfl (by first | exact Or.inl rfl | exact Or.inr rfl))) (fun _ _ _ _ _ => jts_nil) (fun _ _ _ _ _ => (je_lc (own := [("known", 5)]) rfl sc_Net_table.nd (ji_seq (je_var 1)) (blkOk_by (by kernel_rfl)) (fun _ _ _ _ _ => (jc_name (i := 5) sc_Net_table.nd rfl (by first | exact Or.inl rfl | exact Or.inr rfl))) (fun _ _ _ _ _ => jts_nil) (fun _ _ _ _ _ => (je_and (je_shr (je_var 5) (je_var 2)) je_int)))))
    (jb_cons (js_setLc (i := 6) (own := [("at", 2)]) rfl sc_Net_table.nd rfl rfl (sw_true rfl rfl rfl (by kernel_rfl)) (ji_seq (je_fld T.cNet (T.na (952, "ins") (by decide)) (je_var 0))) (blkOk_by (by kernel_rfl)) (fun _ _ _ _ _ => (jc_name (i := 2) sc_Net_table.nd rfl (by first | exact Or.inl rfl | exact Or.inr rfl))) (fun _ _ _ _ _ => jts_nil) (fun _ _ _ _ _ => (je_lc (own := [("known", 5)]) rfl sc_Net_table.nd (ji_seq (je_var 1)) (blkOk_by (by kernel_rfl)) (fun _ _ _ _ _ => (jc_name (i := 5) sc_Net_table.nd rfl (by first | exact Or.inl rfl | exact Or.inr rfl))) (fun _ _ _ _ _ => jts_nil) (fun _ _ _ _ _ => (je_and (je_shr (je_var 5) (je_var 2)) je_int)))))
    (jb_cons (js_setLc (i := 7) (own := [("at", 2)]) rfl sc_Net_table.nd rfl rfl (sw_true rfl rfl rfl (by kernel_rfl)) (ji_seq (je_fld T.cNet (T.na (952, "cells") (by decide)) (je_var 0))) (blkOk_by (by kernel_rfl)) (fun _ _ _ _ _ => (jc_name (i := 2) sc_Net_table.nd rfl (by first | exact Or.inl rfl | exact Or.inr rfl))) (fun _ _ _ _ _ => jts_nil) (fun _ _ _ _ _ => (je_lc (own := [("known", 5)]) rfl sc_Net_table.nd (ji_seq (je_var 3)) (blkOk_by (by kernel_rfl)) (fun _ _ _ _ _ => (jc_name (i := 5) sc_Net_table.nd rfl (by first | exact Or.inl rfl | exact Or.inr rfl))) (fun _ _ _ _ _ => jts_nil) (fun _ _ _ _ _ => (je_and (je_shr (je_var 5) (je_var 2)) je_int)))))
    (jb_cons (js_setLc (i := 8) (own := [("at", 2)]) rfl sc_Net_table.nd rfl rfl (sw_true rfl rfl rfl (by kernel_rfl)) (ji_seq (je_fld T.cNet (T.na (952, "ins") (by decide)) (je_var 0))) (blkOk_by (by kernel_rfl)) (fun _ _ _ _ _ => (jc_name (i := 2) sc_Net_table.nd rfl (by first | exact Or.inl rfl | exact Or.inr rfl))) (fun _ _ _ _ _ => jts_nil) (fun _ _ _ _ _ => (je_lc (own := [("known", 5)]) rfl sc_Net_table.nd (ji_seq (je_var 3)) (blkOk_by (by kernel_rfl)) (fun _ _ _ _ _ => (jc_name (i := 5) sc_Net_table.nd rfl (by first | exact Or.inl rfl | exact Or.inr rfl))) (fun _ _ _ _ _ => jts_nil) (fun _ _ _ _ _ => (je_and (je_shr (je_var 5) (je_var 2)) je_int)))))
    (jb_one (js_ret (jk_make F_Table5 (hr.mono (by decide)) (by rfl) (ja_cons (je_var 4) (ja_cons (je_var 6) (ja_cons (je_var 7) (ja_cons (je_var 8) (ja_cons (je_len (by rfl) T.len (ja_cons (je_fld T.cNet (T.na (952, "outs") (by decide)) (je_var 0)) ja_nil)) ja_nil)))))))))))))) : JB K (cxOf CX0 P w K mg base ["self", "sources", "at", "shown", "a", "known", "b", "c", "d"] "Net.table" (defScope s_Net_table) f cdv A outer s H E).nox (defBody s_Net_table) _ (b_Net_table c_Table___init__))⟩
end
end BB
end
section
/-! the walks (printed by gen.py) -/
namespace BB
open PySem PySem.Spec PyProof.Rows L2 DL
section
variable {P : Program} {w : World} {K : PySem.W.Frag} {mg : Str → Option Value} {base : Heap}
theorem sc_state_for : FnScope ["motion", "beats", "bits", "size", "columns", "places", "beat", "row", "output", "found", "against", "at"] ["motion", "beats", "bits"] (defScope s_state_for) := ⟨rfl, rfl, rfl, by decide +kernel, rfl, by decide +kernel, by decide +kernel⟩
theorem w_state_for {c_bits_of c_places_of c_combined c_Motion_looks_until c_state_for : CT} {dvs : List V} {kws : List (Str × V)} {f : Addr} {fd : FuncData} (T : TX K mg) (G_bits_of : FnK P w K mg base 1 "bits_of" ["number", "size"] c_bits_of) (G_places_of : FnK P w K mg base 1 "places_of" ["number"] c_places_of) (G_combined : FnK P w K mg base 5 "combined" ["columns", "bits", "size"] c_combined) (M_Motion_looks_until : MtK P w K mg base 3 840 "looks_until" ["self", "beats"] c_Motion_looks_until) (F : FunD K "state_for" "state_for" (defArgs s_state_for) (defBody s_state_for) (defScope s_state_for) dvs kws f fd) (len : ∀ ds M Q, c_state_for ds M Q → ds.length = 3) (keeps : Keeps 12 (b_state_for c_bits_of c_places_of c_combined c_Motion_looks_until) c_state_for) : FnOk P w K mg base CX0 6 f fd ["motion", "beats", "bits"] (spD K c_state_for) :=
  fn_ok F sc_state_for len keeps fun cdv A outer s H E hr => ⟨_, ((jb_cons (js_set (i := 3) sc_state_for.nd rfl (by first | exact Or.inl rfl | exact Or.inr rfl) (je_len (by rfl) T.len (ja_cons (je_fld T.cMotion (T.na (840, "moves") (by decide)) (je_var 0)) ja_nil)))
    (jb_cons (js_set (i := 4) sc_state_for.nd rfl (by first | exact Or.inl rfl | exact Or.inr rfl) (je_lstM ja_nil))
    (jb_cons (js_set (i := 5) sc_state_for.nd rfl (by first | exact Or.inl rfl | exact Or.inr rfl) (je_lstM ja_nil))
    (jb_cons (js_for PassesOwn.never rfl (ji_enum (by rfl) T.enumerate (jk_meth M_Motion_looks_until (hr.mono (by decide)) (je_var 0) (ja_cons (je_var 1) ja_nil))) (jg_tup rfl (nms_cons (pg_name (i := 6) sc_state_for.nd rfl (by first | exact Or.inl rfl | exact Or.inr rfl)) (nms_cons (pg_name (i := 7) sc_state_for.nd rfl (by first | exact Or.inl rfl | exact Or.inr rfl)) .nil))) (jb_cons (js_expr (jk_ext (je_var 4) (ja_cons (je_var 7) ja_nil)))
    (jb_one (js_expr (jk_ext (je_var 5) (ja_cons (je_lc (own := [("output", 8)]) rfl sc_state_for.nd (ji_range (by rfl) T.range (je_len (by rfl) T.len (ja_cons (je_var 7) ja_nil))) (blkOk_by (by kernel_rfl)) (fun _ _ _ _ _ => (jc_name (i := 8) sc_state_for.nd rfl (by first | exact Or.inl rfl | exact Or.inr rfl))) (fun _ _ _ _ _ => jts_nil) (fun _ _ _ _ _ => (je_tup (ja_cons (je_var 8) (ja_cons (je_var 6) ja_nil))))) ja_nil))))))
    (jb_cons (js_gh 4 (js_asg (jk_call G_combined (hr.mono (by decide)) (by rfl) (ja_cons (je_var 4) (ja_cons (je_var 2) (ja_cons (je_var 3) ja_nil)))) (jg_tup rfl (nms_cons (pg_name (i := 9) sc_state_for.nd rfl (by first | exact Or.inl rfl | exact Or.inr rfl)) (nms_cons (pg_name (i := 10) sc_state_for.nd rfl (by first | exact Or.inl rfl | exact Or.inr rfl)) .nil)))))
    (jb_cons (js_if (jt_isN (je_var 9)) (jb_one (js_ret (je_tup (ja_cons je_non (ja_cons (je_tupOf (by rfl) T.tuple (ja_cons (je_lc (own := [("at", 11)]) rfl sc_state_for.nd (ji_seq (jk_call G_places_of (hr.mono (by decide)) (by rfl) (ja_cons (je_var 10) ja_nil))) (blkOk_by (by kernel_rfl)) (fun _ _ _ _ _ => (jc_name (i := 11) sc_state_for.nd rfl (by first | exact Or.inl rfl | exact Or.inr rfl))) (fun _ _ _ _ _ => jts_nil) (fun _ _ _ _ _ => (je_ix (je_var 5) (je_var 11)))) ja_nil)) ja_nil))))) jb_nil)
    (jb_one (js_ret (je_tup (ja_cons (jk_call G_bits_of (hr.mono (by decide)) (by rfl) (ja_cons (je_var 9) (ja_cons (je_var 3) ja_nil))) (ja_cons je_non ja_nil))))))))))) : JB K (cxOf CX0 P w K mg base ["motion", "beats", "bits", "size", "columns", "places", "beat", "row", "output", "found", "against", "at"] "state_for" (defScope s_state_for) f cdv A outer s H E).nox (defBody s_state_for) _ (b_state_for c_bits_of c_places_of c_combined c_Motion_looks_until))⟩
end
end BB
end
section
/-! the walks (printed by gen.py) -/
namespace BB
open PySem PySem.Spec PyProof.Rows L2 DL
section
variable {P : Program} {w : World} {K : PySem.W.Frag} {mg : Str → Option Value} {base : Heap}
theorem sc_check_frame : FnScope ["one", "other"] ["one", "other"] (defScope s_check_frame) := ⟨rfl, rfl, rfl, by decide +kernel, rfl, by decide +kernel, by decide +kernel⟩
theorem w_check_frame {c_check_frame : CT} {dvs : List V} {kws : List (Str × V)} {f : Addr} {fd : FuncData} (T : TX K mg) (F : FunD K "check_frame" "check_frame" (defArgs s_check_frame) (defBody s_check_frame) (defScope s_check_frame) dvs kws f fd) (len : ∀ ds M Q, c_check_frame ds M Q → ds.length = 2) (keeps : Keeps 2 (b_check_frame) c_check_frame) : FnOk P w K mg base CX0 1 f fd ["one", "other"] (spD K c_check_frame) :=
  fn_ok F sc_check_frame len keeps fun cdv A outer s H E hr => ⟨_, ((jb_one (js_if (JW.jt (jw_or (jt_ne (je_len (by rfl) T.len (ja_cons (je_fld T.cNet (T.na (952, "ins") (by decide)) (je_var 0)) ja_nil)) (je_len (by rfl) T.len (ja_cons (je_fld T.cNet (T.na (952, "ins") (by decide)) (je_var 1)) ja_nil))) (jw_or1 (jt_ne (je_len (by rfl) T.len (ja_cons (je_fld T.cNet (T.na (952, "outs") (by decide)) (je_var 0)) ja_nil)) (je_len (by rfl) T.len (ja_cons (je_fld T.cNet (T.na (952, "outs") (by decide)) (je_var 1)) ja_nil)))))) jb_never jb_nil)) : JB K (cxOf CX0 P w K mg base ["one", "other"] "check_frame" (defScope s_check_frame) f cdv A outer s H E).nox (defBody s_check_frame) _ (b_check_frame))⟩
end
end BB
end
section
/-! the walks (printed by gen.py) -/
namespace BB
open PySem PySem.Spec PyProof.Rows L2 DL
section
variable {P : Program} {w : World} {K : PySem.W.Frag} {mg : Str → Option Value} {base : Heap}
theorem sc_first_difference : FnScope ["motion", "put", "row", "here", "beat", "state", "outs"] ["motion"] (defScope s_first_difference) := ⟨rfl, rfl, rfl, by decide +kernel, rfl, by decide +kernel, by decide +kernel⟩
theorem w_first_difference {c_times c_places_of c_shown c_first_difference : CT} {dvs : List V} {kws : List (Str × V)} {f : Addr} {fd : FuncData} (T : TX K mg) (G_times : FnK P w K mg base 1 "times" ["row", "rows"] c_times) (G_places_of : FnK P w K mg base 1 "places_of" ["number"] c_places_of) (G_shown : FnK P w K mg base 2 "shown" ["motion", "state"] c_shown) (F : FunD K "first_difference" "first_difference" (defArgs s_first_difference) (defBody s_first_difference) (defScope s_first_difference) dvs kws f fd) (len : ∀ ds M Q, c_first_difference ds M Q → ds.length = 1) (keeps : Keeps 7 (b_first_difference c_times c_places_of c_shown) c_first_difference) : FnOk P w K mg base CX0 3 f fd ["motion"] (spD K c_first_difference) :=
  fn_ok F sc_first_difference len keeps fun cdv A outer s H E hr => ⟨_, ((jb_cons (js_for PassesOwn.never rfl (ji_enum (by rfl) T.enumerate (je_fld T.cMotion (T.na (840, "direct") (by decide)) (je_var 0))) (jg_tup rfl (nms_cons (pg_name (i := 1) sc_first_difference.nd rfl (by first | exact Or.inl rfl | exact Or.inr rfl)) (nms_cons (pg_name (i := 2) sc_first_difference.nd rfl (by first | exact Or.inl rfl | exact Or.inr rfl)) .nil))) (jb_one (js_if (jt_tru (je_var 2)) (jb_one (js_ret (je_tup (ja_cons je_int (ja_cons (je_var 1) (ja_cons (je_ix (jk_call G_places_of (hr.mono (by decide)) (by rfl) (ja_cons (je_var 2) ja_nil)) je_int) ja_nil)))))) jb_nil)))
    (jb_cons (js_set (i := 3) sc_first_difference.nd rfl (by first | exact Or.inl rfl | exact Or.inr rfl) (je_listOf (by rfl) T.list (ja_cons (je_fld T.cMotion (T.na (840, "drives") (by decide)) (je_var 0)) ja_nil)))
    (jb_cons (js_for PassesOwn.never rfl (ji_range (by rfl) T.range (je_len (by rfl) T.len (ja_cons (je_fld T.cMotion (T.na (840, "moves") (by decide)) (je_var 0)) ja_nil))) (jg_name (i := 4) sc_first_difference.nd rfl (by first | exact Or.inl rfl | exact Or.inr rfl)) (jb_cons (js_for PassesOwn.never rfl (ji_enum (by rfl) T.enumerate (je_var 3)) (jg_tup rfl (nms_cons (pg_name (i := 1) sc_first_difference.nd rfl (by first | exact Or.inl rfl | exact Or.inr rfl)) (nms_cons (pg_name (i := 5) sc_first_difference.nd rfl (by first | exact Or.inl rfl | exact Or.inr rfl)) .nil))) (jb_cons (js_set (i := 6) sc_first_difference.nd rfl (by first | exact Or.inl rfl | exact Or.inr rfl) (jk_call G_shown (hr.mono (by decide)) (by rfl) (ja_cons (je_var 0) (ja_cons (je_var 5) ja_nil))))
    (jb_one (js_if (jt_tru (je_var 6)) (jb_one (js_ret (je_tup (ja_cons (je_add (je_var 4) je_int) (ja_cons (je_var 1) (ja_cons (je_ix (jk_call G_places_of (hr.mono (by decide)) (by rfl) (ja_cons (je_var 6) ja_nil)) je_int) ja_nil)))))) jb_nil))))
    (jb_one (js_setLc (i := 3) (own := [("state", 5)]) rfl sc_first_difference.nd rfl rfl (sw_true rfl rfl rfl (by kernel_rfl)) (ji_seq (je_var 3)) (blkOk_by (by kernel_rfl)) (fun _ _ _ _ _ => (jc_name (i := 5) sc_first_difference.nd rfl (by first | exact Or.inl rfl | exact Or.inr rfl))) (fun _ _ _ _ _ => jts_nil) (fun _ _ _ _ _ => (jk_call G_times (hr.mono (by decide)) (by rfl) (ja_cons (je_var 5) (ja_cons (je_fld T.cMotion (T.na (840, "moves") (by decide)) (je_var 0)) ja_nil))))))))
    (jb_one (js_ret je_non))))) : JB K (cxOf CX0 P w K mg base ["motion", "put", "row", "here", "beat", "state", "outs"] "first_difference" (defScope s_first_difference) f cdv A outer s H E).nox (defBody s_first_difference) _ (b_first_difference c_times c_places_of c_shown))⟩
end
end BB
end
section
/-! the walks (printed by gen.py) -/
namespace BB
open PySem PySem.Spec PyProof.Rows L2 DL
section
variable {P : Program} {w : World} {K : PySem.W.Frag} {mg : Str → Option Value} {base : Heap}
theorem sc_both : FnScope ["one", "other"] ["one", "other"] (defScope s_both) := ⟨rfl, rfl, rfl, by decide +kernel, rfl, by decide +kernel, by decide +kernel⟩
theorem w_both {c_paired c_motion_of c_Net_table c_check_frame c_both : CT} {dvs : List V} {kws : List (Str × V)} {f : Addr} {fd : FuncData} (T : TX K mg) (G_paired : FnK P w K mg base 3 "paired" ["one", "other"] c_paired) (G_motion_of : FnK P w K mg base 3 "motion_of" ["table"] c_motion_of) (M_Net_table : MtK P w K mg base 3 952 "table" ["self"] c_Net_table) (G_check_frame : FnK P w K mg base 1 "check_frame" ["one", "other"] c_check_frame) (F : FunD K "both" "both" (defArgs s_both) (defBody s_both) (defScope s_both) dvs kws f fd) (len : ∀ ds M Q, c_both ds M Q → ds.length = 2) (keeps : Keeps 2 (b_both c_paired c_motion_of c_Net_table c_check_frame) c_both) : FnOk P w K mg base CX0 4 f fd ["one", "other"] (spD K c_both) :=
  fn_ok F sc_both len keeps fun cdv A outer s H E hr => ⟨_, ((jb_cons (js_expr (jk_call G_check_frame (hr.mono (by decide)) (by rfl) (ja_cons (je_var 0) (ja_cons (je_var 1) ja_nil))))
    (jb_one (js_ret (jk_call G_paired (hr.mono (by decide)) (by rfl) (ja_cons (jk_call G_motion_of (hr.mono (by decide)) (by rfl) (ja_cons (jk_meth0 M_Net_table (hr.mono (by decide)) (je_var 0)) ja_nil)) (ja_cons (jk_call G_motion_of (hr.mono (by decide)) (by rfl) (ja_cons (jk_meth0 M_Net_table (hr.mono (by decide)) (je_var 1)) ja_nil)) ja_nil)))))) : JB K (cxOf CX0 P w K mg base ["one", "other"] "both" (defScope s_both) f cdv A outer s H E).nox (defBody s_both) _ (b_both c_paired c_motion_of c_Net_table c_check_frame))⟩
end
end BB
end
section
/-! the walks (printed by gen.py) -/
namespace BB
open PySem PySem.Spec PyProof.Rows L2 DL
section
variable {P : Program} {w : World} {K : PySem.W.Frag} {mg : Str → Option Value} {base : Heap}
theorem sc_twin_of : FnScope ["one", "state", "other", "beats", "bits", "row", "column"] ["one", "state", "other"] (defScope s_twin_of) := ⟨rfl, rfl, rfl, by decide +kernel, rfl, by decide +kernel, by decide +kernel⟩
theorem w_twin_of {c_state_for c_Motion_looks_until c_parity c_twin_of : CT} {dvs : List V} {kws : List (Str × V)} {f : Addr} {fd : FuncData} (T : TX K mg) (G_state_for : FnK P w K mg base 6 "state_for" ["motion", "beats", "bits"] c_state_for) (M_Motion_looks_until : MtK P w K mg base 3 840 "looks_until" ["self", "beats"] c_Motion_looks_until) (G_parity : FnK P w K mg base 1 "parity" ["number"] c_parity) (F : FunD K "twin_of" "twin_of" (defArgs s_twin_of) (defBody s_twin_of) (defScope s_twin_of) dvs kws f fd) (len : ∀ ds M Q, c_twin_of ds M Q → ds.length = 3) (keeps : Keeps 7 (b_twin_of c_state_for c_Motion_looks_until c_parity) c_twin_of) : FnOk P w K mg base CX0 7 f fd ["one", "state", "other"] (spD K c_twin_of) :=
  fn_ok F sc_twin_of len keeps fun cdv A outer s H E hr => ⟨_, ((jb_cons (js_set (i := 3) sc_twin_of.nd rfl (by first | exact Or.inl rfl | exact Or.inr rfl) (je_add (je_len (by rfl) T.len (ja_cons (je_fld T.cMotion (T.na (840, "moves") (by decide)) (je_var 0)) ja_nil)) (je_len (by rfl) T.len (ja_cons (je_fld T.cMotion (T.na (840, "moves") (by decide)) (je_var 2)) ja_nil))))
    (jb_cons (js_setLc2 (i := 4) (own := [("row", 5), ("column", 6)]) (vs1 := [6]) rfl sc_twin_of.nd rfl rfl (sw_true rfl rfl rfl (by kernel_rfl)) (ji_seq (jk_meth M_Motion_looks_until (hr.mono (by decide)) (je_var 0) (ja_cons (je_var 3) ja_nil))) (blkOk_by (by kernel_rfl)) (by decide) (fun _ _ _ _ _ => (jc_name (i := 5) sc_twin_of.nd rfl (by first | exact Or.inl rfl | exact Or.inr rfl))) (fun _ _ _ _ _ => (ji_seq (je_var 5))) (fun _ _ _ _ _ => (jc_name (i := 6) sc_twin_of.nd rfl (by first | exact Or.inl rfl | exact Or.inr rfl))) (fun _ _ _ _ _ => (jk_call G_parity (hr.mono (by decide)) (by rfl) (ja_cons (je_and (je_var 1) (je_var 6)) ja_nil))))
    (jb_one (js_ret (jk_call G_state_for (hr.mono (by decide)) (by rfl) (ja_cons (je_var 2) (ja_cons (je_var 3) (ja_cons (je_var 4) ja_nil)))))))) : JB K (cxOf CX0 P w K mg base ["one", "state", "other", "beats", "bits", "row", "column"] "twin_of" (defScope s_twin_of) f cdv A outer s H E).nox (defBody s_twin_of) _ (b_twin_of c_state_for c_Motion_looks_until c_parity))⟩
end
end BB
end
section
/-! the walks (printed by gen.py) -/
namespace BB
open PySem PySem.Spec PyProof.Rows L2 DL
section
variable {P : Program} {w : World} {K : PySem.W.Frag} {mg : Str → Option Value} {base : Heap}
theorem sc_FromAll___init__ : FnScope ["self", "twins", "difference", "side", "against"] ["self", "twins", "difference", "side", "against"] (defScope s_FromAll___init__) := ⟨rfl, rfl, rfl, by decide +kernel, rfl, by decide +kernel, by decide +kernel⟩
theorem w_FromAll___init__ {c_FromAll___init__ : CT} {dvs : List V} {kws : List (Str × V)} {f : Addr} {fd : FuncData} (T : TX K mg) (F : FunD K "__init__" "FromAll.__init__" (defArgs s_FromAll___init__) (defBody s_FromAll___init__) (defScope s_FromAll___init__) dvs kws f fd) (len : ∀ ds M Q, c_FromAll___init__ ds M Q → ds.length = 5) (keeps : Keeps 5 (b_FromAll___init__) c_FromAll___init__) : FnOk P w K mg base CX0 1 f fd ["self", "twins", "difference", "side", "against"] (spD K c_FromAll___init__) :=
  fn_ok F sc_FromAll___init__ len keeps fun cdv A outer s H E hr => ⟨_, ((jb_cons (js_asg (je_var 1) (jg_tup2 rfl (jg_fld T.cFromAll (T.na (1004, "there") (by decide)) (je_var 0)) (jg_fld T.cFromAll (T.na (1004, "back") (by decide)) (je_var 0))))
    (jb_cons (js_fld T.cFromAll (T.na (1004, "difference") (by decide)) (je_var 0) (je_var 2))
    (jb_cons (js_fld T.cFromAll (T.na (1004, "side") (by decide)) (je_var 0) (je_var 3))
    (jb_one (js_asg (je_var 4) (jg_tup2 rfl (jg_fld T.cFromAll (T.na (1004, "state") (by decide)) (je_var 0)) (jg_fld T.cFromAll (T.na (1004, "looks") (by decide)) (je_var 0)))))))) : JB K (cxOf CX0 P w K mg base ["self", "twins", "difference", "side", "against"] "FromAll.__init__" (defScope s_FromAll___init__) f cdv A outer s H E).nox (defBody s_FromAll___init__) _ (b_FromAll___init__))⟩
end
end BB
end
section
/-! the walks (printed by gen.py) -/
namespace BB
open PySem PySem.Spec PyProof.Rows L2 DL
section
variable {P : Program} {w : World} {K : PySem.W.Frag} {mg : Str → Option Value} {base : Heap}
theorem sc_from_all : FnScope ["one", "other", "difference", "motions", "twins", "side", "here", "size", "row", "at", "found", "looks"] ["one", "other"] (defScope s_from_all) := ⟨rfl, rfl, rfl, by decide +kernel, rfl, by decide +kernel, by decide +kernel⟩
theorem w_from_all {c_FromAll___init__ c_bits_of c_twin_of c_motion_of c_Net_table c_first_difference c_both c_from_all : CT} {dvs : List V} {kws : List (Str × V)} {f : Addr} {fd : FuncData} (T : TX K mg) (F_FromAll1 : MkK P w K mg base 1 1004 "FromAll" ["self", "twins", "difference", "side", "against"] c_FromAll___init__ [V.non, V.non, V.ref 993] [D.non, D.non, D.tup [.non, .non]]) (F_FromAll4 : MkK P w K mg base 1 1004 "FromAll" ["self", "twins", "difference", "side", "against"] c_FromAll___init__ [] []) (G_bits_of : FnK P w K mg base 1 "bits_of" ["number", "size"] c_bits_of) (G_twin_of : FnK P w K mg base 7 "twin_of" ["one", "state", "other"] c_twin_of) (G_motion_of : FnK P w K mg base 3 "motion_of" ["table"] c_motion_of) (M_Net_table : MtK P w K mg base 3 952 "table" ["self"] c_Net_table) (F_FromAll2 : MkK P w K mg base 1 1004 "FromAll" ["self", "twins", "difference", "side", "against"] c_FromAll___init__ [V.non, V.ref 993] [D.non, D.tup [.non, .non]]) (G_first_difference : FnK P w K mg base 3 "first_difference" ["motion"] c_first_difference) (G_both : FnK P w K mg base 4 "both" ["one", "other"] c_both) (F : FunD K "from_all" "from_all" (defArgs s_from_all) (defBody s_from_all) (defScope s_from_all) dvs kws f fd) (len : ∀ ds M Q, c_from_all ds M Q → ds.length = 2) (keeps : Keeps 12 (b_from_all c_FromAll___init__ c_bits_of c_twin_of c_motion_of c_Net_table c_first_difference c_both) c_from_all) : FnOk P w K mg base CX0 8 f fd ["one", "other"] (spD K c_from_all) :=
  fn_ok F sc_from_all len keeps fun cdv A outer s H E hr => ⟨_, ((jb_cons (js_set (i := 2) sc_from_all.nd rfl (by first | exact Or.inl rfl | exact Or.inr rfl) (jk_call G_first_difference (hr.mono (by decide)) (by rfl) (ja_cons (jk_call G_both (hr.mono (by decide)) (by rfl) (ja_cons (je_var 0) (ja_cons (je_var 1) ja_nil))) ja_nil)))
    (jb_cons (js_if (jt_notN (je_var 2)) (jb_one (js_ret (jk_make F_FromAll2 (hr.mono (by decide)) (by rfl) (ja_cons (je_tup (ja_cons je_non (ja_cons je_non ja_nil))) (ja_cons (je_var 2) ja_nil))))) jb_nil)
    (jb_cons (js_set (i := 3) sc_from_all.nd rfl (by first | exact Or.inl rfl | exact Or.inr rfl) (je_tup (ja_cons (jk_call G_motion_of (hr.mono (by decide)) (by rfl) (ja_cons (jk_meth0 M_Net_table (hr.mono (by decide)) (je_var 0)) ja_nil)) (ja_cons (jk_call G_motion_of (hr.mono (by decide)) (by rfl) (ja_cons (jk_meth0 M_Net_table (hr.mono (by decide)) (je_var 1)) ja_nil)) ja_nil))))
    (jb_cons (js_set (i := 4) sc_from_all.nd rfl (by first | exact Or.inl rfl | exact Or.inr rfl) (je_lstM ja_nil))
    (jb_cons (js_for PassesOwn.never rfl (ji_range (by rfl) T.range je_int) (jg_name (i := 5) sc_from_all.nd rfl (by first | exact Or.inl rfl | exact Or.inr rfl)) (jb_cons (js_set (i := 6) sc_from_all.nd rfl (by first | exact Or.inl rfl | exact Or.inr rfl) (je_ix (je_var 3) (je_var 5)))
    (jb_cons (js_set (i := 7) sc_from_all.nd rfl (by first | exact Or.inl rfl | exact Or.inr rfl) (je_len (by rfl) T.len (ja_cons (je_fld T.cMotion (T.na (840, "moves") (by decide)) (je_var 6)) ja_nil)))
    (jb_cons (js_set (i := 8) sc_from_all.nd rfl (by first | exact Or.inl rfl | exact Or.inr rfl) (je_lstM ja_nil))
    (jb_cons (js_for PassesOwn.never rfl (ji_range (by rfl) T.range (je_var 7)) (jg_name (i := 9) sc_from_all.nd rfl (by first | exact Or.inl rfl | exact Or.inr rfl)) (jb_cons (js_asg (jk_call G_twin_of (hr.mono (by decide)) (by rfl) (ja_cons (je_var 6) (ja_cons (je_shl je_int (je_var 9)) (ja_cons (je_ix (je_var 3) (je_sub je_int (je_var 5))) ja_nil)))) (jg_tup rfl (nms_cons (pg_name (i := 10) sc_from_all.nd rfl (by first | exact Or.inl rfl | exact Or.inr rfl)) (nms_cons (pg_name (i := 11) sc_from_all.nd rfl (by first | exact Or.inl rfl | exact Or.inr rfl)) .nil))))
    (jb_cons (js_if (jt_isN (je_var 10)) (jb_one (js_ret (jk_make F_FromAll4 (hr.mono (by decide)) (by rfl) (ja_cons (je_tup (ja_cons je_non (ja_cons je_non ja_nil))) (ja_cons je_non (ja_cons (je_var 5) (ja_cons (je_tup (ja_cons (jk_call G_bits_of (hr.mono (by decide)) (by rfl) (ja_cons (je_shl je_int (je_var 9)) (ja_cons (je_var 7) ja_nil))) (ja_cons (je_var 11) ja_nil))) ja_nil))))))) jb_nil)
    (jb_one (js_expr (jk_app (je_var 8) (ja_cons (je_var 10) ja_nil)))))))
    (jb_one (js_expr (jk_app (je_var 4) (ja_cons (je_tupOf (by rfl) T.tuple (ja_cons (je_var 8) ja_nil)) ja_nil)))))))))
    (jb_one (js_ret (jk_make F_FromAll1 (hr.mono (by decide)) (by rfl) (ja_cons (je_tupOf (by rfl) T.tuple (ja_cons (je_var 4) ja_nil)) ja_nil))))))))) : JB K (cxOf CX0 P w K mg base ["one", "other", "difference", "motions", "twins", "side", "here", "size", "row", "at", "found", "looks"] "from_all" (defScope s_from_all) f cdv A outer s H E).nox (defBody s_from_all) _ (b_from_all c_FromAll___init__ c_bits_of c_twin_of c_motion_of c_Net_table c_first_difference c_both))⟩
end
end BB
end
section
/-! the walks (printed by gen.py) -/
namespace BB
open PySem PySem.Spec PyProof.Rows L2 DL
section
variable {P : Program} {w : World} {K : PySem.W.Frag} {mg : Str → Option Value} {base : Heap}
theorem sc__law_draw : FnScope ["_law_pen", "_law_many", "_law_spot", "_law_at", "_law_cell", "_law_mixed"] ["_law_pen", "_law_many"] (defScope s__law_draw) := ⟨rfl, rfl, rfl, by decide +kernel, rfl, by decide +kernel, by decide +kernel⟩
theorem w__law_draw {c__law_draw : CT} {dvs : List V} {kws : List (Str × V)} {f : Addr} {fd : FuncData} (T : TX K mg) (F : FunD K "_law_draw" "_law_draw" (defArgs s__law_draw) (defBody s__law_draw) (defScope s__law_draw) dvs kws f fd) (len : ∀ ds M Q, c__law_draw ds M Q → ds.length = 2) (keeps : Keeps 6 (b__law_draw) c__law_draw) : FnOk P w K mg base CX0 1 f fd ["_law_pen", "_law_many"] (spD K c__law_draw) :=
  fn_ok F sc__law_draw len keeps fun cdv A outer s H E hr => ⟨_, ((jb_cons (js_set (i := 2) sc__law_draw.nd rfl (by first | exact Or.inl rfl | exact Or.inr rfl) (je_ix (je_var 0) je_int))
    (jb_cons (js_asg (je_add (je_var 2) je_int) (jg_sub (je_var 0) je_int))
    (jb_cons (js_set (i := 3) sc__law_draw.nd rfl (by first | exact Or.inl rfl | exact Or.inr rfl) (je_mod (je_intOf (by rfl) T.int (ja_cons (je_var 2) ja_nil)) (je_len (by rfl) T.len (ja_cons (je_ix (je_var 0) je_int) ja_nil))))
    (jb_cons (js_set (i := 4) sc__law_draw.nd rfl (by first | exact Or.inl rfl | exact Or.inr rfl) (je_intOf (by rfl) T.int (ja_cons (je_ix (je_ix (je_var 0) je_int) (je_var 3)) ja_nil)))
    (jb_cons (js_if (jt_ge (je_var 4) (je_pow je_int je_int)) (jb_cons (js_asg (je_div (je_var 4) (je_var 1)) (jg_sub (je_ix (je_var 0) je_int) (je_var 3)))
    (jb_one (js_ret (je_mod (je_intOf (by rfl) T.int (ja_cons (je_var 4) ja_nil)) (je_var 1))))) jb_nil)
    (jb_cons (js_set (i := 5) sc__law_draw.nd rfl (by first | exact Or.inl rfl | exact Or.inr rfl) (je_pow (je_intOf (by rfl) T.int (ja_cons (je_add (je_add (je_mul (je_mod (je_intOf (by rfl) T.int (ja_cons (je_var 4) ja_nil)) je_int) je_int) (je_mul (je_var 2) je_int)) je_int) ja_nil)) je_int))
    (jb_one (js_ret (je_mod (je_div (je_intOf (by rfl) T.int (ja_cons (je_mod (je_intOf (by rfl) T.int (ja_cons (je_var 5) ja_nil)) je_int) ja_nil)) je_int) (je_var 1)))))))))) : JB K (cxOf CX0 P w K mg base ["_law_pen", "_law_many", "_law_spot", "_law_at", "_law_cell", "_law_mixed"] "_law_draw" (defScope s__law_draw) f cdv A outer s H E).nox (defBody s__law_draw) _ (b__law_draw))⟩
end
end BB
end
section
/-! the walks (printed by gen.py) -/
namespace BB
open PySem PySem.Spec PyProof.Rows L2 DL
section
variable {P : Program} {w : World} {K : PySem.W.Frag} {mg : Str → Option Value} {base : Heap}
theorem sc__law_places : FnScope ["_law_wires_here", "_law_kind", "_law_at"] ["_law_wires_here", "_law_kind"] (defScope s__law_places) := ⟨rfl, rfl, rfl, by decide +kernel, rfl, by decide +kernel, by decide +kernel⟩
theorem w__law_places {c__law_places : CT} {dvs : List V} {kws : List (Str × V)} {f : Addr} {fd : FuncData} (T : TX K mg) (F : FunD K "_law_places" "_law_places" (defArgs s__law_places) (defBody s__law_places) (defScope s__law_places) dvs kws f fd) (len : ∀ ds M Q, c__law_places ds M Q → ds.length = 2) (keeps : Keeps 3 (b__law_places) c__law_places) : FnOk P w K mg base CX0 1 f fd ["_law_wires_here", "_law_kind"] (spD K c__law_places) :=
  fn_ok F sc__law_places len keeps fun cdv A outer s H E hr => ⟨_, ((jb_one (js_ret (je_lc (own := [("_law_at", 2)]) rfl sc__law_places.nd (ji_range (by rfl) T.range (je_len (by rfl) T.len (ja_cons (je_var 0) ja_nil))) (blkOk_by (by kernel_rfl)) (fun _ _ _ _ _ => (jc_name (i := 2) sc__law_places.nd rfl (by first | exact Or.inl rfl | exact Or.inr rfl))) (fun _ _ _ _ _ => (jts_one (jt_eq (je_ix (je_ix (je_var 0) (je_var 2)) je_int) (je_var 1)))) (fun _ _ _ _ _ => (je_var 2))))) : JB K (cxOf CX0 P w K mg base ["_law_wires_here", "_law_kind", "_law_at"] "_law_places" (defScope s__law_places) f cdv A outer s H E).nox (defBody s__law_places) _ (b__law_places))⟩
end
end BB
end
section
/-! the walks (printed by gen.py) -/
namespace BB
open PySem PySem.Spec PyProof.Rows L2 DL
section
variable {P : Program} {w : World} {K : PySem.W.Frag} {mg : Str → Option Value} {base : Heap}
theorem sc__law_wires : FnScope ["_law_pen", "_law_counts", "_law_row", "_law_kind", "_law_many", "_law_k", "_law_wires_here", "_law_lists"] ["_law_pen", "_law_counts"] (defScope s__law_wires) := ⟨rfl, rfl, rfl, by decide +kernel, rfl, by decide +kernel, by decide +kernel⟩
theorem w__law_wires {c__law_draw c__law_wires : CT} {dvs : List V} {kws : List (Str × V)} {f : Addr} {fd : FuncData} (T : TX K mg) (G__law_draw : FnK P w K mg base 1 "_law_draw" ["_law_pen", "_law_many"] c__law_draw) (F : FunD K "_law_wires" "_law_wires" (defArgs s__law_wires) (defBody s__law_wires) (defScope s__law_wires) dvs kws f fd) (len : ∀ ds M Q, c__law_wires ds M Q → ds.length = 2) (keeps : Keeps 8 (b__law_wires c__law_draw) c__law_wires) : FnOk P w K mg base CX0 2 f fd ["_law_pen", "_law_counts"] (spD K c__law_wires) :=
  fn_ok F sc__law_wires len keeps fun cdv A outer s H E hr => ⟨_, ((jb_cons (js_set (i := 2) sc__law_wires.nd rfl (by first | exact Or.inl rfl | exact Or.inr rfl) (je_lstM ja_nil))
    (jb_cons (js_for PassesOwn.never rfl (ji_seq (je_var 1)) (jg_tup rfl (nms_cons (pg_name (i := 3) sc__law_wires.nd rfl (by first | exact Or.inl rfl | exact Or.inr rfl)) (nms_cons (pg_name (i := 4) sc__law_wires.nd rfl (by first | exact Or.inl rfl | exact Or.inr rfl)) .nil))) (jb_one (js_for PassesOwn.never rfl (ji_range (by rfl) T.range (je_var 4)) (jg_name (i := 5) sc__law_wires.nd rfl (by first | exact Or.inl rfl | exact Or.inr rfl)) (jb_one (js_expr (jk_ins (je_var 2) (ja_cons (jk_call G__law_draw (hr.mono (by decide)) (by rfl) (ja_cons (je_var 0) (ja_cons (je_add (je_len (by rfl) T.len (ja_cons (je_var 2) ja_nil)) je_int) ja_nil))) (ja_cons (je_var 3) ja_nil))))))))
    (jb_cons (js_set (i := 6) sc__law_wires.nd rfl (by first | exact Or.inl rfl | exact Or.inr rfl) (je_lstM ja_nil))
    (jb_cons (js_gh 2 (js_for PassesOwn.never rfl (ji_seq (je_var 2)) (jg_name (i := 3) sc__law_wires.nd rfl (by first | exact Or.inl rfl | exact Or.inr rfl)) (jb_one (js_if (jt_eq (je_var 3) je_str) (jb_one (js_expr (jk_app (je_var 6) (ja_cons (je_tup (ja_cons je_str ja_nil)) ja_nil)))) (jb_one (js_if (jt_eq (je_var 3) je_str) (jb_one (js_expr (jk_app (je_var 6) (ja_cons (je_tup (ja_cons je_str (ja_cons (jk_call G__law_draw (hr.mono (by decide)) (by rfl) (ja_cons (je_var 0) (ja_cons (je_len (by rfl) T.len (ja_cons (je_var 2) ja_nil)) ja_nil))) (ja_cons (jk_call G__law_draw (hr.mono (by decide)) (by rfl) (ja_cons (je_var 0) (ja_cons je_int ja_nil))) ja_nil)))) ja_nil)))) (jb_cons (js_setLc (i := 7) (own := [("_law_k", 5)]) rfl sc__law_wires.nd rfl rfl (sw_true rfl rfl rfl (by kernel_rfl)) (ji_range (by rfl) T.range (jk_call G__law_draw (hr.mono (by decide)) (by rfl) (ja_cons (je_var 0) (ja_cons je_int ja_nil)))) (blkOk_by (by kernel_rfl)) (fun _ _ _ _ _ => (jc_name (i := 5) sc__law_wires.nd rfl (by first | exact Or.inl rfl | exact Or.inr rfl))) (fun _ _ _ _ _ => jts_nil) (fun _ _ _ _ _ => (jk_call G__law_draw (hr.mono (by decide)) (by rfl) (ja_cons (je_var 0) (ja_cons (je_len (by rfl) T.len (ja_cons (je_var 2) ja_nil)) ja_nil)))))
    (jb_one (js_expr (jk_app (je_var 6) (ja_cons (je_tupOf (by rfl) T.tuple (ja_cons (je_cat (je_lst (ja_cons je_str ja_nil)) (je_var 7)) ja_nil)) ja_nil)))))))))))
    (jb_one (js_ret (je_frz (je_var 6)))))))) : JB K (cxOf CX0 P w K mg base ["_law_pen", "_law_counts", "_law_row", "_law_kind", "_law_many", "_law_k", "_law_wires_here", "_law_lists"] "_law_wires" (defScope s__law_wires) f cdv A outer s H E).nox (defBody s__law_wires) _ (b__law_wires c__law_draw))⟩
end
end BB
end
section
/-! the walks (printed by gen.py) -/
namespace BB
open PySem PySem.Spec PyProof.Rows L2 DL
section
variable {P : Program} {w : World} {K : PySem.W.Frag} {mg : Str → Option Value} {base : Heap}
theorem sc__law_flips : FnScope ["_law_wires_here", "_law_sums", "_law_mask", "_law_part", "_law_k", "_law_odd", "_law_v", "_law_x"] ["_law_wires_here"] (defScope s__law_flips) := ⟨rfl, rfl, rfl, by decide +kernel, rfl, by decide +kernel, by decide +kernel⟩
theorem w__law_flips {c__law_places c__law_flips : CT} {dvs : List V} {kws : List (Str × V)} {f : Addr} {fd : FuncData} (T : TX K mg) (G__law_places : FnK P w K mg base 1 "_law_places" ["_law_wires_here", "_law_kind"] c__law_places) (F : FunD K "_law_flips" "_law_flips" (defArgs s__law_flips) (defBody s__law_flips) (defScope s__law_flips) dvs kws f fd) (len : ∀ ds M Q, c__law_flips ds M Q → ds.length = 1) (keeps : Keeps 8 (b__law_flips c__law_places) c__law_flips) : FnOk P w K mg base CX0 2 f fd ["_law_wires_here"] (spD K c__law_flips) :=
  fn_ok F sc__law_flips len keeps fun cdv A outer s H E hr => ⟨_, ((jb_cons (js_set (i := 1) sc__law_flips.nd rfl (by first | exact Or.inl rfl | exact Or.inr rfl) (jk_call G__law_places (hr.mono (by decide)) (by rfl) (ja_cons (je_var 0) (ja_cons je_str ja_nil))))
    (jb_cons (js_for PassesOwn.never rfl (ji_range2 (by rfl) T.range je_int (je_shl je_int (je_len (by rfl) T.len (ja_cons (je_var 1) ja_nil)))) (jg_name (i := 2) sc__law_flips.nd rfl (by first | exact Or.inl rfl | exact Or.inr rfl)) (jb_cons (js_set (i := 3) sc__law_flips.nd rfl (by first | exact Or.inl rfl | exact Or.inr rfl) (je_lc (own := [("_law_k", 4)]) rfl sc__law_flips.nd (ji_range (by rfl) T.range (je_len (by rfl) T.len (ja_cons (je_var 1) ja_nil))) (blkOk_by (by kernel_rfl)) (fun _ _ _ _ _ => (jc_name (i := 4) sc__law_flips.nd rfl (by first | exact Or.inl rfl | exact Or.inr rfl))) (fun _ _ _ _ _ => (jts_one (jt_eq (je_and (je_shr (je_var 2) (je_var 4)) je_int) je_int))) (fun _ _ _ _ _ => (je_ix (je_var 1) (je_var 4)))))
    (jb_cons (js_setLc (i := 5) (own := [("_law_v", 6)]) rfl sc__law_flips.nd rfl rfl (sw_true rfl rfl rfl (by kernel_rfl)) (ji_seq (je_var 1)) (blkOk_by (by kernel_rfl)) (fun _ _ _ _ _ => (jc_name (i := 6) sc__law_flips.nd rfl (by first | exact Or.inl rfl | exact Or.inr rfl))) (fun _ _ _ _ _ => (jts_one (jt_eq (je_and (je_len (by rfl) T.len (ja_cons (je_lc (own := [("_law_x", 7)]) rfl sc__law_flips.nd (ji_seq (je_slT (je_ix (je_var 0) (je_var 6)) (jo_some je_int) jo_none)) (blkOk_by (by kernel_rfl)) (fun _ _ _ _ _ => (jc_name (i := 7) sc__law_flips.nd rfl (by first | exact Or.inl rfl | exact Or.inr rfl))) (fun _ _ _ _ _ => (jts_one (jt_in (je_var 7) (je_var 3)))) (fun _ _ _ _ _ => (je_var 7))) ja_nil)) je_int) je_int))) (fun _ _ _ _ _ => (je_var 6)))
    (jb_one (js_if (jt_eqD (huR hr) (je_var 5) (je_var 3)) (jb_one (js_ret (je_tupOf (by rfl) T.tuple (ja_cons (je_var 3) ja_nil)))) jb_nil)))))
    (jb_one (js_ret je_non)))) : JB K (cxOf CX0 P w K mg base ["_law_wires_here", "_law_sums", "_law_mask", "_law_part", "_law_k", "_law_odd", "_law_v", "_law_x"] "_law_flips" (defScope s__law_flips) f cdv A outer s H E).nox (defBody s__law_flips) _ (b__law_flips c__law_places))⟩
end
end BB
end
section
/-! the walks (printed by gen.py) -/
namespace BB
open PySem PySem.Spec PyProof.Rows L2 DL
section
variable {P : Program} {w : World} {K : PySem.W.Frag} {mg : Str → Option Value} {base : Heap}
theorem sc__law_settled : FnScope ["_law_wires_here", "_law_found", "_law_at", "_law_wire", "_law_x"] ["_law_wires_here"] (defScope s__law_settled) := ⟨rfl, rfl, rfl, by decide +kernel, rfl, by decide +kernel, by decide +kernel⟩
theorem w__law_settled {c__law_flips c__law_settled : CT} {dvs : List V} {kws : List (Str × V)} {f : Addr} {fd : FuncData} (T : TX K mg) (G__law_flips : FnK P w K mg base 2 "_law_flips" ["_law_wires_here"] c__law_flips) (F : FunD K "_law_settled" "_law_settled" (defArgs s__law_settled) (defBody s__law_settled) (defScope s__law_settled) dvs kws f fd) (len : ∀ ds M Q, c__law_settled ds M Q → ds.length = 1) (keeps : Keeps 5 (b__law_settled c__law_flips) c__law_settled) : FnOk P w K mg base CX0 3 f fd ["_law_wires_here"] (spD K c__law_settled) :=
  fn_ok F sc__law_settled len keeps fun cdv A outer s H E hr => ⟨_, ((jb_cons (js_if (jt_isN (jk_call G__law_flips (hr.mono (by decide)) (by rfl) (ja_cons (je_var 0) ja_nil))) (jb_one (js_ret (je_var 0))) jb_nil)
    (jb_cons (js_set (i := 1) sc__law_settled.nd rfl (by first | exact Or.inl rfl | exact Or.inr rfl) (je_lstM ja_nil))
    (jb_cons (js_for PassesOwn.never rfl (ji_range (by rfl) T.range (je_len (by rfl) T.len (ja_cons (je_var 0) ja_nil))) (jg_name (i := 2) sc__law_settled.nd rfl (by first | exact Or.inl rfl | exact Or.inr rfl)) (jb_cons (js_set (i := 3) sc__law_settled.nd rfl (by first | exact Or.inl rfl | exact Or.inr rfl) (je_ix (je_var 0) (je_var 2)))
    (jb_cons (js_if (jt_eq (je_ix (je_var 3) je_int) je_str) (jb_one (js_set (i := 3) sc__law_settled.nd rfl (by first | exact Or.inl rfl | exact Or.inr rfl) (je_tupOf (by rfl) T.tuple (ja_cons (je_cat (je_lst (ja_cons je_str ja_nil)) (je_lc (own := [("_law_x", 4)]) rfl sc__law_settled.nd (ji_seq (je_slT (je_var 3) (jo_some je_int) jo_none)) (blkOk_by (by kernel_rfl)) (fun _ _ _ _ _ => (jc_name (i := 4) sc__law_settled.nd rfl (by first | exact Or.inl rfl | exact Or.inr rfl))) (fun _ _ _ _ _ => (jts_one (JW.jt (jw_or (jt_ne (je_ix (je_ix (je_var 0) (je_var 4)) je_int) je_str) (jw_or1 (jt_lt (je_var 4) (je_var 2))))))) (fun _ _ _ _ _ => (je_var 4)))) ja_nil)))) jb_nil)
    (jb_one (js_expr (jk_app (je_var 1) (ja_cons (je_var 3) ja_nil)))))))
    (jb_one (js_ret (je_frz (je_var 1))))))) : JB K (cxOf CX0 P w K mg base ["_law_wires_here", "_law_found", "_law_at", "_law_wire", "_law_x"] "_law_settled" (defScope s__law_settled) f cdv A outer s H E).nox (defBody s__law_settled) _ (b__law_settled c__law_flips))⟩
end
end BB
end
section
/-! the walks (printed by gen.py) -/
namespace BB
open PySem PySem.Spec PyProof.Rows L2 DL
section
variable {P : Program} {w : World} {K : PySem.W.Frag} {mg : Str → Option Value} {base : Heap}
theorem sc__law_net : FnScope ["_law_pen", "_law_counts", "_law_many", "_law_kinds", "_law_wires_here", "_law_k"] ["_law_pen", "_law_counts", "_law_many"] (defScope s__law_net) := ⟨rfl, rfl, rfl, by decide +kernel, rfl, by decide +kernel, by decide +kernel⟩
theorem w__law_net {c__law_draw c__law_settled c__law_wires c__law_net : CT} {dvs : List V} {kws : List (Str × V)} {f : Addr} {fd : FuncData} (T : TX K mg) (G__law_draw : FnK P w K mg base 1 "_law_draw" ["_law_pen", "_law_many"] c__law_draw) (G__law_settled : FnK P w K mg base 3 "_law_settled" ["_law_wires_here"] c__law_settled) (G__law_wires : FnK P w K mg base 2 "_law_wires" ["_law_pen", "_law_counts"] c__law_wires) (F : FunD K "_law_net" "_law_net" (defArgs s__law_net) (defBody s__law_net) (defScope s__law_net) dvs kws f fd) (len : ∀ ds M Q, c__law_net ds M Q → ds.length = 3) (keeps : Keeps 6 (b__law_net c__law_draw c__law_settled c__law_wires) c__law_net) : FnOk P w K mg base CX0 4 f fd ["_law_pen", "_law_counts", "_law_many"] (spD K c__law_net) :=
  fn_ok F sc__law_net len keeps fun cdv A outer s H E hr => ⟨_, ((jb_cons (js_set (i := 3) sc__law_net.nd rfl (by first | exact Or.inl rfl | exact Or.inr rfl) (je_lst (ja_cons je_str (ja_cons je_str (ja_cons je_str ja_nil)))))
    (jb_cons (js_set (i := 4) sc__law_net.nd rfl (by first | exact Or.inl rfl | exact Or.inr rfl) (jk_call G__law_settled (hr.mono (by decide)) (by rfl) (ja_cons (jk_call G__law_wires (hr.mono (by decide)) (by rfl) (ja_cons (je_var 0) (ja_cons (je_lc (own := [("_law_k", 5)]) rfl sc__law_net.nd (ji_range (by rfl) T.range je_int) (blkOk_by (by kernel_rfl)) (fun _ _ _ _ _ => (jc_name (i := 5) sc__law_net.nd rfl (by first | exact Or.inl rfl | exact Or.inr rfl))) (fun _ _ _ _ _ => jts_nil) (fun _ _ _ _ _ => (je_tup (ja_cons (je_ix (je_var 3) (je_var 5)) (ja_cons (je_ix (je_var 1) (je_var 5)) ja_nil))))) ja_nil))) ja_nil)))
    (jb_one (js_ret (je_tup (ja_cons (je_var 4) (ja_cons (je_lc (own := [("_law_k", 5)]) rfl sc__law_net.nd (ji_range (by rfl) T.range (je_var 2)) (blkOk_by (by kernel_rfl)) (fun _ _ _ _ _ => (jc_name (i := 5) sc__law_net.nd rfl (by first | exact Or.inl rfl | exact Or.inr rfl))) (fun _ _ _ _ _ => (jts_one (jt_neD (huR hr) (je_var 4) (je_lst ja_nil)))) (fun _ _ _ _ _ => (jk_call G__law_draw (hr.mono (by decide)) (by rfl) (ja_cons (je_var 0) (ja_cons (je_len (by rfl) T.len (ja_cons (je_var 4) ja_nil)) ja_nil))))) ja_nil))))))) : JB K (cxOf CX0 P w K mg base ["_law_pen", "_law_counts", "_law_many", "_law_kinds", "_law_wires_here", "_law_k"] "_law_net" (defScope s__law_net) f cdv A outer s H E).nox (defBody s__law_net) _ (b__law_net c__law_draw c__law_settled c__law_wires))⟩
end
end BB
end
section
/-! the walks (printed by gen.py) -/
namespace BB
open PySem PySem.Spec PyProof.Rows L2 DL
section
variable {P : Program} {w : World} {K : PySem.W.Frag} {mg : Str → Option Value} {base : Heap}
theorem sc__law_bits : FnScope ["_law_wires_here", "_law_known", "_law_bits_here", "_law_left", "_law_ready", "_law_v", "_law_x", "_law_mask", "_law_k"] ["_law_wires_here", "_law_known"] (defScope s__law_bits) := ⟨rfl, rfl, rfl, by decide +kernel, rfl, by decide +kernel, by decide +kernel⟩
theorem w__law_bits {c__law_places c__law_bits : CT} {dvs : List V} {kws : List (Str × V)} {f : Addr} {fd : FuncData} (T : TX K mg) (G__law_places : FnK P w K mg base 1 "_law_places" ["_law_wires_here", "_law_kind"] c__law_places) (F : FunD K "_law_bits" "_law_bits" (defArgs s__law_bits) (defBody s__law_bits) (defScope s__law_bits) dvs kws f fd) (len : ∀ ds M Q, c__law_bits ds M Q → ds.length = 2) (keeps : Keeps 9 (b__law_bits c__law_places) c__law_bits) : FnOk P w K mg base CX0 2 f fd ["_law_wires_here", "_law_known"] (spD K c__law_bits) :=
  fn_ok F sc__law_bits len keeps fun cdv A outer s H E hr => ⟨_, ((jb_cons (js_set (i := 2) sc__law_bits.nd rfl (by first | exact Or.inl rfl | exact Or.inr rfl) (je_listOfM (by rfl) T.list (ja_cons (je_var 1) ja_nil)))
    (jb_cons (js_set (i := 3) sc__law_bits.nd rfl (by first | exact Or.inl rfl | exact Or.inr rfl) (jk_call G__law_places (hr.mono (by decide)) (by rfl) (ja_cons (je_var 0) (ja_cons je_str ja_nil))))
    (jb_cons (js_set (i := 4) sc__law_bits.nd rfl (by first | exact Or.inl rfl | exact Or.inr rfl) (je_listOf (by rfl) T.list (ja_cons (je_var 3) ja_nil)))
    (jb_cons (js_while PassesOwn.never (jt_neD (huR hr) (je_var 4) (je_lst ja_nil)) (jb_cons (js_set (i := 4) sc__law_bits.nd rfl (by first | exact Or.inl rfl | exact Or.inr rfl) (je_lc (own := [("_law_v", 5)]) rfl sc__law_bits.nd (ji_seq (je_var 3)) (blkOk_by (by kernel_rfl)) (fun _ _ _ _ _ => (jc_name (i := 5) sc__law_bits.nd rfl (by first | exact Or.inl rfl | exact Or.inr rfl))) (fun _ _ _ _ _ => (jts_one (jt_not (jt_val (je_any rfl (by rfl) T.any (ja_cons (je_lc (own := [("_law_x", 6)]) rfl sc__law_bits.nd (ji_seq (je_slT (je_ix (je_var 0) (je_var 5)) (jo_some je_int) jo_none)) (blkOk_by (by kernel_rfl)) (fun _ _ _ _ _ => (jc_name (i := 6) sc__law_bits.nd rfl (by first | exact Or.inl rfl | exact Or.inr rfl))) (fun _ _ _ _ _ => jts_nil) (fun _ _ _ _ _ => (je_in (je_var 6) (je_var 3)))) ja_nil)))))) (fun _ _ _ _ _ => (je_var 5))))
    (jb_cons (js_for PassesOwn.never rfl (ji_seq (je_var 4)) (jg_name (i := 5) sc__law_bits.nd rfl (by first | exact Or.inl rfl | exact Or.inr rfl)) (jb_one (js_asg (je_and (je_sum rfl (by rfl) T.sum (ja_cons (je_lc (own := [("_law_x", 6)]) rfl sc__law_bits.nd (ji_seq (je_slT (je_ix (je_var 0) (je_var 5)) (jo_some je_int) jo_none)) (blkOk_by (by kernel_rfl)) (fun _ _ _ _ _ => (jc_name (i := 6) sc__law_bits.nd rfl (by first | exact Or.inl rfl | exact Or.inr rfl))) (fun _ _ _ _ _ => jts_nil) (fun _ _ _ _ _ => (je_ix (je_var 2) (je_var 6)))) ja_nil)) je_int) (jg_sub (je_var 2) (je_var 5)))))
    (jb_one (js_set (i := 3) sc__law_bits.nd rfl (by first | exact Or.inl rfl | exact Or.inr rfl) (je_lc (own := [("_law_v", 5)]) rfl sc__law_bits.nd (ji_seq (je_var 3)) (blkOk_by (by kernel_rfl)) (fun _ _ _ _ _ => (jc_name (i := 5) sc__law_bits.nd rfl (by first | exact Or.inl rfl | exact Or.inr rfl))) (fun _ _ _ _ _ => (jts_one (jt_notIn (je_var 5) (je_var 4)))) (fun _ _ _ _ _ => (je_var 5))))))))
    (jb_cons (js_for PassesOwn.never rfl (ji_range (by rfl) T.range (je_shl je_int (je_len (by rfl) T.len (ja_cons (je_var 3) ja_nil)))) (jg_name (i := 7) sc__law_bits.nd rfl (by first | exact Or.inl rfl | exact Or.inr rfl)) (jb_cons (js_for PassesOwn.never rfl (ji_range (by rfl) T.range (je_len (by rfl) T.len (ja_cons (je_var 3) ja_nil))) (jg_name (i := 8) sc__law_bits.nd rfl (by first | exact Or.inl rfl | exact Or.inr rfl)) (jb_one (js_asg (je_and (je_shr (je_var 7) (je_var 8)) je_int) (jg_sub (je_var 2) (je_ix (je_var 3) (je_var 8))))))
    (jb_one (js_if (jt_val (je_all rfl (by rfl) T.all (ja_cons (je_lc (own := [("_law_v", 5)]) rfl sc__law_bits.nd (ji_seq (je_var 3)) (blkOk_by (by kernel_rfl)) (fun _ _ _ _ _ => (jc_name (i := 5) sc__law_bits.nd rfl (by first | exact Or.inl rfl | exact Or.inr rfl))) (fun _ _ _ _ _ => jts_nil) (fun _ _ _ _ _ => (je_eq (je_and (je_sum rfl (by rfl) T.sum (ja_cons (je_lc (own := [("_law_x", 6)]) rfl sc__law_bits.nd (ji_seq (je_slT (je_ix (je_var 0) (je_var 5)) (jo_some je_int) jo_none)) (blkOk_by (by kernel_rfl)) (fun _ _ _ _ _ => (jc_name (i := 6) sc__law_bits.nd rfl (by first | exact Or.inl rfl | exact Or.inr rfl))) (fun _ _ _ _ _ => jts_nil) (fun _ _ _ _ _ => (je_ix (je_var 2) (je_var 6)))) ja_nil)) je_int) (je_ix (je_var 2) (je_var 5))))) ja_nil))) (jb_one (js_ret (je_frz (je_var 2)))) jb_nil))))
    (jb_one (js_ret (je_frz (je_var 2))))))))) : JB K (cxOf CX0 P w K mg base ["_law_wires_here", "_law_known", "_law_bits_here", "_law_left", "_law_ready", "_law_v", "_law_x", "_law_mask", "_law_k"] "_law_bits" (defScope s__law_bits) f cdv A outer s H E).nox (defBody s__law_bits) _ (b__law_bits c__law_places))⟩
end
end BB
end
section
/-! the walks (printed by gen.py) -/
namespace BB
open PySem PySem.Spec PyProof.Rows L2 DL
section
variable {P : Program} {w : World} {K : PySem.W.Frag} {mg : Str → Option Value} {base : Heap}
theorem sc__law_units : FnScope ["_law_wires_here", "_law_outs", "_law_kind", "_law_inner", "_law_outer", "_law_at", "_law_known", "_law_bits_here", "_law_x"] ["_law_wires_here", "_law_outs", "_law_kind"] (defScope s__law_units) := ⟨rfl, rfl, rfl, by decide +kernel, rfl, by decide +kernel, by decide +kernel⟩
theorem w__law_units {c__law_places c__law_bits c__law_units : CT} {dvs : List V} {kws : List (Str × V)} {f : Addr} {fd : FuncData} (T : TX K mg) (G__law_places : FnK P w K mg base 1 "_law_places" ["_law_wires_here", "_law_kind"] c__law_places) (G__law_bits : FnK P w K mg base 2 "_law_bits" ["_law_wires_here", "_law_known"] c__law_bits) (F : FunD K "_law_units" "_law_units" (defArgs s__law_units) (defBody s__law_units) (defScope s__law_units) dvs kws f fd) (len : ∀ ds M Q, c__law_units ds M Q → ds.length = 3) (keeps : Keeps 9 (b__law_units c__law_places c__law_bits) c__law_units) : FnOk P w K mg base CX0 3 f fd ["_law_wires_here", "_law_outs", "_law_kind"] (spD K c__law_units) :=
  fn_ok F sc__law_units len keeps fun cdv A outer s H E hr => ⟨_, ((jb_cons (js_set (i := 3) sc__law_units.nd rfl (by first | exact Or.inl rfl | exact Or.inr rfl) (je_lstM ja_nil))
    (jb_cons (js_set (i := 4) sc__law_units.nd rfl (by first | exact Or.inl rfl | exact Or.inr rfl) (je_lstM ja_nil))
    (jb_cons (js_for PassesOwn.never rfl (ji_seq (jk_call G__law_places (hr.mono (by decide)) (by rfl) (ja_cons (je_var 0) (ja_cons (je_var 2) ja_nil)))) (jg_name (i := 5) sc__law_units.nd rfl (by first | exact Or.inl rfl | exact Or.inr rfl)) (jb_cons (js_set (i := 6) sc__law_units.nd rfl (by first | exact Or.inl rfl | exact Or.inr rfl) (je_repM (je_lst (ja_cons je_int ja_nil)) (je_len (by rfl) T.len (ja_cons (je_var 0) ja_nil))))
    (jb_cons (js_asg je_int (jg_sub (je_var 6) (je_var 5)))
    (jb_cons (js_set (i := 7) sc__law_units.nd rfl (by first | exact Or.inl rfl | exact Or.inr rfl) (jk_call G__law_bits (hr.mono (by decide)) (by rfl) (ja_cons (je_var 0) (ja_cons (je_var 6) ja_nil))))
    (jb_cons (js_expr (jk_app (je_var 3) (ja_cons (je_lc (own := [("_law_x", 8)]) rfl sc__law_units.nd (ji_seq (jk_call G__law_places (hr.mono (by decide)) (by rfl) (ja_cons (je_var 0) (ja_cons je_str ja_nil)))) (blkOk_by (by kernel_rfl)) (fun _ _ _ _ _ => (jc_name (i := 8) sc__law_units.nd rfl (by first | exact Or.inl rfl | exact Or.inr rfl))) (fun _ _ _ _ _ => jts_nil) (fun _ _ _ _ _ => (je_ix (je_var 7) (je_ix (je_ix (je_var 0) (je_var 8)) je_int)))) ja_nil)))
    (jb_one (js_expr (jk_app (je_var 4) (ja_cons (je_lc (own := [("_law_x", 8)]) rfl sc__law_units.nd (ji_seq (je_var 1)) (blkOk_by (by kernel_rfl)) (fun _ _ _ _ _ => (jc_name (i := 8) sc__law_units.nd rfl (by first | exact Or.inl rfl | exact Or.inr rfl))) (fun _ _ _ _ _ => jts_nil) (fun _ _ _ _ _ => (je_ix (je_var 7) (je_var 8)))) ja_nil)))))))))
    (jb_one (js_ret (je_tup (ja_cons (je_frz (je_var 3)) (ja_cons (je_frz (je_var 4)) ja_nil)))))))) : JB K (cxOf CX0 P w K mg base ["_law_wires_here", "_law_outs", "_law_kind", "_law_inner", "_law_outer", "_law_at", "_law_known", "_law_bits_here", "_law_x"] "_law_units" (defScope s__law_units) f cdv A outer s H E).nox (defBody s__law_units) _ (b__law_units c__law_places c__law_bits))⟩
end
end BB
end
section
/-! the walks (printed by gen.py) -/
namespace BB
open PySem PySem.Spec PyProof.Rows L2 DL
section
variable {P : Program} {w : World} {K : PySem.W.Frag} {mg : Str → Option Value} {base : Heap}
theorem sc__law_tables : FnScope ["_law_wires_here", "_law_outs", "_law_a", "_law_c", "_law_b", "_law_d"] ["_law_wires_here", "_law_outs"] (defScope s__law_tables) := ⟨rfl, rfl, rfl, by decide +kernel, rfl, by decide +kernel, by decide +kernel⟩
theorem w__law_tables {c__law_units c__law_tables : CT} {dvs : List V} {kws : List (Str × V)} {f : Addr} {fd : FuncData} (T : TX K mg) (G__law_units : FnK P w K mg base 3 "_law_units" ["_law_wires_here", "_law_outs", "_law_kind"] c__law_units) (F : FunD K "_law_tables" "_law_tables" (defArgs s__law_tables) (defBody s__law_tables) (defScope s__law_tables) dvs kws f fd) (len : ∀ ds M Q, c__law_tables ds M Q → ds.length = 2) (keeps : Keeps 6 (b__law_tables c__law_units) c__law_tables) : FnOk P w K mg base CX0 4 f fd ["_law_wires_here", "_law_outs"] (spD K c__law_tables) :=
  fn_ok F sc__law_tables len keeps fun cdv A outer s H E hr => ⟨_, ((jb_cons (js_asg (jk_call G__law_units (hr.mono (by decide)) (by rfl) (ja_cons (je_var 0) (ja_cons (je_var 1) (ja_cons je_str ja_nil)))) (jg_tup rfl (nms_cons (pg_name (i := 2) sc__law_tables.nd rfl (by first | exact Or.inl rfl | exact Or.inr rfl)) (nms_cons (pg_name (i := 3) sc__law_tables.nd rfl (by first | exact Or.inl rfl | exact Or.inr rfl)) .nil))))
    (jb_cons (js_asg (jk_call G__law_units (hr.mono (by decide)) (by rfl) (ja_cons (je_var 0) (ja_cons (je_var 1) (ja_cons je_str ja_nil)))) (jg_tup rfl (nms_cons (pg_name (i := 4) sc__law_tables.nd rfl (by first | exact Or.inl rfl | exact Or.inr rfl)) (nms_cons (pg_name (i := 5) sc__law_tables.nd rfl (by first | exact Or.inl rfl | exact Or.inr rfl)) .nil))))
    (jb_one (js_ret (je_lst (ja_cons (je_var 2) (ja_cons (je_var 4) (ja_cons (je_var 3) (ja_cons (je_var 5) (ja_cons (je_len (by rfl) T.len (ja_cons (je_var 1) ja_nil)) ja_nil)))))))))) : JB K (cxOf CX0 P w K mg base ["_law_wires_here", "_law_outs", "_law_a", "_law_c", "_law_b", "_law_d"] "_law_tables" (defScope s__law_tables) f cdv A outer s H E).nox (defBody s__law_tables) _ (b__law_tables c__law_units))⟩
end
end BB
end
section
/-! the walks (printed by gen.py) -/
namespace BB
open PySem PySem.Spec PyProof.Rows L2 DL
section
variable {P : Program} {w : World} {K : PySem.W.Frag} {mg : Str → Option Value} {base : Heap}
theorem sc__law_first : FnScope ["_law_wires_here", "_law_at"] ["_law_wires_here"] (defScope s__law_first) := ⟨rfl, rfl, rfl, by decide +kernel, rfl, by decide +kernel, by decide +kernel⟩
theorem w__law_first {c__law_places c__law_first : CT} {dvs : List V} {kws : List (Str × V)} {f : Addr} {fd : FuncData} (T : TX K mg) (G__law_places : FnK P w K mg base 1 "_law_places" ["_law_wires_here", "_law_kind"] c__law_places) (F : FunD K "_law_first" "_law_first" (defArgs s__law_first) (defBody s__law_first) (defScope s__law_first) dvs kws f fd) (len : ∀ ds M Q, c__law_first ds M Q → ds.length = 1) (keeps : Keeps 2 (b__law_first c__law_places) c__law_first) : FnOk P w K mg base CX0 2 f fd ["_law_wires_here"] (spD K c__law_first) :=
  fn_ok F sc__law_first len keeps fun cdv A outer s H E hr => ⟨_, ((jb_one (js_ret (je_lcM (own := [("_law_at", 1)]) rfl sc__law_first.nd (ji_seq (jk_call G__law_places (hr.mono (by decide)) (by rfl) (ja_cons (je_var 0) (ja_cons je_str ja_nil)))) (blkOk_by (by kernel_rfl)) (fun _ _ _ _ _ => (jc_name (i := 1) sc__law_first.nd rfl (by first | exact Or.inl rfl | exact Or.inr rfl))) (fun _ _ _ _ _ => jts_nil) (fun _ _ _ _ _ => (je_ix (je_ix (je_var 0) (je_var 1)) je_int))))) : JB K (cxOf CX0 P w K mg base ["_law_wires_here", "_law_at"] "_law_first" (defScope s__law_first) f cdv A outer s H E).nox (defBody s__law_first) _ (b__law_first c__law_places))⟩
end
end BB
end
section
/-! the walks (printed by gen.py) -/
namespace BB
open PySem PySem.Spec PyProof.Rows L2 DL
section
variable {P : Program} {w : World} {K : PySem.W.Frag} {mg : Str → Option Value} {base : Heap}
theorem sc__law_added : FnScope ["_law_rows", "_law_size", "_law_row", "_law_j"] ["_law_rows", "_law_size"] (defScope s__law_added) := ⟨rfl, rfl, rfl, by decide +kernel, rfl, by decide +kernel, by decide +kernel⟩
theorem w__law_added {c__law_added : CT} {dvs : List V} {kws : List (Str × V)} {f : Addr} {fd : FuncData} (T : TX K mg) (F : FunD K "_law_added" "_law_added" (defArgs s__law_added) (defBody s__law_added) (defScope s__law_added) dvs kws f fd) (len : ∀ ds M Q, c__law_added ds M Q → ds.length = 2) (keeps : Keeps 4 (b__law_added) c__law_added) : FnOk P w K mg base CX0 1 f fd ["_law_rows", "_law_size"] (spD K c__law_added) :=
  fn_ok F sc__law_added len keeps fun cdv A outer s H E hr => ⟨_, ((jb_one (js_ret (je_lcM (own := [("_law_j", 3)]) rfl sc__law_added.nd (ji_range (by rfl) T.range (je_var 1)) (blkOk_by (by kernel_rfl)) (fun _ _ _ _ _ => (jc_name (i := 3) sc__law_added.nd rfl (by first | exact Or.inl rfl | exact Or.inr rfl))) (fun _ _ _ _ _ => jts_nil) (fun _ _ _ _ _ => (je_and (je_sum rfl (by rfl) T.sum (ja_cons (je_lc (own := [("_law_row", 2)]) rfl sc__law_added.nd (ji_seq (je_var 0)) (blkOk_by (by kernel_rfl)) (fun _ _ _ _ _ => (jc_name (i := 2) sc__law_added.nd rfl (by first | exact Or.inl rfl | exact Or.inr rfl))) (fun _ _ _ _ _ => jts_nil) (fun _ _ _ _ _ => (je_ix (je_var 2) (je_var 3)))) ja_nil)) je_int))))) : JB K (cxOf CX0 P w K mg base ["_law_rows", "_law_size", "_law_row", "_law_j"] "_law_added" (defScope s__law_added) f cdv A outer s H E).nox (defBody s__law_added) _ (b__law_added))⟩
end
end BB
end
section
/-! the walks (printed by gen.py) -/
namespace BB
open PySem PySem.Spec PyProof.Rows L2 DL
section
variable {P : Program} {w : World} {K : PySem.W.Frag} {mg : Str → Option Value} {base : Heap}
theorem sc__law_step : FnScope ["_law_tables_here", "_law_here", "_law_bits_here", "_law_a", "_law_b", "_law_c", "_law_d", "_law_many", "_law_cells", "_law_q", "_law_puts", "_law_i", "_law_outs"] ["_law_tables_here", "_law_here", "_law_bits_here"] (defScope s__law_step) := ⟨rfl, rfl, rfl, by decide +kernel, rfl, by decide +kernel, by decide +kernel⟩
theorem w__law_step {c__law_added c__law_step : CT} {dvs : List V} {kws : List (Str × V)} {f : Addr} {fd : FuncData} (T : TX K mg) (G__law_added : FnK P w K mg base 1 "_law_added" ["_law_rows", "_law_size"] c__law_added) (F : FunD K "_law_step" "_law_step" (defArgs s__law_step) (defBody s__law_step) (defScope s__law_step) dvs kws f fd) (len : ∀ ds M Q, c__law_step ds M Q → ds.length = 3) (keeps : Keeps 13 (b__law_step c__law_added) c__law_step) : FnOk P w K mg base CX0 2 f fd ["_law_tables_here", "_law_here", "_law_bits_here"] (spD K c__law_step) :=
  fn_ok F sc__law_step len keeps fun cdv A outer s H E hr => ⟨_, ((jb_cons (js_asg (je_var 0) (jg_unl rfl (nms_cons (pg_name (i := 3) sc__law_step.nd rfl (by first | exact Or.inl rfl | exact Or.inr rfl)) (nms_cons (pg_name (i := 4) sc__law_step.nd rfl (by first | exact Or.inl rfl | exact Or.inr rfl)) (nms_cons (pg_name (i := 5) sc__law_step.nd rfl (by first | exact Or.inl rfl | exact Or.inr rfl)) (nms_cons (pg_name (i := 6) sc__law_step.nd rfl (by first | exact Or.inl rfl | exact Or.inr rfl)) (nms_cons (pg_name (i := 7) sc__law_step.nd rfl (by first | exact Or.inl rfl | exact Or.inr rfl)) .nil)))))))
    (jb_cons (js_setLc (i := 8) (own := [("_law_q", 9)]) rfl sc__law_step.nd rfl rfl (sw_true rfl rfl rfl (by kernel_rfl)) (ji_range (by rfl) T.range (je_len (by rfl) T.len (ja_cons (je_var 3) ja_nil))) (blkOk_by (by kernel_rfl)) (fun _ _ _ _ _ => (jc_name (i := 9) sc__law_step.nd rfl (by first | exact Or.inl rfl | exact Or.inr rfl))) (fun _ _ _ _ _ => (jts_one (jt_eq (je_ix (je_var 1) (je_var 9)) je_int))) (fun _ _ _ _ _ => (je_var 9)))
    (jb_cons (js_setLc (i := 10) (own := [("_law_i", 11)]) rfl sc__law_step.nd rfl rfl (sw_true rfl rfl rfl (by kernel_rfl)) (ji_range (by rfl) T.range (je_len (by rfl) T.len (ja_cons (je_var 4) ja_nil))) (blkOk_by (by kernel_rfl)) (fun _ _ _ _ _ => (jc_name (i := 11) sc__law_step.nd rfl (by first | exact Or.inl rfl | exact Or.inr rfl))) (fun _ _ _ _ _ => (jts_one (jt_eq (je_ix (je_var 2) (je_var 11)) je_int))) (fun _ _ _ _ _ => (je_var 11)))
    (jb_cons (js_set (i := 12) sc__law_step.nd rfl (by first | exact Or.inl rfl | exact Or.inr rfl) (je_frz (jk_call G__law_added (hr.mono (by decide)) (by rfl) (ja_cons (je_cat (je_lc (own := [("_law_q", 9)]) rfl sc__law_step.nd (ji_seq (je_var 8)) (blkOk_by (by kernel_rfl)) (fun _ _ _ _ _ => (jc_name (i := 9) sc__law_step.nd rfl (by first | exact Or.inl rfl | exact Or.inr rfl))) (fun _ _ _ _ _ => jts_nil) (fun _ _ _ _ _ => (je_ix (je_var 5) (je_var 9)))) (je_lc (own := [("_law_i", 11)]) rfl sc__law_step.nd (ji_seq (je_var 10)) (blkOk_by (by kernel_rfl)) (fun _ _ _ _ _ => (jc_name (i := 11) sc__law_step.nd rfl (by first | exact Or.inl rfl | exact Or.inr rfl))) (fun _ _ _ _ _ => jts_nil) (fun _ _ _ _ _ => (je_ix (je_var 6) (je_var 11))))) (ja_cons (je_var 7) ja_nil)))))
    (jb_one (js_ret (je_tup (ja_cons (je_var 12) (ja_cons (je_frz (jk_call G__law_added (hr.mono (by decide)) (by rfl) (ja_cons (je_cat (je_lc (own := [("_law_q", 9)]) rfl sc__law_step.nd (ji_seq (je_var 8)) (blkOk_by (by kernel_rfl)) (fun _ _ _ _ _ => (jc_name (i := 9) sc__law_step.nd rfl (by first | exact Or.inl rfl | exact Or.inr rfl))) (fun _ _ _ _ _ => jts_nil) (fun _ _ _ _ _ => (je_ix (je_var 3) (je_var 9)))) (je_lc (own := [("_law_i", 11)]) rfl sc__law_step.nd (ji_seq (je_var 10)) (blkOk_by (by kernel_rfl)) (fun _ _ _ _ _ => (jc_name (i := 11) sc__law_step.nd rfl (by first | exact Or.inl rfl | exact Or.inr rfl))) (fun _ _ _ _ _ => jts_nil) (fun _ _ _ _ _ => (je_ix (je_var 4) (je_var 11))))) (ja_cons (je_len (by rfl) T.len (ja_cons (je_var 3) ja_nil)) ja_nil)))) ja_nil))))))))) : JB K (cxOf CX0 P w K mg base ["_law_tables_here", "_law_here", "_law_bits_here", "_law_a", "_law_b", "_law_c", "_law_d", "_law_many", "_law_cells", "_law_q", "_law_puts", "_law_i", "_law_outs"] "_law_step" (defScope s__law_step) f cdv A outer s H E).nox (defBody s__law_step) _ (b__law_step c__law_added))⟩
end
end BB
end
section
/-! the walks (printed by gen.py) -/
namespace BB
open PySem PySem.Spec PyProof.Rows L2 DL
section
variable {P : Program} {w : World} {K : PySem.W.Frag} {mg : Str → Option Value} {base : Heap}
theorem sc__law_run : FnScope ["_law_tables_here", "_law_here", "_law_rows", "_law_found", "_law_bits_here", "_law_outs"] ["_law_tables_here", "_law_here", "_law_rows"] (defScope s__law_run) := ⟨rfl, rfl, rfl, by decide +kernel, rfl, by decide +kernel, by decide +kernel⟩
theorem w__law_run {c__law_step c__law_run : CT} {dvs : List V} {kws : List (Str × V)} {f : Addr} {fd : FuncData} (T : TX K mg) (G__law_step : FnK P w K mg base 2 "_law_step" ["_law_tables_here", "_law_here", "_law_bits_here"] c__law_step) (F : FunD K "_law_run" "_law_run" (defArgs s__law_run) (defBody s__law_run) (defScope s__law_run) dvs kws f fd) (len : ∀ ds M Q, c__law_run ds M Q → ds.length = 3) (keeps : Keeps 6 (b__law_run c__law_step) c__law_run) : FnOk P w K mg base CX0 3 f fd ["_law_tables_here", "_law_here", "_law_rows"] (spD K c__law_run) :=
  fn_ok F sc__law_run len keeps fun cdv A outer s H E hr => ⟨_, ((jb_cons (js_set (i := 3) sc__law_run.nd rfl (by first | exact Or.inl rfl | exact Or.inr rfl) (je_lstM ja_nil))
    (jb_cons (js_for PassesOwn.never rfl (ji_seq (je_var 2)) (jg_name (i := 4) sc__law_run.nd rfl (by first | exact Or.inl rfl | exact Or.inr rfl)) (jb_cons (js_asg (jk_call G__law_step (hr.mono (by decide)) (by rfl) (ja_cons (je_var 0) (ja_cons (je_var 1) (ja_cons (je_var 4) ja_nil)))) (jg_tup rfl (nms_cons (pg_name (i := 5) sc__law_run.nd rfl (by first | exact Or.inl rfl | exact Or.inr rfl)) (nms_cons (pg_name (i := 1) sc__law_run.nd rfl (by first | exact Or.inl rfl | exact Or.inr rfl)) .nil))))
    (jb_one (js_expr (jk_app (je_var 3) (ja_cons (je_var 5) ja_nil))))))
    (jb_one (js_ret (je_tup (ja_cons (je_frz (je_var 3)) (ja_cons (je_var 1) ja_nil))))))) : JB K (cxOf CX0 P w K mg base ["_law_tables_here", "_law_here", "_law_rows", "_law_found", "_law_bits_here", "_law_outs"] "_law_run" (defScope s__law_run) f cdv A outer s H E).nox (defBody s__law_run) _ (b__law_run c__law_step))⟩
end
end BB
end
section
/-! the walks (printed by gen.py) -/
namespace BB
open PySem PySem.Spec PyProof.Rows L2 DL
section
variable {P : Program} {w : World} {K : PySem.W.Frag} {mg : Str → Option Value} {base : Heap}
theorem sc__law_bare : FnScope ["_law_tables_here", "_law_here", "_law_beats"] ["_law_tables_here", "_law_here", "_law_beats"] (defScope s__law_bare) := ⟨rfl, rfl, rfl, by decide +kernel, rfl, by decide +kernel, by decide +kernel⟩
theorem w__law_bare {c__law_run c__law_bare : CT} {dvs : List V} {kws : List (Str × V)} {f : Addr} {fd : FuncData} (T : TX K mg) (G__law_run : FnK P w K mg base 3 "_law_run" ["_law_tables_here", "_law_here", "_law_rows"] c__law_run) (F : FunD K "_law_bare" "_law_bare" (defArgs s__law_bare) (defBody s__law_bare) (defScope s__law_bare) dvs kws f fd) (len : ∀ ds M Q, c__law_bare ds M Q → ds.length = 3) (keeps : Keeps 3 (b__law_bare c__law_run) c__law_bare) : FnOk P w K mg base CX0 4 f fd ["_law_tables_here", "_law_here", "_law_beats"] (spD K c__law_bare) :=
  fn_ok F sc__law_bare len keeps fun cdv A outer s H E hr => ⟨_, ((jb_one (js_ret (je_ix (jk_call G__law_run (hr.mono (by decide)) (by rfl) (ja_cons (je_var 0) (ja_cons (je_var 1) (ja_cons (je_rep (je_lst (ja_cons (je_rep (je_lst (ja_cons je_int ja_nil)) (je_len (by rfl) T.len (ja_cons (je_ix (je_var 0) je_int) ja_nil))) ja_nil)) (je_var 2)) ja_nil)))) je_int))) : JB K (cxOf CX0 P w K mg base ["_law_tables_here", "_law_here", "_law_beats"] "_law_bare" (defScope s__law_bare) f cdv A outer s H E).nox (defBody s__law_bare) _ (b__law_bare c__law_run))⟩
end
end BB
end
section
/-! the walks (printed by gen.py) -/
namespace BB
open PySem PySem.Spec PyProof.Rows L2 DL
section
variable {P : Program} {w : World} {K : PySem.W.Frag} {mg : Str → Option Value} {base : Heap}
theorem sc__law_turned : FnScope ["_law_pen", "_law_parts", "_law_a", "_law_b", "_law_c", "_law_first_here", "_law_turn", "_law_p", "_law_q", "_law_row"] ["_law_pen", "_law_parts"] (defScope s__law_turned) := ⟨rfl, rfl, rfl, by decide +kernel, rfl, by decide +kernel, by decide +kernel⟩
theorem w__law_turned {c__law_draw c__law_added c__law_turned : CT} {dvs : List V} {kws : List (Str × V)} {f : Addr} {fd : FuncData} (T : TX K mg) (G__law_draw : FnK P w K mg base 1 "_law_draw" ["_law_pen", "_law_many"] c__law_draw) (G__law_added : FnK P w K mg base 1 "_law_added" ["_law_rows", "_law_size"] c__law_added) (F : FunD K "_law_turned" "_law_turned" (defArgs s__law_turned) (defBody s__law_turned) (defScope s__law_turned) dvs kws f fd) (len : ∀ ds M Q, c__law_turned ds M Q → ds.length = 2) (keeps : Keeps 10 (b__law_turned c__law_draw c__law_added) c__law_turned) : FnOk P w K mg base CX0 2 f fd ["_law_pen", "_law_parts"] (spD K c__law_turned) :=
  fn_ok F sc__law_turned len keeps fun cdv A outer s H E hr => ⟨_, ((jb_cons (js_asg (je_var 1) (jg_unl rfl (nms_cons (pg_name (i := 2) sc__law_turned.nd rfl (by first | exact Or.inl rfl | exact Or.inr rfl)) (nms_cons (pg_name (i := 3) sc__law_turned.nd rfl (by first | exact Or.inl rfl | exact Or.inr rfl)) (nms_cons (pg_name (i := 4) sc__law_turned.nd rfl (by first | exact Or.inl rfl | exact Or.inr rfl)) (nms_cons (pg_name (i := 5) sc__law_turned.nd rfl (by first | exact Or.inl rfl | exact Or.inr rfl)) .nil))))))
    (jb_one (js_for PassesOwn.never rfl (ji_range (by rfl) T.range (jk_call G__law_draw (hr.mono (by decide)) (by rfl) (ja_cons (je_var 0) (ja_cons je_int ja_nil)))) (jg_name (i := 6) sc__law_turned.nd rfl (by first | exact Or.inl rfl | exact Or.inr rfl)) (jb_cons (js_set (i := 7) sc__law_turned.nd rfl (by first | exact Or.inl rfl | exact Or.inr rfl) (jk_call G__law_draw (hr.mono (by decide)) (by rfl) (ja_cons (je_var 0) (ja_cons (je_add (je_len (by rfl) T.len (ja_cons (je_var 2) ja_nil)) je_int) ja_nil))))
    (jb_cons (js_set (i := 8) sc__law_turned.nd rfl (by first | exact Or.inl rfl | exact Or.inr rfl) (jk_call G__law_draw (hr.mono (by decide)) (by rfl) (ja_cons (je_var 0) (ja_cons (je_add (je_len (by rfl) T.len (ja_cons (je_var 2) ja_nil)) je_int) ja_nil))))
    (jb_one (js_if (JW.jt (jw_and (jt_ne (je_var 7) (je_var 8)) (jw_and1 (jt_lt (je_max rfl (by rfl) T.max (ja_cons (je_var 7) (ja_cons (je_var 8) ja_nil))) (je_len (by rfl) T.len (ja_cons (je_var 2) ja_nil)))))) (jb_cons (js_for PassesOwn.never rfl (ji_seq (je_cat (je_cat (je_var 2) (je_var 3)) (je_lst (ja_cons (je_var 5) ja_nil)))) (jg_name (i := 9) sc__law_turned.nd rfl (by first | exact Or.inl rfl | exact Or.inr rfl)) (jb_one (js_asg (je_xor (je_ix (je_var 9) (je_var 8)) (je_ix (je_var 9) (je_var 7))) (jg_sub (je_var 9) (je_var 8)))))
    (jb_cons (js_asg (jk_call G__law_added (hr.mono (by decide)) (by rfl) (ja_cons (je_lst (ja_cons (je_ix (je_var 2) (je_var 7)) (ja_cons (je_ix (je_var 2) (je_var 8)) ja_nil))) (ja_cons (je_len (by rfl) T.len (ja_cons (je_var 2) ja_nil)) ja_nil))) (jg_sub (je_var 2) (je_var 7)))
    (jb_one (js_asg (jk_call G__law_added (hr.mono (by decide)) (by rfl) (ja_cons (je_lst (ja_cons (je_ix (je_var 4) (je_var 7)) (ja_cons (je_ix (je_var 4) (je_var 8)) ja_nil))) (ja_cons (je_len (by rfl) T.len (ja_cons (je_ix (je_var 4) (je_var 7)) ja_nil)) ja_nil))) (jg_sub (je_var 4) (je_var 7)))))) jb_nil))))))) : JB K (cxOf CX0 P w K mg base ["_law_pen", "_law_parts", "_law_a", "_law_b", "_law_c", "_law_first_here", "_law_turn", "_law_p", "_law_q", "_law_row"] "_law_turned" (defScope s__law_turned) f cdv A outer s H E).nox (defBody s__law_turned) _ (b__law_turned c__law_draw c__law_added))⟩
end
end BB
end
section
/-! the walks (printed by gen.py) -/
namespace BB
open PySem PySem.Spec PyProof.Rows L2 DL
section
variable {P : Program} {w : World} {K : PySem.W.Frag} {mg : Str → Option Value} {base : Heap}
theorem sc__law_wired : FnScope ["_law_tables_here", "_law_first_here", "_law_spare", "_law_a", "_law_b", "_law_c", "_law_d", "_law_many", "_law_size", "_law_start", "_law_wires_here", "_law_q", "_law_k", "_law_r", "_law_lists", "_law_i", "_law_j"] ["_law_tables_here", "_law_first_here", "_law_spare"] (defScope s__law_wired) := ⟨rfl, rfl, rfl, by decide +kernel, rfl, by decide +kernel, by decide +kernel⟩
theorem w__law_wired {c__law_wired : CT} {dvs : List V} {kws : List (Str × V)} {f : Addr} {fd : FuncData} (T : TX K mg) (F : FunD K "_law_wired" "_law_wired" (defArgs s__law_wired) (defBody s__law_wired) (defScope s__law_wired) dvs kws f fd) (len : ∀ ds M Q, c__law_wired ds M Q → ds.length = 3) (keeps : Keeps 17 (b__law_wired) c__law_wired) : FnOk P w K mg base CX0 1 f fd ["_law_tables_here", "_law_first_here", "_law_spare"] (spD K c__law_wired) :=
  fn_ok F sc__law_wired len keeps fun cdv A outer s H E hr => ⟨_, ((jb_cons (js_asg (je_var 0) (jg_unl rfl (nms_cons (pg_name (i := 3) sc__law_wired.nd rfl (by first | exact Or.inl rfl | exact Or.inr rfl)) (nms_cons (pg_name (i := 4) sc__law_wired.nd rfl (by first | exact Or.inl rfl | exact Or.inr rfl)) (nms_cons (pg_name (i := 5) sc__law_wired.nd rfl (by first | exact Or.inl rfl | exact Or.inr rfl)) (nms_cons (pg_name (i := 6) sc__law_wired.nd rfl (by first | exact Or.inl rfl | exact Or.inr rfl)) (nms_cons (pg_name (i := 7) sc__law_wired.nd rfl (by first | exact Or.inl rfl | exact Or.inr rfl)) .nil)))))))
    (jb_cons (js_set (i := 8) sc__law_wired.nd rfl (by first | exact Or.inl rfl | exact Or.inr rfl) (je_len (by rfl) T.len (ja_cons (je_var 3) ja_nil)))
    (jb_cons (js_set (i := 9) sc__law_wired.nd rfl (by first | exact Or.inl rfl | exact Or.inr rfl) (je_add (je_add (je_len (by rfl) T.len (ja_cons (je_var 4) ja_nil)) (je_var 8)) (je_var 2)))
    (jb_cons (js_set (i := 10) sc__law_wired.nd rfl (by first | exact Or.inl rfl | exact Or.inr rfl) (je_repM (je_lst (ja_cons (je_tup (ja_cons je_str ja_nil)) ja_nil)) (je_len (by rfl) T.len (ja_cons (je_var 4) ja_nil))))
    (jb_cons (js_for PassesOwn.never rfl (ji_range (by rfl) T.range (je_var 8)) (jg_name (i := 11) sc__law_wired.nd rfl (by first | exact Or.inl rfl | exact Or.inr rfl)) (jb_one (js_expr (jk_app (je_var 10) (ja_cons (je_tup (ja_cons je_str (ja_cons (je_add (je_var 9) (je_var 11)) (ja_cons (je_ix (je_var 1) (je_var 11)) ja_nil)))) ja_nil)))))
    (jb_cons (js_for PassesOwn.never rfl (ji_range (by rfl) T.range (je_var 2)) (jg_name (i := 12) sc__law_wired.nd rfl (by first | exact Or.inl rfl | exact Or.inr rfl)) (jb_one (js_expr (jk_app (je_var 10) (ja_cons (je_tup (ja_cons je_str (ja_cons (je_ix (je_lst (ja_cons je_int (ja_cons (je_sub (je_var 9) je_int) ja_nil))) (je_and (je_var 12) je_int)) (ja_cons (je_and (je_var 12) je_int) ja_nil)))) ja_nil)))))
    (jb_cons (js_for PassesOwn.never rfl (ji_range (by rfl) T.range (je_var 8)) (jg_name (i := 13) sc__law_wired.nd rfl (by first | exact Or.inl rfl | exact Or.inr rfl)) (jb_cons (js_setLc (i := 14) (own := [("_law_i", 15)]) rfl sc__law_wired.nd rfl rfl (sw_true rfl rfl rfl (by kernel_rfl)) (ji_range (by rfl) T.range (je_len (by rfl) T.len (ja_cons (je_var 4) ja_nil))) (blkOk_by (by kernel_rfl)) (fun _ _ _ _ _ => (jc_name (i := 15) sc__law_wired.nd rfl (by first | exact Or.inl rfl | exact Or.inr rfl))) (fun _ _ _ _ _ => (jts_one (jt_eq (je_ix (je_ix (je_var 4) (je_var 15)) (je_var 13)) je_int))) (fun _ _ _ _ _ => (je_var 15)))
    (jb_cons (js_set (i := 14) sc__law_wired.nd rfl (by first | exact Or.inl rfl | exact Or.inr rfl) (je_cat (je_var 14) (je_lc (own := [("_law_q", 11)]) rfl sc__law_wired.nd (ji_range (by rfl) T.range (je_var 8)) (blkOk_by (by kernel_rfl)) (fun _ _ _ _ _ => (jc_name (i := 11) sc__law_wired.nd rfl (by first | exact Or.inl rfl | exact Or.inr rfl))) (fun _ _ _ _ _ => (jts_one (jt_eq (je_ix (je_ix (je_var 3) (je_var 11)) (je_var 13)) je_int))) (fun _ _ _ _ _ => (je_add (je_len (by rfl) T.len (ja_cons (je_var 4) ja_nil)) (je_var 11))))))
    (jb_one (js_expr (jk_app (je_var 10) (ja_cons (je_tupOf (by rfl) T.tuple (ja_cons (je_cat (je_lst (ja_cons je_str ja_nil)) (je_var 14)) ja_nil)) ja_nil)))))))
    (jb_cons (js_for PassesOwn.never rfl (ji_range (by rfl) T.range (je_var 7)) (jg_name (i := 16) sc__law_wired.nd rfl (by first | exact Or.inl rfl | exact Or.inr rfl)) (jb_cons (js_setLc (i := 14) (own := [("_law_i", 15)]) rfl sc__law_wired.nd rfl rfl (sw_true rfl rfl rfl (by kernel_rfl)) (ji_range (by rfl) T.range (je_len (by rfl) T.len (ja_cons (je_var 4) ja_nil))) (blkOk_by (by kernel_rfl)) (fun _ _ _ _ _ => (jc_name (i := 15) sc__law_wired.nd rfl (by first | exact Or.inl rfl | exact Or.inr rfl))) (fun _ _ _ _ _ => (jts_one (jt_eq (je_ix (je_ix (je_var 6) (je_var 15)) (je_var 16)) je_int))) (fun _ _ _ _ _ => (je_var 15)))
    (jb_cons (js_set (i := 14) sc__law_wired.nd rfl (by first | exact Or.inl rfl | exact Or.inr rfl) (je_cat (je_var 14) (je_lc (own := [("_law_q", 11)]) rfl sc__law_wired.nd (ji_range (by rfl) T.range (je_var 8)) (blkOk_by (by kernel_rfl)) (fun _ _ _ _ _ => (jc_name (i := 11) sc__law_wired.nd rfl (by first | exact Or.inl rfl | exact Or.inr rfl))) (fun _ _ _ _ _ => (jts_one (jt_eq (je_ix (je_ix (je_var 5) (je_var 11)) (je_var 16)) je_int))) (fun _ _ _ _ _ => (je_add (je_len (by rfl) T.len (ja_cons (je_var 4) ja_nil)) (je_var 11))))))
    (jb_one (js_expr (jk_app (je_var 10) (ja_cons (je_tupOf (by rfl) T.tuple (ja_cons (je_cat (je_lst (ja_cons je_str ja_nil)) (je_var 14)) ja_nil)) ja_nil)))))))
    (jb_one (js_ret (je_tup (ja_cons (je_frz (je_var 10)) (ja_cons (jk_listRng2 rfl (by rfl) T.list (by rfl) T.range (je_add (je_var 9) (je_var 8)) (je_add (je_add (je_var 9) (je_var 8)) (je_var 7))) ja_nil))))))))))))) : JB K (cxOf CX0 P w K mg base ["_law_tables_here", "_law_first_here", "_law_spare", "_law_a", "_law_b", "_law_c", "_law_d", "_law_many", "_law_size", "_law_start", "_law_wires_here", "_law_q", "_law_k", "_law_r", "_law_lists", "_law_i", "_law_j"] "_law_wired" (defScope s__law_wired) f cdv A outer s H E).nox (defBody s__law_wired) _ (b__law_wired))⟩
end
end BB
end
section
/-! the walks (printed by gen.py) -/
namespace BB
open PySem PySem.Spec PyProof.Rows L2 DL
section
variable {P : Program} {w : World} {K : PySem.W.Frag} {mg : Str → Option Value} {base : Heap}
theorem sc__law_ghost : FnScope ["_law_pen", "_law_a", "_law_b", "_law_c", "_law_first_here", "_law_many", "_law_row", "_law_j"] ["_law_pen", "_law_a", "_law_b", "_law_c", "_law_first_here", "_law_many"] (defScope s__law_ghost) := ⟨rfl, rfl, rfl, by decide +kernel, rfl, by decide +kernel, by decide +kernel⟩
theorem w__law_ghost {c__law_draw c__law_ghost : CT} {dvs : List V} {kws : List (Str × V)} {f : Addr} {fd : FuncData} (T : TX K mg) (G__law_draw : FnK P w K mg base 1 "_law_draw" ["_law_pen", "_law_many"] c__law_draw) (F : FunD K "_law_ghost" "_law_ghost" (defArgs s__law_ghost) (defBody s__law_ghost) (defScope s__law_ghost) dvs kws f fd) (len : ∀ ds M Q, c__law_ghost ds M Q → ds.length = 6) (keeps : Keeps 8 (b__law_ghost c__law_draw) c__law_ghost) : FnOk P w K mg base CX0 2 f fd ["_law_pen", "_law_a", "_law_b", "_law_c", "_law_first_here", "_law_many"] (spD K c__law_ghost) :=
  fn_ok F sc__law_ghost len keeps fun cdv A outer s H E hr => ⟨_, ((jb_cons (js_for PassesOwn.never rfl (ji_seq (je_cat (je_var 1) (je_var 2))) (jg_name (i := 6) sc__law_ghost.nd rfl (by first | exact Or.inl rfl | exact Or.inr rfl)) (jb_one (js_expr (jk_app (je_var 6) (ja_cons je_int ja_nil)))))
    (jb_cons (js_expr (jk_app (je_var 1) (ja_cons (je_catM (je_rep (je_lst (ja_cons je_int ja_nil)) (je_len (by rfl) T.len (ja_cons (je_var 1) ja_nil))) (je_lst (ja_cons (jk_call G__law_draw (hr.mono (by decide)) (by rfl) (ja_cons (je_var 0) (ja_cons je_int ja_nil))) ja_nil))) ja_nil)))
    (jb_cons (js_expr (jk_app (je_var 3) (ja_cons (je_lcM (own := [("_law_j", 7)]) rfl sc__law_ghost.nd (ji_range (by rfl) T.range (je_var 5)) (blkOk_by (by kernel_rfl)) (fun _ _ _ _ _ => (jc_name (i := 7) sc__law_ghost.nd rfl (by first | exact Or.inl rfl | exact Or.inr rfl))) (fun _ _ _ _ _ => jts_nil) (fun _ _ _ _ _ => (jk_call G__law_draw (hr.mono (by decide)) (by rfl) (ja_cons (je_var 0) (ja_cons je_int ja_nil))))) ja_nil)))
    (jb_one (js_expr (jk_app (je_var 4) (ja_cons (jk_call G__law_draw (hr.mono (by decide)) (by rfl) (ja_cons (je_var 0) (ja_cons je_int ja_nil))) ja_nil))))))) : JB K (cxOf CX0 P w K mg base ["_law_pen", "_law_a", "_law_b", "_law_c", "_law_first_here", "_law_many", "_law_row", "_law_j"] "_law_ghost" (defScope s__law_ghost) f cdv A outer s H E).nox (defBody s__law_ghost) _ (b__law_ghost c__law_draw))⟩
end
end BB
end
section
/-! the walks (printed by gen.py) -/
namespace BB
open PySem PySem.Spec PyProof.Rows L2 DL
section
variable {P : Program} {w : World} {K : PySem.W.Frag} {mg : Str → Option Value} {base : Heap}
theorem sc__law_other : FnScope ["_law_pen", "_law_wires_here", "_law_outs", "_law_way", "_law_counts", "_law_tables_here", "_law_a", "_law_b", "_law_c", "_law_d", "_law_row", "_law_rows", "_law_first_here", "_law_spots", "_law_at"] ["_law_pen", "_law_wires_here", "_law_outs"] (defScope s__law_other) := ⟨rfl, rfl, rfl, by decide +kernel, rfl, by decide +kernel, by decide +kernel⟩
theorem w__law_other {c__law_wired c__law_draw c__law_turned c__law_ghost c__law_first c__law_tables c__law_net c__law_places c__law_other : CT} {dvs : List V} {kws : List (Str × V)} {f : Addr} {fd : FuncData} (T : TX K mg) (G__law_wired : FnK P w K mg base 1 "_law_wired" ["_law_tables_here", "_law_first_here", "_law_spare"] c__law_wired) (G__law_draw : FnK P w K mg base 1 "_law_draw" ["_law_pen", "_law_many"] c__law_draw) (G__law_turned : FnK P w K mg base 2 "_law_turned" ["_law_pen", "_law_parts"] c__law_turned) (G__law_ghost : FnK P w K mg base 2 "_law_ghost" ["_law_pen", "_law_a", "_law_b", "_law_c", "_law_first_here", "_law_many"] c__law_ghost) (G__law_first : FnK P w K mg base 2 "_law_first" ["_law_wires_here"] c__law_first) (G__law_tables : FnK P w K mg base 4 "_law_tables" ["_law_wires_here", "_law_outs"] c__law_tables) (G__law_net : FnK P w K mg base 4 "_law_net" ["_law_pen", "_law_counts", "_law_many"] c__law_net) (G__law_places : FnK P w K mg base 1 "_law_places" ["_law_wires_here", "_law_kind"] c__law_places) (F : FunD K "_law_other" "_law_other" (defArgs s__law_other) (defBody s__law_other) (defScope s__law_other) dvs kws f fd) (len : ∀ ds M Q, c__law_other ds M Q → ds.length = 3) (keeps : Keeps 15 (b__law_other c__law_wired c__law_draw c__law_turned c__law_ghost c__law_first c__law_tables c__law_net c__law_places) c__law_other) : FnOk P w K mg base CX0 5 f fd ["_law_pen", "_law_wires_here", "_law_outs"] (spD K c__law_other) :=
  fn_ok F sc__law_other len keeps fun cdv A outer s H E hr => ⟨_, ((jb_cons (js_set (i := 3) sc__law_other.nd rfl (by first | exact Or.inl rfl | exact Or.inr rfl) (jk_call G__law_draw (hr.mono (by decide)) (by rfl) (ja_cons (je_var 0) (ja_cons je_int ja_nil))))
    (jb_cons (js_set (i := 4) sc__law_other.nd rfl (by first | exact Or.inl rfl | exact Or.inr rfl) (je_lst (ja_cons (je_len (by rfl) T.len (ja_cons (jk_call G__law_places (hr.mono (by decide)) (by rfl) (ja_cons (je_var 1) (ja_cons je_str ja_nil))) ja_nil)) (ja_cons (jk_call G__law_draw (hr.mono (by decide)) (by rfl) (ja_cons (je_var 0) (ja_cons je_int ja_nil))) (ja_cons (je_add je_int (jk_call G__law_draw (hr.mono (by decide)) (by rfl) (ja_cons (je_var 0) (ja_cons je_int ja_nil)))) ja_nil)))))
    (jb_cons (js_if (jt_eq (je_var 3) je_int) (jb_one (js_ret (jk_call G__law_net (hr.mono (by decide)) (by rfl) (ja_cons (je_var 0) (ja_cons (je_var 4) (ja_cons (je_len (by rfl) T.len (ja_cons (je_var 2) ja_nil)) ja_nil)))))) jb_nil)
    (jb_cons (js_set (i := 5) sc__law_other.nd rfl (by first | exact Or.inl rfl | exact Or.inr rfl) (jk_call G__law_tables (hr.mono (by decide)) (by rfl) (ja_cons (je_var 1) (ja_cons (je_var 2) ja_nil))))
    (jb_cons (js_asg (je_lc (own := [("_law_rows", 11)]) rfl sc__law_other.nd (ji_seq (je_slL (je_var 5) jo_none (jo_some je_int))) (blkOk_by (by kernel_rfl)) (fun _ _ _ _ _ => (jc_name (i := 11) sc__law_other.nd rfl (by first | exact Or.inl rfl | exact Or.inr rfl))) (fun _ _ _ _ _ => jts_nil) (fun _ _ _ _ _ => (je_lcM (own := [("_law_row", 10)]) rfl sc__law_other.nd (ji_seq (je_var 11)) (blkOk_by (by kernel_rfl)) (fun _ _ _ _ _ => (jc_name (i := 10) sc__law_other.nd rfl (by first | exact Or.inl rfl | exact Or.inr rfl))) (fun _ _ _ _ _ => jts_nil) (fun _ _ _ _ _ => (je_listOfM (by rfl) T.list (ja_cons (je_var 10) ja_nil)))))) (jg_unl rfl (nms_cons (pg_name (i := 6) sc__law_other.nd rfl (by first | exact Or.inl rfl | exact Or.inr rfl)) (nms_cons (pg_name (i := 7) sc__law_other.nd rfl (by first | exact Or.inl rfl | exact Or.inr rfl)) (nms_cons (pg_name (i := 8) sc__law_other.nd rfl (by first | exact Or.inl rfl | exact Or.inr rfl)) (nms_cons (pg_name (i := 9) sc__law_other.nd rfl (by first | exact Or.inl rfl | exact Or.inr rfl)) .nil))))))
    (jb_cons (js_set (i := 12) sc__law_other.nd rfl (by first | exact Or.inl rfl | exact Or.inr rfl) (jk_call G__law_first (hr.mono (by decide)) (by rfl) (ja_cons (je_var 1) ja_nil)))
    (jb_cons (js_if (jt_gt (je_var 3) je_int) (jb_one (js_expr (jk_call G__law_ghost (hr.mono (by decide)) (by rfl) (ja_cons (je_var 0) (ja_cons (je_var 6) (ja_cons (je_var 7) (ja_cons (je_var 8) (ja_cons (je_var 12) (ja_cons (je_len (by rfl) T.len (ja_cons (je_var 2) ja_nil)) ja_nil))))))))) jb_nil)
    (jb_cons (js_expr (jk_call G__law_turned (hr.mono (by decide)) (by rfl) (ja_cons (je_var 0) (ja_cons (je_lst (ja_cons (je_var 6) (ja_cons (je_var 7) (ja_cons (je_var 8) (ja_cons (je_var 12) ja_nil))))) ja_nil))))
    (jb_cons (js_setLc (i := 13) (own := [("_law_row", 10)]) rfl sc__law_other.nd rfl rfl (sw_true rfl rfl rfl (by kernel_rfl)) (ji_seq (je_cat (je_cat (je_cat (je_cat (je_var 6) (je_var 7)) (je_var 8)) (je_var 9)) (je_lst (ja_cons (je_var 12) ja_nil)))) (blkOk_by (by kernel_rfl)) (fun _ _ _ _ _ => (jc_name (i := 10) sc__law_other.nd rfl (by first | exact Or.inl rfl | exact Or.inr rfl))) (fun _ _ _ _ _ => (jts_one (jt_neD (huR hr) (je_var 10) (je_lst ja_nil)))) (fun _ _ _ _ _ => (je_var 10)))
    (jb_cons (js_if (JW.jt (jw_and (jt_eq (je_var 3) je_int) (jw_and1 (jt_neD (huR hr) (je_var 13) (je_lst ja_nil))))) (jb_cons (js_set (i := 10) sc__law_other.nd rfl (by first | exact Or.inl rfl | exact Or.inr rfl) (je_ix (je_var 13) (jk_call G__law_draw (hr.mono (by decide)) (by rfl) (ja_cons (je_var 0) (ja_cons (je_len (by rfl) T.len (ja_cons (je_var 13) ja_nil)) ja_nil)))))
    (jb_cons (js_set (i := 14) sc__law_other.nd rfl (by first | exact Or.inl rfl | exact Or.inr rfl) (jk_call G__law_draw (hr.mono (by decide)) (by rfl) (ja_cons (je_var 0) (ja_cons (je_len (by rfl) T.len (ja_cons (je_var 10) ja_nil)) ja_nil))))
    (jb_one (js_asg (je_sub je_int (je_ix (je_var 10) (je_var 14))) (jg_sub (je_var 10) (je_var 14)))))) jb_nil)
    (jb_one (js_ret (jk_call G__law_wired (hr.mono (by decide)) (by rfl) (ja_cons (je_lst (ja_cons (je_var 6) (ja_cons (je_var 7) (ja_cons (je_var 8) (ja_cons (je_var 9) (ja_cons (je_len (by rfl) T.len (ja_cons (je_var 2) ja_nil)) ja_nil)))))) (ja_cons (je_var 12) (ja_cons (jk_call G__law_draw (hr.mono (by decide)) (by rfl) (ja_cons (je_var 0) (ja_cons je_int ja_nil))) ja_nil)))))))))))))))) : JB K (cxOf CX0 P w K mg base ["_law_pen", "_law_wires_here", "_law_outs", "_law_way", "_law_counts", "_law_tables_here", "_law_a", "_law_b", "_law_c", "_law_d", "_law_row", "_law_rows", "_law_first_here", "_law_spots", "_law_at"] "_law_other" (defScope s__law_other) f cdv A outer s H E).nox (defBody s__law_other) _ (b__law_other c__law_wired c__law_draw c__law_turned c__law_ghost c__law_first c__law_tables c__law_net c__law_places))⟩
end
end BB
end
section
/-! the walks (printed by gen.py) -/
namespace BB
open PySem PySem.Spec PyProof.Rows L2 DL
section
variable {P : Program} {w : World} {K : PySem.W.Frag} {mg : Str → Option Value} {base : Heap}
theorem sc__law_times : FnScope ["_law_one", "_law_other_here", "_law_found", "_law_k"] ["_law_one", "_law_other_here"] (defScope s__law_times) := ⟨rfl, rfl, rfl, by decide +kernel, rfl, by decide +kernel, by decide +kernel⟩
theorem w__law_times {c__law_times : CT} {dvs : List V} {kws : List (Str × V)} {f : Addr} {fd : FuncData} (T : TX K mg) (F : FunD K "_law_times" "_law_times" (defArgs s__law_times) (defBody s__law_times) (defScope s__law_times) dvs kws f fd) (len : ∀ ds M Q, c__law_times ds M Q → ds.length = 2) (keeps : Keeps 4 (b__law_times) c__law_times) : FnOk P w K mg base CX0 1 f fd ["_law_one", "_law_other_here"] (spD K c__law_times) :=
  fn_ok F sc__law_times len keeps fun cdv A outer s H E hr => ⟨_, ((jb_cons (js_set (i := 2) sc__law_times.nd rfl (by first | exact Or.inl rfl | exact Or.inr rfl) je_int)
    (jb_cons (js_for PassesOwn.never rfl (ji_range (by rfl) T.range (je_bits (je_var 1))) (jg_name (i := 3) sc__law_times.nd rfl (by first | exact Or.inl rfl | exact Or.inr rfl)) (jb_one (js_set (i := 2) sc__law_times.nd rfl (by first | exact Or.inl rfl | exact Or.inr rfl) (je_xor (je_var 2) (je_mul (je_shl (je_var 0) (je_var 3)) (je_and (je_shr (je_var 1) (je_var 3)) je_int))))))
    (jb_one (js_ret (je_var 2))))) : JB K (cxOf CX0 P w K mg base ["_law_one", "_law_other_here", "_law_found", "_law_k"] "_law_times" (defScope s__law_times) f cdv A outer s H E).nox (defBody s__law_times) _ (b__law_times))⟩
end
end BB
end
section
/-! the walks (printed by gen.py) -/
namespace BB
open PySem PySem.Spec PyProof.Rows L2 DL
section
variable {P : Program} {w : World} {K : PySem.W.Frag} {mg : Str → Option Value} {base : Heap}
theorem sc__law_ring : FnScope ["_law_above", "_law_below", "_law_size", "_law_wires_here", "_law_k", "_law_taps", "_law_shows"] ["_law_above", "_law_below", "_law_size"] (defScope s__law_ring) := ⟨rfl, rfl, rfl, by decide +kernel, rfl, by decide +kernel, by decide +kernel⟩
theorem w__law_ring {c__law_ring : CT} {dvs : List V} {kws : List (Str × V)} {f : Addr} {fd : FuncData} (T : TX K mg) (F : FunD K "_law_ring" "_law_ring" (defArgs s__law_ring) (defBody s__law_ring) (defScope s__law_ring) dvs kws f fd) (len : ∀ ds M Q, c__law_ring ds M Q → ds.length = 3) (keeps : Keeps 7 (b__law_ring) c__law_ring) : FnOk P w K mg base CX0 1 f fd ["_law_above", "_law_below", "_law_size"] (spD K c__law_ring) :=
  fn_ok F sc__law_ring len keeps fun cdv A outer s H E hr => ⟨_, ((jb_cons (js_set (i := 3) sc__law_ring.nd rfl (by first | exact Or.inl rfl | exact Or.inr rfl) (je_lstM (ja_cons (je_tup (ja_cons je_str ja_nil)) ja_nil)))
    (jb_cons (js_for PassesOwn.never rfl (ji_range (by rfl) T.range (je_var 2)) (jg_name (i := 4) sc__law_ring.nd rfl (by first | exact Or.inl rfl | exact Or.inr rfl)) (jb_one (js_expr (jk_app (je_var 3) (ja_cons (je_tup (ja_cons je_str (ja_cons (je_ix (je_lst (ja_cons (je_var 4) (ja_cons (je_add (je_var 2) je_int) ja_nil))) (je_intOf (by rfl) T.int (ja_cons (je_eq (je_var 4) je_int) ja_nil))) (ja_cons je_int ja_nil)))) ja_nil)))))
    (jb_cons (js_setLc (i := 5) (own := [("_law_k", 4)]) rfl sc__law_ring.nd rfl rfl (sw_true rfl rfl rfl (by kernel_rfl)) (ji_range2 (by rfl) T.range je_int (je_add (je_var 2) je_int)) (blkOk_by (by kernel_rfl)) (fun _ _ _ _ _ => (jc_name (i := 4) sc__law_ring.nd rfl (by first | exact Or.inl rfl | exact Or.inr rfl))) (fun _ _ _ _ _ => (jts_one (jt_eq (je_and (je_shr (je_var 1) (je_var 4)) je_int) je_int))) (fun _ _ _ _ _ => (je_var 4)))
    (jb_cons (js_expr (jk_app (je_var 3) (ja_cons (je_tupOf (by rfl) T.tuple (ja_cons (je_cat (je_lst (ja_cons je_str (ja_cons je_int ja_nil))) (je_var 5)) ja_nil)) ja_nil)))
    (jb_cons (js_setLc (i := 6) (own := [("_law_k", 4)]) rfl sc__law_ring.nd rfl rfl (sw_true rfl rfl rfl (by kernel_rfl)) (ji_range (by rfl) T.range (je_add (je_var 2) je_int)) (blkOk_by (by kernel_rfl)) (fun _ _ _ _ _ => (jc_name (i := 4) sc__law_ring.nd rfl (by first | exact Or.inl rfl | exact Or.inr rfl))) (fun _ _ _ _ _ => (jts_one (jt_eq (je_and (je_shr (je_var 0) (je_var 4)) je_int) je_int))) (fun _ _ _ _ _ => (je_ix (je_lst (ja_cons (je_var 4) (ja_cons (je_add (je_var 2) je_int) ja_nil))) (je_intOf (by rfl) T.int (ja_cons (je_eq (je_var 4) je_int) ja_nil)))))
    (jb_cons (js_expr (jk_app (je_var 3) (ja_cons (je_tupOf (by rfl) T.tuple (ja_cons (je_cat (je_lst (ja_cons je_str ja_nil)) (je_var 6)) ja_nil)) ja_nil)))
    (jb_one (js_ret (je_tup (ja_cons (je_frz (je_var 3)) (ja_cons (je_lst (ja_cons (je_add (je_var 2) je_int) ja_nil)) ja_nil))))))))))) : JB K (cxOf CX0 P w K mg base ["_law_above", "_law_below", "_law_size", "_law_wires_here", "_law_k", "_law_taps", "_law_shows"] "_law_ring" (defScope s__law_ring) f cdv A outer s H E).nox (defBody s__law_ring) _ (b__law_ring))⟩
end
end BB
end
section
/-! the walks (printed by gen.py) -/
namespace BB
open PySem PySem.Spec PyProof.Rows L2 DL
section
variable {P : Program} {w : World} {K : PySem.W.Frag} {mg : Str → Option Value} {base : Heap}
theorem sc__law_companion : FnScope ["_law_below", "_law_size", "_law_first_here", "_law_wires_here", "_law_k"] ["_law_below", "_law_size", "_law_first_here"] (defScope s__law_companion) := ⟨rfl, rfl, rfl, by decide +kernel, rfl, by decide +kernel, by decide +kernel⟩
theorem w__law_companion {c__law_companion : CT} {dvs : List V} {kws : List (Str × V)} {f : Addr} {fd : FuncData} (T : TX K mg) (F : FunD K "_law_companion" "_law_companion" (defArgs s__law_companion) (defBody s__law_companion) (defScope s__law_companion) dvs kws f fd) (len : ∀ ds M Q, c__law_companion ds M Q → ds.length = 3) (keeps : Keeps 5 (b__law_companion) c__law_companion) : FnOk P w K mg base CX0 1 f fd ["_law_below", "_law_size", "_law_first_here"] (spD K c__law_companion) :=
  fn_ok F sc__law_companion len keeps fun cdv A outer s H E hr => ⟨_, ((jb_cons (js_set (i := 3) sc__law_companion.nd rfl (by first | exact Or.inl rfl | exact Or.inr rfl) (je_lstM ja_nil))
    (jb_cons (js_for PassesOwn.never rfl (ji_range (by rfl) T.range (je_var 1)) (jg_name (i := 4) sc__law_companion.nd rfl (by first | exact Or.inl rfl | exact Or.inr rfl)) (jb_one (js_expr (jk_app (je_var 3) (ja_cons (je_tup (ja_cons je_str (ja_cons (je_add (je_var 4) je_int) (ja_cons (je_ix (je_var 2) (je_var 4)) ja_nil)))) ja_nil)))))
    (jb_cons (js_expr (jk_app (je_var 3) (ja_cons (je_tupOf (by rfl) T.tuple (ja_cons (je_cat (je_lst (ja_cons je_str ja_nil)) (je_lc (own := [("_law_k", 4)]) rfl sc__law_companion.nd (ji_range2 (by rfl) T.range je_int (je_add (je_var 1) je_int)) (blkOk_by (by kernel_rfl)) (fun _ _ _ _ _ => (jc_name (i := 4) sc__law_companion.nd rfl (by first | exact Or.inl rfl | exact Or.inr rfl))) (fun _ _ _ _ _ => (jts_one (jt_eq (je_and (je_shr (je_var 0) (je_var 4)) je_int) je_int))) (fun _ _ _ _ _ => (je_sub (je_var 1) (je_var 4))))) ja_nil)) ja_nil)))
    (jb_one (js_ret (je_tup (ja_cons (je_frz (je_var 3)) (ja_cons (je_lst (ja_cons je_int ja_nil)) ja_nil)))))))) : JB K (cxOf CX0 P w K mg base ["_law_below", "_law_size", "_law_first_here", "_law_wires_here", "_law_k"] "_law_companion" (defScope s__law_companion) f cdv A outer s H E).nox (defBody s__law_companion) _ (b__law_companion))⟩
end
end BB
end
section
/-! the walks (printed by gen.py) -/
namespace BB
open PySem PySem.Spec PyProof.Rows L2 DL
section
variable {P : Program} {w : World} {K : PySem.W.Frag} {mg : Str → Option Value} {base : Heap}
theorem sc__law_flow : FnScope ["_law_below", "_law_first_here", "_law_beats", "_law_bits_here", "_law_k"] ["_law_below", "_law_first_here", "_law_beats"] (defScope s__law_flow) := ⟨rfl, rfl, rfl, by decide +kernel, rfl, by decide +kernel, by decide +kernel⟩
theorem w__law_flow {c__law_flow : CT} {dvs : List V} {kws : List (Str × V)} {f : Addr} {fd : FuncData} (T : TX K mg) (F : FunD K "_law_flow" "_law_flow" (defArgs s__law_flow) (defBody s__law_flow) (defScope s__law_flow) dvs kws f fd) (len : ∀ ds M Q, c__law_flow ds M Q → ds.length = 3) (keeps : Keeps 5 (b__law_flow) c__law_flow) : FnOk P w K mg base CX0 1 f fd ["_law_below", "_law_first_here", "_law_beats"] (spD K c__law_flow) :=
  fn_ok F sc__law_flow len keeps fun cdv A outer s H E hr => ⟨_, ((jb_cons (js_set (i := 3) sc__law_flow.nd rfl (by first | exact Or.inl rfl | exact Or.inr rfl) (je_listOfM (by rfl) T.list (ja_cons (je_var 1) ja_nil)))
    (jb_cons (js_while PassesOwn.never (jt_lt (je_len (by rfl) T.len (ja_cons (je_var 3) ja_nil)) (je_var 2)) (jb_one (js_expr (jk_app (je_var 3) (ja_cons (je_and (je_sum rfl (by rfl) T.sum (ja_cons (je_lc (own := [("_law_k", 4)]) rfl sc__law_flow.nd (ji_range2 (by rfl) T.range je_int (je_add (je_len (by rfl) T.len (ja_cons (je_var 1) ja_nil)) je_int)) (blkOk_by (by kernel_rfl)) (fun _ _ _ _ _ => (jc_name (i := 4) sc__law_flow.nd rfl (by first | exact Or.inl rfl | exact Or.inr rfl))) (fun _ _ _ _ _ => (jts_one (jt_eq (je_and (je_shr (je_var 0) (je_var 4)) je_int) je_int))) (fun _ _ _ _ _ => (je_ix (je_var 3) (je_neg (je_var 4))))) ja_nil)) je_int) ja_nil)))))
    (jb_one (js_ret (je_frz (je_var 3)))))) : JB K (cxOf CX0 P w K mg base ["_law_below", "_law_first_here", "_law_beats", "_law_bits_here", "_law_k"] "_law_flow" (defScope s__law_flow) f cdv A outer s H E).nox (defBody s__law_flow) _ (b__law_flow))⟩
end
end BB
end
section
/-! the walks (printed by gen.py) -/
namespace BB
open PySem PySem.Spec PyProof.Rows L2 DL
section
variable {P : Program} {w : World} {K : PySem.W.Frag} {mg : Str → Option Value} {base : Heap}
theorem sc__law_quiet_pair : FnScope ["_law_below", "_law_size", "_law_more", "_law_wide", "_law_best", "_law_number", "_law_first_here", "_law_k", "_law_one", "_law_two", "_law_unlike", "_law_t"] ["_law_below", "_law_size", "_law_more", "_law_wide"] (defScope s__law_quiet_pair) := ⟨rfl, rfl, rfl, by decide +kernel, rfl, by decide +kernel, by decide +kernel⟩
theorem w__law_quiet_pair {c__law_companion c__law_flow c__law_quiet_pair : CT} {dvs : List V} {kws : List (Str × V)} {f : Addr} {fd : FuncData} (T : TX K mg) (G__law_companion : FnK P w K mg base 1 "_law_companion" ["_law_below", "_law_size", "_law_first_here"] c__law_companion) (G__law_flow : FnK P w K mg base 1 "_law_flow" ["_law_below", "_law_first_here", "_law_beats"] c__law_flow) (F : FunD K "_law_quiet_pair" "_law_quiet_pair" (defArgs s__law_quiet_pair) (defBody s__law_quiet_pair) (defScope s__law_quiet_pair) dvs kws f fd) (len : ∀ ds M Q, c__law_quiet_pair ds M Q → ds.length = 4) (keeps : Keeps 12 (b__law_quiet_pair c__law_companion c__law_flow) c__law_quiet_pair) : FnOk P w K mg base CX0 2 f fd ["_law_below", "_law_size", "_law_more", "_law_wide"] (spD K c__law_quiet_pair) :=
  fn_ok F sc__law_quiet_pair len keeps fun cdv A outer s H E hr => ⟨_, ((jb_cons (js_set (i := 4) sc__law_quiet_pair.nd rfl (by first | exact Or.inl rfl | exact Or.inr rfl) (je_lst (ja_cons (je_neg je_int) (ja_cons (je_rep (je_lst (ja_cons je_int ja_nil)) (je_var 1)) (ja_cons (je_rep (je_lst (ja_cons je_int ja_nil)) (je_var 3)) ja_nil)))))
    (jb_cons (js_for PassesOwn.never rfl (ji_range2 (by rfl) T.range je_int (je_shl je_int (je_var 1))) (jg_name (i := 5) sc__law_quiet_pair.nd rfl (by first | exact Or.inl rfl | exact Or.inr rfl)) (jb_cons (js_setLc (i := 6) (own := [("_law_k", 7)]) rfl sc__law_quiet_pair.nd rfl rfl (sw_true rfl rfl rfl (by kernel_rfl)) (ji_range (by rfl) T.range (je_var 1)) (blkOk_by (by kernel_rfl)) (fun _ _ _ _ _ => (jc_name (i := 7) sc__law_quiet_pair.nd rfl (by first | exact Or.inl rfl | exact Or.inr rfl))) (fun _ _ _ _ _ => jts_nil) (fun _ _ _ _ _ => (je_and (je_shr (je_var 5) (je_var 7)) je_int)))
    (jb_cons (js_set (i := 8) sc__law_quiet_pair.nd rfl (by first | exact Or.inl rfl | exact Or.inr rfl) (jk_call G__law_flow (hr.mono (by decide)) (by rfl) (ja_cons (je_var 0) (ja_cons (je_var 6) (ja_cons (je_add (je_var 1) (je_var 3)) ja_nil)))))
    (jb_cons (js_set (i := 9) sc__law_quiet_pair.nd rfl (by first | exact Or.inl rfl | exact Or.inr rfl) (jk_call G__law_flow (hr.mono (by decide)) (by rfl) (ja_cons (je_var 2) (ja_cons (je_slL (je_var 8) jo_none (jo_some (je_var 3))) (ja_cons (je_add (je_var 1) (je_var 3)) ja_nil)))))
    (jb_cons (js_set (i := 10) sc__law_quiet_pair.nd rfl (by first | exact Or.inl rfl | exact Or.inr rfl) (je_cat (je_lc (own := [("_law_t", 11)]) rfl sc__law_quiet_pair.nd (ji_range (by rfl) T.range (je_add (je_var 1) (je_var 3))) (blkOk_by (by kernel_rfl)) (fun _ _ _ _ _ => (jc_name (i := 11) sc__law_quiet_pair.nd rfl (by first | exact Or.inl rfl | exact Or.inr rfl))) (fun _ _ _ _ _ => (jts_one (jt_ne (je_ix (je_var 8) (je_var 11)) (je_ix (je_var 9) (je_var 11))))) (fun _ _ _ _ _ => (je_var 11))) (je_lst (ja_cons (je_neg je_int) ja_nil))))
    (jb_one (js_if (jt_gt (je_ix (je_var 10) je_int) (je_ix (je_var 4) je_int)) (jb_one (js_set (i := 4) sc__law_quiet_pair.nd rfl (by first | exact Or.inl rfl | exact Or.inr rfl) (je_lst (ja_cons (je_ix (je_var 10) je_int) (ja_cons (je_var 6) (ja_cons (je_slL (je_var 8) jo_none (jo_some (je_var 3))) ja_nil)))))) jb_nil)))))))
    (jb_one (js_ret (je_tup (ja_cons (jk_call G__law_companion (hr.mono (by decide)) (by rfl) (ja_cons (je_var 0) (ja_cons (je_var 1) (ja_cons (je_ix (je_var 4) je_int) ja_nil)))) (ja_cons (jk_call G__law_companion (hr.mono (by decide)) (by rfl) (ja_cons (je_var 2) (ja_cons (je_var 3) (ja_cons (je_ix (je_var 4) je_int) ja_nil)))) ja_nil))))))) : JB K (cxOf CX0 P w K mg base ["_law_below", "_law_size", "_law_more", "_law_wide", "_law_best", "_law_number", "_law_first_here", "_law_k", "_law_one", "_law_two", "_law_unlike", "_law_t"] "_law_quiet_pair" (defScope s__law_quiet_pair) f cdv A outer s H E).nox (defBody s__law_quiet_pair) _ (b__law_quiet_pair c__law_companion c__law_flow))⟩
end
end BB
end
section
/-! the walks (printed by gen.py) -/
namespace BB
open PySem PySem.Spec PyProof.Rows L2 DL
section
variable {P : Program} {w : World} {K : PySem.W.Frag} {mg : Str → Option Value} {base : Heap}
theorem sc__law_late_pair : FnScope ["_law_pen", "_law_size", "_law_wide", "_law_below", "_law_more", "_law_above", "_law_other_here"] ["_law_pen"] (defScope s__law_late_pair) := ⟨rfl, rfl, rfl, by decide +kernel, rfl, by decide +kernel, by decide +kernel⟩
theorem w__law_late_pair {c__law_quiet_pair c__law_times c__law_ring c__law_draw c__law_late_pair : CT} {dvs : List V} {kws : List (Str × V)} {f : Addr} {fd : FuncData} (T : TX K mg) (G__law_quiet_pair : FnK P w K mg base 2 "_law_quiet_pair" ["_law_below", "_law_size", "_law_more", "_law_wide"] c__law_quiet_pair) (G__law_times : FnK P w K mg base 1 "_law_times" ["_law_one", "_law_other_here"] c__law_times) (G__law_ring : FnK P w K mg base 1 "_law_ring" ["_law_above", "_law_below", "_law_size"] c__law_ring) (G__law_draw : FnK P w K mg base 1 "_law_draw" ["_law_pen", "_law_many"] c__law_draw) (F : FunD K "_law_late_pair" "_law_late_pair" (defArgs s__law_late_pair) (defBody s__law_late_pair) (defScope s__law_late_pair) dvs kws f fd) (len : ∀ ds M Q, c__law_late_pair ds M Q → ds.length = 1) (keeps : Keeps 7 (b__law_late_pair c__law_quiet_pair c__law_times c__law_ring c__law_draw) c__law_late_pair) : FnOk P w K mg base CX0 3 f fd ["_law_pen"] (spD K c__law_late_pair) :=
  fn_ok F sc__law_late_pair len keeps fun cdv A outer s H E hr => ⟨_, ((jb_cons (js_set (i := 1) sc__law_late_pair.nd rfl (by first | exact Or.inl rfl | exact Or.inr rfl) (je_add je_int (jk_call G__law_draw (hr.mono (by decide)) (by rfl) (ja_cons (je_var 0) (ja_cons je_int ja_nil)))))
    (jb_cons (js_set (i := 2) sc__law_late_pair.nd rfl (by first | exact Or.inl rfl | exact Or.inr rfl) (je_add je_int (jk_call G__law_draw (hr.mono (by decide)) (by rfl) (ja_cons (je_var 0) (ja_cons je_int ja_nil)))))
    (jb_cons (js_set (i := 3) sc__law_late_pair.nd rfl (by first | exact Or.inl rfl | exact Or.inr rfl) (je_add je_int (je_mul je_int (jk_call G__law_draw (hr.mono (by decide)) (by rfl) (ja_cons (je_var 0) (ja_cons (je_shl je_int (je_var 1)) ja_nil))))))
    (jb_cons (js_set (i := 4) sc__law_late_pair.nd rfl (by first | exact Or.inl rfl | exact Or.inr rfl) (je_add je_int (je_mul je_int (jk_call G__law_draw (hr.mono (by decide)) (by rfl) (ja_cons (je_var 0) (ja_cons (je_shl je_int (je_var 2)) ja_nil))))))
    (jb_cons (js_if (jt_eq (jk_call G__law_draw (hr.mono (by decide)) (by rfl) (ja_cons (je_var 0) (ja_cons je_int ja_nil))) je_int) (jb_one (js_ret (jk_call G__law_quiet_pair (hr.mono (by decide)) (by rfl) (ja_cons (je_var 3) (ja_cons (je_var 1) (ja_cons (je_var 4) (ja_cons (je_var 2) ja_nil))))))) jb_nil)
    (jb_cons (js_for PassesOwn.never rfl (ji_range (by rfl) T.range (je_shl je_int (je_add (je_var 1) je_int))) (jg_name (i := 5) sc__law_late_pair.nd rfl (by first | exact Or.inl rfl | exact Or.inr rfl)) (jb_one (js_for PassesOwn.never rfl (ji_range (by rfl) T.range (je_shl je_int (je_add (je_var 2) je_int))) (jg_name (i := 6) sc__law_late_pair.nd rfl (by first | exact Or.inl rfl | exact Or.inr rfl)) (jb_one (js_if (jt_eq (je_xor (jk_call G__law_times (hr.mono (by decide)) (by rfl) (ja_cons (je_var 5) (ja_cons (je_var 4) ja_nil))) (jk_call G__law_times (hr.mono (by decide)) (by rfl) (ja_cons (je_var 6) (ja_cons (je_var 3) ja_nil)))) (je_shl je_int (je_add (je_var 1) (je_var 2)))) (jb_one (js_ret (je_tup (ja_cons (jk_call G__law_ring (hr.mono (by decide)) (by rfl) (ja_cons (je_var 5) (ja_cons (je_var 3) (ja_cons (je_var 1) ja_nil)))) (ja_cons (jk_call G__law_ring (hr.mono (by decide)) (by rfl) (ja_cons (je_var 6) (ja_cons (je_var 4) (ja_cons (je_var 2) ja_nil)))) ja_nil))))) jb_nil)))))
    (jb_one (js_ret (jk_call G__law_quiet_pair (hr.mono (by decide)) (by rfl) (ja_cons (je_var 3) (ja_cons (je_var 1) (ja_cons (je_var 4) (ja_cons (je_var 2) ja_nil))))))))))))) : JB K (cxOf CX0 P w K mg base ["_law_pen", "_law_size", "_law_wide", "_law_below", "_law_more", "_law_above", "_law_other_here"] "_law_late_pair" (defScope s__law_late_pair) f cdv A outer s H E).nox (defBody s__law_late_pair) _ (b__law_late_pair c__law_quiet_pair c__law_times c__law_ring c__law_draw))⟩
end
end BB
end
section
/-! the walks (printed by gen.py) -/
namespace BB
open PySem PySem.Spec PyProof.Rows L2 DL
section
variable {P : Program} {w : World} {K : PySem.W.Frag} {mg : Str → Option Value} {base : Heap}
theorem sc__law_pair : FnScope ["_law_pen", "_law_counts", "_law_one", "_law_other_here"] ["_law_pen"] (defScope s__law_pair) := ⟨rfl, rfl, rfl, by decide +kernel, rfl, by decide +kernel, by decide +kernel⟩
theorem w__law_pair {c__law_draw c__law_other c__law_net c__law_late_pair c__law_pair : CT} {dvs : List V} {kws : List (Str × V)} {f : Addr} {fd : FuncData} (T : TX K mg) (G__law_draw : FnK P w K mg base 1 "_law_draw" ["_law_pen", "_law_many"] c__law_draw) (G__law_other : FnK P w K mg base 5 "_law_other" ["_law_pen", "_law_wires_here", "_law_outs"] c__law_other) (G__law_net : FnK P w K mg base 4 "_law_net" ["_law_pen", "_law_counts", "_law_many"] c__law_net) (G__law_late_pair : FnK P w K mg base 3 "_law_late_pair" ["_law_pen"] c__law_late_pair) (F : FunD K "_law_pair" "_law_pair" (defArgs s__law_pair) (defBody s__law_pair) (defScope s__law_pair) dvs kws f fd) (len : ∀ ds M Q, c__law_pair ds M Q → ds.length = 1) (keeps : Keeps 4 (b__law_pair c__law_draw c__law_other c__law_net c__law_late_pair) c__law_pair) : FnOk P w K mg base CX0 6 f fd ["_law_pen"] (spD K c__law_pair) :=
  fn_ok F sc__law_pair len keeps fun cdv A outer s H E hr => ⟨_, ((jb_cons (js_if (jt_eq (jk_call G__law_draw (hr.mono (by decide)) (by rfl) (ja_cons (je_var 0) (ja_cons je_int ja_nil))) je_int) (jb_one (js_ret (jk_call G__law_late_pair (hr.mono (by decide)) (by rfl) (ja_cons (je_var 0) ja_nil)))) jb_nil)
    (jb_cons (js_set (i := 1) sc__law_pair.nd rfl (by first | exact Or.inl rfl | exact Or.inr rfl) (je_lst (ja_cons (jk_call G__law_draw (hr.mono (by decide)) (by rfl) (ja_cons (je_var 0) (ja_cons je_int ja_nil))) (ja_cons (jk_call G__law_draw (hr.mono (by decide)) (by rfl) (ja_cons (je_var 0) (ja_cons je_int ja_nil))) (ja_cons (jk_call G__law_draw (hr.mono (by decide)) (by rfl) (ja_cons (je_var 0) (ja_cons je_int ja_nil))) ja_nil)))))
    (jb_cons (js_set (i := 2) sc__law_pair.nd rfl (by first | exact Or.inl rfl | exact Or.inr rfl) (jk_call G__law_net (hr.mono (by decide)) (by rfl) (ja_cons (je_var 0) (ja_cons (je_var 1) (ja_cons (jk_call G__law_draw (hr.mono (by decide)) (by rfl) (ja_cons (je_var 0) (ja_cons je_int ja_nil))) ja_nil)))))
    (jb_cons (js_set (i := 3) sc__law_pair.nd rfl (by first | exact Or.inl rfl | exact Or.inr rfl) (jk_call G__law_other (hr.mono (by decide)) (by rfl) (ja_cons (je_var 0) (ja_cons (je_ix (je_var 2) je_int) (ja_cons (je_ix (je_var 2) je_int) ja_nil)))))
    (jb_cons (js_if (jt_eq (jk_call G__law_draw (hr.mono (by decide)) (by rfl) (ja_cons (je_var 0) (ja_cons je_int ja_nil))) je_int) (jb_one (js_ret (je_tup (ja_cons (je_var 2) (ja_cons (je_var 3) ja_nil))))) jb_nil)
    (jb_one (js_ret (je_tup (ja_cons (je_var 3) (ja_cons (je_var 2) ja_nil)))))))))) : JB K (cxOf CX0 P w K mg base ["_law_pen", "_law_counts", "_law_one", "_law_other_here"] "_law_pair" (defScope s__law_pair) f cdv A outer s H E).nox (defBody s__law_pair) _ (b__law_pair c__law_draw c__law_other c__law_net c__law_late_pair))⟩
end
end BB
end
section
/-! the walks (printed by gen.py) -/
namespace BB
open PySem PySem.Spec PyProof.Rows L2 DL
section
variable {P : Program} {w : World} {K : PySem.W.Frag} {mg : Str → Option Value} {base : Heap}
theorem sc__law_answer : FnScope ["_law_tables_here", "_law_put", "_law_beats", "_law_bare_here"] ["_law_tables_here", "_law_put", "_law_beats"] (defScope s__law_answer) := ⟨rfl, rfl, rfl, by decide +kernel, rfl, by decide +kernel, by decide +kernel⟩
theorem w__law_answer {c__law_bare c__law_answer : CT} {dvs : List V} {kws : List (Str × V)} {f : Addr} {fd : FuncData} (T : TX K mg) (G__law_bare : FnK P w K mg base 4 "_law_bare" ["_law_tables_here", "_law_here", "_law_beats"] c__law_bare) (F : FunD K "_law_answer" "_law_answer" (defArgs s__law_answer) (defBody s__law_answer) (defScope s__law_answer) dvs kws f fd) (len : ∀ ds M Q, c__law_answer ds M Q → ds.length = 3) (keeps : Keeps 4 (b__law_answer c__law_bare) c__law_answer) : FnOk P w K mg base CX0 5 f fd ["_law_tables_here", "_law_put", "_law_beats"] (spD K c__law_answer) :=
  fn_ok F sc__law_answer len keeps fun cdv A outer s H E hr => ⟨_, ((jb_cons (js_set (i := 3) sc__law_answer.nd rfl (by first | exact Or.inl rfl | exact Or.inr rfl) (jk_call G__law_bare (hr.mono (by decide)) (by rfl) (ja_cons (je_var 0) (ja_cons (je_ix (je_ix (je_var 0) je_int) (je_var 1)) (ja_cons (je_var 2) ja_nil)))))
    (jb_one (js_ret (je_cat (je_lst (ja_cons (je_ix (je_ix (je_var 0) je_int) (je_var 1)) ja_nil)) (je_var 3))))) : JB K (cxOf CX0 P w K mg base ["_law_tables_here", "_law_put", "_law_beats", "_law_bare_here"] "_law_answer" (defScope s__law_answer) f cdv A outer s H E).nox (defBody s__law_answer) _ (b__law_answer c__law_bare))⟩
end
end BB
end
section
/-! the walks (printed by gen.py) -/
namespace BB
open PySem PySem.Spec PyProof.Rows L2 DL
section
variable {P : Program} {w : World} {K : PySem.W.Frag} {mg : Str → Option Value} {base : Heap}
theorem sc__law_difference : FnScope ["_law_tables_here", "_law_others", "_law_beats", "_law_runs_here", "_law_put", "_law_one", "_law_other_here", "_law_pair_here", "_law_beat"] ["_law_tables_here", "_law_others"] (defScope s__law_difference) := ⟨rfl, rfl, rfl, by decide +kernel, rfl, by decide +kernel, by decide +kernel⟩
theorem w__law_difference {c__law_added c__law_answer c__law_difference : CT} {dvs : List V} {kws : List (Str × V)} {f : Addr} {fd : FuncData} (T : TX K mg) (G__law_added : FnK P w K mg base 1 "_law_added" ["_law_rows", "_law_size"] c__law_added) (G__law_answer : FnK P w K mg base 5 "_law_answer" ["_law_tables_here", "_law_put", "_law_beats"] c__law_answer) (F : FunD K "_law_difference" "_law_difference" (defArgs s__law_difference) (defBody s__law_difference) (defScope s__law_difference) dvs kws f fd) (len : ∀ ds M Q, c__law_difference ds M Q → ds.length = 2) (keeps : Keeps 9 (b__law_difference c__law_added c__law_answer) c__law_difference) : FnOk P w K mg base CX0 6 f fd ["_law_tables_here", "_law_others"] (spD K c__law_difference) :=
  fn_ok F sc__law_difference len keeps fun cdv A outer s H E hr => ⟨_, ((jb_cons (js_set (i := 2) sc__law_difference.nd rfl (by first | exact Or.inl rfl | exact Or.inr rfl) (je_add (je_len (by rfl) T.len (ja_cons (je_ix (je_var 0) je_int) ja_nil)) (je_len (by rfl) T.len (ja_cons (je_ix (je_var 1) je_int) ja_nil))))
    (jb_cons (js_set (i := 3) sc__law_difference.nd rfl (by first | exact Or.inl rfl | exact Or.inr rfl) (je_lstM ja_nil))
    (jb_cons (js_for PassesOwn.never rfl (ji_range (by rfl) T.range (je_len (by rfl) T.len (ja_cons (je_ix (je_var 0) je_int) ja_nil))) (jg_name (i := 4) sc__law_difference.nd rfl (by first | exact Or.inl rfl | exact Or.inr rfl)) (jb_cons (js_set (i := 5) sc__law_difference.nd rfl (by first | exact Or.inl rfl | exact Or.inr rfl) (jk_call G__law_answer (hr.mono (by decide)) (by rfl) (ja_cons (je_var 0) (ja_cons (je_var 4) (ja_cons (je_var 2) ja_nil)))))
    (jb_cons (js_set (i := 6) sc__law_difference.nd rfl (by first | exact Or.inl rfl | exact Or.inr rfl) (jk_call G__law_answer (hr.mono (by decide)) (by rfl) (ja_cons (je_var 1) (ja_cons (je_var 4) (ja_cons (je_var 2) ja_nil)))))
    (jb_one (js_expr (jk_app (je_var 3) (ja_cons (je_lc (own := [("_law_pair_here", 7)]) rfl sc__law_difference.nd (jk_zipN (by rfl) T.zip (je_var 5) (je_var 6)) (blkOk_by (by kernel_rfl)) (fun _ _ _ _ _ => (jc_name (i := 7) sc__law_difference.nd rfl (by first | exact Or.inl rfl | exact Or.inr rfl))) (fun _ _ _ _ _ => jts_nil) (fun _ _ _ _ _ => (je_frz (jk_call G__law_added (hr.mono (by decide)) (by rfl) (ja_cons (je_var 7) (ja_cons (je_ix (je_var 0) je_int) ja_nil)))))) ja_nil)))))))
    (jb_cons (js_for PassesOwn.never rfl (ji_range (by rfl) T.range (je_add (je_var 2) je_int)) (jg_name (i := 8) sc__law_difference.nd rfl (by first | exact Or.inl rfl | exact Or.inr rfl)) (jb_one (js_for PassesOwn.never rfl (ji_range (by rfl) T.range (je_len (by rfl) T.len (ja_cons (je_var 3) ja_nil))) (jg_name (i := 4) sc__law_difference.nd rfl (by first | exact Or.inl rfl | exact Or.inr rfl)) (jb_one (js_if (jt_in je_int (je_ix (je_ix (je_var 3) (je_var 4)) (je_var 8))) (jb_one (js_ret (je_tup (ja_cons (je_var 8) (ja_cons (je_var 4) (ja_cons (jk_idx (je_ix (je_ix (je_var 3) (je_var 4)) (je_var 8)) (ja_cons je_int ja_nil)) ja_nil)))))) jb_nil)))))
    (jb_one (js_ret je_non)))))) : JB K (cxOf CX0 P w K mg base ["_law_tables_here", "_law_others", "_law_beats", "_law_runs_here", "_law_put", "_law_one", "_law_other_here", "_law_pair_here", "_law_beat"] "_law_difference" (defScope s__law_difference) f cdv A outer s H E).nox (defBody s__law_difference) _ (b__law_difference c__law_added c__law_answer))⟩
end
end BB
end
section
/-! the walks (printed by gen.py) -/
namespace BB
open PySem PySem.Spec PyProof.Rows L2 DL
section
variable {P : Program} {w : World} {K : PySem.W.Frag} {mg : Str → Option Value} {base : Heap}
theorem sc__law_all : FnScope ["_law_size", "_law_at", "_law_number"] ["_law_size"] (defScope s__law_all) := ⟨rfl, rfl, rfl, by decide +kernel, rfl, by decide +kernel, by decide +kernel⟩
theorem w__law_all {c__law_all : CT} {dvs : List V} {kws : List (Str × V)} {f : Addr} {fd : FuncData} (T : TX K mg) (F : FunD K "_law_all" "_law_all" (defArgs s__law_all) (defBody s__law_all) (defScope s__law_all) dvs kws f fd) (len : ∀ ds M Q, c__law_all ds M Q → ds.length = 1) (keeps : Keeps 3 (b__law_all) c__law_all) : FnOk P w K mg base CX0 1 f fd ["_law_size"] (spD K c__law_all) :=
  fn_ok F sc__law_all len keeps fun cdv A outer s H E hr => ⟨_, ((jb_one (js_ret (je_lc (own := [("_law_number", 2)]) rfl sc__law_all.nd (ji_range (by rfl) T.range (je_shl je_int (je_var 0))) (blkOk_by (by kernel_rfl)) (fun _ _ _ _ _ => (jc_name (i := 2) sc__law_all.nd rfl (by first | exact Or.inl rfl | exact Or.inr rfl))) (fun _ _ _ _ _ => jts_nil) (fun _ _ _ _ _ => (je_lc (own := [("_law_at", 1)]) rfl sc__law_all.nd (ji_range (by rfl) T.range (je_var 0)) (blkOk_by (by kernel_rfl)) (fun _ _ _ _ _ => (jc_name (i := 1) sc__law_all.nd rfl (by first | exact Or.inl rfl | exact Or.inr rfl))) (fun _ _ _ _ _ => jts_nil) (fun _ _ _ _ _ => (je_and (je_shr (je_var 2) (je_var 1)) je_int))))))) : JB K (cxOf CX0 P w K mg base ["_law_size", "_law_at", "_law_number"] "_law_all" (defScope s__law_all) f cdv A outer s H E).nox (defBody s__law_all) _ (b__law_all))⟩
end
end BB
end
section
/-! the walks (printed by gen.py) -/
namespace BB
open PySem PySem.Spec PyProof.Rows L2 DL
section
variable {P : Program} {w : World} {K : PySem.W.Frag} {mg : Str → Option Value} {base : Heap}
theorem sc__law_runs : FnScope ["_law_tables_here", "_law_beats", "_law_here"] ["_law_tables_here", "_law_beats"] (defScope s__law_runs) := ⟨rfl, rfl, rfl, by decide +kernel, rfl, by decide +kernel, by decide +kernel⟩
theorem w__law_runs {c__law_all c__law_bare c__law_runs : CT} {dvs : List V} {kws : List (Str × V)} {f : Addr} {fd : FuncData} (T : TX K mg) (G__law_all : FnK P w K mg base 1 "_law_all" ["_law_size"] c__law_all) (G__law_bare : FnK P w K mg base 4 "_law_bare" ["_law_tables_here", "_law_here", "_law_beats"] c__law_bare) (F : FunD K "_law_runs" "_law_runs" (defArgs s__law_runs) (defBody s__law_runs) (defScope s__law_runs) dvs kws f fd) (len : ∀ ds M Q, c__law_runs ds M Q → ds.length = 2) (keeps : Keeps 3 (b__law_runs c__law_all c__law_bare) c__law_runs) : FnOk P w K mg base CX0 5 f fd ["_law_tables_here", "_law_beats"] (spD K c__law_runs) :=
  fn_ok F sc__law_runs len keeps fun cdv A outer s H E hr => ⟨_, ((jb_one (js_ret (je_lc (own := [("_law_here", 2)]) rfl sc__law_runs.nd (ji_seq (jk_call G__law_all (hr.mono (by decide)) (by rfl) (ja_cons (je_len (by rfl) T.len (ja_cons (je_ix (je_var 0) je_int) ja_nil)) ja_nil))) (blkOk_by (by kernel_rfl)) (fun _ _ _ _ _ => (jc_name (i := 2) sc__law_runs.nd rfl (by first | exact Or.inl rfl | exact Or.inr rfl))) (fun _ _ _ _ _ => jts_nil) (fun _ _ _ _ _ => (jk_call G__law_bare (hr.mono (by decide)) (by rfl) (ja_cons (je_var 0) (ja_cons (je_var 2) (ja_cons (je_var 1) ja_nil)))))))) : JB K (cxOf CX0 P w K mg base ["_law_tables_here", "_law_beats", "_law_here"] "_law_runs" (defScope s__law_runs) f cdv A outer s H E).nox (defBody s__law_runs) _ (b__law_runs c__law_all c__law_bare))⟩
end
end BB
end
section
/-! the walks (printed by gen.py) -/
namespace BB
open PySem PySem.Spec PyProof.Rows L2 DL
section
variable {P : Program} {w : World} {K : PySem.W.Frag} {mg : Str → Option Value} {base : Heap}
theorem sc__law_twins : FnScope ["_law_twins_here", "_law_runs_here", "_law_others", "_law_beats", "_law_size", "_law_states", "_law_at", "_law_parts", "_law_k", "_law_part"] ["_law_twins_here", "_law_runs_here", "_law_others", "_law_beats"] (defScope s__law_twins) := ⟨rfl, rfl, rfl, by decide +kernel, rfl, by decide +kernel, by decide +kernel⟩
theorem w__law_twins {c__law_bare c__law_added c__law_all c__law_twins : CT} {dvs : List V} {kws : List (Str × V)} {f : Addr} {fd : FuncData} (T : TX K mg) (G__law_bare : FnK P w K mg base 4 "_law_bare" ["_law_tables_here", "_law_here", "_law_beats"] c__law_bare) (G__law_added : FnK P w K mg base 1 "_law_added" ["_law_rows", "_law_size"] c__law_added) (G__law_all : FnK P w K mg base 1 "_law_all" ["_law_size"] c__law_all) (F : FunD K "_law_twins" "_law_twins" (defArgs s__law_twins) (defBody s__law_twins) (defScope s__law_twins) dvs kws f fd) (len : ∀ ds M Q, c__law_twins ds M Q → ds.length = 4) (keeps : Keeps 10 (b__law_twins c__law_bare c__law_added c__law_all) c__law_twins) : FnOk P w K mg base CX0 5 f fd ["_law_twins_here", "_law_runs_here", "_law_others", "_law_beats"] (spD K c__law_twins) :=
  fn_ok F sc__law_twins len keeps fun cdv A outer s H E hr => ⟨_, ((jb_cons (js_set (i := 4) sc__law_twins.nd rfl (by first | exact Or.inl rfl | exact Or.inr rfl) (je_len (by rfl) T.len (ja_cons (je_ix (je_var 2) je_int) ja_nil)))
    (jb_cons (js_if (JW.jt (jw_or (jt_not (jt_val (je_isTup (a2 := .Name "tuple" ⟨0, 0, 0, 0⟩) (by rfl) T.isinstance (by rfl) T.tuple (je_var 0)))) (jw_or1 (jt_ne (je_shl je_int (je_len (by rfl) T.len (ja_cons (je_var 0) ja_nil))) (je_len (by rfl) T.len (ja_cons (je_var 1) ja_nil)))))) (jb_one (js_ret je_bl)) jb_nil)
    (jb_cons (js_set (i := 5) sc__law_twins.nd rfl (by first | exact Or.inl rfl | exact Or.inr rfl) (jk_call G__law_all (hr.mono (by decide)) (by rfl) (ja_cons (je_len (by rfl) T.len (ja_cons (je_var 0) ja_nil)) ja_nil)))
    (jb_cons (js_for PassesOwn.never rfl (ji_range (by rfl) T.range (je_len (by rfl) T.len (ja_cons (je_var 1) ja_nil))) (jg_name (i := 6) sc__law_twins.nd rfl (by first | exact Or.inl rfl | exact Or.inr rfl)) (jb_cons (js_setLc (i := 7) (own := [("_law_k", 8)]) rfl sc__law_twins.nd rfl rfl (sw_true rfl rfl rfl (by kernel_rfl)) (ji_range (by rfl) T.range (je_len (by rfl) T.len (ja_cons (je_var 0) ja_nil))) (blkOk_by (by kernel_rfl)) (fun _ _ _ _ _ => (jc_name (i := 8) sc__law_twins.nd rfl (by first | exact Or.inl rfl | exact Or.inr rfl))) (fun _ _ _ _ _ => (jts_one (jt_eq (je_ix (je_ix (je_var 5) (je_var 6)) (je_var 8)) je_int))) (fun _ _ _ _ _ => (je_ix (je_var 0) (je_var 8))))
    (jb_cons (js_if (jt_neD (huR hr) (je_lc (own := [("_law_part", 9)]) rfl sc__law_twins.nd (ji_seq (je_var 0)) (blkOk_by (by kernel_rfl)) (fun _ _ _ _ _ => (jc_name (i := 9) sc__law_twins.nd rfl (by first | exact Or.inl rfl | exact Or.inr rfl))) (fun _ _ _ _ _ => jts_nil) (fun _ _ _ _ _ => (je_len (by rfl) T.len (ja_cons (je_var 9) ja_nil)))) (je_rep (je_lst (ja_cons (je_var 4) ja_nil)) (je_len (by rfl) T.len (ja_cons (je_var 0) ja_nil)))) (jb_one (js_ret je_bl)) jb_nil)
    (jb_one (js_if (jt_neD (huR hr) (jk_call G__law_bare (hr.mono (by decide)) (by rfl) (ja_cons (je_var 2) (ja_cons (je_frz (jk_call G__law_added (hr.mono (by decide)) (by rfl) (ja_cons (je_var 7) (ja_cons (je_var 4) ja_nil)))) (ja_cons (je_var 3) ja_nil)))) (je_ix (je_var 1) (je_var 6))) (jb_one (js_ret je_bl)) jb_nil)))))
    (jb_one (js_ret je_bl)))))) : JB K (cxOf CX0 P w K mg base ["_law_twins_here", "_law_runs_here", "_law_others", "_law_beats", "_law_size", "_law_states", "_law_at", "_law_parts", "_law_k", "_law_part"] "_law_twins" (defScope s__law_twins) f cdv A outer s H E).nox (defBody s__law_twins) _ (b__law_twins c__law_bare c__law_added c__law_all))⟩
end
end BB
end
section
/-! the walks (printed by gen.py) -/
namespace BB
open PySem PySem.Spec PyProof.Rows L2 DL
section
variable {P : Program} {w : World} {K : PySem.W.Frag} {mg : Str → Option Value} {base : Heap}
theorem sc__law_against : FnScope ["_law_looks", "_law_run_here", "_law_others", "_law_beats", "_law_order", "_law_out", "_law_beat", "_law_one", "_law_at", "_law_here", "_law_k", "_law_bare_here"] ["_law_looks", "_law_run_here", "_law_others", "_law_beats"] (defScope s__law_against) := ⟨rfl, rfl, rfl, by decide +kernel, rfl, by decide +kernel, by decide +kernel⟩
theorem w__law_against {c__law_bare c__law_against : CT} {dvs : List V} {kws : List (Str × V)} {f : Addr} {fd : FuncData} (T : TX K mg) (G__law_bare : FnK P w K mg base 4 "_law_bare" ["_law_tables_here", "_law_here", "_law_beats"] c__law_bare) (F : FunD K "_law_against" "_law_against" (defArgs s__law_against) (defBody s__law_against) (defScope s__law_against) dvs kws f fd) (len : ∀ ds M Q, c__law_against ds M Q → ds.length = 4) (keeps : Keeps 12 (b__law_against c__law_bare) c__law_against) : FnOk P w K mg base CX0 5 f fd ["_law_looks", "_law_run_here", "_law_others", "_law_beats"] (spD K c__law_against) :=
  fn_ok F sc__law_against len keeps fun cdv A outer s H E hr => ⟨_, ((jb_cons (js_setLc (i := 4) (own := [("_law_out", 5), ("_law_beat", 6)]) rfl sc__law_against.nd rfl rfl (sw_true rfl rfl rfl (by kernel_rfl)) (ji_seq (je_var 0)) (blkOk_by (by kernel_rfl)) (fun _ _ _ _ _ => (jc_tup rfl (nms_cons (pg_name (i := 5) sc__law_against.nd rfl (by first | exact Or.inl rfl | exact Or.inr rfl)) (nms_cons (pg_name (i := 6) sc__law_against.nd rfl (by first | exact Or.inl rfl | exact Or.inr rfl)) .nil)))) (fun _ _ _ _ _ => jts_nil) (fun _ _ _ _ _ => (je_tup (ja_cons (je_var 6) (ja_cons (je_var 5) ja_nil)))))
    (jb_cons (js_if (JW.jt (jw_or (jt_not (jt_val (je_isTup (a2 := .Name "tuple" ⟨0, 0, 0, 0⟩) (by rfl) T.isinstance (by rfl) T.tuple (je_var 0)))) (jw_or1 (jt_neD (huR hr) (je_var 4) (je_sortSet rfl (huR hr) (by rfl) T.sorted (by rfl) T.set (je_var 4)))))) (jb_one (js_ret je_bl)) jb_nil)
    (jb_cons (js_if (jt_neD (huR hr) (je_lc (own := [("_law_one", 7)]) rfl sc__law_against.nd (ji_seq (je_var 4)) (blkOk_by (by kernel_rfl)) (fun _ _ _ _ _ => (jc_name (i := 7) sc__law_against.nd rfl (by first | exact Or.inl rfl | exact Or.inr rfl))) (fun _ _ _ _ _ => (jts_one (JW.jt (jw_or (jt_notInRng (je_ix (je_var 7) je_int) (je_var 3) (by rfl) T.range) (jw_or1 (jt_notInRng (je_ix (je_var 7) je_int) (je_ix (je_var 2) je_int) (by rfl) T.range)))))) (fun _ _ _ _ _ => (je_var 7))) (je_lst ja_nil)) (jb_one (js_ret je_bl)) jb_nil)
    (jb_cons (js_for PassesOwn.never rfl (ji_range (by rfl) T.range (je_len (by rfl) T.len (ja_cons (je_ix (je_var 2) je_int) ja_nil))) (jg_name (i := 8) sc__law_against.nd rfl (by first | exact Or.inl rfl | exact Or.inr rfl)) (jb_cons (js_setLc (i := 9) (own := [("_law_k", 10)]) rfl sc__law_against.nd rfl rfl (sw_true rfl rfl rfl (by kernel_rfl)) (ji_range (by rfl) T.range (je_len (by rfl) T.len (ja_cons (je_ix (je_var 2) je_int) ja_nil))) (blkOk_by (by kernel_rfl)) (fun _ _ _ _ _ => (jc_name (i := 10) sc__law_against.nd rfl (by first | exact Or.inl rfl | exact Or.inr rfl))) (fun _ _ _ _ _ => jts_nil) (fun _ _ _ _ _ => (je_intOf (by rfl) T.int (ja_cons (je_eq (je_var 10) (je_var 8)) ja_nil))))
    (jb_cons (js_set (i := 11) sc__law_against.nd rfl (by first | exact Or.inl rfl | exact Or.inr rfl) (jk_call G__law_bare (hr.mono (by decide)) (by rfl) (ja_cons (je_var 2) (ja_cons (je_var 9) (ja_cons (je_var 3) ja_nil)))))
    (jb_one (js_if (jt_ne (je_and (je_sum rfl (by rfl) T.sum (ja_cons (je_lc (own := [("_law_out", 5), ("_law_beat", 6)]) rfl sc__law_against.nd (ji_seq (je_var 0)) (blkOk_by (by kernel_rfl)) (fun _ _ _ _ _ => (jc_tup rfl (nms_cons (pg_name (i := 5) sc__law_against.nd rfl (by first | exact Or.inl rfl | exact Or.inr rfl)) (nms_cons (pg_name (i := 6) sc__law_against.nd rfl (by first | exact Or.inl rfl | exact Or.inr rfl)) .nil)))) (fun _ _ _ _ _ => jts_nil) (fun _ _ _ _ _ => (je_ix (je_ix (je_var 11) (je_var 6)) (je_var 5)))) ja_nil)) je_int) je_int) (jb_one (js_ret je_bl)) jb_nil)))))
    (jb_one (js_ret (je_eq (je_and (je_sum rfl (by rfl) T.sum (ja_cons (je_lc (own := [("_law_out", 5), ("_law_beat", 6)]) rfl sc__law_against.nd (ji_seq (je_var 0)) (blkOk_by (by kernel_rfl)) (fun _ _ _ _ _ => (jc_tup rfl (nms_cons (pg_name (i := 5) sc__law_against.nd rfl (by first | exact Or.inl rfl | exact Or.inr rfl)) (nms_cons (pg_name (i := 6) sc__law_against.nd rfl (by first | exact Or.inl rfl | exact Or.inr rfl)) .nil)))) (fun _ _ _ _ _ => jts_nil) (fun _ _ _ _ _ => (je_ix (je_ix (je_var 1) (je_var 6)) (je_var 5)))) ja_nil)) je_int) je_int))))))) : JB K (cxOf CX0 P w K mg base ["_law_looks", "_law_run_here", "_law_others", "_law_beats", "_law_order", "_law_out", "_law_beat", "_law_one", "_law_at", "_law_here", "_law_k", "_law_bare_here"] "_law_against" (defScope s__law_against) f cdv A outer s H E).nox (defBody s__law_against) _ (b__law_against c__law_bare))⟩
end
end BB
end
section
/-! the walks (printed by gen.py) -/
namespace BB
open PySem PySem.Spec PyProof.Rows L2 DL
section
variable {P : Program} {w : World} {K : PySem.W.Frag} {mg : Str → Option Value} {base : Heap}
theorem sc_law : FnScope ["_law_script", "_law_pen", "_law_one", "_law_other_here", "_law_tables_here", "_law_told", "_law_due", "_law_beats", "_law_runs_here", "_law_lost", "_law_side", "_law_run_here", "_law_here"] ["_law_script"] (defScope s_law) := ⟨rfl, rfl, rfl, by decide +kernel, rfl, by decide +kernel, by decide +kernel⟩
theorem w_law {c__law_against c__law_bare c__law_twins c__law_runs c__law_difference c_from_all c_Net___init__ c__law_tables c__law_pair c_law : CT} {dvs : List V} {kws : List (Str × V)} {f : Addr} {fd : FuncData} (T : TX K mg) (G__law_against : FnK P w K mg base 5 "_law_against" ["_law_looks", "_law_run_here", "_law_others", "_law_beats"] c__law_against) (G__law_bare : FnK P w K mg base 4 "_law_bare" ["_law_tables_here", "_law_here", "_law_beats"] c__law_bare) (G__law_twins : FnK P w K mg base 5 "_law_twins" ["_law_twins_here", "_law_runs_here", "_law_others", "_law_beats"] c__law_twins) (G__law_runs : FnK P w K mg base 5 "_law_runs" ["_law_tables_here", "_law_beats"] c__law_runs) (G__law_difference : FnK P w K mg base 6 "_law_difference" ["_law_tables_here", "_law_others"] c__law_difference) (G_from_all : FnK P w K mg base 8 "from_all" ["one", "other"] c_from_all) (F_Net2 : MkK P w K mg base 7 952 "Net" ["self", "wires", "outs"] c_Net___init__ [] []) (G__law_tables : FnK P w K mg base 4 "_law_tables" ["_law_wires_here", "_law_outs"] c__law_tables) (G__law_pair : FnK P w K mg base 6 "_law_pair" ["_law_pen"] c__law_pair) (F : FunD K "law" "law" (defArgs s_law) (defBody s_law) (defScope s_law) dvs kws f fd) (len : ∀ ds M Q, c_law ds M Q → ds.length = 1) (keeps : Keeps 13 (b_law c__law_against c__law_bare c__law_twins c__law_runs c__law_difference c_from_all c_Net___init__ c__law_tables c__law_pair) c_law) : FnOk P w K mg base CX0 9 f fd ["_law_script"] (spD K c_law) :=
  fn_ok F sc_law len keeps fun cdv A outer s H E hr => ⟨_, ((jb_cons (js_set (i := 1) sc_law.nd rfl (by first | exact Or.inl rfl | exact Or.inr rfl) (je_lstM (ja_cons (je_orL (je_listScr (by rfl) T.list (ja_cons (je_var 0) ja_nil)) (je_one (je_lstM (ja_cons je_int ja_nil)))) (ja_cons je_int ja_nil))))
    (jb_cons (js_asg (jk_call G__law_pair (hr.mono (by decide)) (by rfl) (ja_cons (je_var 1) ja_nil)) (jg_tup rfl (nms_cons (pg_name (i := 2) sc_law.nd rfl (by first | exact Or.inl rfl | exact Or.inr rfl)) (nms_cons (pg_name (i := 3) sc_law.nd rfl (by first | exact Or.inl rfl | exact Or.inr rfl)) .nil))))
    (jb_cons (js_set (i := 4) sc_law.nd rfl (by first | exact Or.inl rfl | exact Or.inr rfl) (je_lst (ja_cons (jk_call G__law_tables (hr.mono (by decide)) (by rfl) (ja_cons (je_ix (je_var 2) je_int) (ja_cons (je_ix (je_var 2) je_int) ja_nil))) (ja_cons (jk_call G__law_tables (hr.mono (by decide)) (by rfl) (ja_cons (je_ix (je_var 3) je_int) (ja_cons (je_ix (je_var 3) je_int) ja_nil))) ja_nil))))
    (jb_cons (js_set (i := 5) sc_law.nd rfl (by first | exact Or.inl rfl | exact Or.inr rfl) (jk_call G_from_all (hr.mono (by decide)) (by rfl) (ja_cons (jk_make F_Net2 (hr.mono (by decide)) (by rfl) (ja_cons (je_ix (je_var 2) je_int) (ja_cons (je_ix (je_var 2) je_int) ja_nil))) (ja_cons (jk_make F_Net2 (hr.mono (by decide)) (by rfl) (ja_cons (je_ix (je_var 3) je_int) (ja_cons (je_ix (je_var 3) je_int) ja_nil))) ja_nil))))
    (jb_cons (js_set (i := 6) sc_law.nd rfl (by first | exact Or.inl rfl | exact Or.inr rfl) (jk_call G__law_difference (hr.mono (by decide)) (by rfl) (ja_cons (je_ix (je_var 4) je_int) (ja_cons (je_ix (je_var 4) je_int) ja_nil))))
    (jb_cons (js_if (jt_neD (huR hr) (je_fld T.cFromAll (T.na (1004, "difference") (by decide)) (je_var 5)) (je_var 6)) (jb_one (js_ret je_bl)) jb_nil)
    (jb_cons (js_if (jt_notN (je_var 6)) (jb_one (js_ret (je_andV (je_eqD (huR hr) (je_lst (ja_cons (je_fld T.cFromAll (T.na (1004, "there") (by decide)) (je_var 5)) (ja_cons (je_fld T.cFromAll (T.na (1004, "back") (by decide)) (je_var 5)) (ja_cons (je_fld T.cFromAll (T.na (1004, "side") (by decide)) (je_var 5)) (ja_cons (je_fld T.cFromAll (T.na (1004, "looks") (by decide)) (je_var 5)) ja_nil))))) (je_rep (je_lst (ja_cons je_non ja_nil)) je_int)) (je_one (je_isN (je_fld T.cFromAll (T.na (1004, "state") (by decide)) (je_var 5))))))) jb_nil)
    (jb_cons (js_set (i := 7) sc_law.nd rfl (by first | exact Or.inl rfl | exact Or.inr rfl) (je_add (je_len (by rfl) T.len (ja_cons (je_ix (je_ix (je_var 4) je_int) je_int) ja_nil)) (je_len (by rfl) T.len (ja_cons (je_ix (je_ix (je_var 4) je_int) je_int) ja_nil))))
    (jb_cons (js_set (i := 8) sc_law.nd rfl (by first | exact Or.inl rfl | exact Or.inr rfl) (je_lst (ja_cons (jk_call G__law_runs (hr.mono (by decide)) (by rfl) (ja_cons (je_ix (je_var 4) je_int) (ja_cons (je_var 7) ja_nil))) (ja_cons (jk_call G__law_runs (hr.mono (by decide)) (by rfl) (ja_cons (je_ix (je_var 4) je_int) (ja_cons (je_var 7) ja_nil))) ja_nil))))
    (jb_cons (js_setLc (i := 9) (own := [("_law_side", 10)]) rfl sc_law.nd rfl rfl (sw_true rfl rfl rfl (by kernel_rfl)) (ji_range (by rfl) T.range je_int) (blkOk_by (by kernel_rfl)) (fun _ _ _ _ _ => (jc_name (i := 10) sc_law.nd rfl (by first | exact Or.inl rfl | exact Or.inr rfl))) (fun _ _ _ _ _ => (jts_one (jt_neD (huR hr) (je_lc (own := [("_law_run_here", 11)]) rfl sc_law.nd (ji_seq (je_ix (je_var 8) (je_var 10))) (blkOk_by (by kernel_rfl)) (fun _ _ _ _ _ => (jc_name (i := 11) sc_law.nd rfl (by first | exact Or.inl rfl | exact Or.inr rfl))) (fun _ _ _ _ _ => (jts_one (jt_notInD (huR hr) (je_var 11) (je_ix (je_var 8) (je_sub je_int (je_var 10)))))) (fun _ _ _ _ _ => (je_var 11))) (je_lst ja_nil)))) (fun _ _ _ _ _ => (je_var 10)))
    (jb_cons (js_if (jt_eqD (huR hr) (je_var 9) (je_lst ja_nil)) (jb_cons (js_if (JW.jt (jw_or (jt_notN (je_fld T.cFromAll (T.na (1004, "side") (by decide)) (je_var 5))) (jw_or (jt_notN (je_fld T.cFromAll (T.na (1004, "looks") (by decide)) (je_var 5))) (jw_or1 (jt_notN (je_fld T.cFromAll (T.na (1004, "state") (by decide)) (je_var 5))))))) (jb_one (js_ret je_bl)) jb_nil)
    (jb_cons (js_if (jt_not (jt_val (jk_call G__law_twins (hr.mono (by decide)) (by rfl) (ja_cons (je_fld T.cFromAll (T.na (1004, "there") (by decide)) (je_var 5)) (ja_cons (je_ix (je_var 8) je_int) (ja_cons (je_ix (je_var 4) je_int) (ja_cons (je_var 7) ja_nil))))))) (jb_one (js_ret je_bl)) jb_nil)
    (jb_one (js_ret (jk_call G__law_twins (hr.mono (by decide)) (by rfl) (ja_cons (je_fld T.cFromAll (T.na (1004, "back") (by decide)) (je_var 5)) (ja_cons (je_ix (je_var 8) je_int) (ja_cons (je_ix (je_var 4) je_int) (ja_cons (je_var 7) ja_nil))))))))) jb_nil)
    (jb_cons (js_if (JW.jt (jw_or (jt_ne (je_fld T.cFromAll (T.na (1004, "side") (by decide)) (je_var 5)) (je_ix (je_var 9) je_int)) (jw_or (jt_notN (je_fld T.cFromAll (T.na (1004, "there") (by decide)) (je_var 5))) (jw_or1 (jt_notN (je_fld T.cFromAll (T.na (1004, "back") (by decide)) (je_var 5))))))) (jb_one (js_ret je_bl)) jb_nil)
    (jb_cons (js_set (i := 12) sc_law.nd rfl (by first | exact Or.inl rfl | exact Or.inr rfl) (je_fld T.cFromAll (T.na (1004, "state") (by decide)) (je_var 5)))
    (jb_cons (js_if (JW.jt (jw_or (jt_not (jt_val (je_isTup (a2 := .Name "tuple" ⟨0, 0, 0, 0⟩) (by rfl) T.isinstance (by rfl) T.tuple (je_var 12)))) (jw_or1 (jt_ne (je_len (by rfl) T.len (ja_cons (je_var 12) ja_nil)) (je_len (by rfl) T.len (ja_cons (je_ix (je_ix (je_var 4) (je_ix (je_var 9) je_int)) je_int) ja_nil)))))) (jb_one (js_ret je_bl)) jb_nil)
    (jb_cons (js_set (i := 11) sc_law.nd rfl (by first | exact Or.inl rfl | exact Or.inr rfl) (jk_call G__law_bare (hr.mono (by decide)) (by rfl) (ja_cons (je_ix (je_var 4) (je_ix (je_var 9) je_int)) (ja_cons (je_var 12) (ja_cons (je_var 7) ja_nil)))))
    (jb_one (js_ret (jk_call G__law_against (hr.mono (by decide)) (by rfl) (ja_cons (je_fld T.cFromAll (T.na (1004, "looks") (by decide)) (je_var 5)) (ja_cons (je_var 11) (ja_cons (je_ix (je_var 4) (je_sub je_int (je_ix (je_var 9) je_int))) (ja_cons (je_var 7) ja_nil)))))))))))))))))))))) : JB K (cxOf CX0 P w K mg base ["_law_script", "_law_pen", "_law_one", "_law_other_here", "_law_tables_here", "_law_told", "_law_due", "_law_beats", "_law_runs_here", "_law_lost", "_law_side", "_law_run_here", "_law_here"] "law" (defScope s_law) f cdv A outer s H E).nox (defBody s_law) _ (b_law c__law_against c__law_bare c__law_twins c__law_runs c__law_difference c_from_all c_Net___init__ c__law_tables c__law_pair))⟩
end
end BB
end
/-! the promises in the world that the top leaves (printed by gen_all.py) -/
namespace BB
open PySem PySem.Spec PyProof.Rows L2 DL
/-- the world behind the top, by its facts -/
def Tp (K : PySem.W.Frag) (mg : Str → Option Value) : Prop := ∃ h : Heap, K.In h ∧ h.Ns mainGlobals mg ∧ lookAt qs ds K = wanted ds
section
variable {P : Program} {w : World} {K : PySem.W.Frag} {mg : Str → Option Value} {base : Heap}
theorem Tp.glo (t : Tp K mg) (i : Nat) {x : Str} {a : Addr} (h : qs[i]? = some (.glo x a) := by rfl) : mg x = some (.ref a) := by
  obtain ⟨_, X, G, c⟩ := t
  exact Ask.gloOk X G (asked c i h)
theorem Tp.free (t : Tp K mg) (i : Nat) {x : Str} (h : qs[i]? = some (.free x) := by rfl) : mg x = none := by
  obtain ⟨_, X, G, c⟩ := t
  exact Ask.freeOk X G (asked c i h)
theorem Tp.cls (t : Tp K mg) (i : Nat) {C : Addr} (h : qs[i]? = some (.cls C) := by rfl) : Cls K C := by
  obtain ⟨_, _, _, c⟩ := t
  exact Ask.clsOk (asked c i h)
theorem Tp.noat (t : Tp K mg) (i : Nat) {C : Addr} {f : Str} (h : qs[i]? = some (.noat C f) := by rfl) : NoAttr K C f := by
  obtain ⟨_, _, _, c⟩ := t
  exact Ask.noatOk (asked c i h)
theorem Tp.meth (t : Tp K mg) (i : Nat) {C a : Addr} {f : Str} (h : qs[i]? = some (.meth C f a) := by rfl) : Meth K C f a := by
  obtain ⟨_, _, _, c⟩ := t
  exact Ask.methOk (asked c i h)
theorem Tp.mkr (t : Tp K mg) (i : Nat) {C a : Addr} (h : qs[i]? = some (.mkr C a) := by rfl) : Mk K C a := by
  obtain ⟨_, _, _, c⟩ := t
  exact Ask.mkrOk (asked c i h)
theorem Tp.tup (t : Tp K mg) (i : Nat) {a : Addr} {vs : List V} (H : Hp) (h : qs[i]? = some (.tup a vs) := by rfl) : SqT K H a vs := by
  obtain ⟨_, _, _, c⟩ := t
  exact Ask.tupOk (asked c i h) H
theorem Tp.def_ (t : Tp K mg) (i : Nat) {d : DA} (h : ds[i]? = some d := by rfl) : ∃ fd, FunD K d.name d.qual (defArgs d.st) (defBody d.st) (defScope d.st) d.dfl [] d.addr fd := by
  obtain ⟨_, _, _, c⟩ := t
  exact defAt c i h
theorem tx (t : Tp K mg) : TX K mg where
  len := t.free 95
  range := t.free 96
  enumerate := t.free 97
  zip := t.free 98
  tuple := t.free 99
  list := t.free 100
  int := t.free 101
  sum := t.free 102
  any := t.free 103
  all := t.free 104
  max := t.free 105
  isinstance := t.free 106
  sorted := t.free 107
  set := t.free 108
  cSpan := t.cls 53
  cTable := t.cls 58
  cMotion := t.cls 66
  cNet := t.cls 73
  cFromAll := t.cls 82
  na := by
    intro x hx
    simp only [List.mem_cons, List.not_mem_nil, or_false] at hx
    rcases hx with rfl | rfl | rfl | rfl | rfl | rfl | rfl | rfl | rfl | rfl | rfl | rfl | rfl | rfl | rfl | rfl | rfl | rfl | rfl | rfl | rfl | rfl | rfl
    · exact t.noat 55
    · exact t.noat 56
    · exact t.noat 60
    · exact t.noat 61
    · exact t.noat 62
    · exact t.noat 63
    · exact t.noat 64
    · exact t.noat 68
    · exact t.noat 69
    · exact t.noat 70
    · exact t.noat 71
    · exact t.noat 75
    · exact t.noat 76
    · exact t.noat 77
    · exact t.noat 78
    · exact t.noat 79
    · exact t.noat 80
    · exact t.noat 84
    · exact t.noat 85
    · exact t.noat 86
    · exact t.noat 87
    · exact t.noat 88
    · exact t.noat 89
theorem f__law_added (t : Tp K mg) : ∃ fd, FnOk P w K mg base CX0 1 1074 fd ["_law_rows", "_law_size"] (spD K c__law_added) ∧ FunD K d__law_added.name d__law_added.qual (defArgs s__law_added) (defBody s__law_added) (defScope s__law_added) d__law_added.dfl [] 1074 fd := by
  obtain ⟨fd, F⟩ := t.def_ 40 (d := d__law_added)
  exact ⟨fd, w__law_added (tx t) F l__law_added k__law_added, F⟩
theorem g__law_added (t : Tp K mg) : FnK P w K mg base 1 "_law_added" ["_law_rows", "_law_size"] c__law_added := by
  obtain ⟨fd, G, F⟩ := f__law_added (P := P) (w := w) (base := base) t
  exact ⟨1074, fd, G, t.glo 30, F.kp, F.bindsN fun _ _ _ _ _ _ us hl => match us, hl with | [_, _], _ => rfl⟩
theorem f__law_step (t : Tp K mg) : ∃ fd, FnOk P w K mg base CX0 2 1079 fd ["_law_tables_here", "_law_here", "_law_bits_here"] (spD K c__law_step) ∧ FunD K d__law_step.name d__law_step.qual (defArgs s__law_step) (defBody s__law_step) (defScope s__law_step) d__law_step.dfl [] 1079 fd := by
  obtain ⟨fd, F⟩ := t.def_ 41 (d := d__law_step)
  exact ⟨fd, w__law_step (tx t) (g__law_added t) F l__law_step k__law_step, F⟩
theorem g__law_step (t : Tp K mg) : FnK P w K mg base 2 "_law_step" ["_law_tables_here", "_law_here", "_law_bits_here"] c__law_step := by
  obtain ⟨fd, G, F⟩ := f__law_step (P := P) (w := w) (base := base) t
  exact ⟨1079, fd, G, t.glo 31, F.kp, F.bindsN fun _ _ _ _ _ _ us hl => match us, hl with | [_, _, _], _ => rfl⟩
theorem f__law_run (t : Tp K mg) : ∃ fd, FnOk P w K mg base CX0 3 1086 fd ["_law_tables_here", "_law_here", "_law_rows"] (spD K c__law_run) ∧ FunD K d__law_run.name d__law_run.qual (defArgs s__law_run) (defBody s__law_run) (defScope s__law_run) d__law_run.dfl [] 1086 fd := by
  obtain ⟨fd, F⟩ := t.def_ 42 (d := d__law_run)
  exact ⟨fd, w__law_run (tx t) (g__law_step t) F l__law_run k__law_run, F⟩
theorem g__law_run (t : Tp K mg) : FnK P w K mg base 3 "_law_run" ["_law_tables_here", "_law_here", "_law_rows"] c__law_run := by
  obtain ⟨fd, G, F⟩ := f__law_run (P := P) (w := w) (base := base) t
  exact ⟨1086, fd, G, t.glo 32, F.kp, F.bindsN fun _ _ _ _ _ _ us hl => match us, hl with | [_, _, _], _ => rfl⟩
theorem f__law_bare (t : Tp K mg) : ∃ fd, FnOk P w K mg base CX0 4 1093 fd ["_law_tables_here", "_law_here", "_law_beats"] (spD K c__law_bare) ∧ FunD K d__law_bare.name d__law_bare.qual (defArgs s__law_bare) (defBody s__law_bare) (defScope s__law_bare) d__law_bare.dfl [] 1093 fd := by
  obtain ⟨fd, F⟩ := t.def_ 43 (d := d__law_bare)
  exact ⟨fd, w__law_bare (tx t) (g__law_run t) F l__law_bare k__law_bare, F⟩
theorem g__law_bare (t : Tp K mg) : FnK P w K mg base 4 "_law_bare" ["_law_tables_here", "_law_here", "_law_beats"] c__law_bare := by
  obtain ⟨fd, G, F⟩ := f__law_bare (P := P) (w := w) (base := base) t
  exact ⟨1093, fd, G, t.glo 33, F.kp, F.bindsN fun _ _ _ _ _ _ us hl => match us, hl with | [_, _, _], _ => rfl⟩
theorem f__law_against (t : Tp K mg) : ∃ fd, FnOk P w K mg base CX0 5 1188 fd ["_law_looks", "_law_run_here", "_law_others", "_law_beats"] (spD K c__law_against) ∧ FunD K d__law_against.name d__law_against.qual (defArgs s__law_against) (defBody s__law_against) (defScope s__law_against) d__law_against.dfl [] 1188 fd := by
  obtain ⟨fd, F⟩ := t.def_ 60 (d := d__law_against)
  exact ⟨fd, w__law_against (tx t) (g__law_bare t) F l__law_against k__law_against, F⟩
theorem g__law_against (t : Tp K mg) : FnK P w K mg base 5 "_law_against" ["_law_looks", "_law_run_here", "_law_others", "_law_beats"] c__law_against := by
  obtain ⟨fd, G, F⟩ := f__law_against (P := P) (w := w) (base := base) t
  exact ⟨1188, fd, G, t.glo 50, F.kp, F.bindsN fun _ _ _ _ _ _ us hl => match us, hl with | [_, _, _, _], _ => rfl⟩
theorem f__law_all (t : Tp K mg) : ∃ fd, FnOk P w K mg base CX0 1 1173 fd ["_law_size"] (spD K c__law_all) ∧ FunD K d__law_all.name d__law_all.qual (defArgs s__law_all) (defBody s__law_all) (defScope s__law_all) d__law_all.dfl [] 1173 fd := by
  obtain ⟨fd, F⟩ := t.def_ 57 (d := d__law_all)
  exact ⟨fd, w__law_all (tx t) F l__law_all k__law_all, F⟩
theorem g__law_all (t : Tp K mg) : FnK P w K mg base 1 "_law_all" ["_law_size"] c__law_all := by
  obtain ⟨fd, G, F⟩ := f__law_all (P := P) (w := w) (base := base) t
  exact ⟨1173, fd, G, t.glo 47, F.kp, F.bindsN fun _ _ _ _ _ _ us hl => match us, hl with | [_], _ => rfl⟩
theorem f__law_twins (t : Tp K mg) : ∃ fd, FnOk P w K mg base CX0 5 1183 fd ["_law_twins_here", "_law_runs_here", "_law_others", "_law_beats"] (spD K c__law_twins) ∧ FunD K d__law_twins.name d__law_twins.qual (defArgs s__law_twins) (defBody s__law_twins) (defScope s__law_twins) d__law_twins.dfl [] 1183 fd := by
  obtain ⟨fd, F⟩ := t.def_ 59 (d := d__law_twins)
  exact ⟨fd, w__law_twins (tx t) (g__law_bare t) (g__law_added t) (g__law_all t) F l__law_twins k__law_twins, F⟩
theorem g__law_twins (t : Tp K mg) : FnK P w K mg base 5 "_law_twins" ["_law_twins_here", "_law_runs_here", "_law_others", "_law_beats"] c__law_twins := by
  obtain ⟨fd, G, F⟩ := f__law_twins (P := P) (w := w) (base := base) t
  exact ⟨1183, fd, G, t.glo 49, F.kp, F.bindsN fun _ _ _ _ _ _ us hl => match us, hl with | [_, _, _, _], _ => rfl⟩
theorem f__law_runs (t : Tp K mg) : ∃ fd, FnOk P w K mg base CX0 5 1178 fd ["_law_tables_here", "_law_beats"] (spD K c__law_runs) ∧ FunD K d__law_runs.name d__law_runs.qual (defArgs s__law_runs) (defBody s__law_runs) (defScope s__law_runs) d__law_runs.dfl [] 1178 fd := by
  obtain ⟨fd, F⟩ := t.def_ 58 (d := d__law_runs)
  exact ⟨fd, w__law_runs (tx t) (g__law_all t) (g__law_bare t) F l__law_runs k__law_runs, F⟩
theorem g__law_runs (t : Tp K mg) : FnK P w K mg base 5 "_law_runs" ["_law_tables_here", "_law_beats"] c__law_runs := by
  obtain ⟨fd, G, F⟩ := f__law_runs (P := P) (w := w) (base := base) t
  exact ⟨1178, fd, G, t.glo 48, F.kp, F.bindsN fun _ _ _ _ _ _ us hl => match us, hl with | [_, _], _ => rfl⟩
theorem f__law_answer (t : Tp K mg) : ∃ fd, FnOk P w K mg base CX0 5 1163 fd ["_law_tables_here", "_law_put", "_law_beats"] (spD K c__law_answer) ∧ FunD K d__law_answer.name d__law_answer.qual (defArgs s__law_answer) (defBody s__law_answer) (defScope s__law_answer) d__law_answer.dfl [] 1163 fd := by
  obtain ⟨fd, F⟩ := t.def_ 55 (d := d__law_answer)
  exact ⟨fd, w__law_answer (tx t) (g__law_bare t) F l__law_answer k__law_answer, F⟩
theorem g__law_answer (t : Tp K mg) : FnK P w K mg base 5 "_law_answer" ["_law_tables_here", "_law_put", "_law_beats"] c__law_answer := by
  obtain ⟨fd, G, F⟩ := f__law_answer (P := P) (w := w) (base := base) t
  exact ⟨1163, fd, G, t.glo 45, F.kp, F.bindsN fun _ _ _ _ _ _ us hl => match us, hl with | [_, _, _], _ => rfl⟩
theorem f__law_difference (t : Tp K mg) : ∃ fd, FnOk P w K mg base CX0 6 1168 fd ["_law_tables_here", "_law_others"] (spD K c__law_difference) ∧ FunD K d__law_difference.name d__law_difference.qual (defArgs s__law_difference) (defBody s__law_difference) (defScope s__law_difference) d__law_difference.dfl [] 1168 fd := by
  obtain ⟨fd, F⟩ := t.def_ 56 (d := d__law_difference)
  exact ⟨fd, w__law_difference (tx t) (g__law_added t) (g__law_answer t) F l__law_difference k__law_difference, F⟩
theorem g__law_difference (t : Tp K mg) : FnK P w K mg base 6 "_law_difference" ["_law_tables_here", "_law_others"] c__law_difference := by
  obtain ⟨fd, G, F⟩ := f__law_difference (P := P) (w := w) (base := base) t
  exact ⟨1168, fd, G, t.glo 46, F.kp, F.bindsN fun _ _ _ _ _ _ us hl => match us, hl with | [_, _], _ => rfl⟩
theorem f_FromAll___init__ (t : Tp K mg) : ∃ fd, FnOk P w K mg base CX0 1 1001 fd ["self", "twins", "difference", "side", "against"] (spD K c_FromAll___init__) ∧ FunD K d_FromAll___init__.name d_FromAll___init__.qual (defArgs s_FromAll___init__) (defBody s_FromAll___init__) (defScope s_FromAll___init__) d_FromAll___init__.dfl [] 1001 fd := by
  obtain ⟨fd, F⟩ := t.def_ 28 (d := d_FromAll___init__)
  exact ⟨fd, w_FromAll___init__ (tx t) F l_FromAll___init__ k_FromAll___init__, F⟩
theorem k_FromAll1 (t : Tp K mg) : MkK P w K mg base 1 1004 "FromAll" ["self", "twins", "difference", "side", "against"] c_FromAll___init__ [V.non, V.non, V.ref 993] [D.non, D.non, D.tup [.non, .non]] := by
  obtain ⟨fd, G, F⟩ := f_FromAll___init__ (P := P) (w := w) (base := base) t
  obtain ⟨ds, v, b⟩ := FunD.binds1 (ps := ["self", "twins", "difference", "side", "against"]) F 2 0 (by intro h; cases h) (by rfl) fun _ _ _ _ _ _ _ us its hu hi => match us, its, hu, hi with | [_, _], [_, _, _], _, _ => ⟨_, rfl, rfl⟩
  exact ⟨1001, fd, ds, G, t.mkr 83, t.glo 81, b, v, fun Hc => (.cons .non (.cons .non (.cons (.tup (t.tup 110 Hc) (by decide) (.cons .non (.cons .non .nil))) .nil))), fun _ _ _ ⟨p, t, b, d, s, x, l, a, c, h⟩ => ⟨p, t, b, d, s, x, l, a, c, rfl, h⟩⟩
theorem k_FromAll4 (t : Tp K mg) : MkK P w K mg base 1 1004 "FromAll" ["self", "twins", "difference", "side", "against"] c_FromAll___init__ [] [] := by
  obtain ⟨fd, G, F⟩ := f_FromAll___init__ (P := P) (w := w) (base := base) t
  obtain ⟨ds, v, b⟩ := FunD.binds1 (ps := ["self", "twins", "difference", "side", "against"]) F 5 3 (by intro h; cases h) (by rfl) fun _ _ _ _ _ _ _ us its hu hi => match us, its, hu, hi with | [_, _, _, _, _], [_, _, _], _, _ => ⟨_, rfl, rfl⟩
  exact ⟨1001, fd, ds, G, t.mkr 83, t.glo 81, b, v, fun Hc => .nil, fun _ _ _ ⟨p, t, b, d, s, x, l, a, c, h⟩ => ⟨p, t, b, d, s, x, l, a, c, rfl, h⟩⟩
theorem f_bits_of (t : Tp K mg) : ∃ fd, FnOk P w K mg base CX0 1 33 fd ["number", "size"] (spD K c_bits_of) ∧ FunD K d_bits_of.name d_bits_of.qual (defArgs s_bits_of) (defBody s_bits_of) (defScope s_bits_of) d_bits_of.dfl [] 33 fd := by
  obtain ⟨fd, F⟩ := t.def_ 1 (d := d_bits_of)
  exact ⟨fd, w_bits_of (tx t) F l_bits_of k_bits_of, F⟩
theorem g_bits_of (t : Tp K mg) : FnK P w K mg base 1 "bits_of" ["number", "size"] c_bits_of := by
  obtain ⟨fd, G, F⟩ := f_bits_of (P := P) (w := w) (base := base) t
  exact ⟨33, fd, G, t.glo 1, F.kp, F.bindsN fun _ _ _ _ _ _ us hl => match us, hl with | [_, _], _ => rfl⟩
theorem f_places_of (t : Tp K mg) : ∃ fd, FnOk P w K mg base CX0 1 38 fd ["number"] (spD K c_places_of) ∧ FunD K d_places_of.name d_places_of.qual (defArgs s_places_of) (defBody s_places_of) (defScope s_places_of) d_places_of.dfl [] 38 fd := by
  obtain ⟨fd, F⟩ := t.def_ 2 (d := d_places_of)
  exact ⟨fd, w_places_of (tx t) F l_places_of k_places_of, F⟩
theorem g_places_of (t : Tp K mg) : FnK P w K mg base 1 "places_of" ["number"] c_places_of := by
  obtain ⟨fd, G, F⟩ := f_places_of (P := P) (w := w) (base := base) t
  exact ⟨38, fd, G, t.glo 2, F.kp, F.bindsN fun _ _ _ _ _ _ us hl => match us, hl with | [_], _ => rfl⟩
theorem f_Span_reduced (t : Tp K mg) : ∃ fd, FnOk P w K mg base CX0 1 82 fd ["self", "row"] (spD K c_Span_reduced) ∧ FunD K d_Span_reduced.name d_Span_reduced.qual (defArgs s_Span_reduced) (defBody s_Span_reduced) (defScope s_Span_reduced) d_Span_reduced.dfl [] 82 fd := by
  obtain ⟨fd, F⟩ := t.def_ 7 (d := d_Span_reduced)
  exact ⟨fd, w_Span_reduced (tx t) F l_Span_reduced k_Span_reduced, F⟩
theorem m_Span_reduced (t : Tp K mg) : MtK P w K mg base 1 99 "reduced" ["self", "row"] c_Span_reduced := by
  obtain ⟨fd, G, F⟩ := f_Span_reduced (P := P) (w := w) (base := base) t
  exact ⟨82, fd, G, t.cls 53, t.meth 90, F.bindsN fun _ _ _ _ _ _ us hl => match us, hl with | [_, _], _ => rfl⟩
theorem f_Span_put (t : Tp K mg) : ∃ fd, FnOk P w K mg base CX0 2 89 fd ["self", "row"] (spD K c_Span_put) ∧ FunD K d_Span_put.name d_Span_put.qual (defArgs s_Span_put) (defBody s_Span_put) (defScope s_Span_put) d_Span_put.dfl [] 89 fd := by
  obtain ⟨fd, F⟩ := t.def_ 8 (d := d_Span_put)
  exact ⟨fd, w_Span_put (tx t) (m_Span_reduced t) F l_Span_put k_Span_put, F⟩
theorem m_Span_put (t : Tp K mg) : MtK P w K mg base 2 99 "put" ["self", "row"] c_Span_put := by
  obtain ⟨fd, G, F⟩ := f_Span_put (P := P) (w := w) (base := base) t
  exact ⟨89, fd, G, t.cls 53, t.meth 91, F.bindsN fun _ _ _ _ _ _ us hl => match us, hl with | [_, _], _ => rfl⟩
theorem f_Span___init__ (t : Tp K mg) : ∃ fd, FnOk P w K mg base CX0 3 75 fd ["self", "rows"] (spD K c_Span___init__) ∧ FunD K d_Span___init__.name d_Span___init__.qual (defArgs s_Span___init__) (defBody s_Span___init__) (defScope s_Span___init__) d_Span___init__.dfl [] 75 fd := by
  obtain ⟨fd, F⟩ := t.def_ 6 (d := d_Span___init__)
  exact ⟨fd, w_Span___init__ (tx t) (m_Span_put t) F l_Span___init__ k_Span___init__, F⟩
theorem k_Span1 (t : Tp K mg) : MkK P w K mg base 3 99 "Span" ["self", "rows"] c_Span___init__ [] [] := by
  obtain ⟨fd, G, F⟩ := f_Span___init__ (P := P) (w := w) (base := base) t
  obtain ⟨ds, v, b⟩ := FunD.binds1 (ps := ["self", "rows"]) F 2 1 (by intro h; cases h) (by rfl) fun _ _ _ _ _ _ _ us its hu hi => match us, its, hu, hi with | [_, _], [_], _, _ => ⟨_, rfl, rfl⟩
  exact ⟨75, fd, ds, G, t.mkr 54, t.glo 52, b, v, fun Hc => .nil, fun _ _ _ ⟨p, n, r, s, a, b, c, d, h⟩ => ⟨p, n, r, s, a, b, c, d, fun q k u v z => ⟨rfl, h q k u v z⟩⟩⟩
theorem f_Span_made_of (t : Tp K mg) : ∃ fd, FnOk P w K mg base CX0 2 96 fd ["self", "row"] (spD K c_Span_made_of) ∧ FunD K d_Span_made_of.name d_Span_made_of.qual (defArgs s_Span_made_of) (defBody s_Span_made_of) (defScope s_Span_made_of) d_Span_made_of.dfl [] 96 fd := by
  obtain ⟨fd, F⟩ := t.def_ 9 (d := d_Span_made_of)
  exact ⟨fd, w_Span_made_of (tx t) (m_Span_reduced t) F l_Span_made_of k_Span_made_of, F⟩
theorem m_Span_made_of (t : Tp K mg) : MtK P w K mg base 2 99 "made_of" ["self", "row"] c_Span_made_of := by
  obtain ⟨fd, G, F⟩ := f_Span_made_of (P := P) (w := w) (base := base) t
  exact ⟨96, fd, G, t.cls 53, t.meth 92, F.bindsN fun _ _ _ _ _ _ us hl => match us, hl with | [_, _], _ => rfl⟩
theorem f_number_of (t : Tp K mg) : ∃ fd, FnOk P w K mg base CX0 1 28 fd ["bits"] (spD K c_number_of) ∧ FunD K d_number_of.name d_number_of.qual (defArgs s_number_of) (defBody s_number_of) (defScope s_number_of) d_number_of.dfl [] 28 fd := by
  obtain ⟨fd, F⟩ := t.def_ 0 (d := d_number_of)
  exact ⟨fd, w_number_of (tx t) F l_number_of k_number_of, F⟩
theorem g_number_of (t : Tp K mg) : FnK P w K mg base 1 "number_of" ["bits"] c_number_of := by
  obtain ⟨fd, G, F⟩ := f_number_of (P := P) (w := w) (base := base) t
  exact ⟨28, fd, G, t.glo 0, F.kp, F.bindsN fun _ _ _ _ _ _ us hl => match us, hl with | [_], _ => rfl⟩
theorem f_combined (t : Tp K mg) : ∃ fd, FnOk P w K mg base CX0 5 108 fd ["columns", "bits", "size"] (spD K c_combined) ∧ FunD K d_combined.name d_combined.qual (defArgs s_combined) (defBody s_combined) (defScope s_combined) d_combined.dfl [] 108 fd := by
  obtain ⟨fd, F⟩ := t.def_ 10 (d := d_combined)
  exact ⟨fd, w_combined (tx t) (k_Span1 t) (m_Span_made_of t) (g_number_of t) F l_combined k_combined, F⟩
theorem g_combined (t : Tp K mg) : FnK P w K mg base 5 "combined" ["columns", "bits", "size"] c_combined := by
  obtain ⟨fd, G, F⟩ := f_combined (P := P) (w := w) (base := base) t
  exact ⟨108, fd, G, t.glo 6, F.kp, F.bindsN fun _ _ _ _ _ _ us hl => match us, hl with | [_, _, _], _ => rfl⟩
theorem f_parity (t : Tp K mg) : ∃ fd, FnOk P w K mg base CX0 1 45 fd ["number"] (spD K c_parity) ∧ FunD K d_parity.name d_parity.qual (defArgs s_parity) (defBody s_parity) (defScope s_parity) d_parity.dfl [] 45 fd := by
  obtain ⟨fd, F⟩ := t.def_ 3 (d := d_parity)
  exact ⟨fd, w_parity (tx t) F l_parity k_parity, F⟩
theorem g_parity (t : Tp K mg) : FnK P w K mg base 1 "parity" ["number"] c_parity := by
  obtain ⟨fd, G, F⟩ := f_parity (P := P) (w := w) (base := base) t
  exact ⟨45, fd, G, t.glo 3, F.kp, F.bindsN fun _ _ _ _ _ _ us hl => match us, hl with | [_], _ => rfl⟩
theorem f_behind (t : Tp K mg) : ∃ fd, FnOk P w K mg base CX0 2 59 fd ["column", "rows"] (spD K c_behind) ∧ FunD K d_behind.name d_behind.qual (defArgs s_behind) (defBody s_behind) (defScope s_behind) d_behind.dfl [] 59 fd := by
  obtain ⟨fd, F⟩ := t.def_ 5 (d := d_behind)
  exact ⟨fd, w_behind (tx t) (g_parity t) F l_behind k_behind, F⟩
theorem g_behind (t : Tp K mg) : FnK P w K mg base 2 "behind" ["column", "rows"] c_behind := by
  obtain ⟨fd, G, F⟩ := f_behind (P := P) (w := w) (base := base) t
  exact ⟨59, fd, G, t.glo 5, F.kp, F.bindsN fun _ _ _ _ _ _ us hl => match us, hl with | [_, _], _ => rfl⟩
theorem f_Motion_looks_until (t : Tp K mg) : ∃ fd, FnOk P w K mg base CX0 3 837 fd ["self", "beats"] (spD K c_Motion_looks_until) ∧ FunD K d_Motion_looks_until.name d_Motion_looks_until.qual (defArgs s_Motion_looks_until) (defBody s_Motion_looks_until) (defScope s_Motion_looks_until) d_Motion_looks_until.dfl [] 837 fd := by
  obtain ⟨fd, F⟩ := t.def_ 17 (d := d_Motion_looks_until)
  exact ⟨fd, w_Motion_looks_until (tx t) (g_behind t) F l_Motion_looks_until k_Motion_looks_until, F⟩
theorem m_Motion_looks_until (t : Tp K mg) : MtK P w K mg base 3 840 "looks_until" ["self", "beats"] c_Motion_looks_until := by
  obtain ⟨fd, G, F⟩ := f_Motion_looks_until (P := P) (w := w) (base := base) t
  exact ⟨837, fd, G, t.cls 66, t.meth 93, F.bindsN fun _ _ _ _ _ _ us hl => match us, hl with | [_, _], _ => rfl⟩
theorem f_state_for (t : Tp K mg) : ∃ fd, FnOk P w K mg base CX0 6 961 fd ["motion", "beats", "bits"] (spD K c_state_for) ∧ FunD K d_state_for.name d_state_for.qual (defArgs s_state_for) (defBody s_state_for) (defScope s_state_for) d_state_for.dfl [] 961 fd := by
  obtain ⟨fd, F⟩ := t.def_ 23 (d := d_state_for)
  exact ⟨fd, w_state_for (tx t) (g_bits_of t) (g_places_of t) (g_combined t) (m_Motion_looks_until t) F l_state_for k_state_for, F⟩
theorem g_state_for (t : Tp K mg) : FnK P w K mg base 6 "state_for" ["motion", "beats", "bits"] c_state_for := by
  obtain ⟨fd, G, F⟩ := f_state_for (P := P) (w := w) (base := base) t
  exact ⟨961, fd, G, t.glo 14, F.kp, F.bindsN fun _ _ _ _ _ _ us hl => match us, hl with | [_, _, _], _ => rfl⟩
theorem f_twin_of (t : Tp K mg) : ∃ fd, FnOk P w K mg base CX0 7 985 fd ["one", "state", "other"] (spD K c_twin_of) ∧ FunD K d_twin_of.name d_twin_of.qual (defArgs s_twin_of) (defBody s_twin_of) (defScope s_twin_of) d_twin_of.dfl [] 985 fd := by
  obtain ⟨fd, F⟩ := t.def_ 27 (d := d_twin_of)
  exact ⟨fd, w_twin_of (tx t) (g_state_for t) (m_Motion_looks_until t) (g_parity t) F l_twin_of k_twin_of, F⟩
theorem g_twin_of (t : Tp K mg) : FnK P w K mg base 7 "twin_of" ["one", "state", "other"] c_twin_of := by
  obtain ⟨fd, G, F⟩ := f_twin_of (P := P) (w := w) (base := base) t
  exact ⟨985, fd, G, t.glo 18, F.kp, F.bindsN fun _ _ _ _ _ _ us hl => match us, hl with | [_, _, _], _ => rfl⟩
theorem f_Motion___init__ (t : Tp K mg) : ∃ fd, FnOk P w K mg base CX0 1 818 fd ["self", "moves", "drives", "shows", "direct"] (spD K c_Motion___init__) ∧ FunD K d_Motion___init__.name d_Motion___init__.qual (defArgs s_Motion___init__) (defBody s_Motion___init__) (defScope s_Motion___init__) d_Motion___init__.dfl [] 818 fd := by
  obtain ⟨fd, F⟩ := t.def_ 16 (d := d_Motion___init__)
  exact ⟨fd, w_Motion___init__ (tx t) F l_Motion___init__ k_Motion___init__, F⟩
theorem k_Motion4 (t : Tp K mg) : MkK P w K mg base 1 840 "Motion" ["self", "moves", "drives", "shows", "direct"] c_Motion___init__ [] [] := by
  obtain ⟨fd, G, F⟩ := f_Motion___init__ (P := P) (w := w) (base := base) t
  exact ⟨818, fd, [], G, t.mkr 67, t.glo 65, F.bindsN fun _ _ _ _ _ _ us hl => match us, hl with | [_, _, _, _, _], _ => rfl, .nil, fun _ => .nil, fun _ _ _ ⟨p, x, y, z, u, a, b, h⟩ => ⟨p, x, y, z, u, a, b, rfl, h⟩⟩
theorem f_motion_of (t : Tp K mg) : ∃ fd, FnOk P w K mg base CX0 3 849 fd ["table"] (spD K c_motion_of) ∧ FunD K d_motion_of.name d_motion_of.qual (defArgs s_motion_of) (defBody s_motion_of) (defScope s_motion_of) d_motion_of.dfl [] 849 fd := by
  obtain ⟨fd, F⟩ := t.def_ 18 (d := d_motion_of)
  exact ⟨fd, w_motion_of (tx t) (k_Motion4 t) (g_number_of t) F l_motion_of k_motion_of, F⟩
theorem g_motion_of (t : Tp K mg) : FnK P w K mg base 3 "motion_of" ["table"] c_motion_of := by
  obtain ⟨fd, G, F⟩ := f_motion_of (P := P) (w := w) (base := base) t
  exact ⟨849, fd, G, t.glo 11, F.kp, F.bindsN fun _ _ _ _ _ _ us hl => match us, hl with | [_], _ => rfl⟩
theorem f_Table___init__ (t : Tp K mg) : ∃ fd, FnOk P w K mg base CX0 1 792 fd ["self", "a", "b", "c", "d", "width"] (spD K c_Table___init__) ∧ FunD K d_Table___init__.name d_Table___init__.qual (defArgs s_Table___init__) (defBody s_Table___init__) (defScope s_Table___init__) d_Table___init__.dfl [] 792 fd := by
  obtain ⟨fd, F⟩ := t.def_ 15 (d := d_Table___init__)
  exact ⟨fd, w_Table___init__ (tx t) F l_Table___init__ k_Table___init__, F⟩
theorem k_Table5 (t : Tp K mg) : MkK P w K mg base 1 800 "Table" ["self", "a", "b", "c", "d", "width"] c_Table___init__ [] [] := by
  obtain ⟨fd, G, F⟩ := f_Table___init__ (P := P) (w := w) (base := base) t
  exact ⟨792, fd, [], G, t.mkr 59, t.glo 57, F.bindsN fun _ _ _ _ _ _ us hl => match us, hl with | [_, _, _, _, _, _], _ => rfl, .nil, fun _ => .nil, fun _ _ _ ⟨p, T, a, b, h⟩ => ⟨p, T, a, b, rfl, h⟩⟩
theorem f_Net_table (t : Tp K mg) : ∃ fd, FnOk P w K mg base CX0 3 922 fd ["self"] (spD K c_Net_table) ∧ FunD K d_Net_table.name d_Net_table.qual (defArgs s_Net_table) (defBody s_Net_table) (defScope s_Net_table) d_Net_table.dfl [] 922 fd := by
  obtain ⟨fd, F⟩ := t.def_ 22 (d := d_Net_table)
  exact ⟨fd, w_Net_table (tx t) (k_Table5 t) F l_Net_table k_Net_table, F⟩
theorem m_Net_table (t : Tp K mg) : MtK P w K mg base 3 952 "table" ["self"] c_Net_table := by
  obtain ⟨fd, G, F⟩ := f_Net_table (P := P) (w := w) (base := base) t
  exact ⟨922, fd, G, t.cls 73, t.meth 94, F.bindsN fun _ _ _ _ _ _ us hl => match us, hl with | [_], _ => rfl⟩
theorem k_FromAll2 (t : Tp K mg) : MkK P w K mg base 1 1004 "FromAll" ["self", "twins", "difference", "side", "against"] c_FromAll___init__ [V.non, V.ref 993] [D.non, D.tup [.non, .non]] := by
  obtain ⟨fd, G, F⟩ := f_FromAll___init__ (P := P) (w := w) (base := base) t
  obtain ⟨ds, v, b⟩ := FunD.binds1 (ps := ["self", "twins", "difference", "side", "against"]) F 3 1 (by intro h; cases h) (by rfl) fun _ _ _ _ _ _ _ us its hu hi => match us, its, hu, hi with | [_, _, _], [_, _, _], _, _ => ⟨_, rfl, rfl⟩
  exact ⟨1001, fd, ds, G, t.mkr 83, t.glo 81, b, v, fun Hc => (.cons .non (.cons (.tup (t.tup 110 Hc) (by decide) (.cons .non (.cons .non .nil))) .nil)), fun _ _ _ ⟨p, t, b, d, s, x, l, a, c, h⟩ => ⟨p, t, b, d, s, x, l, a, c, rfl, h⟩⟩
theorem f_times (t : Tp K mg) : ∃ fd, FnOk P w K mg base CX0 1 52 fd ["row", "rows"] (spD K c_times) ∧ FunD K d_times.name d_times.qual (defArgs s_times) (defBody s_times) (defScope s_times) d_times.dfl [] 52 fd := by
  obtain ⟨fd, F⟩ := t.def_ 4 (d := d_times)
  exact ⟨fd, w_times (tx t) F l_times k_times, F⟩
theorem g_times (t : Tp K mg) : FnK P w K mg base 1 "times" ["row", "rows"] c_times := by
  obtain ⟨fd, G, F⟩ := f_times (P := P) (w := w) (base := base) t
  exact ⟨52, fd, G, t.glo 4, F.kp, F.bindsN fun _ _ _ _ _ _ us hl => match us, hl with | [_, _], _ => rfl⟩
theorem f_shown (t : Tp K mg) : ∃ fd, FnOk P w K mg base CX0 2 859 fd ["motion", "state"] (spD K c_shown) ∧ FunD K d_shown.name d_shown.qual (defArgs s_shown) (defBody s_shown) (defScope s_shown) d_shown.dfl [] 859 fd := by
  obtain ⟨fd, F⟩ := t.def_ 20 (d := d_shown)
  exact ⟨fd, w_shown (tx t) (g_number_of t) (g_parity t) F l_shown k_shown, F⟩
theorem g_shown (t : Tp K mg) : FnK P w K mg base 2 "shown" ["motion", "state"] c_shown := by
  obtain ⟨fd, G, F⟩ := f_shown (P := P) (w := w) (base := base) t
  exact ⟨859, fd, G, t.glo 13, F.kp, F.bindsN fun _ _ _ _ _ _ us hl => match us, hl with | [_, _], _ => rfl⟩
theorem f_first_difference (t : Tp K mg) : ∃ fd, FnOk P w K mg base CX0 3 973 fd ["motion"] (spD K c_first_difference) ∧ FunD K d_first_difference.name d_first_difference.qual (defArgs s_first_difference) (defBody s_first_difference) (defScope s_first_difference) d_first_difference.dfl [] 973 fd := by
  obtain ⟨fd, F⟩ := t.def_ 25 (d := d_first_difference)
  exact ⟨fd, w_first_difference (tx t) (g_times t) (g_places_of t) (g_shown t) F l_first_difference k_first_difference, F⟩
theorem g_first_difference (t : Tp K mg) : FnK P w K mg base 3 "first_difference" ["motion"] c_first_difference := by
  obtain ⟨fd, G, F⟩ := f_first_difference (P := P) (w := w) (base := base) t
  exact ⟨973, fd, G, t.glo 16, F.kp, F.bindsN fun _ _ _ _ _ _ us hl => match us, hl with | [_], _ => rfl⟩
theorem f_paired (t : Tp K mg) : ∃ fd, FnOk P w K mg base CX0 3 854 fd ["one", "other"] (spD K c_paired) ∧ FunD K d_paired.name d_paired.qual (defArgs s_paired) (defBody s_paired) (defScope s_paired) d_paired.dfl [] 854 fd := by
  obtain ⟨fd, F⟩ := t.def_ 19 (d := d_paired)
  exact ⟨fd, w_paired (tx t) (k_Motion4 t) F l_paired k_paired, F⟩
theorem g_paired (t : Tp K mg) : FnK P w K mg base 3 "paired" ["one", "other"] c_paired := by
  obtain ⟨fd, G, F⟩ := f_paired (P := P) (w := w) (base := base) t
  exact ⟨854, fd, G, t.glo 12, F.kp, F.bindsN fun _ _ _ _ _ _ us hl => match us, hl with | [_, _], _ => rfl⟩
theorem f_check_frame (t : Tp K mg) : ∃ fd, FnOk P w K mg base CX0 1 968 fd ["one", "other"] (spD K c_check_frame) ∧ FunD K d_check_frame.name d_check_frame.qual (defArgs s_check_frame) (defBody s_check_frame) (defScope s_check_frame) d_check_frame.dfl [] 968 fd := by
  obtain ⟨fd, F⟩ := t.def_ 24 (d := d_check_frame)
  exact ⟨fd, w_check_frame (tx t) F l_check_frame k_check_frame, F⟩
theorem g_check_frame (t : Tp K mg) : FnK P w K mg base 1 "check_frame" ["one", "other"] c_check_frame := by
  obtain ⟨fd, G, F⟩ := f_check_frame (P := P) (w := w) (base := base) t
  exact ⟨968, fd, G, t.glo 15, F.kp, F.bindsN fun _ _ _ _ _ _ us hl => match us, hl with | [_, _], _ => rfl⟩
theorem f_both (t : Tp K mg) : ∃ fd, FnOk P w K mg base CX0 4 980 fd ["one", "other"] (spD K c_both) ∧ FunD K d_both.name d_both.qual (defArgs s_both) (defBody s_both) (defScope s_both) d_both.dfl [] 980 fd := by
  obtain ⟨fd, F⟩ := t.def_ 26 (d := d_both)
  exact ⟨fd, w_both (tx t) (g_paired t) (g_motion_of t) (m_Net_table t) (g_check_frame t) F l_both k_both, F⟩
theorem g_both (t : Tp K mg) : FnK P w K mg base 4 "both" ["one", "other"] c_both := by
  obtain ⟨fd, G, F⟩ := f_both (P := P) (w := w) (base := base) t
  exact ⟨980, fd, G, t.glo 17, F.kp, F.bindsN fun _ _ _ _ _ _ us hl => match us, hl with | [_, _], _ => rfl⟩
theorem f_from_all (t : Tp K mg) : ∃ fd, FnOk P w K mg base CX0 8 1015 fd ["one", "other"] (spD K c_from_all) ∧ FunD K d_from_all.name d_from_all.qual (defArgs s_from_all) (defBody s_from_all) (defScope s_from_all) d_from_all.dfl [] 1015 fd := by
  obtain ⟨fd, F⟩ := t.def_ 29 (d := d_from_all)
  exact ⟨fd, w_from_all (tx t) (k_FromAll1 t) (k_FromAll4 t) (g_bits_of t) (g_twin_of t) (g_motion_of t) (m_Net_table t) (k_FromAll2 t) (g_first_difference t) (g_both t) F l_from_all k_from_all, F⟩
theorem g_from_all (t : Tp K mg) : FnK P w K mg base 8 "from_all" ["one", "other"] c_from_all := by
  obtain ⟨fd, G, F⟩ := f_from_all (P := P) (w := w) (base := base) t
  exact ⟨1015, fd, G, t.glo 19, F.kp, F.bindsN fun _ _ _ _ _ _ us hl => match us, hl with | [_, _], _ => rfl⟩
theorem k_Span0 (t : Tp K mg) : MkK P w K mg base 3 99 "Span" ["self", "rows"] c_Span___init__ [V.ref 67] [D.tup []] := by
  obtain ⟨fd, G, F⟩ := f_Span___init__ (P := P) (w := w) (base := base) t
  obtain ⟨ds, v, b⟩ := FunD.binds1 (ps := ["self", "rows"]) F 1 0 (by intro h; cases h) (by rfl) fun _ _ _ _ _ _ _ us its hu hi => match us, its, hu, hi with | [_], [_], _, _ => ⟨_, rfl, rfl⟩
  exact ⟨75, fd, ds, G, t.mkr 54, t.glo 52, b, v, fun Hc => (.cons (.tup (t.tup 109 Hc) (by decide) .nil) .nil), fun _ _ _ ⟨p, n, r, s, a, b, c, d, h⟩ => ⟨p, n, r, s, a, b, c, d, fun q k u v z => ⟨rfl, h q k u v z⟩⟩⟩
theorem f_check_settled (t : Tp K mg) : ∃ fd, FnOk P w K mg base CX0 5 770 fd ["sums", "equations"] (spD K c_check_settled) ∧ FunD K d_check_settled.name d_check_settled.qual (defArgs s_check_settled) (defBody s_check_settled) (defScope s_check_settled) d_check_settled.dfl [] 770 fd := by
  obtain ⟨fd, F⟩ := t.def_ 13 (d := d_check_settled)
  exact ⟨fd, w_check_settled (tx t) (m_Span_put t) (g_number_of t) (k_Span0 t) F l_check_settled k_check_settled, F⟩
theorem g_check_settled (t : Tp K mg) : FnK P w K mg base 5 "check_settled" ["sums", "equations"] c_check_settled := by
  obtain ⟨fd, G, F⟩ := f_check_settled (P := P) (w := w) (base := base) t
  exact ⟨770, fd, G, t.glo 9, F.kp, F.bindsN fun _ _ _ _ _ _ us hl => match us, hl with | [_, _], _ => rfl⟩
theorem f_equation_of (t : Tp K mg) : ∃ fd, FnOk P w K mg base CX0 1 765 fd ["at", "wire"] (spD K c_equation_of) ∧ FunD K d_equation_of.name d_equation_of.qual (defArgs s_equation_of) (defBody s_equation_of) (defScope s_equation_of) d_equation_of.dfl [] 765 fd := by
  obtain ⟨fd, F⟩ := t.def_ 12 (d := d_equation_of)
  exact ⟨fd, w_equation_of (tx t) F l_equation_of k_equation_of, F⟩
theorem g_equation_of (t : Tp K mg) : FnK P w K mg base 1 "equation_of" ["at", "wire"] c_equation_of := by
  obtain ⟨fd, G, F⟩ := f_equation_of (P := P) (w := w) (base := base) t
  exact ⟨765, fd, G, t.glo 8, F.kp, F.bindsN fun _ _ _ _ _ _ us hl => match us, hl with | [_, _], _ => rfl⟩
theorem f_settled (t : Tp K mg) : ∃ fd, FnOk P w K mg base CX0 6 775 fd ["wires"] (spD K c_settled) ∧ FunD K d_settled.name d_settled.qual (defArgs s_settled) (defBody s_settled) (defScope s_settled) d_settled.dfl [] 775 fd := by
  obtain ⟨fd, F⟩ := t.def_ 14 (d := d_settled)
  exact ⟨fd, w_settled (tx t) (g_places_of t) (m_Span_made_of t) (k_Span1 t) (g_check_settled t) (g_equation_of t) F l_settled k_settled, F⟩
theorem g_settled (t : Tp K mg) : FnK P w K mg base 6 "settled" ["wires"] c_settled := by
  obtain ⟨fd, G, F⟩ := f_settled (P := P) (w := w) (base := base) t
  exact ⟨775, fd, G, t.glo 10, F.kp, F.bindsN fun _ _ _ _ _ _ us hl => match us, hl with | [_], _ => rfl⟩
theorem f_check_wires (t : Tp K mg) : ∃ fd, FnOk P w K mg base CX0 1 758 fd ["wires", "outs"] (spD K c_check_wires) ∧ FunD K d_check_wires.name d_check_wires.qual (defArgs s_check_wires) (defBody s_check_wires) (defScope s_check_wires) d_check_wires.dfl [] 758 fd := by
  obtain ⟨fd, F⟩ := t.def_ 11 (d := d_check_wires)
  exact ⟨fd, w_check_wires (tx t) F l_check_wires k_check_wires, F⟩
theorem g_check_wires (t : Tp K mg) : FnK P w K mg base 1 "check_wires" ["wires", "outs"] c_check_wires := by
  obtain ⟨fd, G, F⟩ := f_check_wires (P := P) (w := w) (base := base) t
  exact ⟨758, fd, G, t.glo 7, F.kp, F.bindsN fun _ _ _ _ _ _ us hl => match us, hl with | [_, _], _ => rfl⟩
theorem f_Net___init__ (t : Tp K mg) : ∃ fd, FnOk P w K mg base CX0 7 893 fd ["self", "wires", "outs"] (spD K c_Net___init__) ∧ FunD K d_Net___init__.name d_Net___init__.qual (defArgs s_Net___init__) (defBody s_Net___init__) (defScope s_Net___init__) d_Net___init__.dfl [] 893 fd := by
  obtain ⟨fd, F⟩ := t.def_ 21 (d := d_Net___init__)
  exact ⟨fd, w_Net___init__ (tx t) (g_settled t) (g_check_wires t) F l_Net___init__ k_Net___init__, F⟩
theorem k_Net2 (t : Tp K mg) : MkK P w K mg base 7 952 "Net" ["self", "wires", "outs"] c_Net___init__ [] [] := by
  obtain ⟨fd, G, F⟩ := f_Net___init__ (P := P) (w := w) (base := base) t
  exact ⟨893, fd, [], G, t.mkr 74, t.glo 72, F.bindsN fun _ _ _ _ _ _ us hl => match us, hl with | [_, _, _], _ => rfl, .nil, fun _ => .nil, fun _ _ _ ⟨p, W, o, a, b, c, h⟩ => ⟨p, W, o, a, b, c, fun f z => ⟨rfl, h f z⟩⟩⟩
theorem f__law_places (t : Tp K mg) : ∃ fd, FnOk P w K mg base CX0 1 1027 fd ["_law_wires_here", "_law_kind"] (spD K c__law_places) ∧ FunD K d__law_places.name d__law_places.qual (defArgs s__law_places) (defBody s__law_places) (defScope s__law_places) d__law_places.dfl [] 1027 fd := by
  obtain ⟨fd, F⟩ := t.def_ 31 (d := d__law_places)
  exact ⟨fd, w__law_places (tx t) F l__law_places k__law_places, F⟩
theorem g__law_places (t : Tp K mg) : FnK P w K mg base 1 "_law_places" ["_law_wires_here", "_law_kind"] c__law_places := by
  obtain ⟨fd, G, F⟩ := f__law_places (P := P) (w := w) (base := base) t
  exact ⟨1027, fd, G, t.glo 21, F.kp, F.bindsN fun _ _ _ _ _ _ us hl => match us, hl with | [_, _], _ => rfl⟩
theorem f__law_bits (t : Tp K mg) : ∃ fd, FnOk P w K mg base CX0 2 1052 fd ["_law_wires_here", "_law_known"] (spD K c__law_bits) ∧ FunD K d__law_bits.name d__law_bits.qual (defArgs s__law_bits) (defBody s__law_bits) (defScope s__law_bits) d__law_bits.dfl [] 1052 fd := by
  obtain ⟨fd, F⟩ := t.def_ 36 (d := d__law_bits)
  exact ⟨fd, w__law_bits (tx t) (g__law_places t) F l__law_bits k__law_bits, F⟩
theorem g__law_bits (t : Tp K mg) : FnK P w K mg base 2 "_law_bits" ["_law_wires_here", "_law_known"] c__law_bits := by
  obtain ⟨fd, G, F⟩ := f__law_bits (P := P) (w := w) (base := base) t
  exact ⟨1052, fd, G, t.glo 26, F.kp, F.bindsN fun _ _ _ _ _ _ us hl => match us, hl with | [_, _], _ => rfl⟩
theorem f__law_units (t : Tp K mg) : ∃ fd, FnOk P w K mg base CX0 3 1057 fd ["_law_wires_here", "_law_outs", "_law_kind"] (spD K c__law_units) ∧ FunD K d__law_units.name d__law_units.qual (defArgs s__law_units) (defBody s__law_units) (defScope s__law_units) d__law_units.dfl [] 1057 fd := by
  obtain ⟨fd, F⟩ := t.def_ 37 (d := d__law_units)
  exact ⟨fd, w__law_units (tx t) (g__law_places t) (g__law_bits t) F l__law_units k__law_units, F⟩
theorem g__law_units (t : Tp K mg) : FnK P w K mg base 3 "_law_units" ["_law_wires_here", "_law_outs", "_law_kind"] c__law_units := by
  obtain ⟨fd, G, F⟩ := f__law_units (P := P) (w := w) (base := base) t
  exact ⟨1057, fd, G, t.glo 27, F.kp, F.bindsN fun _ _ _ _ _ _ us hl => match us, hl with | [_, _, _], _ => rfl⟩
theorem f__law_tables (t : Tp K mg) : ∃ fd, FnOk P w K mg base CX0 4 1064 fd ["_law_wires_here", "_law_outs"] (spD K c__law_tables) ∧ FunD K d__law_tables.name d__law_tables.qual (defArgs s__law_tables) (defBody s__law_tables) (defScope s__law_tables) d__law_tables.dfl [] 1064 fd := by
  obtain ⟨fd, F⟩ := t.def_ 38 (d := d__law_tables)
  exact ⟨fd, w__law_tables (tx t) (g__law_units t) F l__law_tables k__law_tables, F⟩
theorem g__law_tables (t : Tp K mg) : FnK P w K mg base 4 "_law_tables" ["_law_wires_here", "_law_outs"] c__law_tables := by
  obtain ⟨fd, G, F⟩ := f__law_tables (P := P) (w := w) (base := base) t
  exact ⟨1064, fd, G, t.glo 28, F.kp, F.bindsN fun _ _ _ _ _ _ us hl => match us, hl with | [_, _], _ => rfl⟩
theorem f__law_draw (t : Tp K mg) : ∃ fd, FnOk P w K mg base CX0 1 1022 fd ["_law_pen", "_law_many"] (spD K c__law_draw) ∧ FunD K d__law_draw.name d__law_draw.qual (defArgs s__law_draw) (defBody s__law_draw) (defScope s__law_draw) d__law_draw.dfl [] 1022 fd := by
  obtain ⟨fd, F⟩ := t.def_ 30 (d := d__law_draw)
  exact ⟨fd, w__law_draw (tx t) F l__law_draw k__law_draw, F⟩
theorem g__law_draw (t : Tp K mg) : FnK P w K mg base 1 "_law_draw" ["_law_pen", "_law_many"] c__law_draw := by
  obtain ⟨fd, G, F⟩ := f__law_draw (P := P) (w := w) (base := base) t
  exact ⟨1022, fd, G, t.glo 20, F.kp, F.bindsN fun _ _ _ _ _ _ us hl => match us, hl with | [_, _], _ => rfl⟩
theorem f__law_wired (t : Tp K mg) : ∃ fd, FnOk P w K mg base CX0 1 1105 fd ["_law_tables_here", "_law_first_here", "_law_spare"] (spD K c__law_wired) ∧ FunD K d__law_wired.name d__law_wired.qual (defArgs s__law_wired) (defBody s__law_wired) (defScope s__law_wired) d__law_wired.dfl [] 1105 fd := by
  obtain ⟨fd, F⟩ := t.def_ 45 (d := d__law_wired)
  exact ⟨fd, w__law_wired (tx t) F l__law_wired k__law_wired, F⟩
theorem g__law_wired (t : Tp K mg) : FnK P w K mg base 1 "_law_wired" ["_law_tables_here", "_law_first_here", "_law_spare"] c__law_wired := by
  obtain ⟨fd, G, F⟩ := f__law_wired (P := P) (w := w) (base := base) t
  exact ⟨1105, fd, G, t.glo 35, F.kp, F.bindsN fun _ _ _ _ _ _ us hl => match us, hl with | [_, _, _], _ => rfl⟩
theorem f__law_turned (t : Tp K mg) : ∃ fd, FnOk P w K mg base CX0 2 1100 fd ["_law_pen", "_law_parts"] (spD K c__law_turned) ∧ FunD K d__law_turned.name d__law_turned.qual (defArgs s__law_turned) (defBody s__law_turned) (defScope s__law_turned) d__law_turned.dfl [] 1100 fd := by
  obtain ⟨fd, F⟩ := t.def_ 44 (d := d__law_turned)
  exact ⟨fd, w__law_turned (tx t) (g__law_draw t) (g__law_added t) F l__law_turned k__law_turned, F⟩
theorem g__law_turned (t : Tp K mg) : FnK P w K mg base 2 "_law_turned" ["_law_pen", "_law_parts"] c__law_turned := by
  obtain ⟨fd, G, F⟩ := f__law_turned (P := P) (w := w) (base := base) t
  exact ⟨1100, fd, G, t.glo 34, F.kp, F.bindsN fun _ _ _ _ _ _ us hl => match us, hl with | [_, _], _ => rfl⟩
theorem f__law_ghost (t : Tp K mg) : ∃ fd, FnOk P w K mg base CX0 2 1110 fd ["_law_pen", "_law_a", "_law_b", "_law_c", "_law_first_here", "_law_many"] (spD K c__law_ghost) ∧ FunD K d__law_ghost.name d__law_ghost.qual (defArgs s__law_ghost) (defBody s__law_ghost) (defScope s__law_ghost) d__law_ghost.dfl [] 1110 fd := by
  obtain ⟨fd, F⟩ := t.def_ 46 (d := d__law_ghost)
  exact ⟨fd, w__law_ghost (tx t) (g__law_draw t) F l__law_ghost k__law_ghost, F⟩
theorem g__law_ghost (t : Tp K mg) : FnK P w K mg base 2 "_law_ghost" ["_law_pen", "_law_a", "_law_b", "_law_c", "_law_first_here", "_law_many"] c__law_ghost := by
  obtain ⟨fd, G, F⟩ := f__law_ghost (P := P) (w := w) (base := base) t
  exact ⟨1110, fd, G, t.glo 36, F.kp, F.bindsN fun _ _ _ _ _ _ us hl => match us, hl with | [_, _, _, _, _, _], _ => rfl⟩
theorem f__law_first (t : Tp K mg) : ∃ fd, FnOk P w K mg base CX0 2 1069 fd ["_law_wires_here"] (spD K c__law_first) ∧ FunD K d__law_first.name d__law_first.qual (defArgs s__law_first) (defBody s__law_first) (defScope s__law_first) d__law_first.dfl [] 1069 fd := by
  obtain ⟨fd, F⟩ := t.def_ 39 (d := d__law_first)
  exact ⟨fd, w__law_first (tx t) (g__law_places t) F l__law_first k__law_first, F⟩
theorem g__law_first (t : Tp K mg) : FnK P w K mg base 2 "_law_first" ["_law_wires_here"] c__law_first := by
  obtain ⟨fd, G, F⟩ := f__law_first (P := P) (w := w) (base := base) t
  exact ⟨1069, fd, G, t.glo 29, F.kp, F.bindsN fun _ _ _ _ _ _ us hl => match us, hl with | [_], _ => rfl⟩
theorem f__law_flips (t : Tp K mg) : ∃ fd, FnOk P w K mg base CX0 2 1037 fd ["_law_wires_here"] (spD K c__law_flips) ∧ FunD K d__law_flips.name d__law_flips.qual (defArgs s__law_flips) (defBody s__law_flips) (defScope s__law_flips) d__law_flips.dfl [] 1037 fd := by
  obtain ⟨fd, F⟩ := t.def_ 33 (d := d__law_flips)
  exact ⟨fd, w__law_flips (tx t) (g__law_places t) F l__law_flips k__law_flips, F⟩
theorem g__law_flips (t : Tp K mg) : FnK P w K mg base 2 "_law_flips" ["_law_wires_here"] c__law_flips := by
  obtain ⟨fd, G, F⟩ := f__law_flips (P := P) (w := w) (base := base) t
  exact ⟨1037, fd, G, t.glo 23, F.kp, F.bindsN fun _ _ _ _ _ _ us hl => match us, hl with | [_], _ => rfl⟩
theorem f__law_settled (t : Tp K mg) : ∃ fd, FnOk P w K mg base CX0 3 1042 fd ["_law_wires_here"] (spD K c__law_settled) ∧ FunD K d__law_settled.name d__law_settled.qual (defArgs s__law_settled) (defBody s__law_settled) (defScope s__law_settled) d__law_settled.dfl [] 1042 fd := by
  obtain ⟨fd, F⟩ := t.def_ 34 (d := d__law_settled)
  exact ⟨fd, w__law_settled (tx t) (g__law_flips t) F l__law_settled k__law_settled, F⟩
theorem g__law_settled (t : Tp K mg) : FnK P w K mg base 3 "_law_settled" ["_law_wires_here"] c__law_settled := by
  obtain ⟨fd, G, F⟩ := f__law_settled (P := P) (w := w) (base := base) t
  exact ⟨1042, fd, G, t.glo 24, F.kp, F.bindsN fun _ _ _ _ _ _ us hl => match us, hl with | [_], _ => rfl⟩
theorem f__law_wires (t : Tp K mg) : ∃ fd, FnOk P w K mg base CX0 2 1032 fd ["_law_pen", "_law_counts"] (spD K c__law_wires) ∧ FunD K d__law_wires.name d__law_wires.qual (defArgs s__law_wires) (defBody s__law_wires) (defScope s__law_wires) d__law_wires.dfl [] 1032 fd := by
  obtain ⟨fd, F⟩ := t.def_ 32 (d := d__law_wires)
  exact ⟨fd, w__law_wires (tx t) (g__law_draw t) F l__law_wires k__law_wires, F⟩
theorem g__law_wires (t : Tp K mg) : FnK P w K mg base 2 "_law_wires" ["_law_pen", "_law_counts"] c__law_wires := by
  obtain ⟨fd, G, F⟩ := f__law_wires (P := P) (w := w) (base := base) t
  exact ⟨1032, fd, G, t.glo 22, F.kp, F.bindsN fun _ _ _ _ _ _ us hl => match us, hl with | [_, _], _ => rfl⟩
theorem f__law_net (t : Tp K mg) : ∃ fd, FnOk P w K mg base CX0 4 1047 fd ["_law_pen", "_law_counts", "_law_many"] (spD K c__law_net) ∧ FunD K d__law_net.name d__law_net.qual (defArgs s__law_net) (defBody s__law_net) (defScope s__law_net) d__law_net.dfl [] 1047 fd := by
  obtain ⟨fd, F⟩ := t.def_ 35 (d := d__law_net)
  exact ⟨fd, w__law_net (tx t) (g__law_draw t) (g__law_settled t) (g__law_wires t) F l__law_net k__law_net, F⟩
theorem g__law_net (t : Tp K mg) : FnK P w K mg base 4 "_law_net" ["_law_pen", "_law_counts", "_law_many"] c__law_net := by
  obtain ⟨fd, G, F⟩ := f__law_net (P := P) (w := w) (base := base) t
  exact ⟨1047, fd, G, t.glo 25, F.kp, F.bindsN fun _ _ _ _ _ _ us hl => match us, hl with | [_, _, _], _ => rfl⟩
theorem f__law_other (t : Tp K mg) : ∃ fd, FnOk P w K mg base CX0 5 1115 fd ["_law_pen", "_law_wires_here", "_law_outs"] (spD K c__law_other) ∧ FunD K d__law_other.name d__law_other.qual (defArgs s__law_other) (defBody s__law_other) (defScope s__law_other) d__law_other.dfl [] 1115 fd := by
  obtain ⟨fd, F⟩ := t.def_ 47 (d := d__law_other)
  exact ⟨fd, w__law_other (tx t) (g__law_wired t) (g__law_draw t) (g__law_turned t) (g__law_ghost t) (g__law_first t) (g__law_tables t) (g__law_net t) (g__law_places t) F l__law_other k__law_other, F⟩
theorem g__law_other (t : Tp K mg) : FnK P w K mg base 5 "_law_other" ["_law_pen", "_law_wires_here", "_law_outs"] c__law_other := by
  obtain ⟨fd, G, F⟩ := f__law_other (P := P) (w := w) (base := base) t
  exact ⟨1115, fd, G, t.glo 37, F.kp, F.bindsN fun _ _ _ _ _ _ us hl => match us, hl with | [_, _, _], _ => rfl⟩
theorem f__law_companion (t : Tp K mg) : ∃ fd, FnOk P w K mg base CX0 1 1132 fd ["_law_below", "_law_size", "_law_first_here"] (spD K c__law_companion) ∧ FunD K d__law_companion.name d__law_companion.qual (defArgs s__law_companion) (defBody s__law_companion) (defScope s__law_companion) d__law_companion.dfl [] 1132 fd := by
  obtain ⟨fd, F⟩ := t.def_ 50 (d := d__law_companion)
  exact ⟨fd, w__law_companion (tx t) F l__law_companion k__law_companion, F⟩
theorem g__law_companion (t : Tp K mg) : FnK P w K mg base 1 "_law_companion" ["_law_below", "_law_size", "_law_first_here"] c__law_companion := by
  obtain ⟨fd, G, F⟩ := f__law_companion (P := P) (w := w) (base := base) t
  exact ⟨1132, fd, G, t.glo 40, F.kp, F.bindsN fun _ _ _ _ _ _ us hl => match us, hl with | [_, _, _], _ => rfl⟩
theorem f__law_flow (t : Tp K mg) : ∃ fd, FnOk P w K mg base CX0 1 1137 fd ["_law_below", "_law_first_here", "_law_beats"] (spD K c__law_flow) ∧ FunD K d__law_flow.name d__law_flow.qual (defArgs s__law_flow) (defBody s__law_flow) (defScope s__law_flow) d__law_flow.dfl [] 1137 fd := by
  obtain ⟨fd, F⟩ := t.def_ 51 (d := d__law_flow)
  exact ⟨fd, w__law_flow (tx t) F l__law_flow k__law_flow, F⟩
theorem g__law_flow (t : Tp K mg) : FnK P w K mg base 1 "_law_flow" ["_law_below", "_law_first_here", "_law_beats"] c__law_flow := by
  obtain ⟨fd, G, F⟩ := f__law_flow (P := P) (w := w) (base := base) t
  exact ⟨1137, fd, G, t.glo 41, F.kp, F.bindsN fun _ _ _ _ _ _ us hl => match us, hl with | [_, _, _], _ => rfl⟩
theorem f__law_quiet_pair (t : Tp K mg) : ∃ fd, FnOk P w K mg base CX0 2 1142 fd ["_law_below", "_law_size", "_law_more", "_law_wide"] (spD K c__law_quiet_pair) ∧ FunD K d__law_quiet_pair.name d__law_quiet_pair.qual (defArgs s__law_quiet_pair) (defBody s__law_quiet_pair) (defScope s__law_quiet_pair) d__law_quiet_pair.dfl [] 1142 fd := by
  obtain ⟨fd, F⟩ := t.def_ 52 (d := d__law_quiet_pair)
  exact ⟨fd, w__law_quiet_pair (tx t) (g__law_companion t) (g__law_flow t) F l__law_quiet_pair k__law_quiet_pair, F⟩
theorem g__law_quiet_pair (t : Tp K mg) : FnK P w K mg base 2 "_law_quiet_pair" ["_law_below", "_law_size", "_law_more", "_law_wide"] c__law_quiet_pair := by
  obtain ⟨fd, G, F⟩ := f__law_quiet_pair (P := P) (w := w) (base := base) t
  exact ⟨1142, fd, G, t.glo 42, F.kp, F.bindsN fun _ _ _ _ _ _ us hl => match us, hl with | [_, _, _, _], _ => rfl⟩
theorem f__law_times (t : Tp K mg) : ∃ fd, FnOk P w K mg base CX0 1 1122 fd ["_law_one", "_law_other_here"] (spD K c__law_times) ∧ FunD K d__law_times.name d__law_times.qual (defArgs s__law_times) (defBody s__law_times) (defScope s__law_times) d__law_times.dfl [] 1122 fd := by
  obtain ⟨fd, F⟩ := t.def_ 48 (d := d__law_times)
  exact ⟨fd, w__law_times (tx t) F l__law_times k__law_times, F⟩
theorem g__law_times (t : Tp K mg) : FnK P w K mg base 1 "_law_times" ["_law_one", "_law_other_here"] c__law_times := by
  obtain ⟨fd, G, F⟩ := f__law_times (P := P) (w := w) (base := base) t
  exact ⟨1122, fd, G, t.glo 38, F.kp, F.bindsN fun _ _ _ _ _ _ us hl => match us, hl with | [_, _], _ => rfl⟩
theorem f__law_ring (t : Tp K mg) : ∃ fd, FnOk P w K mg base CX0 1 1127 fd ["_law_above", "_law_below", "_law_size"] (spD K c__law_ring) ∧ FunD K d__law_ring.name d__law_ring.qual (defArgs s__law_ring) (defBody s__law_ring) (defScope s__law_ring) d__law_ring.dfl [] 1127 fd := by
  obtain ⟨fd, F⟩ := t.def_ 49 (d := d__law_ring)
  exact ⟨fd, w__law_ring (tx t) F l__law_ring k__law_ring, F⟩
theorem g__law_ring (t : Tp K mg) : FnK P w K mg base 1 "_law_ring" ["_law_above", "_law_below", "_law_size"] c__law_ring := by
  obtain ⟨fd, G, F⟩ := f__law_ring (P := P) (w := w) (base := base) t
  exact ⟨1127, fd, G, t.glo 39, F.kp, F.bindsN fun _ _ _ _ _ _ us hl => match us, hl with | [_, _, _], _ => rfl⟩
theorem f__law_late_pair (t : Tp K mg) : ∃ fd, FnOk P w K mg base CX0 3 1149 fd ["_law_pen"] (spD K c__law_late_pair) ∧ FunD K d__law_late_pair.name d__law_late_pair.qual (defArgs s__law_late_pair) (defBody s__law_late_pair) (defScope s__law_late_pair) d__law_late_pair.dfl [] 1149 fd := by
  obtain ⟨fd, F⟩ := t.def_ 53 (d := d__law_late_pair)
  exact ⟨fd, w__law_late_pair (tx t) (g__law_quiet_pair t) (g__law_times t) (g__law_ring t) (g__law_draw t) F l__law_late_pair k__law_late_pair, F⟩
theorem g__law_late_pair (t : Tp K mg) : FnK P w K mg base 3 "_law_late_pair" ["_law_pen"] c__law_late_pair := by
  obtain ⟨fd, G, F⟩ := f__law_late_pair (P := P) (w := w) (base := base) t
  exact ⟨1149, fd, G, t.glo 43, F.kp, F.bindsN fun _ _ _ _ _ _ us hl => match us, hl with | [_], _ => rfl⟩
theorem f__law_pair (t : Tp K mg) : ∃ fd, FnOk P w K mg base CX0 6 1156 fd ["_law_pen"] (spD K c__law_pair) ∧ FunD K d__law_pair.name d__law_pair.qual (defArgs s__law_pair) (defBody s__law_pair) (defScope s__law_pair) d__law_pair.dfl [] 1156 fd := by
  obtain ⟨fd, F⟩ := t.def_ 54 (d := d__law_pair)
  exact ⟨fd, w__law_pair (tx t) (g__law_draw t) (g__law_other t) (g__law_net t) (g__law_late_pair t) F l__law_pair k__law_pair, F⟩
theorem g__law_pair (t : Tp K mg) : FnK P w K mg base 6 "_law_pair" ["_law_pen"] c__law_pair := by
  obtain ⟨fd, G, F⟩ := f__law_pair (P := P) (w := w) (base := base) t
  exact ⟨1156, fd, G, t.glo 44, F.kp, F.bindsN fun _ _ _ _ _ _ us hl => match us, hl with | [_], _ => rfl⟩
theorem f_law (t : Tp K mg) : ∃ fd, FnOk P w K mg base CX0 9 1193 fd ["_law_script"] (spD K c_law) ∧ FunD K d_law.name d_law.qual (defArgs s_law) (defBody s_law) (defScope s_law) d_law.dfl [] 1193 fd := by
  obtain ⟨fd, F⟩ := t.def_ 61 (d := d_law)
  exact ⟨fd, w_law (tx t) (g__law_against t) (g__law_bare t) (g__law_twins t) (g__law_runs t) (g__law_difference t) (g_from_all t) (k_Net2 t) (g__law_tables t) (g__law_pair t) F l_law k_law, F⟩
end
end BB
open PySem PySem.W PySem.Calls PyProof.Rows
theorem PySem.Challenge.cw_bitsback_k78_whole_alike_from_all_holds : PySem.Challenge.rw_bitsback_k78_whole_alike_from_all.Holds := by
  w_on; o_law
  refine HandSHeadRun.head_any (r := OpenLaw.row PySem.Challenge.rw_bitsback_k78_whole_alike_from_all) (q := view (OpenLaw.row PySem.Challenge.rw_bitsback_k78_whole_alike_from_all).prog [103]) (H := BB.hk) (ob := BB.ob) (M := 20000) (loose := BB.nm) (d := HandSHeadRun.topDef (OpenLaw.row PySem.Challenge.rw_bitsback_k78_whole_alike_from_all).prog 103) (kwd := []) BB.ob_eq
    (by kernel_rfl) (fun s => by kernel_rfl) BB.run (by kernel_rfl) (by kernel_rfl) (by kernel_rfl) (by rfl) (by first | assumption | decide +kernel) (by decide +kernel) ⟨rfl, rfl, rfl, rfl, rfl, by decide +kernel⟩ ?hw ?hc
  case hw => w_witness2
  case hc =>
    refine L2.walk_ofE (l := PySem.Challenge.rw_bitsback_k78_whole_alike_from_all) (n := 63) (k := 9) (x := "_law_script") (CX := L2.CX0) rfl (by decide) (by kernel_rfl) ⟨rfl, by decide, by decide⟩ ?F (fun _ _ _ _ z => z)
    intro w mg fa h Y G hmg0
    obtain ⟨K, KX, c⟩ := Y
    have t : BB.Tp K mg := ⟨h, KX, G, c⟩
    have hmg : mg ("law" : PySem.Str) = some (.ref fa) := by
      have e : (HandSHeadRun.topDef (OpenLaw.row PySem.Challenge.rw_bitsback_k78_whole_alike_from_all).prog 103).name = ("law" : PySem.Str) := by kernel_rfl
      rw [← e]
      exact hmg0
    have e := hmg.symm.trans (t.glo 51 (x := "law") (a := 1193))
    cases e
    obtain ⟨fd, F⟩ := t.def_ 61 (d := BB.d_law)
    have hb := L2.FunD.bindsA (ps := ["_law_script"]) F fun _ _ _ _ _ _ us hl => match us, hl with | [_], _ => rfl
    refine ⟨K, fd, DL.spD K BB.c_law, KX, fun s v => hb s [v] rfl, fun H a ns hl _ hS => ?_, fun base _ _ => BB.w_law (BB.tx t) (BB.g__law_against t) (BB.g__law_bare t) (BB.g__law_twins t) (BB.g__law_runs t) (BB.g__law_difference t) (BB.g_from_all t) (BB.k_Net2 t) (BB.g__law_tables t) (BB.g__law_pair t) F BB.l_law BB.k_law⟩
    exact ⟨[.scr ns], H, fun _ => none, fun _ => none, fun d _ => d = .bl true, .cons (.scr hS hl) .nil, ⟨fun _ _ e => e, fun _ _ e => (nomatch e), fun _ _ e => (nomatch e), fun _ _ e => (nomatch e)⟩, ⟨ns, rfl, hl, fun _ => rfl⟩, fun d M' v Hc' H' e _ _ r => by subst e; cases r; rfl⟩
